import PyProof.Rows.All
import Wide.All
import OpenK.AllK
import Wide.FinOn
import HandS.ForMost
import HandS.ForExc
import HandS.Wide
import HandS.IsInst
import HandS.Style
import HandS.Flow
import HandS.Conv
import HandS.Defaults
import HandS.Head0
import HandS.Head1
import HandS.Head2
import HandS.HeadEnd
import HandS.HeadHook1
import HandS.HeadHook2
import HandS.EndBits
import HandS.ExcInit
import HandS.ExcField
import HandS.ExcOwn
import HandS.ExcIs
import HandS.TryOnly
import HandS.WordsExc
import HandS.ClsMeth
import HandS.HeadNt
import HandS.Steps
import HandS.Zip
import HandS.Walk
import HandS.Small
import HandS.NoneIn
import HandS.TryMany
import HandS.TupAny
import HandS.SortInts
import HandS.SetKeys
import HandS.Iter
import PyProof.DictMoreH
import HandS.DictTup
import HandS.TupLen
import HandS.Strs
import HandS.HotCalls
import HandS.CallSlots
import KE.GoesMore
import KE.DataFind
import HandS.SetFor
import KE.GoesZip
import KE.GoesMore
import KE.GoesEnum
import PySem.Challenge.RW_rootprime_k69_whole_roots_by_great_prime

set_option Elab.async false
set_option linter.all false
set_option maxRecDepth 100000
set_option maxHeartbeats 4000000
set_option exponentiation.threshold 5000

namespace R
open PySem PySem.Spec PyProof.Rows L2
/-! steps of a reading -/
section
variable {t u : TS} {D : Ends} {σ : L2.St} {H : Hp} {Q : VK} {te ta tb : TE} {g : TG} {i j : Nat} {v x y : V} {r : R2} {c c' : TT} {tl : TA} {QL : List V → Hp → Prop} {QB : Bool → Hp → Prop} {QS : L2.St → Hp → Prop} {a b : Int} {C : Int → Int → Prop} {f : Int → Int → V}
theorem s_seq (h : t { D with nx := u D } σ H) : tSeq t u D σ H := h
theorem s_asg (h : te σ H fun x H1 => g x σ H1 D.nx) : tAsg te g D σ H := h
theorem s_drop (h : te σ H fun _ H1 => D.nx σ H1) : tDrop te D σ H := h
theorem s_ret (h : te σ H D.rt) : tRet te D σ H := h
theorem s_next (h : D.nx σ H) : tNext D σ H := h
theorem s_if (h : c σ H fun b H1 => if b = true then t D σ H1 else u D σ H1) : tIfS c t u D σ H := h
theorem s_gname (h : QS (σ.set i (some v)) H) : gName i v σ H QS := h
theorem s_var (e : σ[i]? = some (some v)) (h : Q v H) : tVar i σ H Q := ⟨v, e, h⟩
theorem s_c (h : Q v H) : tC v σ H Q := h
theorem s_op (h : ta σ H fun x H1 => tb σ H1 fun y H2 => r x y H2 Q) : tOp r ta tb σ H Q := h
theorem s_un {r : V → Hp → VK → Prop} (h : ta σ H fun x H1 => r x H1 Q) : tUn r ta σ H Q := h
theorem s_i0 (h : Q (f a b) H) : rI0 f (.int a) (.int b) H Q := ⟨a, b, rfl, rfl, h⟩
theorem s_i (hc : C a b) (h : Q (f a b) H) : rI C f (.int a) (.int b) H Q := ⟨a, b, rfl, rfl, hc, h⟩
theorem s_u {f : Int → V} (h : Q (f a) H) : rU f (.int a) H Q := ⟨a, rfl, h⟩
theorem s_cons (h : te σ H fun x H1 => tl σ H1 fun xs H2 => QL (x :: xs) H2) : tCons te tl σ H QL := h
theorem s_nil (h : QL [] H) : tNil σ H QL := h
theorem s_test (h : ta σ H fun x H' => ∃ k, x = .bl k ∧ QB k H') : tTest ta σ H QB := h
theorem s_tB (h : ta σ H fun x H' => ∃ k, x = .bl k ∧ QB k H') : tB ta σ H QB := h
theorem s_bl {k : Bool} {P : Bool → Prop} (h : P k) : ∃ k', V.bl k = .bl k' ∧ P k' := ⟨k, rfl, h⟩
theorem s_andc (h : c σ H fun b H1 => if b = true then c' σ H1 QB else QB false H1) : tAnd c c' σ H QB := h
theorem s_orc (h : c σ H fun b H1 => if b = true then QB true H1 else c' σ H1 QB) : tOr c c' σ H QB := h
theorem s_notc (h : c σ H fun b H1 => QB (!b) H1) : tNot c σ H QB := h
theorem s_andv (h : ta σ H fun x H1 => ∃ c, x = .bl c ∧ if c = true then tb σ H1 Q else Q (.bl false) H1) : tAndV ta tb σ H Q := h
theorem s_orv (h : ta σ H fun x H1 => ∃ c, x = .bl c ∧ if c = true then Q (.bl true) H1 else tb σ H1 Q) : tOrV ta tb σ H Q := h
theorem s_notv (h : ta σ H fun x H1 => ∃ c, x = .bl c ∧ Q (.bl (!c)) H1) : tNotV ta σ H Q := h
theorem s_ifx {t : TT} (h : t σ H fun c H1 => if c = true then ta σ H1 Q else tb σ H1 Q) : tIf t ta tb σ H Q := h
theorem s_eqI (h : Q (.bl (decide (a = b))) H) : rEq (.int a) (.int b) H Q := ⟨rfl, by
  have e : decide (V.int a = V.int b) = decide (a = b) := by simp
  rw [e]; exact h⟩
theorem s_neI (h : Q (.bl (!decide (a = b))) H) : rNe (.int a) (.int b) H Q := ⟨rfl, by
  have e : decide (V.int a = V.int b) = decide (a = b) := by simp
  rw [e]; exact h⟩
theorem s_eqS {a b : Str} (h : Q (.bl (decide (a = b))) H) : rEq (.str a) (.str b) H Q := ⟨rfl, by
  have e : decide (V.str a = V.str b) = decide (a = b) := by simp
  rw [e]; exact h⟩
theorem s_neS {a b : Str} (h : Q (.bl (!decide (a = b))) H) : rNe (.str a) (.str b) H Q := ⟨rfl, by
  have e : decide (V.str a = V.str b) = decide (a = b) := by simp
  rw [e]; exact h⟩
theorem s_eqB {a b : Bool} (h : Q (.bl (decide (a = b))) H) : rEq (.bl a) (.bl b) H Q := ⟨rfl, by
  have e : decide (V.bl a = V.bl b) = decide (a = b) := by simp
  rw [e]; exact h⟩
theorem s_neB {a b : Bool} (h : Q (.bl (!decide (a = b))) H) : rNe (.bl a) (.bl b) H Q := ⟨rfl, by
  have e : decide (V.bl a = V.bl b) = decide (a = b) := by simp
  rw [e]; exact h⟩
def MkT (Q : VK) (xs : List V) (H : Hp) : Prop := xs.length ≤ sizeLine ∧ ∀ p, H p = none → Q (.ref p) (upd H p (.tup xs))
def MkL (Q : VK) (xs : List V) (H : Hp) : Prop := xs.length ≤ sizeLine ∧ ∀ p, H p = none → Q (.ref p) (upd H p (.lst xs))
theorem s_tup (h : tl σ H fun xs H1 => MkT Q xs H1) : tTup tl σ H Q := h
theorem s_lst (h : tl σ H fun xs H1 => MkL Q xs H1) : tLst tl σ H Q := h
theorem len_le {α : Type} {xs : List α} (h : xs.length ≤ 1000) : xs.length ≤ sizeLine := Nat.le_of_lt (small1000 h)
theorem s_par (h : tl σ H fun vs H1 => ∃ v w, vs = [v, w] ∧ D.nx ((σ.set i (some v)).set j (some w)) H1) : tPar i j tl D σ H := h
theorem s_par_ {P : V → V → Prop} (h : P x y) : ∃ v w, [x, y] = [v, w] ∧ P v w := ⟨x, y, rfl, h⟩
theorem s_par3 {l : Nat} (h : tl σ H fun vs H1 => ∃ u v w, vs = [u, v, w] ∧ D.nx (((σ.set i (some u)).set j (some v)).set l (some w)) H1) : tPar3 i j l tl D σ H := h
theorem s_par3_ {z : V} {P : V → V → V → Prop} (h : P x y z) : ∃ u v w, [x, y, z] = [u, v, w] ∧ P u v w := ⟨x, y, z, rfl, h⟩
theorem s_cb {r : List V → Hp → VK → Prop} (h : tl σ H fun vs H1 => r vs H1 Q) : tCB r tl σ H Q := h
theorem s_call {sp : Sp} {dvs : List V} {E : XK} (h : tl σ H fun vs H1 => sp (vs ++ dvs) H1 Q E) : tCall sp dvs E tl σ H Q := h
theorem s_callS {sp : Sp} {E : L2.St → XK} (h : tl σ H fun vs H1 => sp vs H1 Q (E σ)) : tCallS sp E tl σ H Q := h
theorem s_chain {r' : R2} {tc : TE} (h : ta σ H fun x H1 => tb σ H1 fun y H2 => r x y H2 fun z H3 => ∃ k, z = .bl k ∧ (if k = true then tc σ H3 fun w' H4 => r' y w' H4 Q else Q (.bl false) H3)) : tChain r r' ta tb tc σ H Q := h
theorem s_iteT {A B : Prop} (h : A) : if true = true then A else B := by rw [if_pos rfl]; exact h
theorem s_iteF {A B : Prop} (h : B) : if false = true then A else B := by rw [if_neg Bool.false_ne_true]; exact h
theorem s_iteNT {A B : Prop} (h : B) : if (!true) = true then A else B := h
theorem s_iteNF {A B : Prop} (h : A) : if (!false) = true then A else B := h
theorem s_ite {A B p : Prop} [Decidable p] (h1 : p → A) (h2 : ¬p → B) : if decide p = true then A else B := by
  by_cases h : p
  · rw [decide_eq_true h, if_pos rfl]; exact h1 h
  · rw [decide_eq_false h, if_neg Bool.false_ne_true]; exact h2 h
theorem s_iten {A B p : Prop} [Decidable p] (h1 : ¬p → A) (h2 : p → B) : if (!decide p) = true then A else B := by
  by_cases h : p
  · rw [decide_eq_true h]; exact s_iteF (h2 h)
  · rw [decide_eq_false h]; exact s_iteT (h1 h)
theorem s_iteb {A B : Prop} {b : Bool} (h1 : b = true → A) (h2 : b = false → B) : if b = true then A else B := by
  cases b
  · exact s_iteF (h2 rfl)
  · exact s_iteT (h1 rfl)
theorem s_itP {A B p : Prop} [Decidable p] (hp : p) (h : A) : if decide p = true then A else B := s_ite (fun _ => h) fun n => absurd hp n
theorem s_itN {A B p : Prop} [Decidable p] (hp : ¬p) (h : B) : if decide p = true then A else B := s_ite (fun n => absurd n hp) fun _ => h
theorem s_itnP {A B p : Prop} [Decidable p] (hp : p) (h : B) : if (!decide p) = true then A else B := s_iten (fun n => absurd hp n) fun _ => h
theorem s_itnN {A B p : Prop} [Decidable p] (hp : ¬p) (h : A) : if (!decide p) = true then A else B := s_iten (fun _ => h) fun n => absurd n hp
theorem s_btT {p : Prop} [Decidable p] {P : Bool → Prop} (hp : p) (h : P true) : P (decide p) := by rw [decide_eq_true hp]; exact h
theorem s_btF {p : Prop} [Decidable p] {P : Bool → Prop} (hp : ¬p) (h : P false) : P (decide p) := by rw [decide_eq_false hp]; exact h
theorem s_ixL {K : PySem.W.Frag} {p : Addr} {xs : List V} {n : Int} (h1 : SqL K H p xs) (h2 : atI xs n = some v) (h : Q v H) : rIx K (.ref p) (.int n) H Q := .inl ⟨p, xs, n, v, rfl, rfl, h1, h2, h⟩
theorem s_ixT {K : PySem.W.Frag} {p : Addr} {xs : List V} {n : Int} (h1 : SqT K H p xs) (h2 : atI xs n = some v) (h : Q v H) : rIx K (.ref p) (.int n) H Q := .inr (.inl ⟨p, xs, n, v, rfl, rfl, h1, h2, h⟩)
theorem s_isi {K : PySem.W.Frag} {a b : String} {bb : Bool} (ht : TyOf K H x (.type a)) (hk : kitB a b = some bb) (h : Q (.bl bb) H) : rIsi K [x, .ty b] H Q := ⟨x, .ty b, .type a, .type b, bb, rfl, .ty b, .base ht, kit_ty hk, h⟩
theorem kb_ii : kitB "int" "int" = some true := by decide +kernel
theorem kb_ib : kitB "int" "bool" = some false := by decide +kernel
theorem kb_bi : kitB "bool" "int" = some true := by decide +kernel
theorem kb_bb : kitB "bool" "bool" = some true := by decide +kernel
theorem kb_tt : kitB "tuple" "tuple" = some true := by decide +kernel
theorem kb_ll : kitB "list" "list" = some true := by decide +kernel
theorem kb_ti : kitB "tuple" "int" = some false := by decide +kernel
theorem kb_tl : kitB "tuple" "list" = some false := by decide +kernel
theorem kb_lt : kitB "list" "tuple" = some false := by decide +kernel
theorem kb_li : kitB "list" "int" = some false := by decide +kernel
theorem kb_ni : kitB "NoneType" "int" = some false := by decide +kernel
theorem s_isi_ii {K : PySem.W.Frag} (h : Q (.bl true) H) : rIsi K [.int a, .ty "int"] H Q := s_isi (.int a) kb_ii h
theorem s_isi_ib {K : PySem.W.Frag} (h : Q (.bl false) H) : rIsi K [.int a, .ty "bool"] H Q := s_isi (.int a) kb_ib h
theorem s_p10 {n : Nat} (h : Q (.int (10 ^ n)) H) (hn : n ≤ 1000 := by decide) : rI CPow (fun i j => V.int (i ^ j.toNat)) (.int 10) (.int (n : Int)) H Q :=
  ⟨10, n, rfl, rfl, ⟨by omega, by omega, by decide⟩, h⟩
theorem s_pow {e : Int} {n : Nat} (he : e = n) (hn : n ≤ 1000) (ha : a.natAbs < 2 ^ 64) (h : Q (.int (a ^ n)) H) : rI CPow (fun i j => V.int (i ^ j.toNat)) (.int a) (.int e) H Q :=
  ⟨a, e, rfl, rfl, ⟨by omega, by omega, ha⟩, by subst he; exact h⟩
theorem s_p10_4 (h : Q (.int (10 ^ 4)) H) : rI CPow (fun i j => V.int (i ^ j.toNat)) (.int 10) (.int 4) H Q := s_p10 (n := 4) h
theorem s_p10_5 (h : Q (.int (10 ^ 5)) H) : rI CPow (fun i j => V.int (i ^ j.toNat)) (.int 10) (.int 5) H Q := s_p10 (n := 5) h
theorem s_p10_6 (h : Q (.int (10 ^ 6)) H) : rI CPow (fun i j => V.int (i ^ j.toNat)) (.int 10) (.int 6) H Q := s_p10 (n := 6) h
theorem s_p10_8 (h : Q (.int (10 ^ 8)) H) : rI CPow (fun i j => V.int (i ^ j.toNat)) (.int 10) (.int 8) H Q := s_p10 (n := 8) h
theorem s_p10_9 (h : Q (.int (10 ^ 9)) H) : rI CPow (fun i j => V.int (i ^ j.toNat)) (.int 10) (.int 9) H Q := s_p10 (n := 9) h
theorem s_p10_12 (h : Q (.int (10 ^ 12)) H) : rI CPow (fun i j => V.int (i ^ j.toNat)) (.int 10) (.int 12) H Q := s_p10 (n := 12) h
theorem s_p10_18 (h : Q (.int (10 ^ 18)) H) : rI CPow (fun i j => V.int (i ^ j.toNat)) (.int 10) (.int 18) H Q := s_p10 (n := 18) h
theorem s_p10_29 (h : Q (.int (10 ^ 29)) H) : rI CPow (fun i j => V.int (i ^ j.toNat)) (.int 10) (.int 29) H Q := s_p10 (n := 29) h
theorem s_p10_30 (h : Q (.int (10 ^ 30)) H) : rI CPow (fun i j => V.int (i ^ j.toNat)) (.int 10) (.int 30) H Q := s_p10 (n := 30) h
theorem s_p10_39 (h : Q (.int (10 ^ 39)) H) : rI CPow (fun i j => V.int (i ^ j.toNat)) (.int 10) (.int 39) H Q := s_p10 (n := 39) h
theorem s_p10_40 (h : Q (.int (10 ^ 40)) H) : rI CPow (fun i j => V.int (i ^ j.toNat)) (.int 10) (.int 40) H Q := s_p10 (n := 40) h
theorem s_p10_49 (h : Q (.int (10 ^ 49)) H) : rI CPow (fun i j => V.int (i ^ j.toNat)) (.int 10) (.int 49) H Q := s_p10 (n := 49) h
theorem s_p10_50 (h : Q (.int (10 ^ 50)) H) : rI CPow (fun i j => V.int (i ^ j.toNat)) (.int 10) (.int 50) H Q := s_p10 (n := 50) h
theorem s_p10_51 (h : Q (.int (10 ^ 51)) H) : rI CPow (fun i j => V.int (i ^ j.toNat)) (.int 10) (.int 51) H Q := s_p10 (n := 51) h
theorem s_p10_58 (h : Q (.int (10 ^ 58)) H) : rI CPow (fun i j => V.int (i ^ j.toNat)) (.int 10) (.int 58) H Q := s_p10 (n := 58) h
theorem s_p10_59 (h : Q (.int (10 ^ 59)) H) : rI CPow (fun i j => V.int (i ^ j.toNat)) (.int 10) (.int 59) H Q := s_p10 (n := 59) h
theorem s_p10_60 (h : Q (.int (10 ^ 60)) H) : rI CPow (fun i j => V.int (i ^ j.toNat)) (.int 10) (.int 60) H Q := s_p10 (n := 60) h
theorem s_pow7 (ha : a.natAbs < 2 ^ 64) (h : Q (.int (a ^ 7)) H) : rI CPow (fun i j => V.int (i ^ j.toNat)) (.int a) (.int 7) H Q := s_pow (n := 7) rfl (by decide) ha h
theorem s_pickN {K : PySem.W.Frag} {p : Addr} {n : Int} {P : Int → Prop} (ns : List Int) (hp : H p = some (.lst (ns.map V.int))) (hn : 0 ≤ n ∧ n < ns.length) (ha : ∀ z ∈ ns, P z) (h : ∀ z, P z → Q (.int z) H) : rIx K (.ref p) (.int n) H Q := by
  obtain ⟨k, rfl⟩ := Int.eq_ofNat_of_zero_le hn.1
  have hk : k < ns.length := by omega
  exact s_ixL (SqL.of hp) (atI_nat (j := k) (v := .int ns[k]) (by rw [List.getElem?_map, List.getElem?_eq_getElem hk]; rfl)) (h _ (ha _ (List.getElem_mem hk)))
theorem s_pick2 {K : PySem.W.Frag} {p : Addr} {n : Int} {P : Int → Prop} (hp : H p = some (.lst [.int a, .int b])) (hn : 0 ≤ n ∧ n < 2) (ha : P a) (hb : P b) (h : ∀ z, P z → Q (.int z) H) : rIx K (.ref p) (.int n) H Q := by
  have e : n = 0 ∨ n = 1 := by omega
  rcases e with rfl | rfl
  · exact s_ixL (SqL.of hp) (atI_nat (j := 0) rfl) (h a ha)
  · exact s_ixL (SqL.of hp) (atI_nat (j := 1) rfl) (h b hb)
theorem s_andJ {b c : Bool} (hc : ∀ Q' : VK, Q' (.bl c) H → tb σ H Q') (h : Q (.bl (b && c)) H) : if b = true then tb σ H Q else Q (.bl false) H := by
  cases b
  · exact s_iteF h
  · exact s_iteT (hc _ h)
theorem s_orJ {b c : Bool} (hc : ∀ Q' : VK, Q' (.bl c) H → tb σ H Q') (h : Q (.bl (b || c)) H) : if b = true then Q (.bl true) H else tb σ H Q := by
  cases b
  · exact s_iteF (hc _ h)
  · exact s_iteT h
theorem s_blT {p : Prop} [Decidable p] (hp : p) (h : Q (.bl true) H) : Q (.bl (decide p)) H := by rw [decide_eq_true hp]; exact h
theorem s_blF {p : Prop} [Decidable p] (hp : ¬p) (h : Q (.bl false) H) : Q (.bl (decide p)) H := by rw [decide_eq_false hp]; exact h
theorem s_sl {r : V → Option Int → Option Int → Hp → VK → Prop} {tlo thi : TO} (h : te σ H fun x H1 => tlo σ H1 fun l H2 => thi σ H2 fun u H3 => r x l u H3 Q) : L2.tSl r te tlo thi σ H Q := h
theorem s_nopart {QO : Option Int → Hp → Prop} (h : QO none H) : tNoPart σ H QO := h
theorem s_part {QO : Option Int → Hp → Prop} (h : te σ H fun x H1 => ∃ i, x = .int i ∧ QO (some i) H1) : tPart te σ H QO := h
theorem s_int_ {P : Int → Prop} (h : P a) : ∃ i, V.int a = .int i ∧ P i := ⟨a, rfl, h⟩
theorem s_slL {K : PySem.W.Frag} {p : Addr} {xs : List V} {lo hi : Option Int} (hs : SqL K H p xs) (h : ∀ l, H l = none → Q (.ref l) (upd H l (.lst (cutV xs lo hi)))) : rSlL K (.ref p) lo hi H Q := ⟨p, xs, rfl, hs, h⟩
theorem s_for {wi : TI} {tb : TS} (h : wi σ H fun J H1 => ∃ W : Nat → Nat → L2.St → Hp → Prop, (∃ m, W 0 m σ H1) ∧ ∀ i m σ H, W i m σ H →
  (J.stop i H ∧ D.nx σ H) ∨ (J.go i H ∧ ∃ N : L2.St → Hp → Prop, (∀ σ' H', N σ' H' → ∃ m', m' < m ∧ W (i + 1) m' σ' H') ∧ ∀ x H', J.yld i H x H' → g x σ H' fun σ2 H2 => tb { D with nx := N, ct := N, bk := D.nx } σ2 H2)) : tFor wi g tb D σ H := h
theorem s_ilist {K : PySem.W.Frag} {RI : It → Hp → Prop} (h : te σ H fun x H1 => ∃ a, x = .ref a ∧ (∃ xs, SqL K H1 a xs) ∧ RI (Itl K a) H1) : iList K te σ H RI := h
theorem s_itup {K : PySem.W.Frag} {RI : It → Hp → Prop} (h : te σ H fun x H1 => ∃ a, x = .ref a ∧ (∃ xs, SqT K H1 a xs) ∧ RI (Itt K a) H1) : iTup K te σ H RI := h
theorem s_ref_ {p : Addr} {P : Addr → Prop} (h : P p) : ∃ i, V.ref p = .ref i ∧ P i := ⟨p, rfl, h⟩
theorem s_join (P : L2.St → Hp → Prop) (h1 : ∀ σ' H', P σ' H' → D.nx σ' H') (h2 : ∀ N : L2.St → Hp → Prop, (∀ σ' H', P σ' H' → N σ' H') → tIfS c t u { D with nx := N } σ H) : tIfS c t u D σ H := h2 D.nx h1
theorem s_yes (h : QB true H) : tYes σ H QB := h
theorem s_gtup {K : PySem.W.Frag} {n : Nat} {t : TGs} {p : Addr} {xs : List V} (h1 : SqT K H p xs) (h2 : xs.length = n) (h : t xs σ H QS) : gTup K n t (.ref p) σ H QS := ⟨p, xs, rfl, h1, h2, h⟩
theorem s_gcons {t : TG} {u : TGs} {r : List V} (h : t v σ H fun σ' H' => u r σ' H' QS) : gCons t u (v :: r) σ H QS := ⟨v, r, rfl, h⟩
theorem s_gnil (h : QS σ H) : gNil [] σ H QS := ⟨rfl, h⟩
theorem s_append {p : Addr} {xs : List V} (hp : H p = some (.lst xs)) (hl : xs.length < sizeLine) (h : Q .non (upd H p (.lst (xs ++ [x])))) : rAppend (.ref p) [x] H Q := ⟨p, xs, x, rfl, rfl, hp, hl, h⟩
theorem s_tyL {K : PySem.W.Frag} {p : Addr} {xs : List V} (hp : H p = some (.lst xs)) : tyV K "list" (.ref p) H := Or.inl ⟨rfl, _, Or.inl (Or.inl hp)⟩
theorem s_bm {K : PySem.W.Frag} {T : String} {r : V → List V → Hp → VK → Prop} (h : ta σ H fun x H1 => tyV K T x H1 ∧ tl σ H1 fun xs H2 => r x xs H2 Q) : tBM K T r ta tl σ H Q := h
end
/-! rules by name -/
def rAbs : List V → Hp → VK → Prop := fun xs H Q => ∃ i, xs = [.int i] ∧ Q (.int (if i < 0 then -i else i)) H
def rMax2 : List V → Hp → VK → Prop := fun xs H Q => ∃ i j, xs = [.int i, .int j] ∧ Q (.int (if j > i then j else i)) H
def rMin2 : List V → Hp → VK → Prop := fun xs H Q => ∃ i j, xs = [.int i, .int j] ∧ Q (.int (if j < i then j else i)) H
def rLenS (K : PySem.W.Frag) : List V → Hp → VK → Prop := fun xs H Q => ∃ p ys, xs = [.ref p] ∧ (SqL K H p ys ∨ SqT K H p ys) ∧ Q (.int ys.length) H
def rTupOf (K : PySem.W.Frag) : List V → Hp → VK → Prop := fun xs H Q => ∃ p ys, xs = [.ref p] ∧ ((SqL K H p ys ∧ ∀ l, H l = none → Q (.ref l) (upd H l (.tup ys))) ∨ (SqT K H p ys ∧ Q (.ref p) H))
def rLstOf (K : PySem.W.Frag) : List V → Hp → VK → Prop := fun xs H Q => ∃ p ys, xs = [.ref p] ∧ (SqL K H p ys ∨ SqT K H p ys) ∧ ∀ l, H l = none → Q (.ref l) (upd H l (.lst ys))
def rInt1 : List V → Hp → VK → Prop := fun xs H Q => (∃ i, xs = [.int i] ∧ Q (.int i) H) ∨ ∃ k, xs = [.bl k] ∧ Q (.int (if k then 1 else 0)) H
def rIns : V → List V → Hp → VK → Prop := fun x vs H Q => ∃ (l : Addr) (xs : List V) (i : Int) (y : V), x = .ref l ∧ vs = [.int i, y] ∧ H l = some (.lst xs) ∧ xs.length < sizeLine ∧ 0 ≤ i ∧ i < 2 ^ 63 ∧ Q .non (upd H l (.lst (xs.take i.toNat ++ [y] ++ xs.drop i.toNat)))
section
variable {X : Cx}
theorem mtIns : MtR X "list.insert" rIns := mt_insert
theorem callInt1 : CallR X (.type "int") rInt1 := call_int1
theorem callAbs : CallR X (.builtin "abs") rAbs := call_abs
theorem callMax2 (hc : X.calm = true) : CallR X (.builtin "max") rMax2 := call_max2 hc
theorem callMin2 (hc : X.calm = true) : CallR X (.builtin "min") rMin2 := call_min2 hc
theorem callLen : CallR X (.builtin "len") (rLenS X.K) := call_len_seq
theorem callTup : CallR X (.type "tuple") (rTupOf X.K) := call_tuple_of
theorem callLst : CallR X (.type "list") (rLstOf X.K) := call_list_of
end
section
variable {H : Hp} {Q : VK} {a b : Int} {K : PySem.W.Frag} {p : Addr} {xs : List V}
theorem s_intB {k : Bool} (h : Q (.int (if k then 1 else 0)) H) : rInt1 [.bl k] H Q := .inr ⟨k, rfl, h⟩
theorem s_abs (h : Q (.int (if a < 0 then -a else a)) H) : rAbs [.int a] H Q := ⟨a, rfl, h⟩
theorem s_max (h : Q (.int (if b > a then b else a)) H) : rMax2 [.int a, .int b] H Q := ⟨a, b, rfl, h⟩
theorem s_min (h : Q (.int (if b < a then b else a)) H) : rMin2 [.int a, .int b] H Q := ⟨a, b, rfl, h⟩
theorem s_ins0 {y : V} (hp : H p = some (.lst xs)) (hl : xs.length < sizeLine) (h : Q .non (upd H p (.lst (y :: xs)))) : rIns (.ref p) [.int 0, y] H Q := ⟨p, xs, 0, y, rfl, rfl, hp, hl, by decide, by decide, h⟩
theorem s_lenL (hs : SqL K H p xs) (h : Q (.int xs.length) H) : rLenS K [.ref p] H Q := ⟨p, xs, rfl, .inl hs, h⟩
theorem s_lenT (hs : SqT K H p xs) (h : Q (.int xs.length) H) : rLenS K [.ref p] H Q := ⟨p, xs, rfl, .inr hs, h⟩
theorem s_tupL (hs : SqL K H p xs) (h : ∀ l, H l = none → Q (.ref l) (upd H l (.tup xs))) : rTupOf K [.ref p] H Q := ⟨p, xs, rfl, .inl ⟨hs, h⟩⟩
theorem s_lstL (hs : SqL K H p xs) (h : ∀ l, H l = none → Q (.ref l) (upd H l (.lst xs))) : rLstOf K [.ref p] H Q := ⟨p, xs, rfl, .inl hs, h⟩
theorem s_lstT (hs : SqT K H p xs) (h : ∀ l, H l = none → Q (.ref l) (upd H l (.lst xs))) : rLstOf K [.ref p] H Q := ⟨p, xs, rfl, .inr hs, h⟩
end
/-! heaps -/
theorem same_upd {H : Hp} {p : Addr} {o : HO} (h : H p = none) : Same H (upd H p o) := fun b u e => by rw [upd_ne (ne_of_none e h)]; exact e
theorem same_upd' {H H' : Hp} {p : Addr} {o : HO} (s : Same H H') (h : H p = none) : Same H (upd H' p o) := fun b u e => by rw [upd_ne (ne_of_none e h)]; exact s b u e
theorem same_new {H H' : Hp} {p : Addr} {o : HO} (s : Same H H') (h : H' p = none) : Same H (upd H' p o) := s.trans (same_upd h)
theorem Same.none {H H' : Hp} (s : Same H H') {p : Addr} (h : H' p = none) : H p = none := s.free h
theorem atI0 {α : Type} {xs : List α} {v : α} {n : Int} (k : Nat) (hn : n = k) (h : xs[k]? = some v) : atI xs n = some v := by subst hn; exact atI_nat h
theorem cutV_mem {xs : List V} {lo hi : Option Int} {x : V} (h : x ∈ cutV xs lo hi) : x ∈ xs := List.mem_of_mem_drop (List.mem_of_mem_take h)
theorem get_mem {xs : List V} {i : Nat} {x : V} (h : xs[i]? = some x) : x ∈ xs := List.mem_of_getElem? h
theorem of_mem_ints {ns : List Int} {x : V} (h : x ∈ ns.map V.int) : ∃ c, x = .int c ∧ c ∈ ns := by
  obtain ⟨c, h1, h2⟩ := List.mem_map.mp h
  exact ⟨c, h2.symm, h1⟩
section
variable {H : Hp} {Q : VK} {K : PySem.W.Frag} {p : Addr} {xs : List V}
theorem mkT (hl : xs.length ≤ 1000) (h : ∀ p H', H p = none → H' p = some (.tup xs) → Same H H' → Q (.ref p) H') : MkT Q xs H := ⟨len_le hl, fun p hp => h p _ hp upd_same (same_upd hp)⟩
theorem mkL (hl : xs.length ≤ 1000) (h : ∀ p H', H p = none → H' p = some (.lst xs) → Same H H' → Q (.ref p) H') : MkL Q xs H := ⟨len_le hl, fun p hp => h p _ hp upd_same (same_upd hp)⟩
theorem mkCat {q : Addr} {zs : List V} (h1 : H p = some (.lst xs)) (h2 : H q = some (.lst zs)) (hl : xs.length + zs.length ≤ 1000) (h : ∀ l H', H l = none → H' l = some (.lst (xs ++ zs)) → Same H H' → Q (.ref l) H') : rCat (.ref p) (.ref q) H Q := ⟨p, q, xs, zs, rfl, rfl, h1, h2, Nat.le_trans hl (Nat.le_of_lt (small1000 (Nat.le_refl _))), fun l hl => h l _ hl upd_same (same_upd hl)⟩
theorem mkSlT {lo hi : Option Int} (hs : SqT K H p xs) (hn : ¬ (HT.sIx xs.length 0 lo = 0 ∧ HT.sIx xs.length xs.length hi = xs.length)) (h : ∀ l H', H l = none → H' l = some (.tup (cutV xs lo hi)) → Same H H' → Q (.ref l) H') : rSlT K (.ref p) lo hi H Q := ⟨p, xs, rfl, hs, hn, fun l hl => h l _ hl upd_same (same_upd hl)⟩
theorem mkSl {lo hi : Option Int} (hs : SqL K H p xs) (h : ∀ l H', H l = none → H' l = some (.lst (cutV xs lo hi)) → Same H H' → Q (.ref l) H') : rSlL K (.ref p) lo hi H Q := s_slL hs fun l hl => h l _ hl upd_same (same_upd hl)
end
theorem s_eqD {K : PySem.W.Frag} {H : Hp} {Q : VK} {x y : V} (d e : PyData) (hd : Dp K H x d) (he : Dp K H y e) (h1 : SeqAt.shaped d = true) (h2 : SeqAt.shaped e = true) (h : Q (.bl (PyData.eqv d e)) H) : rEqD K x y H Q := ⟨d, e, hd, he, h1, h2, h⟩
theorem s_neD {K : PySem.W.Frag} {H : Hp} {Q : VK} {x y : V} (d e : PyData) (hd : Dp K H x d) (he : Dp K H y e) (h1 : SeqAt.shaped d = true) (h2 : SeqAt.shaped e = true) (h : Q (.bl (!PyData.eqv d e)) H) : rNeD K x y H Q := ⟨d, e, hd, he, h1, h2, h⟩
theorem dp_tup1 {K : PySem.W.Frag} {H : Hp} {p : Addr} {a : Int} (h : H p = some (.tup [.int a])) : Dp K H (.ref p) (.tuple [.int a]) := .tup (SqT.of h) (.cons (.int a) .nil)
theorem dp_tup2 {K : PySem.W.Frag} {H : Hp} {p : Addr} {a b : Int} (h : H p = some (.tup [.int a, .int b])) : Dp K H (.ref p) (.tuple [.int a, .int b]) := .tup (SqT.of h) (.cons (.int a) (.cons (.int b) .nil))
theorem atI_neg1 {α : Type} {xs : List α} {v : α} (h : xs.getLast? = some v) : atI xs (-1) = some v := by
  rcases List.eq_nil_or_concat xs with e | ⟨ys, y, e⟩
  · subst e; simp at h
  · rw [List.concat_eq_append] at e
    subst e
    rw [List.getLast?_concat] at h
    cases h
    exact atI_last ys v
/-! all stands but what lies at one place -/
def SameB (p : Addr) (H H' : Hp) : Prop := ∀ b o, b ≠ p → H b = some o → H' b = some o
theorem SameB.refl (p : Addr) (H : Hp) : SameB p H H := fun _ _ _ h => h
theorem SameB.trans {p : Addr} {H H1 H2 : Hp} (a : SameB p H H1) (b : SameB p H1 H2) : SameB p H H2 := fun c o n h => b c o n (a c o n h)
theorem SameB.of {p : Addr} {H H1 : Hp} (a : Same H H1) : SameB p H H1 := fun c o _ h => a c o h
theorem SameB.put {p : Addr} {H : Hp} {o : HO} : SameB p H (upd H p o) := fun c u n h => by rw [upd_ne n]; exact h
theorem SameB.same {p : Addr} {H H1 H2 : Hp} (n : H p = none) (a : SameB p H1 H2) (s : Same H H1) : Same H H2 := fun c o h => a c o (ne_of_none h n) (s c o h)
theorem SameB.updn {p l : Addr} {H H' : Hp} {o : HO} (h : SameB p H H') (n : H l = none) : SameB p H (upd H' l o) := fun b u hb e => by rw [upd_ne (ne_of_none e n)]; exact h b u hb e
theorem ixN_nat {n d : Nat} (h : d < n) : ixN n (d : Int) = some d := by
  unfold ixN
  rw [if_pos (by omega), if_pos (by omega)]; simp
/-! ranges -/
section
variable {H : Hp} {σ : L2.St} {ta : TA} {RI : It → Hp → Prop}
def RngQ1 (RI : It → Hp → Prop) (vs : List V) (H : Hp) : Prop := ∃ j : Int, vs = [.int j] ∧ -(2 ^ 62) ≤ j ∧ j < 2 ^ 62 ∧ RI (Itr 0 j.toNat) H
def RngQ2 (RI : It → Hp → Prop) (vs : List V) (H : Hp) : Prop := ∃ i j : Int, vs = [.int i, .int j] ∧ (-(2 ^ 62) ≤ i ∧ i < 2 ^ 62 ∧ -(2 ^ 62) ≤ j ∧ j < 2 ^ 62) ∧ RI (Itr i (j - i).toNat) H
theorem s_rng1 (h : ta σ H fun vs H1 => RngQ1 RI vs H1) : iRng1 ta σ H RI := h
theorem s_rng2 (h : ta σ H fun vs H1 => RngQ2 RI vs H1) : iRng2 ta σ H RI := h
theorem mkR1 {j : Int} (n : Nat) (e : j.toNat = n) (h1 : -(2 ^ 62) ≤ j) (h2 : j < 2 ^ 62) (h : RI (Itr 0 n) H) : RngQ1 RI [.int j] H := ⟨j, rfl, h1, h2, by rw [e]; exact h⟩
theorem mkR2 {i j : Int} (n : Nat) (e : (j - i).toNat = n) (h1 : -(2 ^ 62) ≤ i ∧ i < 2 ^ 62 ∧ -(2 ^ 62) ≤ j ∧ j < 2 ^ 62) (h : RI (Itr i n) H) : RngQ2 RI [.int i, .int j] H := ⟨i, j, rfl, h1, by rw [e]; exact h⟩
end
section
variable {to ti : TE} {t : TSet} {v : V} {σ : L2.St} {H : Hp} {QS : L2.St → Hp → Prop} {p : Addr} {xs : List V} {k : Int} {QH : Hp → Prop}
theorem s_gsub (h : to σ H fun o H1 => ti σ H1 fun i H2 => t o i v H2 fun H3 => QS σ H3) : gSub to ti t v σ H QS := h
theorem s_setL (j : Nat) (hp : H p = some (.lst xs)) (hj : ixN xs.length k = some j) (h : QH (upd H p (.lst (xs.set j v)))) : rSetL (.ref p) (.int k) v H QH := ⟨p, xs, k, j, rfl, rfl, hp, hj, h⟩
end
/-! dicts -/
section
variable {H : Hp} {Q : VK} {p : Addr} {kvs : List (Key × V)} {k : Key} {v : V} {td ty tv : TE} {σ : L2.St} {D : Ends}
def DGetQ (Q : VK) (x y : V) (H : Hp) : Prop := ∃ a v, x = .ref a ∧ DGet H a y (some v) ∧ Q v H
theorem s_dget (h : td σ H fun x H1 => ty σ H1 fun y H2 => DGetQ Q x y H2) : tDGet td ty σ H Q := h
theorem s_dgetS {x : Str} (hd : H p = some (.dK kvs)) (hv : valV kvs (.inr x) = some v) (h : Q v H) : DGetQ Q (.ref p) (.str x) H := ⟨p, v, rfl, by rw [← hv]; exact DGet.k (k := .inr x) hd, h⟩
theorem s_dgetI {i : Int} (hd : H p = some (.dK kvs)) (hv : valV kvs (.inl i) = some v) (h : Q v H) : DGetQ Q (.ref p) (.int i) H := ⟨p, v, rfl, by rw [← hv]; exact DGet.k (k := .inl i) hd, h⟩
def DispQ (Q : VK) (p : Addr) (ps : List (V × V)) (H2 : Hp) : Prop := H2 p = some (.dK []) ∧ ∃ kvs : List (Key × V), ps = kvs.map (fun kv => (kV kv.1, kv.2)) ∧ kvs.length ≤ 15 ∧ Q (.ref p) (upd H2 p (.dK (mergeK [] kvs)))
theorem s_disp {trs : List (TE × TE)} (h : ∀ p H1, H p = none → H1 p = some (.dK []) → Same H H1 → tPairs trs σ H1 fun ps H2 => DispQ Q p ps H2) : tDisp trs σ H Q := fun p hp => h p _ hp upd_same (same_upd hp)
theorem s_pn {QP : List (V × V) → Hp → Prop} (h : QP [] H) : tPairs [] σ H QP := h
theorem s_pc {tk : TE} {r : List (TE × TE)} {QP : List (V × V) → Hp → Prop} (h : tk σ H fun x H1 => tv σ H1 fun y H2 => tPairs r σ H2 fun ps H3 => QP ((x, y) :: ps) H3) : tPairs ((tk, tv) :: r) σ H QP := h
theorem mkDisp {ps : List (V × V)} (kvs : List (Key × V)) (hd : H p = some (.dK [])) (e : ps = kvs.map (fun kv => (kV kv.1, kv.2))) (hl : kvs.length ≤ 15) (h : ∀ H', H' p = some (.dK (mergeK [] kvs)) → (∀ H0, H0 p = none → Same H0 H → Same H0 H') → Q (.ref p) H') : DispQ Q p ps H :=
  ⟨hd, kvs, e, hl, h _ upd_same fun H0 n s => same_upd' s n⟩
def DPutQ (P : Hp → Prop) (x y v : V) (H3 : Hp) : Prop := ∃ a H4, x = .ref a ∧ DPut H3 a y v H4 ∧ P H4
theorem s_dput (h : tv σ H fun v H1 => td σ H1 fun x H2 => ty σ H2 fun y H3 => DPutQ (D.nx σ) x y v H3) : sDPut td ty tv D σ H := h
theorem s_dputS {P : Hp → Prop} {x : Str} (hd : H p = some (.dK kvs)) (hl : kvs.length < sizeLine) (h : P (upd H p (.dK (putK kvs (.inr x) v)))) : DPutQ P (.ref p) (.str x) v H := ⟨p, _, rfl, DPut.k (k := .inr x) hd hl, h⟩
theorem s_dputI {P : Hp → Prop} {i : Int} (hd : H p = some (.dK kvs)) (hl : kvs.length < sizeLine) (h : P (upd H p (.dK (putK kvs (.inl i) v)))) : DPutQ P (.ref p) (.int i) v H := ⟨p, _, rfl, DPut.k (k := .inl i) hd hl, h⟩
end
mutual
theorem eqv_refl : ∀ d : PyData, PyData.canLay0 d = true → PyData.eqv d d = true
  | .none, _ => by simp [PyData.eqv]
  | .bool b, _ => by simp [PyData.eqv]
  | .int i, _ => by simp [PyData.eqv]
  | .str x, _ => by simp [PyData.eqv]
  | .list xs, h => by simp only [PyData.eqv]; exact eqv_refls xs (by simpa [PyData.canLay0] using h)
  | .tuple xs, h => by simp only [PyData.eqv]; exact eqv_refls xs (by simpa [PyData.canLay0] using h)
  | .dict _, h => by simp [PyData.canLay0] at h
theorem eqv_refls : ∀ ds : List PyData, PyData.canLayAll0 ds = true → PyData.eqvAll ds ds = true
  | [], _ => by simp [PyData.eqvAll]
  | d :: ds, h => by
    simp only [PyData.canLayAll0, Bool.and_eq_true] at h
    simp only [PyData.eqvAll, Bool.and_eq_true]
    exact ⟨eqv_refl d h.1, eqv_refls ds h.2⟩
end
theorem layAll {ds : List PyData} (h : ∀ d ∈ ds, PyData.canLay0 d = true) : PyData.canLayAll0 ds = true := by
  induction ds with
  | nil => simp [PyData.canLayAll0]
  | cons d ds ih =>
    simp only [PyData.canLayAll0, Bool.and_eq_true]
    exact ⟨h d (by simp), ih fun e he => h e (by simp [he])⟩
theorem depAll {ds : List PyData} {n : Nat} (h : ∀ d ∈ ds, PyData.depth d ≤ n) : PyData.depthAll ds ≤ n := by
  induction ds with
  | nil => simp [PyData.depthAll]
  | cons d ds ih =>
    simp only [PyData.depthAll]
    exact Nat.max_le.mpr ⟨h d (by simp), ih fun e he => h e (by simp [he])⟩
theorem shapedL {ds : List PyData} (h : ∀ d ∈ ds, PyData.canLay0 d = true ∧ PyData.depth d ≤ 63) : SeqAt.shaped (.list ds) = true := by
  unfold SeqAt.shaped
  simp only [PyData.canLay0, PyData.depth, Bool.and_eq_true]
  exact ⟨layAll fun d hd => (h d hd).1, decide_eq_true (Nat.succ_le_succ (depAll fun d hd => (h d hd).2))⟩
theorem shapedT {ds : List PyData} (h : ∀ d ∈ ds, PyData.canLay0 d = true ∧ PyData.depth d ≤ 63) : SeqAt.shaped (.tuple ds) = true := by
  unfold SeqAt.shaped
  simp only [PyData.canLay0, PyData.depth, Bool.and_eq_true]
  exact ⟨layAll fun d hd => (h d hd).1, decide_eq_true (Nat.succ_le_succ (depAll fun d hd => (h d hd).2))⟩
theorem eqv_shaped {d : PyData} (h : SeqAt.shaped d = true) : PyData.eqv d d = true := eqv_refl d (SeqAt.canLay_of_shaped h)
theorem in_ints (a : Int) (ns : List Int) : inV (.int a) (ns.map V.int) = decide (a ∈ ns) := by
  unfold inV
  induction ns with
  | nil => simp
  | cons n ns ih =>
    rw [List.map_cons, List.any_cons, ih]
    simp only [eqV, List.mem_cons]
    by_cases h : a = n
    · subst h; simp
    · simp [h, Ne.symm h]
theorem flat_ints (ns : List Int) : (ns.map V.int).all flatV = true := by simp [flatV]
theorem s_inL {K : PySem.W.Frag} {H : Hp} {Q : VK} {p : Addr} {a : Int} {ns : List Int} (hp : H p = some (.lst (ns.map V.int))) (h : Q (.bl (decide (a ∈ ns))) H) : rIn K false (.int a) (.ref p) H Q :=
  ⟨p, ns.map V.int, rfl, .inl (SqL.of hp), rfl, flat_ints ns, by rw [if_neg Bool.false_ne_true, in_ints]; exact h⟩
theorem s_notInL {K : PySem.W.Frag} {H : Hp} {Q : VK} {p : Addr} {a : Int} {ns : List Int} (hp : H p = some (.lst (ns.map V.int))) (h : Q (.bl (!decide (a ∈ ns))) H) : rIn K true (.int a) (.ref p) H Q :=
  ⟨p, ns.map V.int, rfl, .inl (SqL.of hp), rfl, flat_ints ns, by rw [if_pos rfl, in_ints]; exact h⟩
theorem paired_mono {α β : Type} {F G : α → β → Prop} (h : ∀ a b, F a b → G a b) : ∀ {xs : List α} {ys : List β}, Paired F xs ys → Paired G xs ys
  | _, _, .nil => .nil
  | _, _, .cons f r => .cons (h _ _ f) (paired_mono h r)
theorem paired_take {α β : Type} {F : α → β → Prop} : ∀ {xs : List α} {ys : List β} (n : Nat), Paired F xs ys → Paired F (xs.take n) (ys.take n)
  | _, _, 0, _ => by simp; exact .nil
  | _, _, _ + 1, .nil => .nil
  | _, _, n + 1, .cons f r => .cons f (paired_take n r)
theorem s_isiT2 {K : PySem.W.Frag} {H : Hp} {Q : VK} {x : V} {tp : Addr} {a b1 b2 : String} {r1 r2 : Bool} (ht : H tp = some (.tup [.ty b1, .ty b2])) (tx : TyOf K H x (.type a)) (k1 : kitB a b1 = some r1) (k2 : kitB a b2 = some r2) (h : Q (.bl (r1 || r2)) H) : rIsiT K [x, .ref tp] H Q :=
  ⟨x, tp, [.ty b1, .ty b2], .type a, [.type b1, .type b2], r1 || r2, rfl, ht, .cons (.ty b1) (.cons (.ty b2) .nil), .base tx,
    kitAny_cons (kit_ty k1) (fun e => kitAny_cons (kit_ty k2) (fun e2 => by rw [e, e2]; exact kitAny_nil) (fun e2 => by rw [e2]; simp)) (fun e => by rw [e]; rfl), h⟩
theorem s_isiT2F {K : PySem.W.Frag} {H : Hp} {Q : VK} {x : V} {tp : Addr} {a b1 b2 : String} (ht : H tp = some (.tup [.ty b1, .ty b2])) (tx : TyOf K H x (.type a)) (k1 : kitB a b1 = some false) (k2 : kitB a b2 = some false) (h : Q (.bl false) H) : rIsiT K [x, .ref tp] H Q := s_isiT2 ht tx k1 k2 h
theorem kb_nl : kitB "NoneType" "list" = some false := by decide +kernel
theorem kb_nt : kitB "NoneType" "tuple" = some false := by decide +kernel
theorem kb_nb : kitB "NoneType" "bool" = some false := by decide +kernel
theorem kb_il : kitB "int" "list" = some false := by decide +kernel
theorem kb_it : kitB "int" "tuple" = some false := by decide +kernel
theorem kb_bl : kitB "bool" "list" = some false := by decide +kernel
theorem kb_bt : kitB "bool" "tuple" = some false := by decide +kernel
theorem lookup1 {f : Str} {v : V} : List.lookup f [(f, v)] = some v := by simp [List.lookup]
theorem s_xf {a C d : Addr} {f : Str} {v : V} {i : Nat} {σ : L2.St} {H : Hp} {Q : VK} (e : σ[i]? = some (some (.ref a))) (hx : H d = some (.xd [(f, v)])) (h : Q v H) : tXf a (.ref C) (some d) C f (tVar i) σ H Q := ⟨_, e, rfl, rfl, d, _, v, rfl, hx, lookup1, h⟩
/-- a list (or tuple) of tuples -/
abbrev TupsIn (H : Hp) : List V → List (List V) → Prop := Paired fun (x : V) (r : List V) => ∃ t, x = .ref t ∧ H t = some (.tup r)
theorem TupsIn.same {H H' : Hp} (s : Same H H') : ∀ {xs : List V} {rs : List (List V)}, TupsIn H xs rs → TupsIn H' xs rs
  | _, _, .nil => .nil
  | _, _, .cons ⟨t, e, h⟩ r => .cons ⟨t, e, s _ _ h⟩ (TupsIn.same s r)
theorem TupsIn.upd {H : Hp} {p : Addr} {o : HO} {zs : List V} (hp : H p = some (.lst zs)) : ∀ {xs : List V} {rs : List (List V)}, TupsIn H xs rs → TupsIn (L2.upd H p o) xs rs
  | _, _, .nil => .nil
  | _, _, .cons ⟨t, e, h⟩ r => .cons ⟨t, e, by rw [upd_ne (fun z => by rw [z, hp] at h; cases h)]; exact h⟩ (TupsIn.upd hp r)
theorem paired_snoc {α β : Type} {F : α → β → Prop} {x : α} {y : β} : ∀ {xs : List α} {ys : List β}, Paired F xs ys → F x y → Paired F (xs ++ [x]) (ys ++ [y])
  | _, _, .nil, f => .cons f .nil
  | _, _, .cons a r, f => .cons a (paired_snoc r f)
theorem paired_set {α β : Type} {F : α → β → Prop} {x : α} {y : β} : ∀ {xs : List α} {ys : List β} (j : Nat), Paired F xs ys → F x y → Paired F (xs.set j x) (ys.set j y)
  | _, _, _, .nil, _ => .nil
  | _, _, 0, .cons _ r, f => .cons f r
  | _, _, j + 1, .cons a r, f => .cons a (paired_set j r f)
theorem TupsIn.app {H H1 : Hp} {l t : Addr} {xs r : List V} {rs : List (List V)} (hl : H l = some (.lst xs)) (ht : TupsIn H xs rs) (s : Same H H1) (nt : H t = none) (et : H1 t = some (.tup r)) :
    TupsIn (L2.upd H1 l (.lst (xs ++ [.ref t]))) (xs ++ [.ref t]) (rs ++ [r]) :=
  paired_snoc (TupsIn.upd (s _ _ hl) (ht.same s)) ⟨t, rfl, by rw [upd_ne (ne_of_none hl nt).symm]; exact et⟩
theorem TupsIn.put {H H1 : Hp} {l t : Addr} {xs r : List V} {rs : List (List V)} (j : Nat) (hl : H l = some (.lst xs)) (ht : TupsIn H xs rs) (s : Same H H1) (nt : H t = none) (et : H1 t = some (.tup r)) :
    TupsIn (L2.upd H1 l (.lst (xs.set j (.ref t)))) (xs.set j (.ref t)) (rs.set j r) :=
  paired_set j (TupsIn.upd (s _ _ hl) (ht.same s)) ⟨t, rfl, by rw [upd_ne (ne_of_none hl nt).symm]; exact et⟩
theorem take_more {α : Type} {xs : List α} {i : Nat} {x : α} (h : xs[i]? = some x) : xs.take (i + 1) = xs.take i ++ [x] := by
  rw [List.take_succ, h]; rfl
theorem pget {α β : Type} {F : α → β → Prop} : ∀ {xs : List α} {ys : List β} {i : Nat} {x : α}, Paired F xs ys → xs[i]? = some x → ∃ y, ys[i]? = some y ∧ F x y
  | _, _, _, _, .nil, e => by simp at e
  | _, _, 0, _, .cons f _, e => by simp at e; subst e; exact ⟨_, rfl, f⟩
  | _, _, i + 1, x, .cons _ r, e => by
    obtain ⟨y, h1, h2⟩ := pget (i := i) r (by simpa using e)
    exact ⟨y, by simpa using h1, h2⟩
theorem pget' {α β : Type} {F : α → β → Prop} : ∀ {xs : List α} {ys : List β} {i : Nat} {y : β}, Paired F xs ys → ys[i]? = some y → ∃ x, xs[i]? = some x ∧ F x y
  | _, _, _, _, .nil, e => by simp at e
  | _, _, 0, _, .cons f _, e => by simp at e; subst e; exact ⟨_, rfl, f⟩
  | _, _, i + 1, x, .cons _ r, e => by
    obtain ⟨y, h1, h2⟩ := pget' (i := i) r (by simpa using e)
    exact ⟨y, by simpa using h1, h2⟩
theorem s_isN {H : Hp} {Q : VK} (h : Q (.bl true) H) : L2.rIsN .non .non H Q := ⟨rfl, by rw [decide_eq_true rfl]; exact h⟩
theorem s_isNi {H : Hp} {Q : VK} {i : Int} (h : Q (.bl false) H) : L2.rIsN (.int i) .non H Q := ⟨rfl, by rw [decide_eq_false (by intro z; cases z)]; exact h⟩
def RgQ (Q : VK) (x y : V) (H : Hp) : Prop := ∃ i j, x = .int i ∧ y = .int j ∧ RgOk i j ∧ ∀ q, H q = none → Q (.ref q) (upd H q (.lst (rgV i j)))
theorem s_bm0 {K : PySem.W.Frag} {T : String} {r : V → List V → Hp → VK → Prop} {ta : TE} {σ : L2.St} {H : Hp} {Q : VK} (h : ta σ H fun x H1 => tyV K T x H1 ∧ r x [] H1 Q) : tBM0 K T r ta σ H Q := h
theorem s_lrg2 {ta tb : TE} {σ : L2.St} {H : Hp} {Q : VK} (h : ta σ H fun x H1 => tb σ H1 fun y H2 => RgQ Q x y H2) : tLstRg (tRg2 ta tb) σ H Q := h
theorem s_lc {wi : TI} {g : TG} {tt : TT} {te : TE} {vs : List Nat} {σ : L2.St} {H : Hp} {Q : VK} (h : wi σ H fun J H1 => tLc (fun _ _ R => R J H1) g tt te vs σ H1 Q) : tLc wi g tt te vs σ H Q := h
theorem call_isiK (K : PySem.W.Frag) {X : Cx} (h : X.K = K) : CallR X (.builtin "isinstance") (rIsi K) := h ▸ call_isi
theorem ix_seqK (K : PySem.W.Frag) {X : Cx} (h : X.K = K) : IxR X (rIx K) := h ▸ ix_seq
theorem s_isNb {H : Hp} {Q : VK} {i : Bool} (h : Q (.bl false) H) : L2.rIsN (.bl i) .non H Q := ⟨rfl, by rw [decide_eq_false (by intro z; cases z)]; exact h⟩
theorem s_isNr {H : Hp} {Q : VK} {i : Addr} (h : Q (.bl false) H) : L2.rIsN (.ref i) .non H Q := ⟨rfl, by rw [decide_eq_false (by intro z; cases z)]; exact h⟩
theorem s_notN {H : Hp} {Q : VK} (h : Q (.bl false) H) : L2.rNotN .non .non H Q := ⟨rfl, by rw [decide_eq_true rfl]; exact h⟩
theorem s_notNi {H : Hp} {Q : VK} {i : Int} (h : Q (.bl true) H) : L2.rNotN (.int i) .non H Q := ⟨rfl, by rw [decide_eq_false (by intro z; cases z)]; exact h⟩
theorem s_notNr {H : Hp} {Q : VK} {i : Addr} (h : Q (.bl true) H) : L2.rNotN (.ref i) .non H Q := ⟨rfl, by rw [decide_eq_false (by intro z; cases z)]; exact h⟩
theorem fn_or {P : Program} {w : World} {K : PySem.W.Frag} {mg : Str → Option Value} {base : Heap} {CX : CXT} {k : Nat} {f : Addr} {fd : FuncData} {ps : List Str} {sp sp1 sp2 : Sp} (F1 : FnOk P w K mg base CX k f fd ps sp1) (F2 : FnOk P w K mg base CX k f fd ps sp2)
    (h : ∀ vs H Q E, sp vs H Q E → sp1 vs H Q E ∨ sp2 vs H Q E) : FnOk P w K mg base CX k f fd ps sp :=
  ⟨fun vs H Q E q => (h vs H Q E q).elim (F1.len vs H Q E) (F2.len vs H Q E), fun A outer s H args us vs Q E hr he hb hv hs => (h vs H Q E hs).elim (F1.run A outer s H args us vs Q E hr he hb hv) (F2.run A outer s H args us vs Q E hr he hb hv)⟩
/-! loops -/
section
variable {c : TT} {tb : TS} {D : Ends} {σ : L2.St} {H : Hp}
/-- the int in a slot -/
def iv (σ : L2.St) (i : Nat) : Int := match σ[i]? with
  | some (some (V.int r)) => r
  | _ => 0
def WW (Pv : L2.St → Hp → Prop) (μ : L2.St → Hp → Nat) : Nat → L2.St → Hp → Prop := fun m σ H => m = μ σ H ∧ Pv σ H
theorem s_while (Pv : L2.St → Hp → Prop) (μ : L2.St → Hp → Nat) (h0 : Pv σ H)
    (hs : ∀ σ H, Pv σ H → c σ H fun b H1 => if b = true then ∃ N : L2.St → Hp → Prop, (∀ σ' H', N σ' H' → ∃ m', m' < μ σ H ∧ WW Pv μ m' σ' H') ∧ tb { D with nx := N, ct := N, bk := D.nx } σ H1 else D.nx σ H1) : tWhile c tb D σ H :=
  ⟨WW Pv μ, ⟨_, rfl, h0⟩, fun m σ H ⟨e, p⟩ => by subst e; exact hs σ H p⟩
theorem s_turn {Pv : L2.St → Hp → Prop} {μ : L2.St → Hp → Nat} {m : Nat} (h : tb { D with nx := fun σ' H' => Pv σ' H' ∧ μ σ' H' < m, ct := fun σ' H' => Pv σ' H' ∧ μ σ' H' < m, bk := D.nx } σ H) :
    ∃ N : L2.St → Hp → Prop, (∀ σ' H', N σ' H' → ∃ m', m' < m ∧ WW Pv μ m' σ' H') ∧ tb { D with nx := N, ct := N, bk := D.nx } σ H := ⟨_, fun σ' H' p => ⟨_, p.2, rfl, p.1⟩, h⟩
end
/-! numbers -/
def CDivF (_ j : Int) : Prop := j ≠ 0 ∧ j.natAbs.log2 < 9000
section
variable {X : Cx}
theorem op_divF : OpR X (binaryOp .FloorDiv) (rI CDivF fun i j => .int (i.fdiv j)) := opI fun _ _ _ _ _ _ _ hc q => floordiv_int hc.1 q (.inl (PyProof.noPylong_of_log2 hc.2))
end
theorem divW {a j : Int} (h : 0 < j) (h2 : j.natAbs < 2 ^ 2000) : CDivW a j := wide_div h h2 (by decide) (by decide)
theorem divF {a j : Int} (h : j ≠ 0) (h2 : j.natAbs < 2 ^ 2000) : CDivF a j := ⟨h, Nat.lt_of_lt_of_le (PySem.Flt.log2_lt_of (by decide) h2) (by decide)⟩
theorem mulW {a b : Int} (h1 : a.natAbs < 2 ^ 2000) (h2 : b.natAbs < 2 ^ 2000) : CMulW a b := wide_mul h1 h2 (by decide) (by decide) (by decide)
/-- a law over a head by facts: its last step, the script's sizes told -/
theorem walk_ofEB {l : PySem.W.OpenLaw} {n k : Nat} {qv : Program} {ls : List Str} {XP : (Str → Option Value) → Heap → Prop} {YP : World → Heap → Prop} {dr : DefRec} {CX : World → CXT} {prm : Str}
    (hmost : l.most = some n) (hline : n ≤ sizeLine) (hnod : dr.params.defaults = []) (room : Room k callerA)
    (F : ∀ (w : World) (mg : Str → Option Value) (fa : Addr) (hp : Heap), YP w hp → hp.Ns mainGlobals mg → mg dr.name = some (.ref fa) →
      ∃ (Kf : PySem.W.Frag) (fdt : FuncData) (sp : Sp), Kf.In hp ∧ (∀ (s : Shared) (u : Value), BindsTo s fdt ⟨[u], []⟩ [(prm, u)]) ∧
        (∀ (H : Hp) (a : Addr) (ns : List Int), ns.length ≤ n → (∀ z ∈ ns, Builtin.Int.intBits z ≤ 1048576) → Only H → SqL Kf H a (ns.map V.int) → sp [.ref a] H (fun v _ => v = .bl true) fun _ _ _ => False) ∧
        ∀ base : Heap, Kf.In base → base.Ns mainGlobals mg → FnOk l.prog w Kf mg base (CX w) k fa fdt [prm] sp)
    (none_out : ∀ (w : World) (H : Hp) (s : Shared) (e : Value) (s' : Shared), CX w [] H s (fun _ _ _ => False) e s' → False) :
    PySem.W.WalkO qv ls XP YP l.row.toRowW dr [] (fun f vs => PySem.call f vs) := by
  refine Att.attach_callB hmost hnod fun w s₀ s₁ mg _ fa _ _ _ _ a _ ns G Y _ _ _ gN ob1 xis len bits run => ?_
  obtain ⟨Kf, fdt, sp, kin, bnd, last, fok⟩ := F w mg fa _ Y G.T.g gN
  exact law_call kin G.T.g G.T.b G.T.builtins G.T.nolimit run ob1 xis (Nat.le_trans len hline) room fok bnd (fun H only sq => last H a ns len bits only sq) fun H e s' => none_out w H s₁ e s'
theorem cx0_no {P : Program} (w : World) (H : Hp) (s : Shared) (e : Value) (s' : Shared) (h : CX0 [] H s (fun _ _ _ => False) e s') : False := h
/-! what the head tells: facts as tests of the written part, defs at any address -/
abbrev FB := PySem.W.Frag → Bool
def toldR (fb : List FB) (fn : List He5.DefA) (K : PySem.W.Frag) : He.AlD := ((fb.all fun t => t K) && (fn.all fun e => e.ok K), fn.map fun e => He5.fnA K (e.at_ K))
def dueR (fn : List He5.DefA) : He.AlD := (true, fn.map He5.DefA.val)
def Told (fb : List FB) (fn : List He5.DefA) (K : PySem.W.Frag) : Prop := toldR fb fn K = dueR fn
def toldG (n : Nat) (fb : List FB) (fn : List He5.DefA) (g : Addr → Option Obj) : He.AlD := toldR fb fn (He.frG g (He5.asA g n))
def hookR (n : Nat) (fb : List FB) (fn : List He5.DefA) : PySem.W.Hook where
  α := He.AlD
  obs := fun st => toldG n fb fn st.heap.get?
  val := fun _ => dueR fn
  says := fun _ hp => ∃ Kf : PySem.W.Frag, Kf.In hp ∧ Told fb fn Kf
  of := fun _ _ eq => ⟨_, He.frG_in, eq⟩
  keeps := fun _ _ _ ⟨Kf, hin, tl⟩ kp => ⟨Kf, PySem.W.Frag.In.keeps hin kp, tl⟩
theorem toldG_eq {n : Nat} {fb : List FB} {fn : List He5.DefA} {g : Addr → Option Obj} {st : Shared} (h : ∀ a, g a = st.heap.get? a) : toldG n fb fn g = (hookR n fb fn).obs st := by
  have eg : g = st.heap.get? := funext h
  rw [eg] <;> rfl
theorem Told.fact {fb : List FB} {fn : List He5.DefA} {K : PySem.W.Frag} (tl : Told fb fn K) (i : Nat) {t : FB} (h : fb[i]? = some t := by rfl) : t K = true := by
  have e0 : ((fb.all fun t => t K) && (fn.all fun e => e.ok K)) = true := congrArg Prod.fst tl
  exact List.all_eq_true.mp (Bool.and_eq_true_iff.mp e0).1 t (List.mem_of_getElem? h)
theorem Told.dfn {fb : List FB} {fn : List He5.DefA} {K : PySem.W.Frag} (tl : Told fb fn K) (i : Nat) {e : He5.DefA} (h : fn[i]? = some e := by rfl) : ∃ fd, FunD K e.name e.qual e.params e.body e.scope (e.dvs K) (e.kws K) (e.at_ K) fd := by
  have e0 : ((fb.all fun t => t K) && (fn.all fun e => e.ok K)) = true := congrArg Prod.fst tl
  have e1 : fn.map (fun e => He5.fnA K (e.at_ K)) = fn.map He5.DefA.val := congrArg Prod.snd tl
  have e2 := congrArg (fun l => l[i]?) e1
  simp only [List.getElem?_map, h, Option.map_some] at e2
  exact He5.DefA.funD (Option.some.inj e2) (List.all_eq_true.mp (Bool.and_eq_true_iff.mp e0).2 e (List.mem_of_getElem? h))
/-! own exception classes whose __init__ calls their base's and keeps one field -/
def oexB (C : Addr) : FB := fun K => (match K.lookup C with
  | some ⟨.type tn, _, .cls cd, sl⟩ => (match cd.mro, sl.toList with
    | .ref C' :: bm, [_, _, _, _, some (.builtin n), _] => decide (tn = "type") && (C' == C && (decide (n = "ValueError.__new__") && (!cd.hasDel && (cd.hasDict && PySem.HandSPX.refsVE bm))))
    | _, _ => false)
  | _ => false) && (decide (PySem.W.findIn K (.ref C) "__setattr__" = some (some (.builtin "object.__setattr__"))) && (decide (PySem.W.subIn K (.ref C) (.type "BaseException") = some true) && (decide (PySem.W.typeIn K (.ref C) = some (.type "type")) && PySem.W.keepIn K (.ref C))))
theorem oex_of {K : PySem.W.Frag} {C : Addr} (h : oexB C K = true) : OexC K C := by
  unfold oexB at h
  simp only [Bool.and_eq_true, decide_eq_true_eq] at h
  obtain ⟨h1, h2, h3, h4, h5⟩ := h
  refine ⟨?_, h2, h3, h4, h5⟩
  split at h1
  · rename_i tn dd cd sl ho
    split at h1
    · rename_i C' bm k0 k1 k2 k3 n k5 hm hs
      simp only [Bool.and_eq_true, beq_iff_eq, Bool.not_eq_true', decide_eq_true_eq] at h1
      obtain ⟨rfl, rfl, rfl, hdel, hdct, hr⟩ := h1
      obtain ⟨nm, bs, mro, ns, qn, hd, sn, sub, ab, col, del⟩ := cd
      dsimp only at hm hdel hdct
      subst hm hdel hdct
      have hsl : sl = #[k0, k1, k2, k3, some (.builtin "ValueError.__new__"), k5] := by
        obtain ⟨l⟩ := sl
        simp only at hs
        rw [hs]
      subst hsl
      exact ⟨nm, qn, ns, bs, bm, sn, sub, ab, col, dd, k0, k1, k2, k3, k5, ho, hr⟩
    · cases h1
  · cases h1
/-- the base P, whose __init__ is called through it -/
def baseB (C : Addr) : FB := fun K => PySem.W.readsIn K C (.type "type") && (decide (PySem.W.specialIn K (.ref C) "__getattribute__" = some (some (.builtin "type.__getattribute__"))) && (match PySem.W.findCls K (.ref C) (.type "type") "__init__" with
  | some (.val (.builtin n)) => decide (n = "ValueError.__init__")
  | _ => false))
structure BaseC (K : PySem.W.Frag) (C : Addr) : Prop where
  rd : PySem.W.readsIn K C (.type "type") = true
  ga : PySem.W.specialIn K (.ref C) "__getattribute__" = some (some (.builtin "type.__getattribute__"))
  at_ : PySem.W.findCls K (.ref C) (.type "type") "__init__" = some (.val (.builtin "ValueError.__init__"))
theorem base_of {K : PySem.W.Frag} {C : Addr} (h : baseB C K = true) : BaseC K C := by
  unfold baseB at h
  simp only [Bool.and_eq_true, decide_eq_true_eq] at h
  obtain ⟨h1, h2, h3⟩ := h
  refine ⟨h1, h2, ?_⟩
  split at h3
  · rename_i n e
    rw [e, of_decide_eq_true h3]
  · cases h3
section
variable {X : Cx} {e : Expr} {es : List Expr} {ta : TA} {p1 p2 pos : Pos}
/-- P.__init__(self, ..) -/
theorem pe_cinit {x : Str} {C : Addr} {pl : Sem Bool} (hg : Gl X x) (hm : X.mg x = some (.ref C)) (r : BaseC X.K C) (ha : PA X (e :: es) ta) (hdb : (x == ("__debug__" : Str)) = false := by decide)
    (hc : eval (.Call (.Attribute (.Name x p1) "__init__" p2) (e :: es) [] pos) X.env = (do
      let ov ← eval (.Name x p1) X.env
      standAt p2.atName
      let (f, fst) ← holding [ov] (getMethod ov "__init__" pl)
      callWith pos f fst (backTo pos (starEach (e :: es) X.env)) (backToKw pos (keywordEach [] X.env))) := by rfl)
    (he : starEach (e :: es) X.env = (false, eval e X.env) :: starEach es X.env := by rfl) (hpl : (backTo pos (starEach es X.env)).any (·.1) = false := by rfl) :
    PE X (.Call (.Attribute (.Name x p1) "__init__" p2) (e :: es) [] pos) (tVeI X.K ta) := by
  refine ⟨fun pins s σ H Q I h => ?_⟩
  refine PySem.W.methodCall_KW (ld_glob I hg hm ?_ hdb) hc
  refine PySem.W.method_cls I.kIn r.ga (PySem.W.cls_value I.kIn r.rd r.at_ (by decide +kernel) ?_)
  show wpAny _ _ (callWith pos (Value.builtin "ValueError.__init__") [] (backTo pos (starEach (e :: es) X.env)) []) _ _ _
  refine PyProof.Rows.callWith_method1 (thn (ha.run pos pins _ σ H _ (I.tok _) h) fun us s1 ⟨vs, H1, I1, r1, a, C, ws, ev, hl, T, ea, q⟩ => ?_) he hpl
  subst ev
  cases r1 with
  | @cons _ u0 _ ur ra rw' =>
    obtain rfl : u0 = Value.ref a := ra
    have hlen : ur.length ≤ sizeLine := by rw [← Paired.length rw']; exact len_le hl
    exact oinit_ok T I1 ea hlen fun s' J => ⟨.non, H1, J, rfl, q⟩
end
/-! isinstance of a caught own error, with or without a dict of its own -/
structure IsX (K : PySem.W.Frag) (D : Addr) : Prop where
  ga : PySem.W.findIn K (.ref D) "__getattribute__" = some (some (.builtin "BaseException.__getattribute__"))
  gg : PySem.W.findIn K (.ref D) "__getattr__" = some none
  sub : PySem.W.subIn K (.ref D) (.type "BaseException") = some true
  dct : PySem.W.hasDictIn K D = true
  cl : PySem.W.findIn K (.ref D) "__class__" = some (some (.builtin "object.__class__"))
  gt : PySem.W.specialIn K (.builtin "object.__class__") "__get__" = some (some (.builtin "getset_descriptor.__get__"))
  tk : PySem.W.takesIn K (.builtin "object.__class__") = some true
  mro : PySem.W.mroIn K D (.type "object") = some true
def isxB (x : Str) : FB := fun K => decide (PySem.W.findIn K (.ref (He.ga K x)) "__getattribute__" = some (some (.builtin "BaseException.__getattribute__"))) && (decide (PySem.W.findIn K (.ref (He.ga K x)) "__getattr__" = some none) &&
  (decide (PySem.W.subIn K (.ref (He.ga K x)) (.type "BaseException") = some true) && (PySem.W.hasDictIn K (He.ga K x) && (decide (PySem.W.findIn K (.ref (He.ga K x)) "__class__" = some (some (.builtin "object.__class__"))) &&
  (decide (PySem.W.specialIn K (.builtin "object.__class__") "__get__" = some (some (.builtin "getset_descriptor.__get__"))) && (decide (PySem.W.takesIn K (.builtin "object.__class__") = some true) && decide (PySem.W.mroIn K (He.ga K x) (.type "object") = some true)))))))
theorem isx_of {K : PySem.W.Frag} {x : Str} (h : isxB x K = true) : IsX K (He.ga K x) := by
  unfold isxB at h
  simp only [Bool.and_eq_true, decide_eq_true_eq] at h
  obtain ⟨h1, h2, h3, h4, h5, h6, h7, h8⟩ := h
  exact ⟨h1, h2, h3, h4, h5, h6, h7, h8⟩
end R
namespace PySem.W
open PySem PySem.Spec PySem.Calls PyProof.Rows
section
variable {prog : Program} {w : World} {A : Around} {E : Value → Shared → Prop} {s : Shared} {K : Frag} {x D : Addr} {ox : Obj} {od : Option Obj}
theorem r_findcls (T : R.IsX K D) : findObj K D od "__class__" = some (.bind (.builtin "getset_descriptor.__get__") (.builtin "object.__class__")) := by
  obtain ⟨cd, e1, _⟩ := any_some T.dct
  unfold findObj
  simp [e1, T.cl, T.gt, T.tk]
theorem r_readcls {Q : Option Value → Shared → Prop} (T : R.IsX K D) (X : K.In s.heap) (I : InstAt s.heap x ox D od) (h : Q (some (.ref D)) { s with toks := s.toks + 1 }) : wpAny (model prog w) A (getAttr? (.ref x) "__class__") Q E s := by
  obtain ⟨hp, gn, dr, tk, os⟩ := s
  have l0 := I.type (M := model prog w)
  have l1 := looks_findIn (M := model prog w) X T.ga
  have l2 := looks_findIn (M := model prog w) X T.gg
  have l3 := looks_find (M := model prog w) X I (r_findcls (od := od) T)
  have lsub : Looks (model prog w) hp (isInstance (.ref x) (.type "BaseException")) true := l0.andThen (looks_subIn X T.sub)
  have n1 : (Value.builtin "BaseException.__getattribute__" == Value.builtin "object.__getattribute__") = false := by decide +kernel
  have n2 : (onTheHeap (Value.ref D) && Value.builtin "BaseException.__getattribute__" == Value.builtin "object.__getattribute__") = false := by rw [n1]; rfl
  have n3 : (false && onTheHeap (Value.builtin "BaseException.__getattribute__")) = false := rfl
  unfold getAttr? getAttrBy? getAttrBy
  refine wpAny_bind (wpAny_mkText (wpAny_bind (wpAny_attempt (wpAny_holding (wpAny_bind (l0.at (wpAny_bind (l1.at ?_))))))))
  show wpAny _ _ (if (onTheHeap (Value.ref D) && Value.builtin "BaseException.__getattribute__" == Value.builtin "object.__getattribute__") = true then _ else _) _ _ _
  rw [n2, if_neg Bool.false_ne_true]
  unfold getAttrByItsOwn hookBefore
  refine wpAny_bind ?_
  rw [if_pos (show onTheHeap (Value.ref D) = true from rfl)]
  refine l2.at ?_
  refine wpAny_bind (wpAny_attempt (wpAny_holding ?_))
  unfold callGetattribute
  rw [n3, if_neg Bool.false_ne_true]
  unfold boundAndCalled
  rw [PySem.F.excAttr_ValueError.ga.bind (.ref x)]
  refine wpAny_bind (wpAny_pure ?_)
  show wpAny _ _ (call (.builtin "BaseException.__getattribute__") [.ref x, .str "__class__" tk]) _ _ _
  refine wpAny_call (codeAny_call_builtin PySem.F.excAttr_ValueError.ga.plain PySem.F.entry_bexc_ga ?_)
  refine @check_slot (model prog w) _ _ ⟨hp, gn, dr, tk + 1, os⟩ "BaseException.__getattribute__" "BaseException" "__getattribute__" (.ref x) [.str "__class__" tk] [] _ (by decide +kernel) (by decide +kernel) lsub (PySem.F.args_bexc_ga (.ref x) (.str "__class__" tk)) ?_
  unfold Builtin.«object.__getattribute__»
  refine wpAny_bind (wpAny_of_eq (a := ((Value.ref x : Value), [Value.str "__class__" tk])) (by first | rfl | (simp only [slotArgs]; rfl)) ?_)
  refine wpAny_bind (wpAny_pure (wpAny_bind (l0.at (wpAny_bind (l3.at ?_)))))
  show wpAny _ _ (holding [Value.builtin "object.__class__"] (call (.builtin "getset_descriptor.__get__") [.builtin "object.__class__", .ref x, .ref D]) >>= ret) _ _ _
  refine wpAny_bind (wpAny_holding (wpAny_call (class_get (s := ⟨hp, gn, dr, tk + 1, os⟩) (ox := ox) (od := od) X I T.mro ?_)))
  refine wpAny_pure ?_
  show wpAny _ _ (handedOut (.ref D)) _ _ _
  rw [handedOut_of (v := .ref D) rfl]
  first
    | exact wpAny_pure (wpAny_pure h)
    | exact wpAny_pure h
    | exact wpAny_pure (wpAny_bind (wpAny_pure (wpAny_pure h)))
theorem r_kit (T : R.IsX K D) : KitX K (.ref x) (.ref D) (fun hp => InstAt hp x ox D od) where
  ty := fun _ _ _ I => I.type
  it := fun _ _ X _ => by
    obtain ⟨cd, e1, _⟩ := any_some T.dct
    unfold clsIn at e1
    split at e1
    · rename_i _ _ _ _ at_
      intro A' Q' E' s' k q
      unfold isType loadHead
      exact wpAny_bind (wpAny_loadPart (k _ _ (X _ _ at_)) (wpAny_pure q))
    · cases e1
  ne := fun hp tp dd its n sl X at_tp => by
    obtain ⟨cd, e1, _⟩ := any_some T.dct
    refine Bool.eq_false_iff.mpr fun q => ?_
    obtain rfl : D = tp := Value.ref.inj (beq_iff_eq.mp q)
    unfold clsIn at e1
    split at e1
    · rename_i _ _ _ _ at_
      exact nomatch (X _ _ at_).symm.trans at_tp
    · cases e1
  ca := fun X I k => r_readcls T X I k
end
end PySem.W
namespace R
open PySem PySem.Spec PyProof.Rows L2
theorem callIsX {X : Cx} {a D : Addr} {oe : Obj} {d : Option Addr} {pn : List (Addr × Obj)} (T : IsX X.K D) (hz : Zc (.ref D) d oe) (hf : ∃ vs, oe.data = .fields vs) :
    CallR (X.suite a ((a, oe) :: pn)) (.builtin "isinstance") (fun xs H Q => ∃ fs, (∀ dd, d = some dd → H dd = some (.xd fs)) ∧ rIsE X.K D a xs H Q) := by
  intro pins s σ H xs us Q I r h
  obtain ⟨fs, hdd, c, cv, b, rfl, hcv, e, q⟩ := h
  cases r with
  | cons rx rr =>
    cases rr with
    | cons rt rr =>
      cases rr
      cases rx
      have ec := hcv _ rt
      subst ec
      obtain ⟨hget, _⟩ := I.pin (a, oe) (List.mem_append.mpr (.inl List.mem_cons_self))
      obtain ⟨vs, hv⟩ := hf
      have J : ∃ od, PySem.W.InstAt s.heap a oe D od := by
        obtain ⟨oc, dd, oda, osl⟩ := oe
        obtain ⟨h1, h2⟩ := hz
        dsimp only at h1 h2 hv
        subst h1 h2 hv
        cases dd with
        | none => exact ⟨none, hget, rfl, rfl, trivial⟩
        | some dx =>
          obtain ⟨mA, hns, _⟩ : ObjOk X.prog X.w H s.heap dx (.xd fs) := I.hok dx _ (hdd dx rfl)
          obtain ⟨o, _, _, ho, _⟩ := hns
          exact ⟨some o, hget, rfl, rfl, ho⟩
      obtain ⟨od, J⟩ := J
      exact PySem.W.kia_one (PySem.W.r_kit T) I.kIn J e (fun z => nomatch z) fun tk => ⟨.bl b, H, I.kept (t' := tk) fun _ _ z => z, rfl, q⟩
/-- isinstance(e, C), e the error that the suite holds: what is asked -/
def rIsXd (K : PySem.W.Frag) (D a : Addr) (d : Option Addr) : List V → Hp → VK → Prop := fun xs H Q => ∃ fs, (∀ dd, d = some dd → H dd = some (.xd fs)) ∧ rIsE K D a xs H Q
/-- what such a class is, its __init__ at fI, its field f -/
structure XIn (K : PySem.W.Frag) (C fI : Addr) (f : Str) : Prop where
  oex : OexC K C
  iC : PySem.W.findIn K (.ref C) "__init__" = some (some (.ref fI))
  tI : PySem.W.typeIn K (.ref fI) = some (.type "function")
  noF : PySem.W.findIn K (.ref C) f = some none
  xf : XfC K C
def xinB (x f : Str) : FB := fun K => oexB (He.ga K x) K && (decide (PySem.W.findIn K (.ref (He.ga K x)) "__init__" = some (some (.ref (He.ma K (He.ga K x) "__init__")))) && (decide (PySem.W.typeIn K (.ref (He.ma K (He.ga K x) "__init__")) = some (.type "function")) &&
  (decide (PySem.W.findIn K (.ref (He.ga K x)) f = some none) && xfB K (He.ga K x))))
theorem xin_of {K : PySem.W.Frag} {x f : Str} (h : xinB x f K = true) : XIn K (He.ga K x) (He.ma K (He.ga K x) "__init__") f := by
  unfold xinB at h
  simp only [Bool.and_eq_true, decide_eq_true_eq] at h
  obtain ⟨h1, h2, h3, h4, h5⟩ := h
  exact ⟨oex_of h1, h2, h3, h4, xfB_ok h5⟩
/-- __init__(self, v) of a class at C: the field is kept -/
def sp_init (K : PySem.W.Frag) (C : Addr) (f : Str) : Sp := fun vs H Q _ => ∃ (a : Addr) (v : V), vs = [.ref a, v] ∧ OexC K C ∧ PySem.W.findIn K (.ref C) f = some none ∧ H a = some (exo a C none) ∧
  ∀ dx, H dx = none → dx ≠ a → Q .non (upd (upd H dx (exd dx [(f, v)])) a (exo a C (some dx)))
theorem rd_init {K : PySem.W.Frag} {C : Addr} {f m : Str} {vs : List V} {H : Hp} {Q : VK} {E : XK} (h : sp_init K C f vs H Q E) :
    tSeq (tDrop (tVeI K (tCons (tVar 0) (tCons (tC (.str m)) tNil)))) (tOst K f (tVar 0) (tVar 1)) { nx := fun _ H' => Q .non H', rt := Q } (L2.start ["self", f] vs) H := by
  obtain ⟨a, v, rfl, T, hn, ha, k⟩ := h
  exact ⟨_, rfl, a, C, [.str m], rfl, by simp, T, ha, _, rfl, _, rfl, a, C, rfl, T, hn, .inl ⟨ha, fun dx h1 h2 => k dx h1 h2⟩⟩
section
variable {ta : TA} {σ : L2.St} {H : Hp} {QX : XK}
def RzP (C : Addr) (sp : Sp) (QX : XK) (vs : List V) (H1 : Hp) : Prop := vs.length ≤ 1000 ∧ ∀ a, H1 a = none → sp (.ref a :: (vs ++ [])) (upd H1 a (exo a C none))
  (fun v H2 => v = .non ∧ ∃ (d : Addr) (fs : List (Str × V)), H2 a = some (exo a C (some d)) ∧ H2 d = some (exd d fs) ∧ H1 d = none ∧ QX (.ref C) (some d) (upd (del H2 a) d (.xd fs))) (fun _ _ _ => False)
theorem s_mko {C : Addr} {sp : Sp} (h : ta σ H fun vs H1 => RzP C sp QX vs H1) : tMkO C sp [] ta σ H QX := h
theorem s_raise {K : PySem.W.Frag} {C : Addr} {f : Str} {v : V} (T : OexC K C) (hn : PySem.W.findIn K (.ref C) f = some none) (k : ∀ d H', H d = none → H' d = some (.xd [(f, v)]) → Same H H' → QX (.ref C) (some d) H') : RzP C (sp_init K C f) QX [v] H := by
  refine ⟨by simp, fun a ha => ⟨a, v, rfl, T, hn, upd_same, fun dx hdx hne => ⟨rfl, dx, [(f, v)], upd_same, ?_, ?_, ?_⟩⟩⟩
  · rw [upd_ne hne, upd_same]
  · rw [upd_ne hne] at hdx; exact hdx
  · rw [upd_ne hne] at hdx
    refine k dx _ hdx upd_same fun b o e => ?_
    have n1 : b ≠ dx := ne_of_none e hdx
    have n2 : b ≠ a := ne_of_none e ha
    rw [upd_ne n1, del_ne n2, upd_ne n2, upd_ne n1, upd_ne n2]
    exact e
end
/-! own exceptions without fields; isinstance of a caught error of any own class -/
section
variable {X : Cx} {C : Addr} {bmB : List Value} {B newId initId : String}
/-- X() -/
theorem pmk_own0 {x : Str} {p pos : Pos} (F : ExcBaseFacts B newId initId bmB) (q : PySem.W.excIn X.K C bmB newId = true) (gC : X.mg x = some (.ref C)) (kC : PySem.W.keepIn X.K (.ref C) = true) (r : Raises X (.ref C)) (hg : Gl X x)
    (hdb : (x == ("__debug__" : Str)) = false := by decide) : PMk X (.Call (.Name x p) [] [] pos) (fun _ H Q => Q (.ref C) none H) := by
  intro pins s σ H Q I h
  refine wpAny_Call_Name_kw (ld_glob I hg gC ?_ hdb)
  refine PySem.W.callWith_K0 I.kIn kC ?_
  obtain ⟨bm, N, nm, qn, bs, hdct, sn, sub, ab, col, dd, k0, k1, k2, k3, k5, mN, hC, hN, hni, T⟩ := exc_obj I.kIn q
  refine wpAny_call_exc_subT F T hC hN hni (fun h' e hm => ?_) (Nat.zero_le _)
  exact mk_of I hm r h (I.hok.gone hm.new)
end
def tRz (C : Addr) : L2.St → Hp → XK → Prop := fun _ H Q => Q (.ref C) none H
theorem s_rz {C : Addr} {σ : L2.St} {H : Hp} {Q : XK} (h : Q (.ref C) none H) : tRz C σ H Q := h
/-- a class without fields, raised -/
structure Exc0 (K : PySem.W.Frag) (C : Addr) : Prop where
  ex : PySem.W.excIn K C He.veBase "ValueError.__new__" = true
  kp : PySem.W.keepIn K (.ref C) = true
  sb : PySem.W.subIn K (.ref C) (.type "BaseException") = some true
  ty : PySem.W.typeIn K (.ref C) = some (.type "type")
theorem exc0_of {K : PySem.W.Frag} {x : Str} (c : (He.Fa.exc x).ok K = true) : Exc0 K (He.ga K x) := by
  obtain ⟨h1, h2, h3, h4⟩ := He.exc_ok c
  exact ⟨h1, h2, h3, h4⟩
theorem pmk_z {X : Cx} {C : Addr} {x : Str} {p pos : Pos} (F : Exc0 X.K C) (gC : X.mg x = some (.ref C)) (hg : Gl X x) (hdb : (x == ("__debug__" : Str)) = false := by decide) : PMk X (.Call (.Name x p) [] [] pos) (tRz C) :=
  pmk_own0 PySem.F.excBase_ValueError F.ex gC F.kp (raises_own F.sb F.ty) hg hdb
theorem pmk_zs {X : Cx} {C : Addr} {x m : Str} {j : Nat} {p p2 pos : Pos} (F : Exc0 X.K C) (gC : X.mg x = some (.ref C)) (hg : Gl X x) (hdb : (x == ("__debug__" : Str)) = false := by decide) : PMk X (.Call (.Name x p) [.Constant (.str m) j p2] [] pos) (tRz C) :=
  L2.pmk_own PySem.F.excBase_ValueError F.ex gC F.kp (raises_own F.sb F.ty) hg hdb
def kitcB (x y : Str) (b : Bool) : FB := fun K => decide (PySem.W.kitOne K (.ref (He.ga K x)) (.ref (He.ga K y)) = some b)
def kittB (x : Str) (y : String) (b : Bool) : FB := fun K => decide (PySem.W.kitOne K (.ref (He.ga K x)) (.type y) = some b)
theorem kitc_of {K : PySem.W.Frag} {x y : Str} {b : Bool} (h : kitcB x y b K = true) : PySem.W.kitOne K (.ref (He.ga K x)) (.ref (He.ga K y)) = some b := of_decide_eq_true h
theorem kitt_of {K : PySem.W.Frag} {x : Str} {y : String} {b : Bool} (h : kittB x y b K = true) : PySem.W.kitOne K (.ref (He.ga K x)) (.type y) = some b := of_decide_eq_true h
/-- isinstance(e, c) in an except suite, the class of e told in the reading -/
def rIsA (K : PySem.W.Frag) (cls : Value) (d : Option Addr) (a : Addr) : List V → Hp → VK → Prop := fun xs H Q => ∃ D, cls = .ref D ∧ IsX K D ∧ ∃ fs, (∀ dd, d = some dd → H dd = some (.xd fs)) ∧
  ∃ (c : V) (cv : Value) (b : Bool), xs = [.ref a, c] ∧ ClsV c cv ∧ PySem.W.kitOne K (.ref D) cv = some b ∧ Q (.bl b) H
def rIsAT (K : PySem.W.Frag) (cls : Value) (d : Option Addr) (a : Addr) : List V → Hp → VK → Prop := fun xs H Q => ∃ D, cls = .ref D ∧ IsX K D ∧ ∃ fs, (∀ dd, d = some dd → H dd = some (.xd fs)) ∧
  ∃ (tp : Addr) (cs : List V) (us : List Value) (b : Bool), xs = [.ref a, .ref tp] ∧ H tp = some (.tup cs) ∧ Paired ClsV cs us ∧ PySem.W.kitAny K (.ref D) us = some b ∧ Q (.bl b) H
section
variable {X : Cx} {a : Addr} {cls : Value} {oe : Obj} {d : Option Addr} {pn : List (Addr × Obj)}
theorem inst_of {D : Addr} {pins : List (Addr × Obj)} {σ : L2.St} {H : Hp} {s : Shared} {fs : List (Str × V)} (I : Inv (X.suite a ((a, oe) :: pn)) pins σ H s) (hz : Zc (.ref D) d oe) (hf : ∃ vs, oe.data = .fields vs) (hdd : ∀ dd, d = some dd → H dd = some (.xd fs)) : ∃ od, PySem.W.InstAt s.heap a oe D od := by
  obtain ⟨hget, _⟩ := I.pin (a, oe) (List.mem_append.mpr (.inl List.mem_cons_self))
  obtain ⟨vs, hv⟩ := hf
  obtain ⟨oc, dd, oda, osl⟩ := oe
  obtain ⟨h1, h2⟩ := hz
  dsimp only at h1 h2 hv
  subst h1 h2 hv
  cases dd with
  | none => exact ⟨none, hget, rfl, rfl, trivial⟩
  | some dx =>
    obtain ⟨mA, hns, _⟩ : ObjOk X.prog X.w H s.heap dx (.xd fs) := I.hok dx _ (hdd dx rfl)
    obtain ⟨o, _, _, ho, _⟩ := hns
    exact ⟨some o, hget, rfl, rfl, ho⟩
theorem callIsA (hz : Zc cls d oe) (hf : ∃ vs, oe.data = .fields vs) : CallR (X.suite a ((a, oe) :: pn)) (.builtin "isinstance") (rIsA X.K cls d a) := by
  intro pins s σ H xs us Q I r h
  obtain ⟨D, rfl, T, fs, hdd, c, cv, b, rfl, hcv, e, q⟩ := h
  obtain ⟨u1, u2, rfl, r1, r2⟩ := vals2 r
  cases (show u1 = Value.ref a from r1)
  have ec := hcv.eq r2
  subst ec
  obtain ⟨od, J⟩ := inst_of I hz hf hdd
  exact PySem.W.kia_one (PySem.W.r_kit T) I.kIn J e (fun z => nomatch z) fun tk => ⟨.bl b, H, I.kept (t' := tk) fun _ _ z => z, rfl, q⟩
theorem callIsAT (hz : Zc cls d oe) (hf : ∃ vs, oe.data = .fields vs) : CallR (X.suite a ((a, oe) :: pn)) (.builtin "isinstance") (rIsAT X.K cls d a) := by
  intro pins s σ H xs us Q I r h
  obtain ⟨D, rfl, T, fs, hdd, tp, cs, ws, b, rfl, hT, k, e, q⟩ := h
  obtain ⟨u1, u2, rfl, r1, r2⟩ := vals2 r
  cases (show u1 = Value.ref a from r1)
  cases (show u2 = Value.ref tp from r2)
  obtain ⟨od, J⟩ := inst_of I hz hf hdd
  obtain ⟨_, its, rv, o, h1, h2, n, h3⟩ := (show ObjOk X.prog X.w H s.heap tp (.tup cs) from I.hok tp _ hT)
  have e3 := ClsV.all k rv
  subst e3
  obtain ⟨oc, od', dt, sl⟩ := o
  simp only at h2 h3
  subst h2 h3
  exact PySem.W.kia_tup (PySem.W.r_kit T) I.kIn J h1 e (fun z => nomatch z) fun tk => ⟨.bl b, H, I.kept (t' := tk) fun _ _ z => z, rfl, q⟩
end
section
variable {K : PySem.W.Frag} {a D : Addr} {d : Option Addr} {H : Hp} {Q : VK} {fs : List (Str × V)} {b b1 b2 : Bool}
theorem s_isA {c : V} {cv : Value} (T : IsX K D) (hd : ∀ dd, d = some dd → H dd = some (.xd fs)) (hc : ClsV c cv) (e : PySem.W.kitOne K (.ref D) cv = some b) (h : Q (.bl b) H) : rIsA K (.ref D) d a [.ref a, c] H Q := ⟨D, rfl, T, fs, hd, c, cv, b, rfl, hc, e, h⟩
theorem s_isA0 {c : V} {cv : Value} (T : IsX K D) (hc : ClsV c cv) (e : PySem.W.kitOne K (.ref D) cv = some b) (h : Q (.bl b) H) : rIsA K (.ref D) none a [.ref a, c] H Q := s_isA (fs := []) T (fun _ z => nomatch z) hc e h
theorem s_isAT2 {tp : Addr} {c1 c2 : V} {v1 v2 : Value} (T : IsX K D) (hd : ∀ dd, d = some dd → H dd = some (.xd fs)) (ht : H tp = some (.tup [c1, c2])) (h1 : ClsV c1 v1) (h2 : ClsV c2 v2) (e1 : PySem.W.kitOne K (.ref D) v1 = some b1) (e2 : PySem.W.kitOne K (.ref D) v2 = some b2)
    (h : Q (.bl (b1 || b2)) H) : rIsAT K (.ref D) d a [.ref a, .ref tp] H Q :=
  ⟨D, rfl, T, fs, hd, tp, _, [v1, v2], b1 || b2, rfl, ht, .cons h1 (.cons h2 .nil), kitAny_cons e1 (fun q => kitAny_cons e2 (fun q2 => by rw [q, q2]; exact kitAny_nil) (fun q2 => by rw [q2]; simp)) (fun q => by rw [q]; rfl), h⟩
theorem s_isAT20 {tp : Addr} {c1 c2 : V} {v1 v2 : Value} (T : IsX K D) (ht : H tp = some (.tup [c1, c2])) (h1 : ClsV c1 v1) (h2 : ClsV c2 v2) (e1 : PySem.W.kitOne K (.ref D) v1 = some b1) (e2 : PySem.W.kitOne K (.ref D) v2 = some b2)
    (h : Q (.bl (b1 || b2)) H) : rIsAT K (.ref D) none a [.ref a, .ref tp] H Q := s_isAT2 (fs := []) T (fun _ z => nomatch z) ht h1 h2 e1 e2 h
end
/-! zip of two tuples, walked -/
theorem walk_zipT {K : PySem.W.Frag} {a b : Addr} {xs ys : List V} {n : Nat} (hn : n = min xs.length ys.length) : Walk (RZ.ItzT K a b) n (fun H => SqT K H a xs ∧ SqT K H b ys) (YPair (fun i => xs[i]?) (fun i => ys[i]?)) := by
  subst hn
  refine ⟨fun i _ hi q => ?_, fun _ q => ⟨xs, ys, q.1, q.2, by omega⟩, fun i H v H' _ q y => ?_⟩
  · have h1 : i < xs.length := by omega
    have h2 : i < ys.length := by omega
    exact ⟨xs, ys, xs[i], ys[i], q.1, q.2, by simp [h1], by simp [h2]⟩
  · obtain ⟨T, x, z, h1, h2, h3, h4, h5⟩ := y
    exact ⟨T, x, z, h1, h2, h3, h4 xs q.1, h5 ys q.2⟩
def ZipQ (K : PySem.W.Frag) (R : It → Hp → Prop) (vs : List V) (H1 : Hp) : Prop := ∃ a b xs ys, vs = [.ref a, .ref b] ∧ ((SqL K H1 a xs ∧ SqL K H1 b ys ∧ R (Itz K a b) H1) ∨ (SqT K H1 a xs ∧ SqT K H1 b ys ∧ R (RZ.ItzT K a b) H1))
theorem s_izip {K : PySem.W.Frag} {ta : TA} {σ : L2.St} {H : Hp} {R : It → Hp → Prop} (h : ta σ H fun vs H1 => ZipQ K R vs H1) : RZ.iZipA K ta σ H R := h
theorem s_gunl {K : PySem.W.Frag} {n : Nat} {t : TGs} {p : Addr} {xs : List V} {σ : L2.St} {H : Hp} {QS : L2.St → Hp → Prop} (h1 : SqL K H p xs) (h2 : xs.length = n) (h : t xs σ H QS) : L2.gUnl K n t (.ref p) σ H QS := ⟨p, xs, rfl, h1, h2, h⟩
/-! dicts with tuple keys: pop of a key that is there; fields; makings -/
def rPop1T : V → List V → Hp → VK → Prop := fun x xs H Q => ∃ (a : Addr) (kvs : List (List L2.Key × V)) (k : List L2.Key) (b : Addr) (v : V), x = .ref a ∧ xs = [.ref b] ∧ H a = some (.dT kvs) ∧ H b = some (.tup (k.map kV)) ∧ valV kvs k = some v ∧ Q v (upd H a (.dT (dropK kvs k)))
theorem mt_pop1T {X : Cx} (hu : X.A.units + 1 < cLine) : MtR X "dict.pop" rPop1T := by
  intro pins s σ H x xs v us Q I rx rxs h
  obtain ⟨a, kvs, k, b, v0, rfl, rfl, ha, hb, ev, q⟩ := h
  cases rx
  obtain ⟨u1, rfl, r1⟩ := vals1 rxs
  cases r1
  obtain ⟨z, hd, xs', rel, dd⟩ := dt_of I.hok ha
  have hz : xs'.length ≤ sizeLine := by rw [← Paired.length rel]; exact z
  have r := rel.val k
  rw [ev] at r
  obtain ⟨p, hp, rv⟩ : ∃ p, atKey xs' k = some p ∧ RelV v0 p.2 := by
    cases e : atKey xs' k with
    | none => rw [e] at r; exact r.elim
    | some p => rw [e] at r; exact ⟨p, rfl, r⟩
  refine call_pop_heap (knd := tupleKind (mixKind X.prog X.w)) (k := k) (more := []) (.inl rfl) (PySem.F.args_dict_pop_2 _ _) (tupleKind_room_in1 hu) (key_of I.hok hb) hd dd hp (fun h' dd' hs => ?_) hz
  obtain ⟨o, es, ep, hq, h2, h3, h4, _, h5⟩ := dd'
  have rel' : KT (upd H a (.dT (dropK kvs k))) (dropK kvs k) (withoutH xs' k) := (L2.DX.KT_drop k rel).keeps fun c ys ec => by rw [upd_ne (ne_of ec ha fun z => nomatch z)]; exact ec
  have I2 := d_write (t' := s.toks + (tupleKind (mixKind X.prog X.w)).draws k) (ob := .dT (dropK kvs k)) I (by rw [ha]; exact True.intro) hs ⟨o, hq⟩ (show ObjOk X.prog X.w (upd H a (.dT (dropK kvs k))) h' a (.dT (dropK kvs k)) from ⟨Nat.le_trans (dropK_le kvs k) z, hd, _, rel', o, es, ep, hq, h2, h3, h4, h5⟩)
  exact ⟨v0, _, I2, rv, q⟩
section
variable {K : PySem.W.Frag} {te tv : TE} {ta : TA} {f m : Str} {σ : L2.St} {H : Hp} {Q : VK} {D : Ends} {a C dx : Addr} {fs : List (Str × V)} {v y : V} {sp : Sp} {E : XK}
def FldQ (K : PySem.W.Frag) (f : Str) (Q : VK) (x : V) (H1 : Hp) : Prop := ∃ a C dx fs v, x = .ref a ∧ H1 a = some (.ins C dx fs) ∧ Cls K C ∧ NoAttr K C f ∧ fs.lookup f = some v ∧ Q v H1
theorem s_fld (h : te σ H fun x H1 => FldQ K f Q x H1) : tFld K te f σ H Q := h
theorem mkFld (ha : H a = some (.ins C dx fs)) (c : Cls K C) (n : NoAttr K C f) (l : fs.lookup f = some v) (h : Q v H) : FldQ K f Q (.ref a) H := ⟨a, C, dx, fs, v, rfl, ha, c, n, l, h⟩
def SFldQ (K : PySem.W.Frag) (f : Str) (P : Hp → Prop) (y x : V) (H2 : Hp) : Prop := ∃ a C dx fs, x = .ref a ∧ H2 a = some (.ins C dx fs) ∧ Cls K C ∧ NoAttr K C f ∧ fs.length < 1000 ∧ P (upd H2 a (.ins C dx (putF f y fs)))
theorem s_sfld (h : tv σ H fun y H1 => te σ H1 fun x H2 => SFldQ K f (D.nx σ) y x H2) : sFld K te tv f D σ H := h
theorem mkSFld {P : Hp → Prop} (ha : H a = some (.ins C dx fs)) (c : Cls K C) (n : NoAttr K C f) (l : fs.length < 1000) (h : P (upd H a (.ins C dx (putF f y fs)))) : SFldQ K f P y (.ref a) H := ⟨a, C, dx, fs, rfl, ha, c, n, l, h⟩
def MethQ (C : Addr) (m : Str) (sp : Sp) (E : XK) (ta : TA) (σ : L2.St) (Q : VK) (x : V) (H1 : Hp) : Prop := ∃ a dx fs, x = .ref a ∧ H1 a = some (.ins C dx fs) ∧ fs.lookup m = none ∧ ta σ H1 fun vs H2 => sp (x :: (vs ++ [])) H2 Q E
theorem s_meth (h : te σ H fun x H1 => MethQ C m sp E ta σ Q x H1) : tMeth C m sp [] E te ta σ H Q := h
theorem mkMeth (ha : H a = some (.ins C dx fs)) (l : fs.lookup m = none) (h : ta σ H fun vs H2 => sp (.ref a :: (vs ++ [])) H2 Q E) : MethQ C m sp E ta σ Q (.ref a) H := ⟨a, dx, fs, rfl, ha, l, h⟩
def MakeQ (C : Addr) (sp : Sp) (E : XK) (Q : VK) (vs : List V) (H1 : Hp) : Prop := ∀ x dx, H1 x = none → H1 dx = none → dx ≠ x → sp (.ref x :: (vs ++ [])) (upd (upd H1 dx (.own x)) x (.ins C dx [])) (fun v H2 => v = .non ∧ Q (.ref x) H2) E
theorem s_make (h : ta σ H fun vs H1 => MakeQ C sp E Q vs H1) : tMake C sp [] E ta σ H Q := h
theorem s_dnewT (h : ∀ p H', H p = none → H' p = some (.dT []) → Same H H' → Q (.ref p) H') : tDNewT σ H Q := fun p hp => h p _ hp upd_same (same_upd hp)
theorem s_lenD {kvs : List (L2.Key × V)} (hd : H a = some (.dK kvs)) (h : Q (.int kvs.length) H) : ∃ a' kvs', [V.ref a] = [V.ref a'] ∧ H a' = some (.dK kvs') ∧ Q (.int kvs'.length) H := ⟨a, kvs, rfl, hd, h⟩
def DInQ (Q : VK) (y x : V) (H2 : Hp) : Prop := ∃ a o, x = .ref a ∧ DGet H2 a y o ∧ Q (.bl o.isSome) H2
theorem s_din {ty td : TE} (h : ty σ H fun y H1 => td σ H1 fun x H2 => DInQ Q y x H2) : tDIn ty td σ H Q := h
def DNotInQ (Q : VK) (y x : V) (H2 : Hp) : Prop := ∃ a o, x = .ref a ∧ DGet H2 a y o ∧ Q (.bl (!o.isSome)) H2
theorem s_dnotin {ty td : TE} (h : ty σ H fun y H1 => td σ H1 fun x H2 => DNotInQ Q y x H2) : tDNotIn ty td σ H Q := h
end
end R
/-! the walk of a reading, as far as nothing is asked -/
local macro_rules | `(tactic| walk_at "g1") => `(tactic| first
  | with_reducible refine R.s_seq ?_
  | with_reducible refine R.s_asg ?_
  | ((with_reducible apply R.s_var); focus rfl)
  | with_reducible refine R.s_gname ?_
  | with_reducible refine R.s_op ?_
  | with_reducible refine R.s_c ?_
  | with_reducible refine R.s_cons ?_
  | with_reducible refine R.s_nil ?_
  | with_reducible refine R.s_i0 ?_
  | with_reducible refine R.s_p10_60 ?_
  | with_reducible refine R.s_p10_18 ?_
  | with_reducible refine R.s_p10_8 ?_
  | with_reducible refine R.s_p10_9 ?_
  | with_reducible refine R.s_p10_59 ?_
  | with_reducible refine R.s_p10_6 ?_
  | with_reducible refine R.s_p10_5 ?_
  | with_reducible refine R.s_p10_4 ?_
  | with_reducible refine R.s_p10_12 ?_
  | with_reducible refine R.s_p10_29 ?_
  | with_reducible refine R.s_p10_30 ?_
  | with_reducible refine R.s_p10_39 ?_
  | with_reducible refine R.s_p10_40 ?_
  | with_reducible refine R.s_p10_49 ?_
  | with_reducible refine R.s_p10_50 ?_
  | with_reducible refine R.s_p10_51 ?_
  | with_reducible refine R.s_p10_58 ?_
  | ((with_reducible refine R.s_pow7 ?_ ?_); focus omega)
  | ((with_reducible refine R.s_i ?_ ?_); focus (first | decide | exact R.mulW (by omega) (by omega) | exact R.divW (by decide) (by decide)))
  | with_reducible refine R.s_test ?_
  | with_reducible refine R.s_bl ?_
  | with_reducible refine R.s_ret ?_
  | with_reducible refine R.s_next ?_
  | with_reducible refine R.s_drop ?_
  | with_reducible refine R.s_un ?_
  | with_reducible refine R.s_u ?_
  | with_reducible refine R.s_tB ?_
  | with_reducible refine R.s_andc ?_
  | with_reducible refine R.s_orc ?_
  | with_reducible refine R.s_notc ?_
  | with_reducible refine R.s_andv ?_
  | with_reducible refine R.s_orv ?_
  | with_reducible refine R.s_notv ?_
  | with_reducible refine R.s_ifx ?_
  | with_reducible refine R.s_eqI ?_
  | with_reducible refine R.s_neI ?_
  | with_reducible refine R.s_eqB ?_
  | with_reducible refine R.s_eqS ?_
  | with_reducible refine R.s_neS ?_
  | with_reducible refine R.s_neB ?_
  | with_reducible refine R.s_tup ?_
  | with_reducible refine R.s_lst ?_
  | with_reducible refine R.s_par ?_
  | with_reducible refine R.s_par_ ?_
  | with_reducible refine R.s_par3 ?_
  | with_reducible refine R.s_par3_ ?_
  | with_reducible refine R.s_cb ?_
  | with_reducible refine R.s_call ?_
  | with_reducible refine R.s_turn ?_
  | with_reducible refine R.s_isi_ii ?_
  | with_reducible refine R.s_isi_ib ?_
  | with_reducible refine R.s_bm ?_
  | with_reducible refine R.s_intB ?_
  | with_reducible refine R.s_rng1 ?_
  | with_reducible refine R.s_rng2 ?_
  | with_reducible refine R.s_dget ?_
  | with_reducible refine R.s_gsub ?_
  | with_reducible refine R.s_pc ?_
  | with_reducible refine R.s_pn ?_
  | with_reducible refine R.s_dput ?_
  | with_reducible refine R.s_isN ?_
  | with_reducible refine R.s_isNi ?_
  | with_reducible refine R.s_isNr ?_
  | with_reducible refine R.s_isNb ?_
  | with_reducible refine R.s_bm0 ?_
  | with_reducible refine R.s_lrg2 ?_
  | with_reducible refine R.s_notN ?_
  | with_reducible refine R.s_notNi ?_
  | with_reducible refine R.s_notNr ?_
  | with_reducible refine R.s_chain ?_
  | with_reducible refine R.s_callS ?_
  | with_reducible refine R.s_mko ?_
  | with_reducible refine R.s_rz ?_
  | with_reducible refine R.s_izip ?_
  | with_reducible refine R.s_sl ?_
  | with_reducible refine R.s_nopart ?_
  | with_reducible refine R.s_part ?_
  | with_reducible refine R.s_int_ ?_
  | with_reducible refine R.s_ilist ?_
  | with_reducible refine R.s_itup ?_
  | with_reducible refine R.s_ref_ ?_
  | with_reducible refine R.s_for ?_
  | with_reducible refine R.s_yes ?_
  | with_reducible refine R.s_gcons ?_
  | with_reducible refine R.s_gnil ?_
  | with_reducible refine R.s_abs ?_
  | with_reducible refine R.s_max ?_
  | with_reducible refine R.s_min ?_
  | with_reducible refine R.s_iteT ?_
  | with_reducible refine R.s_iteF ?_
  | with_reducible refine R.s_iteNT ?_
  | with_reducible refine R.s_iteNF ?_
  | ((with_reducible refine R.s_itnP ?_ ?_); focus (with_reducible rfl))
  | ((with_reducible refine R.s_itP ?_ ?_); focus (with_reducible rfl)))
local macro_rules | `(tactic| walk_at "g") => `(tactic| repeat (first | walk_at "g1" | with_reducible refine R.s_if ?_))
local macro_rules | `(tactic| walk_at "c") => `(tactic| repeat (first
  | with_reducible refine R.s_bl ?_
  | with_reducible refine R.s_test ?_
  | with_reducible refine R.s_iteT ?_
  | with_reducible refine R.s_iteF ?_
  | with_reducible refine R.s_iteNT ?_
  | with_reducible refine R.s_iteNF ?_
  | with_reducible refine R.s_if ?_
  | with_reducible refine R.s_next ?_
  | with_reducible refine R.s_gname ?_
  | with_reducible refine R.s_seq ?_))
local macro_rules | `(tactic| walk_at "h") => `(tactic| repeat (walk_at "g1"))
local macro_rules | `(tactic| walk_at "g2") => `(tactic| first
  | with_reducible refine R.s_fld ?_
  | with_reducible refine R.s_sfld ?_
  | with_reducible refine R.s_meth ?_
  | with_reducible refine R.s_make ?_
  | with_reducible refine R.s_din ?_
  | with_reducible refine R.s_dnotin ?_)
local macro_rules | `(tactic| walk_at "G") => `(tactic| repeat (first | walk_at "g1" | walk_at "g2" | with_reducible refine R.s_if ?_))
local macro_rules | `(tactic| walk_at "J") => `(tactic| repeat (first | walk_at "g1" | walk_at "g2"))

/-! range(j) walked, j of any size: the iterator is a short or a long one -/
namespace RLong
open PySem PySem.Spec PyProof.Rows L2
theorem sing {o b : Addr} (h : b ∈ [o]) : b = o := List.mem_singleton.mp h
theorem turnL {P : Program} {w : World} {K : PySem.W.Frag} {tg : Expr} (o : Addr) (n : Nat) : Turn P w K tg (Itr 0 n) [o] o (fun i h => IsLongIter h o (0 + (i : Nat) * 1) ((n : Int) - (i : Nat)) 1) where
  mem := List.mem_cons_self
  obj := fun i h st b hb => by
    cases sing hb
    exact ⟨_, st, fun v z => nomatch (show Data.fields _ = Data.cell v from z)⟩
  keep := fun i h h' st k => k o List.mem_cons_self _ st
  item := by
    intro X eP ew eK calm i pins s σ H E I hf st lt
    subst eP ew eK
    obtain ⟨f0, f1, _, f3, f4, f5⟩ := hf o List.mem_cons_self
    refine (Walks.longrange (prog := X.prog) (w := X.w) (I.ok.hd calm) o 0 1 n).item i s _ _ lt st fun v h' tk ⟨t, ev⟩ st' same => ?_
    subst ev
    have I' : Inv X pins σ H { s with heap := h', toks := tk } := I.turned (fun b u hb e => same b u (by simpa using hb) e) f0 f1 f3 f4 f5
    refine ⟨_, rfl, go_of (s := { s with heap := h', toks := tk }) (n := "longrange_iterator") st' rfl rfl (by decide) ⟨.int (0 + (i : Int)), H, I', ⟨t, by rw [Int.mul_one]⟩, ⟨rfl, rfl⟩, st', fun b hb => (hf b hb).1⟩⟩
  done := by
    intro X eP ew eK calm i pins s σ H E I hf st ge
    subst eP ew eK
    obtain ⟨f0, f1, _, f3, f4, f5⟩ := hf o List.mem_cons_self
    exact wpAny_pyNext_long_end (I.ok.hd calm) st (by have z : n ≤ i := ge; omega) fun h' ext => ⟨rfl, I.turned (t' := s.toks) (fun b u hb e => ext b u hb e) f0 f1 f3 f4 f5⟩
  self := fun _ _ _ _ _ st h => wpAny_pyIter_longiter st h
def iRngW (ta : TA) : TI := fun σ H R => ta σ H fun vs H1 => ∃ j : Int, vs = [.int j] ∧ R (Itr 0 j.toNat) H1
theorem size_toNat (j : Int) : Builtin.Range.rangeSize 0 j 1 = (j.toNat : Int) := by rw [rangeSize_one]; split <;> omega
theorem pi_rangeW {X : Cx} {tg a : Expr} {ta : TA} {p pos : Pos} (hg : Gl X "range") (hm : X.mg "range" = none) (ha : PA X [a] ta) (hs : starEach [a] X.env = [(false, eval a X.env)] := by rfl) : PI X tg (.Call (.Name "range" p) [a] [] pos) (iRngW ta) := by
  refine ⟨fun pins s σ H R I h => Call_ (ld_blt I hg hm boot_range (PyProof.Rows.callWith_type1 (thn (ha.run pos pins s σ H _ I h) fun us s1 ⟨vs, H1, I1, r1, j, ev, q⟩ => ?_) hs rfl))⟩
  subst ev
  obtain ⟨v, rfl, t, rfl⟩ : ∃ v, us = [v] ∧ RelV (.int j) v := by
    cases r1 with
    | cons r rr => cases rr; exact ⟨_, rfl, r⟩
  refine call_range_1 ?_
  generalize hT : ({ cls := .type "range", data := .fields #[.int 0 _, .int j _, .int 1 _] } : Obj) = ob
  have I2 : Inv X pins σ H1 { s1 with heap := s1.heap.push ob, toks := s1.toks + 2 } := I1.kept fun b o e => Heap.get?_push_of_some _ e
  subst hT
  cases hsm : Builtin.Range.small 0 j 1 with
  | true =>
    refine wpAny_pyIter_range (IsRange.new ..) hsm ⟨_, [_], _, _, H1, rfl, I2.kept fun b o e => Heap.get?_push_of_some _ e, turn_range _ 0 j.toNat, ?_, fun b hb => ?_, q⟩
    · show IsRangeIter _ _ (0 + ((0 : Nat) : Int) * 1) ((j.toNat : Int) - ((0 : Nat) : Int)) 1
      rw [show (0 : Int) + ((0 : Nat) : Int) * 1 = 0 by decide, show (j.toNat : Int) - ((0 : Nat) : Int) = Builtin.Range.rangeSize 0 j 1 by rw [size_toNat]; omega]
      exact Heap.get?_push_size _ rfl
    · cases sing hb
      exact I2.fpOk (Nat.le_refl _) (I2.hok.fresh (Nat.le_refl _))
  | false =>
    refine wpAny_pyIter_longrange (IsRange.new ..) hsm ⟨_, [_], _, _, H1, rfl, I2.kept fun b o e => Heap.get?_push_of_some _ e, turnL _ j.toNat, ?_, fun b hb => ?_, q⟩
    · show IsLongIter _ _ (0 + ((0 : Nat) : Int) * 1) ((j.toNat : Int) - ((0 : Nat) : Int)) 1
      rw [show (0 : Int) + ((0 : Nat) : Int) * 1 = 0 by decide, show (j.toNat : Int) - ((0 : Nat) : Int) = Builtin.Range.rangeSize 0 j 1 by rw [size_toNat]; omega]
      exact Heap.get?_push_size _ rfl
    · cases sing hb
      exact I2.fpOk (Nat.le_refl _) (I2.hok.fresh (Nat.le_refl _))
end RLong
namespace R
open PySem PySem.Spec PyProof.Rows L2
def RngQW (RI : It → Hp → Prop) (vs : List V) (H : Hp) : Prop := ∃ j : Int, vs = [.int j] ∧ RI (Itr 0 j.toNat) H
theorem s_rngW {ta : TA} {σ : L2.St} {H : Hp} {RI : It → Hp → Prop} (h : ta σ H fun vs H1 => RngQW RI vs H1) : RLong.iRngW ta σ H RI := h
theorem mkRW {RI : It → Hp → Prop} {H : Hp} {j : Int} (n : Nat) (e : j.toNat = n) (h : RI (Itr 0 n) H) : RngQW RI [.int j] H := ⟨j, rfl, by rw [e]; exact h⟩
end R

/-! t[::-1] of a tuple -/
namespace RevT
open PySem PySem.Spec PyProof.Rows L2 HT
theorem adj (n : Nat) : Builtin.Slice.sliceAdjust none none (-1) (n : Int) = ((n : Int) - 1, -1) := by
  unfold Builtin.Slice.sliceAdjust; simp
theorem plc (n : Nat) : Builtin.Slice.slicePlaces ((n : Int) - 1) (-1) (-1) = n := by
  unfold Builtin.Slice.slicePlaces
  rw [if_neg (by decide)]
  by_cases c : (n : Int) - 1 > -1
  · rw [if_pos c, show (-(-1) : Int) = 1 by decide, Int.ediv_one]; omega
  · rw [if_neg c]; omega
theorem pickR (xs : Array Value) : ((List.range xs.size).filterMap fun (m : Nat) => xs[(((xs.size : Int) - 1) + (m : Int) * (-1)).toNat]?).toArray = xs.toList.reverse.toArray := by
  have e : (fun (m : Nat) => xs[(((xs.size : Int) - 1) + (m : Int) * (-1)).toNat]?) = (fun k => xs[k]?) ∘ fun (m : Nat) => (((xs.size : Int) - 1) + (m : Int) * (-1)).toNat := rfl
  rw [e, ← List.filterMap_map]
  have e2 : (List.range xs.size).map (fun m : Nat => (((xs.size : Int) - 1) + (m : Int) * (-1)).toNat) = (List.range xs.size).map (fun k => xs.size - 1 - k) := List.map_congr_left fun m hm => by
    have := List.mem_range.mp hm
    omega
  rw [e2, PySem.W.krv_range, List.filterMap_reverse, PySem.W.krv_all]
section
variable {prog : Program} {w : World} {A : Around} {E : Value → Shared → Prop} {s : Shared}
theorem applied {sl : Addr} {u : Tok} {n : Nat} {Q : Int × Int × Nat → Shared → Prop} (hs : s.heap.IsSliceOf sl .none .none (.int (-1) u)) (h : Q ((n : Int) - 1, -1, n) s) : wpAny (model prog w) A (Builtin.Slice.sliceApplied (.ref sl) (pure (n : Int))) Q E s := by
  obtain ⟨o, ho, _, hd⟩ := id hs
  unfold Builtin.Slice.sliceApplied Builtin.Slice.sliceFields
  refine wpAny_bind (wpAny_bind (wpAny_field ho hd (x := .none) rfl (wpAny_bind (wpAny_field ho hd (x := .none) rfl (wpAny_bind (wpAny_field ho hd (x := .int (-1) u) rfl (wpAny_pure ?_)))))))
  refine wpAny_bind (slicePart_int ?_)
  show wpAny _ _ (if ((-1 : Int) == 0) = true then _ else _) _ _ s
  rw [if_neg (by decide)]
  refine wpAny_bind (slicePart_none (wpAny_bind (slicePart_none (wpAny_bind (wpAny_pure ?_)))))
  show wpAny _ _ (match Builtin.Slice.sliceAdjust none none (-1) (n : Int) with | (lo, hi) => pure (lo, (-1 : Int), Builtin.Slice.slicePlaces lo hi (-1))) _ _ s
  rw [adj n]
  show wpAny _ _ (pure (((n : Int) - 1), (-1 : Int), Builtin.Slice.slicePlaces ((n : Int) - 1) (-1) (-1))) _ _ s
  rw [plc]
  exact wpAny_pure h
theorem turned {t sl : Addr} {items : Array Value} {u : Tok} {Q : Value → Shared → Prop} (ht : IsTup s.heap t items) (hs : s.heap.IsSliceOf sl .none .none (.int (-1) u)) (hz : items.size ≤ sizeLine)
    (h : Q (.ref s.heap.objs.size) { s with heap := s.heap.push { cls := .type "tuple", data := .seq items.toList.reverse.toArray } }) : wpAny (model prog w) A (getItem (.ref t) (.ref sl)) Q E s := by
  have ok : sizeOk (.seq items.toList.reverse.toArray) := by show items.toList.reverse.toArray.size ≤ sizeLine; simpa using hz
  obtain ⟨o, ho, hc, _⟩ := id hs
  have hT : s.TypeIs (.ref sl) "slice" := ⟨o, ho, hc⟩
  unfold getItem
  try with_reducible refine wpAny_holding ?_
  first | refine wpAny_bind (wpAny_pure ?_) | skip
  refine wpAny_bind (wpAny_sequenceKey ht.typeIs (by decide) (wpAny_bind (wpAny_callSpecial?_slot (name := Str.ofString "__getitem__") ht.typeIs PyProof.Rows.slot_tuple_getitem (wpAny_call_entry PyProof.Rows.slot_tuple_getitem ht.typeIs entry_tuple_getitem ?_ (args_tuple_getitem _ _)))))
  show wpAny _ _ (Builtin.Tuple.tupleItemsOf (.ref t) >>= _) _ _ s
  refine wpAny_bind (tupleItemsOf_ ht (wpAny_bind (wpAny_typeOf hT ?_)))
  rw [if_pos (by decide)]
  refine wpAny_bind (applied (n := items.size) hs ?_)
  show wpAny _ _ (if (((items.size : Int) - 1) == 0 && (-1 : Int) == 1 && items.size == items.size) = true then _ else _) _ _ s
  rw [if_neg (by rw [show ((-1 : Int) == 1) = false by decide, Bool.and_false, Bool.false_and]; exact Bool.false_ne_true), pickR]
  first
    | exact wpAny_bind (m := Builtin.Tuple.tupleExact _) (wpAny_newObj_type (wpAny_pure ⟨_, rfl, wpAny_pure h⟩) ok)
    | exact wpAny_bind (m := Builtin.Tuple.tupleExact _) (wpAny_newObj_type (wpAny_bind (wpAny_pure (wpAny_pure ⟨_, rfl, wpAny_pure h⟩))) ok)
    | exact wpAny_bind (wpAny_bind (m := Builtin.Tuple.tupleExact _) (wpAny_newObj_type (wpAny_pure (wpAny_pure ⟨_, rfl, wpAny_pure h⟩)) ok))
    | exact wpAny_bind (wpAny_bind (m := Builtin.Tuple.tupleExact _) (wpAny_newObj_type (wpAny_pure ⟨_, rfl, wpAny_pure h⟩) ok))
end
def tRevT (K : PySem.W.Frag) (te : TE) : TE := fun σ H Q => te σ H fun x H1 => ∃ a xs, x = .ref a ∧ SqT K H1 a xs ∧ ∀ p, H1 p = none → Q (.ref p) (upd H1 p (.tup xs.reverse))
theorem pe_revT {X : Cx} {e : Expr} {te : TE} {k : Nat} {p1 p2 p3 pos : Pos} (he : PE X e te) : PE X (.Subscript e (.Slice none none (some (.UnaryOp .USub (.Constant (.int 1) k p1) p2)) p3) pos) (tRevT X.K te) := by
  refine ⟨fun pins s σ H Q I h => Subscript_ (thn (he.run pins s σ H _ I h) fun v s1 ⟨x, H1, I1, r1, a, xs, ex, hx, q⟩ => ?_)⟩
  subst ex
  cases r1
  have st : PO X (some (.UnaryOp .USub (.Constant (.int 1) k p1) p2)) (tPart (tUn (rU fun i => .int (-i)) (tC (.int 1)))) := po_some (pe_un un_neg pe_int)
  refine wpAny_Slice (thn (po_none.run pins s1 σ H1 (fun o H2 => o = none ∧ H2 = H1) I1 ⟨rfl, rfl⟩) fun vl s2 ⟨l, H2, I2, pl, el, e2⟩ => ?_)
  subst el e2
  refine thn (po_none.run pins s2 σ H2 (fun o H3 => o = none ∧ H3 = H2) I2 ⟨rfl, rfl⟩) fun vu s3 ⟨u, H3, I3, pu, eu, e3⟩ => ?_
  subst eu e3
  refine thn (st.run pins s3 σ H3 (fun o H4 => o = some (-1) ∧ H4 = H3) I3 ⟨1, rfl, -1, rfl, rfl, rfl⟩) fun vs s4 ⟨o, H4, I4, ps, eo, e4⟩ => ?_
  subst eo e4
  cases pl
  cases pu
  cases ps with
  | int i t =>
  have I5 : Inv X pins σ H4 { s4 with heap := s4.heap.push { cls := .type "slice", data := .fields #[.none, .none, .int (-1) t] } } := I4.kept (t' := s4.toks) fun b ob q => Heap.get?_push_of_some _ q
  obtain ⟨its, r, ht, hz⟩ := I5.tuple hx
  have hlen := r.length
  refine tail_any (ops := [.ref a, .ref s4.heap.objs.size]) ht.typeIs PyProof.Rows.slot_tuple_getitem.lookup (turned ht (Heap.IsSliceOf.new _ .none .none (.int (-1) t)) (by rw [List.size_toArray]; omega) ?_) (by with_unfolding_all rfl)
  refine ⟨.ref _, _, I5.laid (t' := s4.toks) (o := .tup xs.reverse) (fun b ob q => Heap.get?_push_of_some _ q) (Nat.le_refl _) ?_, rfl, q _ (I5.hok.fresh (Nat.le_refl _))⟩
  exact ⟨by rw [List.length_reverse]; omega, _, r.reverse, ⟨_, Heap.get?_push_size _ rfl, rfl, 0, rfl⟩⟩
end RevT

/-! zip of a list and a tuple: from the library's zip over any two iterators (KE.GoesZip, KE.GoesMore) -/
namespace RZM
open PySem PySem.Spec PyProof.Rows L2
/-- the list at a and the tuple at b, item by item -/
def ItzM (K : PySem.W.Frag) (a b : Addr) : It where
  go i H := ∃ (xs ys : List V) (x y : V), SqL K H a xs ∧ SqT K H b ys ∧ xs[i]? = some x ∧ ys[i]? = some y
  yld i H v H' := ∃ T x y, v = .ref T ∧ H T = none ∧ H' = upd H T (.tup [x, y]) ∧ (∀ xs, SqL K H a xs → xs[i]? = some x) ∧ ∀ ys, SqT K H b ys → ys[i]? = some y
  stop i H := ∃ xs ys : List V, SqL K H a xs ∧ SqT K H b ys ∧ (i = xs.length ∨ i = ys.length) ∧ i ≤ xs.length ∧ i ≤ ys.length
/-- the five objects of such a zip -/
abbrev five (z TI TO i1 i2 : Addr) : List Addr := [z, TI, TO, i1, i2]
def StM (z TI TO i1 i2 a b : Addr) (i : Nat) (h : Heap) : Prop := IsZip h z TI TO .none ∧ IsTupOf2 h TI (.ref i1) (.ref i2) ∧ (∃ x y, IsTupOf2 h TO x y) ∧ h.IsListIter i1 a i ∧ h.IsTupleIter i2 b i
theorem five_mem {z TI TO i1 i2 c : Addr} (h : c ∈ five z TI TO i1 i2) : c = z ∨ c = TI ∨ c = TO ∨ c = i1 ∨ c = i2 := by simpa [five] using h
theorem five_out {z TI TO i1 i2 c : Addr} (h : c ∉ five z TI TO i1 i2) : c ≠ z ∧ c ≠ TI ∧ c ≠ TO ∧ c ≠ i1 ∧ c ≠ i2 := by simpa [five] using h
theorem StM.lt {z TI TO i1 i2 a b : Addr} {i : Nat} {h : Heap} (st : StM z TI TO i1 i2 a b i h) {c : Addr} (hc : c ∈ five z TI TO i1 i2) : ∃ o, h.get? c = some o ∧ ∀ v, o.data ≠ .cell v := by
  obtain ⟨hz, hTI, ⟨x, y, hTO⟩, ⟨o1, e1, _, d1⟩, ⟨o2, e2, _, d2⟩⟩ := st
  rcases five_mem hc with rfl | rfl | rfl | rfl | rfl
  · exact ⟨_, hz, fun v q => nomatch q⟩
  · exact ⟨_, hTI, fun v q => nomatch q⟩
  · exact ⟨_, hTO, fun v q => nomatch q⟩
  · exact ⟨o1, e1, fun v q => by rw [d1] at q; cases q⟩
  · exact ⟨o2, e2, fun v q => by rw [d2] at q; cases q⟩
theorem turnM {P : Program} {w : World} {K : PySem.W.Frag} {elts : List Expr} {kk : Nat} {tpos : Pos} {a b z TI TO i1 i2 : Addr} (S : ZipSep2 z TI TO i1 i2 [i1, a] [i2, b]) (na : a ≠ i1) (nb : b ≠ i2) :
    Turn P w K (.Tuple elts kk tpos) (ItzM K a b) (five z TI TO i1 i2) z (StM z TI TO i1 i2 a b) where
  mem := by simp [five]
  obj := fun i h st c hc => st.lt hc
  keep := fun i h h' ⟨hz, hTI, ⟨x, y, hTO⟩, h1, h2⟩ k => ⟨k z (by simp [five]) _ hz, k TI (by simp [five]) _ hTI, ⟨x, y, k TO (by simp [five]) _ hTO⟩, h1.at fun o q => k i1 (by simp [five]) o q, h2.at fun o q => k i2 (by simp [five]) o q⟩
  item := by
    intro X hP hw hK hc i pins s σ H E I hf st ⟨xs, ys, x, y, qx, qy, hx, hy⟩
    subst hP hw hK
    have sl := fun {c} (h : c ∈ five z TI TO i1 i2) => st.lt h
    obtain ⟨hz, hTI, ⟨x0, y0, hTO⟩, h1, h2⟩ := st
    obtain ⟨us, ru, pu, _⟩ := I.list qx
    obtain ⟨vs, rv, pv, _⟩ := I.tuple qy
    obtain ⟨u, hu, eu⟩ := ru.get hx
    obtain ⟨v, hv, ev⟩ := rv.get hy
    have hh : X.A.in1.handled = none := I.ok.hd hc
    refine wpAny_pyNext_zipD2_item S (Draws.list hh i1 a na us.toArray) (Draws.tuple hh i2 b nb vs.toArray) hz hTI hTO ⟨h1, pu.isList⟩ ⟨h2, pv⟩
      (by rw [List.size_toArray]; exact (List.getElem?_eq_some_iff.mp hu).1) (by rw [List.size_toArray]; exact (List.getElem?_eq_some_iff.mp hv).1) fun u' v' h' tk eu' ev' hz' hTO' s1 s2 hT _ hk => ?_
    have eu2 : us[i]? = some u' := by simpa using eu'
    have ev2 : vs[i]? = some v' := by simpa using ev'
    rw [hu] at eu2
    rw [hv] at ev2
    cases eu2
    cases ev2
    refine ⟨_, rfl, wpAny_letOwnedTupleGo_zip (s := { s with heap := h', toks := tk }) hz' fun h2' hz2 sb => ?_⟩
    have zlt : z < s.heap.objs.size := Heap.lt_size hz
    have step : ∀ c o, c ∉ five z TI TO i1 i2 → s.heap.get? c = some o → h2'.get? c = some o := fun c o hn e => by
      obtain ⟨n1, n2, n3, n4, n5⟩ := five_out hn
      exact (sb.2 c n1).trans (hk c o n1 n3 n4 n5 e)
    have got : h2'.get? s.heap.objs.size = some { cls := .type "tuple", data := .seq #[u, v] } := (sb.2 _ (Nat.ne_of_gt zlt)).trans hT
    have I2 : Inv X pins σ (upd H s.heap.objs.size (.tup [x, y])) { s with heap := h2', toks := tk } :=
      I.turnedNew (t' := tk) (ch := five z TI TO i1 i2) step hf (Nat.le_refl _) ⟨by show 2 ≤ sizeLine; decide, [u, v], .cons eu (.cons ev .nil), ⟨_, got, rfl, _, rfl⟩⟩
    have nTI : TI ≠ i1 ∧ TI ≠ i2 := ⟨S.TIi1, S.TIi2⟩
    refine ⟨.ref s.heap.objs.size, _, I2, rfl, ⟨_, x, y, rfl, I.hok.fresh (Nat.le_refl _), rfl, fun l hl => by rw [I.list_inj hl qx]; exact hx, fun l hl => by rw [I.tuple_inj hl qy]; exact hy⟩,
      ⟨hz2, (sb.2 _ S.TIz).trans (hk _ _ S.TIz S.TITO nTI.1 nTI.2 hTI), ⟨u, v, (sb.2 _ S.TOz).trans hTO'⟩, s1.1.at fun o q => (sb.2 _ S.zi1.symm).trans q, s2.1.at fun o q => (sb.2 _ S.zi2.symm).trans q⟩, fun c hcm => ?_⟩
    obtain ⟨o, ho, _⟩ := sl hcm
    rw [upd_ne (Nat.ne_of_lt (Heap.lt_size ho))]
    exact (hf c hcm).1
  done := by
    intro X hP hw hK hc i pins s σ H E I hf ⟨hz, hTI, ⟨x0, y0, hTO⟩, h1, h2⟩ ⟨xs, ys, qx, qy, hend, l1, l2⟩
    subst hP hw hK
    obtain ⟨us, ru, pu, _⟩ := I.list qx
    obtain ⟨vs, rv, pv, _⟩ := I.tuple qy
    have e1 := ru.length
    have e2 := rv.length
    have hh : X.A.in1.handled = none := I.ok.hd hc
    exact wpAny_pyNext_zipD2_end S (Draws.list hh i1 a na us.toArray) (Draws.tuple hh i2 b nb vs.toArray) hz hTI hTO ⟨h1, pu.isList⟩ ⟨h2, pv⟩ (by rw [List.size_toArray]; omega) (by rw [List.size_toArray]; omega) (by rw [List.size_toArray, List.size_toArray]; omega)
      fun h' tk hk => ⟨rfl, I.turnedL (t' := tk) (ch := five z TI TO i1 i2) (fun c o hn e => by
        obtain ⟨n1, n2, n3, n4, n5⟩ := five_out hn
        exact hk c o n1 n3 n4 n5 e) hf⟩
  self := fun A i s Q E st h => wpAny_pyIter_zip st.1 h
def iZipM (K : PySem.W.Frag) (ta : TA) : TI := fun σ H R => ta σ H fun vs H1 => ∃ a b xs ys, vs = [.ref a, .ref b] ∧ SqL K H1 a xs ∧ SqT K H1 b ys ∧ R (ItzM K a b) H1
theorem pi_zipM {X : Cx} {e e2 : Expr} {ta : TA} {p pos tpos : Pos} {elts : List Expr} {kk : Nat} (hg : Gl X "zip") (hm : X.mg "zip" = none) (ha : PA X [e, e2] ta)
    (hs : starEach [e, e2] X.env = (false, eval e X.env) :: starEach [e2] X.env := by rfl) (hpl : (backTo pos (starEach [e2] X.env)).any (·.1) = false := by rfl) :
    PI X (.Tuple elts kk tpos) (.Call (.Name "zip" p) [e, e2] [] pos) (iZipM X.K ta) := by
  refine ⟨fun pins s σ H R I h => Call_ (ld_blt I hg hm PyProof.Rows.boot_zip (PyProof.Rows.callWith_type1 (thn (ha.run pos pins s σ H _ I h) fun us s1 ⟨vs, H1, I1, r1, q1⟩ => ?_) hs hpl))⟩
  obtain ⟨a, b, xs, ys, rfl, qx, qy, q⟩ := q1
  obtain ⟨u1, u2, rfl, r, r'⟩ : ∃ u1 u2, us = [u1, u2] ∧ RelV (.ref a) u1 ∧ RelV (.ref b) u2 := by
    cases r1 with
    | cons r rr => cases rr with
      | cons r' rr => cases rr; exact ⟨_, _, rfl, r, r'⟩
  cases r
  cases r'
  obtain ⟨us, ru, pu, _⟩ := I1.list qx
  obtain ⟨vs, rv, pv, _⟩ := I1.tuple qy
  obtain ⟨o2, ho2, _⟩ := id pv
  have la := pu.lt
  have lb : b < s1.heap.objs.size := Heap.lt_size ho2
  generalize hN : s1.heap.objs.size = N at la lb
  refine zip_begins2 (begins_list a us.toArray) (begins_tuple b vs.toArray) pu.isList pv fun h' hz hTI hTO g1 g2 _ hk => ?_
  rw [hN] at hz hTI hTO g1 g2 ⊢
  have st : StM (N + 4) (N + 2) (N + 3) N (N + 1) a b 0 h' := ⟨hz, hTI, ⟨_, _, hTO⟩, ⟨_, g1, rfl, rfl⟩, ⟨_, g2, rfl, rfl⟩⟩
  have sep : ZipSep2 (N + 4) (N + 2) (N + 3) N (N + 1) [N, a] [N + 1, b] := zip_sep2 (fp1 := [a]) (fp2 := [b]) (fun c hc => by rw [List.mem_singleton.mp hc]; exact la) (fun c hc => by rw [List.mem_singleton.mp hc]; exact lb)
  have fresh : ∀ c ∈ five (N + 4) (N + 2) (N + 3) N (N + 1), FpOk X pins H1 c := fun c hc => by
    have hle : s1.heap.objs.size ≤ c := by
      rw [hN]
      rcases five_mem hc with e | e | e | e | e <;> rw [e]
      · exact Nat.le_add_right _ _
      · exact Nat.le_add_right _ _
      · exact Nat.le_add_right _ _
      · exact Nat.le_refl _
      · exact Nat.le_add_right _ _
    exact I1.fpOk hle (I1.hok.fresh hle)
  exact wpAny_pyIter_zip hz ⟨N + 4, five (N + 4) (N + 2) (N + 3) N (N + 1), _, _, H1, rfl, I1.kept (t' := s1.toks) hk, turnM sep (Nat.ne_of_lt la) (Nat.ne_of_lt (Nat.lt_succ_of_lt lb)), st, fresh, q⟩
end RZM
namespace R
open PySem PySem.Spec PyProof.Rows L2
theorem walk_zipM {K : PySem.W.Frag} {a b : Addr} {xs ys : List V} {n : Nat} (hn : n = min xs.length ys.length) : Walk (RZM.ItzM K a b) n (fun H => SqL K H a xs ∧ SqT K H b ys) (YPair (fun i => xs[i]?) (fun i => ys[i]?)) := by
  subst hn
  refine ⟨fun i _ hi q => ?_, fun _ q => ⟨xs, ys, q.1, q.2, by omega, by omega, by omega⟩, fun i H v H' _ q y => ?_⟩
  · exact ⟨xs, ys, xs[i]'(by omega), ys[i]'(by omega), q.1, q.2, List.getElem?_eq_getElem _, List.getElem?_eq_getElem _⟩
  · obtain ⟨T, x, z, h1, h2, h3, h4, h5⟩ := y
    exact ⟨T, x, z, h1, h2, h3, h4 xs q.1, h5 ys q.2⟩
theorem s_zipM {K : PySem.W.Frag} {ta : TA} {σ : L2.St} {H : Hp} {RI : It → Hp → Prop} (h : ta σ H fun vs H1 => ∃ a b xs ys, vs = [.ref a, .ref b] ∧ SqL K H1 a xs ∧ SqT K H1 b ys ∧ RI (RZM.ItzM K a b) H1) : RZM.iZipM K ta σ H RI := h
end R

/-! set(l) of a list of whole numbers, and its sorted list -/
namespace R
open PySem PySem.Spec PyProof.Rows L2
abbrev bare (w : World) : Obj := { cls := .type "set", dict := none, data := .set #[] 0 (.fresh 0 0 (!w.params.followText "set-order")) }
section
variable {P : Program} {w : World} {A : Around} {E : Value → Shared → Prop} {s : Shared}
/-- what is told of the new set -/
def Made (w : World) (s : Shared) (ns : List Int) (r : Value) (z : Shared) : Prop := r = .none ∧ ∃ (g : Heap) (tk c : Nat), z = { s with heap := g, toks := tk } ∧ SetR w g s.heap.objs.size (fun j => decide (j ∈ ns)) c ∧ c ≤ ns.length ∧ ∀ b o, s.heap.get? b = some o → g.get? b = some o
theorem bare_at : (s.heap.push (bare w)).get? s.heap.objs.size = some (bare w) := Heap.get?_push_size _ rfl
theorem bare_size : (s.heap.push (bare w)).objs.size = s.heap.objs.size + 1 := Heap.size_push ..
/-- the new set is filled -/
theorem fill_list {l : Addr} {its : Array Value} (ns : List Int) (calm : A.handled = none) (isl : s.heap.IsList l its) (are : IntsAre its.toList ns) (few : ns.length + 1 < scanBound) :
    wpAny (model P w) A (Builtin.«set.__init__» ⟨[.ref s.heap.objs.size, .ref l], []⟩) (fun r z => ∃ u, r = .done (.ret u) ∧ Made w s ns u z) E { s with heap := s.heap.push (bare w) } := by
  have nl : its.size = ns.length := by
    have := IntsAre.length are
    rwa [Array.length_toList] at this
  obtain ⟨o, ho, hc, many, hd⟩ := isl
  obtain ⟨oc, od, oda, osl⟩ := o
  simp only at hc hd
  subst hc hd
  have lt0 : l < s.heap.objs.size := Heap.lt_size ho
  have kept : (s.heap.push (bare w)).get? l = some _ := Heap.get?_push_of_some _ ho
  have isl1 : (s.heap.push (bare w)).IsList l its := ⟨_, kept, rfl, many, rfl⟩
  have f1 := F.sub_list_set
  have f2 := F.sub_list_frozenset
  have f3 : (Value.type "list" == Value.type "dict") = false := by decide
  have at0 := bare_at (s := s) (w := w)
  unfold Builtin.«set.__init__» noKeywords Builtin.Frozenset.updateFrom
  generalize it : pyIter = IT
  wp_walk
  subst it
  refine wpAny_pyIter_list isl1 ?_
  refine wpAny_bind (wpAny_runValue ?_)
  have apart : l ≠ (s.heap.push (bare w)).objs.size := Nat.ne_of_lt (by rw [bare_size]; exact Nat.lt_succ_of_lt lt0)
  have out : s.heap.objs.size ∉ [(s.heap.push (bare w)).objs.size, l] := by
    rw [bare_size]
    simp only [List.mem_cons, List.not_mem_nil, or_false, not_or]
    exact ⟨Nat.ne_of_lt (Nat.lt_succ_self _), Nat.ne_of_gt lt0⟩
  have each : ∀ (i : Nat) (v : Value), its[i]? = some v → ∃ n t, ns[i]? = some n ∧ v = .int n t := fun i v hv => by
    have hi : i < ns.length := by rw [← nl]; exact (Array.getElem?_eq_some_iff.mp hv).1
    obtain ⟨t, e⟩ := IntsAre.int_at are i v (by rw [Array.getElem?_toList]; exact hv)
    have e2 : ns.getD i 0 = ns[i] := by rw [List.getD_eq_getElem?_getD, List.getElem?_eq_getElem hi]; rfl
    exact ⟨ns[i], t, List.getElem?_eq_getElem hi, by rw [e, e2]⟩
  refine set_update_ints (Walks.list (by simp [calm]) _ l apart its).toS s.heap.objs.size out ns nl few each (its.size - 0) 0 _ (by omega) (Nat.zero_le _) ⟨⟨_, Heap.get?_push_size _ rfl, rfl, rfl⟩, isl1.push _⟩ ?start ?fin
  case start => exact ⟨0, Nat.le_refl 0, setR_new_at (Heap.get?_push_of_some _ at0)⟩
  case fin =>
    intro z c mv hc' hz
    obtain ⟨g, gg, dd, tk, oo⟩ := z
    have e1 : gg = s.gens := mv.gens
    have e2 : dd = s.drawn := mv.drawn
    have e3 : oo = s.os := mv.os
    subst e1 e2 e3
    rw [nl] at hc'
    show wpAny _ _ _ _ _ _
    refine wpAny_pure ?_
    show wpAny _ _ (ret Value.none) _ _ _
    refine wpAny_pure ⟨_, rfl, rfl, g, tk, c, rfl, hz, hc', fun b o e => ?_⟩
    have hb := Heap.lt_size e
    refine mv.heap b o ?_ (Heap.get?_push_of_some _ (Heap.get?_push_of_some _ e))
    rw [bare_size]
    simp only [List.mem_cons, List.not_mem_nil, or_false, not_or]
    exact ⟨Nat.ne_of_lt hb, Nat.ne_of_lt (Nat.lt_succ_of_lt hb)⟩
/-- set(l), l a list of whole numbers -/
theorem call_setL {l : Addr} {its : Array Value} (ns : List Int) {Q : Value → Shared → Prop} (calm : A.handled = none) (isl : s.heap.IsList l its) (are : IntsAre its.toList ns) (few : ns.length + 1 < scanBound)
    (k : ∀ (g : Heap) (tk c : Nat), SetR w g s.heap.objs.size (fun j => decide (j ∈ ns)) c → c ≤ ns.length → (∀ b o, s.heap.get? b = some o → g.get? b = some o) → Q (.ref s.heap.objs.size) { s with heap := g, toks := tk }) :
    wpAny (model P w) A (call (.type "set") [.ref l]) Q E s := by
  obtain ⟨c0, c1, mro0⟩ := F.called_set.mro
  have made0 := F.called_set.made
  have sub0 := F.called_set.sub
  refine wpAny_call (codeAny_of_tree ?_)
  show wpAny _ _ (callAny (.type "set") _) _ _ _
  refine wpAny_pure ⟨Code.quiet_builtin _ (by decide +kernel), codeAny_builtin F.entry_type_call ?_⟩
  rw [Around.under_plain (weight_type_call_type "set" [.ref l] []) rfl]
  have no0 := F.called_set.notType
  have can0 := F.called_set.canCreate
  have type0 := F.typeCall_set_1 (.ref l)
  repeat (any_goals (first | assumption | wp_step))
  refine codeAny_mono (code_set_led1 (.ref l) (E := E) (Q₁ := fun u z => u = .ref s.heap.objs.size ∧ z = { s with heap := s.heap.push (bare w) }) ⟨rfl, rfl⟩) fun r z hr => ?_
  cases r with
  | error e => exact hr
  | ok fl =>
    cases fl with
    | ret u =>
      obtain ⟨rfl, rfl⟩ := hr
      have ty : Shared.TypeIs { s with heap := s.heap.push (bare w) } (.ref s.heap.objs.size) "set" := ⟨_, bare_at, rfl⟩
      have look0 := F.called_set.init.lookup
      have bind0 := F.called_set.init.bind (.ref s.heap.objs.size)
      repeat (any_goals (first | assumption | wp_step))
      refine codeAny_mono (codeAny_call_builtin (R := wants (fun r z => Made w s ns r z) E) F.called_set.init.plain F.entry_set_init (check_set_init_1 ty ?_)) fun r2 z2 hr2 => ?_
      · exact wpAny_mono (fill_list (A := A.in1.in1) ns (by simp [calm]) isl are few) (fun fin z h => by obtain ⟨u, rfl, m⟩ := h; exact m) fun e z h => h
      · cases r2 with
        | error e => exact hr2
        | ok fl2 =>
          cases fl2 with
          | ret r =>
            obtain ⟨rfl, g, tk, c, rfl, hz, hc, hk⟩ := hr2
            repeat (any_goals (first | assumption | wp_step))
            exact k _ _ _ hz hc hk
          | _ => exact hr2.elim
    | _ => exact hr.elim
end
end R
namespace R
open PySem PySem.Spec PyProof.Rows L2
/-- set(l) in a reading -/
def rSetL (w : World) (K : PySem.W.Frag) : List V → Hp → VK → Prop := fun vs H Q => ∃ (a : Addr) (ns : List Int), vs = [.ref a] ∧ SqL K H a (ns.map V.int) ∧ ns.length ≤ 1000 ∧ ∀ (p : Addr) (n : Nat), n ≤ ns.length → H p = none → Q (.ref p) (upd H p (SetO w p (fun j => decide (j ∈ ns)) n))
theorem cr_setL {X : Cx} (calm : X.calm = true) : CallR X (.type "set") (rSetL X.w X.K) := by
  intro pins st σ H vs us Q I r want
  obtain ⟨a, ns, rfl, hs, few, q⟩ := want
  rw [Vals.ref1 r]
  obtain ⟨its, rv, pl, hz⟩ := I.list hs
  refine call_setL ns (I.ok.hd calm) pl.isList (by simpa using RZ.intsAre_vals rv) (by unfold scanBound; omega) fun g tk c hS hc old => ?_
  have none0 : H st.heap.objs.size = none := I.hok.fresh (Nat.le_refl _)
  have J : Inv X pins σ (upd H st.heap.objs.size (SetO X.w st.heap.objs.size (fun j => decide (j ∈ ns)) c)) { st with heap := g, toks := tk } :=
    I.call (ch := []) (Un.laid old (Nat.le_refl _) none0) (I.hok.laid old (Nat.le_refl _) (setO_new hS)) I.bare (fun _ z => nomatch z)
  exact ⟨.ref _, _, J, rfl, q _ c hc none0⟩
/-- sorted(set(l)), fewer than 64 numbers -/
theorem s_setOf {w : World} {K : PySem.W.Frag} {H : Hp} {Q : VK} {a : Addr} {ns : List Int} (hs : SqL K H a (ns.map V.int)) (few : ns.length < 64) (k : ∀ (p : Addr) (n : Nat) (H' : Hp), H p = none → n < 64 → H' p = some (SetO w p (fun j => decide (j ∈ ns)) n) → Same H H' → Q (.ref p) H') : rSetL w K [.ref a] H Q :=
  ⟨a, ns, rfl, hs, by omega, fun p n hn np => k p n _ np (by omega) upd_same (same_upd np)⟩
theorem s_sortedS {w : World} {H : Hp} {Q : VK} {a : Addr} {ns : List Int} {n : Nat} (e : H a = some (SetO w a (fun j => decide (j ∈ ns)) n)) (few : n < 64) (k : ∀ (ys : List Int) (p : Addr) (H' : Hp), ys.Pairwise (· < ·) → (∀ z, z ∈ ys ↔ z ∈ ns) → H p = none → H' p = some (.lst (ys.map V.int)) → Same H H' → Q (.ref p) H') : rSortedSet w [.ref a] H Q :=
  ⟨a, _, n, rfl, e, few, fun ys p srt mem _ np => k ys p _ srt (fun z => (mem z).trans (by simp)) np upd_same (same_upd np)⟩
end R

/-! sorted(set of whole numbers), the numbers as many as one likes -/
namespace R
open PySem PySem.Spec PyProof.Rows L2
section
variable {P : Program} {w : World} {A : Around} {E : Value → Shared → Prop} {s : Shared} {a : Addr} {S : Int → Bool} {n : Nat}
/-- what is told of the sorted list of a set -/
def SortedOf (s : Shared) (S : Int → Bool) (n : Nat) (p : Addr) (z : Shared) : Prop := ∃ (out : Array Value) (c : Nat) (ns : List Int), z.gens = s.gens ∧ z.os = s.os ∧ s.heap.objs.size ≤ p ∧ z.heap.get? p = some (seqObj "list" out c) ∧ IntsAre out.toList ns ∧ ns.Pairwise (· < ·) ∧ (∀ i, i ∈ ns ↔ S i = true) ∧ ns.length = n ∧ ∀ b o, s.heap.get? b = some o → z.heap.get? b = some o
theorem sortedAnySet {Q : Value → Shared → Prop} (hR : SetR w s.heap a S n) (calm : A.handled = none) (few : n ≤ 2000000) (fin : ∀ z p, SortedOf s S n p z → Q (.ref p) z) : wpAny (model P w) A (call (.builtin "sorted") [.ref a]) Q E s := by
  obtain ⟨o, es, ep, t, ho, exs, dat, good, nodup, mem, bnd, fits, many, ris, led⟩ := hR
  refine Calls.call_function_entry kind_sorted plain_sorted entry_sorted (args_sorted1 _) ?_
  unfold Builtin.«sorted»
  refine wpAny_bind (m := checkCount "sorted" 1 1 _) <| wpAny_pure ?_
  refine wpAny_bind <| collect_set (A := A.in1) calm ⟨o, ho, exs.1, dat⟩ fits bnd ris led fun s1 vs old1 grown gen1 os1 perm1 => ?_
  have vlen : vs.length = n := by
    rw [perm1.length_eq, List.length_map, Array.length_toList]; exact many
  have are : IntsAre vs (vs.map Builtin.Re.reRawOf) := ints_of vs fun v hv => by
    obtain ⟨e, he, q⟩ := List.mem_map.mp (perm1.mem_iff.mp hv)
    obtain ⟨i, tk, h1, _⟩ := good e he
    exact ⟨i, tk, q ▸ h1⟩
  have permK : (vs.map Builtin.Re.reRawOf).Perm (es.toList.map keyOf) := by
    have z := perm1.map Builtin.Re.reRawOf
    rwa [List.map_map] at z
  have vline : vs.length ≤ sizeLine := by rw [vlen, sizeLine_eq]; omega
  refine wpAny_bind <| wpAny_newList ?_ vline
  have at1 : (s1.heap.push (seqObj "list" vs.toArray 0)).get? s1.heap.objs.size = some (seqObj "list" vs.toArray 0) := Heap.get?_push_size _ rfl
  refine wpAny_bind <| wpAny_holding <| wpAny_call_entry slot_list_sort ⟨_, at1, rfl⟩ entry_list_sort (SrtO.list_sort_ord SrtO.swo_int at1 vline (fun h2 => SrtO.ints_sortable are h2) fun out h1 h2 => ⟨_, rfl, ?_⟩) (args_list_sort _)
  obtain ⟨k1, k2, k3⟩ := SrtO.ints_out are h1 h2
  obtain ⟨c, hc⟩ := sortedHeap_at (vs := vs) (out := out.toArray) at1
  have permN := k2.trans permK
  refine wpAny_pure ⟨_, rfl, fin _ s1.heap.objs.size ⟨out.toArray, c, out.map SrtO.iv, gen1, os1, grown, hc, k1, lt_of_le_nodup _ k3 (permN.nodup_iff.mpr nodup), fun i => ?_, ?_, fun b u e => ?_⟩⟩
  · rw [permN.mem_iff, ← mem i]
  · rw [permN.length_eq, List.length_map, Array.length_toList]; exact many
  · have q := old1 b u e
    have lt := Heap.lt_size q
    show (sortedHeap (s1.heap.push (seqObj "list" vs.toArray 0)) s1.heap.objs.size vs out.toArray).get? b = some u
    rw [sortedHeap_old (Nat.ne_of_lt lt) (by rw [Heap.size_push]; exact Nat.lt_succ_of_lt lt)]
    exact Heap.get?_push_of_some _ q
end
/-- sorted(found) in a reading -/
def rSortedAny (w : World) : List V → Hp → VK → Prop := fun vs H Q => ∃ (a : Addr) (S : Int → Bool) (n : Nat), vs = [.ref a] ∧ H a = some (SetO w a S n) ∧ n ≤ 2000000 ∧ ∀ (ns : List Int) (p : Addr), ns.Pairwise (· < ·) → (∀ i : Int, i ∈ ns ↔ S i = true) → ns.length = n → H p = none → Q (.ref p) (upd H p (.lst (ns.map V.int)))
theorem cr_sortedAny {X : Cx} (calm : X.calm = true) : CallR X (.builtin "sorted") (rSortedAny X.w) := by
  intro pins st σ H vs us Q I r want
  obtain ⟨a, S, n, rfl, ha, few, q⟩ := want
  have hR := setO_get I ha
  rw [Vals.ref1 r]
  refine sortedAnySet hR (I.ok.hd calm) few fun z p ⟨out, c, ns, gg, oo, grown, hg, hi, hs, hm, hl, old⟩ => ?_
  have line : (ns.map V.int).length ≤ sizeLine := by rw [List.length_map, hl, sizeLine_eq]; omega
  have none0 : H p = none := I.hok.fresh grown
  have J : Inv X pins σ (upd H p (.lst (ns.map V.int))) { st with heap := z.heap, gens := z.gens, drawn := z.drawn, toks := z.toks } :=
    I.call (ch := []) (Un.laid old grown none0) (I.hok.laid old grown ⟨line, out.toList, c, vals_of_ints hi, hg⟩) (by rw [gg]; exact I.bare) (fun _ z => nomatch z)
  have same : z = { st with heap := z.heap, gens := z.gens, drawn := z.drawn, toks := z.toks } := by
    cases z
    cases st
    cases oo
    rfl
  rw [same]
  exact ⟨.ref p, _, J, rfl, q ns p hs hm hl none0⟩
theorem s_setAny {w : World} {K : PySem.W.Frag} {H : Hp} {Q : VK} {a : Addr} {ns : List Int} (hs : SqL K H a (ns.map V.int)) (few : ns.length ≤ 1000) (k : ∀ (p : Addr) (n : Nat) (H' : Hp), H p = none → n ≤ 1000 → H' p = some (SetO w p (fun j => decide (j ∈ ns)) n) → Same H H' → Q (.ref p) H') : rSetL w K [.ref a] H Q :=
  ⟨a, ns, rfl, hs, few, fun p n hn np => k p n _ np (by omega) upd_same (same_upd np)⟩
theorem s_sortedAny {w : World} {H : Hp} {Q : VK} {a : Addr} {ns : List Int} {n : Nat} (e : H a = some (SetO w a (fun j => decide (j ∈ ns)) n)) (few : n ≤ 1000) (k : ∀ (ys : List Int) (p : Addr) (H' : Hp), ys.Pairwise (· < ·) → (∀ z, z ∈ ys ↔ z ∈ ns) → H p = none → H' p = some (.lst (ys.map V.int)) → Same H H' → Q (.ref p) H') : rSortedAny w [.ref a] H Q :=
  ⟨a, _, n, rfl, e, by omega, fun ys p srt mem _ np => k ys p _ srt (fun z => (mem z).trans (by simp)) np upd_same (same_upd np)⟩
end R

/-! membership of data in a list -/
namespace R
open PySem PySem.Spec PyProof.Rows L2
theorem units65 {k : Nat} {A : Around} (r : Room k A) : A.units + 65 < cLine := by have := r.un; omega
def rInQ (K : PySem.W.Frag) : R2 := fun x y H Q => ∃ (a : Addr) (xs : List V) (d : PyData) (ds : List PyData), y = .ref a ∧ SqL K H a xs ∧ DpAll K H xs ds ∧ Dp K H x d ∧ SeqAt.shaped d = true ∧ SeqAt.shaped (.list ds) = true ∧ Q (.bl (ds.any fun z => PyData.eqv z d)) H
theorem op_inQ {X : Cx} (hu : X.A.units + 65 < cLine) : OpR X (compareOp .In) (rInQ X.K) := by
  intro pins st σ H x y v u Q I rx ry want
  obtain ⟨a, xs, d, ds, rfl, hs, hl, hx, sd, sl, q⟩ := want
  obtain ⟨_, here⟩ := Dp.reads I d x v hx rx
  obtain ⟨_, there⟩ := Dp.reads I (.list ds) (.ref a) u (.lst hs hl) ry
  have e1 := SeqAt.canLay_of_shaped sl
  have e2 := SeqAt.canLay_of_shaped sd
  exact SeqAt.in_list_reads there here e1 e2 (room_in_shaped (xs := ds) sd hu) ⟨.bl _, H, I, rfl, q⟩
def rNotInQ (K : PySem.W.Frag) : R2 := fun x y H Q => ∃ (a : Addr) (xs : List V) (d : PyData) (ds : List PyData), y = .ref a ∧ SqL K H a xs ∧ DpAll K H xs ds ∧ Dp K H x d ∧ SeqAt.shaped d = true ∧ SeqAt.shaped (.list ds) = true ∧ Q (.bl (!ds.any fun z => PyData.eqv z d)) H
theorem op_notInQ {X : Cx} (hu : X.A.units + 65 < cLine) : OpR X (compareOp .NotIn) (rNotInQ X.K) := by
  intro pins st σ H x y v u Q I rx ry want
  obtain ⟨a, xs, d, ds, rfl, hs, hl, hx, sd, sl, q⟩ := want
  obtain ⟨_, here⟩ := Dp.reads I d x v hx rx
  obtain ⟨_, there⟩ := Dp.reads I (.list ds) (.ref a) u (.lst hs hl) ry
  exact SeqAt.notIn_list_reads there here (SeqAt.canLay_of_shaped sl) (SeqAt.canLay_of_shaped sd) (room_in_shaped (xs := ds) sd hu) ⟨.bl _, H, I, rfl, q⟩
end R

/-! the divisor of two numbers: what the loop keeps -/
namespace M
/-- what is told of a and b -/
structure DivOk (a b g u v : Int) : Prop where
  hg : g = (Int.gcd a b : Nat)
  eq : u * a + v * b = g
  hu : u.natAbs ≤ max 1 b.natAbs
  hv : v.natAbs ≤ max 1 a.natAbs
/-- behind the first turn: s the sign of g and rest, t that of u -/
structure DivIn (a b g u v r x y s t : Int) (G R U X q : Nat) : Prop where
  hs : s = 1 ∨ s = -1
  ht : t = 1 ∨ t = -1
  hg : g = s * G
  hr : r = s * R
  hu : u = t * U
  hx : x = -(t * X)
  lt : R < G
  px : 0 < X
  det : X * G + U * R = b.natAbs
  gcd : Nat.gcd G R = Int.gcd a b
  e1 : u * a + v * b = g
  e2 : x * a + y * b = r
  last : (U = 0 ∧ v = 1 ∧ g = b) ∨ (0 < U ∧ U * (q * G + R) ≤ b.natAbs ∧ G < q * G + R)
def DivSt (a b g u v r x y : Int) : Prop :=
  (g = a ∧ u = 1 ∧ v = 0 ∧ r = b ∧ x = 0 ∧ y = 1) ∨ (b ≠ 0 ∧ ∃ s t G R U X q, DivIn a b g u v r x y s t G R U X q)
theorem nabs_sign {s : Int} (hs : s = 1 ∨ s = -1) (n : Nat) : (s * (n : Int)).natAbs = n := by
  rcases hs with rfl | rfl <;> omega
theorem fdiv_sign {s : Int} (hs : s = 1 ∨ s = -1) (G R : Nat) : (s * (G : Int)).fdiv (s * R) = ((G / R : Nat) : Int) := by
  rcases hs with rfl | rfl
  · rw [Int.one_mul, Int.one_mul]; exact (Int.ofNat_fdiv G R).symm
  · rw [Int.neg_one_mul, Int.neg_one_mul, Int.neg_fdiv_neg]; exact (Int.ofNat_fdiv G R).symm
theorem fdiv_le (g r : Int) : (g.fdiv r).natAbs ≤ g.natAbs := by
  rcases Int.lt_trichotomy r 0 with h | h | h
  · have e : g.fdiv r = (-g).fdiv (-r) := (Int.neg_fdiv_neg g r).symm
    rw [e, Int.fdiv_eq_ediv_of_nonneg _ (by omega)]
    have := Int.natAbs_ediv_le_natAbs (-g) (-r)
    omega
  · subst h; simp
  · rw [Int.fdiv_eq_ediv_of_nonneg _ (by omega)]
    exact Int.natAbs_ediv_le_natAbs g r
theorem gcd_sub (a b q : Int) : Int.gcd b (a - q * b) = Int.gcd a b := by
  rw [Int.gcd_sub_mul_right_right]
  exact Int.gcd_comm _ _
theorem fmod_sign (a : Int) {b : Int} (hb : b ≠ 0) : ∃ s R, (s = 1 ∨ s = -1) ∧ b = s * (b.natAbs : Int) ∧ a - a.fdiv b * b = s * ((R : Nat) : Int) ∧ R < b.natAbs := by
  have e : a - a.fdiv b * b = a.fmod b := by rw [Int.fmod_def, Int.mul_comm]
  by_cases h : 0 < b
  · have h1 := Int.fmod_lt_of_pos a h
    have h2 := Int.fmod_nonneg_of_pos a h
    exact ⟨1, (a.fmod b).toNat, .inl rfl, by omega, by rw [e]; omega, by omega⟩
  · have h0 : 0 < -b := by omega
    have e2 : a.fmod b = -((-a).fmod (-b)) := by rw [Int.neg_fmod_neg]; omega
    have h1 := Int.fmod_lt_of_pos (-a) h0
    have h2 := Int.fmod_nonneg_of_pos (-a) h0
    exact ⟨-1, ((-a).fmod (-b)).toNat, .inr rfl, by omega, by rw [e, e2]; omega, by omega⟩
theorem gcd_signs {s : Int} (hs : s = 1 ∨ s = -1) (G R : Nat) : Int.gcd (s * (G : Int)) (s * R) = Nat.gcd G R := by
  unfold Int.gcd
  rw [nabs_sign hs, nabs_sign hs]
theorem div_step {a b g u v r x y : Int} (h : DivSt a b g u v r x y) (hr : r ≠ 0) :
    DivSt a b r x y (g - g.fdiv r * r) (u - g.fdiv r * x) (v - g.fdiv r * y) ∧ (g - g.fdiv r * r).natAbs < r.natAbs := by
  rcases h with ⟨rfl, rfl, rfl, rfl, rfl, rfl⟩ | ⟨hb, s, t, G, R, U, X, q, I⟩
  · obtain ⟨s, R, hs, e1, e2, lt⟩ := fmod_sign g hr
    refine ⟨.inr ⟨hr, s, -1, r.natAbs, R, 0, 1, 0, ⟨hs, .inr rfl, e1, e2, by omega, by omega, lt, by omega, by omega, ?_, by omega, ?_, .inl ⟨rfl, rfl, rfl⟩⟩⟩, ?_⟩
    · have h1 := gcd_sub g r (g.fdiv r)
      rw [e2] at h1
      conv at h1 => lhs; arg 1; rw [e1]
      rw [gcd_signs hs] at h1
      exact h1
    · grind
    · rw [e2, nabs_sign hs]; exact lt
  · obtain ⟨hs, ht, hg, hr', hu, hx, lt, px, det, gcd, e1, e2, last⟩ := I
    have hR : 0 < R := by
      rcases Nat.eq_zero_or_pos R with z | z
      · subst z; rw [hr'] at hr; exact absurd (by simp) hr
      · exact z
    have ed : g.fdiv r = ((G / R : Nat) : Int) := by rw [hg, hr']; exact fdiv_sign hs G R
    have dm := Nat.div_add_mod G R
    have ml := Nat.mod_lt G hR
    have hq : 0 < G / R := Nat.div_pos (Nat.le_of_lt lt) hR
    generalize hQ : G / R = Q at *
    generalize hS : G % R = S at *
    have er : g - (Q : Int) * r = s * (S : Int) := by
      have : (G : Int) = R * Q + S := by rw [← dm]; push_cast; rfl
      rw [hg, hr', this]; grind
    rw [ed]
    refine ⟨.inr ⟨hb, s, -t, R, S, X, U + Q * X, Q, ⟨hs, by omega, hr', er, by rw [hx]; grind, ?_, ml, Nat.add_pos_right _ (Nat.mul_pos hq px), ?_, ?_, e2, by grind, .inr ⟨px, ?_, ?_⟩⟩⟩, ?_⟩
    · rw [hu, hx]; push_cast; grind
    · rw [← det, ← dm]; grind
    · rw [← gcd, ← hS, Nat.gcd_comm G R, Nat.gcd_rec R G, Nat.gcd_comm]
    · rw [← det]
      have : Q * R + S = G := by rw [Nat.mul_comm]; exact dm
      rw [this]; omega
    · have : Q * R + S = G := by rw [Nat.mul_comm]; exact dm
      omega
    · rw [er, hr', nabs_sign hs, nabs_sign hs]; exact ml
/-- the sizes in the loop -/
theorem div_sizes {a b g u v r x y : Int} (h : DivSt a b g u v r x y) : x.natAbs ≤ max 1 b.natAbs ∧ u.natAbs ≤ max 1 b.natAbs ∧ y.natAbs ≤ 1 + a.natAbs ∧ v.natAbs ≤ 1 + a.natAbs ∧ g.natAbs ≤ max a.natAbs b.natAbs ∧ r.natAbs ≤ b.natAbs := by
  rcases h with ⟨rfl, rfl, rfl, rfl, rfl, rfl⟩ | ⟨hb, s, t, G, R, U, X, q, I⟩
  · omega
  · obtain ⟨hs, ht, hg, hr', hu, hx, lt, px, det, gcd, e1, e2, last⟩ := I
    have ex : x.natAbs = X := by rw [hx, Int.natAbs_neg]; exact nabs_sign ht X
    have eu : u.natAbs = U := by rw [hu]; exact nabs_sign ht U
    have eg : g.natAbs = G := by rw [hg]; exact nabs_sign hs G
    have er : r.natAbs = R := by rw [hr']; exact nabs_sign hs R
    have hG : 0 < G := by omega
    have hX : X ≤ X * G := Nat.le_mul_of_pos_right X hG
    have hB : 0 < b.natAbs := by omega
    -- v b = g - u a
    have k : ∀ (z w c : Int), z * a + w * b = c → z.natAbs ≤ b.natAbs → c.natAbs ≤ b.natAbs → w.natAbs ≤ 1 + a.natAbs := fun z w c e hz hc => by
      have e' : w * b = c - z * a := by omega
      have e3 : (w * b).natAbs ≤ c.natAbs + (z * a).natAbs := by rw [e']; omega
      rw [Int.natAbs_mul, Int.natAbs_mul] at e3
      have e4 : z.natAbs * a.natAbs ≤ b.natAbs * a.natAbs := Nat.mul_le_mul_right _ hz
      have e5 : w.natAbs * b.natAbs ≤ (1 + a.natAbs) * b.natAbs := by
        have : (1 + a.natAbs) * b.natAbs = b.natAbs + b.natAbs * a.natAbs := by grind
        omega
      exact Nat.le_of_mul_le_mul_right e5 hB
    have hXb : X ≤ b.natAbs := by omega
    have hGb : g.natAbs ≤ b.natAbs ∧ U ≤ b.natAbs := by
      rcases last with ⟨h1, h2, h3⟩ | ⟨hU, h1, h2⟩
      · rw [h3]; omega
      · have hX1 : G ≤ X * G := Nat.le_mul_of_pos_left G px
        have : U ≤ U * (q * G + R) := Nat.le_mul_of_pos_right U (by omega)
        omega
    have hRb : r.natAbs ≤ b.natAbs := by omega
    have k1 := k u v g e1 (by omega) hGb.1
    have k2 := k x y r e2 (by omega) hRb
    omega
theorem div_half {a b g u v : Int} (e1 : u * a + v * b = g) (hb : 0 < b.natAbs) (h1 : 2 * g.natAbs ≤ b.natAbs) (h2 : 2 * u.natAbs ≤ b.natAbs) : 2 * v.natAbs ≤ 1 + a.natAbs := by
  have e' : v * b = g - u * a := by omega
  have e3 : (v * b).natAbs ≤ g.natAbs + (u * a).natAbs := by rw [e']; omega
  rw [Int.natAbs_mul, Int.natAbs_mul] at e3
  have e4 : 2 * u.natAbs * a.natAbs ≤ b.natAbs * a.natAbs := Nat.mul_le_mul_right _ h2
  have x0 : 2 * u.natAbs * a.natAbs = 2 * (u.natAbs * a.natAbs) := Nat.mul_assoc _ _ _
  have x1 : (1 + a.natAbs) * b.natAbs = b.natAbs + b.natAbs * a.natAbs := by rw [Nat.add_mul, Nat.one_mul, Nat.mul_comm a.natAbs]
  have x2 : (2 * v.natAbs) * b.natAbs = 2 * (v.natAbs * b.natAbs) := Nat.mul_assoc _ _ _
  have e6 : (2 * v.natAbs) * b.natAbs ≤ (1 + a.natAbs) * b.natAbs := by omega
  exact Nat.le_of_mul_le_mul_right e6 hb
theorem div_end {a b g u v r x y : Int} (h : DivSt a b g u v r x y) (hr : r = 0) : Int.gcd a b = g.natAbs ∧ u * a + v * b = g ∧ u.natAbs ≤ max 1 b.natAbs ∧ v.natAbs ≤ max 1 a.natAbs := by
  rcases h with ⟨rfl, rfl, rfl, rfl, rfl, rfl⟩ | ⟨hb, s, t, G, R, U, X, q, I⟩
  · subst hr
    refine ⟨by simp, by omega, by omega, by omega⟩
  · have hsz := div_sizes (.inr ⟨hb, s, t, G, R, U, X, q, I⟩)
    obtain ⟨hs, ht, hg, hr', hu, hx, lt, px, det, gcd, e1, e2, last⟩ := I
    have er : r.natAbs = R := by rw [hr']; exact nabs_sign hs R
    have hR : R = 0 := by omega
    subst hR
    have eg : g.natAbs = G := by rw [hg]; exact nabs_sign hs G
    have eu : u.natAbs = U := by rw [hu]; exact nabs_sign ht U
    refine ⟨by rw [← gcd, eg]; simp, e1, hsz.2.1, ?_⟩
    rcases last with ⟨h1, h2, h3⟩ | ⟨hU, h1, h2⟩
    · rw [h2]; omega
    · have hq : 2 ≤ q := by
        rcases Nat.lt_or_ge q 2 with z | z
        · have : q = 0 ∨ q = 1 := by omega
          rcases this with rfl | rfl <;> omega
        · exact z
      have h3 : 2 * G ≤ q * G := Nat.mul_le_mul_right G hq
      have h4 : U * (2 * G) ≤ b.natAbs := Nat.le_trans (Nat.mul_le_mul_left U (by omega)) h1
      have z1 : 2 * G ≤ U * (2 * G) := Nat.le_mul_of_pos_left _ hU
      have z2 : U * (2 * G) = 2 * U * G := by grind
      have z3 : 2 * U ≤ 2 * U * G := Nat.le_mul_of_pos_right _ (by omega)
      have z4 := div_half e1 (by omega) (by omega) (by omega)
      have ha : a.natAbs = 0 → v.natAbs ≤ 1 := by omega
      omega
theorem div_told {a b g u v r x y : Int} (h : DivSt a b g u v r x y) (hr : r = 0) : (g < 0 → DivOk a b (-g) (-u) (-v)) ∧ (¬ g < 0 → DivOk a b g u v) := by
  obtain ⟨k1, k2, k3, k4⟩ := div_end h hr
  refine ⟨fun z => ⟨by omega, ?_, by omega, by omega⟩, fun z => ⟨by omega, k2, k3, k4⟩⟩
  rw [← k2, Int.neg_mul, Int.neg_mul]; omega
end M

/-! powers by n -/
namespace M
/-- the rest of a power -/
def pw (n a : Int) (e : Nat) : Int := a ^ e % n
theorem pw_range {n : Int} (hn : 0 < n) (a : Int) (e : Nat) : 0 ≤ pw n a e ∧ pw n a e < n := ⟨Int.emod_nonneg _ (by omega), Int.emod_lt_of_pos _ hn⟩
theorem pow_emod (a n : Int) (e : Nat) : (a % n) ^ e % n = a ^ e % n := by
  induction e with
  | zero => rw [Int.pow_zero, Int.pow_zero]
  | succ e ih => rw [Int.pow_succ, Int.pow_succ, Int.mul_emod, ih, Int.emod_emod_of_dvd _ (Int.dvd_refl n), ← Int.mul_emod]
theorem pw_mod (n a : Int) (e : Nat) : pw n (a % n) e = pw n a e := pow_emod a n e
/-- what the loop keeps: found * base ^ e -/
theorem pw_turn {n f b : Int} {e : Nat} {r : Int} (h : f * b ^ e % n = r) :
    (e % 2 = 1 → (f * b % n) * (b * b % n) ^ (e / 2) % n = r) ∧ (e % 2 ≠ 1 → f * (b * b % n) ^ (e / 2) % n = r) := by
  have sq : (b * b) ^ (e / 2) = b ^ (2 * (e / 2)) := by rw [Int.pow_mul, Int.pow_succ, Int.pow_succ, Int.pow_zero, Int.one_mul]
  constructor
  · intro ho
    have ee : e = 2 * (e / 2) + 1 := by omega
    rw [Int.mul_emod, Int.emod_emod_of_dvd _ (Int.dvd_refl n), pow_emod, ← Int.mul_emod, sq, ← h]
    conv => rhs; rw [ee, Int.pow_succ]
    congr 1
    grind
  · intro ho
    have ee : e = 2 * (e / 2) := by omega
    rw [Int.mul_emod, pow_emod, ← Int.mul_emod, sq, ← ee, h]
theorem pw_end {n f : Int} (h0 : 0 ≤ f) (h1 : f < n) {b r : Int} (h : f * b ^ 0 % n = r) : f = r := by
  rw [← h, Int.pow_zero, Int.mul_one, Int.emod_eq_of_lt h0 h1]
theorem pw_one {n a : Int} {e : Nat} : 1 % n * (a % n) ^ e % n = pw n a e := by
  rw [Int.mul_emod, Int.emod_emod_of_dvd _ (Int.dvd_refl n), pow_emod, ← Int.mul_emod, Int.one_mul]; rfl
theorem pw_mul (n a : Int) (e : Nat) : pw n a e * a % n = pw n a (e + 1) := by
  unfold pw
  rw [Int.mul_emod, Int.emod_emod_of_dvd _ (Int.dvd_refl n), ← Int.mul_emod, Int.pow_succ]
theorem pw_zero (n a : Int) : pw n a 0 = 1 % n := by unfold pw; rw [Int.pow_zero]
theorem gcd_mod (a n : Int) : Int.gcd (a % n) n = Int.gcd a n := by
  have e : a % n = a - n * (a / n) := by have := Int.emod_add_mul_ediv a n; omega
  rw [e, Int.gcd_comm, Int.gcd_sub_mul_left_right, Int.gcd_comm]
theorem inv_of {n a g u v : Int} (hn : 0 < n) (h : DivOk (a % n) n g u v) (hg : Int.gcd a n = 1) : (u % n * a - 1) % n = 0 := by
  have e := h.eq
  have hg' : g = 1 := by rw [h.hg, gcd_mod, hg]; rfl
  refine Int.emod_eq_zero_of_dvd ?_
  have e1 : a % n = a - n * (a / n) := by have := Int.emod_add_mul_ediv a n; omega
  have e2 : u % n = u - n * (u / n) := by have := Int.emod_add_mul_ediv u n; omega
  refine ⟨-(v) + u * (a / n) - (u / n) * a, ?_⟩
  rw [hg', e1] at e
  rw [e2]
  grind
theorem gcd_pos {a n : Int} (hn : 0 < n) : 0 < Int.gcd a n := Int.gcd_pos_of_ne_zero_right a (by omega)
/-- numbers with the same product by n -/
theorem inv_unit {n a b : Int} (h : (b * a - 1) % n = 0) : b * a % n = 1 % n := by
  have := Int.emod_emod_of_dvd (b * a) (Int.dvd_refl n)
  exact Int.emod_eq_emod_iff_emod_sub_eq_zero.mpr h
theorem inv_pow {n a b : Int} (h : (b * a - 1) % n = 0) (e : Nat) : (pw n b e * pw n a e - 1) % n = 0 := by
  have e1 : b * a % n = 1 % n := inv_unit h
  refine Int.emod_eq_emod_iff_emod_sub_eq_zero.mp ?_
  unfold pw
  rw [← Int.mul_emod, ← Int.mul_pow, ← pow_emod, e1, pow_emod, Int.one_pow]
theorem back_ok {n a b : Int} (hn : 0 < n) (h : (b * a - 1) % n = 0) (e : Nat) : (pw n b (e + 1) * pw n a e * a - 1) % n = 0 := by
  have k := inv_pow h (e + 1)
  rw [← pw_mul n a e] at k
  refine Int.emod_eq_emod_iff_emod_sub_eq_zero.mp ?_
  rw [← Int.emod_eq_emod_iff_emod_sub_eq_zero.mpr k, Int.mul_assoc, Int.mul_emod]
  conv => rhs; rw [Int.mul_emod, Int.emod_emod_of_dvd _ (Int.dvd_refl n)]
theorem gcd_abs (a : Int) {n : Int} (hn : 0 < n) : Nat.gcd n.natAbs (a.natAbs % n.natAbs) = Int.gcd a n := by
  rw [Nat.gcd_comm, ← Nat.gcd_rec, Nat.gcd_comm]; rfl
theorem pw_add (n a : Int) (e f : Nat) : pw n a (e + f) = pw n a e * pw n a f % n := by
  unfold pw
  rw [← Int.mul_emod, Int.pow_add]
theorem pw_pw (n a : Int) (e f : Nat) : pw n a (e * f) = pw n (pw n a e) f := by
  unfold pw
  rw [pow_emod, ← Int.pow_mul]
theorem pw_prod (n a b : Int) (e : Nat) : pw n (a * b) e = pw n a e * pw n b e % n := by
  unfold pw
  rw [← Int.mul_emod, Int.mul_pow]
theorem pw_congr {n a b : Int} (h : a % n = b % n) (e : Nat) : pw n a e = pw n b e := by rw [← pw_mod n a, ← pw_mod n b, h]
theorem inv_unique {n a b c : Int} (b0 : 0 ≤ b) (b1 : b < n) (c0 : 0 ≤ c) (c1 : c < n) (hb : (b * a - 1) % n = 0) (hc : (c * a - 1) % n = 0) : b = c := by
  have h1 : (b - c) % n = 0 := by
    obtain ⟨x, hx⟩ := Int.dvd_of_emod_eq_zero hb
    obtain ⟨y, hy⟩ := Int.dvd_of_emod_eq_zero hc
    refine Int.emod_eq_zero_of_dvd ⟨c * x - b * y, ?_⟩
    have e : b - c = c * (b * a - 1) - b * (c * a - 1) := by grind
    rw [e, hx, hy]; grind
  have h2 := Int.emod_eq_emod_iff_emod_sub_eq_zero.mpr h1
  rw [Int.emod_eq_of_lt b0 b1, Int.emod_eq_of_lt c0 c1] at h2
  exact h2
theorem emod_one_of {n x : Int} (h : (x - 1) % n = 0) : x % n = 1 % n := Int.emod_eq_emod_iff_emod_sub_eq_zero.mpr h
end M

/-! places put together -/
namespace M
theorem snoc_ind {α : Type} {motive : List α → Prop} (l : List α) (nil : motive []) (append_singleton : ∀ (l : List α) (a : α), motive l → motive (l ++ [a])) : motive l := by
  have h : ∀ r : List α, motive r.reverse := fun r => by
    induction r with
    | nil => exact nil
    | cons a r ih => rw [List.reverse_cons]; exact append_singleton _ _ ih
  have := h l.reverse
  rwa [List.reverse_reverse] at this
/-- alike by the greatest number that divides both moduli -/
def alike (m r n s : Int) : Prop := (r - s) % (Int.gcd m n : Nat) = 0
instance (m r n s : Int) : Decidable (alike m r n s) := by unfold alike; exact inferInstance
/-- G divides lcm a b: then it divides what gcd G a and gcd G b both divide -/
theorem dvd_of_parts {G a b y : Nat} (h : G ∣ Nat.lcm a b) (h1 : Nat.gcd G a ∣ y) (h2 : Nat.gcd G b ∣ y) : G ∣ y := by
  rcases Nat.eq_zero_or_pos G with z | hG
  · subst z
    have hl : Nat.lcm a b = 0 := Nat.eq_zero_of_zero_dvd h
    have : a = 0 ∨ b = 0 := by
      rcases Nat.eq_zero_or_pos a with q | q
      · exact .inl q
      · rcases Nat.eq_zero_or_pos b with q2 | q2
        · exact .inr q2
        · exact absurd hl (Nat.ne_of_gt (Nat.lcm_pos q q2))
    rcases this with rfl | rfl
    · simpa using h1
    · simpa using h2
  · have key : G ∣ Nat.lcm (Nat.gcd G a) (Nat.gcd G b) := by
      -- gcd G a * gcd G b = G * gcd G (gcd a b)
      have e1 : Nat.gcd (Nat.gcd G a) (Nat.gcd G b) = Nat.gcd G (Nat.gcd a b) := by
        apply Nat.dvd_antisymm
        · refine Nat.dvd_gcd (Nat.dvd_trans (Nat.gcd_dvd_left _ _) (Nat.gcd_dvd_left _ _)) (Nat.dvd_gcd ?_ ?_)
          · exact Nat.dvd_trans (Nat.gcd_dvd_left _ _) (Nat.gcd_dvd_right _ _)
          · exact Nat.dvd_trans (Nat.gcd_dvd_right _ _) (Nat.gcd_dvd_right _ _)
        · refine Nat.dvd_gcd (Nat.dvd_gcd (Nat.gcd_dvd_left _ _) ?_) (Nat.dvd_gcd (Nat.gcd_dvd_left _ _) ?_)
          · exact Nat.dvd_trans (Nat.gcd_dvd_right _ _) (Nat.gcd_dvd_left _ _)
          · exact Nat.dvd_trans (Nat.gcd_dvd_right _ _) (Nat.gcd_dvd_right _ _)
      have e2 : G * Nat.gcd G (Nat.gcd a b) ∣ Nat.gcd G a * Nat.gcd G b := by
        have l1 : G * Nat.gcd G (Nat.gcd a b) = Nat.gcd (G * G) (Nat.gcd (G * a) (G * b)) := by rw [Nat.gcd_mul_left, Nat.gcd_mul_left]
        have l2 : Nat.gcd G a * Nat.gcd G b = Nat.gcd (Nat.gcd (G * G) (G * b)) (Nat.gcd (a * G) (a * b)) := by rw [Nat.gcd_mul_left, Nat.gcd_mul_left, Nat.gcd_mul_right]
        rw [l1, l2]
        refine Nat.dvd_gcd (Nat.dvd_gcd ?_ ?_) (Nat.dvd_gcd ?_ ?_)
        · exact Nat.gcd_dvd_left _ _
        · exact Nat.dvd_trans (Nat.gcd_dvd_right _ _) (Nat.gcd_dvd_right _ _)
        · exact Nat.dvd_trans (Nat.gcd_dvd_right _ _) (by rw [Nat.mul_comm a G]; exact Nat.gcd_dvd_left _ _)
        · have e3 : a * b = Nat.gcd a b * Nat.lcm a b := (Nat.gcd_mul_lcm a b).symm
          rw [e3, Nat.mul_comm (Nat.gcd a b)]
          have e5 : Nat.gcd (G * G) (Nat.gcd (G * a) (G * b)) ∣ G * Nat.gcd a b := by
            refine Nat.dvd_trans (Nat.gcd_dvd_right _ _) ?_
            rw [Nat.gcd_mul_left]
            exact Nat.dvd_refl _
          exact Nat.dvd_trans e5 (Nat.mul_dvd_mul_right h _)
      have gp : 0 < Nat.gcd G (Nat.gcd a b) := Nat.gcd_pos_of_pos_left _ hG
      have e4 : Nat.gcd (Nat.gcd G a) (Nat.gcd G b) * Nat.lcm (Nat.gcd G a) (Nat.gcd G b) = Nat.gcd G a * Nat.gcd G b := Nat.gcd_mul_lcm _ _
      rw [e1] at e4
      rw [← e4, Nat.mul_comm G] at e2
      exact Nat.dvd_of_mul_dvd_mul_left gp e2
    exact Nat.dvd_trans key (Nat.lcm_dvd h1 h2)
/-- the join of two places -/
structure Joined (m r n s w x : Int) : Prop where
  hw : w = (Nat.lcm m.natAbs n.natAbs : Nat)
  x0 : 0 ≤ x
  x1 : x < w
  e1 : (x - r) % m = 0
  e2 : (x - s) % n = 0
theorem lcm_step {m n : Int} (hm : 0 < m) (hn : 0 < n) : m * (n / (Int.gcd m n : Nat)) = (Nat.lcm m.natAbs n.natAbs : Nat) := by
  obtain ⟨a, rfl⟩ := Int.eq_ofNat_of_zero_le (Int.le_of_lt hm)
  obtain ⟨b, rfl⟩ := Int.eq_ofNat_of_zero_le (Int.le_of_lt hn)
  show (a : Int) * ((b : Int) / ((Nat.gcd a b : Nat) : Int)) = ((Nat.lcm a b : Nat) : Int)
  rw [← Int.natCast_ediv, ← Int.natCast_mul]
  congr 1
  unfold Nat.lcm
  exact (Nat.mul_div_assoc a (Nat.gcd_dvd_right a b)).symm
theorem join_ok {m r n s i : Int} (hm : 0 < m) (hn : 0 < n) (ha : alike m r n s) (hi : (i * (m / (Int.gcd m n : Nat)) - 1) % (n / (Int.gcd m n : Nat)) = 0) :
    Joined m r n s (m * (n / (Int.gcd m n : Nat))) ((r + m * ((s - r) / (Int.gcd m n : Nat) * i % (n / (Int.gcd m n : Nat)))) % (m * (n / (Int.gcd m n : Nat)))) := by
  have gp : 0 < (Int.gcd m n : Nat) := Int.gcd_pos_of_ne_zero_left n (by omega)
  have gd1 : ((Int.gcd m n : Nat) : Int) ∣ m := Int.gcd_dvd_left ..
  have gd2 : ((Int.gcd m n : Nat) : Int) ∣ n := Int.gcd_dvd_right ..
  have ha' : ((Int.gcd m n : Nat) : Int) ∣ s - r := by
    have : ((Int.gcd m n : Nat) : Int) ∣ r - s := Int.dvd_of_emod_eq_zero ha
    have e : s - r = -(r - s) := by omega
    rw [e]; exact (Int.dvd_neg).mpr this
  have hl := lcm_step hm hn
  generalize ((Int.gcd m n : Nat) : Int) = g at *
  obtain ⟨a, rfl⟩ := gd1
  obtain ⟨b, rfl⟩ := gd2
  obtain ⟨c, hc⟩ := ha'
  have g0 : g ≠ 0 := by
    intro z; subst z; simp at hm
  rw [Int.mul_ediv_cancel_left _ g0] at hi hl ⊢
  rw [Int.mul_ediv_cancel_left _ g0] at hi
  rw [hc, Int.mul_ediv_cancel_left _ g0]
  have hw : 0 < g * a * b := by
    have hb : 0 < b * g := by rw [Int.mul_comm]; exact hn
    rw [hl]
    exact Int.natCast_pos.mpr (Nat.lcm_pos (by omega) (by omega))
  have hwne : g * a * b ≠ 0 := by omega
  refine ⟨hl, Int.emod_nonneg _ hwne, Int.emod_lt_of_pos _ hw, ?_, ?_⟩
  · -- by m
    refine Int.emod_eq_zero_of_dvd ?_
    have e := Int.emod_add_mul_ediv (r + g * a * (c * i % b)) (g * a * b)
    refine ⟨(c * i % b) - b * ((r + g * a * (c * i % b)) / (g * a * b)), ?_⟩
    grind
  · refine Int.emod_eq_zero_of_dvd ?_
    have e := Int.emod_add_mul_ediv (r + g * a * (c * i % b)) (g * a * b)
    have e2 := Int.emod_add_mul_ediv (c * i) b
    obtain ⟨k, hk⟩ := Int.dvd_of_emod_eq_zero hi
    -- a (c i - b q) = c + b (c k - a q)
    refine ⟨c * k - a * (c * i / b) - a * ((r + g * a * (c * i % b)) / (g * a * b)), ?_⟩
    generalize (r + g * a * (c * i % b)) / (g * a * b) = Q at *
    generalize (r + g * a * (c * i % b)) % (g * a * b) = X at *
    generalize c * i % b = T at *
    generalize c * i / b = Q2 at *
    have e3 : g * b * (c * k - a * Q2 - a * Q) = g * (c * (b * k)) - g * a * (b * Q2) - g * a * b * Q := by grind
    rw [e3, ← hk]
    grind
/-- the least number that all moduli divide -/
def lcmL (pl : List (Int × Int)) : Nat := pl.foldl (fun w q => Nat.lcm w q.1.natAbs) 1
theorem lcmL_snoc (pl : List (Int × Int)) (q : Int × Int) : lcmL (pl ++ [q]) = Nat.lcm (lcmL pl) q.1.natAbs := by unfold lcmL; rw [List.foldl_append]; rfl
theorem dvd_of_all (y : Nat) : ∀ (pl : List (Int × Int)) (G : Nat), G ∣ lcmL pl → (∀ q ∈ pl, Nat.gcd G q.1.natAbs ∣ y) → G ∣ y := by
  intro pl
  induction pl using snoc_ind with
  | nil => intro G h _; exact Nat.dvd_trans h (Nat.one_dvd y)
  | append_singleton pl q ih =>
    intro G h hq
    rw [lcmL_snoc] at h
    refine dvd_of_parts h (ih _ (Nat.gcd_dvd_right _ _) fun p hp => ?_) (hq q (by simp))
    refine Nat.dvd_trans (Nat.dvd_gcd ?_ (Nat.gcd_dvd_right _ _)) (hq p (by simp [hp]))
    exact Nat.dvd_trans (Nat.gcd_dvd_left _ _) (Nat.gcd_dvd_left _ _)
/-- places put together so far -/
structure Put (pl : List (Int × Int)) (w x : Int) : Prop where
  hw : w = (lcmL pl : Nat)
  x0 : 0 ≤ x
  x1 : x < w
  at_ : ∀ q ∈ pl, (x - q.2) % q.1 = 0
theorem put_nil : Put [] 1 0 := ⟨rfl, by decide, by decide, by simp⟩
theorem put_pos {pl : List (Int × Int)} {w x : Int} (h : Put pl w x) : 0 < w := by have := h.x0; have := h.x1; omega
theorem put_alike {pl : List (Int × Int)} {w x n s : Int} (h : Put pl w x) (ha : ∀ q ∈ pl, alike q.1 q.2 n s) : alike w x n s := by
  have key : Int.gcd w n ∣ (x - s).natAbs := by
    refine dvd_of_all _ pl _ ?_ fun q hq => ?_
    · have e : w.natAbs = lcmL pl := by have := h.hw; omega
      rw [← e]; exact Nat.gcd_dvd_left _ _
    · have d1 : Nat.gcd (Int.gcd w n) q.1.natAbs ∣ q.1.natAbs := Nat.gcd_dvd_right _ _
      have d2 : Nat.gcd (Int.gcd w n) q.1.natAbs ∣ Int.gcd q.1 n := Nat.dvd_gcd d1 (Nat.dvd_trans (Nat.gcd_dvd_left _ _) (Nat.gcd_dvd_right _ _))
      have z1 : ((Nat.gcd (Int.gcd w n) q.1.natAbs : Nat) : Int) ∣ x - q.2 := Int.dvd_trans (Int.ofNat_dvd_left.mpr d1) (Int.dvd_of_emod_eq_zero (h.at_ q hq))
      have z2 : ((Nat.gcd (Int.gcd w n) q.1.natAbs : Nat) : Int) ∣ q.2 - s := Int.dvd_trans (Int.natCast_dvd_natCast.mpr d2) (Int.dvd_of_emod_eq_zero (ha q hq))
      have z3 := Int.dvd_add z1 z2
      rw [show x - q.2 + (q.2 - s) = x - s by omega] at z3
      exact Int.ofNat_dvd_left.mp z3
  exact Int.emod_eq_zero_of_dvd (Int.ofNat_dvd_left.mpr key)
theorem put_more {pl : List (Int × Int)} {w x n s w' x' : Int} (h : Put pl w x) (j : Joined w x n s w' x') : Put (pl ++ [(n, s)]) w' x' := by
  refine ⟨?_, j.x0, j.x1, fun q hq => ?_⟩
  · rw [j.hw, lcmL_snoc]
    have e : w.natAbs = lcmL pl := by have := h.hw; omega
    rw [e]
  · rcases List.mem_append.mp hq with z | z
    · have hd : q.1 ∣ w := by
        -- each modulus divides the whole
        have hh := h.hw
        have : ∀ (l : List (Int × Int)) (p : Int × Int), p ∈ l → p.1.natAbs ∣ lcmL l := by
          intro l
          induction l using snoc_ind with
          | nil => intro p hp; simp at hp
          | append_singleton l r ih =>
            intro p hp
            rw [lcmL_snoc]
            rcases List.mem_append.mp hp with u | u
            · exact Nat.dvd_trans (ih p u) (Nat.dvd_lcm_left _ _)
            · rw [List.mem_singleton.mp u]; exact Nat.dvd_lcm_right _ _
        rw [hh]
        exact Int.ofNat_dvd_right.mpr (this pl q z)
      have e1 : w ∣ x' - x := Int.dvd_of_emod_eq_zero j.e1
      have e2 : q.1 ∣ x - q.2 := Int.dvd_of_emod_eq_zero (h.at_ q z)
      have e3 := Int.dvd_add (Int.dvd_trans hd e1) e2
      rw [show x' - x + (x - q.2) = x' - q.2 by omega] at e3
      exact Int.emod_eq_zero_of_dvd e3
    · rw [List.mem_singleton.mp z]; exact j.e2
/-- no two of them are apart -/
def allAlike (pl : List (Int × Int)) : Prop := ∀ (i j : Nat) (p q : Int × Int), i < j → pl[i]? = some p → pl[j]? = some q → alike p.1 p.2 q.1 q.2
def alikeBefore (pl : List (Int × Int)) (i j : Nat) : Prop := ∀ (i' j' : Nat) (p q : Int × Int), i' < j' → (i' < i ∨ i' = i ∧ j' < j) → pl[i']? = some p → pl[j']? = some q → alike p.1 p.2 q.1 q.2
def firstApart (pl : List (Int × Int)) (i j : Nat) : Prop := i < j ∧ (∃ p q, pl[i]? = some p ∧ pl[j]? = some q ∧ ¬alike p.1 p.2 q.1 q.2) ∧ alikeBefore pl i j
theorem before_row {pl : List (Int × Int)} {i : Nat} (h : alikeBefore pl i pl.length) : alikeBefore pl (i + 1) (i + 2) := fun i' j' p q l o hp hq => by
  have hj : j' < pl.length := (List.getElem?_eq_some_iff.mp hq).1
  refine h i' j' p q l ?_ hp hq
  omega
theorem before_one {pl : List (Int × Int)} {i j : Nat} {p q : Int × Int} (h : alikeBefore pl i j) (hp : pl[i]? = some p) (hq : pl[j]? = some q) (ha : alike p.1 p.2 q.1 q.2) : alikeBefore pl i (j + 1) := fun i' j' p' q' l o hp' hq' => by
  by_cases e : i' = i ∧ j' = j
  · obtain ⟨rfl, rfl⟩ := e
    rw [hp] at hp'; rw [hq] at hq'
    cases hp'; cases hq'; exact ha
  · exact h i' j' p' q' l (by omega) hp' hq'
theorem before_zero (pl : List (Int × Int)) : alikeBefore pl 0 1 := fun i' j' p q l o hp hq => by omega
theorem before_all {pl : List (Int × Int)} {j : Nat} (h : alikeBefore pl pl.length j) : allAlike pl := fun i' j' p q l hp hq => by
  have hj : i' < pl.length := (List.getElem?_eq_some_iff.mp hp).1
  exact h i' j' p q l (.inl hj) hp hq
theorem put_le {pl : List (Int × Int)} {w x : Int} (h : Put pl w x) (hm : ∀ q ∈ pl, 0 < q.1 ∧ q.1 < 2 ^ 60) (hl : pl.length ≤ 12) : w < 2 ^ 721 := by
  have key : ∀ l : List (Int × Int), (∀ q ∈ l, 0 < q.1 ∧ q.1 < 2 ^ 60) → lcmL l ≤ 2 ^ (60 * l.length) := fun l => by
    refine snoc_ind (motive := fun l => (∀ q ∈ l, 0 < q.1 ∧ q.1 < 2 ^ 60) → lcmL l ≤ 2 ^ (60 * l.length)) l (fun _ => by decide) (fun l q ih hq => ?_)
    rw [lcmL_snoc, List.length_append]
    have h1 := ih fun p hp => hq p (by simp [hp])
    have h2 := hq q (by simp)
    have h3 : Nat.lcm (lcmL l) q.1.natAbs ≤ lcmL l * q.1.natAbs := Nat.div_le_self _ _
    have h4 : lcmL l * q.1.natAbs ≤ 2 ^ (60 * l.length) * 2 ^ 60 := Nat.mul_le_mul h1 (by omega)
    rw [← Nat.pow_add] at h4
    exact Nat.le_trans h3 h4
  have h1 := key pl hm
  have h2 : 2 ^ (60 * pl.length) ≤ 2 ^ 720 := Nat.pow_le_pow_right (by decide) (by omega)
  have h3 := h.hw
  have h4 : lcmL pl ≤ 2 ^ 720 := Nat.le_trans h1 h2
  have h5 : (2 : Nat) ^ 720 < 2 ^ 721 := Nat.pow_lt_pow_right (by decide) (by decide)
  have h6 : ((lcmL pl : Nat) : Int) < ((2 ^ 721 : Nat) : Int) := Int.ofNat_lt.mpr (Nat.lt_of_le_of_lt h4 h5)
  rw [h3]
  exact_mod_cast h6
theorem put_two {c d : Nat} {r s w x : Int} (h : Put [((c : Int), r), ((d : Int), s)] w x) : w = (c : Int) / ((Nat.gcd c d : Nat) : Int) * d := by
  rw [h.hw, ← Int.natCast_ediv, ← Int.natCast_mul]
  congr 1
  show Nat.lcm (Nat.lcm 1 c) d = _
  rw [Nat.lcm_one_left]
  unfold Nat.lcm
  rw [Nat.mul_comm c d, Nat.mul_div_assoc d (Nat.gcd_dvd_left c d), Nat.mul_comm]
theorem put_unique {pl : List (Int × Int)} {w x w' x' : Int} (h : Put pl w x) (h' : Put pl w' x') : w = w' ∧ x = x' := by
  have ew : w = w' := by rw [h.hw, h'.hw]
  refine ⟨ew, ?_⟩
  have key : ∀ (y : Int) (l : List (Int × Int)), (∀ q ∈ l, q.1 ∣ y) → ((lcmL l : Nat) : Int) ∣ y := fun y l => by
    refine snoc_ind (motive := fun l => (∀ q ∈ l, q.1 ∣ y) → ((lcmL l : Nat) : Int) ∣ y) l (fun _ => Int.one_dvd _) (fun l q ih hq => ?_)
    rw [lcmL_snoc]
    have h1 := ih fun p hp => hq p (by simp [hp])
    have h2 := hq q (by simp)
    exact Int.ofNat_dvd_left.mpr (Nat.lcm_dvd (Int.ofNat_dvd_left.mp h1) (Int.natAbs_dvd_natAbs.mpr h2))
  have d := key (x - x') pl fun q hq => by
    have d1 := Int.dvd_of_emod_eq_zero (h.at_ q hq)
    have d2 := Int.dvd_of_emod_eq_zero (h'.at_ q hq)
    have d3 := Int.dvd_sub d1 d2
    rw [show x - q.2 - (x' - q.2) = x - x' by omega] at d3
    exact d3
  rw [← h.hw] at d
  have z := Int.emod_eq_emod_iff_emod_sub_eq_zero.mpr (Int.emod_eq_zero_of_dvd d)
  have a0 := h.x0
  have a1 := h.x1
  have b0 := h'.x0
  have b1 := h'.x1
  rw [Int.emod_eq_of_lt a0 a1, Int.emod_eq_of_lt b0 (by omega)] at z
  exact z
theorem lcm_lt (pl : List (Int × Int)) (hm : ∀ q ∈ pl, 0 < q.1 ∧ q.1 < 2 ^ 60) (hl : pl.length ≤ 12) : lcmL pl < 2 ^ 721 := by
  have key : ∀ l : List (Int × Int), (∀ q ∈ l, 0 < q.1 ∧ q.1 < 2 ^ 60) → lcmL l ≤ 2 ^ (60 * l.length) := fun l => by
    refine snoc_ind (motive := fun l => (∀ q ∈ l, 0 < q.1 ∧ q.1 < 2 ^ 60) → lcmL l ≤ 2 ^ (60 * l.length)) l (fun _ => by decide) (fun l q ih hq => ?_)
    rw [lcmL_snoc, List.length_append]
    have h1 := ih fun p hp => hq p (by simp [hp])
    have h2 := hq q (by simp)
    have h3 : Nat.lcm (lcmL l) q.1.natAbs ≤ lcmL l * q.1.natAbs := Nat.div_le_self _ _
    have h4 : lcmL l * q.1.natAbs ≤ 2 ^ (60 * l.length) * 2 ^ 60 := Nat.mul_le_mul h1 (by omega)
    rw [← Nat.pow_add] at h4
    exact Nat.le_trans h3 h4
  have h1 := key pl hm
  have h2 : 2 ^ (60 * pl.length) ≤ 2 ^ 720 := Nat.pow_le_pow_right (by decide) (by omega)
  have h5 : (2 : Nat) ^ 720 < 2 ^ 721 := Nat.pow_lt_pow_right (by decide) (by decide)
  exact Nat.lt_of_le_of_lt (Nat.le_trans h1 h2) h5
theorem lcm_pos (pl : List (Int × Int)) (hm : ∀ q ∈ pl, 0 < q.1) : 0 < lcmL pl := by
  refine snoc_ind (motive := fun l => (∀ q ∈ l, 0 < q.1) → 0 < lcmL l) pl (fun _ => by decide) (fun l q ih hq => ?_) hm
  rw [lcmL_snoc]
  have := hq q (by simp)
  exact Nat.lcm_pos (ih fun p hp => hq p (by simp [hp])) (by omega)
theorem first_unique {pl : List (Int × Int)} {i j i' j' : Nat} (h : firstApart pl i j) (h' : firstApart pl i' j') : i = i' ∧ j = j' := by
  obtain ⟨l, ⟨p, q, hp, hq, z⟩, b⟩ := h
  obtain ⟨l', ⟨p', q', hp', hq', z'⟩, b'⟩ := h'
  by_cases c : i < i' ∨ i = i' ∧ j < j'
  · exact absurd (b' i j p q l c hp hq) z
  · by_cases c' : i' < i ∨ i' = i ∧ j' < j
    · exact absurd (b i' j' p' q' l' c' hp' hq') z'
    · omega
end M

/-! primes -/
namespace M
def Prime (p : Nat) : Prop := 2 ≤ p ∧ ∀ d, d ∣ p → d = 1 ∨ d = p
theorem Prime.pos {p : Nat} (h : Prime p) : 0 < p := by have := h.1; omega
theorem Prime.coprime {p a : Nat} (h : Prime p) (ha : ¬ p ∣ a) : Nat.gcd p a = 1 := by
  rcases h.2 _ (Nat.gcd_dvd_left p a) with e | e
  · exact e
  · exact absurd (e ▸ Nat.gcd_dvd_right p a) ha
theorem Prime.dvd_mul {p a b : Nat} (h : Prime p) (hd : p ∣ a * b) : p ∣ a ∨ p ∣ b := by
  by_cases ha : p ∣ a
  · exact .inl ha
  · exact .inr (Nat.Coprime.dvd_of_dvd_mul_left (h.coprime ha) hd)
theorem Prime.dvd_pow {p a : Nat} (h : Prime p) : ∀ {e : Nat}, p ∣ a ^ e → p ∣ a
  | 0, hd => by
    rw [Nat.pow_zero] at hd
    have := Nat.le_of_dvd (by decide) hd
    have := h.1; omega
  | e + 1, hd => by
    rw [Nat.pow_succ] at hd
    rcases h.dvd_mul hd with z | z
    · exact h.dvd_pow z
    · exact z
theorem Prime.eq_of_dvd {p q : Nat} (hp : Prime p) (hq : Prime q) (h : p ∣ q) : p = q := by
  rcases hq.2 p h with e | e
  · have := hp.1; omega
  · exact e
/-- each number from 2 on has a least divisor, a prime -/
theorem exists_prime : ∀ (n : Nat), 2 ≤ n → ∃ p, Prime p ∧ p ∣ n := by
  intro n
  induction n using Nat.strongRecOn with
  | _ n ih =>
    intro hn
    by_cases h : ∃ d, d ∣ n ∧ d ≠ 1 ∧ d ≠ n
    · obtain ⟨d, h1, h2, h3⟩ := h
      have hd : d ≤ n := Nat.le_of_dvd (by omega) h1
      have h0 : d ≠ 0 := fun z => by rw [z] at h1; have := Nat.eq_zero_of_zero_dvd h1; omega
      obtain ⟨p, hp, hpd⟩ := ih d (by omega) (by omega)
      exact ⟨p, hp, Nat.dvd_trans hpd h1⟩
    · refine ⟨n, ⟨hn, fun d hd => ?_⟩, Nat.dvd_refl n⟩
      by_cases h1 : d = 1
      · exact .inl h1
      · by_cases h2 : d = n
        · exact .inr h2
        · exact absurd ⟨d, hd, h1, h2⟩ h
/-- no lesser divisor from 2 to the root -/
theorem prime_of_no {n : Nat} (hn : 2 ≤ n) (h : ∀ d, 2 ≤ d → d * d ≤ n → ¬ d ∣ n) : Prime n := by
  obtain ⟨p, hp, hd⟩ := exists_prime n hn
  obtain ⟨c, hc⟩ := hd
  by_cases e : c = 1
  · subst e
    rw [Nat.mul_one] at hc
    rw [hc]; exact hp
  · exfalso
    have hc0 : 2 ≤ c := by
      rcases Nat.lt_or_ge c 2 with z | z
      · have : c = 0 ∨ c = 1 := by omega
        rcases this with rfl | rfl
        · omega
        · exact absurd rfl e
      · exact z
    have hp2 := hp.1
    rcases Nat.le_total p c with z | z
    · refine h p hp2 ?_ ⟨c, hc⟩
      rw [hc]; exact Nat.mul_le_mul_left p z
    · refine h c hc0 ?_ ⟨p, by rw [hc, Nat.mul_comm]⟩
      rw [hc]; exact Nat.mul_le_mul_right c z
/-- powers of a prime: what is left without it -/
theorem split_prime {q : Nat} (hq : Prime q) : ∀ (n : Nat), 0 < n → ∃ k m, n = q ^ k * m ∧ ¬ q ∣ m ∧ 0 < m := by
  intro n
  induction n using Nat.strongRecOn with
  | _ n ih =>
    intro hn
    by_cases h : q ∣ n
    · obtain ⟨c, hc⟩ := h
      have hc0 : 0 < c := by
        rcases Nat.eq_zero_or_pos c with z | z
        · rw [z] at hc; omega
        · exact z
      have hq2 := hq.1
      have hlt : c < n := by
        rw [hc]
        have : 2 * c ≤ q * c := Nat.mul_le_mul_right c hq2
        omega
      obtain ⟨k, m, h1, h2, h3⟩ := ih c hlt hc0
      exact ⟨k + 1, m, by rw [hc, h1, Nat.pow_succ]; grind, h2, h3⟩
    · exact ⟨0, n, by simp, h, hn⟩
theorem coprime_pow {q m : Nat} (hq : Prime q) (h : ¬ q ∣ m) (k : Nat) : Nat.gcd (q ^ k) m = 1 := Nat.Coprime.pow_left k (hq.coprime h)
/-- n divides m where each power of a prime that divides n does -/
theorem dvd_of_prime_powers : ∀ (n m : Nat), 0 < n → (∀ q k, Prime q → q ^ k ∣ n → q ^ k ∣ m) → n ∣ m := by
  intro n
  induction n using Nat.strongRecOn with
  | _ n ih =>
    intro m hn h
    by_cases h1 : n = 1
    · rw [h1]; exact Nat.one_dvd m
    · obtain ⟨q, hq, hd⟩ := exists_prime n (by omega)
      obtain ⟨k, c, e, hc, hc0⟩ := split_prime hq n hn
      have hk : 0 < k := by
        rcases Nat.eq_zero_or_pos k with z | z
        · rw [z, Nat.pow_zero, Nat.one_mul] at e; rw [e] at hd; exact absurd hd hc
        · exact z
      have hlt : c < n := by
        rw [e]
        have : q ^ 1 ≤ q ^ k := Nat.pow_le_pow_right hq.pos hk
        have h2 := hq.1
        rw [Nat.pow_one] at this
        have : 2 * c ≤ q ^ k * c := Nat.mul_le_mul_right c (by omega)
        omega
      have d1 : q ^ k ∣ m := h q k hq ⟨c, e⟩
      have d2 : c ∣ m := ih c hlt m hc0 fun r j hr hj => h r j hr (Nat.dvd_trans hj ⟨q ^ k, by rw [e, Nat.mul_comm]⟩)
      rw [e]
      exact Nat.Coprime.mul_dvd_of_dvd_of_dvd (coprime_pow hq hc k) d1 d2
end M

/-! numbers parted into primes -/
namespace M
def prodL : List (Nat × Nat) → Nat
  | [] => 1
  | x :: l => x.1 ^ x.2 * prodL l
theorem prodL_app (l m : List (Nat × Nat)) : prodL (l ++ m) = prodL l * prodL m := by
  induction l with
  | nil => simp [prodL]
  | cons x l ih => simp only [List.cons_append, prodL, ih]; grind
structure IsFac (n : Nat) (l : List (Nat × Nat)) : Prop where
  sorted : l.Pairwise (fun x y => x.1 < y.1)
  primes : ∀ x ∈ l, Prime x.1 ∧ 0 < x.2
  prod : prodL l = n
/-- so far: the primes below d are taken out -/
structure Fac (n0 : Nat) (l : List (Nat × Nat)) (n d : Nat) : Prop where
  sorted : l.Pairwise (fun x y => x.1 < y.1)
  below : ∀ x ∈ l, x.1 < d
  primes : ∀ x ∈ l, Prime x.1 ∧ 0 < x.2
  prod : prodL l * n = n0
  no : ∀ e, 2 ≤ e → e < d → ¬ e ∣ n
  npos : 0 < n
  dtwo : 2 ≤ d
theorem fac_start {n : Nat} (h : 0 < n) : Fac n [] n 2 := ⟨.nil, by simp, by simp, by simp [prodL], fun e h1 h2 => by omega, h, Nat.le_refl 2⟩
theorem fac_end {n0 n d : Nat} {l : List (Nat × Nat)} (h : Fac n0 l n d) (hn : n ≤ 1) : IsFac n0 l := by
  have : n = 1 := by have := h.npos; omega
  subst this
  exact ⟨h.sorted, h.primes, by rw [← h.prod, Nat.mul_one]⟩
section
variable {n0 n d : Nat} {l : List (Nat × Nat)}
theorem fac_le (h : Fac n0 l n d) (hn : 1 < n) : d ≤ n := by
  rcases Nat.lt_or_ge n d with z | z
  · exact absurd (Nat.dvd_refl n) (h.no n hn z)
  · exact z
/-- beyond the root what is left is a prime -/
theorem fac_jump (h : Fac n0 l n d) (hn : 1 < n) (hd : n < d * d) : Fac n0 l n n := by
  have hl := fac_le h hn
  refine ⟨h.sorted, fun x hx => Nat.lt_of_lt_of_le (h.below x hx) hl, h.primes, h.prod, fun e h1 h2 hd' => ?_, h.npos, hn⟩
  obtain ⟨c, hc⟩ := hd'
  have e1 : d ≤ e := by
    rcases Nat.lt_or_ge e d with z | z
    · exact absurd ⟨c, hc⟩ (h.no e h1 z)
    · exact z
  have c2 : 2 ≤ c := by
    rcases Nat.lt_or_ge c 2 with z | z
    · have : c = 0 ∨ c = 1 := by omega
      rcases this with rfl | rfl <;> omega
    · exact z
  have e2 : d ≤ c := by
    rcases Nat.lt_or_ge c d with z | z
    · exact absurd ⟨e, by rw [hc, Nat.mul_comm]⟩ (h.no c c2 z)
    · exact z
  have := Nat.mul_le_mul e1 e2
  omega
theorem fac_prime (h : Fac n0 l n d) (hd : d ∣ n) : Prime d := prime_of_no h.dtwo fun e h1 h2 h3 => by
  have : e < d := by
    rcases Nat.lt_or_ge e d with z | z
    · exact z
    · have := Nat.mul_le_mul z h1
      have h4 := h.dtwo
      have h5 : d * 2 ≤ e * e := Nat.le_trans this (Nat.le_refl _)
      omega
  exact h.no e h1 this (Nat.dvd_trans h3 hd)
theorem dvd_pow_self (d : Nat) {k : Nat} (hk : 0 < k) : d ∣ d ^ k := by
  obtain ⟨j, rfl⟩ : ∃ j, k = j + 1 := ⟨k - 1, by omega⟩
  rw [Nat.pow_succ]; exact Nat.dvd_mul_left d _
/-- d taken out k times, m left -/
theorem fac_step {k m : Nat} (h : Fac n0 l n d) (e : n = d ^ k * m) (hm : ¬ d ∣ m) : Fac n0 (if 0 < k then l ++ [(d, k)] else l) m (d + 1) := by
  have m0 : 0 < m := Nat.pos_of_ne_zero fun z => by rw [z, Nat.mul_zero] at e; have := h.npos; omega
  have hno : ∀ f, 2 ≤ f → f < d + 1 → ¬ f ∣ m := fun f h1 h2 h3 => by
    by_cases hf : f = d
    · exact hm (hf ▸ h3)
    · exact h.no f h1 (by omega) (by rw [e]; exact Nat.dvd_trans h3 (Nat.dvd_mul_left m _))
  have hd2 := h.dtwo
  by_cases hk : 0 < k
  · rw [if_pos hk]
    have hdn : d ∣ n := by
      rw [e]
      exact Nat.dvd_trans (dvd_pow_self d hk) (Nat.dvd_mul_right _ _)
    refine ⟨?_, fun x hx => ?_, fun x hx => ?_, ?_, hno, m0, by omega⟩
    · refine List.pairwise_append.mpr ⟨h.sorted, List.pairwise_singleton _ _, fun x hx y hy => ?_⟩
      rw [List.mem_singleton.mp hy]; exact h.below x hx
    · rcases List.mem_append.mp hx with z | z
      · have := h.below x z; omega
      · rw [List.mem_singleton.mp z]; exact Nat.lt_succ_self d
    · rcases List.mem_append.mp hx with z | z
      · exact h.primes x z
      · rw [List.mem_singleton.mp z]; exact ⟨fac_prime h hdn, hk⟩
    · rw [prodL_app, ← h.prod, e]; simp only [prodL]; grind
  · have k0 : k = 0 := by omega
    subst k0
    rw [if_neg (by omega)]
    have e' : n = m := by rw [e, Nat.pow_zero, Nat.one_mul]
    exact ⟨h.sorted, fun x hx => by have := h.below x hx; omega, h.primes, by rw [← e']; exact h.prod, hno, m0, by omega⟩
/-- an even number more may be left out -/
theorem fac_odd (h : Fac n0 l n d) (h2 : 2 < d) (he : d % 2 = 0) : Fac n0 l n (d + 1) := by
  refine ⟨h.sorted, fun x hx => by have := h.below x hx; omega, h.primes, h.prod, fun f h1 h3 h4 => ?_, h.npos, by omega⟩
  by_cases hf : f = d
  · have : 2 ∣ f := by rw [hf]; exact Nat.dvd_of_mod_eq_zero he
    exact h.no 2 (by decide) h2 (Nat.dvd_trans this h4)
  · exact h.no f h1 (by omega) h4
end
/-! what a parting tells -/
theorem prodL_dvd {l : List (Nat × Nat)} {x : Nat × Nat} (h : x ∈ l) : x.1 ^ x.2 ∣ prodL l := by
  induction l with
  | nil => simp at h
  | cons y l ih =>
    rcases List.mem_cons.mp h with z | z
    · rw [z]; exact Nat.dvd_mul_right _ _
    · exact Nat.dvd_trans (ih z) (Nat.dvd_mul_left _ _)
theorem fac_dvd {n : Nat} {l : List (Nat × Nat)} (h : IsFac n l) {x : Nat × Nat} (hx : x ∈ l) : x.1 ∣ n := by
  rw [← h.prod]
  refine Nat.dvd_trans ?_ (prodL_dvd hx)
  obtain ⟨j, e⟩ : ∃ j, x.2 = j + 1 := ⟨x.2 - 1, by have := (h.primes x hx).2; omega⟩
  rw [e, Nat.pow_succ]; exact Nat.dvd_mul_left _ _
theorem prime_in {l : List (Nat × Nat)} {q : Nat} (hq : Prime q) (hl : ∀ x ∈ l, Prime x.1 ∧ 0 < x.2) (h : q ∣ prodL l) : ∃ k, (q, k) ∈ l := by
  induction l with
  | nil =>
    simp only [prodL] at h
    have := Nat.le_of_dvd (by decide) h
    have := hq.1; omega
  | cons x l ih =>
    simp only [prodL] at h
    rcases hq.dvd_mul h with z | z
    · have := hq.eq_of_dvd (hl x (by simp)).1 (hq.dvd_pow z)
      exact ⟨x.2, by rw [this]; simp⟩
    · obtain ⟨k, hk⟩ := ih (fun y hy => hl y (by simp [hy])) z
      exact ⟨k, by simp [hk]⟩
theorem fac_prime_in {n q : Nat} {l : List (Nat × Nat)} (h : IsFac n l) (hq : Prime q) (hd : q ∣ n) : ∃ k, (q, k) ∈ l := prime_in hq h.primes (by rw [h.prod]; exact hd)
theorem Fac.of {n : Nat} {l : List (Nat × Nat)} (h : IsFac n l) (hn : 0 < n) : ∃ d, Fac n l 1 d := by
  have : ∃ d, ∀ x ∈ l, x.1 < d := by
    have key : ∀ l : List (Nat × Nat), ∃ d, ∀ x ∈ l, x.1 < d := fun l => by
      induction l with
      | nil => exact ⟨0, by simp⟩
      | cons y l ih =>
        obtain ⟨d, hd⟩ := ih
        exact ⟨d + y.1 + 1, fun x hx => by
          rcases List.mem_cons.mp hx with z | z
          · rw [z]; omega
          · have := hd x z; omega⟩
    exact key l
  obtain ⟨d, hd⟩ := this
  refine ⟨d + 2, h.sorted, fun x hx => by have := hd x hx; omega, h.primes, by rw [Nat.mul_one]; exact h.prod, fun e h1 h2 h3 => ?_, by decide, by omega⟩
  have := Nat.le_of_dvd (by decide) h3
  omega
end M

/-! orders by a prime, and a number of the order p - 1 -/
namespace M
/-! roots of a polynomial by a prime -/
def ev (l : List Int) (x : Int) : Int := l.foldr (fun c acc => c + x * acc) 0
theorem ev_cons (c : Int) (l : List Int) (x : Int) : ev (c :: l) x = c + x * ev l x := rfl
def sd (r : Int) : List Int → List Int
  | [] => []
  | [_] => []
  | _ :: d :: l => ev (d :: l) r :: sd r (d :: l)
def lead (l : List Int) : Int := l.getLast?.getD 0
theorem sd_len (r : Int) : ∀ (c : Int) (l : List Int), (sd r (c :: l)).length = l.length
  | _, [] => rfl
  | _, d :: l => by rw [sd, List.length_cons, List.length_cons, sd_len r d l]
theorem sd_ev (r x : Int) : ∀ (c : Int) (l : List Int), ev (c :: l) x - ev (c :: l) r = (x - r) * ev (sd r (c :: l)) x
  | c, [] => by simp [ev, sd]
  | c, d :: l => by
    have ih := sd_ev r x d l
    show (c + x * ev (d :: l) x) - (c + r * ev (d :: l) r) = (x - r) * (ev (d :: l) r + x * ev (sd r (d :: l)) x)
    generalize ev (d :: l) x = A at *
    generalize ev (d :: l) r = B at *
    generalize ev (sd r (d :: l)) x = C at *
    grind
theorem sd_lead (r : Int) : ∀ (c d : Int) (l : List Int), lead (sd r (c :: d :: l)) = lead (c :: d :: l)
  | c, d, [] => by simp [sd, lead, ev]
  | c, d, e :: l => by
    have ih := sd_lead r d e l
    rw [sd]
    unfold lead at *
    rw [List.getLast?_cons_cons] 
    have h : sd r (d :: e :: l) ≠ [] := by rw [sd]; simp
    rw [List.getLast?_cons_of_ne_nil h]
    exact ih
theorem dvd_mul_int {p : Nat} (hp : Prime p) {a b : Int} (h : (p : Int) ∣ a * b) : (p : Int) ∣ a ∨ (p : Int) ∣ b := by
  have h1 := Int.ofNat_dvd_left.mp h
  rw [Int.natAbs_mul] at h1
  rcases hp.dvd_mul h1 with z | z
  · exact .inl (Int.ofNat_dvd_left.mpr z)
  · exact .inr (Int.ofNat_dvd_left.mpr z)
/-- as many roots, apart by p, as coefficients: the leading one is divided -/
theorem roots_lead {p : Nat} (hp : Prime p) : ∀ (d : Nat) (c : List Int) (rs : List Int), c.length = d + 1 → rs.length = d + 1 → rs.Pairwise (fun x y => ¬ (p : Int) ∣ y - x) → (∀ r ∈ rs, (p : Int) ∣ ev c r) → (p : Int) ∣ lead c
  | 0, c, rs, hc, hr, _, h => by
    match c, rs, hc, hr with
    | [c], [r], _, _ =>
      have := h r (by simp)
      simpa [ev, lead] using this
  | d + 1, c, rs, hc, hr, hd, h => by
    match c, rs, hc, hr with
    | c0 :: c1 :: c, r :: rs, hc, hr =>
      rw [← sd_lead r c0 c1 c]
      rw [List.pairwise_cons] at hd
      refine roots_lead hp d (sd r (c0 :: c1 :: c)) rs (by rw [sd_len]; simpa using hc) (by simpa using hr) hd.2 fun s hs => ?_
      have e := sd_ev r s c0 (c1 :: c)
      have h1 := Int.dvd_sub (h s (by simp [hs])) (h r (by simp))
      rw [e] at h1
      rcases dvd_mul_int hp h1 with z | z
      · exact absurd z (hd.1 s hs)
      · exact z
theorem ev_xn (m : Nat) (x : Int) : ev (List.replicate m 0 ++ [1]) x = x ^ m := by
  induction m with
  | zero => simp [ev]
  | succ m ih =>
    rw [List.replicate_succ, List.cons_append, ev_cons, ih, Int.pow_succ]
    grind
/-- at most m numbers, apart by p, whose power to m is 1 -/
theorem roots_le {p m : Nat} (hp : Prime p) (hm : 0 < m) {rs : List Int} (hd : rs.Pairwise (fun x y => ¬ (p : Int) ∣ y - x)) (h : ∀ r ∈ rs, (p : Int) ∣ r ^ m - 1) : rs.length ≤ m := by
  rcases Nat.lt_or_ge m rs.length with z | z
  · exfalso
    obtain ⟨k, rfl⟩ : ∃ k, m = k + 1 := ⟨m - 1, by omega⟩
    have hl := roots_lead hp (k + 1) ((-1) :: (List.replicate k 0 ++ [1])) (rs.take (k + 2)) (by simp) (by rw [List.length_take]; omega)
      (hd.sublist (List.take_sublist _ _)) fun r hr => by
        have h1 := h r (List.mem_of_mem_take hr)
        rw [ev_cons, ev_xn]
        have e : -1 + r * r ^ k = r ^ (k + 1) - 1 := by rw [Int.pow_succ]; grind
        rw [e]; exact h1
    have e : lead ((-1) :: (List.replicate k 0 ++ [1])) = 1 := by
      unfold lead
      rw [← List.cons_append, List.getLast?_concat]; rfl
    rw [e] at hl
    have h2 := Int.le_of_dvd (by decide) hl
    have := hp.1
    omega
  · exact z
/-! pigeons -/
theorem pig : ∀ (n : Nat) (l : List Nat), l.Nodup → (∀ x ∈ l, x < n) → l.length ≤ n
  | 0, l, _, h => by
    match l with
    | [] => exact Nat.le_refl 0
    | x :: l => exact absurd (h x (by simp)) (by omega)
  | n + 1, l, hd, h => by
    by_cases hn : n ∈ l
    · obtain ⟨a, b, e⟩ := List.append_of_mem hn
      subst e
      have h1 := pig n (a ++ b) (by
        have := List.nodup_append.mp hd
        have h2 := List.nodup_cons.mp this.2.1
        refine List.nodup_append.mpr ⟨this.1, h2.2, fun x hx y hy => this.2.2 x hx y (by simp [hy])⟩) fun x hx => by
          have h2 : x < n + 1 := h x (by rcases List.mem_append.mp hx with z | z <;> simp [z])
          have h3 : x ≠ n := fun e => by
            subst e
            have := List.nodup_append.mp hd
            rcases List.mem_append.mp hx with z | z
            · exact this.2.2 x z x (by simp) rfl
            · exact (List.nodup_cons.mp this.2.1).1 z
          omega
      rw [List.length_append] at h1 ⊢
      rw [List.length_cons]; omega
    · exact Nat.le_succ_of_le (pig n l hd fun x hx => by
        have h2 := h x hx
        have h3 : x ≠ n := fun e => hn (e ▸ hx)
        omega)
end M

/-! orders -/
namespace M
def is1 (p : Nat) (a : Int) (e : Nat) : Prop := (p : Int) ∣ a ^ e - 1
def un (p : Nat) (a : Int) : Prop := ¬ (p : Int) ∣ a
structure Ord (p : Nat) (a : Int) (m : Nat) : Prop where
  pos : 0 < m
  one : is1 p a m
  least : ∀ f, 0 < f → is1 p a f → m ≤ f
theorem exists_min {P : Nat → Prop} : ∀ n, P n → ∃ m, P m ∧ ∀ k, P k → m ≤ k := by
  intro n
  induction n using Nat.strongRecOn with
  | _ n ih =>
    intro h
    by_cases c : ∃ k, P k ∧ k < n
    · obtain ⟨k, h1, h2⟩ := c
      exact ih k h2 h1
    · exact ⟨n, h, fun k hk => by
        rcases Nat.lt_or_ge k n with z | z
        · exact absurd ⟨k, hk, z⟩ c
        · exact z⟩
theorem exists_max {P : Nat → Prop} (B : Nat) (hB : ∀ n, P n → n ≤ B) {n : Nat} (h : P n) : ∃ m, P m ∧ ∀ k, P k → k ≤ m := by
  obtain ⟨d, ⟨m, hm, e⟩, hd⟩ := exists_min (P := fun d => ∃ m, P m ∧ d = B - m) (B - n) ⟨n, h, rfl⟩
  refine ⟨m, hm, fun k hk => ?_⟩
  have h1 := hd (B - k) ⟨k, hk, rfl⟩
  have := hB k hk
  have := hB m hm
  omega
section
variable {p : Nat} {a b : Int} {e f m n : Nat}
theorem one_zero : is1 p a 0 := by unfold is1; rw [Int.pow_zero]; simp
theorem one_add (h : is1 p a e) (h' : is1 p a f) : is1 p a (e + f) := by
  unfold is1 at *
  have : a ^ (e + f) - 1 = a ^ e * (a ^ f - 1) + (a ^ e - 1) := by rw [Int.pow_add]; grind
  rw [this]
  exact Int.dvd_add (Int.dvd_trans h' ⟨a ^ e, Int.mul_comm _ _⟩) h
theorem one_mul_ (h : is1 p a e) (k : Nat) : is1 p a (e * k) := by
  induction k with
  | zero => rw [Nat.mul_zero]; exact one_zero
  | succ k ih => rw [Nat.mul_succ]; exact one_add ih h
theorem one_of_dvd (h : is1 p a e) (d : e ∣ f) : is1 p a f := by
  obtain ⟨k, rfl⟩ := d
  exact one_mul_ h k
theorem not_dvd_of_one (hp : Prime p) (h : is1 p a e) : ¬ (p : Int) ∣ a ^ e := fun z => by
  have h1 := Int.dvd_sub z h
  rw [show a ^ e - (a ^ e - 1) = 1 by omega] at h1
  have h2 := Int.le_of_dvd (by decide) h1
  have := hp.1
  omega
theorem one_sub (hp : Prime p) (h : is1 p a (e + f)) (h' : is1 p a e) : is1 p a f := by
  have n1 := not_dvd_of_one hp h'
  unfold is1 at *
  have : a ^ (e + f) - 1 = a ^ e * (a ^ f - 1) + (a ^ e - 1) := by rw [Int.pow_add]; grind
  rw [this] at h
  have h2 := Int.dvd_sub h h'
  rw [show a ^ e * (a ^ f - 1) + (a ^ e - 1) - (a ^ e - 1) = a ^ e * (a ^ f - 1) by omega] at h2
  rcases dvd_mul_int hp h2 with z | z
  · exact absurd z n1
  · exact z
theorem Ord.dvd (hp : Prime p) (o : Ord p a m) (h : is1 p a f) : m ∣ f := by
  have h1 : is1 p a (m * (f / m)) := one_mul_ o.one _
  have h2 : is1 p a (f % m) := one_sub hp (e := m * (f / m)) (by rw [Nat.div_add_mod]; exact h) h1
  rcases Nat.eq_zero_or_pos (f % m) with z | z
  · exact Nat.dvd_of_mod_eq_zero z
  · have := o.least _ z h2
    have := Nat.mod_lt f o.pos
    omega
theorem Ord.iff (hp : Prime p) (o : Ord p a m) : is1 p a f ↔ m ∣ f := ⟨o.dvd hp, one_of_dvd o.one⟩
theorem Ord.of_iff (hm : 0 < m) (h : ∀ f, is1 p a f ↔ m ∣ f) : Ord p a m := ⟨hm, (h m).mpr (Nat.dvd_refl m), fun f hf h1 => Nat.le_of_dvd hf ((h f).mp h1)⟩
theorem Ord.unique (hp : Prime p) (o : Ord p a m) (o' : Ord p a n) : m = n := Nat.dvd_antisymm (o.dvd hp o'.one) (o'.dvd hp o.one)
theorem unit_pow (hp : Prime p) (h : un p a) : ∀ e, ¬ (p : Int) ∣ a ^ e
  | 0 => by
    rw [Int.pow_zero]
    intro z
    have := Int.le_of_dvd (by decide) z
    have := hp.1
    omega
  | e + 1 => by
    rw [Int.pow_succ]
    intro z
    rcases dvd_mul_int hp z with z | z
    · exact unit_pow hp h e z
    · exact h z
/-- two powers alike -/
theorem one_of_alike (hp : Prime p) (h : un p a) (hf : (p : Int) ∣ a ^ (e + f) - a ^ e) : is1 p a f := by
  have : a ^ (e + f) - a ^ e = a ^ e * (a ^ f - 1) := by rw [Int.pow_add]; grind
  rw [this] at hf
  rcases dvd_mul_int hp hf with z | z
  · exact absurd z (unit_pow hp h e)
  · exact z
theorem toNat_alike {x y : Int} (hp : 0 < p) (h : (x % (p : Int)).toNat = (y % (p : Int)).toNat) : (p : Int) ∣ y - x := by
  have h1 := Int.emod_nonneg x (show (p : Int) ≠ 0 by omega)
  have h2 := Int.emod_nonneg y (show (p : Int) ≠ 0 by omega)
  have h3 : y % (p : Int) = x % p := by omega
  exact Int.dvd_of_emod_eq_zero (Int.emod_eq_emod_iff_emod_sub_eq_zero.mp h3)
/-- the powers below a bound that has no 1 behind it are unlike, none of them nought -/
theorem powers_le (hp : Prime p) (h : un p a) (no : ∀ f, 0 < f → f < n → ¬ is1 p a f) : n ≤ p - 1 := by
  have hp0 := hp.pos
  have hpos : ∀ i, 0 < (a ^ i % (p : Int)).toNat := fun i => by
    have h1 := Int.emod_nonneg (a ^ i) (show (p : Int) ≠ 0 by omega)
    have h2 : a ^ i % (p : Int) ≠ 0 := fun z => unit_pow hp h i (Int.dvd_of_emod_eq_zero z)
    omega
  have hlt : ∀ i, (a ^ i % (p : Int)).toNat < p := fun i => by
    have h1 := Int.emod_nonneg (a ^ i) (show (p : Int) ≠ 0 by omega)
    have h2 := Int.emod_lt_of_pos (a ^ i) (show (0 : Int) < p by omega)
    omega
  have h1 := pig (p - 1) ((List.range n).map fun i => (a ^ i % (p : Int)).toNat - 1) (by
    unfold List.Nodup
    rw [List.pairwise_map]
    refine List.Pairwise.imp_of_mem ?_ (List.pairwise_lt_range (n := n))
    intro i j hi hj hij e
    have hj' := List.mem_range.mp hj
    have e2 : (a ^ i % (p : Int)).toNat = (a ^ j % (p : Int)).toNat := by have := hpos i; have := hpos j; omega
    have e3 := toNat_alike hp0 e2
    obtain ⟨d, rfl⟩ : ∃ d, j = i + d := ⟨j - i, by omega⟩
    exact no d (by omega) (by omega) (one_of_alike hp h e3)) fun x hx => by
      obtain ⟨i, _, rfl⟩ := List.mem_map.mp hx
      have := hpos i; have := hlt i
      omega
  rwa [List.length_map, List.length_range] at h1
theorem exists_ord (hp : Prime p) (h : un p a) : ∃ m, Ord p a m := by
  have ex : ∃ e, 0 < e ∧ is1 p a e := by
    refine Classical.byContradiction fun no => ?_
    have := powers_le (n := p) hp h fun f hf _ hf' => no ⟨f, hf, hf'⟩
    have := hp.1
    omega
  obtain ⟨e, he⟩ := ex
  obtain ⟨m, h1, h2⟩ := exists_min (P := fun e => 0 < e ∧ is1 p a e) e he
  exact ⟨m, h1.1, h1.2, fun f hf h => h2 f ⟨hf, h⟩⟩
theorem Ord.le (hp : Prime p) (h : un p a) (o : Ord p a m) : m ≤ p - 1 := powers_le hp h fun f h0 h1 h2 => by have := o.least f h0 h2; omega
theorem Ord.unit (hp : Prime p) (o : Ord p a m) : un p a := fun z => by
  have h1 := not_dvd_of_one hp o.one
  obtain ⟨k, rfl⟩ : ∃ k, m = k + 1 := ⟨m - 1, by have := o.pos; omega⟩
  rw [Int.pow_succ] at h1
  exact h1 (Int.dvd_mul_of_dvd_right z)
theorem one_pow_iff {d : Nat} : is1 p (a ^ d) f ↔ is1 p a (d * f) := by unfold is1; rw [Int.pow_mul]
theorem Ord.pow (hp : Prime p) {d c : Nat} (o : Ord p a (d * c)) : Ord p (a ^ d) c := by
  have h0 := o.pos
  have hd : 0 < d := Nat.pos_of_ne_zero fun z => by rw [z, Nat.zero_mul] at h0; omega
  have hc : 0 < c := Nat.pos_of_ne_zero fun z => by rw [z, Nat.mul_zero] at h0; omega
  refine Ord.of_iff hc fun f => ?_
  rw [one_pow_iff, o.iff hp]
  exact Nat.mul_dvd_mul_iff_left hd
theorem one_left (h1 : (p : Int) ∣ (a * b) ^ e - 1) (h2 : is1 p b e) : is1 p a e := by
  unfold is1 at *
  have : (a * b) ^ e - 1 = a ^ e * (b ^ e - 1) + (a ^ e - 1) := by rw [Int.mul_pow]; grind
  rw [this] at h1
  have h3 := Int.dvd_sub h1 (Int.dvd_trans h2 ⟨a ^ e, Int.mul_comm _ _⟩)
  rw [show a ^ e * (b ^ e - 1) + (a ^ e - 1) - a ^ e * (b ^ e - 1) = a ^ e - 1 by omega] at h3
  exact h3
theorem one_both (h1 : is1 p a e) (h2 : is1 p b e) : is1 p (a * b) e := by
  unfold is1 at *
  have : (a * b) ^ e - 1 = a ^ e * (b ^ e - 1) + (a ^ e - 1) := by rw [Int.mul_pow]; grind
  rw [this]
  exact Int.dvd_add (Int.dvd_trans h2 ⟨a ^ e, Int.mul_comm _ _⟩) h1
theorem Ord.mul_ (hp : Prime p) (o : Ord p a m) (o' : Ord p b n) (g : Nat.gcd m n = 1) : Ord p (a * b) (m * n) := by
  refine ⟨Nat.mul_pos o.pos o'.pos, one_both (one_of_dvd o.one (Nat.dvd_mul_right m n)) (one_of_dvd o'.one (Nat.dvd_mul_left n m)), fun f hf h => ?_⟩
  have h1 : is1 p a (f * n) := one_left (b := b) (one_mul_ h n) (one_of_dvd o'.one (Nat.dvd_mul_left n f))
  have h2 : is1 p b (f * m) := one_left (b := a) (by rw [Int.mul_comm]; exact one_mul_ h m) (one_of_dvd o.one (Nat.dvd_mul_left m f))
  have d1 : m ∣ f := Nat.Coprime.dvd_of_dvd_mul_right g (o.dvd hp h1)
  have d2 : n ∣ f := Nat.Coprime.dvd_of_dvd_mul_right (Nat.Coprime.symm g) (o'.dvd hp h2)
  exact Nat.le_of_dvd hf (Nat.Coprime.mul_dvd_of_dvd_of_dvd g d1 d2)
/-- there is a number of the order p - 1, and each number's power to it is 1 -/
theorem full_exists (hp : Prime p) : ∃ a, Ord p a (p - 1) := by
  have hp2 := hp.1
  have u1 : un p 1 := fun z => by have := Int.le_of_dvd (by decide) z; omega
  obtain ⟨n1, o1⟩ := exists_ord hp u1
  obtain ⟨mx, ⟨a, o⟩, hmax⟩ := exists_max (P := fun m => ∃ a, Ord p a m) (p - 1) (fun m ⟨a, o⟩ => o.le hp (o.unit hp)) ⟨1, o1⟩
  have all : ∀ b n, Ord p b n → n ∣ mx := fun b n ob => by
    refine dvd_of_prime_powers n mx ob.pos fun q k hq hd => Classical.byContradiction fun no => ?_
    obtain ⟨v, c, e, hc, hc0⟩ := split_prime hq mx o.pos
    obtain ⟨d, hd⟩ := hd
    have ov : Ord p (a ^ (q ^ v)) c := Ord.pow hp (by rw [← e]; exact o)
    have ow : Ord p (b ^ d) (q ^ k) := Ord.pow hp (by rw [Nat.mul_comm, ← hd]; exact ob)
    have om := Ord.mul_ hp ov ow (Nat.Coprime.symm (coprime_pow hq hc k))
    have h1 := hmax _ ⟨_, om⟩
    have hvk : v < k := by
      rcases Nat.lt_or_ge v k with z | z
      · exact z
      · exact absurd (Nat.dvd_trans (Nat.pow_dvd_pow q z) ⟨c, e⟩) no
    have h2 : q ^ v < q ^ k := Nat.pow_lt_pow_right (by have := hq.1; omega) hvk
    have h3 : c * q ^ v < c * q ^ k := Nat.mul_lt_mul_of_pos_left h2 hc0
    rw [e, Nat.mul_comm (q ^ v)] at h1
    omega
  have h1 : p - 1 ≤ mx := by
    have h := roots_le hp o.pos (rs := (List.range (p - 1)).map fun i => (((i + 1 : Nat)) : Int)) (by
      rw [List.pairwise_map]
      refine List.Pairwise.imp_of_mem ?_ (List.pairwise_lt_range (n := p - 1))
      intro i j hi hj hij z
      have := List.mem_range.mp hj
      have := Int.le_of_dvd (by omega) z
      omega) fun r hr => by
        obtain ⟨i, hi, rfl⟩ := List.mem_map.mp hr
        have hi' := List.mem_range.mp hi
        have ui : un p ((i + 1 : Nat) : Int) := fun z => by have := Int.le_of_dvd (by omega) z; omega
        obtain ⟨n, on⟩ := exists_ord hp ui
        exact one_of_dvd on.one (all _ _ on)
    rwa [List.length_map, List.length_range] at h
  have h2 := o.le hp (o.unit hp)
  exact ⟨a, by rw [show p - 1 = mx by omega]; exact o⟩
theorem fermat (hp : Prime p) (h : un p a) : is1 p a (p - 1) := by
  -- the number's order divides that of a full one
  have hp2 := hp.1
  obtain ⟨g, og⟩ := full_exists hp
  obtain ⟨n, on⟩ := exists_ord hp h
  refine one_of_dvd on.one (dvd_of_prime_powers n _ on.pos fun q k hq hd => Classical.byContradiction fun no => ?_)
  obtain ⟨v, c, e, hc, hc0⟩ := split_prime hq (p - 1) (by omega)
  obtain ⟨d, hd⟩ := hd
  have ov : Ord p (g ^ (q ^ v)) c := Ord.pow hp (by rw [← e]; exact og)
  have ow : Ord p (a ^ d) (q ^ k) := Ord.pow hp (by rw [Nat.mul_comm, ← hd]; exact on)
  have om := Ord.mul_ hp ov ow (Nat.Coprime.symm (coprime_pow hq hc k))
  have h1 := om.le hp (om.unit hp)
  have hvk : v < k := by
    rcases Nat.lt_or_ge v k with z | z
    · exact z
    · exact absurd (Nat.dvd_trans (Nat.pow_dvd_pow q z) ⟨c, e⟩) no
  have h2 : q ^ v < q ^ k := Nat.pow_lt_pow_right (by have := hq.1; omega) hvk
  have h3 : c * q ^ v < c * q ^ k := Nat.mul_lt_mul_of_pos_left h2 hc0
  rw [Nat.mul_comm (q ^ v)] at e
  omega
/-- full, by the primes of p - 1 -/
theorem ord_of_primes (hp : Prime p) (h1 : is1 p a n) (hn : 0 < n) (h : ∀ q, Prime q → q ∣ n → ¬ is1 p a (n / q)) : Ord p a n := by
  have hu : un p a := fun z => by
    obtain ⟨k, rfl⟩ : ∃ k, n = k + 1 := ⟨n - 1, by omega⟩
    exact not_dvd_of_one hp h1 (by rw [Int.pow_succ]; exact Int.dvd_mul_of_dvd_right z)
  obtain ⟨m, o⟩ := exists_ord hp hu
  obtain ⟨c, hc⟩ := o.dvd hp h1
  by_cases e : c = 1
  · rw [e, Nat.mul_one] at hc
    rw [hc]; exact o
  · exfalso
    have hc0 : c ≠ 0 := fun z => by rw [z, Nat.mul_zero] at hc; omega
    obtain ⟨q, hq, d, hd⟩ := exists_prime c (by omega)
    refine h q hq ⟨m * d, by rw [hc, hd]; grind⟩ (one_of_dvd o.one ⟨d, ?_⟩)
    rw [hc, hd, show m * (q * d) = q * (m * d) by grind]
    exact Nat.mul_div_cancel_left _ hq.pos
end
end M

/-! full numbers, by the primes of p - 1 -/
namespace M
theorem pw_one_iff {p : Nat} (hp : 2 ≤ p) {a : Int} {e : Nat} : pw p a e = 1 ↔ is1 p a e := by
  unfold pw is1
  have h1 : (1 : Int) % (p : Int) = 1 := Int.emod_eq_of_lt (by decide) (by omega)
  constructor
  · intro h
    have h2 : a ^ e % (p : Int) = 1 % p := by rw [h, h1]
    exact Int.dvd_of_emod_eq_zero (Int.emod_eq_emod_iff_emod_sub_eq_zero.mp h2)
  · intro h
    rw [← h1]
    exact Int.emod_eq_emod_iff_emod_sub_eq_zero.mpr (Int.emod_eq_zero_of_dvd h)
theorem un_small {p : Nat} {a : Int} (h0 : 0 < a) (h1 : a < p) : un p a := fun z => by have := Int.le_of_dvd h0 z; omega
theorem un_iff {p : Nat} {a : Int} : un p a ↔ a % (p : Int) ≠ 0 := ⟨fun h z => h (Int.dvd_of_emod_eq_zero z), fun h z => h (Int.emod_eq_zero_of_dvd z)⟩
theorem full_iff {p : Nat} (hp : Prime p) {a : Int} (ha : un p a) {l : List (Nat × Nat)} (hl : IsFac (p - 1) l) : Ord p a (p - 1) ↔ ∀ x ∈ l, pw p a ((p - 1) / x.1) ≠ 1 := by
  have hp2 := hp.1
  constructor
  · intro o x hx z
    have h1 := (pw_one_iff hp2).mp z
    have hq := (hl.primes x hx).1
    have hd := fac_dvd hl hx
    have hq2 := hq.1
    have h2 := o.least _ (Nat.div_pos (Nat.le_of_dvd (by omega) hd) hq.pos) h1
    have h3 : (p - 1) / x.1 < p - 1 := Nat.div_lt_self (by omega) (by omega)
    omega
  · intro h
    refine ord_of_primes hp (fermat hp ha) (by omega) fun q hq hd z => ?_
    obtain ⟨k, hk⟩ := fac_prime_in hl hq hd
    exact h _ hk ((pw_one_iff hp2).mpr z)
theorem is1_congr {p : Nat} {a b : Int} (h : (p : Int) ∣ a - b) (e : Nat) : is1 p a e ↔ is1 p b e := by
  have key : ∀ {a b : Int}, (p : Int) ∣ a - b → is1 p a e → is1 p b e := fun {a b} h h1 => by
    unfold is1 at *
    have h2 : a ^ e % (p : Int) = b ^ e % p := by
      have h3 : a % (p : Int) = b % p := Int.emod_eq_emod_iff_emod_sub_eq_zero.mpr (Int.emod_eq_zero_of_dvd h)
      rw [← pow_emod, h3, pow_emod]
    have h4 := Int.dvd_of_emod_eq_zero (Int.emod_eq_emod_iff_emod_sub_eq_zero.mp h2.symm)
    have h5 := Int.dvd_add h4 h1
    rw [show b ^ e - a ^ e + (a ^ e - 1) = b ^ e - 1 by omega] at h5
    exact h5
  refine ⟨key h, key ?_⟩
  rw [show b - a = -(a - b) by omega]
  exact Int.dvd_neg.mpr h
theorem Ord.congr {p : Nat} {a b : Int} {m : Nat} (h : (p : Int) ∣ a - b) (o : Ord p a m) : Ord p b m := ⟨o.pos, (is1_congr h _).mp o.one, fun f hf z => o.least f hf ((is1_congr h _).mpr z)⟩
theorem full_small {p : Nat} (hp : Prime p) : ∃ f : Nat, 0 < f ∧ f < p ∧ Ord p (f : Int) (p - 1) := by
  obtain ⟨a, o⟩ := full_exists hp
  have hp0 := hp.pos
  have h1 := Int.emod_nonneg a (show (p : Int) ≠ 0 by omega)
  have h2 := Int.emod_lt_of_pos a (show (0 : Int) < p by omega)
  have h3 := un_iff.mp (o.unit hp)
  refine ⟨(a % (p : Int)).toNat, by omega, by omega, ?_⟩
  rw [Int.toNat_of_nonneg h1]
  refine o.congr ?_
  have := Int.emod_add_mul_ediv a p
  exact ⟨a / p, by omega⟩
/-- the least one -/
structure LeastFull (p f : Nat) : Prop where
  f0 : 0 < f
  f1 : f < p
  full : Ord p (f : Int) (p - 1)
  least : ∀ g : Nat, 0 < g → g < f → ¬Ord p (g : Int) (p - 1)
theorem paper_prime {p q n : Nat} (hp : Prime p) (hq : Prime q) (hd : q ∣ p - 1) (hn : p ≤ 2 ^ (n + 1)) : q ≤ 2 ^ n := by
  obtain ⟨c, hc⟩ := hd
  have hp2 := hp.1
  have hq2 := hq.1
  rw [Nat.pow_succ] at hn
  by_cases h : 2 ≤ c
  · have : q * 2 ≤ q * c := Nat.mul_le_mul_left q h
    omega
  · have : c = 0 ∨ c = 1 := by omega
    rcases this with rfl | rfl
    · omega
    · rw [Nat.mul_one] at hc
      -- p and p - 1 are primes
      by_cases he : p % 2 = 0
      · rcases hp.2 2 (Nat.dvd_of_mod_eq_zero he) with z | z <;> omega
      · have : 2 ∣ q := Nat.dvd_of_mod_eq_zero (by omega)
        rcases hq.2 2 this with z | z
        · omega
        · omega
end M

/-! half of p - 1: what shows that there is no square root -/
namespace M
theorem half_even {p : Nat} (hp : Prime p) (h2 : p ≠ 2) : p - 1 = 2 * ((p - 1) / 2) ∧ 0 < (p - 1) / 2 := by
  have := hp.1
  have : p % 2 = 1 := by
    rcases Nat.mod_two_eq_zero_or_one p with z | z
    · rcases hp.2 2 (Nat.dvd_of_mod_eq_zero z) with e | e
      · omega
      · exact absurd e.symm h2
    · exact z
  omega
theorem pw_of_dvd {p : Nat} {a : Int} {e : Nat} {r : Int} (h0 : 0 ≤ r) (h1 : r < p) (h : (p : Int) ∣ a ^ e - r) : pw p a e = r := by
  unfold pw
  rw [Int.emod_eq_emod_iff_emod_sub_eq_zero.mpr (Int.emod_eq_zero_of_dvd h), Int.emod_eq_of_lt h0 h1]
theorem pw_nought {p : Nat} {a : Int} {e : Nat} (h : (p : Int) ∣ a) (he : 0 < e) : pw p a e = 0 := by
  obtain ⟨k, rfl⟩ : ∃ k, e = k + 1 := ⟨e - 1, by omega⟩
  unfold pw
  rw [Int.pow_succ]
  exact Int.emod_eq_zero_of_dvd (Int.dvd_trans h ⟨a ^ k, Int.mul_comm _ _⟩)
theorem half_full {p : Nat} (hp : Prime p) (h2 : p ≠ 2) {f : Int} (o : Ord p f (p - 1)) : pw p f ((p - 1) / 2) = (p : Int) - 1 := by
  obtain ⟨he, h0⟩ := half_even hp h2
  have hp2 := hp.1
  have h1 := o.one
  unfold is1 at h1
  have e : f ^ (p - 1) - 1 = (f ^ ((p - 1) / 2) - 1) * (f ^ ((p - 1) / 2) + 1) := by
    conv => lhs; rw [he, Nat.mul_comm, Int.pow_mul]
    grind
  rw [e] at h1
  rcases dvd_mul_int hp h1 with z | z
  · have := o.least _ h0 z
    omega
  · refine pw_of_dvd (by omega) (by omega) ?_
    have h3 := Int.dvd_sub z (Int.dvd_refl (p : Int))
    rw [show f ^ ((p - 1) / 2) + 1 - (p : Int) = f ^ ((p - 1) / 2) - ((p : Int) - 1) by omega] at h3
    exact h3
theorem half_square {p : Nat} (hp : Prime p) (h2 : p ≠ 2) {x : Int} (hx : un p x) : pw p (x * x) ((p - 1) / 2) = 1 := by
  obtain ⟨he, h0⟩ := half_even hp h2
  have h1 := fermat hp hx
  refine (pw_one_iff hp.1).mpr ?_
  unfold is1 at *
  rw [he, Int.pow_mul] at h1
  rw [show x * x = x ^ 2 by rw [Int.pow_succ, Int.pow_succ, Int.pow_zero, Int.one_mul]]
  exact h1
theorem half_times {p : Nat} (hp : Prime p) (h2 : p ≠ 2) {x f : Int} (hx : un p x) (o : Ord p f (p - 1)) : pw p (x * x * f) ((p - 1) / 2) = (p : Int) - 1 := by
  have hp2 := hp.1
  rw [pw_prod, half_square hp h2 hx, half_full hp h2 o, Int.one_mul]
  exact Int.emod_eq_of_lt (by omega) (by omega)
theorem half_not {p : Nat} (hp : Prime p) (h2 : p ≠ 2) (x : Int) : pw p (x * x - p) ((p - 1) / 2) ≠ (p : Int) - 1 := by
  have hp2 := hp.1
  rw [pw_congr (b := x * x) (by rw [Int.sub_emod_right])]
  by_cases hx : un p x
  · rw [half_square hp h2 hx]; omega
  · have hd : (p : Int) ∣ x := Classical.byContradiction hx
    rw [pw_nought (Int.dvd_trans hd ⟨x, rfl⟩) (half_even hp h2).2]; omega
end M

/-! the greatest prime below 10 ** 9, and a prime from any number below it on -/
namespace M
/-- no odd number from d on, k of them, divides n -/
def noOdd (n : Nat) : Nat → Nat → Bool
  | 0, _ => true
  | k + 1, d => (n % d != 0) && noOdd n k (d + 2)
theorem noOdd_at {n : Nat} : ∀ {k d : Nat}, noOdd n k d = true → ∀ j, j < k → n % (d + 2 * j) ≠ 0
  | 0, _, _, j, h => by omega
  | k + 1, d, h, j, hj => by
    simp only [noOdd, Bool.and_eq_true, bne_iff_ne, ne_eq] at h
    rcases j with _ | j
    · exact h.1
    · have := noOdd_at h.2 j (by omega)
      rw [show d + 2 * (j + 1) = d + 2 + 2 * j by omega]; exact this
set_option maxRecDepth 100000 in
theorem big_ok : noOdd 999999937 15811 3 = true := by decide +kernel
theorem big_prime : Prime 999999937 := prime_of_no (by decide) fun d h1 h2 h3 => by
  have h4 : d < 31623 := by
    rcases Nat.lt_or_ge d 31623 with z | z
    · exact z
    · have := Nat.mul_le_mul z z; omega
  have h5 := Nat.mod_eq_zero_of_dvd h3
  by_cases e : d % 2 = 0
  · have : 2 ∣ 999999937 := Nat.dvd_trans (Nat.dvd_of_mod_eq_zero e) h3
    have := Nat.mod_eq_zero_of_dvd this
    omega
  · have h6 := noOdd_at big_ok ((d - 3) / 2) (by omega)
    rw [show 3 + 2 * ((d - 3) / 2) = d by omega] at h6
    exact h6 h5
end M

/-! orders by any number; what is taken out of a number whose power is 1 -/
namespace M
section
variable {n : Nat} {a b : Int} {e f m q o : Nat}
theorem one_subN (h : is1 n a (e + f)) (h' : is1 n a e) : is1 n a f := by
  unfold is1 at *
  have : a ^ (e + f) - 1 = a ^ f * (a ^ e - 1) + (a ^ f - 1) := by rw [Int.pow_add]; grind
  rw [this] at h
  have h3 := Int.dvd_sub h (Int.dvd_trans h' ⟨a ^ f, Int.mul_comm _ _⟩)
  rw [show a ^ f * (a ^ e - 1) + (a ^ f - 1) - a ^ f * (a ^ e - 1) = a ^ f - 1 by omega] at h3
  exact h3
theorem Ord.dvdN (o : Ord n a m) (h : is1 n a f) : m ∣ f := by
  have h1 : is1 n a (m * (f / m)) := one_mul_ o.one _
  have h2 : is1 n a (f % m) := one_subN (e := m * (f / m)) (by rw [Nat.div_add_mod]; exact h) h1
  rcases Nat.eq_zero_or_pos (f % m) with z | z
  · exact Nat.dvd_of_mod_eq_zero z
  · have := o.least _ z h2
    have := Nat.mod_lt f o.pos
    omega
theorem Ord.iffN (o : Ord n a m) : is1 n a f ↔ m ∣ f := ⟨o.dvdN, one_of_dvd o.one⟩
theorem Ord.uniqueN (o : Ord n a m) (o' : Ord n a f) : m = f := Nat.dvd_antisymm (o.dvdN o'.one) (o'.dvdN o.one)
theorem ex_ordN (h : is1 n a e) (he : 0 < e) : ∃ m, Ord n a m := by
  obtain ⟨m, h1, h2⟩ := exists_min (P := fun e => 0 < e ∧ is1 n a e) e ⟨he, h⟩
  exact ⟨m, h1.1, h1.2, fun f hf h => h2 f ⟨hf, h⟩⟩
end
/-- how often q stands in n -/
def vq (q n : Nat) : Nat := if _h : 2 ≤ q ∧ 0 < n ∧ n % q = 0 then vq q (n / q) + 1 else 0
termination_by n
decreasing_by exact Nat.div_lt_self _h.2.1 (by omega)
theorem vq_no {q n : Nat} (h : ¬ (2 ≤ q ∧ 0 < n ∧ n % q = 0)) : vq q n = 0 := by rw [vq, dif_neg h]
theorem vq_more {q m : Nat} (hq : 2 ≤ q) (hm : 0 < m) : vq q (q * m) = vq q m + 1 := by
  rw [vq, dif_pos ⟨hq, Nat.mul_pos (by omega) hm, Nat.mul_mod_right q m⟩, Nat.mul_div_cancel_left _ (by omega)]
theorem vq_eq {q m : Nat} (hq : 2 ≤ q) (hm : ¬ q ∣ m) (h0 : 0 < m) : ∀ k, vq q (q ^ k * m) = k
  | 0 => by rw [Nat.pow_zero, Nat.one_mul]; exact vq_no fun h => hm (Nat.dvd_of_mod_eq_zero h.2.2)
  | k + 1 => by
    rw [Nat.pow_succ, Nat.mul_comm (q ^ k) q, Nat.mul_assoc, vq_more hq (Nat.mul_pos (Nat.pow_pos (by omega)) h0), vq_eq hq hm h0 k]
theorem vq_split {q n : Nat} (hq : Prime q) (hn : 0 < n) : ∃ m, n = q ^ vq q n * m ∧ ¬ q ∣ m ∧ 0 < m := by
  obtain ⟨k, m, e, h1, h2⟩ := split_prime hq n hn
  have := vq_eq hq.1 h1 h2 k
  rw [← e] at this
  exact ⟨m, by rw [this]; exact e, h1, h2⟩
theorem vq_pos_iff {q n : Nat} (hq : 2 ≤ q) (hn : 0 < n) : 0 < vq q n ↔ n % q = 0 := by
  constructor
  · intro h
    rcases Nat.eq_zero_or_pos (n % q) with z | z
    · exact z
    · rw [vq_no (by omega)] at h; omega
  · intro h
    rw [vq, dif_pos ⟨hq, hn, h⟩]; omega
theorem pow_split {q v k m c : Nat} (hq : Prime q) (hm : ¬ q ∣ m) (hc : ¬ q ∣ c) : q ^ v * c ∣ q ^ k * m ↔ v ≤ k ∧ c ∣ m := by
  constructor
  · intro h
    constructor
    · have h1 : q ^ v ∣ q ^ k * m := Nat.dvd_trans (Nat.dvd_mul_right _ _) h
      have h2 : q ^ v ∣ q ^ k := Nat.Coprime.dvd_of_dvd_mul_right (coprime_pow hq hm v) h1
      exact (Nat.pow_dvd_pow_iff_le_right (by have := hq.1; omega)).mp h2
    · have h1 : c ∣ q ^ k * m := Nat.dvd_trans (Nat.dvd_mul_left _ _) h
      exact Nat.Coprime.dvd_of_dvd_mul_left (Nat.Coprime.symm (coprime_pow hq hc k)) h1
  · rintro ⟨h1, h2⟩
    exact Nat.mul_dvd_mul (Nat.pow_dvd_pow q h1) h2
theorem prodL_pos : ∀ {l : List (Nat × Nat)}, (∀ x ∈ l, Prime x.1) → 0 < prodL l
  | [], _ => by decide
  | x :: l, h => Nat.mul_pos (Nat.pow_pos (h x (by simp)).pos) (prodL_pos fun y hy => h y (by simp [hy]))
theorem prime_in' {l : List (Nat × Nat)} {q : Nat} (hq : Prime q) (hl : ∀ x ∈ l, Prime x.1) (h : q ∣ prodL l) : ∃ k, (q, k) ∈ l := by
  induction l with
  | nil =>
    simp only [prodL] at h
    have := Nat.le_of_dvd (by decide) h
    have := hq.1; omega
  | cons x l ih =>
    simp only [prodL] at h
    rcases hq.dvd_mul h with z | z
    · have := hq.eq_of_dvd (hl x (by simp)) (hq.dvd_pow z)
      exact ⟨x.2, by rw [this]; simp⟩
    · obtain ⟨k, hk⟩ := ih (fun y hy => hl y (by simp [hy])) z
      exact ⟨k, by simp [hk]⟩
/-- the parting with the manys of o -/
def vL (o : Nat) (l : List (Nat × Nat)) : List (Nat × Nat) := l.map fun x => (x.1, vq x.1 o)
theorem vL_prime {o : Nat} {l : List (Nat × Nat)} (h : ∀ x ∈ l, Prime x.1) : ∀ x ∈ vL o l, Prime x.1 := fun x hx => by
  obtain ⟨y, hy, rfl⟩ := List.mem_map.mp hx
  exact h y hy
theorem vL_dvd {o : Nat} (ho : 0 < o) : ∀ {l : List (Nat × Nat)}, l.Pairwise (fun x y => x.1 < y.1) → (∀ x ∈ l, Prime x.1) → prodL (vL o l) ∣ o
  | [], _, _ => by simp [vL, prodL]
  | x :: l, hs, hp => by
    have hs' := List.pairwise_cons.mp hs
    have hx := hp x (by simp)
    have ih := vL_dvd ho hs'.2 fun y hy => hp y (by simp [hy])
    obtain ⟨m, em, hm, _⟩ := vq_split hx ho
    have hn : ¬ x.1 ∣ prodL (vL o l) := fun z => by
      obtain ⟨k, hk⟩ := prime_in' hx (vL_prime fun y hy => hp y (by simp [hy])) z
      obtain ⟨y, hy, e⟩ := List.mem_map.mp hk
      have h1 := hs'.1 y hy
      have h2 : y.1 = x.1 := (Prod.mk.inj e).1
      omega
    show x.1 ^ vq x.1 o * prodL (vL o l) ∣ o
    exact Nat.Coprime.mul_dvd_of_dvd_of_dvd (coprime_pow hx hn _) ⟨m, em⟩ ih
/-- what is left of e at turn i, o the order -/
structure OF (o E : Nat) (l : List (Nat × Nat)) (i e : Nat) : Prop where
  val : e = prodL (vL o (l.take i)) * prodL (l.drop i)
  dvd : o ∣ e
theorem of_start {o E : Nat} {l : List (Nat × Nat)} (hl : IsFac E l) (h : o ∣ E) : OF o E l 0 E := ⟨by
  rw [List.take_zero, List.drop_zero, hl.prod]; simp [vL, prodL], h⟩
theorem of_step {o E : Nat} {l : List (Nat × Nat)} {i e q b : Nat} (hl : IsFac E l) (o0 : 0 < o) (h : OF o E l i e) (hx : l[i]? = some (q, b)) :
    ∃ m, e = q ^ b * m ∧ ¬ q ∣ m ∧ 0 < m ∧ vq q o ≤ b ∧ (∀ k, o ∣ q ^ k * m ↔ vq q o ≤ k) ∧ OF o E l (i + 1) (q ^ vq q o * m) := by
  have hil : i < l.length := (List.getElem?_eq_some_iff.mp hx).1
  have hxe : l[i] = (q, b) := (List.getElem?_eq_some_iff.mp hx).2
  have hd : l.drop i = (q, b) :: l.drop (i + 1) := by rw [List.drop_eq_getElem_cons hil, hxe]
  have ht : l.take (i + 1) = l.take i ++ [(q, b)] := by rw [List.take_succ, hx]; rfl
  have hsp : l = l.take i ++ (q, b) :: l.drop (i + 1) := by rw [← hd, List.take_append_drop]
  have hso := hl.sorted
  rw [hsp] at hso
  have hso' := List.pairwise_append.mp hso
  have hpr : ∀ x ∈ l, Prime x.1 := fun x hx => (hl.primes x hx).1
  have hq : Prime q := hpr (q, b) (List.mem_of_getElem? hx)
  have p1 : ∀ x ∈ l.take i, Prime x.1 := fun x hx => hpr x (List.mem_of_mem_take hx)
  have p2 : ∀ x ∈ l.drop (i + 1), Prime x.1 := fun x hx => hpr x (List.mem_of_mem_drop hx)
  have n1 : ¬ q ∣ prodL (vL o (l.take i)) := fun z => by
    obtain ⟨k, hk⟩ := prime_in' hq (vL_prime p1) z
    obtain ⟨y, hy, e⟩ := List.mem_map.mp hk
    have h1 := hso'.2.2 y hy (q, b) (by simp)
    have h2 : y.1 = q := (Prod.mk.inj e).1
    have h3 : y.1 < q := h1
    omega
  have n2 : ¬ q ∣ prodL (l.drop (i + 1)) := fun z => by
    obtain ⟨k, hk⟩ := prime_in' hq p2 z
    have h1 := (List.pairwise_cons.mp hso'.2.1).1 _ hk
    have h3 : q < q := h1
    omega
  refine ⟨prodL (vL o (l.take i)) * prodL (l.drop (i + 1)), ?_, fun z => ?_, Nat.mul_pos (prodL_pos (vL_prime p1)) (prodL_pos p2), ?_⟩
  · rw [h.val, hd]; simp only [prodL]; grind
  · rcases hq.dvd_mul z with z | z
    · exact n1 z
    · exact n2 z
  generalize hm : prodL (vL o (l.take i)) * prodL (l.drop (i + 1)) = m
  have em : e = q ^ b * m := by rw [← hm, h.val, hd]; simp only [prodL]; grind
  have hqm : ¬ q ∣ m := fun z => by
    rw [← hm] at z
    rcases hq.dvd_mul z with z | z
    · exact n1 z
    · exact n2 z
  obtain ⟨c, ec, hc, _⟩ := vq_split hq o0
  have hdv := h.dvd
  rw [em] at hdv
  have hb := (pow_split hq hqm hc).mp (by rw [← ec]; exact hdv)
  refine ⟨hb.1, fun k => ?_, ⟨?_, ?_⟩⟩
  · conv => lhs; rw [ec]
    rw [pow_split hq hqm hc]
    exact ⟨fun z => z.1, fun z => ⟨z, hb.2⟩⟩
  · rw [ht, ← hm]
    show _ = prodL (vL o (l.take i ++ [(q, b)])) * _
    unfold vL
    rw [List.map_append, prodL_app]
    simp only [List.map_cons, List.map_nil, prodL]
    grind
  · conv => lhs; rw [ec]
    exact (pow_split hq hqm hc).mpr ⟨Nat.le_refl _, hb.2⟩
theorem of_end {o E : Nat} {l : List (Nat × Nat)} {e : Nat} (hl : IsFac E l) (o0 : 0 < o) (h : OF o E l l.length e) : e = o := by
  have h1 := h.val
  rw [List.take_length, List.drop_length] at h1
  simp only [prodL, Nat.mul_one] at h1
  exact Nat.dvd_antisymm (by rw [h1]; exact vL_dvd o0 hl.sorted fun x hx => (hl.primes x hx).1) h.dvd
theorem of_le {o E : Nat} {l : List (Nat × Nat)} {i e : Nat} (hl : IsFac E l) (hE : 0 < E) (hoE : o ∣ E) (o0 : 0 < o) (h : OF o E l i e) : e ∣ E := by
  rw [h.val, ← hl.prod]
  conv => rhs; rw [← List.take_append_drop i l, prodL_app]
  refine Nat.mul_dvd_mul ?_ (Nat.dvd_refl _)
  have key : ∀ l : List (Nat × Nat), (∀ x ∈ l, vq x.1 o ≤ x.2) → prodL (vL o l) ∣ prodL l := fun l => by
    induction l with
    | nil => intro _; simp [vL, prodL]
    | cons x l ih => intro hx; exact Nat.mul_dvd_mul (Nat.pow_dvd_pow _ (hx x (by simp))) (ih fun y hy => hx y (by simp [hy]))
  refine key _ fun x hx => ?_
  have hx' := List.mem_of_mem_take hx
  obtain ⟨j, hj⟩ := List.getElem?_of_mem hx'
  -- x's many is that of E
  have hq := (hl.primes x hx').1
  have h2 : ∃ m, E = x.1 ^ x.2 * m ∧ ¬ x.1 ∣ m ∧ 0 < m := by
    have hil : j < l.length := (List.getElem?_eq_some_iff.mp hj).1
    have hxe : l[j] = x := (List.getElem?_eq_some_iff.mp hj).2
    have hd : l.drop j = x :: l.drop (j + 1) := by rw [List.drop_eq_getElem_cons hil, hxe]
    have hsp : l = l.take j ++ x :: l.drop (j + 1) := by rw [← hd, List.take_append_drop]
    have hso := hl.sorted
    rw [hsp] at hso
    have hso' := List.pairwise_append.mp hso
    have p1 : ∀ y ∈ l.take j, Prime y.1 := fun y hy => (hl.primes y (List.mem_of_mem_take hy)).1
    have p2 : ∀ y ∈ l.drop (j + 1), Prime y.1 := fun y hy => (hl.primes y (List.mem_of_mem_drop hy)).1
    refine ⟨prodL (l.take j) * prodL (l.drop (j + 1)), ?_, fun z => ?_, Nat.mul_pos (prodL_pos p1) (prodL_pos p2)⟩
    · rw [← hl.prod]
      conv => lhs; rw [hsp]
      rw [prodL_app]; simp only [prodL]; grind
    · rcases hq.dvd_mul z with z | z
      · obtain ⟨k, hk⟩ := prime_in' hq p1 z
        have h1 := hso'.2.2 _ hk x (by simp)
        have h2 : x.1 < x.1 := h1
        omega
      · obtain ⟨k, hk⟩ := prime_in' hq p2 z
        have h1 := (List.pairwise_cons.mp hso'.2.1).1 _ hk
        have h2 : x.1 < x.1 := h1
        omega
  obtain ⟨m, e1, e2, e3⟩ := h2
  obtain ⟨c, ec, hc, _⟩ := vq_split hq o0
  exact ((pow_split hq e2 hc).mp (by rw [← ec, ← e1]; exact hoE)).1
end M

/-! a number with a number of the order one below it is a prime -/
namespace M
theorem ord_of_primesN {n m : Nat} {a : Int} (h1 : is1 n a m) (hm : 0 < m) (h : ∀ q, Prime q → q ∣ m → ¬ is1 n a (m / q)) : Ord n a m := by
  obtain ⟨o, ho⟩ := ex_ordN h1 hm
  obtain ⟨c, hc⟩ := ho.dvdN h1
  have c0 : 0 < c := by
    rcases Nat.eq_zero_or_pos c with z | z
    · subst z; simp at hc; omega
    · exact z
  by_cases c1 : c = 1
  · subst c1
    rw [Nat.mul_one] at hc
    rw [hc]; exact ho
  · obtain ⟨q, hq, hd⟩ := exists_prime c (by omega)
    obtain ⟨k, hk⟩ := hd
    refine absurd (one_of_dvd ho.one ?_) (h q hq ⟨o * k, by rw [hc, hk]; grind⟩)
    refine ⟨k, ?_⟩
    rw [hc, hk]
    have : o * (q * k) = q * (o * k) := by grind
    rw [this, Nat.mul_div_cancel_left _ hq.pos]
theorem lucas {p : Nat} {a : Int} (h2 : 2 ≤ p) (o : Ord p a (p - 1)) : Prime p := by
  refine ⟨h2, fun d hd => Classical.byContradiction fun hn => ?_⟩
  have hd1 : d ≠ 1 := fun z => hn (.inl z)
  have hdp : d ≠ p := fun z => hn (.inr z)
  have hle := Nat.le_of_dvd (by omega) hd
  have hd0 : 0 < d := Nat.pos_of_dvd_of_pos hd (by omega)
  have hdI : (d : Int) ∣ (p : Int) := Int.natCast_dvd_natCast.mpr hd
  -- no power is a multiple of d
  have nod : ∀ i, i ≤ p - 1 → ¬ (d : Int) ∣ a ^ i := fun i hi z => by
    have e : a ^ (p - 1) = a ^ i * a ^ (p - 1 - i) := by rw [← Int.pow_add]; congr 1; omega
    have h1 : (d : Int) ∣ a ^ (p - 1) := by rw [e]; exact Int.dvd_trans z ⟨_, rfl⟩
    have h3 : (d : Int) ∣ a ^ (p - 1) - 1 := Int.dvd_trans hdI o.one
    have h4 := Int.dvd_sub h1 h3
    rw [show a ^ (p - 1) - (a ^ (p - 1) - 1) = 1 by omega] at h4
    have := Int.le_of_dvd (by decide) h4
    omega
  have rI : ∀ i, ((a ^ i % (p : Int)).toNat : Int) = a ^ i % (p : Int) := fun i => Int.toNat_of_nonneg (Int.emod_nonneg _ (by omega))
  have hlt : ∀ i, (a ^ i % (p : Int)).toNat < p := fun i => by
    have h1 := Int.emod_lt_of_pos (a ^ i) (show (0 : Int) < p by omega)
    have := rI i
    omega
  have nodr : ∀ i, i ≤ p - 1 → ¬ d ∣ (a ^ i % (p : Int)).toNat := fun i hi z => by
    have h1 : (d : Int) ∣ a ^ i % (p : Int) := by rw [← rI]; exact Int.natCast_dvd_natCast.mpr z
    have h3 := Int.dvd_add h1 (Int.dvd_trans hdI ⟨a ^ i / (p : Int), rfl⟩)
    rw [Int.emod_add_mul_ediv] at h3
    exact nod i hi h3
  have hne : ∀ i, i ≤ p - 1 → (a ^ i % (p : Int)).toNat ≠ 0 ∧ (a ^ i % (p : Int)).toNat ≠ d := fun i hi => ⟨fun z => nodr i hi (by rw [z]; exact Nat.dvd_zero d), fun z => nodr i hi (by rw [z]; exact Nat.dvd_refl d)⟩
  have h1 := pig (p - 2) ((List.range (p - 1)).map fun i => (fun x => if x < d then x - 1 else x - 2) (a ^ i % (p : Int)).toNat) (by
    unfold List.Nodup
    rw [List.pairwise_map]
    refine List.Pairwise.imp_of_mem ?_ (List.pairwise_lt_range (n := p - 1))
    intro i j hi hj hij e
    have hj' := List.mem_range.mp hj
    have n1 := hne i (by omega)
    have n2 := hne j (by omega)
    have e2 : (a ^ i % (p : Int)).toNat = (a ^ j % (p : Int)).toNat := by
      simp only at e
      generalize (a ^ i % (p : Int)).toNat = x at *
      generalize (a ^ j % (p : Int)).toNat = y at *
      split at e <;> split at e <;> omega
    have e3 := toNat_alike (show 0 < p by omega) e2
    have e4 : (p : Int) ∣ a ^ (p - 1 - i) * (a ^ j - a ^ i) := Int.dvd_trans e3 ⟨_, Int.mul_comm _ _⟩
    have e5 : a ^ (p - 1 - i) * (a ^ j - a ^ i) = a ^ (p - 1) * (a ^ (j - i) - 1) := by
      have u1 : a ^ j = a ^ i * a ^ (j - i) := by rw [← Int.pow_add]; congr 1; omega
      have u2 : a ^ (p - 1) = a ^ (p - 1 - i) * a ^ i := by rw [← Int.pow_add]; congr 1; omega
      rw [u1, u2]; grind
    rw [e5] at e4
    have e6 : (p : Int) ∣ (a ^ (p - 1) - 1) * (a ^ (j - i) - 1) := Int.dvd_trans o.one ⟨_, rfl⟩
    have e7 := Int.dvd_sub e4 e6
    rw [show a ^ (p - 1) * (a ^ (j - i) - 1) - (a ^ (p - 1) - 1) * (a ^ (j - i) - 1) = a ^ (j - i) - 1 by grind] at e7
    have := o.least (j - i) (by omega) e7
    omega) fun x hx => by
      obtain ⟨i, hi, rfl⟩ := List.mem_map.mp hx
      have hi' := List.mem_range.mp hi
      have n1 := hne i (by omega)
      have n2 := hlt i
      generalize (a ^ i % (p : Int)).toNat = x at *
      simp only
      split <;> omega
  rw [List.length_map, List.length_range] at h1
  omega
end M

/-! orders of powers, of inverses -/
namespace M
theorem dvd_mul_div {e k f : Nat} (he : 0 < e) : e ∣ k * f ↔ e / Nat.gcd k e ∣ f := by
  have g0 : 0 < Nat.gcd k e := Nat.gcd_pos_of_pos_right k he
  obtain ⟨c, hc⟩ := Nat.gcd_dvd_right k e
  obtain ⟨d, hd⟩ := Nat.gcd_dvd_left k e
  have cop : Nat.gcd d c = 1 := by
    have := Nat.gcd_div (Nat.gcd_dvd_left k e) (Nat.gcd_dvd_right k e)
    rw [Nat.div_self g0] at this
    rw [← this]
    congr 1
    · conv => rhs; rw [hd, Nat.gcd_comm]
      rw [Nat.gcd_comm] at g0
      generalize hg : Nat.gcd e k = g at *
      rw [Nat.gcd_comm] at hd hc
      rw [hg] at hd hc
      have : k / g = d := by rw [hd]; exact Nat.mul_div_cancel_left _ g0
      rw [Nat.gcd_comm, ← hd, hg, this]
    · generalize hg : Nat.gcd k e = g at *
      rw [hc]; exact (Nat.mul_div_cancel_left _ g0).symm
  generalize hg : Nat.gcd k e = g at *
  rw [hc, Nat.mul_div_cancel_left _ g0, hd, Nat.mul_assoc, Nat.mul_dvd_mul_iff_left g0]
  exact ⟨fun h => Nat.Coprime.dvd_of_dvd_mul_left (Nat.Coprime.symm cop) h, fun h => Nat.dvd_trans h (Nat.dvd_mul_left _ _)⟩
theorem Ord.pow_ {p e : Nat} {a : Int} (o : Ord p a e) (k : Nat) : Ord p (a ^ k) (e / Nat.gcd k e) := by
  have g0 : 0 < Nat.gcd k e := Nat.gcd_pos_of_pos_right k o.pos
  refine Ord.of_iff (Nat.div_pos (Nat.le_of_dvd o.pos (Nat.gcd_dvd_right k e)) g0) fun f => ?_
  rw [one_pow_iff, o.iffN]
  exact dvd_mul_div o.pos
theorem pw_alike (p : Nat) (a : Int) (k : Nat) : (p : Int) ∣ a ^ k - pw p a k := by
  unfold pw
  exact Int.dvd_of_emod_eq_zero (Int.emod_eq_emod_iff_emod_sub_eq_zero.mp (by rw [Int.emod_emod]))
theorem Ord.pw {p e : Nat} {a : Int} (o : Ord p a e) (k : Nat) : Ord p (pw p a k) (e / Nat.gcd k e) := (o.pow_ k).congr (pw_alike p a k)
theorem Ord.mod {p e : Nat} {a : Int} (o : Ord p a e) : Ord p (a % p) e := o.congr (Int.dvd_of_emod_eq_zero (Int.emod_eq_emod_iff_emod_sub_eq_zero.mp (by rw [Int.emod_emod])))
theorem is1_one (p e : Nat) : is1 p 1 e := by unfold is1; rw [Int.one_pow]; simp
theorem Ord.inv {p e : Nat} {a b : Int} (h : (b * a - 1) % (p : Int) = 0) (o : Ord p a e) : Ord p b e := by
  have h1 : ∀ f, is1 p (b * a) f := fun f => (is1_congr (Int.dvd_of_emod_eq_zero h) f).mpr (is1_one p f)
  refine Ord.of_iff o.pos fun f => ?_
  rw [← o.iffN]
  constructor
  · intro z
    exact one_left (b := b) (by rw [Int.mul_comm]; exact h1 f) z
  · intro z
    exact one_left (b := a) (h1 f) z
theorem ord_one {p : Nat} : Ord p 1 1 := ⟨by decide, is1_one p 1, fun f hf _ => hf⟩
theorem un_gcd {p : Nat} {a : Int} (hp : Prime p) (h : un p a) : Int.gcd a p = 1 := by
  have h1 : Nat.gcd p a.natAbs = 1 := hp.coprime fun z => h (Int.natAbs_dvd_natAbs.mp (by rw [Int.natAbs_natCast]; exact z))
  rw [Int.gcd_comm]
  exact h1
theorem un_succ {p : Nat} {a : Int} (hp : Prime p) (h : a % (p : Int) = 0) : un p (a + 1) := fun z => by
  have h1 := Int.dvd_sub z (Int.dvd_of_emod_eq_zero h)
  rw [show a + 1 - a = 1 by omega] at h1
  have := Int.le_of_dvd (by decide) h1
  have := hp.1
  omega
end M

/-! orders of products -/
namespace M
theorem ord_mul_up {p e f h : Nat} {a b : Int} (oa : Ord p a e) (ob : Ord p b f) (oh : Ord p (a * b) h) : h ∣ e * f / Nat.gcd e f := by
  have g0 : 0 < Nat.gcd e f := Nat.gcd_pos_of_pos_left f oa.pos
  refine oh.dvdN (one_both (one_of_dvd oa.one ?_) (one_of_dvd ob.one ?_))
  · rw [Nat.mul_div_assoc _ (Nat.gcd_dvd_right e f)]; exact Nat.dvd_mul_right _ _
  · rw [Nat.mul_comm, Nat.mul_div_assoc _ (Nat.gcd_dvd_left e f)]; exact Nat.dvd_mul_right _ _
theorem ord_mul_low {p e f h : Nat} {a b : Int} (oa : Ord p a e) (ob : Ord p b f) (oh : Ord p (a * b) h) : e / Nat.gcd e f * (f / Nat.gcd e f) ∣ h := by
  have g0 : 0 < Nat.gcd e f := Nat.gcd_pos_of_pos_left f oa.pos
  have h1 : is1 p a (h * f) := one_left (b := b) (one_mul_ oh.one f) (one_of_dvd ob.one (Nat.dvd_mul_left f h))
  have h2 : is1 p b (h * e) := one_left (b := a) (by rw [Int.mul_comm]; exact one_mul_ oh.one e) (one_of_dvd oa.one (Nat.dvd_mul_left e h))
  have d1 : e / Nat.gcd e f ∣ h := by
    have := (dvd_mul_div (k := f) (f := h) oa.pos).mp (by rw [Nat.mul_comm]; exact oa.dvdN h1)
    rwa [Nat.gcd_comm] at this
  have d2 : f / Nat.gcd e f ∣ h := (dvd_mul_div (k := e) (f := h) ob.pos).mp (by rw [Nat.mul_comm]; exact ob.dvdN h2)
  have cop : Nat.gcd (e / Nat.gcd e f) (f / Nat.gcd e f) = 1 := by
    rw [Nat.gcd_div (Nat.gcd_dvd_left e f) (Nat.gcd_dvd_right e f), Nat.div_self g0]
  exact Nat.Coprime.mul_dvd_of_dvd_of_dvd cop d1 d2
theorem ord_mul_one {p e f h : Nat} {a b : Int} (oa : Ord p a e) (ob : Ord p b f) (oh : Ord p (a * b) h) (g : Nat.gcd e f = 1) : h = e * f := by
  have h1 := ord_mul_up oa ob oh
  have h2 := ord_mul_low oa ob oh
  rw [g] at h1 h2
  simp only [Nat.div_one] at h1 h2
  exact Nat.dvd_antisymm h1 h2
theorem ord_sq {p e : Nat} {a : Int} (oa : Ord p a e) : Ord p (a * a) (e / (2 - e % 2)) := by
  have h1 := oa.pow_ 2
  rw [show a ^ 2 = a * a by rw [Int.pow_succ, Int.pow_one]] at h1
  have g : Nat.gcd 2 e = 2 - e % 2 := by
    rw [Nat.gcd_rec]
    rcases Nat.mod_two_eq_zero_or_one e with z | z
    · rw [z]; simp
    · rw [z]; simp
  rwa [g] at h1
theorem un_mul {p : Nat} {a b : Int} (hp : Prime p) (ha : un p a) (hb : un p b) : un p (a * b) := fun z => by
  rcases dvd_mul_int hp z with w | w
  · exact ha w
  · exact hb w
theorem mod_alike (p : Nat) (a : Int) : (p : Int) ∣ a - a % p := Int.dvd_of_emod_eq_zero (Int.emod_eq_emod_iff_emod_sub_eq_zero.mp (by rw [Int.emod_emod]))
theorem ord_mods {p e : Nat} {a b : Int} (o : Ord p (a * b) e) : Ord p (a % p * (b % p)) e := o.congr (by
  obtain ⟨c, hc⟩ := mod_alike p a
  obtain ⟨d, hd⟩ := mod_alike p b
  exact ⟨c * b + a % p * d, by
    have : a * b - a % p * (b % p) = (a - a % p) * b + a % p * (b - b % p) := by grind
    rw [this, hc, hd]; grind⟩)
theorem un_pw {p : Nat} {f : Int} (hp : Prime p) (h : un p f) (k : Nat) : un p (pw p f k) := fun z => by
  have h1 := pw_alike p f k
  have h2 := Int.dvd_add h1 z
  rw [show f ^ k - pw p f k + pw p f k = f ^ k by omega] at h2
  exact unit_pow hp h k h2
end M

/-! the walk to a square root -/
namespace M
/-- m squarings bring t to 1, no fewer -/
structure IsM (p : Nat) (t : Int) (m : Nat) : Prop where
  one : is1 p t (2 ^ m)
  least : ∀ i, i < m → ¬ is1 p t (2 ^ i)
section
variable {p s m odd : Nat} {a f z t r w : Int}
theorem isM_ex {j : Nat} (h : is1 p t (2 ^ j)) : ∃ m, IsM p t m ∧ m ≤ j := by
  obtain ⟨m, h1, h2⟩ := exists_min (P := fun i => is1 p t (2 ^ i)) j h
  exact ⟨m, ⟨h1, fun i hi z => by have := h2 i z; omega⟩, h2 j h⟩
theorem IsM.unique {m' : Nat} (h : IsM p t m) (h' : IsM p t m') : m = m' := by
  rcases Nat.lt_trichotomy m m' with z | z | z
  · exact absurd h.one (h'.least m z)
  · exact z
  · exact absurd h'.one (h.least m' z)
theorem z_ord (hp : Prime p) (o : Ord p f (p - 1)) (h : p - 1 = odd * 2 ^ s) (h0 : 0 < odd) : Ord p (pw p f odd) (2 ^ s) := by
  have h1 := o.pw odd
  have g : Nat.gcd odd (p - 1) = odd := Nat.gcd_eq_left ⟨_, h⟩
  rw [g, h, Nat.mul_div_cancel_left _ h0] at h1
  exact h1
theorem is1_mod (e : Nat) : is1 p (t % p) e ↔ is1 p t e := by
  have h := mod_alike p t
  exact (is1_congr h e).symm
theorem is1_pw (k e : Nat) : is1 p (pw p a k) e ↔ is1 p a (k * e) := by
  rw [← one_pow_iff]
  exact (is1_congr (pw_alike p a k) e).symm
/-- -1, squared 1 -/
theorem minus_one (hp : Prime p) {x : Int} (h : (p : Int) ∣ x * x - 1) (n : ¬ (p : Int) ∣ x - 1) : (p : Int) ∣ x + 1 := by
  rw [show x * x - 1 = (x - 1) * (x + 1) by grind] at h
  exact (dvd_mul_int hp h).resolve_left n
theorem walk_step (hp : Prime p) (oz : Ord p z (2 ^ s)) (ht : IsM p t m) (m0 : 0 < m) (ms : m < s) :
    is1 p (t * pw p z (2 ^ (s - m - 1)) * pw p z (2 ^ (s - m - 1)) % p) (2 ^ (m - 1)) := by
  rw [is1_mod]
  obtain ⟨k, rfl⟩ : ∃ k, m = k + 1 := ⟨m - 1, by omega⟩
  rw [Nat.add_sub_cancel]
  generalize hw : pw p z (2 ^ (s - (k + 1) - 1)) = w
  -- u = t^(2^k), v = (w w)^(2^k)
  have hu1 : (p : Int) ∣ t ^ (2 ^ k) * t ^ (2 ^ k) - 1 := by
    have := ht.one
    unfold is1 at this
    rw [Nat.pow_succ, Int.pow_mul] at this
    rw [show t ^ (2 ^ k) * t ^ (2 ^ k) = (t ^ (2 ^ k)) ^ 2 by rw [Int.pow_succ, Int.pow_succ, Int.pow_zero, Int.one_mul]]
    exact this
  have hu := minus_one hp hu1 (ht.least k (by omega))
  have hw1 : ∀ e, is1 p w e ↔ is1 p z (2 ^ (s - (k + 1) - 1) * e) := fun e => by rw [← hw]; exact is1_pw _ _
  have e1 : 2 ^ (s - (k + 1) - 1) * 2 ^ (k + 2) = 2 ^ s := by rw [← Nat.pow_add]; congr 1; omega
  have e2 : 2 ^ (s - (k + 1) - 1) * 2 ^ (k + 1) = 2 ^ (s - 1) := by rw [← Nat.pow_add]; congr 1; omega
  have hvv : (w * w) ^ (2 ^ k) = w ^ (2 ^ (k + 1)) := by
    rw [show w * w = w ^ 2 by rw [Int.pow_succ, Int.pow_succ, Int.pow_zero, Int.one_mul], ← Int.pow_mul, Nat.pow_succ, Nat.mul_comm]
  have hv1 : (p : Int) ∣ (w * w) ^ (2 ^ k) * (w * w) ^ (2 ^ k) - 1 := by
    have : is1 p w (2 ^ (k + 2)) := (hw1 _).mpr (by rw [e1]; exact oz.one)
    unfold is1 at this
    rw [show 2 ^ (k + 2) = 2 ^ (k + 1) * 2 by rw [Nat.pow_succ], Int.pow_mul] at this
    rw [hvv, show w ^ (2 ^ (k + 1)) * w ^ (2 ^ (k + 1)) = (w ^ (2 ^ (k + 1))) ^ 2 by rw [Int.pow_succ, Int.pow_succ, Int.pow_zero, Int.one_mul]]
    exact this
  have hv2 : ¬ (p : Int) ∣ (w * w) ^ (2 ^ k) - 1 := fun y => by
    rw [hvv] at y
    have h1 : is1 p z (2 ^ (s - 1)) := by rw [← e2]; exact (hw1 _).mp y
    have h2 := oz.least _ (Nat.pow_pos (by decide)) h1
    have h3 : 2 ^ (s - 1) < 2 ^ s := Nat.pow_lt_pow_right (by decide) (by omega)
    omega
  have hv := minus_one hp hv1 hv2
  unfold is1
  have e3 : (t * w * w) ^ (2 ^ k) - 1 = (t ^ (2 ^ k) + 1) * ((w * w) ^ (2 ^ k) + 1) - (t ^ (2 ^ k) + 1) - ((w * w) ^ (2 ^ k) + 1) := by
    rw [Int.mul_assoc, Int.mul_pow]; grind
  rw [e3]
  exact Int.dvd_sub (Int.dvd_sub (Int.dvd_trans hu ⟨_, rfl⟩) hu) hv
theorem walk_start (hp : Prime p) (hu : un p a) (h : p - 1 = odd * 2 ^ s) (ho : odd % 2 = 1) (hh : p ≠ 2 → is1 p a ((p - 1) / 2)) : ∃ j, is1 p (pw p a odd) (2 ^ j) ∧ (0 < j → j < s) ∧ (j < s ∨ j = 0) := by
  have hp2 := hp.1
  by_cases e : p = 2
  · have hs : s = 0 := by
      rcases Nat.eq_zero_or_pos s with z | z
      · exact z
      · obtain ⟨k, rfl⟩ : ∃ k, s = k + 1 := ⟨s - 1, by omega⟩
        rw [e, Nat.pow_succ, ← Nat.mul_assoc] at h
        omega
    refine ⟨0, ?_, fun z => by omega, .inr rfl⟩
    rw [is1_pw, Nat.pow_zero, Nat.mul_one]
    have h1 := fermat hp hu
    rw [h, hs, Nat.pow_zero, Nat.mul_one] at h1
    exact h1
  · obtain ⟨he, h0⟩ := half_even hp e
    have hs : 0 < s := by
      rcases Nat.eq_zero_or_pos s with z | z
      · subst z
        rw [Nat.pow_zero, Nat.mul_one] at h
        omega
      · exact z
    obtain ⟨k, rfl⟩ : ∃ k, s = k + 1 := ⟨s - 1, by omega⟩
    refine ⟨k, ?_, fun _ => by omega, .inl (by omega)⟩
    rw [is1_pw]
    have h2 : (p - 1) / 2 = odd * 2 ^ k := by
      rw [h, Nat.pow_succ, ← Nat.mul_assoc]
      exact Nat.mul_div_cancel _ (by decide)
    rw [← h2]
    exact hh e
/-- the rows of the walk from r and t on -/
inductive Rows (p : Nat) (a z : Int) (s : Nat) : Int → Int → List (Int × Int × Nat) → Prop
  | last {r t : Int} : IsM p t 0 → (p : Int) ∣ r * r - a * t → Rows p a z s r t [(r, t, 0)]
  | more {r t : Int} {m : Nat} {l : List (Int × Int × Nat)} : IsM p t m → 0 < m → m < s → (p : Int) ∣ r * r - a * t →
      Rows p a z s (r * pw p z (2 ^ (s - m - 1)) % p) (t * pw p z (2 ^ (s - m - 1)) * pw p z (2 ^ (s - m - 1)) % p) l → Rows p a z s r t ((r, t, m) :: l)
theorem rt_start (h : p - 1 = odd * 2 ^ s) (ho : odd % 2 = 1) : (p : Int) ∣ pw p a ((odd + 1) / 2) * pw p a ((odd + 1) / 2) - a * pw p a odd := by
  have h1 := pw_alike p a ((odd + 1) / 2)
  have h2 := pw_alike p a odd
  generalize pw p a ((odd + 1) / 2) = r at h1 ⊢
  generalize pw p a odd = t at h2 ⊢
  have e : a ^ ((odd + 1) / 2) * a ^ ((odd + 1) / 2) = a * a ^ odd := by
    rw [← Int.pow_add, show (odd + 1) / 2 + (odd + 1) / 2 = odd + 1 by omega, Int.pow_succ, Int.mul_comm]
  generalize a ^ ((odd + 1) / 2) = x at h1 e
  generalize a ^ odd = y at h2 e
  have e2 : r * r - a * t = a * (y - t) - (x - r) * (x + r) := by grind
  rw [e2]
  exact Int.dvd_sub (Int.dvd_trans h2 ⟨a, Int.mul_comm _ _⟩) (Int.dvd_trans h1 ⟨_, rfl⟩)
theorem rt_step (h : (p : Int) ∣ r * r - a * t) : (p : Int) ∣ r * w % p * (r * w % p) - a * (t * w * w % p) := by
  have h1 := mod_alike p (r * w)
  have h2 := mod_alike p (t * w * w)
  generalize r * w % (p : Int) = x at h1 ⊢
  generalize t * w * w % (p : Int) = y at h2 ⊢
  have e2 : x * x - a * y = (r * r - a * t) * (w * w) + a * (t * w * w - y) - (r * w - x) * (r * w + x) := by grind
  rw [e2]
  exact Int.dvd_sub (Int.dvd_add (Int.dvd_trans h ⟨_, rfl⟩) (Int.dvd_trans h2 ⟨a, Int.mul_comm _ _⟩)) (Int.dvd_trans h1 ⟨_, rfl⟩)
theorem Rows.root {l : List (Int × Int × Nat)} (h : Rows p a z s r t l) : ∃ r' t', l.getLast? = some (r', t', 0) ∧ (p : Int) ∣ r' * r' - a := by
  induction h with
  | @last r t h1 h2 =>
    refine ⟨r, t, rfl, ?_⟩
    have h3 := h1.one
    unfold is1 at h3
    rw [Nat.pow_zero, Int.pow_succ, Int.pow_zero, Int.one_mul] at h3
    have e : r * r - a = (r * r - a * t) + a * (t - 1) := by grind
    rw [e]
    exact Int.dvd_add h2 (Int.dvd_trans h3 ⟨a, Int.mul_comm _ _⟩)
  | @more r t m l h1 h2 h3 h4 h5 ih =>
    obtain ⟨r', t', h6, h7⟩ := ih
    refine ⟨r', t', ?_, h7⟩
    rw [List.getLast?_cons, h6]; rfl
end
/-- the square roots of a by p, rising -/
structure IsRoots (p : Nat) (a : Int) (xs : List Int) : Prop where
  sorted : xs.Pairwise (· < ·)
  iff : ∀ y, y ∈ xs ↔ 0 ≤ y ∧ y < p ∧ (p : Int) ∣ y * y - a
theorem sorted_ext : ∀ {xs ys : List Int}, xs.Pairwise (· < ·) → ys.Pairwise (· < ·) → (∀ y, y ∈ xs ↔ y ∈ ys) → xs = ys
  | [], [], _, _, _ => rfl
  | [], y :: ys, _, _, h => absurd ((h y).mpr (by simp)) (by simp)
  | x :: xs, [], _, _, h => absurd ((h x).mp (by simp)) (by simp)
  | x :: xs, y :: ys, hx, hy, h => by
    have hx' := List.pairwise_cons.mp hx
    have hy' := List.pairwise_cons.mp hy
    have e : x = y := by
      rcases List.mem_cons.mp ((h x).mp (by simp)) with z | z
      · exact z
      · rcases List.mem_cons.mp ((h y).mpr (by simp)) with w | w
        · exact w.symm
        · have := hx'.1 y w
          have := hy'.1 x z
          omega
    subst e
    congr 1
    refine sorted_ext hx'.2 hy'.2 fun y => ⟨fun m => ?_, fun m => ?_⟩
    · rcases List.mem_cons.mp ((h y).mp (by simp [m])) with z | z
      · have := hx'.1 y m; omega
      · exact z
    · rcases List.mem_cons.mp ((h y).mpr (by simp [m])) with z | z
      · have := hy'.1 y m; omega
      · exact z
theorem IsRoots.unique {p : Nat} {a : Int} {xs ys : List Int} (h : IsRoots p a xs) (h' : IsRoots p a ys) : xs = ys := sorted_ext h.sorted h'.sorted fun y => (h.iff y).trans (h'.iff y).symm
theorem IsRoots.congr {p : Nat} {a b : Int} {xs : List Int} (h : IsRoots p a xs) (e : (p : Int) ∣ a - b) : IsRoots p b xs := ⟨h.sorted, fun y => by
  rw [h.iff]
  constructor
  · rintro ⟨h1, h2, h3⟩
    refine ⟨h1, h2, ?_⟩
    have := Int.dvd_add h3 e
    rwa [show y * y - a + (a - b) = y * y - b by omega] at this
  · rintro ⟨h1, h2, h3⟩
    refine ⟨h1, h2, ?_⟩
    have := Int.dvd_sub h3 e
    rwa [show y * y - b - (a - b) = y * y - a by omega] at this⟩
theorem roots_nought {p : Nat} {a : Int} (hp : Prime p) (h : (p : Int) ∣ a) : IsRoots p a [0] := ⟨by simp, fun y => by
  have hp2 := hp.1
  rw [List.mem_singleton]
  constructor
  · rintro rfl
    refine ⟨by omega, by omega, ?_⟩
    rw [show (0 : Int) * 0 - a = -a by omega]
    exact Int.dvd_neg.mpr h
  · rintro ⟨h1, h2, h3⟩
    have h4 := Int.dvd_add h3 h
    rw [show y * y - a + a = y * y by omega] at h4
    have h5 : (p : Int) ∣ y := (dvd_mul_int hp h4).elim id id
    rcases Int.lt_or_eq_of_le h1 with z | z
    · have := Int.le_of_dvd z h5; omega
    · exact z.symm⟩
theorem roots_none {p : Nat} {a : Int} (hp : Prime p) (h2 : p ≠ 2) (h : pw p a ((p - 1) / 2) = (p : Int) - 1) : IsRoots p a [] := ⟨.nil, fun y => by
  have hp2 := hp.1
  refine ⟨fun z => by simp at z, fun ⟨h1, h3, h4⟩ => ?_⟩
  exfalso
  have e : pw p (y * y) ((p - 1) / 2) = pw p a ((p - 1) / 2) := pw_congr (Int.emod_eq_emod_iff_emod_sub_eq_zero.mpr (Int.emod_eq_zero_of_dvd h4)) _
  rw [← e] at h
  by_cases hy : un p y
  · rw [half_square hp h2 hy] at h; omega
  · have hd : (p : Int) ∣ y := Classical.byContradiction hy
    rw [pw_nought (Int.dvd_trans hd ⟨y, rfl⟩) (half_even hp h2).2] at h; omega⟩
theorem roots_two {p : Nat} {a r : Int} {ns : List Int} (hp : Prime p) (h2 : p ≠ 2) (hu : un p a) (r0 : 0 ≤ r) (r1 : r < p) (h : (p : Int) ∣ r * r - a) (pm : ns.Perm [r, p - r]) (srt : ns.Pairwise (· ≤ ·)) : IsRoots p a ns := by
  have hp2 := hp.1
  have hr : r ≠ 0 := fun z => hu (by
    rw [z, show (0 : Int) * 0 - a = -a by omega] at h
    exact Int.dvd_neg.mp h)
  have hodd : p % 2 = 1 := by
    have := half_even hp h2
    omega
  have nd : ns.Nodup := pm.nodup_iff.mpr (by
    refine List.nodup_cons.mpr ⟨fun z => ?_, List.nodup_cons.mpr ⟨by simp, .nil⟩⟩
    have := List.mem_singleton.mp z
    omega)
  refine ⟨(srt.and nd).imp fun z => by have := z.1; have := z.2; omega, fun y => ?_⟩
  have hm : y ∈ ns ↔ y = r ∨ y = p - r := by rw [pm.mem_iff]; simp
  rw [hm]
  constructor
  · rintro (rfl | rfl)
    · exact ⟨r0, r1, h⟩
    · refine ⟨by omega, by omega, ?_⟩
      have e : ((p : Int) - r) * ((p : Int) - r) - a = (r * r - a) + (p : Int) * ((p : Int) - 2 * r) := by grind
      rw [e]
      exact Int.dvd_add h ⟨_, rfl⟩
  · rintro ⟨y0, y1, hy⟩
    have h3 := Int.dvd_sub hy h
    rw [show y * y - a - (r * r - a) = (y - r) * (y + r) by grind] at h3
    rcases dvd_mul_int hp h3 with z | z
    · left
      obtain ⟨c, hc⟩ := z
      have : c = 0 := by
        rcases Int.lt_trichotomy c 0 with w | w | w
        · have : (p : Int) * c ≤ p * (-1) := Int.mul_le_mul_of_nonneg_left (by omega) (by omega)
          omega
        · exact w
        · have : (p : Int) * 1 ≤ p * c := Int.mul_le_mul_of_nonneg_left (by omega) (by omega)
          omega
      rw [this] at hc
      omega
    · right
      obtain ⟨c, hc⟩ := z
      have : c = 1 := by
        rcases Int.lt_trichotomy c 1 with w | w | w
        · have : (p : Int) * c ≤ p * 0 := Int.mul_le_mul_of_nonneg_left (by omega) (by omega)
          omega
        · exact w
        · have : (p : Int) * 2 ≤ p * c := Int.mul_le_mul_of_nonneg_left (by omega) (by omega)
          omega
      rw [this] at hc
      omega
theorem roots_two2 {a r : Int} (hu : un 2 a) (r0 : 0 ≤ r) (r1 : r < 2) (h : ((2 : Nat) : Int) ∣ r * r - a) : IsRoots 2 a [r] := by
  have hr : r = 1 := by
    have : r = 0 ∨ r = 1 := by omega
    rcases this with rfl | rfl
    · exact absurd (by rw [show (0 : Int) * 0 - a = -a by omega] at h; exact Int.dvd_neg.mp h) hu
    · rfl
  subst hr
  refine ⟨by simp, fun y => ?_⟩
  rw [List.mem_singleton]
  constructor
  · rintro rfl
    exact ⟨by decide, by decide, h⟩
  · rintro ⟨y0, y1, hy⟩
    have : y = 0 ∨ y = 1 := by omega
    rcases this with rfl | rfl
    · exact absurd (by rw [show (0 : Int) * 0 - a = -a by omega] at hy; exact Int.dvd_neg.mp hy) hu
    · rfl
/-- the half power is 1 where it isn't p - 1 -/
theorem half_one {p : Nat} {a : Int} (hp : Prime p) (h2 : p ≠ 2) (hu : un p a) (h : pw p a ((p - 1) / 2) ≠ (p : Int) - 1) : is1 p a ((p - 1) / 2) := by
  have hp2 := hp.1
  obtain ⟨he, h0⟩ := half_even hp h2
  have h1 := fermat hp hu
  unfold is1 at h1 ⊢
  have e : a ^ (p - 1) - 1 = (a ^ ((p - 1) / 2) - 1) * (a ^ ((p - 1) / 2) + 1) := by
    conv => lhs; rw [he, Nat.mul_comm, Int.pow_mul]
    grind
  rw [e] at h1
  rcases dvd_mul_int hp h1 with z | z
  · exact z
  · exact absurd (pw_of_dvd (by omega) (by omega) (by
      have h3 := Int.dvd_sub z (Int.dvd_refl (p : Int))
      rw [show a ^ ((p - 1) / 2) + 1 - (p : Int) = a ^ ((p - 1) / 2) - ((p : Int) - 1) by omega] at h3
      exact h3)) h
end M

/-! powers of a number of an order: they are all numbers whose power to it is 1 -/
namespace M
theorem pow_apart {p d : Nat} {a : Int} (hp : Prime p) (o : Ord p a d) {i j : Nat} (h : i < j) (hj : j < i + d) : ¬ (p : Int) ∣ a ^ j - a ^ i := fun z => by
  have e : j = i + (j - i) := by omega
  rw [e] at z
  have := o.least (j - i) (by omega) (one_of_alike hp (o.unit hp) z)
  omega
theorem ord_powers {p d : Nat} {a x : Int} (hp : Prime p) (o : Ord p a d) (h : is1 p x d) : ∃ k, k < d ∧ (p : Int) ∣ x - a ^ k := by
  refine Classical.byContradiction fun no => ?_
  have h1 : ((List.range d).map fun k => a ^ k).Pairwise fun x y => ¬ (p : Int) ∣ y - x := by
    rw [List.pairwise_map]
    refine List.Pairwise.imp_of_mem ?_ List.pairwise_lt_range
    intro i j hi hj hij
    have := List.mem_range.mp hj
    exact pow_apart hp o hij (by omega)
  have h2 : (x :: (List.range d).map fun k => a ^ k).Pairwise fun x y => ¬ (p : Int) ∣ y - x := by
    refine List.pairwise_cons.mpr ⟨fun y hy z => ?_, h1⟩
    obtain ⟨k, hk, rfl⟩ := List.mem_map.mp hy
    refine no ⟨k, List.mem_range.mp hk, ?_⟩
    rw [← Int.neg_sub]
    exact Int.dvd_neg.mpr z
  have h3 := roots_le hp o.pos h2 fun r hr => by
    rcases List.mem_cons.mp hr with z | z
    · rw [z]; exact h
    · obtain ⟨k, _, rfl⟩ := List.mem_map.mp z
      have := (one_pow_iff (p := p) (a := a) (d := k) (f := d)).mpr (by rw [Nat.mul_comm]; exact one_mul_ o.one k)
      exact this
  rw [List.length_cons, List.length_map, List.length_range] at h3
  omega
theorem pw_alike_eq {p : Nat} (hp : 2 ≤ p) {x : Int} {a : Int} {k : Nat} (h : (p : Int) ∣ x - a ^ k) (x0 : 0 ≤ x) (x1 : x < p) : pw p a k = x := by
  have h1 := pw_alike p a k
  have h2 : (p : Int) ∣ x - pw p a k := by
    have e : x - pw p a k = (x - a ^ k) + (a ^ k - pw p a k) := by omega
    rw [e]; exact Int.dvd_add h h1
  unfold pw at h2 ⊢
  have a0 := Int.emod_nonneg (a ^ k) (show (p : Int) ≠ 0 by omega)
  have a1 := Int.emod_lt_of_pos (a ^ k) (show (0 : Int) < p by omega)
  obtain ⟨c, hc⟩ := h2
  have hc0 : c = 0 := by
    rcases Int.lt_trichotomy c 0 with z | z | z
    · have : (p : Int) * c ≤ p * (-1) := Int.mul_le_mul_of_nonneg_left (by omega) (by omega)
      omega
    · exact z
    · have : (p : Int) * 1 ≤ p * c := Int.mul_le_mul_of_nonneg_left (by omega) (by omega)
      omega
  rw [hc0, Int.mul_zero] at hc
  omega
end M

/-! roots of any order -/
namespace M
/-- alike by p -/
abbrev al (p : Nat) (x y : Int) : Prop := (p : Int) ∣ x - y
theorem al_refl (p : Nat) (x : Int) : al p x x := by unfold al; rw [Int.sub_self]; exact Int.dvd_zero _
theorem al_symm {p : Nat} {x y : Int} (h : al p x y) : al p y x := by
  unfold al at h ⊢
  rw [← Int.neg_sub]; exact Int.dvd_neg.mpr h
theorem al_trans {p : Nat} {x y z : Int} (h : al p x y) (h' : al p y z) : al p x z := by
  unfold al at h h' ⊢
  rw [show x - z = (x - y) + (y - z) by omega]; exact Int.dvd_add h h'
theorem al_mul {p : Nat} {x y u v : Int} (h : al p x y) (h' : al p u v) : al p (x * u) (y * v) := by
  unfold al at h h' ⊢
  rw [show x * u - y * v = (x - y) * u + y * (u - v) by grind]
  exact Int.dvd_add (Int.dvd_mul_of_dvd_left h) (Int.dvd_mul_of_dvd_right h')
theorem al_pow {p : Nat} {x y : Int} (h : al p x y) : ∀ k : Nat, al p (x ^ k) (y ^ k)
  | 0 => by rw [Int.pow_zero, Int.pow_zero]; exact al_refl _ _
  | k + 1 => by rw [Int.pow_succ, Int.pow_succ]; exact al_mul (al_pow h k) h
theorem al_mod (p : Nat) (x : Int) : al p (x % p) x := al_symm (Int.dvd_of_emod_eq_zero (Int.emod_eq_emod_iff_emod_sub_eq_zero.mp (by rw [Int.emod_emod])))
theorem al_pw (p : Nat) (a : Int) (k : Nat) : al p (pw p a k) (a ^ k) := al_mod p _
theorem al_eq {p : Nat} {x y : Int} (h : al p x y) (x0 : 0 ≤ x) (x1 : x < p) (y0 : 0 ≤ y) (y1 : y < p) : x = y := by
  have h1 := Int.emod_eq_emod_iff_emod_sub_eq_zero.mpr (Int.emod_eq_zero_of_dvd h)
  rwa [Int.emod_eq_of_lt x0 x1, Int.emod_eq_of_lt y0 y1] at h1
theorem al_emod {p : Nat} {x y : Int} (h : al p x y) : x % (p : Int) = y % (p : Int) := Int.emod_eq_emod_iff_emod_sub_eq_zero.mpr (Int.emod_eq_zero_of_dvd h)
theorem al_of_emod {p : Nat} {x y : Int} (h : x % (p : Int) = y % (p : Int)) : al p x y := Int.dvd_of_emod_eq_zero (Int.emod_eq_emod_iff_emod_sub_eq_zero.mp h)
theorem pow_al {p N : Nat} {w : Int} (o : is1 p w N) {i j : Nat} (h : i % N = j % N) : al p (w ^ i) (w ^ j) := by
  have key : ∀ i : Nat, al p (w ^ i) (w ^ (i % N)) := fun i => by
    have e : w ^ i = (w ^ N) ^ (i / N) * w ^ (i % N) := by rw [← Int.pow_mul, ← Int.pow_add, Nat.div_add_mod]
    rw [e]
    have h1 : al p ((w ^ N) ^ (i / N)) (1 ^ (i / N)) := al_pow o _
    rw [Int.one_pow] at h1
    have := al_mul h1 (al_refl p (w ^ (i % N)))
    rwa [Int.one_mul] at this
  exact al_trans (key i) (by rw [h]; exact al_symm (key j))
theorem al_pow_inv {p N : Nat} (hp : Prime p) {w : Int} (o : Ord p w N) {i j : Nat} (h : al p (w ^ i) (w ^ j)) : i % N = j % N := by
  have hi := al_trans (al_trans (pow_al o.one (Nat.mod_mod i N)) h) (pow_al o.one (Nat.mod_mod j N).symm)
  have n0 := o.pos
  have b1 := Nat.mod_lt i n0
  have b2 := Nat.mod_lt j n0
  rcases Nat.lt_trichotomy (i % N) (j % N) with z | z | z
  · exact absurd (al_symm hi) (pow_apart hp o z (by omega))
  · exact z
  · exact absurd hi (pow_apart hp o z (by omega))
/-- one digit -/
theorem digit_step {p q m k P : Nat} {w c : Int} (hq : 2 ≤ q) (hk : k < m) (o : Ord p w (q ^ m)) (h : al p c (w ^ P)) :
    pw p (c * pw p w (q ^ m - P % q ^ k) % p) (q ^ m / (q ^ k * q)) = pw p (pw p w (q ^ m / q)) (P / q ^ k % q) ∧ P % q ^ k + q ^ k * (P / q ^ k % q) = P % q ^ (k + 1) := by
  have qk : 0 < q ^ k := Nat.pow_pos (by omega)
  have e1 : q ^ m = q ^ k * q * q ^ (m - k - 1) := by rw [← Nat.pow_succ, ← Nat.pow_add]; congr 1; omega
  have e2 : q ^ m / (q ^ k * q) = q ^ (m - k - 1) := by rw [e1]; exact Nat.mul_div_cancel_left _ (Nat.mul_pos qk (by omega))
  have e3 : q ^ m / q = q ^ k * q ^ (m - k - 1) := by
    rw [e1, show q ^ k * q * q ^ (m - k - 1) = q * (q ^ k * q ^ (m - k - 1)) by grind]
    exact Nat.mul_div_cancel_left _ (by omega)
  refine ⟨?_, by rw [Nat.pow_succ, Nat.mod_mul]⟩
  rw [e2, e3]
  refine al_emod ?_
  have le : P % q ^ k ≤ q ^ m := by
    have := Nat.mod_lt P qk
    have := Nat.pow_le_pow_right (show 0 < q by omega) (show k ≤ m by omega)
    omega
  have h1 : al p (c * pw p w (q ^ m - P % q ^ k) % p) (w ^ (P + (q ^ m - P % q ^ k))) := by
    refine al_trans (al_mod p _) ?_
    rw [Int.pow_add]
    exact al_mul h (al_pw p w _)
  have e4 : P + (q ^ m - P % q ^ k) = q ^ k * (P / q ^ k) + q ^ m := by
    have := Nat.div_add_mod P (q ^ k)
    omega
  refine al_trans (al_pow h1 _) (al_trans ?_ (al_symm (al_pow (al_pw p w _) _)))
  rw [e4, ← Int.pow_mul, ← Int.pow_mul]
  refine pow_al o.one ?_
  generalize P / q ^ k = D
  rw [Nat.add_mul]
  have e5 : (q ^ k * D * q ^ (m - k - 1) + q ^ m * q ^ (m - k - 1)) % q ^ m = q ^ k * D * q ^ (m - k - 1) % q ^ m := Nat.add_mul_mod_self_left _ _ _
  rw [e5]
  have e6 : q ^ k * q ^ (m - k - 1) * q = q ^ m := by rw [e1]; grind
  have e7 : q ^ k * D * q ^ (m - k - 1) = q ^ k * q ^ (m - k - 1) * (D % q) + q ^ m * (D / q) := by
    rw [← e6]
    have := Nat.div_add_mod D q
    calc q ^ k * D * q ^ (m - k - 1) = q ^ k * q ^ (m - k - 1) * D := by grind
      _ = q ^ k * q ^ (m - k - 1) * (q * (D / q) + D % q) := by rw [this]
      _ = _ := by grind
  rw [e7]
  exact Nat.add_mul_mod_self_left _ _ _
/-- an inverse told by a rest -/
theorem inv_nat {n : Nat} {b : Int} {a : Nat} (n0 : 0 < n) (h : (b * a - 1) % (n : Int) = 0) (b0 : 0 ≤ b) : b.toNat * a % n = 1 % n := by
  obtain ⟨c, rfl⟩ := Int.eq_ofNat_of_zero_le b0
  have h1 := al_emod (Int.dvd_of_emod_eq_zero h)
  have h2 : ((c * a % n : Nat) : Int) = ((1 % n : Nat) : Int) := by push_cast; exact h1
  exact Int.ofNat_inj.mp h2
theorem mod_mul_one {n x y : Nat} (h : x % n = 1 % n) : x * y % n = y % n := by
  rw [Nat.mul_mod, h, ← Nat.mul_mod, Nat.one_mul]
/-- the root of one part -/
theorem part_root {p q m v d' P L i : Nat} {w c : Int} (o : is1 p w (q ^ m)) (hd : d' = d') (hv : q ^ v ∣ P) (hc : al p c (w ^ P)) (hi : i * d' % q ^ m = 1 % q ^ m) : al p ((w ^ (P / q ^ v * i)) ^ (q ^ v * d')) c := by
  refine al_trans ?_ (al_symm hc)
  rw [← Int.pow_mul]
  refine pow_al o ?_
  obtain ⟨t, rfl⟩ := hv
  by_cases z : q ^ v = 0
  · rw [z]; simp
  · rw [Nat.mul_div_cancel_left _ (by omega), show t * i * (q ^ v * d') = i * d' * (q ^ v * t) by grind]
    exact mod_mul_one hi
theorem all_dvd {D : Nat} : ∀ {l : List (Nat × Nat)}, l.Pairwise (fun x y => x.1 < y.1) → (∀ x ∈ l, Prime x.1) → (∀ x ∈ l, x.1 ^ x.2 ∣ D) → prodL l ∣ D
  | [], _, _, _ => Nat.one_dvd _
  | x :: l, hs, hp, h => by
    have hs' := List.pairwise_cons.mp hs
    have ih := all_dvd hs'.2 (fun y hy => hp y (List.mem_cons_of_mem _ hy)) fun y hy => h y (List.mem_cons_of_mem _ hy)
    have hno : ¬ x.1 ∣ prodL l := fun z => by
      obtain ⟨k, hk⟩ := prime_in' (hp x (by simp)) (fun y hy => hp y (List.mem_cons_of_mem _ hy)) z
      have := hs'.1 _ hk
      simp at this
    show x.1 ^ x.2 * prodL l ∣ D
    exact Nat.Coprime.mul_dvd_of_dvd_of_dvd (coprime_pow (hp x (by simp)) hno x.2) (h x (by simp)) ih
theorem facs_split {N : Nat} {l : List (Nat × Nat)} (hl : IsFac N l) : ∀ {x : Nat × Nat}, x ∈ l → ∃ m, N = x.1 ^ x.2 * m ∧ ¬ x.1 ∣ m ∧ ∀ y ∈ l, y ≠ x → y.1 ^ y.2 ∣ m := by
  have key : ∀ {l : List (Nat × Nat)}, l.Pairwise (fun x y => x.1 < y.1) → (∀ x ∈ l, Prime x.1) → ∀ {x : Nat × Nat}, x ∈ l → ∃ m, prodL l = x.1 ^ x.2 * m ∧ ¬ x.1 ∣ m ∧ ∀ y ∈ l, y ≠ x → y.1 ^ y.2 ∣ m := by
    intro l
    induction l with
    | nil => intro _ _ x h; cases h
    | cons a l ih =>
      intro hs hp x hx
      have hs' := List.pairwise_cons.mp hs
      have hp' : ∀ y ∈ l, Prime y.1 := fun y hy => hp y (List.mem_cons_of_mem _ hy)
      by_cases e : x = a
      · subst e
        refine ⟨prodL l, rfl, fun z => ?_, fun y hy hne => ?_⟩
        · obtain ⟨k, hk⟩ := prime_in' (hp x (by simp)) hp' z
          have := hs'.1 _ hk
          simp at this
        · rcases List.mem_cons.mp hy with z | z
          · exact absurd z hne
          · exact prodL_dvd z
      · have hxl : x ∈ l := (List.mem_cons.mp hx).resolve_left e
        obtain ⟨m, h1, h2, h3⟩ := ih hs'.2 hp' hxl
        have hlt := hs'.1 x hxl
        refine ⟨a.1 ^ a.2 * m, ?_, fun z => ?_, fun y hy hne => ?_⟩
        · show a.1 ^ a.2 * prodL l = _
          rw [h1]; grind
        · rcases (hp' x hxl).dvd_mul z with z | z
          · have := (hp' x hxl).eq_of_dvd (hp a (by simp)) ((hp' x hxl).dvd_pow z)
            omega
          · exact h2 z
        · rcases List.mem_cons.mp hy with z | z
          · rw [z]; exact Nat.dvd_mul_right _ _
          · exact Nat.dvd_trans (h3 y z hne) (Nat.dvd_mul_left _ _)
  intro x hx
  have := key hl.sorted (fun x h => (hl.primes x h).1) hx
  rwa [hl.prod] at this
/-- what one_root keeps -/
def OneI (p N d : Nat) (c : Int) (l : List (Nat × Nat)) (i left : Nat) (root : Int) : Prop :=
  ∃ W E : Nat, left * W = N ∧ Nat.gcd left W = 1 ∧ (∀ (j : Nat) (x : Nat × Nat), l[j]? = some x → (j < i ∧ x.1 ∣ d → x.1 ^ x.2 ∣ W ∧ E % x.1 ^ x.2 = 1 % x.1 ^ x.2) ∧ (¬ (j < i ∧ x.1 ∣ d) → x.1 ^ x.2 ∣ left ∧ x.1 ^ x.2 ∣ E)) ∧ al p (root ^ d) (c ^ E)
theorem one_start {p N d : Nat} {c : Int} {l : List (Nat × Nat)} (hl : IsFac N l) : OneI p N d c l 0 N 1 :=
  ⟨1, 0, by omega, Nat.gcd_one_right _, fun j x hx => ⟨fun z => by omega, fun _ => ⟨by rw [← hl.prod]; exact prodL_dvd (List.mem_of_getElem? hx), Nat.dvd_zero _⟩⟩, by rw [Int.one_pow, Int.pow_zero]; exact al_refl _ _⟩
theorem one_skip {p N d i left : Nat} {c root : Int} {l : List (Nat × Nat)} {x : Nat × Nat} (h : OneI p N d c l i left root) (hx : l[i]? = some x) (hd : ¬ x.1 ∣ d) : OneI p N d c l (i + 1) left root := by
  obtain ⟨W, E, h1, h2, h3, h4⟩ := h
  refine ⟨W, E, h1, h2, fun j y hy => ⟨fun z => (h3 j y hy).1 ⟨?_, z.2⟩, fun z => (h3 j y hy).2 fun w => z ⟨by omega, w.2⟩⟩, h4⟩
  have : j ≠ i := fun e => by subst e; rw [hx] at hy; cases hy; exact hd z.2
  omega
theorem one_more {p N d i left : Nat} {c root r : Int} {l : List (Nat × Nat)} {x : Nat × Nat} {F : Nat} (hl : IsFac N l) (N0 : 0 < N) (h : OneI p N d c l i left root) (hx : l[i]? = some x) (hd : x.1 ∣ d)
    (hr : al p (r ^ d) (c ^ F)) (hF : F % x.1 ^ x.2 = 1 % x.1 ^ x.2) (hF2 : N / x.1 ^ x.2 ∣ F) : OneI p N d c l (i + 1) (left / x.1 ^ x.2) (root * r % p) ∧ x.1 ^ x.2 ∣ left := by
  obtain ⟨W, E, h1, h2, h3, h4⟩ := h
  have hm := List.mem_of_getElem? hx
  have hq := (hl.primes x hm).1
  have q0 : 0 < x.1 ^ x.2 := Nat.pow_pos hq.pos
  obtain ⟨m, em, hno, hoth⟩ := facs_split hl hm
  have hxl := ((h3 i x hx).2 fun z => by omega)
  obtain ⟨left', e1⟩ := hxl.1
  have e2 : left / x.1 ^ x.2 = left' := by rw [e1]; exact Nat.mul_div_cancel_left _ q0
  have e3 : N / x.1 ^ x.2 = m := by rw [em]; exact Nat.mul_div_cancel_left _ q0
  rw [e3] at hF2
  have e4 : left' * W = m := by
    have : x.1 ^ x.2 * (left' * W) = x.1 ^ x.2 * m := by rw [← em, ← h1, e1]; grind
    exact Nat.eq_of_mul_eq_mul_left q0 this
  have hnl : ¬ x.1 ∣ left' := fun z => hno (by rw [← e4]; exact Nat.dvd_trans z (Nat.dvd_mul_right _ _))
  have hcop : Nat.gcd (x.1 ^ x.2) left' = 1 := coprime_pow hq hnl x.2
  refine ⟨?_, hxl.1⟩
  rw [e2]
  refine ⟨x.1 ^ x.2 * W, E + F, by rw [em, ← e4]; grind, ?_, fun j y hy => ?_, ?_⟩
  · refine Nat.Coprime.mul_right ?_ ?_
    · rw [Nat.Coprime, Nat.gcd_comm]; exact hcop
    · exact Nat.Coprime.coprime_dvd_left ⟨x.1 ^ x.2, by rw [e1, Nat.mul_comm]⟩ h2
  · by_cases ej : j = i
    · subst ej
      rw [hx] at hy; cases hy
      refine ⟨fun _ => ⟨Nat.dvd_mul_right _ _, ?_⟩, fun z => absurd ⟨by omega, hd⟩ z⟩
      rw [Nat.add_mod, Nat.mod_eq_zero_of_dvd hxl.2, Nat.zero_add, Nat.mod_mod, hF]
    · have hym := List.mem_of_getElem? hy
      have hne : y ≠ x := fun e => by
        subst e
        have hj := (List.getElem?_eq_some_iff.mp hy)
        have hi := (List.getElem?_eq_some_iff.mp hx)
        obtain ⟨j1, j2⟩ := hj
        obtain ⟨i1, i2⟩ := hi
        rcases Nat.lt_trichotomy i j with z | z | z
        · have := List.pairwise_iff_getElem.mp hl.sorted i j i1 j1 z
          rw [i2, j2] at this; omega
        · omega
        · have := List.pairwise_iff_getElem.mp hl.sorted j i j1 i1 z
          rw [i2, j2] at this; omega
      have hyF : y.1 ^ y.2 ∣ F := Nat.dvd_trans (hoth y hym hne) hF2
      refine ⟨fun z => ?_, fun z => ?_⟩
      · have := (h3 j y hy).1 ⟨by omega, z.2⟩
        refine ⟨Nat.dvd_trans this.1 (Nat.dvd_mul_left _ _), ?_⟩
        rw [Nat.add_mod, Nat.mod_eq_zero_of_dvd hyF, Nat.add_zero, Nat.mod_mod, this.2]
      · have := (h3 j y hy).2 fun w => z ⟨by omega, w.2⟩
        refine ⟨?_, Nat.dvd_add this.2 hyF⟩
        have hcy : Nat.Coprime (y.1 ^ y.2) (x.1 ^ x.2) := by
          have hyq := (hl.primes y hym).1
          refine Nat.Coprime.pow _ _ ?_
          refine hyq.coprime fun w => ?_
          have e := hyq.eq_of_dvd hq w
          obtain ⟨j1, j2⟩ := List.getElem?_eq_some_iff.mp hy
          obtain ⟨i1, i2⟩ := List.getElem?_eq_some_iff.mp hx
          rcases Nat.lt_trichotomy i j with z | z | z
          · have := List.pairwise_iff_getElem.mp hl.sorted i j i1 j1 z
            rw [i2, j2] at this; omega
          · omega
          · have := List.pairwise_iff_getElem.mp hl.sorted j i j1 i1 z
            rw [i2, j2] at this; omega
        have h5 := this.1
        rw [e1] at h5
        exact hcy.dvd_of_dvd_mul_left h5
  · refine al_trans (al_pow (al_mod p _) d) ?_
    rw [Int.mul_pow, Int.pow_add]
    exact al_mul h4 hr
theorem one_cop {p N d left : Nat} {c root : Int} {l : List (Nat × Nat)} (hl : IsFac N l) (N0 : 0 < N) (h : OneI p N d c l l.length left root) : 0 < left ∧ left ∣ N ∧ Nat.gcd (N / left) left = 1 ∧ Nat.gcd d left = 1 := by
  obtain ⟨W, E, h1, h2, h3, h4⟩ := h
  have l0 : 0 < left := Nat.pos_of_ne_zero fun z => by rw [z] at h1; omega
  have eW : N / left = W := by rw [← h1]; exact Nat.mul_div_cancel_left _ l0
  refine ⟨l0, ⟨W, h1.symm⟩, by rw [eW, Nat.gcd_comm]; exact h2, ?_⟩
  refine Classical.byContradiction fun hne => ?_
  have hg : 2 ≤ Nat.gcd d left := by
    have : 0 < Nat.gcd d left := Nat.gcd_pos_of_pos_right _ l0
    omega
  obtain ⟨r, hr, hrd⟩ := exists_prime _ hg
  have r1 := Nat.dvd_trans hrd (Nat.gcd_dvd_left _ _)
  have r2 := Nat.dvd_trans hrd (Nat.gcd_dvd_right _ _)
  obtain ⟨k, hk⟩ := fac_prime_in hl hr (Nat.dvd_trans r2 ⟨W, h1.symm⟩)
  obtain ⟨j, hj⟩ := List.getElem?_of_mem hk
  have hjl := (List.getElem?_eq_some_iff.mp hj).1
  have h5 := ((h3 j _ hj).1 ⟨hjl, r1⟩).1
  have h6 : r ∣ Nat.gcd left W := Nat.dvd_gcd r2 (Nat.dvd_trans (dvd_pow_self r (hl.primes _ hk).2) h5)
  rw [h2] at h6
  have := Nat.le_of_dvd (by decide) h6
  have := hr.1
  omega
theorem one_end {p N d left i1 i2 : Nat} {c root : Int} {l : List (Nat × Nat)} (hl : IsFac N l) (N0 : 0 < N) (h : OneI p N d c l l.length left root) (hc : is1 p c N) (e1 : i1 * (N / left) % left = 1 % left) (e2 : i2 * d % left = 1 % left) :
    al p ((root * pw p c (N / left * i1 * i2) % p) ^ d) c := by
  obtain ⟨l0, hlN, _, _⟩ := one_cop hl N0 h
  obtain ⟨W, E, h1, h2, h3, h4⟩ := h
  have eW : N / left = W := by rw [← h1]; exact Nat.mul_div_cancel_left _ l0
  rw [eW] at e1 ⊢
  refine al_trans (al_pow (al_mod p _) d) ?_
  rw [Int.mul_pow]
  refine al_trans (al_mul h4 (al_pow (al_pw p c _) d)) ?_
  rw [← Int.pow_mul, ← Int.pow_add]
  have key : (E + W * i1 * i2 * d) % N = 1 % N := by
    have h5 : prodL l ∣ ((E + W * i1 * i2 * d : Nat) - (1 : Int)).natAbs := all_dvd hl.sorted (fun x hx => (hl.primes x hx).1) fun x hx => by
      obtain ⟨j, hj⟩ := List.getElem?_of_mem hx
      have hjl := (List.getElem?_eq_some_iff.mp hj).1
      have hh := h3 j x hj
      have h6 : (E + W * i1 * i2 * d) % x.1 ^ x.2 = 1 % x.1 ^ x.2 := by
        by_cases hd : x.1 ∣ d
        · obtain ⟨a1, a2⟩ := hh.1 ⟨hjl, hd⟩
          have h7 : x.1 ^ x.2 ∣ W * i1 * i2 * d := Nat.dvd_trans a1 ⟨i1 * i2 * d, by grind⟩
          rw [Nat.add_mod, Nat.mod_eq_zero_of_dvd h7, Nat.add_zero, Nat.mod_mod, a2]
        · obtain ⟨a1, a2⟩ := hh.2 fun z => hd z.2
          have h8 : W * i1 * i2 * d % left = 1 % left := by
            rw [show W * i1 * i2 * d = i1 * W * (i2 * d) by grind, mod_mul_one e1, e2]
          have h9 : W * i1 * i2 * d % x.1 ^ x.2 = 1 % x.1 ^ x.2 := by
            rw [← Nat.mod_mod_of_dvd _ a1, h8, Nat.mod_mod_of_dvd _ a1]
          rw [Nat.add_mod, Nat.mod_eq_zero_of_dvd a2, Nat.zero_add, Nat.mod_mod, h9]
      have h10 : ((E + W * i1 * i2 * d : Nat) : Int) % ((x.1 ^ x.2 : Nat) : Int) = 1 % ((x.1 ^ x.2 : Nat) : Int) := by
        rw [← Int.natCast_emod, h6]; rfl
      have h11 := Int.dvd_of_emod_eq_zero (Int.emod_eq_emod_iff_emod_sub_eq_zero.mp h10)
      exact Int.ofNat_dvd_left.mp h11
    rw [hl.prod] at h5
    have h12 := Int.emod_eq_emod_iff_emod_sub_eq_zero.mpr (Int.emod_eq_zero_of_dvd (Int.ofNat_dvd_left.mpr h5))
    have h13 : (((E + W * i1 * i2 * d) % N : Nat) : Int) = ((1 % N : Nat) : Int) := by rw [Int.natCast_emod, Int.natCast_emod]; exact h12
    exact Int.ofNat_inj.mp h13
  have := pow_al hc key
  rwa [Int.pow_one] at this
/-- all roots of order k of a by p -/
structure IsKR (p k : Nat) (a : Int) (xs : List Int) : Prop where
  sorted : xs.Pairwise (· < ·)
  iff : ∀ y, y ∈ xs ↔ 0 ≤ y ∧ y < p ∧ al p (y ^ k) a
theorem IsKR.unique {p k : Nat} {a : Int} {xs ys : List Int} (h : IsKR p k a xs) (h' : IsKR p k a ys) : xs = ys := sorted_ext h.sorted h'.sorted fun y => (h.iff y).trans (h'.iff y).symm
theorem kr_nought {p k : Nat} {a : Int} (hp : Prime p) (hk : 0 < k) (h : (p : Int) ∣ a) : IsKR p k a [0] := ⟨by simp, fun y => by
  rw [List.mem_singleton]
  have ha : al p a 0 := by unfold al; rw [Int.sub_zero]; exact h
  constructor
  · rintro rfl
    refine ⟨by decide, by have := hp.1; omega, ?_⟩
    rw [Int.zero_pow (by omega)]
    exact al_symm ha
  · rintro ⟨y0, y1, hy⟩
    have h1 := al_trans hy ha
    unfold al at h1
    rw [Int.sub_zero] at h1
    have h2 : (p : Int) ∣ y := Classical.byContradiction fun z => unit_pow hp z k h1
    by_cases e : y = 0
    · exact e
    · have := Int.le_of_dvd (by omega) h2; omega⟩
/-- where there is a root, the power is 1 -/
theorem kr_one {p k : Nat} {a y : Int} (hp : Prime p) (ha : un p a) (hk : 0 < k) (h : al p (y ^ k) a) : is1 p a ((p - 1) / Nat.gcd k (p - 1)) := by
  have p1 : 0 < p - 1 := by have := hp.1; omega
  have hy : un p y := fun z => ha (by
    obtain ⟨j, rfl⟩ : ∃ j, k = j + 1 := ⟨k - 1, by omega⟩
    have h1 : (p : Int) ∣ y ^ (j + 1) := by rw [Int.pow_succ]; exact Int.dvd_mul_of_dvd_right z
    have h2 : a = y ^ (j + 1) - (y ^ (j + 1) - a) := by omega
    rw [h2]; exact Int.dvd_sub h1 h)
  have hf := fermat hp hy
  have h3 : is1 p (y ^ k) ((p - 1) / Nat.gcd k (p - 1)) := one_pow_iff.mpr (one_of_dvd hf (by
    obtain ⟨g, hg⟩ := Nat.gcd_dvd_left k (p - 1)
    have g0 := Nat.gcd_pos_of_pos_right k p1
    refine ⟨g, ?_⟩
    have h4 := Nat.div_mul_cancel (Nat.gcd_dvd_right k (p - 1))
    calc k * ((p - 1) / Nat.gcd k (p - 1)) = (Nat.gcd k (p - 1) * g) * ((p - 1) / Nat.gcd k (p - 1)) := by rw [← hg]
      _ = ((p - 1) / Nat.gcd k (p - 1) * Nat.gcd k (p - 1)) * g := by grind
      _ = (p - 1) * g := by rw [h4]))
  exact (is1_congr h _).mp h3
theorem kr_none {p k : Nat} {a : Int} (hp : Prime p) (ha : un p a) (hk : 0 < k) (h : ¬ is1 p a ((p - 1) / Nat.gcd k (p - 1))) : IsKR p k a [] := ⟨.nil, fun y => ⟨fun z => by simp at z, fun z => absurd (kr_one hp ha hk z.2.2) h⟩⟩
/-- all of them, from one -/
theorem kr_all {p k d : Nat} {a root turn : Int} {ns : List Int} (hp : Prime p) (ha : un p a) (ed : d = Nat.gcd k (p - 1)) (hr : al p (root ^ k) a) (ht : Ord p turn d) (pm : ns.Perm ((List.range d).map fun i => root * turn ^ i % (p : Int))) (srt : ns.Pairwise (· ≤ ·)) (hk : 0 < k) : IsKR p k a ns := by
  have hp2 := hp.1
  have d0 := ht.pos
  have hur : un p root := fun z => ha (by
    obtain ⟨j, rfl⟩ : ∃ j, k = j + 1 := ⟨k - 1, by omega⟩
    have h1 : (p : Int) ∣ root ^ (j + 1) := by rw [Int.pow_succ]; exact Int.dvd_mul_of_dvd_right z
    have h2 : a = root ^ (j + 1) - (root ^ (j + 1) - a) := by omega
    rw [h2]; exact Int.dvd_sub h1 hr)
  have hrange : ∀ y : Int, 0 ≤ y % (p : Int) ∧ y % (p : Int) < p := fun y => ⟨Int.emod_nonneg _ (by omega), Int.emod_lt_of_pos _ (by omega)⟩
  have hcan : ∀ {x y : Int}, al p (root * x) (root * y) → al p x y := fun {x y} h => by
    unfold al at h ⊢
    rw [← Int.mul_sub] at h
    exact (dvd_mul_int hp h).resolve_left hur
  have nd : ns.Pairwise (· ≠ ·) := by
    refine (pm.pairwise_iff (fun h => Ne.symm h)).mpr ?_
    rw [List.pairwise_map]
    refine List.Pairwise.imp_of_mem ?_ List.pairwise_lt_range
    intro i j hi hj hij e
    have := List.mem_range.mp hj
    exact pow_apart hp ht hij (by omega) (al_symm (hcan (al_of_emod e)))
  refine ⟨(srt.and nd).imp fun z => by have := z.1; have := z.2; omega, fun y => ?_⟩
  rw [pm.mem_iff, List.mem_map]
  constructor
  · rintro ⟨i, hi, rfl⟩
    refine ⟨(hrange _).1, (hrange _).2, al_trans (al_pow (al_mod p _) k) ?_⟩
    rw [Int.mul_pow]
    have h1 : al p ((turn ^ i) ^ k) 1 := by
      rw [← Int.pow_mul]
      obtain ⟨g, hg⟩ := Nat.gcd_dvd_left k (p - 1)
      rw [← ed] at hg
      exact one_of_dvd ht.one ⟨i * g, by rw [hg]; grind⟩
    have := al_mul hr h1
    rwa [Int.mul_one] at this
  · rintro ⟨y0, y1, hy⟩
    -- y times the inverse of the root
    have hb : ∃ b : Int, al p (root * b) 1 := by
      refine ⟨root ^ (p - 2), ?_⟩
      have := fermat hp hur
      unfold is1 at this
      rw [show p - 1 = (p - 2) + 1 by omega, Int.pow_succ, Int.mul_comm] at this
      exact this
    obtain ⟨b, hb⟩ := hb
    have h1 : al p ((y * b) ^ k) 1 := by
      rw [Int.mul_pow]
      refine al_trans (al_mul (al_trans hy (al_symm hr)) (al_refl p (b ^ k))) ?_
      rw [← Int.mul_pow]
      have := al_pow hb k
      rwa [Int.one_pow] at this
    have hyb : un p (y * b) := fun z => by
      have h2 : (p : Int) ∣ (y * b) ^ k := by
        obtain ⟨j, rfl⟩ : ∃ j, k = j + 1 := ⟨k - 1, by omega⟩
        rw [Int.pow_succ]; exact Int.dvd_mul_of_dvd_right z
      have h3 : (p : Int) ∣ 1 := by
        have : (1 : Int) = (y * b) ^ k - ((y * b) ^ k - 1) := by omega
        rw [this]; exact Int.dvd_sub h2 h1
      have := Int.le_of_dvd (by decide) h3; omega
    obtain ⟨o, ho⟩ := exists_ord hp hyb
    have h4 : o ∣ d := by
      rw [ed]
      exact Nat.dvd_gcd (ho.dvd hp h1) (ho.dvd hp (fermat hp hyb))
    obtain ⟨i, hi, hx⟩ := ord_powers hp ht (one_of_dvd ho.one h4)
    refine ⟨i, List.mem_range.mpr hi, ?_⟩
    refine al_eq (al_trans (al_mod p _) ?_) (hrange _).1 (hrange _).2 y0 y1
    have h5 := al_mul (al_refl p root) (al_symm hx)
    refine al_trans h5 ?_
    have h6 := al_mul (al_refl p y) hb
    rw [Int.mul_one] at h6
    rw [show root * (y * b) = y * (root * b) by grind]
    exact h6
end M

/-! a number with a told rest, gone to step by step -/
namespace M
theorem bez (a b : Nat) : ∃ u v : Int, u * a + v * b = (Nat.gcd a b : Nat) := by
  induction a, b using Nat.gcd.induction with
  | H0 n => exact ⟨0, 1, by simp⟩
  | H1 m n h ih =>
    obtain ⟨u, v, e⟩ := ih
    refine ⟨v - u * (n / m : Nat), u, ?_⟩
    rw [Nat.gcd_rec m n, ← e]
    have h1 := Nat.div_add_mod n m
    have h2 : (n : Int) = (m : Int) * ((n / m : Nat) : Int) + ((n % m : Nat) : Int) := by rw [← Int.natCast_mul, ← Int.natCast_add, h1]
    generalize ((n / m : Nat) : Int) = q at *
    generalize ((n % m : Nat) : Int) = r at *
    rw [h2]; grind
theorem step_to {w x e y : Nat} (e0 : 0 < e) (hy : y < e) (h : ((x : Int) - y) % (Nat.gcd w e : Nat) = 0) : ∃ t : Nat, t < e ∧ (x + w * t) % e = y := by
  obtain ⟨u, v, hb⟩ := bez w e
  obtain ⟨c, hc⟩ := Int.dvd_of_emod_eq_zero h
  have r0 := Int.emod_nonneg (-(c * u)) (show (e : Int) ≠ 0 by omega)
  have r1 := Int.emod_lt_of_pos (-(c * u)) (show (0 : Int) < e by omega)
  have r2 := Int.emod_add_mul_ediv (-(c * u)) (e : Int)
  generalize -(c * u) / (e : Int) = Q at r2
  generalize hR : -(c * u) % (e : Int) = R at *
  obtain ⟨t, rfl⟩ := Int.eq_ofNat_of_zero_le r0
  refine ⟨t, by omega, ?_⟩
  have hd : (e : Int) ∣ ((x + w * t : Nat) : Int) - y := by
    refine ⟨c * v - w * Q, ?_⟩
    push_cast
    have e1 : (t : Int) = -(c * u) - e * Q := by omega
    rw [e1]
    have e2 : (x : Int) = y + ((Nat.gcd w e : Nat) : Int) * c := by omega
    rw [e2, ← hb]; grind
  have h3 : ((x + w * t : Nat) : Int) % e = (y : Int) % e := Int.emod_eq_emod_iff_emod_sub_eq_zero.mpr (Int.emod_eq_zero_of_dvd hd)
  rw [← Int.natCast_emod, ← Int.natCast_emod, Nat.mod_eq_of_lt hy] at h3
  omega
theorem step_least {w x e y : Nat} (w0 : 0 < w) (e0 : 0 < e) (hx : x < w) (hy : y < e) (h : ((x : Int) - y) % (Nat.gcd w e : Nat) = 0) : ∃ t : Nat, x + w * t < Nat.lcm w e ∧ (x + w * t) % e = y := by
  obtain ⟨t, _, ht⟩ := step_to (w := w) e0 hy h
  have l0 : 0 < Nat.lcm w e := Nat.lcm_pos w0 e0
  have h1 := Nat.mod_lt (x + w * t) l0
  have h2 : (x + w * t) % Nat.lcm w e % w = x := by
    rw [Nat.mod_mod_of_dvd _ (Nat.dvd_lcm_left w e), Nat.add_mul_mod_self_left, Nat.mod_eq_of_lt hx]
  have h3 : (x + w * t) % Nat.lcm w e % e = y := by
    rw [Nat.mod_mod_of_dvd _ (Nat.dvd_lcm_right w e)]; exact ht
  generalize (x + w * t) % Nat.lcm w e = X at h1 h2 h3
  have h4 := Nat.mod_add_div X w
  refine ⟨X / w, ?_, ?_⟩
  · rw [← h2, h4]; exact h1
  · rw [← h2, h4]; exact h3
end M

namespace M
theorem sort_ex (l : List Int) : ∃ ns : List Int, ns.Perm l ∧ ns.Pairwise (· ≤ ·) := by
  refine ⟨l.mergeSort (fun a b => decide (a ≤ b)), List.mergeSort_perm _ _, ?_⟩
  refine (List.pairwise_mergeSort (le := fun a b : Int => decide (a ≤ b)) (fun a b c h1 h2 => ?_) (fun a b => ?_) l).imp fun {a b} h => by simpa using h
  · simp only [decide_eq_true_eq] at *; omega
  · simp only [Bool.or_eq_true, decide_eq_true_eq]; omega
theorem kr_some {p k : Nat} {a : Int} (hp : Prime p) (ha : un p a) (hk : 0 < k) (h : is1 p a ((p - 1) / Nat.gcd k (p - 1))) : ∃ root : Int, al p (root ^ k) a := by
  have hp2 := hp.1
  have p1 : 0 < p - 1 := by omega
  obtain ⟨g, g0, g1, gf⟩ := full_small hp
  obtain ⟨s, _, hs⟩ := ord_powers hp gf (fermat hp ha)
  have h2 := one_pow_iff.mp ((is1_congr hs _).mp h)
  have h3 := gf.dvd hp h2
  have g0' := Nat.gcd_pos_of_pos_right k p1
  have hd := Nat.gcd_dvd_right k (p - 1)
  obtain ⟨u, v, hb⟩ := bez k (p - 1)
  have hle := Nat.le_of_dvd p1 hd
  have e1 : Nat.gcd k (p - 1) * ((p - 1) / Nat.gcd k (p - 1)) = p - 1 := Nat.mul_div_cancel' hd
  have e0 : 0 < (p - 1) / Nat.gcd k (p - 1) := Nat.div_pos hle g0'
  generalize Nat.gcd k (p - 1) = d at *
  have hds : d ∣ s := by
    have h4 : d * ((p - 1) / d) ∣ s * ((p - 1) / d) := by rw [e1]; exact h3
    exact Nat.dvd_of_mul_dvd_mul_right e0 h4
  obtain ⟨c, hc⟩ := hds
  have hN : ((p - 1 : Nat) : Int) ≠ 0 := by omega
  have r0 := Int.emod_nonneg (u * c) hN
  refine ⟨(g : Int) ^ ((u * c) % ((p - 1 : Nat) : Int)).toNat, ?_⟩
  rw [← Int.pow_mul]
  refine al_trans (pow_al gf.one ?_) (al_symm hs)
  have h5 : (((((u * c) % ((p - 1 : Nat) : Int)).toNat * k : Nat) : Int)) % ((p - 1 : Nat) : Int) = ((s : Nat) : Int) % ((p - 1 : Nat) : Int) := by
    rw [Int.natCast_mul, Int.toNat_of_nonneg r0, Int.mul_emod, Int.emod_emod_of_dvd _ (Int.dvd_refl _), ← Int.mul_emod]
    refine Int.emod_eq_emod_iff_emod_sub_eq_zero.mpr (Int.emod_eq_zero_of_dvd ⟨-(v * c), ?_⟩)
    rw [hc]
    push_cast
    rw [← hb]
    grind
  exact Int.ofNat.inj h5
theorem kr_len {p k : Nat} {a : Int} {xs : List Int} (hp : Prime p) (ha : un p a) (hk : 0 < k) (h : is1 p a ((p - 1) / Nat.gcd k (p - 1))) (hx : IsKR p k a xs) : xs.length = Nat.gcd k (p - 1) := by
  have hp2 := hp.1
  obtain ⟨root, hr⟩ := kr_some hp ha hk h
  obtain ⟨f, f0, f1, ff⟩ := full_small hp
  have gp := Nat.gcd_dvd_right k (p - 1)
  have hot := ff.pw ((p - 1) / Nat.gcd k (p - 1))
  have g : Nat.gcd ((p - 1) / Nat.gcd k (p - 1)) (p - 1) = (p - 1) / Nat.gcd k (p - 1) := Nat.gcd_eq_left (Nat.div_dvd_of_dvd gp)
  rw [g, Nat.div_div_self gp (by omega)] at hot
  obtain ⟨ns, pm, srt⟩ := sort_ex ((List.range (Nat.gcd k (p - 1))).map fun i => root * (pw p f ((p - 1) / Nat.gcd k (p - 1))) ^ i % (p : Int))
  have h1 := kr_all hp ha rfl hr hot pm srt hk
  rw [hx.unique h1, pm.length_eq, List.length_map, List.length_range]
def prodN (l : List Nat) : Nat := l.foldl (· * ·) 1
theorem prodN_snoc (l : List Nat) (x : Nat) : prodN (l ++ [x]) = prodN l * x := by unfold prodN; rw [List.foldl_append]; rfl
theorem foldl_one (l : List Nat) : ∀ c, l.foldl (· * ·) c = c * l.foldl (· * ·) 1 := by
  induction l with
  | nil => intro c; simp
  | cons a l ih => intro c; rw [List.foldl_cons, List.foldl_cons, ih (c * a), ih (1 * a), Nat.one_mul, Nat.mul_assoc]
theorem prodN_cons (a : Nat) (l : List Nat) : prodN (a :: l) = a * prodN l := by unfold prodN; rw [List.foldl_cons, foldl_one, Nat.one_mul]
theorem prodN_pos {l : List Nat} (h : ∀ z ∈ l, 0 < z) : 0 < prodN l := by
  induction l with
  | nil => exact Nat.one_pos
  | cons a l ih => rw [prodN_cons]; exact Nat.mul_pos (h a (by simp)) (ih fun z hz => h z (by simp [hz]))
theorem prodN_take {l : List Nat} (h : ∀ z ∈ l, 0 < z) (i : Nat) : prodN (l.take i) ≤ prodN l := by
  induction l generalizing i with
  | nil => simp
  | cons a l ih =>
    have hp := prodN_pos h
    cases i with
    | zero => rw [List.take_zero]; exact hp
    | succ i =>
      rw [List.take_succ_cons, prodN_cons, prodN_cons]
      exact Nat.mul_le_mul_left _ (ih (fun z hz => h z (by simp [hz])) i)
theorem prodN_dvd {l : List Nat} {p : Nat} (h : p ∈ l) : p ∣ prodN l := by
  induction l with
  | nil => simp at h
  | cons a l ih =>
    rw [prodN_cons]
    rcases List.mem_cons.mp h with z | z
    · rw [z]; exact Nat.dvd_mul_right _ _
    · exact Nat.dvd_trans (ih z) (Nat.dvd_mul_left _ _)
theorem prodN_bd {l : List Nat} {B : Nat} (h : ∀ z ∈ l, z ≤ B) : prodN l ≤ B ^ l.length := by
  induction l with
  | nil => exact Nat.le_refl _
  | cons a l ih =>
    rw [prodN_cons, List.length_cons, Nat.pow_succ, Nat.mul_comm]
    exact Nat.mul_le_mul (ih fun z hz => h z (by simp [hz])) (h a (by simp))
theorem prodN_gcd {l : List Nat} {p : Nat} (hp : Prime p) (h : ∀ z ∈ l, Prime z ∧ z ≠ p) : Nat.gcd (prodN l) p = 1 := by
  have hn : ¬ p ∣ prodN l := by
    induction l with
    | nil => intro z; have := Nat.le_of_dvd Nat.one_pos z; have := hp.1; omega
    | cons a l ih =>
      rw [prodN_cons]
      intro z
      have z2 : (p : Int) ∣ (a : Int) * (prodN l : Nat) := by rw [← Int.natCast_mul]; exact Int.natCast_dvd_natCast.mpr z
      rcases (dvd_mul_int hp z2).imp Int.natCast_dvd_natCast.mp Int.natCast_dvd_natCast.mp with w | w
      · obtain ⟨h1, h2⟩ := h a (by simp)
        rcases h1.2 _ w with e | e
        · have := hp.1; omega
        · exact h2 e.symm
      · exact ih (fun z hz => h z (by simp [hz])) w
  rcases hp.2 _ (Nat.gcd_dvd_right (prodN l) p) with z | z
  · exact z
  · exact absurd (by have := Nat.gcd_dvd_left (prodN l) p; rwa [z] at this) hn
/-- numbers alike with one of each of two lists -/
structure Col (W p : Nat) (xs ss ys : List Int) : Prop where
  nd : ys.Nodup
  iff : ∀ y, y ∈ ys ↔ 0 ≤ y ∧ y < (W * p : Nat) ∧ y % (W : Int) ∈ xs ∧ y % (p : Int) ∈ ss
  len : ys.length = xs.length * ss.length
theorem col_nil_x (W p : Nat) (ss : List Int) : Col W p [] ss [] := ⟨.nil, fun y => ⟨fun h => by simp at h, fun h => by simp at h⟩, by simp⟩
theorem col_nil_s (W p : Nat) (xs : List Int) : Col W p xs [] [] := ⟨.nil, fun y => ⟨fun h => by simp at h, fun h => by simp at h⟩, by simp⟩
theorem col_one {W p : Nat} {xs ys : List Int} {r s w y : Int} (h : Col W p xs [s] ys) (hg : Nat.gcd W p = 1) (r0 : 0 ≤ r) (r1 : r < W) (s0 : 0 ≤ s) (s1 : s < p) (hr : r ∉ xs) (hj : Joined W r p s w y) : w = (W * p : Nat) ∧ Col W p (xs ++ [r]) [s] (ys ++ [y]) := by
  have hw : w = (W * p : Nat) := by
    rw [hj.hw]
    congr 1
    show Nat.lcm W p = W * p
    unfold Nat.lcm
    rw [hg, Nat.div_one]
  have hyr : y % (W : Int) = r := by
    have := Int.emod_eq_emod_iff_emod_sub_eq_zero.mpr hj.e1
    rw [this, Int.emod_eq_of_lt r0 r1]
  have hys : y % (p : Int) = s := by
    have := Int.emod_eq_emod_iff_emod_sub_eq_zero.mpr hj.e2
    rw [this, Int.emod_eq_of_lt s0 s1]
  have y0 := hj.x0
  have y1 := hj.x1
  rw [hw] at y1
  refine ⟨hw, ?_, fun z => ?_, by rw [List.length_append, List.length_append, h.len]; simp⟩
  · refine List.nodup_append.mpr ⟨h.nd, by simp, fun a ha b hb e => ?_⟩
    rw [List.mem_singleton.mp hb] at e
    rw [e] at ha
    have := ((h.iff y).mp ha).2.2.1
    rw [hyr] at this
    exact hr this
  · rw [List.mem_append, List.mem_singleton, h.iff z, List.mem_append]
    constructor
    · rintro (⟨a, b, c, d⟩ | rfl)
      · exact ⟨a, b, .inl c, d⟩
      · exact ⟨y0, y1, .inr (by rw [hyr]; simp), by rw [hys]; simp⟩
    · rintro ⟨a, b, c | c, d⟩
      · exact .inl ⟨a, b, c, d⟩
      · right
        rw [List.mem_singleton] at c d
        have d1 : (W : Int) ∣ z - y := Int.dvd_of_emod_eq_zero (Int.emod_eq_emod_iff_emod_sub_eq_zero.mp (by rw [c, hyr]))
        have d2 : (p : Int) ∣ z - y := Int.dvd_of_emod_eq_zero (Int.emod_eq_emod_iff_emod_sub_eq_zero.mp (by rw [d, hys]))
        have d3 : ((W * p : Nat) : Int) ∣ z - y := Int.ofNat_dvd_left.mpr (Nat.Coprime.mul_dvd_of_dvd_of_dvd hg (Int.ofNat_dvd_left.mp d1) (Int.ofNat_dvd_left.mp d2))
        have e := Int.emod_eq_emod_iff_emod_sub_eq_zero.mpr (Int.emod_eq_zero_of_dvd d3)
        rwa [Int.emod_eq_of_lt a b, Int.emod_eq_of_lt y0 y1] at e
theorem col_app {W p : Nat} {xs ss ys zs : List Int} {s : Int} (h : Col W p xs ss ys) (h' : Col W p xs [s] zs) (hs : s ∉ ss) : Col W p xs (ss ++ [s]) (ys ++ zs) := by
  refine ⟨List.nodup_append.mpr ⟨h.nd, h'.nd, fun a ha b hb e => ?_⟩, fun y => ?_, by rw [List.length_append, List.length_append, h.len, h'.len, Nat.mul_add]⟩
  · rw [← e] at hb
    have h1 := ((h.iff a).mp ha).2.2.2
    have h2 := ((h'.iff a).mp hb).2.2.2
    rw [List.mem_singleton.mp h2] at h1
    exact hs h1
  · rw [List.mem_append, List.mem_append, h.iff y, h'.iff y]
    constructor
    · rintro (⟨a, b, c, d⟩ | ⟨a, b, c, d⟩)
      · exact ⟨a, b, c, .inl d⟩
      · exact ⟨a, b, c, .inr d⟩
    · rintro ⟨a, b, c, d | d⟩
      · exact .inl ⟨a, b, c, d⟩
      · exact .inr ⟨a, b, c, d⟩
/-- numbers alike with one of each list -/
structure Mixed (ps : List Nat) (ls : List (List Int)) (xs : List Int) : Prop where
  nd : xs.Nodup
  iff : ∀ y, y ∈ xs ↔ 0 ≤ y ∧ y < (prodN ps : Nat) ∧ ∀ (i p : Nat) (l : List Int), ps[i]? = some p → ls[i]? = some l → y % (p : Int) ∈ l
  len : xs.length = prodN (ls.map List.length)
theorem mixed_nil : Mixed [] [] [0] := ⟨by simp, fun y => by
  rw [List.mem_singleton]
  constructor
  · rintro rfl
    exact ⟨Int.le_refl _, by decide, fun i p l h => by simp at h⟩
  · rintro ⟨a, b, _⟩
    have b : y < 1 := b
    omega, rfl⟩
theorem mixed_more {ps : List Nat} {ls : List (List Int)} {xs ys l : List Int} {p : Nat} (h : Mixed ps ls xs) (hl : ls.length = ps.length) (h0 : 0 < prodN ps) (hc : Col (prodN ps) p xs l ys) : Mixed (ps ++ [p]) (ls ++ [l]) ys := by
  refine ⟨hc.nd, fun y => ?_, by rw [hc.len, h.len, List.map_append, List.map_cons, List.map_nil, prodN_snoc]⟩
  rw [hc.iff y, h.iff, prodN_snoc]
  have hm : ∀ (i q : Nat), ps[i]? = some q → y % (prodN ps : Nat) % (q : Int) = y % (q : Int) := fun i q hq => Int.emod_emod_of_dvd y (Int.natCast_dvd_natCast.mpr (prodN_dvd (List.mem_of_getElem? hq)))
  have r0 := Int.emod_nonneg y (show ((prodN ps : Nat) : Int) ≠ 0 by omega)
  have r1 := Int.emod_lt_of_pos y (show (0 : Int) < ((prodN ps : Nat) : Int) by omega)
  constructor
  · rintro ⟨a, b, ⟨_, _, c⟩, d⟩
    refine ⟨a, b, fun i q m hq hm' => ?_⟩
    rcases Nat.lt_or_ge i ps.length with z | z
    · rw [List.getElem?_append_left z] at hq
      rw [List.getElem?_append_left (by omega)] at hm'
      rw [← hm i q hq]
      exact c i q m hq hm'
    · rw [List.getElem?_append_right z] at hq
      rw [List.getElem?_append_right (by omega)] at hm'
      have hi : i - ps.length = 0 := by
        have := (List.getElem?_eq_some_iff.mp hq).1
        simp at this; omega
      rw [hi] at hq
      rw [hl, hi] at hm'
      cases hq
      cases hm'
      exact d
  · rintro ⟨a, b, c⟩
    refine ⟨a, b, ⟨r0, r1, fun i q m hq hm' => ?_⟩, ?_⟩
    · rw [hm i q hq]
      have z := (List.getElem?_eq_some_iff.mp hq).1
      exact c i q m (by rw [List.getElem?_append_left z]; exact hq) (by rw [List.getElem?_append_left (by omega)]; exact hm')
    · exact c ps.length p l (by rw [List.getElem?_append_right (Nat.le_refl _)]; simp) (by rw [List.getElem?_append_right (by omega), hl]; simp)
end M

namespace M
theorem col_exists {W p : Nat} (W0 : 0 < W) (p0 : 0 < p) (hg : Nat.gcd W p = 1) {xs : List Int} (xnd : xs.Nodup) (hx : ∀ x ∈ xs, 0 ≤ x ∧ x < W) : ∀ (ss : List Int), ss.Nodup → (∀ s ∈ ss, 0 ≤ s ∧ s < p) → ∃ ys, Col W p xs ss ys := by
  have one : ∀ (s : Int), 0 ≤ s → s < p → ∀ rs : List Int, rs.Nodup → (∀ r ∈ rs, 0 ≤ r ∧ r < W) → ∃ ys, Col W p rs [s] ys := fun s s0 s1 rs => by
    induction rs using snoc_ind with
    | nil => exact fun _ _ => ⟨[], col_nil_x W p [s]⟩
    | append_singleton rs r ih =>
      intro hn hr
      have hn' := List.nodup_append.mp hn
      obtain ⟨ys, hc⟩ := ih hn'.1 fun z hz => hr z (by simp [hz])
      have hrr := hr r (by simp)
      obtain ⟨X, rfl⟩ := Int.eq_ofNat_of_zero_le hrr.1
      obtain ⟨S, rfl⟩ := Int.eq_ofNat_of_zero_le s0
      obtain ⟨t, ht, hte⟩ := step_to (w := W) (x := X) (e := p) (y := S) p0 (by omega) (by rw [hg]; omega)
      have hW : W * (t + 1) ≤ W * p := Nat.mul_le_mul_left W ht
      rw [Nat.mul_succ] at hW
      have hl : Nat.lcm W p = W * p := by unfold Nat.lcm; rw [hg, Nat.div_one]
      refine ⟨ys ++ [((X + W * t : Nat) : Int)], (col_one (w := ((W * p : Nat) : Int)) hc hg hrr.1 hrr.2 s0 s1 (fun z => ?_) ⟨?_, ?_, ?_, ?_, ?_⟩).2⟩
      · exact hn'.2.2 _ z _ (by simp) rfl
      · show ((W * p : Nat) : Int) = ((Nat.lcm W p : Nat) : Int)
        rw [hl]
      · omega
      · omega
      · have : ((X + W * t : Nat) : Int) - (X : Int) = (W : Int) * (t : Int) := by push_cast; omega
        rw [this]; exact Int.mul_emod_right _ _
      · have h1 : ((X + W * t : Nat) : Int) % (p : Int) = (S : Int) := by rw [← Int.natCast_emod, hte]
        have h2 := Int.emod_add_mul_ediv ((X + W * t : Nat) : Int) (p : Int)
        rw [h1] at h2
        have : ((X + W * t : Nat) : Int) - (S : Int) = (p : Int) * (((X + W * t : Nat) : Int) / (p : Int)) := by omega
        rw [this]; exact Int.mul_emod_right _ _
  intro ss
  induction ss using snoc_ind with
  | nil => exact fun _ _ => ⟨[], col_nil_s W p xs⟩
  | append_singleton ss s ih =>
    intro hn hs
    have hn' := List.nodup_append.mp hn
    obtain ⟨ys, hc⟩ := ih hn'.1 fun z hz => hs z (by simp [hz])
    obtain ⟨zs, hz⟩ := one s (hs s (by simp)).1 (hs s (by simp)).2 xs xnd hx
    exact ⟨ys ++ zs, col_app hc hz fun w => hn'.2.2 _ w _ (by simp) rfl⟩
theorem mixed_exists : ∀ (ps : List Nat) (ls : List (List Int)), ls.length = ps.length → ps.Pairwise (· < ·) → (∀ p ∈ ps, Prime p) → (∀ (i p : Nat) (l : List Int), ps[i]? = some p → ls[i]? = some l → l.Nodup ∧ ∀ s ∈ l, 0 ≤ s ∧ s < p) → ∃ xs, Mixed ps ls xs := by
  intro ps
  induction ps using snoc_ind with
  | nil =>
    intro ls hl _ _ _
    have : ls = [] := List.eq_nil_of_length_eq_zero hl
    rw [this]; exact ⟨[0], mixed_nil⟩
  | append_singleton ps p ih =>
    intro ls hl hs hp hok
    have hlen : ls.length = ps.length + 1 := by rw [hl, List.length_append]; rfl
    obtain ⟨ls', l, rfl⟩ : ∃ ls' l, ls = ls' ++ [l] := by
      have h1 : ps.length < ls.length := by omega
      refine ⟨ls.take ps.length, ls[ps.length], ?_⟩
      have := List.take_append_drop ps.length ls
      rw [List.drop_eq_getElem_cons h1, List.drop_eq_nil_of_le (by omega)] at this
      exact this.symm
    have hl' : ls'.length = ps.length := by rw [List.length_append] at hlen; simp at hlen; exact hlen
    have hs' := List.pairwise_append.mp hs
    obtain ⟨xs, hm⟩ := ih ls' hl' hs'.1 (fun q hq => hp q (by simp [hq])) fun i q m h1 h2 => hok i q m (by rw [List.getElem?_append_left (List.getElem?_eq_some_iff.mp h1).1]; exact h1) (by rw [List.getElem?_append_left (List.getElem?_eq_some_iff.mp h2).1]; exact h2)
    have hpp := hp p (by simp)
    have hok' := hok ps.length p l (by rw [List.getElem?_append_right (Nat.le_refl _)]; simp) (by rw [List.getElem?_append_right (by omega), hl']; simp)
    have W0 : 0 < prodN ps := prodN_pos fun z hz => by have := (hp z (by simp [hz])).1; omega
    have hg : Nat.gcd (prodN ps) p = 1 := prodN_gcd hpp fun z hz => ⟨hp z (by simp [hz]), fun w => by have := hs'.2.2 z hz p (by simp); omega⟩
    obtain ⟨ys, hc⟩ := col_exists W0 (by have := hpp.1; omega) hg hm.nd (fun x hx => by have := (hm.iff x).mp hx; exact ⟨this.1, this.2.1⟩) l hok'.1 hok'.2
    exact ⟨ys, mixed_more hm hl' W0 hc⟩
/-- each rest of each list is met -/
theorem mixed_hit {ps : List Nat} {ls : List (List Int)} {xs : List Int} (h : Mixed ps ls xs) (hl : ls.length = ps.length) (hs : ps.Pairwise (· < ·)) (hp : ∀ p ∈ ps, Prime p) (hok : ∀ (i p : Nat) (l : List Int), ps[i]? = some p → ls[i]? = some l → l.Nodup ∧ ∀ s ∈ l, 0 ≤ s ∧ s < p) (hne : ∀ l ∈ ls, l ≠ []) {i p : Nat} {l : List Int} {z : Int} (h1 : ps[i]? = some p) (h2 : ls[i]? = some l) (hz : z ∈ l) : ∃ x ∈ xs, x % (p : Int) = z := by
  have hzb := (hok i p l h1 h2).2 z hz
  have gs : ∀ j, (ls.set i [z])[j]? = if i = j then (if j < ls.length then some [z] else none) else ls[j]? := fun j => by
    rw [List.getElem?_set]
    split
    · rename_i e; subst e; rfl
    · rfl
  obtain ⟨ys, hy⟩ := mixed_exists ps (ls.set i [z]) (by rw [List.length_set]; exact hl) hs hp fun j q m a1 a2 => by
    rw [gs] at a2
    split at a2
    · rename_i e
      subst e
      split at a2
      · cases a2
        rw [h1] at a1
        cases a1
        exact ⟨by simp, fun s hs' => by rw [List.mem_singleton.mp hs']; exact hzb⟩
      · cases a2
    · exact hok j q m a1 a2
  have hpos : 0 < ys.length := by
    rw [hy.len]
    refine prodN_pos fun n hn => ?_
    obtain ⟨m, hm, rfl⟩ := List.mem_map.mp hn
    rcases List.mem_or_eq_of_mem_set hm with w | w
    · exact List.length_pos_iff.mpr (hne m w)
    · rw [w]; simp
  obtain ⟨y, hyl⟩ := List.exists_mem_of_length_pos hpos
  have hy1 := (hy.iff y).mp hyl
  have hil := (List.getElem?_eq_some_iff.mp h2).1
  have hyz : y % (p : Int) = z := by
    have := hy1.2.2 i p [z] h1 (by rw [gs, if_pos rfl, if_pos hil])
    exact List.mem_singleton.mp this
  refine ⟨y, (h.iff y).mpr ⟨hy1.1, hy1.2.1, fun j q m a1 a2 => ?_⟩, hyz⟩
  by_cases e : i = j
  · subst e
    rw [h1] at a1
    rw [h2] at a2
    cases a1
    cases a2
    rw [hyz]; exact hz
  · exact hy1.2.2 j q m a1 (by rw [gs, if_neg e]; exact a2)
theorem mixed_len {ps : List Nat} {ls : List (List Int)} {xs ys : List Int} (h : Mixed ps ls xs) (nd : ys.Nodup) (hy : ∀ y, y ∈ ys ↔ 0 ≤ y ∧ y < (prodN ps : Nat) ∧ ∀ (i p : Nat) (l : List Int), ps[i]? = some p → ls[i]? = some l → y % (p : Int) ∈ l) : ys.length = prodN (ls.map List.length) := by
  rw [← h.len]
  have : ys.Perm xs := (List.perm_ext_iff_of_nodup nd h.nd).mpr fun y => (hy y).trans (h.iff y).symm
  exact this.length_eq
end M

namespace M
theorem sub_of_sorted : ∀ {xs rs : List Int}, rs.Pairwise (· < ·) → xs.Pairwise (· < ·) → (∀ r ∈ rs, r ∈ xs) → rs.Sublist xs
  | _, [], _, _, _ => List.nil_sublist _
  | [], r :: rs, _, _, h => absurd (h r (by simp)) (by simp)
  | x :: xs, r :: rs, h1, h2, h => by
    have a := List.pairwise_cons.mp h1
    have b := List.pairwise_cons.mp h2
    by_cases e : r = x
    · subst e
      exact .cons₂ _ (sub_of_sorted a.2 b.2 fun q hq => by
        rcases List.mem_cons.mp (h q (by simp [hq])) with z | z
        · have := a.1 q hq; omega
        · exact z)
    · have hr : r ∈ xs := by
        rcases List.mem_cons.mp (h r (by simp)) with z | z
        · exact absurd z e
        · exact z
      have hx := b.1 r hr
      exact .cons _ (sub_of_sorted h1 b.2 fun q hq => by
        rcases List.mem_cons.mp (h q hq) with z | z
        · rcases List.mem_cons.mp hq with w | w
          · omega
          · have := a.1 q w; omega
        · exact z)
open Classical in
theorem kr_ex {p k : Nat} {a : Int} : ∃ xs : List Int, IsKR p k a xs := by
  refine ⟨List.map (fun n : Nat => (n : Int)) (List.filter (fun n : Nat => decide (al p ((n : Int) ^ k) a)) (List.range p)), ?_, fun y => ?_⟩
  · rw [List.pairwise_map]
    exact (List.pairwise_lt_range.filter _).imp fun {a b} h => by omega
  · simp only [List.mem_map, List.mem_filter, List.mem_range, decide_eq_true_eq]
    constructor
    · rintro ⟨n, ⟨h1, h2⟩, rfl⟩
      exact ⟨by omega, by omega, h2⟩
    · rintro ⟨h1, h2, h3⟩
      obtain ⟨n, rfl⟩ := Int.eq_ofNat_of_zero_le h1
      exact ⟨n, ⟨by omega, h3⟩, rfl⟩
theorem kr_full {p k : Nat} {a : Int} {rs : List Int} (hp : Prime p) (hu : un p a) (k0 : 0 < k) (hy : is1 p a ((p - 1) / Nat.gcd k (p - 1))) (srt : rs.Pairwise (· < ·)) (all : ∀ r ∈ rs, 0 ≤ r ∧ r < p ∧ al p (r ^ k) a) (hl : rs.length = Nat.gcd k (p - 1)) : IsKR p k a rs := by
  obtain ⟨xs, hx⟩ := kr_ex (p := p) (k := k) (a := a)
  have len := kr_len hp hu k0 hy hx
  have e := (sub_of_sorted srt hx.sorted fun r hr => (hx.iff r).mpr (all r hr)).eq_of_length (by omega)
  rw [e]; exact hx
end M

/-! how deep the papers of primes to 10 ** 9 are -/
namespace M
/-- p has a chain of k primes, each one dividing the next less 1 -/
def Chain : Nat → Nat → Prop
  | 0, _ => True
  | k + 1, p => Prime p ∧ (k = 0 ∨ ∃ q, q ∣ p - 1 ∧ Chain k q)
def compF : Nat → Nat → Nat → Bool
  | 0, _, _ => false
  | n + 1, p, d => if p < d * d then false else if p % d == 0 then true else compF n p (d + 2)
theorem compF_no {p : Nat} (hp : Prime p) : ∀ {n d : Nat}, 2 ≤ d → compF n p d = false
  | 0, _, _ => rfl
  | n + 1, d, h => by
    unfold compF
    split
    · rfl
    · rename_i h1
      split
      · rename_i h2
        have h3 := Nat.dvd_of_mod_eq_zero (beq_iff_eq.mp h2)
        rcases hp.2 d h3 with z | z
        · omega
        · rw [z] at h1
          have : p * 2 ≤ p * p := Nat.mul_le_mul_left p hp.1
          have := hp.1
          omega
      · exact compF_no hp (by omega)
def okStep (S T : List Nat) (B : Nat) : Bool := S.all fun q => (List.range ((B - 1) / (2 * q))).all fun j => compF 600 (2 * (j + 1) * q + 1) 3 || T.contains (2 * (j + 1) * q + 1)
theorem chain_prime {k p : Nat} (h : Chain (k + 1) p) : Prime p := h.1
theorem prime_odd {p : Nat} (hp : Prime p) (h : p ≠ 2) : p % 2 = 1 := by
  rcases Nat.mod_two_eq_zero_or_one p with z | z
  · rcases hp.2 2 (Nat.dvd_of_mod_eq_zero z) with e | e
    · omega
    · exact absurd e.symm h
  · exact z
theorem chain_odd {k p : Nat} (h : Chain (k + 2) p) : p % 2 = 1 := by
  refine prime_odd h.1 fun e => ?_
  subst e
  rcases h.2 with z | ⟨q, hq, hc⟩
  · omega
  · have h1 : Prime q := hc.1
    have := Nat.le_of_dvd (by decide) hq
    have := h1.1
    omega
theorem chain_two {k p q : Nat} (h : Chain (k + 2) p) (hq : q ∣ p - 1) (hc : Chain (k + 1) q) (ho : q % 2 = 1) : ∃ j, p = 2 * (j + 1) * q + 1 := by
  have hp := h.1.1
  have po := chain_odd h
  have q0 : 0 < q := by omega
  obtain ⟨c, hc⟩ := hq
  have hc2 : c % 2 = 0 := by
    rcases Nat.mod_two_eq_zero_or_one c with z | z
    · exact z
    · have : (q * c) % 2 = 1 := by rw [Nat.mul_mod, ho, z]
      omega
  obtain ⟨d, rfl⟩ : ∃ d, c = 2 * d := ⟨c / 2, by omega⟩
  have d0 : 0 < d := Nat.pos_of_ne_zero fun z => by subst z; simp at hc; omega
  refine ⟨d - 1, ?_⟩
  have : 2 * (d - 1 + 1) * q = q * (2 * d) := by rw [Nat.sub_add_cancel d0]; grind
  omega
theorem step_in {S T : List Nat} {B k p : Nat} (ok : okStep S T B = true) (hS : ∀ q, Chain (k + 2) q → 2 * q + 1 ≤ B → q ∈ S) (h : Chain (k + 3) p) (hB : p ≤ B) : p ∈ T := by
  rcases h.2 with z | ⟨q, hq, hc⟩
  · omega
  · have qo := chain_odd hc
    obtain ⟨j, hj⟩ := chain_two (k := k + 1) h hq hc qo
    have q0 : 0 < q := by omega
    have h1 : 2 * q ≤ 2 * (j + 1) * q := Nat.mul_le_mul_right q (by omega)
    have hqS := hS q hc (by omega)
    have h2 := List.all_eq_true.mp ok q hqS
    have hjr : j < (B - 1) / (2 * q) := by
      have : (j + 1) * (2 * q) ≤ B - 1 := by
        have : (j + 1) * (2 * q) = 2 * (j + 1) * q := by grind
        omega
      exact (Nat.le_div_iff_mul_le (by omega)).mpr this
    have h3 := List.all_eq_true.mp h2 j (List.mem_range.mpr hjr)
    rw [← hj, compF_no h.1 (by decide), Bool.false_or] at h3
    exact List.contains_iff_mem.mp h3
def S2 : List Nat := [3, 5, 7, 11, 13, 17, 19, 23, 29, 31, 37, 41, 43, 47, 53, 59, 61, 67, 71, 73, 79, 83, 89, 97, 101, 103, 107, 109, 113, 127, 131, 137, 139, 149, 151, 157, 163, 167, 173, 179, 181, 191, 193, 197, 199, 211, 223, 227, 229, 233, 239, 241, 251, 257, 263, 269, 271, 277, 281, 283, 293, 307, 311, 313, 317, 331, 337, 347, 349, 353, 359, 367, 373, 379, 383, 389, 397, 401, 409, 419, 421, 431, 433, 439, 443, 449, 457, 461, 463, 467, 479, 487, 491, 499, 503, 509, 521, 523, 541, 547, 557, 563, 569, 571, 577, 587, 593, 599, 601, 607, 613, 617, 619, 631, 641, 643, 647, 653, 659, 661, 673, 677, 683, 691, 701, 709, 719, 727, 733, 739, 743, 751, 757, 761, 769, 773, 787, 797, 809, 811, 821, 823, 827, 829, 839, 853, 857, 859, 863, 877, 881, 883, 887, 907, 911, 919, 929, 937, 941, 947, 953]
def S3 : List Nat := [7, 11, 13, 19, 23, 29, 31, 37, 41, 43, 47, 53, 59, 61, 67, 71, 73, 79, 83, 89, 97, 101, 103, 107, 109, 113, 127, 131, 137, 139, 149, 151, 157, 163, 167, 173, 179, 181, 191, 193, 197, 199, 211, 223, 227, 229, 233, 239, 241, 251, 263, 269, 271, 277, 281, 283, 293, 307, 311, 313, 317, 331, 337, 347, 349, 353, 359, 367, 373, 379, 383, 389, 397, 401, 409, 419, 421, 431, 433, 439, 443, 449, 457, 461, 463, 467, 479, 487, 491, 499, 503, 509, 521, 523, 541, 547, 557, 563, 569, 571, 577, 587, 593, 599, 601, 607, 613, 617, 619, 631, 641, 643, 647, 653, 659, 661, 673, 677, 683, 691, 701, 709, 719, 727, 733, 739, 743, 751, 757, 761, 769, 773, 787, 797, 809, 811, 821, 823, 827, 829, 839, 853, 857, 859, 863, 877, 881, 883, 887, 907, 911, 919, 929, 937, 941, 947, 953, 967, 971, 977, 983, 991, 997, 1009, 1013, 1019, 1021, 1031, 1033, 1039, 1049, 1051, 1061, 1063, 1069, 1087, 1091, 1093, 1097, 1103, 1109, 1117, 1123, 1129, 1151, 1153, 1163, 1171, 1181, 1187, 1193, 1201, 1213, 1217, 1223, 1229, 1231, 1237, 1249, 1259, 1277, 1279, 1283, 1289, 1291, 1297, 1301, 1303, 1307, 1319, 1321, 1327, 1361, 1367, 1373, 1381, 1399, 1409, 1423, 1427, 1429, 1433, 1439, 1447, 1451, 1453, 1459, 1471, 1481, 1483, 1487, 1489, 1493, 1499, 1511, 1523, 1531, 1543, 1549, 1553, 1559, 1567, 1571, 1579, 1583, 1597, 1601, 1607, 1609, 1613, 1619, 1621, 1627, 1637, 1657, 1663, 1667, 1669, 1693, 1697, 1699, 1709, 1721, 1723, 1733, 1741, 1747, 1753, 1759, 1777, 1783, 1787, 1789, 1801, 1811, 1823, 1831, 1847, 1861, 1867, 1871, 1873, 1877, 1879, 1889, 1901, 1907]
def S4 : List Nat := [23, 29, 43, 47, 53, 59, 67, 71, 79, 83, 89, 107, 113, 127, 131, 139, 149, 157, 167, 173, 179, 191, 197, 199, 211, 223, 227, 229, 233, 239, 263, 269, 277, 281, 283, 293, 311, 313, 317, 331, 337, 347, 349, 353, 359, 367, 373, 379, 383, 389, 397, 419, 421, 431, 439, 443, 449, 457, 461, 463, 467, 479, 491, 499, 503, 509, 521, 523, 547, 557, 563, 569, 571, 587, 593, 599, 607, 617, 619, 631, 643, 647, 653, 659, 661, 673, 677, 683, 691, 701, 709, 719, 727, 733, 739, 743, 757, 761, 773, 787, 797, 809, 821, 823, 827, 829, 839, 853, 857, 859, 863, 877, 881, 883, 887, 907, 911, 929, 937, 941, 947, 953, 967, 971, 977, 983, 991, 997, 1009, 1013, 1019, 1031, 1033, 1039, 1049, 1051, 1061, 1063, 1069, 1087, 1091, 1093, 1097, 1103, 1109, 1117, 1123, 1129, 1151, 1163, 1171, 1181, 1187, 1193, 1213, 1217, 1223, 1229, 1231, 1237, 1249, 1259, 1277, 1279, 1283, 1289, 1291, 1301, 1303, 1307, 1319, 1321, 1327, 1367, 1373, 1381, 1399, 1409, 1423, 1427, 1429, 1433, 1439, 1447, 1451, 1453, 1471, 1481, 1483, 1487, 1489, 1493, 1499, 1511, 1523, 1549, 1553, 1559, 1567, 1571, 1579, 1583, 1597, 1607, 1609, 1613, 1619, 1627, 1637, 1657, 1663, 1667, 1669, 1693, 1697, 1699, 1709, 1721, 1723, 1733, 1741, 1747, 1753, 1759, 1777, 1783, 1787, 1789, 1811, 1823, 1831, 1847, 1861, 1867, 1871, 1873, 1877, 1879, 1889, 1901, 1907, 1913, 1931, 1933, 1949, 1951, 1973, 1979, 1987, 1993, 1997, 1999, 2003, 2011, 2017, 2027, 2029, 2039, 2053, 2063, 2069, 2081, 2083, 2087, 2089, 2099, 2111, 2113, 2129, 2131, 2137, 2141, 2143, 2153, 2179, 2203, 2207, 2213, 2221, 2237, 2239, 2243, 2267, 2269, 2273, 2281, 2287, 2293, 2297, 2309, 2311, 2333, 2339, 2341, 2347, 2351, 2357, 2371, 2377, 2381, 2383, 2389, 2393, 2399, 2411, 2417, 2423, 2437, 2441, 2447, 2459, 2467, 2473, 2477, 2503, 2521, 2531, 2539, 2543, 2549, 2557, 2579, 2591, 2609, 2617, 2621, 2633, 2647, 2657, 2659, 2663, 2671, 2677, 2683, 2687, 2689, 2693, 2699, 2707, 2711, 2713, 2719, 2729, 2731, 2741, 2749, 2753, 2767, 2777, 2789, 2791, 2797, 2801, 2803, 2819, 2833, 2837, 2843, 2851, 2857, 2861, 2879, 2887, 2897, 2903, 2909, 2927, 2939, 2953, 2957, 2963, 2969, 2971, 2999, 3011, 3019, 3023, 3037, 3041, 3049, 3067, 3079, 3083, 3089, 3109, 3119, 3121, 3137, 3163, 3167, 3169, 3181, 3187, 3191, 3203, 3209, 3217, 3221, 3229, 3251, 3253, 3257, 3259, 3271, 3299, 3301, 3307, 3313, 3319, 3323, 3329, 3331, 3343, 3347, 3359, 3361, 3371, 3373, 3389, 3391, 3407, 3413, 3433, 3449, 3461, 3463, 3467, 3491, 3499, 3511, 3517, 3527, 3529, 3533, 3539, 3541, 3547, 3557, 3559, 3571, 3581, 3583, 3593, 3607, 3613, 3617, 3623, 3631, 3637, 3643, 3659, 3671, 3677, 3691, 3697, 3701, 3709, 3719, 3727, 3733, 3739, 3761, 3767, 3769, 3779, 3793, 3797, 3803]
def S5 : List Nat := [47, 59, 107, 139, 167, 173, 179, 227, 233, 263, 269, 277, 283, 317, 347, 349, 359, 383, 431, 461, 467, 479, 499, 509, 523, 557, 563, 569, 587, 599, 643, 659, 691, 709, 719, 743, 787, 797, 827, 829, 839, 853, 857, 863, 887, 929, 941, 947, 967, 983, 997, 1013, 1019, 1033, 1039, 1049, 1061, 1063, 1069, 1103, 1109, 1129, 1151, 1163, 1181, 1187, 1193, 1223, 1277, 1279, 1289, 1291, 1307, 1319, 1367, 1381, 1399, 1423, 1427, 1433, 1439, 1451, 1487, 1493, 1499, 1523, 1549, 1567, 1571, 1579, 1583, 1609, 1619, 1657, 1663, 1669, 1693, 1697, 1699, 1721, 1741, 1759, 1787, 1789, 1823, 1847, 1867, 1877, 1879, 1889, 1907, 1913, 1933, 1973, 1979, 1987, 1993, 1997, 2011, 2027, 2039, 2063, 2069, 2083, 2087, 2089, 2099, 2111, 2131, 2137, 2141, 2153, 2203, 2207, 2213, 2237, 2239, 2243, 2273, 2287, 2293, 2333, 2339, 2347, 2351, 2371, 2383, 2389, 2393, 2423, 2437, 2447, 2459, 2477, 2503, 2531, 2539, 2557, 2579, 2621, 2633, 2657, 2659, 2671, 2677, 2683, 2687, 2693, 2699, 2713, 2749, 2753, 2767, 2777, 2797, 2803, 2819, 2833, 2837, 2843, 2879, 2903, 2909, 2939, 2957, 2963, 2969, 2999, 3011, 3019, 3023, 3037, 3049, 3083, 3119, 3167, 3181, 3187, 3191, 3217, 3221, 3229, 3307, 3313, 3319, 3343, 3347, 3359, 3371, 3373, 3391, 3407, 3413, 3449, 3461, 3467, 3491, 3499, 3517, 3527, 3533, 3539, 3541, 3547, 3557, 3559, 3581, 3583, 3593, 3613, 3617, 3623, 3643, 3659, 3671, 3727, 3733, 3739, 3761, 3767, 3769, 3779, 3793, 3803, 3821, 3833, 3853, 3863, 3911, 3917, 3919, 3923, 3929, 3931, 3947, 3967, 3989, 4003, 4007, 4013, 4021, 4049, 4073, 4079, 4099, 4127, 4129, 4133, 4139, 4153, 4157, 4177, 4211, 4231, 4241, 4253, 4259, 4261, 4273, 4283, 4289, 4297, 4349, 4363, 4373, 4391, 4397, 4409, 4423, 4451, 4457, 4463, 4483, 4493, 4513, 4517, 4547, 4549, 4567, 4583, 4597, 4603, 4639, 4643, 4649, 4679, 4691, 4703, 4721, 4723, 4729, 4783, 4787, 4793, 4799, 4817, 4831, 4877, 4889, 4903, 4919, 4931, 4937, 4943, 4957, 4967, 4969, 4973, 4987, 5009, 5011, 5039, 5059, 5077, 5081, 5087, 5099, 5107, 5113, 5119, 5147, 5153, 5171, 5179, 5227, 5231, 5261, 5273, 5279, 5297, 5309, 5323, 5333, 5351, 5381, 5387, 5393, 5399, 5407, 5417, 5419, 5443, 5449, 5471, 5479, 5483, 5503, 5507, 5519, 5521, 5531, 5557, 5569, 5573, 5591, 5623, 5639, 5641, 5647, 5651, 5653, 5659, 5683, 5689, 5693, 5711, 5717, 5737, 5743, 5749, 5779, 5783, 5801, 5807, 5813, 5827, 5839, 5843, 5849, 5861, 5867, 5879, 5897, 5903, 5923, 5927, 5939, 5981, 6037, 6043, 6047, 6053, 6067, 6073, 6079, 6089, 6091, 6113, 6143, 6163, 6197, 6199, 6203, 6211, 6221, 6229, 6247, 6257, 6269, 6277, 6287, 6299, 6311, 6317, 6323, 6329, 6353, 6361, 6367, 6373, 6379, 6389, 6421, 6451, 6473, 6491, 6547, 6551, 6569, 6581, 6599, 6607, 6619, 6637, 6653, 6659, 6673, 6679, 6691, 6701, 6703, 6709, 6719, 6737, 6763, 6779, 6781, 6793, 6803, 6823, 6827, 6829, 6857, 6863, 6871, 6899, 6907, 6911, 6947, 6959, 6961, 6967, 6983, 6991, 6997, 7013, 7019, 7027, 7039, 7043, 7079, 7103, 7109, 7121, 7127, 7159, 7177, 7187, 7193, 7229, 7237, 7243, 7247, 7283, 7307, 7309, 7331, 7333, 7349, 7433, 7451, 7457, 7459, 7477, 7487, 7499, 7507, 7517, 7523, 7529, 7537, 7541, 7559, 7573, 7577, 7583, 7591, 7607, 7621]
def S6 : List Nat := [283, 347, 359, 467, 557, 643, 659, 709, 719, 827, 857, 863, 941, 1019, 1039, 1063, 1109, 1129, 1181, 1223, 1319, 1399, 1433, 1439, 1487, 1499, 1579, 1663, 1669, 1693, 1699, 1787, 1889, 1997, 2027, 2039, 2069, 2083, 2099, 2141, 2153, 2207, 2243, 2339, 2351, 2423, 2447, 2503, 2539, 2579, 2633, 2767, 2777, 2797, 2803, 2833, 2837, 2879, 2903, 2999, 3167, 3187, 3229, 3343, 3413, 3449, 3461, 3491, 3541, 3581, 3659, 3761, 3767, 3779, 3833, 3853, 3947, 3989, 4013, 4073, 4079, 4127, 4133, 4139, 4153, 4157, 4231, 4253, 4283, 4297, 4457, 4513, 4517, 4547, 4597, 4603, 4679, 4703, 4721, 4723, 4783, 4787, 4793, 4889, 4919, 4957, 4987, 5011, 5077, 5119, 5171, 5179, 5231, 5261, 5273, 5323, 5351, 5381, 5387, 5399, 5449, 5507, 5639, 5641, 5647, 5683, 5693, 5749, 5779, 5783, 5807, 5839, 5879, 5903, 5923, 5927, 5939, 6047, 6079, 6197, 6199, 6229, 6247, 6269, 6277, 6299, 6317, 6367, 6373, 6379, 6421, 6491, 6581, 6619, 6653, 6673, 6719, 6793, 6803, 6827, 6829, 6857, 6863, 6899, 6907, 6911, 6983, 6991, 7079, 7127, 7159, 7187, 7229, 7247, 7333, 7349, 7433, 7457, 7507, 7517, 7523, 7529, 7559, 7577, 7607, 7643, 7717, 7727, 7757, 7759, 7789, 7823, 7877, 7883, 7907, 7919, 7949, 8017, 8147, 8179, 8219, 8243, 8273, 8287, 8291, 8293, 8311, 8329, 8369, 8377, 8387, 8389, 8423, 8461, 8539, 8563, 8599, 8609, 8623, 8627, 8629, 8699, 8707, 8747, 8783, 8819, 8837, 8923, 8951, 8969, 9173, 9203, 9209, 9221, 9227, 9323, 9341, 9343, 9403, 9419, 9497, 9511, 9533, 9587, 9623, 9631, 9677, 9689, 9749, 9787, 9839, 9871, 9887, 9949, 9973, 10009, 10067, 10069, 10079, 10159, 10163, 10181, 10223, 10243, 10247, 10253, 10267, 10273, 10289, 10313, 10331, 10343, 10357, 10391, 10457, 10463, 10487, 10529, 10559, 10567, 10631, 10667, 10691, 10709, 10723, 10733, 10739, 10771, 10799, 10853, 10937, 10939, 10979, 11047, 11057, 11069, 11083, 11093, 11149, 11159, 11213, 11261, 11279, 11299, 11321, 11329, 11351, 11399, 11423, 11443, 11447, 11489, 11491, 11497, 11579, 11657, 11677, 11699, 11801, 11807, 11839, 11863, 11867, 11887, 11897, 11923, 11939, 11959, 11981, 11987, 12037, 12107, 12143, 12149, 12157, 12163, 12197, 12227, 12379, 12391, 12409, 12413, 12457, 12503, 12511, 12539, 12553, 12569, 12583, 12589, 12647, 12659, 12713, 12743, 12757, 12763, 12791, 12823, 12829, 12841, 12889, 12911, 12917, 12919, 12953, 12973, 12983, 13007, 13049, 13099, 13103, 13151, 13163, 13187, 13217, 13219, 13229, 13259, 13297, 13309, 13451, 13513, 13537, 13577, 13649, 13697, 13723, 13759, 13763, 13789, 13799, 13807, 13831, 13841, 13901, 13913, 13963, 13967, 13997, 13999, 14011, 14029, 14083, 14087, 14107, 14159, 14173, 14207, 14243, 14321, 14347, 14387, 14447, 14533, 14633, 14639, 14683, 14699, 14717, 14753, 14759, 14767, 14867, 14869, 14879, 14887, 14923, 14947, 14957, 14983, 15013, 15017, 15031, 15077, 15083, 15173, 15187, 15217]
def S7 : List Nat := [719, 1319, 1439, 1699, 2039, 2083, 2447, 2777, 2803, 2837, 2879, 2999, 3343, 3779, 4079, 4139, 4157, 4253, 4283, 4457, 4517, 4679, 4703, 5179, 5273, 5647, 5807, 6247, 6317, 6379, 6653, 6793, 6827, 6857, 6899, 6983, 7523, 7529, 7559, 7717, 8147, 8329, 8599, 8629, 8923, 9227, 9341, 9587, 9623, 9839, 10067, 10159, 10289, 10343, 10357, 10391, 10463, 10631, 10723, 10771, 10799, 11069, 11213, 11279, 11321, 11489, 11579, 11807, 11863, 11887, 11897, 12143, 12163, 12539, 12757, 12763, 12917, 12919, 12983, 13163, 13187, 13309, 13799, 13967, 14011, 14107, 14159, 14173, 14683, 14699, 14717, 14867, 14887, 15269, 15287, 15413, 15427, 15527, 15647, 15767, 15791, 15797, 15817, 16217, 16487, 16547, 16553, 16603, 16631, 16657, 16691, 16931, 16981, 17123, 17189, 17257, 17351, 17419, 17657, 17747, 17903, 17939, 17989, 18413, 18443, 18679, 18713, 18839, 19379, 19387, 19433, 19577, 19853, 19949, 19963, 20029, 20063, 20147, 20323, 20327, 20389, 20477, 20479, 20507, 20549, 20627, 20663, 20717, 20947, 21059, 21089, 21247, 21383, 21419, 21467, 21487, 21503, 21599, 21863, 22259, 22283, 22567, 22643, 22669, 22697, 22859, 23117, 23159, 23357, 23399, 23603, 23743, 23773, 23879, 23993, 24107, 24317, 24413, 24439, 24469, 24509, 24763, 24799, 24917, 24919, 24943, 24989, 25031, 25183, 25189, 25219, 25391, 25469, 25471, 25583, 25679, 25693, 25849, 25903, 26099, 26153, 26459, 26693, 26737, 26903, 27067, 27103, 27283, 27299, 27527, 27583, 27617, 27689, 27803, 27827, 27851, 28031, 28069, 28219, 28319, 28547, 28643, 28649, 28661, 28723, 28759, 28867, 29077, 29333, 29387, 29399, 29741, 29759, 30029, 30089, 30113, 30137, 30347, 30469]
def S8 : List Nat := [1439, 2879, 4079, 7559, 8629, 10067, 11213, 13799, 13967, 14683, 17257, 19577, 20147, 20389, 20717, 21599, 22643, 22697, 23159, 23743, 23993, 24469, 24943, 24989, 25903, 27103, 28031, 28219, 28319, 28547, 29399, 30539, 30869, 31583, 31657, 32633, 33107, 33113, 33317, 33329, 33637, 33863, 34259, 34513, 34537, 34549, 34703, 34843, 35879, 35951, 36137, 36887, 37379, 37483, 38867, 39719, 40127, 40637, 40759, 41143, 42179, 42209, 42767, 42839, 44519, 44579, 45139, 45827, 46049, 46457, 47207, 48883, 49019, 49669, 49993, 50123, 50971, 51769, 52919, 54617, 55399, 55541, 56149, 56437, 57107, 57287, 57947, 58199, 58733, 59981, 60397]
def S9 : List Nat := [2879, 20147, 25903, 32633, 34537, 34549, 46049, 57107, 58733, 63317, 65267, 69029, 69073, 74759, 80537, 86291, 86341, 86371, 90709, 103549, 103613, 106487, 108413, 112877, 119963, 120877, 120919]
def S10 : List Nat := [34549, 65267, 86371, 103613, 120919, 138059, 138197, 149519, 172583, 172741, 207227, 224563]
def S11 : List Nat := [138197, 207227]
def S12 : List Nat := []
theorem in2 : ∀ q, Chain 2 q → q ≤ 953 → q ∈ S2 := fun q h hB => by
  have qo := chain_odd (k := 0) h
  have ok : ((List.range 476).all fun j => compF 600 (2 * (j + 1) + 1) 3 || S2.contains (2 * (j + 1) + 1)) = true := by decide +kernel
  have hp := h.1
  have h2 := hp.1
  have h3 := List.all_eq_true.mp ok ((q - 3) / 2) (List.mem_range.mpr (by omega))
  rw [show 2 * ((q - 3) / 2 + 1) + 1 = q by omega, compF_no hp (by decide), Bool.false_or] at h3
  exact List.contains_iff_mem.mp h3
theorem in3 : ∀ q, Chain 3 q → q ≤ 1907 → q ∈ S3 := fun q h hB => step_in (k := 0) (B := 1907) (S := S2) (by decide +kernel) (fun r hr hb => in2 r hr (by omega)) h hB
theorem in4 : ∀ q, Chain 4 q → q ≤ 3814 → q ∈ S4 := fun q h hB => step_in (k := 1) (B := 3814) (S := S3) (by decide +kernel) (fun r hr hb => in3 r hr (by omega)) h hB
theorem in5 : ∀ q, Chain 5 q → q ≤ 7629 → q ∈ S5 := fun q h hB => step_in (k := 2) (B := 7629) (S := S4) (by decide +kernel) (fun r hr hb => in4 r hr (by omega)) h hB
theorem in6 : ∀ q, Chain 6 q → q ≤ 15258 → q ∈ S6 := fun q h hB => step_in (k := 3) (B := 15258) (S := S5) (by decide +kernel) (fun r hr hb => in5 r hr (by omega)) h hB
theorem in7 : ∀ q, Chain 7 q → q ≤ 30517 → q ∈ S7 := fun q h hB => step_in (k := 4) (B := 30517) (S := S6) (by decide +kernel) (fun r hr hb => in6 r hr (by omega)) h hB
theorem in8 : ∀ q, Chain 8 q → q ≤ 61035 → q ∈ S8 := fun q h hB => step_in (k := 5) (B := 61035) (S := S7) (by decide +kernel) (fun r hr hb => in7 r hr (by omega)) h hB
theorem in9 : ∀ q, Chain 9 q → q ≤ 122070 → q ∈ S9 := fun q h hB => step_in (k := 6) (B := 122070) (S := S8) (by decide +kernel) (fun r hr hb => in8 r hr (by omega)) h hB
theorem in10 : ∀ q, Chain 10 q → q ≤ 244140 → q ∈ S10 := fun q h hB => step_in (k := 7) (B := 244140) (S := S9) (by decide +kernel) (fun r hr hb => in9 r hr (by omega)) h hB
theorem in11 : ∀ q, Chain 11 q → q ≤ 488281 → q ∈ S11 := fun q h hB => step_in (k := 8) (B := 488281) (S := S10) (by decide +kernel) (fun r hr hb => in10 r hr (by omega)) h hB
theorem in12 : ∀ q, Chain 12 q → q ≤ 976562 → q ∈ S12 := fun q h hB => step_in (k := 9) (B := 976562) (S := S11) (by decide +kernel) (fun r hr hb => in11 r hr (by omega)) h hB
theorem chain12 {p : Nat} (h : Chain 12 p) : 976563 ≤ p := by
  rcases Nat.lt_or_ge p 976563 with z | z
  · exact absurd (in12 p h (by omega)) (by simp [S12])
  · exact z
theorem chain_more {N : Nat} (h12 : ∀ p, Chain 12 p → N ≤ p) : ∀ (j : Nat) {p : Nat}, Chain (12 + j) p → 2 ^ j * N ≤ p
  | 0, p, h => by rw [Nat.pow_zero, Nat.one_mul]; exact h12 p h
  | j + 1, p, h => by
    rcases h.2 with z | ⟨q, hq, hc⟩
    · exact absurd z (by show ¬ (12 + j = 0); omega)
    · have ih : 2 ^ j * N ≤ q := chain_more h12 j hc
      obtain ⟨i, hi⟩ := chain_two (k := 11 + j) (by rw [show 11 + j + 2 = 12 + (j + 1) by omega]; exact h) hq (by rw [show 11 + j + 1 = 12 + j by omega]; exact hc) (chain_odd (k := 10 + j) (by rw [show 10 + j + 2 = 12 + j by omega]; exact hc))
      have h1 : 2 * q ≤ 2 * (i + 1) * q := Nat.mul_le_mul_right q (by omega)
      have h3 : 2 * q ≤ p := by rw [hi]; exact Nat.le_succ_of_le h1
      rw [Nat.pow_succ, Nat.mul_comm (2 ^ j) 2, Nat.mul_assoc]
      exact Nat.le_trans (Nat.mul_le_mul_left 2 ih) h3
theorem chain22 {p : Nat} (hp : p ≤ 1000000000) : ¬ Chain 22 p := fun h => by
  have h1 := chain_more (N := 976563) (fun p h => chain12 h) 10 (p := p) h
  have h2 : 2 ^ 10 * 976563 = 1000000512 := by decide +kernel
  rw [h2] at h1
  omega
/-- a parting is one alone -/
theorem fac_split {E : Nat} {l : List (Nat × Nat)} (hl : IsFac E l) {x : Nat × Nat} (hx : x ∈ l) : ∃ m, E = x.1 ^ x.2 * m ∧ ¬ x.1 ∣ m ∧ 0 < m := by
  obtain ⟨j, hj⟩ := List.getElem?_of_mem hx
  have hq := (hl.primes x hx).1
  have hil : j < l.length := (List.getElem?_eq_some_iff.mp hj).1
  have hxe : l[j] = x := (List.getElem?_eq_some_iff.mp hj).2
  have hd : l.drop j = x :: l.drop (j + 1) := by rw [List.drop_eq_getElem_cons hil, hxe]
  have hsp : l = l.take j ++ x :: l.drop (j + 1) := by rw [← hd, List.take_append_drop]
  have hso := hl.sorted
  rw [hsp] at hso
  have hso' := List.pairwise_append.mp hso
  have p1 : ∀ y ∈ l.take j, Prime y.1 := fun y hy => (hl.primes y (List.mem_of_mem_take hy)).1
  have p2 : ∀ y ∈ l.drop (j + 1), Prime y.1 := fun y hy => (hl.primes y (List.mem_of_mem_drop hy)).1
  refine ⟨prodL (l.take j) * prodL (l.drop (j + 1)), ?_, fun z => ?_, Nat.mul_pos (prodL_pos p1) (prodL_pos p2)⟩
  · rw [← hl.prod]
    conv => lhs; rw [hsp]
    rw [prodL_app]; simp only [prodL]; grind
  · rcases hq.dvd_mul z with z | z
    · obtain ⟨k, hk⟩ := prime_in' hq p1 z
      have h1 := hso'.2.2 _ hk x (by simp)
      have h2 : x.1 < x.1 := h1
      omega
    · obtain ⟨k, hk⟩ := prime_in' hq p2 z
      have h1 := (List.pairwise_cons.mp hso'.2.1).1 _ hk
      have h2 : x.1 < x.1 := h1
      omega
theorem fac_vq {E : Nat} {l : List (Nat × Nat)} (hl : IsFac E l) {x : Nat × Nat} (hx : x ∈ l) : x.2 = vq x.1 E := by
  obtain ⟨m, e, h1, h2⟩ := fac_split hl hx
  rw [e, vq_eq (hl.primes x hx).1.1 h1 h2]
theorem fac_mem_iff {E : Nat} {l : List (Nat × Nat)} (hl : IsFac E l) (x : Nat × Nat) : x ∈ l ↔ Prime x.1 ∧ x.1 ∣ E ∧ x.2 = vq x.1 E := by
  constructor
  · intro hx
    exact ⟨(hl.primes x hx).1, fac_dvd hl hx, fac_vq hl hx⟩
  · rintro ⟨h1, h2, h3⟩
    obtain ⟨k, hk⟩ := fac_prime_in hl h1 h2
    have := fac_vq hl hk
    have this' : k = vq x.1 E := this
    have e : x = (x.1, k) := by
      show (x.1, x.2) = (x.1, k)
      rw [h3, this']
    rw [e]; exact hk
theorem pairs_ext : ∀ {xs ys : List (Nat × Nat)}, xs.Pairwise (fun a b => a.1 < b.1) → ys.Pairwise (fun a b => a.1 < b.1) → (∀ y, y ∈ xs ↔ y ∈ ys) → xs = ys
  | [], [], _, _, _ => rfl
  | [], y :: ys, _, _, h => absurd ((h y).mpr (by simp)) (by simp)
  | x :: xs, [], _, _, h => absurd ((h x).mp (by simp)) (by simp)
  | x :: xs, y :: ys, hx, hy, h => by
    have hx' := List.pairwise_cons.mp hx
    have hy' := List.pairwise_cons.mp hy
    have e : x = y := by
      rcases List.mem_cons.mp ((h x).mp (by simp)) with z | z
      · exact z
      · rcases List.mem_cons.mp ((h y).mpr (by simp)) with w | w
        · exact w.symm
        · have := hx'.1 y w
          have := hy'.1 x z
          omega
    subst e
    congr 1
    refine pairs_ext hx'.2 hy'.2 fun y => ⟨fun m => ?_, fun m => ?_⟩
    · rcases List.mem_cons.mp ((h y).mp (by simp [m])) with z | z
      · have := hx'.1 y m
        rw [z] at this; omega
      · exact z
    · rcases List.mem_cons.mp ((h y).mpr (by simp [m])) with z | z
      · have := hy'.1 y m
        rw [z] at this; omega
      · exact z
theorem fac_unique {E : Nat} {l l' : List (Nat × Nat)} (h : IsFac E l) (h' : IsFac E l') : l = l' := pairs_ext h.sorted h'.sorted fun x => (fac_mem_iff h x).trans (fac_mem_iff h' x).symm
theorem full_unique {p f f' : Nat} (h : LeastFull p f) (h' : LeastFull p f') : f = f' := by
  rcases Nat.lt_trichotomy f f' with w | w | w
  · exact absurd h.full (h'.least f h.f0 w)
  · exact w
  · exact absurd h'.full (h.least f' h'.f0 w)
end M

/-! the divisors of a number by its parting, and how many numbers are coprime -/
namespace M
/-- all numbers times the powers of q up to q ^ m -/
def grow (found : List Nat) (q : Nat) : Nat → List Nat
  | 0 => found
  | m + 1 => grow found q m ++ found.map (· * q ^ (m + 1))
def divL (found : List Nat) : List (Nat × Nat) → List Nat
  | [] => found
  | x :: l => divL (grow found x.1 x.2) l
theorem divL_app (found : List Nat) (l m : List (Nat × Nat)) : divL found (l ++ m) = divL (divL found l) m := by
  induction l generalizing found with
  | nil => rfl
  | cons x l ih => exact ih _
/-- how many numbers below q ^ t have no divisor with it -/
def fi (q t : Nat) : Nat := if t = 0 then 1 else (q - 1) * q ^ (t - 1)
def phiV (L : List (Nat × Nat)) (d : Nat) : Nat := match L with
  | [] => 1
  | x :: L => fi x.1 (vq x.1 d) * phiV L d
def phiL : List (Nat × Nat) → Nat
  | [] => 1
  | x :: l => (x.1 - 1) * x.1 ^ (x.2 - 1) * phiL l
theorem phiV_app (L M : List (Nat × Nat)) (d : Nat) : phiV (L ++ M) d = phiV L d * phiV M d := by
  induction L with
  | nil => simp [phiV]
  | cons x L ih => simp only [List.cons_append, phiV, ih, Nat.mul_assoc]
theorem phiL_app (l m : List (Nat × Nat)) : phiL (l ++ m) = phiL l * phiL m := by
  induction l with
  | nil => simp [phiL]
  | cons x L ih => simp only [List.cons_append, phiL, ih, Nat.mul_assoc]
theorem grow_mem {found : List Nat} {q m d : Nat} : d ∈ grow found q m ↔ ∃ e k, e ∈ found ∧ k ≤ m ∧ d = e * q ^ k := by
  induction m with
  | zero =>
    constructor
    · exact fun h => ⟨d, 0, h, Nat.le_refl _, by simp⟩
    · rintro ⟨e, k, h, hk, rfl⟩
      have : k = 0 := by omega
      subst this
      simpa [grow] using h
  | succ m ih =>
    simp only [grow, List.mem_append, ih, List.mem_map]
    constructor
    · rintro (⟨e, k, h, hk, rfl⟩ | ⟨e, h, rfl⟩)
      · exact ⟨e, k, h, by omega, rfl⟩
      · exact ⟨e, m + 1, h, Nat.le_refl _, rfl⟩
    · rintro ⟨e, k, h, hk, rfl⟩
      rcases Nat.lt_or_ge m k with z | z
      · have : k = m + 1 := by omega
        subst this
        exact .inr ⟨e, h, rfl⟩
      · exact .inl ⟨e, k, h, z, rfl⟩
theorem grow_len (found : List Nat) (q m : Nat) : (grow found q m).length = found.length * (m + 1) := by
  induction m with
  | zero => simp [grow]
  | succ m ih => simp only [grow, List.length_append, List.length_map, ih]; grind
theorem vq_mul_off {q e c : Nat} (hq : Prime q) (he : 0 < e) (hc : ¬ q ∣ c) : vq q (e * c) = vq q e := by
  obtain ⟨m, e1, h1, h2⟩ := vq_split hq he
  have c0 : 0 < c := Nat.pos_of_ne_zero fun z => hc (by rw [z]; exact Nat.dvd_zero _)
  have h3 : e * c = q ^ vq q e * (m * c) := by
    conv => lhs; rw [e1]
    exact Nat.mul_assoc _ _ _
  rw [h3]
  exact vq_eq hq.1 (fun z => (hq.dvd_mul z).elim h1 hc) (Nat.mul_pos h2 c0) _
theorem not_dvd_pow {q r k : Nat} (hq : Prime q) (hr : Prime r) (h : q ≠ r) : ¬ q ∣ r ^ k := fun z => h (hq.eq_of_dvd hr (hq.dvd_pow z))
/-- the divisors found so far -/
structure Divs (n : Nat) (found : List Nat) : Prop where
  mem : ∀ d, d ∈ found ↔ d ∣ n
  nd : found.Pairwise (· ≠ ·)
theorem divs_one : Divs 1 [1] := ⟨fun d => by simp, List.pairwise_singleton _ _⟩
theorem grow_nd {found : List Nat} {q : Nat} (hq : Prime q) (hf : ∀ d ∈ found, 0 < d ∧ ¬ q ∣ d) (nd : found.Pairwise (· ≠ ·)) : ∀ m, (grow found q m).Pairwise (· ≠ ·)
  | 0 => nd
  | m + 1 => by
    refine List.pairwise_append.mpr ⟨grow_nd hq hf nd m, ?_, fun x hx y hy => ?_⟩
    · rw [List.pairwise_map]
      exact nd.imp fun z w => z (Nat.eq_of_mul_eq_mul_right (Nat.pow_pos hq.pos) w)
    · obtain ⟨e, k, h1, h2, rfl⟩ := grow_mem.mp hx
      obtain ⟨e', h3, rfl⟩ := List.mem_map.mp hy
      intro z
      have h4 := vq_eq hq.1 (hf e h1).2 (hf e h1).1 k
      have h5 := vq_eq hq.1 (hf e' h3).2 (hf e' h3).1 (m + 1)
      rw [Nat.mul_comm] at h4 h5
      have h6 : e * q ^ k = e' * q ^ (m + 1) := z
      rw [h6] at h4
      omega
theorem divs_grow {n q m : Nat} {found : List Nat} (h : Divs n found) (n0 : 0 < n) (hq : Prime q) (hn : ¬ q ∣ n) : Divs (n * q ^ m) (grow found q m) := by
  have hf : ∀ d ∈ found, 0 < d ∧ ¬ q ∣ d := fun d hd => by
    have h1 := (h.mem d).mp hd
    exact ⟨Nat.pos_of_dvd_of_pos h1 n0, fun z => hn (Nat.dvd_trans z h1)⟩
  refine ⟨fun d => ?_, grow_nd hq hf h.nd m⟩
  rw [grow_mem]
  constructor
  · rintro ⟨e, k, h1, h2, rfl⟩
    exact Nat.mul_dvd_mul ((h.mem e).mp h1) (Nat.pow_dvd_pow q h2)
  · intro hd
    have d0 : 0 < d := Nat.pos_of_dvd_of_pos hd (Nat.mul_pos n0 (Nat.pow_pos hq.pos))
    obtain ⟨c, e1, h1, h2⟩ := vq_split hq d0
    rw [e1, Nat.mul_comm n] at hd
    obtain ⟨h3, h4⟩ := (pow_split hq hn h1).mp hd
    exact ⟨c, vq q d, (h.mem c).mpr h4, h3, by rw [Nat.mul_comm]; exact e1⟩
/-- behind the first rows of a parting -/
theorem divs_take {n : Nat} {l : List (Nat × Nat)} (hl : IsFac n l) : ∀ i, i ≤ l.length → Divs (prodL (l.take i)) (divL [1] (l.take i)) ∧ 0 < prodL (l.take i) := by
  intro i
  induction i with
  | zero => intro _; exact ⟨by simpa [prodL, divL] using divs_one, by simp [prodL]⟩
  | succ i ih =>
    intro hi
    obtain ⟨h, h0⟩ := ih (by omega)
    obtain ⟨⟨q, m⟩, hx⟩ : ∃ x, l[i]? = some x := ⟨_, List.getElem?_eq_getElem (by omega)⟩
    have et : l.take (i + 1) = l.take i ++ [(q, m)] := by rw [List.take_add_one, hx]; rfl
    have hq := (hl.primes _ (List.mem_of_getElem? hx)).1
    have hno : ¬ q ∣ prodL (l.take i) := fun z => by
      obtain ⟨k, hk⟩ := prime_in' hq (fun x hx => (hl.primes x (List.mem_of_mem_take hx)).1) z
      have hs := hl.sorted
      rw [← List.take_append_drop (i + 1) l, et] at hs
      have h1 := (List.pairwise_append.mp (List.pairwise_append.mp hs).1).2.2 _ hk (q, m) (by simp)
      exact Nat.lt_irrefl _ h1
    rw [et, prodL_app, divL_app]
    refine ⟨?_, Nat.mul_pos h0 (by simp [prodL]; exact Nat.pow_pos hq.pos)⟩
    have h1 := divs_grow (m := m) h h0 hq hno
    simpa [prodL, divL] using h1
theorem divs_all {n : Nat} {l : List (Nat × Nat)} (hl : IsFac n l) : Divs n (divL [1] l) := by
  have h := (divs_take hl l.length (Nat.le_refl _)).1
  rw [List.take_length, hl.prod] at h
  exact h
def manyL : List (Nat × Nat) → Nat
  | [] => 1
  | x :: l => (x.2 + 1) * manyL l
theorem manyL_app (l m : List (Nat × Nat)) : manyL (l ++ m) = manyL l * manyL m := by
  induction l with
  | nil => simp [manyL]
  | cons x l ih => simp only [List.cons_append, manyL, ih, Nat.mul_assoc]
theorem divL_len (found : List Nat) (l : List (Nat × Nat)) : (divL found l).length = found.length * manyL l := by
  induction l generalizing found with
  | nil => simp [divL, manyL]
  | cons x l ih => rw [divL, ih, grow_len, manyL, Nat.mul_assoc]
theorem cube_le : ∀ k : Nat, (k + 1) ^ 3 ≤ 2 * 4 ^ k
  | 0 => by decide
  | 1 => by decide
  | 2 => by decide
  | k + 3 => by
    have ih := cube_le (k + 2)
    have h1 : (k + 3 + 1) ^ 3 ≤ 4 * (k + 2 + 1) ^ 3 := by grind
    have h2 : 4 ^ (k + 3) = 4 * 4 ^ (k + 2) := by rw [Nat.pow_succ]; omega
    omega
theorem many_le3 {l : List (Nat × Nat)} (h : ∀ x ∈ l, 3 ≤ x.1) : manyL l ^ 3 ≤ prodL l ^ 2 := by
  induction l with
  | nil => simp [manyL, prodL]
  | cons x l ih =>
    have ih' := ih fun y hy => h y (by simp [hy])
    have hx := h x (by simp)
    have h1 : x.2 + 1 ≤ 2 ^ x.2 := Nat.lt_two_pow_self
    have h2 : (x.2 + 1) ^ 3 ≤ (2 ^ x.2) ^ 3 := Nat.pow_le_pow_left h1 3
    have h3 : ((2 : Nat) ^ x.2) ^ 3 = 8 ^ x.2 := by rw [← Nat.pow_mul, Nat.mul_comm, Nat.pow_mul]
    have h4 : (x.1 ^ x.2) ^ 2 = (x.1 ^ 2) ^ x.2 := by rw [← Nat.pow_mul, Nat.mul_comm, Nat.pow_mul]
    have h5 : 8 ≤ x.1 ^ 2 := by
      have : 3 ^ 2 ≤ x.1 ^ 2 := Nat.pow_le_pow_left hx 2
      omega
    have h6 : 8 ^ x.2 ≤ (x.1 ^ 2) ^ x.2 := Nat.pow_le_pow_left h5 _
    simp only [manyL, prodL, Nat.mul_pow]
    exact Nat.mul_le_mul (by rw [h4]; omega) ih'
theorem many_le {n : Nat} {l : List (Nat × Nat)} (hl : IsFac n l) : manyL l ^ 3 ≤ 2 * n ^ 2 := by
  have hp := hl.prod
  have hs := hl.sorted
  have hq := hl.primes
  cases l with
  | nil =>
    simp only [prodL] at hp
    subst hp
    simp [manyL]
  | cons x l =>
    have hs' := List.pairwise_cons.mp hs
    have hx := (hq x (by simp)).1.1
    have h3 := many_le3 (l := l) fun y hy => by have := hs'.1 y hy; omega
    have h1 := cube_le x.2
    have h4 : (x.1 ^ x.2) ^ 2 = (x.1 ^ 2) ^ x.2 := by rw [← Nat.pow_mul, Nat.mul_comm, Nat.pow_mul]
    have h5 : 4 ≤ x.1 ^ 2 := by
      have : 2 ^ 2 ≤ x.1 ^ 2 := Nat.pow_le_pow_left hx 2
      omega
    have h6 : 4 ^ x.2 ≤ (x.1 ^ 2) ^ x.2 := Nat.pow_le_pow_left h5 _
    rw [← hp]
    simp only [manyL, prodL, Nat.mul_pow]
    rw [← Nat.mul_assoc]
    exact Nat.mul_le_mul (by rw [h4]; omega) h3
theorem many_line {n : Nat} {l : List (Nat × Nat)} (hl : IsFac n l) (hn : n ≤ 1000000000) : manyL l ≤ 2000000 := by
  rcases Nat.lt_or_ge 2000000 (manyL l) with z | z
  · exfalso
    have h1 := many_le hl
    have h2 : n ^ 2 ≤ 1000000000 ^ 2 := Nat.pow_le_pow_left hn 2
    have h3 : 2000000 ^ 3 ≤ manyL l ^ 3 := Nat.pow_le_pow_left (by omega) 3
    have h4 : (2000000 : Nat) ^ 3 = 8000000000000000000 := by decide
    have h5 : (1000000000 : Nat) ^ 2 = 1000000000000000000 := by decide
    omega
  · exact z
/-- the sum of how many are coprime, over all divisors -/
theorem fi_sum {q : Nat} (hq : 2 ≤ q) : ∀ m, ((List.range (m + 1)).map (fi q)).sum = q ^ m
  | 0 => by simp [fi]
  | m + 1 => by
    rw [List.range_succ, List.map_append, List.sum_append, fi_sum hq m]
    simp only [List.map_cons, List.map_nil, List.sum_cons, List.sum_nil, fi]
    rw [if_neg (by omega), Nat.add_sub_cancel, Nat.pow_succ]
    obtain ⟨r, rfl⟩ : ∃ r, q = r + 1 := ⟨q - 1, by omega⟩
    rw [Nat.add_sub_cancel]
    grind
theorem sum_map_mul (F : Nat → Nat) (c : Nat) (l : List Nat) : (l.map fun e => F e * c).sum = (l.map F).sum * c := by
  induction l with
  | nil => simp
  | cons x l ih => simp only [List.map_cons, List.sum_cons, ih, Nat.add_mul]
theorem grow_sum {F : Nat → Nat} {found : List Nat} {q : Nat} (h : ∀ e ∈ found, ∀ k, F (e * q ^ k) = F e * fi q k) : ∀ m, ((grow found q m).map F).sum = (found.map F).sum * ((List.range (m + 1)).map (fi q)).sum
  | 0 => by simp [grow, fi]
  | m + 1 => by
    rw [List.range_succ, List.map_append, List.sum_append, grow, List.map_append, List.sum_append, grow_sum h m, List.map_map, Nat.mul_add]
    congr 1
    simp only [List.map_cons, List.map_nil, List.sum_cons, List.sum_nil, Nat.add_zero]
    rw [← sum_map_mul]
    congr 1
    exact List.map_congr_left fun e he => h e he (m + 1)
theorem phiV_off {q : Nat} (hq : Prime q) : ∀ {L : List (Nat × Nat)} {e : Nat}, (∀ x ∈ L, Prime x.1 ∧ x.1 ≠ q) → 0 < e → ∀ k, phiV L (e * q ^ k) = phiV L e
  | [], _, _, _, _ => rfl
  | x :: L, e, h, he, k => by
    simp only [phiV]
    rw [vq_mul_off (h x (by simp)).1 he (not_dvd_pow (h x (by simp)).1 hq (h x (by simp)).2), phiV_off hq (fun y hy => h y (by simp [hy])) he k]
theorem phi_sum_take {n : Nat} {l : List (Nat × Nat)} (hl : IsFac n l) : ∀ i, i ≤ l.length → ((divL [1] (l.take i)).map (phiV l)).sum = prodL (l.take i) := by
  intro i
  induction i with
  | zero =>
    intro _
    have key : ∀ L : List (Nat × Nat), (∀ x ∈ L, Prime x.1) → phiV L 1 = 1 := by
      intro L
      induction L with
      | nil => intro _; rfl
      | cons x L ih =>
        intro h
        have h1 : vq x.1 1 = 0 := vq_no fun z => by
          have := (h x (by simp)).1
          have h2 := z.2.2
          rw [Nat.mod_eq_of_lt (by omega)] at h2
          omega
        simp only [phiV, ih fun y hy => h y (by simp [hy]), h1, fi]
        simp
    simp [divL, prodL, key l fun x hx => (hl.primes x hx).1]
  | succ i ih =>
    intro hi
    have ih' := ih (by omega)
    obtain ⟨hd, h0⟩ := divs_take hl i (by omega)
    obtain ⟨⟨q, m⟩, hx⟩ : ∃ x, l[i]? = some x := ⟨_, List.getElem?_eq_getElem (by omega)⟩
    have et : l.take (i + 1) = l.take i ++ [(q, m)] := by rw [List.take_add_one, hx]; rfl
    have hq := (hl.primes _ (List.mem_of_getElem? hx)).1
    have hsplit : l = l.take i ++ (q, m) :: l.drop (i + 1) := by
      conv => lhs; rw [← List.take_append_drop (i + 1) l, et]
      simp
    have hs := hl.sorted
    rw [hsplit] at hs
    obtain ⟨_, hs2, hs3⟩ := List.pairwise_append.mp hs
    have hs4 := (List.pairwise_cons.mp hs2).1
    have hA : ∀ x ∈ l.take i, Prime x.1 ∧ x.1 ≠ q := fun x hx => ⟨(hl.primes x (List.mem_of_mem_take hx)).1, by
      have h1 : x.1 < q := hs3 x hx (q, m) (by simp)
      omega⟩
    have hB : ∀ x ∈ l.drop (i + 1), Prime x.1 ∧ x.1 ≠ q := fun x hx => ⟨(hl.primes x (List.mem_of_mem_drop hx)).1, by
      have h1 : q < x.1 := hs4 x hx
      omega⟩
    have hno : ¬ q ∣ prodL (l.take i) := fun z => by
      obtain ⟨k, hk⟩ := prime_in' hq (fun x hx => (hA x hx).1) z
      exact (hA _ hk).2 rfl
    rw [et, prodL_app, divL_app]
    show ((grow (divL [1] (l.take i)) q m).map (phiV l)).sum = _
    rw [grow_sum (F := phiV l) (fun e he k => ?_) m, ih', fi_sum hq.1]
    · simp [prodL]
    · have h1 := (hd.mem e).mp he
      have e0 : 0 < e := Nat.pos_of_dvd_of_pos h1 h0
      have hqe : ¬ q ∣ e := fun z => hno (Nat.dvd_trans z h1)
      have h2 : vq q (e * q ^ k) = k := by rw [Nat.mul_comm]; exact vq_eq hq.1 hqe e0 k
      have h3 : vq q e = 0 := vq_no fun z => hqe (Nat.dvd_of_mod_eq_zero z.2.2)
      have hL : ∀ d, phiV l d = phiV (l.take i) d * (fi q (vq q d) * phiV (l.drop (i + 1)) d) := fun d => by
        conv => lhs; rw [hsplit, phiV_app]
        rfl
      rw [hL, hL e, phiV_off hq hA e0, phiV_off hq hB e0, h2, h3]
      have h4 : fi q 0 = 1 := rfl
      rw [h4]
      grind
theorem phi_sum {n : Nat} {l : List (Nat × Nat)} (hl : IsFac n l) : ((divL [1] l).map (phiV l)).sum = n := by
  have h := phi_sum_take hl l.length (Nat.le_refl _)
  rw [List.take_length, hl.prod] at h
  exact h
/-- the parting of d within l -/
def within (l : List (Nat × Nat)) (d : Nat) : List (Nat × Nat) := (vL d l).filter fun x => decide (0 < x.2)
theorem within_prod (l : List (Nat × Nat)) (d : Nat) : prodL (within l d) = prodL (vL d l) := by
  unfold within
  induction vL d l with
  | nil => rfl
  | cons x L ih =>
    by_cases c : 0 < x.2
    · rw [List.filter_cons_of_pos (by simpa using c)]
      simp only [prodL, ih]
    · rw [List.filter_cons_of_neg (by simpa using c), ih]
      have : x.2 = 0 := by omega
      simp [prodL, this]
theorem within_phi (l : List (Nat × Nat)) (d : Nat) : phiL (within l d) = phiV l d := by
  unfold within
  induction l with
  | nil => rfl
  | cons x L ih =>
    show phiL (((x.1, vq x.1 d) :: vL d L).filter _) = _
    by_cases c : 0 < vq x.1 d
    · rw [List.filter_cons_of_pos (by simpa using c)]
      simp only [phiL, phiV, ih, fi]
      rw [if_neg (by omega)]
    · rw [List.filter_cons_of_neg (by simpa using c), ih]
      have : vq x.1 d = 0 := by omega
      simp [phiV, this, fi]
theorem vL_full {n d : Nat} {l : List (Nat × Nat)} (hl : IsFac n l) (d0 : 0 < d) (hd : d ∣ n) : prodL (vL d l) = d := by
  have key : ∀ i, i ≤ l.length → ∃ e, OF d n l i e := by
    intro i
    induction i with
    | zero => exact fun _ => ⟨n, of_start hl hd⟩
    | succ i ih =>
      intro hi
      obtain ⟨e, he⟩ := ih (by omega)
      have hx : l[i]? = some (l[i]'(by omega)) := List.getElem?_eq_getElem (by omega)
      obtain ⟨m, _, _, _, _, _, h⟩ := of_step hl d0 he (q := (l[i]'(by omega)).1) (b := (l[i]'(by omega)).2) hx
      exact ⟨_, h⟩
  obtain ⟨e, he⟩ := key _ (Nat.le_refl _)
  have h2 := of_end hl d0 he
  have h3 := he.val
  rw [List.take_length, List.drop_length] at h3
  simp only [prodL, Nat.mul_one] at h3
  omega
theorem within_fac {n d : Nat} {l : List (Nat × Nat)} (hl : IsFac n l) (d0 : 0 < d) (hd : d ∣ n) : IsFac d (within l d) := by
  refine ⟨?_, fun x hx => ?_, by rw [within_prod, vL_full hl d0 hd]⟩
  · have h := hl.sorted
    unfold within vL
    refine List.Pairwise.filter _ ?_
    rw [List.pairwise_map]
    exact h
  · obtain ⟨h1, h2⟩ := List.mem_filter.mp hx
    obtain ⟨y, hy, rfl⟩ := List.mem_map.mp h1
    exact ⟨(hl.primes y hy).1, by simpa using h2⟩
end M

/-! how many primes a number has -/
namespace M
def asc : Nat → Nat → Nat
  | _, 0 => 1
  | c, n + 1 => c * asc (c + 1) n
theorem asc_le : ∀ {l : List (Nat × Nat)} {c : Nat}, l.Pairwise (fun x y => x.1 < y.1) → (∀ x ∈ l, c ≤ x.1 ∧ 0 < x.1 ∧ 0 < x.2) → asc c l.length ≤ prodL l
  | [], _, _, _ => Nat.le_refl _
  | x :: l, c, srt, h => by
    have s := List.pairwise_cons.mp srt
    obtain ⟨h1, h0, h2⟩ := h x (by simp)
    have ih := asc_le (c := c + 1) s.2 fun y hy => ⟨by have := s.1 y hy; omega, (h y (by simp [hy])).2.1, (h y (by simp [hy])).2.2⟩
    show c * asc (c + 1) l.length ≤ x.1 ^ x.2 * prodL l
    refine Nat.mul_le_mul (Nat.le_trans h1 ?_) ih
    have := Nat.pow_le_pow_right h0 h2
    rwa [Nat.pow_one] at this
theorem nprimes {n : Nat} {l : List (Nat × Nat)} (hl : IsFac n l) (hn : n ≤ 1000000000) : l.length ≤ 11 := by
  have h := asc_le (c := 2) hl.sorted fun x hx => ⟨(hl.primes x hx).1.1, (hl.primes x hx).1.pos, (hl.primes x hx).2⟩
  rw [hl.prod] at h
  rcases Nat.lt_or_ge 11 l.length with z | z
  · exfalso
    have mono : ∀ k c m, k ≤ m → 1 ≤ c → asc c k ≤ asc c m := by
      intro k
      induction k with
      | zero => intro c m _ hc; exact (by
          have pos : ∀ m c, 1 ≤ c → 1 ≤ asc c m := by
            intro m
            induction m with
            | zero => intro c _; exact Nat.le_refl 1
            | succ m ih => intro c hc; exact Nat.mul_pos hc (ih (c + 1) (by omega))
          exact pos m c hc)
      | succ k ih =>
        intro c m hm hc
        obtain ⟨m', rfl⟩ : ∃ m', m = m' + 1 := ⟨m - 1, by omega⟩
        exact Nat.mul_le_mul_left c (ih (c + 1) m' (by omega) (by omega))
    have h2 := mono 12 2 l.length z (by decide)
    have h3 : asc 2 12 = 6227020800 := by decide +kernel
    omega
  · exact z
end M

namespace C
open PySem PySem.Spec PyProof.Rows L2 R

def top (i : Nat) : Stmt := PySem.Challenge.pw_rootprime_k69_whole_roots_by_great_prime.main.body.getD i (.Pass ⟨0, 0, 0, 0⟩)
abbrev FnP (K : PySem.W.Frag) (x : Str) (st : Stmt) (f : Addr) (fd : FuncData) : Prop := FunD K x x (defArgs st) (defBody st) (defScope st) [] [] f fd
abbrev s_taken : Stmt := top 5
abbrev N_taken : List Str := ["q", "many", "found", "k"]
theorem sc_taken : FnScope N_taken ["q", "many"] (defScope s_taken) := ⟨rfl, rfl, rfl, by decide +kernel, rfl, by decide +kernel, by decide +kernel⟩
abbrev s_divisor : Stmt := top 7
abbrev N_divisor : List Str := ["a", "b", "g", "u", "v", "rest", "x", "y", "times"]
theorem sc_divisor : FnScope N_divisor ["a", "b"] (defScope s_divisor) := ⟨rfl, rfl, rfl, by decide +kernel, rfl, by decide +kernel, by decide +kernel⟩
abbrev s_inverse : Stmt := top 8
abbrev N_inverse : List Str := ["n", "a", "g", "u", "v"]
theorem sc_inverse : FnScope N_inverse ["n", "a"] (defScope s_inverse) := ⟨rfl, rfl, rfl, by decide +kernel, rfl, by decide +kernel, by decide +kernel⟩
abbrev s_power : Stmt := top 10
abbrev N_power : List Str := ["n", "a", "e", "found", "base"]
theorem sc_power : FnScope N_power ["n", "a", "e"] (defScope s_power) := ⟨rfl, rfl, rfl, by decide +kernel, rfl, by decide +kernel, by decide +kernel⟩
abbrev s_places_by : Stmt := top 13
abbrev N_places_by : List Str := ["p", "w", "q", "found", "here", "place"]
theorem sc_places_by : FnScope N_places_by ["p", "w", "q"] (defScope s_places_by) := ⟨rfl, rfl, rfl, by decide +kernel, rfl, by decide +kernel, by decide +kernel⟩
abbrev s_place_of : Stmt := top 14
abbrev N_place_of : List Str := ["p", "w", "c", "q", "many", "whole", "places", "found", "step", "k", "rest"]
theorem sc_place_of : FnScope N_place_of ["p", "w", "c", "q", "many"] (defScope s_place_of) := ⟨rfl, rfl, rfl, by decide +kernel, rfl, by decide +kernel, by decide +kernel⟩
abbrev s_root_in : Stmt := top 15
abbrev N_root_in : List Str := ["paper", "q", "many", "d", "c", "p", "full", "parts", "whole", "left", "w", "place"]
theorem sc_root_in : FnScope N_root_in ["paper", "q", "many", "d", "c"] (defScope s_root_in) := ⟨rfl, rfl, rfl, by decide +kernel, rfl, by decide +kernel, by decide +kernel⟩
abbrev s_one_root : Stmt := top 16
abbrev N_one_root : List Str := ["paper", "d", "c", "p", "full", "parts", "left", "root", "part", "many", "mine"]
theorem sc_one_root : FnScope N_one_root ["paper", "d", "c"] (defScope s_one_root) := ⟨rfl, rfl, rfl, by decide +kernel, rfl, by decide +kernel, by decide +kernel⟩
abbrev s_turned : Stmt := top 17
abbrev N_turned : List Str := ["p", "root", "turn", "d", "found", "k"]
theorem sc_turned : FnScope N_turned ["p", "root", "turn", "d"] (defScope s_turned) := ⟨rfl, rfl, rfl, by decide +kernel, rfl, by decide +kernel, by decide +kernel⟩
abbrev s_roots : Stmt := top 18
abbrev N_roots : List Str := ["paper", "k", "a", "p", "full", "parts", "d", "e", "rest", "turn", "root", "found"]
theorem sc_roots : FnScope N_roots ["paper", "k", "a"] (defScope s_roots) := ⟨rfl, rfl, rfl, by decide +kernel, rfl, by decide +kernel, by decide +kernel⟩
abbrev s_joined : Stmt := top 20
abbrev N_joined : List Str := ["one", "other", "g", "step", "times", "whole"]
theorem sc_joined : FnScope N_joined ["one", "other"] (defScope s_joined) := ⟨rfl, rfl, rfl, by decide +kernel, rfl, by decide +kernel, by decide +kernel⟩
abbrev s_roots_by : Stmt := top 23
abbrev N_roots_by : List Str := ["paper", "k", "a", "p", "d", "e", "rest"]
theorem sc_roots_by : FnScope N_roots_by ["paper", "k", "a"] (defScope s_roots_by) := ⟨rfl, rfl, rfl, by decide +kernel, rfl, by decide +kernel, by decide +kernel⟩
abbrev s_each_with_each : Stmt := top 24
abbrev N_each_with_each : List Str := ["papers", "lists", "found", "paper", "numbers", "more", "number", "place"]
theorem sc_each_with_each : FnScope N_each_with_each ["papers", "lists"] (defScope s_each_with_each) := ⟨rfl, rfl, rfl, by decide +kernel, rfl, by decide +kernel, by decide +kernel⟩
abbrev s_roots_of : Stmt := top 25
abbrev N_roots_of : List Str := ["papers", "k", "a", "many", "n", "paper", "here", "why", "told", "found", "one"]
theorem sc_roots_of : FnScope N_roots_of ["papers", "k", "a"] (defScope s_roots_of) := ⟨rfl, rfl, rfl, by decide +kernel, rfl, by decide +kernel, by decide +kernel⟩
abbrev s_is_whole : Stmt := top 27
abbrev N_is_whole : List Str := ["thing", "least"]
theorem sc_is_whole : FnScope N_is_whole ["thing", "least"] (defScope s_is_whole) := ⟨rfl, rfl, rfl, by decide +kernel, rfl, by decide +kernel, by decide +kernel⟩
abbrev s_is_row_of : Stmt := top 28
abbrev N_is_row_of : List Str := ["thing", "many"]
theorem sc_is_row_of : FnScope N_is_row_of ["thing", "many"] (defScope s_is_row_of) := ⟨rfl, rfl, rfl, by decide +kernel, rfl, by decide +kernel, by decide +kernel⟩
abbrev s_are_papers : Stmt := top 29
abbrev N_are_papers : List Str := ["things", "many", "last", "thing"]
theorem sc_are_papers : FnScope N_are_papers ["things", "many"] (defScope s_are_papers) := ⟨rfl, rfl, rfl, by decide +kernel, rfl, by decide +kernel, by decide +kernel⟩
abbrev s_comes_to : Stmt := top 30
abbrev N_comes_to : List Str := ["things", "n", "thing", "k"]
theorem sc_comes_to : FnScope N_comes_to ["things", "n"] (defScope s_comes_to) := ⟨rfl, rfl, rfl, by decide +kernel, rfl, by decide +kernel, by decide +kernel⟩
abbrev s_is_parting_paper : Stmt := top 31
abbrev N_is_parting_paper : List Str := ["n", "thing"]
theorem sc_is_parting_paper : FnScope N_is_parting_paper ["n", "thing"] (defScope s_is_parting_paper) := ⟨rfl, rfl, rfl, by decide +kernel, rfl, by decide +kernel, by decide +kernel⟩
abbrev s_is_prime_paper : Stmt := top 32
abbrev N_is_prime_paper : List Str := ["thing", "p", "full", "parts", "part"]
theorem sc_is_prime_paper : FnScope N_is_prime_paper ["thing"] (defScope s_is_prime_paper) := ⟨rfl, rfl, rfl, by decide +kernel, rfl, by decide +kernel, by decide +kernel⟩
abbrev s_is_order : Stmt := top 33
abbrev N_is_order : List Str := ["paper", "a", "e", "p", "primes", "part", "q"]
theorem sc_is_order : FnScope N_is_order ["paper", "a", "e"] (defScope s_is_order) := ⟨rfl, rfl, rfl, by decide +kernel, rfl, by decide +kernel, by decide +kernel⟩
abbrev s_are_wholes : Stmt := top 36
abbrev N_are_wholes : List Str := ["things", "least", "thing"]
theorem sc_are_wholes : FnScope N_are_wholes ["things", "least"] (defScope s_are_wholes) := ⟨rfl, rfl, rfl, by decide +kernel, rfl, by decide +kernel, by decide +kernel⟩
abbrev s_shows_turned : Stmt := top 37
abbrev N_shows_turned : List Str := ["paper", "d", "roots", "turn", "p", "here", "found", "k"]
theorem sc_shows_turned : FnScope N_shows_turned ["paper", "d", "roots", "turn"] (defScope s_shows_turned) := ⟨rfl, rfl, rfl, by decide +kernel, rfl, by decide +kernel, by decide +kernel⟩
abbrev s_shows_roots : Stmt := top 38
abbrev N_shows_roots : List Str := ["paper", "k", "a", "thing", "roots", "shown", "p", "d", "rest"]
theorem sc_shows_roots : FnScope N_shows_roots ["paper", "k", "a", "thing"] (defScope s_shows_roots) := ⟨rfl, rfl, rfl, by decide +kernel, rfl, by decide +kernel, by decide +kernel⟩
abbrev s_are_primes : Stmt := top 42
abbrev N_are_primes : List Str := ["things", "last", "thing"]
theorem sc_are_primes : FnScope N_are_primes ["things"] (defScope s_are_primes) := ⟨rfl, rfl, rfl, by decide +kernel, rfl, by decide +kernel, by decide +kernel⟩
abbrev s_is_named : Stmt := top 43
abbrev N_is_named : List Str := ["thing", "word", "many"]
theorem sc_is_named : FnScope N_is_named ["thing", "word", "many"] (defScope s_is_named) := ⟨rfl, rfl, rfl, by decide +kernel, rfl, by decide +kernel, by decide +kernel⟩
abbrev s_is_below : Stmt := top 44
abbrev N_is_below : List Str := ["thing", "bound"]
theorem sc_is_below : FnScope N_is_below ["thing", "bound"] (defScope s_is_below) := ⟨rfl, rfl, rfl, by decide +kernel, rfl, by decide +kernel, by decide +kernel⟩
abbrev s_are_rising : Stmt := top 45
abbrev N_are_rising : List Str := ["things", "bound", "thing", "k"]
theorem sc_are_rising : FnScope N_are_rising ["things", "bound"] (defScope s_are_rising) := ⟨rfl, rfl, rfl, by decide +kernel, rfl, by decide +kernel, by decide +kernel⟩
abbrev s_rests_by : Stmt := top 46
abbrev N_rests_by : List Str := ["numbers", "p", "number"]
theorem sc_rests_by : FnScope N_rests_by ["numbers", "p"] (defScope s_rests_by) := ⟨rfl, rfl, rfl, by decide +kernel, rfl, by decide +kernel, by decide +kernel⟩
abbrev s_are_each_with_each : Stmt := top 47
abbrev N_are_each_with_each : List Str := ["papers", "k", "a", "found", "rows", "whole", "paper", "many", "row", "rests"]
theorem sc_are_each_with_each : FnScope N_are_each_with_each ["papers", "k", "a", "found", "rows"] (defScope s_are_each_with_each) := ⟨rfl, rfl, rfl, by decide +kernel, rfl, by decide +kernel, by decide +kernel⟩
abbrev s_shows_roots_of : Stmt := top 48
abbrev N_shows_roots_of : List Str := ["papers", "k", "a", "thing", "found", "shown", "told"]
theorem sc_shows_roots_of : FnScope N_shows_roots_of ["papers", "k", "a", "thing"] (defScope s_shows_roots_of) := ⟨rfl, rfl, rfl, by decide +kernel, rfl, by decide +kernel, by decide +kernel⟩
abbrev s__law_cell_at : Stmt := top 50
abbrev N__law_cell_at : List Str := ["_law_script", "_law_k"]
theorem sc__law_cell_at : FnScope N__law_cell_at ["_law_script", "_law_k"] (defScope s__law_cell_at) := ⟨rfl, rfl, rfl, by decide +kernel, rfl, by decide +kernel, by decide +kernel⟩
abbrev s__law_state : Stmt := top 51
abbrev N__law_state : List Str := ["_law_cell", "_law_free"]
theorem sc__law_state : FnScope N__law_state ["_law_cell", "_law_free"] (defScope s__law_state) := ⟨rfl, rfl, rfl, by decide +kernel, rfl, by decide +kernel, by decide +kernel⟩
abbrev s__law_take : Stmt := top 52
abbrev N__law_take : List Str := ["_law_state_here", "_law_many", "_law_found"]
theorem sc__law_take : FnScope N__law_take ["_law_state_here", "_law_many"] (defScope s__law_take) := ⟨rfl, rfl, rfl, by decide +kernel, rfl, by decide +kernel, by decide +kernel⟩
abbrev s__law_number : Stmt := top 53
abbrev N__law_number : List Str := ["_law_state_here", "_law_way", "_law_found", "_law_k"]
theorem sc__law_number : FnScope N__law_number ["_law_state_here"] (defScope s__law_number) := ⟨rfl, rfl, rfl, by decide +kernel, rfl, by decide +kernel, by decide +kernel⟩
abbrev s__law_power : Stmt := top 54
abbrev N__law_power : List Str := ["_law_n", "_law_a", "_law_e", "_law_found", "_law_base"]
theorem sc__law_power : FnScope N__law_power ["_law_n", "_law_a", "_law_e"] (defScope s__law_power) := ⟨rfl, rfl, rfl, by decide +kernel, rfl, by decide +kernel, by decide +kernel⟩
abbrev s__law_parted : Stmt := top 55
abbrev N__law_parted : List Str := ["_law_n", "_law_found", "_law_d", "_law_many"]
theorem sc__law_parted : FnScope N__law_parted ["_law_n"] (defScope s__law_parted) := ⟨rfl, rfl, rfl, by decide +kernel, rfl, by decide +kernel, by decide +kernel⟩
abbrev s__law_paper : Stmt := top 56
abbrev N__law_paper : List Str := ["_law_p", "_law_some", "_law_full", "_law_q", "_law_many"]
theorem sc__law_paper : FnScope N__law_paper ["_law_p"] (defScope s__law_paper) := ⟨rfl, rfl, rfl, by decide +kernel, rfl, by decide +kernel, by decide +kernel⟩
abbrev s__law_is_prime : Stmt := top 57
abbrev N__law_is_prime : List Str := ["_law_n", "_law_d"]
theorem sc__law_is_prime : FnScope N__law_is_prime ["_law_n"] (defScope s__law_is_prime) := ⟨rfl, rfl, rfl, by decide +kernel, rfl, by decide +kernel, by decide +kernel⟩
abbrev s__law_primes : Stmt := top 58
abbrev N__law_primes : List Str := ["_law_state_here", "_law_found", "_law_great", "_law_k", "_law_n"]
theorem sc__law_primes : FnScope N__law_primes ["_law_state_here"] (defScope s__law_primes) := ⟨rfl, rfl, rfl, by decide +kernel, rfl, by decide +kernel, by decide +kernel⟩
abbrev s__law_common : Stmt := top 59
abbrev N__law_common : List Str := ["_law_one", "_law_other"]
theorem sc__law_common : FnScope N__law_common ["_law_one", "_law_other"] (defScope s__law_common) := ⟨rfl, rfl, rfl, by decide +kernel, rfl, by decide +kernel, by decide +kernel⟩
abbrev s__law_asked : Stmt := top 60
abbrev N__law_asked : List Str := ["_law_papers", "_law_k", "_law_state_here", "_law_whole", "_law_paper_here", "_law_a", "_law_way"]
theorem sc__law_asked : FnScope N__law_asked ["_law_papers", "_law_k", "_law_state_here"] (defScope s__law_asked) := ⟨rfl, rfl, rfl, by decide +kernel, rfl, by decide +kernel, by decide +kernel⟩
abbrev s__law_due : Stmt := top 61
abbrev N__law_due : List Str := ["_law_papers", "_law_k", "_law_a", "_law_many", "_law_n", "_law_p", "_law_d", "_law_e"]
theorem sc__law_due : FnScope N__law_due ["_law_papers", "_law_k", "_law_a"] (defScope s__law_due) := ⟨rfl, rfl, rfl, by decide +kernel, rfl, by decide +kernel, by decide +kernel⟩
abbrev s__law_told : Stmt := top 62
abbrev N__law_told : List Str := ["_law_papers", "_law_k", "_law_a", "_law_found", "_law_many", "error"]
theorem sc__law_told : FnScope N__law_told ["_law_papers", "_law_k", "_law_a"] (defScope s__law_told) := ⟨rfl, rfl, rfl, by decide +kernel, rfl, by decide +kernel, by decide +kernel⟩
abbrev s__law_is_row : Stmt := top 63
abbrev N__law_is_row : List Str := ["_law_paper_here", "_law_d", "_law_a", "_law_rests", "_law_row", "_law_p", "_law_q", "_law_many"]
theorem sc__law_is_row : FnScope N__law_is_row ["_law_paper_here", "_law_d", "_law_a", "_law_rests", "_law_row"] (defScope s__law_is_row) := ⟨rfl, rfl, rfl, by decide +kernel, rfl, by decide +kernel, by decide +kernel⟩
abbrev s__law_are_all : Stmt := top 64
abbrev N__law_are_all : List Str := ["_law_papers", "_law_k", "_law_a", "_law_many", "_law_told_here", "_law_numbers", "_law_shown", "_law_whole", "_law_paper_here", "_law_x", "_law_row", "_law_rests"]
theorem sc__law_are_all : FnScope N__law_are_all ["_law_papers", "_law_k", "_law_a", "_law_many", "_law_told_here"] (defScope s__law_are_all) := ⟨rfl, rfl, rfl, by decide +kernel, rfl, by decide +kernel, by decide +kernel⟩
abbrev s__law_by_one : Stmt := top 65
abbrev N__law_by_one : List Str := ["_law_paper_here", "_law_k", "_law_a", "_law_p", "_law_full", "_law_parts", "_law_rests", "_law_x"]
theorem sc__law_by_one : FnScope N__law_by_one ["_law_paper_here", "_law_k", "_law_a"] (defScope s__law_by_one) := ⟨rfl, rfl, rfl, by decide +kernel, rfl, by decide +kernel, by decide +kernel⟩
abbrev s__law_every : Stmt := top 66
abbrev N__law_every : List Str := ["_law_papers", "_law_k", "_law_a", "_law_numbers", "_law_rows", "_law_whole", "_law_paper_here", "_law_p", "_law_rests", "_law_row", "_law_back", "_law_more", "_law_number_here", "_law_rest"]
theorem sc__law_every : FnScope N__law_every ["_law_papers", "_law_k", "_law_a"] (defScope s__law_every) := ⟨rfl, rfl, rfl, by decide +kernel, rfl, by decide +kernel, by decide +kernel⟩
abbrev s__law_too_many : Stmt := top 67
abbrev N__law_too_many : List Str := ["_law_papers", "_law_k", "_law_a", "_law_due_here", "_law_told_here"]
theorem sc__law_too_many : FnScope N__law_too_many ["_law_papers", "_law_k", "_law_a", "_law_due_here", "_law_told_here"] (defScope s__law_too_many) := ⟨rfl, rfl, rfl, by decide +kernel, rfl, by decide +kernel, by decide +kernel⟩
abbrev s__law_right : Stmt := top 68
abbrev N__law_right : List Str := ["_law_papers", "_law_k", "_law_a", "_law_state_here", "_law_due_here", "_law_told_here", "_law_numbers", "_law_at", "_law_fewer", "_law_other"]
theorem sc__law_right : FnScope N__law_right ["_law_papers", "_law_k", "_law_a", "_law_state_here"] (defScope s__law_right) := ⟨rfl, rfl, rfl, by decide +kernel, rfl, by decide +kernel, by decide +kernel⟩
abbrev s_law : Stmt := top 69
abbrev N_law : List Str := ["_law_script", "_law_free", "_law_papers", "_law_cell", "_law_state_here", "_law_k", "_law_p"]
theorem sc_law : FnScope N_law ["_law_script"] (defScope s_law) := ⟨rfl, rfl, rfl, by decide +kernel, rfl, by decide +kernel, by decide +kernel⟩
abbrev s_init_NoInverse : Stmt := inClass (top 2) 0
theorem sc_init_NoInverse : FnScope ["self", "divisor"] ["self", "divisor"] (defScope s_init_NoInverse) := ⟨rfl, rfl, rfl, by decide +kernel, rfl, by decide +kernel, by decide +kernel⟩
abbrev s_init_TooMany : Stmt := inClass (top 3) 0
theorem sc_init_TooMany : FnScope ["self", "many"] ["self", "many"] (defScope s_init_TooMany) := ⟨rfl, rfl, rfl, by decide +kernel, rfl, by decide +kernel, by decide +kernel⟩
def fn : List He5.DefA := [⟨fun K => He.ga K "taken", "taken", "taken", defArgs s_taken, defBody s_taken, defScope s_taken, [], []⟩,
  ⟨fun K => He.ga K "divisor", "divisor", "divisor", defArgs s_divisor, defBody s_divisor, defScope s_divisor, [], []⟩,
  ⟨fun K => He.ga K "inverse", "inverse", "inverse", defArgs s_inverse, defBody s_inverse, defScope s_inverse, [], []⟩,
  ⟨fun K => He.ga K "power", "power", "power", defArgs s_power, defBody s_power, defScope s_power, [], []⟩,
  ⟨fun K => He.ga K "places_by", "places_by", "places_by", defArgs s_places_by, defBody s_places_by, defScope s_places_by, [], []⟩,
  ⟨fun K => He.ga K "place_of", "place_of", "place_of", defArgs s_place_of, defBody s_place_of, defScope s_place_of, [], []⟩,
  ⟨fun K => He.ga K "root_in", "root_in", "root_in", defArgs s_root_in, defBody s_root_in, defScope s_root_in, [], []⟩,
  ⟨fun K => He.ga K "one_root", "one_root", "one_root", defArgs s_one_root, defBody s_one_root, defScope s_one_root, [], []⟩,
  ⟨fun K => He.ga K "turned", "turned", "turned", defArgs s_turned, defBody s_turned, defScope s_turned, [], []⟩,
  ⟨fun K => He.ga K "roots", "roots", "roots", defArgs s_roots, defBody s_roots, defScope s_roots, [], []⟩,
  ⟨fun K => He.ga K "joined", "joined", "joined", defArgs s_joined, defBody s_joined, defScope s_joined, [], []⟩,
  ⟨fun K => He.ga K "roots_by", "roots_by", "roots_by", defArgs s_roots_by, defBody s_roots_by, defScope s_roots_by, [], []⟩,
  ⟨fun K => He.ga K "each_with_each", "each_with_each", "each_with_each", defArgs s_each_with_each, defBody s_each_with_each, defScope s_each_with_each, [], []⟩,
  ⟨fun K => He.ga K "roots_of", "roots_of", "roots_of", defArgs s_roots_of, defBody s_roots_of, defScope s_roots_of, [], []⟩,
  ⟨fun K => He.ga K "is_whole", "is_whole", "is_whole", defArgs s_is_whole, defBody s_is_whole, defScope s_is_whole, [], []⟩,
  ⟨fun K => He.ga K "is_row_of", "is_row_of", "is_row_of", defArgs s_is_row_of, defBody s_is_row_of, defScope s_is_row_of, [], []⟩,
  ⟨fun K => He.ga K "are_papers", "are_papers", "are_papers", defArgs s_are_papers, defBody s_are_papers, defScope s_are_papers, [], []⟩,
  ⟨fun K => He.ga K "comes_to", "comes_to", "comes_to", defArgs s_comes_to, defBody s_comes_to, defScope s_comes_to, [], []⟩,
  ⟨fun K => He.ga K "is_parting_paper", "is_parting_paper", "is_parting_paper", defArgs s_is_parting_paper, defBody s_is_parting_paper, defScope s_is_parting_paper, [], []⟩,
  ⟨fun K => He.ga K "is_prime_paper", "is_prime_paper", "is_prime_paper", defArgs s_is_prime_paper, defBody s_is_prime_paper, defScope s_is_prime_paper, [], []⟩,
  ⟨fun K => He.ga K "is_order", "is_order", "is_order", defArgs s_is_order, defBody s_is_order, defScope s_is_order, [], []⟩,
  ⟨fun K => He.ga K "are_wholes", "are_wholes", "are_wholes", defArgs s_are_wholes, defBody s_are_wholes, defScope s_are_wholes, [], []⟩,
  ⟨fun K => He.ga K "shows_turned", "shows_turned", "shows_turned", defArgs s_shows_turned, defBody s_shows_turned, defScope s_shows_turned, [], []⟩,
  ⟨fun K => He.ga K "shows_roots", "shows_roots", "shows_roots", defArgs s_shows_roots, defBody s_shows_roots, defScope s_shows_roots, [], []⟩,
  ⟨fun K => He.ga K "are_primes", "are_primes", "are_primes", defArgs s_are_primes, defBody s_are_primes, defScope s_are_primes, [], []⟩,
  ⟨fun K => He.ga K "is_named", "is_named", "is_named", defArgs s_is_named, defBody s_is_named, defScope s_is_named, [], []⟩,
  ⟨fun K => He.ga K "is_below", "is_below", "is_below", defArgs s_is_below, defBody s_is_below, defScope s_is_below, [], []⟩,
  ⟨fun K => He.ga K "are_rising", "are_rising", "are_rising", defArgs s_are_rising, defBody s_are_rising, defScope s_are_rising, [], []⟩,
  ⟨fun K => He.ga K "rests_by", "rests_by", "rests_by", defArgs s_rests_by, defBody s_rests_by, defScope s_rests_by, [], []⟩,
  ⟨fun K => He.ga K "are_each_with_each", "are_each_with_each", "are_each_with_each", defArgs s_are_each_with_each, defBody s_are_each_with_each, defScope s_are_each_with_each, [], []⟩,
  ⟨fun K => He.ga K "shows_roots_of", "shows_roots_of", "shows_roots_of", defArgs s_shows_roots_of, defBody s_shows_roots_of, defScope s_shows_roots_of, [], []⟩,
  ⟨fun K => He.ga K "_law_cell_at", "_law_cell_at", "_law_cell_at", defArgs s__law_cell_at, defBody s__law_cell_at, defScope s__law_cell_at, [], []⟩,
  ⟨fun K => He.ga K "_law_state", "_law_state", "_law_state", defArgs s__law_state, defBody s__law_state, defScope s__law_state, [], []⟩,
  ⟨fun K => He.ga K "_law_take", "_law_take", "_law_take", defArgs s__law_take, defBody s__law_take, defScope s__law_take, [], []⟩,
  ⟨fun K => He.ga K "_law_number", "_law_number", "_law_number", defArgs s__law_number, defBody s__law_number, defScope s__law_number, [], []⟩,
  ⟨fun K => He.ga K "_law_power", "_law_power", "_law_power", defArgs s__law_power, defBody s__law_power, defScope s__law_power, [], []⟩,
  ⟨fun K => He.ga K "_law_parted", "_law_parted", "_law_parted", defArgs s__law_parted, defBody s__law_parted, defScope s__law_parted, [], []⟩,
  ⟨fun K => He.ga K "_law_paper", "_law_paper", "_law_paper", defArgs s__law_paper, defBody s__law_paper, defScope s__law_paper, [], []⟩,
  ⟨fun K => He.ga K "_law_is_prime", "_law_is_prime", "_law_is_prime", defArgs s__law_is_prime, defBody s__law_is_prime, defScope s__law_is_prime, [], []⟩,
  ⟨fun K => He.ga K "_law_primes", "_law_primes", "_law_primes", defArgs s__law_primes, defBody s__law_primes, defScope s__law_primes, [], []⟩,
  ⟨fun K => He.ga K "_law_common", "_law_common", "_law_common", defArgs s__law_common, defBody s__law_common, defScope s__law_common, [], []⟩,
  ⟨fun K => He.ga K "_law_asked", "_law_asked", "_law_asked", defArgs s__law_asked, defBody s__law_asked, defScope s__law_asked, [], []⟩,
  ⟨fun K => He.ga K "_law_due", "_law_due", "_law_due", defArgs s__law_due, defBody s__law_due, defScope s__law_due, [], []⟩,
  ⟨fun K => He.ga K "_law_told", "_law_told", "_law_told", defArgs s__law_told, defBody s__law_told, defScope s__law_told, [], []⟩,
  ⟨fun K => He.ga K "_law_is_row", "_law_is_row", "_law_is_row", defArgs s__law_is_row, defBody s__law_is_row, defScope s__law_is_row, [], []⟩,
  ⟨fun K => He.ga K "_law_are_all", "_law_are_all", "_law_are_all", defArgs s__law_are_all, defBody s__law_are_all, defScope s__law_are_all, [], []⟩,
  ⟨fun K => He.ga K "_law_by_one", "_law_by_one", "_law_by_one", defArgs s__law_by_one, defBody s__law_by_one, defScope s__law_by_one, [], []⟩,
  ⟨fun K => He.ga K "_law_every", "_law_every", "_law_every", defArgs s__law_every, defBody s__law_every, defScope s__law_every, [], []⟩,
  ⟨fun K => He.ga K "_law_too_many", "_law_too_many", "_law_too_many", defArgs s__law_too_many, defBody s__law_too_many, defScope s__law_too_many, [], []⟩,
  ⟨fun K => He.ga K "_law_right", "_law_right", "_law_right", defArgs s__law_right, defBody s__law_right, defScope s__law_right, [], []⟩,
  ⟨fun K => He.ga K "law", "law", "law", defArgs s_law, defBody s_law, defScope s_law, [], []⟩,
  ⟨fun K => He.ma K (He.ga K "NoInverse") "__init__", "__init__", "NoInverse.__init__", defArgs s_init_NoInverse, defBody s_init_NoInverse, defScope s_init_NoInverse, [], []⟩,
  ⟨fun K => He.ma K (He.ga K "TooMany") "__init__", "__init__", "TooMany.__init__", defArgs s_init_TooMany, defBody s_init_TooMany, defScope s_init_TooMany, [], []⟩]
def fa : List FB := [fun K => (He.Fa.glo "taken").ok K, fun K => (He.Fa.glo "divisor").ok K, fun K => (He.Fa.glo "inverse").ok K, fun K => (He.Fa.glo "power").ok K, fun K => (He.Fa.glo "places_by").ok K, fun K => (He.Fa.glo "place_of").ok K, fun K => (He.Fa.glo "root_in").ok K, fun K => (He.Fa.glo "one_root").ok K, fun K => (He.Fa.glo "turned").ok K, fun K => (He.Fa.glo "roots").ok K, fun K => (He.Fa.glo "joined").ok K, fun K => (He.Fa.glo "roots_by").ok K, fun K => (He.Fa.glo "each_with_each").ok K, fun K => (He.Fa.glo "roots_of").ok K, fun K => (He.Fa.glo "is_whole").ok K, fun K => (He.Fa.glo "is_row_of").ok K, fun K => (He.Fa.glo "are_papers").ok K, fun K => (He.Fa.glo "comes_to").ok K, fun K => (He.Fa.glo "is_parting_paper").ok K, fun K => (He.Fa.glo "is_prime_paper").ok K, fun K => (He.Fa.glo "is_order").ok K, fun K => (He.Fa.glo "are_wholes").ok K, fun K => (He.Fa.glo "shows_turned").ok K, fun K => (He.Fa.glo "shows_roots").ok K, fun K => (He.Fa.glo "are_primes").ok K, fun K => (He.Fa.glo "is_named").ok K, fun K => (He.Fa.glo "is_below").ok K, fun K => (He.Fa.glo "are_rising").ok K, fun K => (He.Fa.glo "rests_by").ok K, fun K => (He.Fa.glo "are_each_with_each").ok K, fun K => (He.Fa.glo "shows_roots_of").ok K, fun K => (He.Fa.glo "_law_cell_at").ok K, fun K => (He.Fa.glo "_law_state").ok K, fun K => (He.Fa.glo "_law_take").ok K, fun K => (He.Fa.glo "_law_number").ok K, fun K => (He.Fa.glo "_law_power").ok K, fun K => (He.Fa.glo "_law_parted").ok K, fun K => (He.Fa.glo "_law_paper").ok K, fun K => (He.Fa.glo "_law_is_prime").ok K, fun K => (He.Fa.glo "_law_primes").ok K, fun K => (He.Fa.glo "_law_common").ok K, fun K => (He.Fa.glo "_law_asked").ok K, fun K => (He.Fa.glo "_law_due").ok K, fun K => (He.Fa.glo "_law_told").ok K, fun K => (He.Fa.glo "_law_is_row").ok K, fun K => (He.Fa.glo "_law_are_all").ok K, fun K => (He.Fa.glo "_law_by_one").ok K, fun K => (He.Fa.glo "_law_every").ok K, fun K => (He.Fa.glo "_law_too_many").ok K, fun K => (He.Fa.glo "_law_right").ok K, fun K => (He.Fa.glo "law").ok K, fun K => (He.Fa.glo "PrimeError").ok K, fun K => (He.Fa.glo "NoInverse").ok K, fun K => (He.Fa.glo "TooMany").ok K, fun K => (He.Fa.free "range").ok K, fun K => (He.Fa.free "sorted").ok K, fun K => (He.Fa.free "zip").ok K, fun K => (He.Fa.free "enumerate").ok K, fun K => (He.Fa.free "tuple").ok K, fun K => (He.Fa.free "isinstance").ok K, fun K => (He.Fa.free "int").ok K, fun K => (He.Fa.free "bool").ok K, fun K => (He.Fa.free "len").ok K, fun K => (He.Fa.free "any").ok K, fun K => (He.Fa.free "all").ok K, fun K => (He.Fa.free "list").ok K, fun K => (He.Fa.free "set").ok K, fun K => (He.Fa.int "MOST_ROOTS_roots" 400).ok K, fun K => (He.Fa.int "MOST_ROOTS_manyprimes" 400).ok K, fun K => (He.Fa.int "MOST_ROOTS_upchecks" 400).ok K, fun K => (He.Fa.int "MOST_PRIMES" 5).ok K, fun K => (He.Fa.int "MOST_TOLD" 400).ok K, fun K => xinB "NoInverse" "divisor" K, fun K => baseB (He.ga K "PrimeError") K, fun K => xinB "TooMany" "many" K, fun K => (He.Fa.exc "PrimeError").ok K, fun K => (He.Fa.exm "TooMany" "TooMany" true).ok K]
structure Txt (K : PySem.W.Frag) (mg : Str → Option Value) : Prop where
  c : Told fa fn K
  gl : ∀ {x : Str}, (He.Fa.glo x).ok K = true → mg x = some (.ref (He.ga K x))
  fr : ∀ {x : Str}, (He.Fa.free x).ok K = true → mg x = none
  int_ok : ∀ {x : Str} {i : Int}, (He.Fa.int x i).ok K = true → ∃ t, mg x = some (.int i t)
section
variable {P : Program} {w : World} {K : PySem.W.Frag} {mg : Str → Option Value} {base : Heap}
theorem F0_taken (T : Txt K mg) : ∃ fd, FnP K "taken" s_taken (He.ga K "taken") fd := T.c.dfn 0 rfl
noncomputable def fd_taken (T : Txt K mg) : FuncData := (F0_taken T).choose
theorem F_taken (T : Txt K mg) : FnP K "taken" s_taken (He.ga K "taken") (fd_taken T) := (F0_taken T).choose_spec
theorem g_taken (T : Txt K mg) : mg "taken" = some (.ref (He.ga K "taken")) := T.gl (T.c.fact 0 rfl)
theorem kp_taken (T : Txt K mg) : PySem.W.keepIn K (.ref (He.ga K "taken")) = true := (F_taken T).kp
theorem B_taken (T : Txt K mg) : Binds K (fd_taken T) ["q", "many"] [] := (F_taken T).bindsN fun _ _ _ _ _ _ us hl => match us, hl with | [_, _], _ => rfl
theorem F0_divisor (T : Txt K mg) : ∃ fd, FnP K "divisor" s_divisor (He.ga K "divisor") fd := T.c.dfn 1 rfl
noncomputable def fd_divisor (T : Txt K mg) : FuncData := (F0_divisor T).choose
theorem F_divisor (T : Txt K mg) : FnP K "divisor" s_divisor (He.ga K "divisor") (fd_divisor T) := (F0_divisor T).choose_spec
theorem g_divisor (T : Txt K mg) : mg "divisor" = some (.ref (He.ga K "divisor")) := T.gl (T.c.fact 1 rfl)
theorem kp_divisor (T : Txt K mg) : PySem.W.keepIn K (.ref (He.ga K "divisor")) = true := (F_divisor T).kp
theorem B_divisor (T : Txt K mg) : Binds K (fd_divisor T) ["a", "b"] [] := (F_divisor T).bindsN fun _ _ _ _ _ _ us hl => match us, hl with | [_, _], _ => rfl
theorem F0_inverse (T : Txt K mg) : ∃ fd, FnP K "inverse" s_inverse (He.ga K "inverse") fd := T.c.dfn 2 rfl
noncomputable def fd_inverse (T : Txt K mg) : FuncData := (F0_inverse T).choose
theorem F_inverse (T : Txt K mg) : FnP K "inverse" s_inverse (He.ga K "inverse") (fd_inverse T) := (F0_inverse T).choose_spec
theorem g_inverse (T : Txt K mg) : mg "inverse" = some (.ref (He.ga K "inverse")) := T.gl (T.c.fact 2 rfl)
theorem kp_inverse (T : Txt K mg) : PySem.W.keepIn K (.ref (He.ga K "inverse")) = true := (F_inverse T).kp
theorem B_inverse (T : Txt K mg) : Binds K (fd_inverse T) ["n", "a"] [] := (F_inverse T).bindsN fun _ _ _ _ _ _ us hl => match us, hl with | [_, _], _ => rfl
theorem F0_power (T : Txt K mg) : ∃ fd, FnP K "power" s_power (He.ga K "power") fd := T.c.dfn 3 rfl
noncomputable def fd_power (T : Txt K mg) : FuncData := (F0_power T).choose
theorem F_power (T : Txt K mg) : FnP K "power" s_power (He.ga K "power") (fd_power T) := (F0_power T).choose_spec
theorem g_power (T : Txt K mg) : mg "power" = some (.ref (He.ga K "power")) := T.gl (T.c.fact 3 rfl)
theorem kp_power (T : Txt K mg) : PySem.W.keepIn K (.ref (He.ga K "power")) = true := (F_power T).kp
theorem B_power (T : Txt K mg) : Binds K (fd_power T) ["n", "a", "e"] [] := (F_power T).bindsN fun _ _ _ _ _ _ us hl => match us, hl with | [_, _, _], _ => rfl
theorem F0_places_by (T : Txt K mg) : ∃ fd, FnP K "places_by" s_places_by (He.ga K "places_by") fd := T.c.dfn 4 rfl
noncomputable def fd_places_by (T : Txt K mg) : FuncData := (F0_places_by T).choose
theorem F_places_by (T : Txt K mg) : FnP K "places_by" s_places_by (He.ga K "places_by") (fd_places_by T) := (F0_places_by T).choose_spec
theorem g_places_by (T : Txt K mg) : mg "places_by" = some (.ref (He.ga K "places_by")) := T.gl (T.c.fact 4 rfl)
theorem kp_places_by (T : Txt K mg) : PySem.W.keepIn K (.ref (He.ga K "places_by")) = true := (F_places_by T).kp
theorem B_places_by (T : Txt K mg) : Binds K (fd_places_by T) ["p", "w", "q"] [] := (F_places_by T).bindsN fun _ _ _ _ _ _ us hl => match us, hl with | [_, _, _], _ => rfl
theorem F0_place_of (T : Txt K mg) : ∃ fd, FnP K "place_of" s_place_of (He.ga K "place_of") fd := T.c.dfn 5 rfl
noncomputable def fd_place_of (T : Txt K mg) : FuncData := (F0_place_of T).choose
theorem F_place_of (T : Txt K mg) : FnP K "place_of" s_place_of (He.ga K "place_of") (fd_place_of T) := (F0_place_of T).choose_spec
theorem g_place_of (T : Txt K mg) : mg "place_of" = some (.ref (He.ga K "place_of")) := T.gl (T.c.fact 5 rfl)
theorem kp_place_of (T : Txt K mg) : PySem.W.keepIn K (.ref (He.ga K "place_of")) = true := (F_place_of T).kp
theorem B_place_of (T : Txt K mg) : Binds K (fd_place_of T) ["p", "w", "c", "q", "many"] [] := (F_place_of T).bindsN fun _ _ _ _ _ _ us hl => match us, hl with | [_, _, _, _, _], _ => rfl
theorem F0_root_in (T : Txt K mg) : ∃ fd, FnP K "root_in" s_root_in (He.ga K "root_in") fd := T.c.dfn 6 rfl
noncomputable def fd_root_in (T : Txt K mg) : FuncData := (F0_root_in T).choose
theorem F_root_in (T : Txt K mg) : FnP K "root_in" s_root_in (He.ga K "root_in") (fd_root_in T) := (F0_root_in T).choose_spec
theorem g_root_in (T : Txt K mg) : mg "root_in" = some (.ref (He.ga K "root_in")) := T.gl (T.c.fact 6 rfl)
theorem kp_root_in (T : Txt K mg) : PySem.W.keepIn K (.ref (He.ga K "root_in")) = true := (F_root_in T).kp
theorem B_root_in (T : Txt K mg) : Binds K (fd_root_in T) ["paper", "q", "many", "d", "c"] [] := (F_root_in T).bindsN fun _ _ _ _ _ _ us hl => match us, hl with | [_, _, _, _, _], _ => rfl
theorem F0_one_root (T : Txt K mg) : ∃ fd, FnP K "one_root" s_one_root (He.ga K "one_root") fd := T.c.dfn 7 rfl
noncomputable def fd_one_root (T : Txt K mg) : FuncData := (F0_one_root T).choose
theorem F_one_root (T : Txt K mg) : FnP K "one_root" s_one_root (He.ga K "one_root") (fd_one_root T) := (F0_one_root T).choose_spec
theorem g_one_root (T : Txt K mg) : mg "one_root" = some (.ref (He.ga K "one_root")) := T.gl (T.c.fact 7 rfl)
theorem kp_one_root (T : Txt K mg) : PySem.W.keepIn K (.ref (He.ga K "one_root")) = true := (F_one_root T).kp
theorem B_one_root (T : Txt K mg) : Binds K (fd_one_root T) ["paper", "d", "c"] [] := (F_one_root T).bindsN fun _ _ _ _ _ _ us hl => match us, hl with | [_, _, _], _ => rfl
theorem F0_turned (T : Txt K mg) : ∃ fd, FnP K "turned" s_turned (He.ga K "turned") fd := T.c.dfn 8 rfl
noncomputable def fd_turned (T : Txt K mg) : FuncData := (F0_turned T).choose
theorem F_turned (T : Txt K mg) : FnP K "turned" s_turned (He.ga K "turned") (fd_turned T) := (F0_turned T).choose_spec
theorem g_turned (T : Txt K mg) : mg "turned" = some (.ref (He.ga K "turned")) := T.gl (T.c.fact 8 rfl)
theorem kp_turned (T : Txt K mg) : PySem.W.keepIn K (.ref (He.ga K "turned")) = true := (F_turned T).kp
theorem B_turned (T : Txt K mg) : Binds K (fd_turned T) ["p", "root", "turn", "d"] [] := (F_turned T).bindsN fun _ _ _ _ _ _ us hl => match us, hl with | [_, _, _, _], _ => rfl
theorem F0_roots (T : Txt K mg) : ∃ fd, FnP K "roots" s_roots (He.ga K "roots") fd := T.c.dfn 9 rfl
noncomputable def fd_roots (T : Txt K mg) : FuncData := (F0_roots T).choose
theorem F_roots (T : Txt K mg) : FnP K "roots" s_roots (He.ga K "roots") (fd_roots T) := (F0_roots T).choose_spec
theorem g_roots (T : Txt K mg) : mg "roots" = some (.ref (He.ga K "roots")) := T.gl (T.c.fact 9 rfl)
theorem kp_roots (T : Txt K mg) : PySem.W.keepIn K (.ref (He.ga K "roots")) = true := (F_roots T).kp
theorem B_roots (T : Txt K mg) : Binds K (fd_roots T) ["paper", "k", "a"] [] := (F_roots T).bindsN fun _ _ _ _ _ _ us hl => match us, hl with | [_, _, _], _ => rfl
theorem F0_joined (T : Txt K mg) : ∃ fd, FnP K "joined" s_joined (He.ga K "joined") fd := T.c.dfn 10 rfl
noncomputable def fd_joined (T : Txt K mg) : FuncData := (F0_joined T).choose
theorem F_joined (T : Txt K mg) : FnP K "joined" s_joined (He.ga K "joined") (fd_joined T) := (F0_joined T).choose_spec
theorem g_joined (T : Txt K mg) : mg "joined" = some (.ref (He.ga K "joined")) := T.gl (T.c.fact 10 rfl)
theorem kp_joined (T : Txt K mg) : PySem.W.keepIn K (.ref (He.ga K "joined")) = true := (F_joined T).kp
theorem B_joined (T : Txt K mg) : Binds K (fd_joined T) ["one", "other"] [] := (F_joined T).bindsN fun _ _ _ _ _ _ us hl => match us, hl with | [_, _], _ => rfl
theorem F0_roots_by (T : Txt K mg) : ∃ fd, FnP K "roots_by" s_roots_by (He.ga K "roots_by") fd := T.c.dfn 11 rfl
noncomputable def fd_roots_by (T : Txt K mg) : FuncData := (F0_roots_by T).choose
theorem F_roots_by (T : Txt K mg) : FnP K "roots_by" s_roots_by (He.ga K "roots_by") (fd_roots_by T) := (F0_roots_by T).choose_spec
theorem g_roots_by (T : Txt K mg) : mg "roots_by" = some (.ref (He.ga K "roots_by")) := T.gl (T.c.fact 11 rfl)
theorem kp_roots_by (T : Txt K mg) : PySem.W.keepIn K (.ref (He.ga K "roots_by")) = true := (F_roots_by T).kp
theorem B_roots_by (T : Txt K mg) : Binds K (fd_roots_by T) ["paper", "k", "a"] [] := (F_roots_by T).bindsN fun _ _ _ _ _ _ us hl => match us, hl with | [_, _, _], _ => rfl
theorem F0_each_with_each (T : Txt K mg) : ∃ fd, FnP K "each_with_each" s_each_with_each (He.ga K "each_with_each") fd := T.c.dfn 12 rfl
noncomputable def fd_each_with_each (T : Txt K mg) : FuncData := (F0_each_with_each T).choose
theorem F_each_with_each (T : Txt K mg) : FnP K "each_with_each" s_each_with_each (He.ga K "each_with_each") (fd_each_with_each T) := (F0_each_with_each T).choose_spec
theorem g_each_with_each (T : Txt K mg) : mg "each_with_each" = some (.ref (He.ga K "each_with_each")) := T.gl (T.c.fact 12 rfl)
theorem kp_each_with_each (T : Txt K mg) : PySem.W.keepIn K (.ref (He.ga K "each_with_each")) = true := (F_each_with_each T).kp
theorem B_each_with_each (T : Txt K mg) : Binds K (fd_each_with_each T) ["papers", "lists"] [] := (F_each_with_each T).bindsN fun _ _ _ _ _ _ us hl => match us, hl with | [_, _], _ => rfl
theorem F0_roots_of (T : Txt K mg) : ∃ fd, FnP K "roots_of" s_roots_of (He.ga K "roots_of") fd := T.c.dfn 13 rfl
noncomputable def fd_roots_of (T : Txt K mg) : FuncData := (F0_roots_of T).choose
theorem F_roots_of (T : Txt K mg) : FnP K "roots_of" s_roots_of (He.ga K "roots_of") (fd_roots_of T) := (F0_roots_of T).choose_spec
theorem g_roots_of (T : Txt K mg) : mg "roots_of" = some (.ref (He.ga K "roots_of")) := T.gl (T.c.fact 13 rfl)
theorem kp_roots_of (T : Txt K mg) : PySem.W.keepIn K (.ref (He.ga K "roots_of")) = true := (F_roots_of T).kp
theorem B_roots_of (T : Txt K mg) : Binds K (fd_roots_of T) ["papers", "k", "a"] [] := (F_roots_of T).bindsN fun _ _ _ _ _ _ us hl => match us, hl with | [_, _, _], _ => rfl
theorem F0_is_whole (T : Txt K mg) : ∃ fd, FnP K "is_whole" s_is_whole (He.ga K "is_whole") fd := T.c.dfn 14 rfl
noncomputable def fd_is_whole (T : Txt K mg) : FuncData := (F0_is_whole T).choose
theorem F_is_whole (T : Txt K mg) : FnP K "is_whole" s_is_whole (He.ga K "is_whole") (fd_is_whole T) := (F0_is_whole T).choose_spec
theorem g_is_whole (T : Txt K mg) : mg "is_whole" = some (.ref (He.ga K "is_whole")) := T.gl (T.c.fact 14 rfl)
theorem kp_is_whole (T : Txt K mg) : PySem.W.keepIn K (.ref (He.ga K "is_whole")) = true := (F_is_whole T).kp
theorem B_is_whole (T : Txt K mg) : Binds K (fd_is_whole T) ["thing", "least"] [] := (F_is_whole T).bindsN fun _ _ _ _ _ _ us hl => match us, hl with | [_, _], _ => rfl
theorem F0_is_row_of (T : Txt K mg) : ∃ fd, FnP K "is_row_of" s_is_row_of (He.ga K "is_row_of") fd := T.c.dfn 15 rfl
noncomputable def fd_is_row_of (T : Txt K mg) : FuncData := (F0_is_row_of T).choose
theorem F_is_row_of (T : Txt K mg) : FnP K "is_row_of" s_is_row_of (He.ga K "is_row_of") (fd_is_row_of T) := (F0_is_row_of T).choose_spec
theorem g_is_row_of (T : Txt K mg) : mg "is_row_of" = some (.ref (He.ga K "is_row_of")) := T.gl (T.c.fact 15 rfl)
theorem kp_is_row_of (T : Txt K mg) : PySem.W.keepIn K (.ref (He.ga K "is_row_of")) = true := (F_is_row_of T).kp
theorem B_is_row_of (T : Txt K mg) : Binds K (fd_is_row_of T) ["thing", "many"] [] := (F_is_row_of T).bindsN fun _ _ _ _ _ _ us hl => match us, hl with | [_, _], _ => rfl
theorem F0_are_papers (T : Txt K mg) : ∃ fd, FnP K "are_papers" s_are_papers (He.ga K "are_papers") fd := T.c.dfn 16 rfl
noncomputable def fd_are_papers (T : Txt K mg) : FuncData := (F0_are_papers T).choose
theorem F_are_papers (T : Txt K mg) : FnP K "are_papers" s_are_papers (He.ga K "are_papers") (fd_are_papers T) := (F0_are_papers T).choose_spec
theorem g_are_papers (T : Txt K mg) : mg "are_papers" = some (.ref (He.ga K "are_papers")) := T.gl (T.c.fact 16 rfl)
theorem kp_are_papers (T : Txt K mg) : PySem.W.keepIn K (.ref (He.ga K "are_papers")) = true := (F_are_papers T).kp
theorem B_are_papers (T : Txt K mg) : Binds K (fd_are_papers T) ["things", "many"] [] := (F_are_papers T).bindsN fun _ _ _ _ _ _ us hl => match us, hl with | [_, _], _ => rfl
theorem F0_comes_to (T : Txt K mg) : ∃ fd, FnP K "comes_to" s_comes_to (He.ga K "comes_to") fd := T.c.dfn 17 rfl
noncomputable def fd_comes_to (T : Txt K mg) : FuncData := (F0_comes_to T).choose
theorem F_comes_to (T : Txt K mg) : FnP K "comes_to" s_comes_to (He.ga K "comes_to") (fd_comes_to T) := (F0_comes_to T).choose_spec
theorem g_comes_to (T : Txt K mg) : mg "comes_to" = some (.ref (He.ga K "comes_to")) := T.gl (T.c.fact 17 rfl)
theorem kp_comes_to (T : Txt K mg) : PySem.W.keepIn K (.ref (He.ga K "comes_to")) = true := (F_comes_to T).kp
theorem B_comes_to (T : Txt K mg) : Binds K (fd_comes_to T) ["things", "n"] [] := (F_comes_to T).bindsN fun _ _ _ _ _ _ us hl => match us, hl with | [_, _], _ => rfl
theorem F0_is_parting_paper (T : Txt K mg) : ∃ fd, FnP K "is_parting_paper" s_is_parting_paper (He.ga K "is_parting_paper") fd := T.c.dfn 18 rfl
noncomputable def fd_is_parting_paper (T : Txt K mg) : FuncData := (F0_is_parting_paper T).choose
theorem F_is_parting_paper (T : Txt K mg) : FnP K "is_parting_paper" s_is_parting_paper (He.ga K "is_parting_paper") (fd_is_parting_paper T) := (F0_is_parting_paper T).choose_spec
theorem g_is_parting_paper (T : Txt K mg) : mg "is_parting_paper" = some (.ref (He.ga K "is_parting_paper")) := T.gl (T.c.fact 18 rfl)
theorem kp_is_parting_paper (T : Txt K mg) : PySem.W.keepIn K (.ref (He.ga K "is_parting_paper")) = true := (F_is_parting_paper T).kp
theorem B_is_parting_paper (T : Txt K mg) : Binds K (fd_is_parting_paper T) ["n", "thing"] [] := (F_is_parting_paper T).bindsN fun _ _ _ _ _ _ us hl => match us, hl with | [_, _], _ => rfl
theorem F0_is_prime_paper (T : Txt K mg) : ∃ fd, FnP K "is_prime_paper" s_is_prime_paper (He.ga K "is_prime_paper") fd := T.c.dfn 19 rfl
noncomputable def fd_is_prime_paper (T : Txt K mg) : FuncData := (F0_is_prime_paper T).choose
theorem F_is_prime_paper (T : Txt K mg) : FnP K "is_prime_paper" s_is_prime_paper (He.ga K "is_prime_paper") (fd_is_prime_paper T) := (F0_is_prime_paper T).choose_spec
theorem g_is_prime_paper (T : Txt K mg) : mg "is_prime_paper" = some (.ref (He.ga K "is_prime_paper")) := T.gl (T.c.fact 19 rfl)
theorem kp_is_prime_paper (T : Txt K mg) : PySem.W.keepIn K (.ref (He.ga K "is_prime_paper")) = true := (F_is_prime_paper T).kp
theorem B_is_prime_paper (T : Txt K mg) : Binds K (fd_is_prime_paper T) ["thing"] [] := (F_is_prime_paper T).bindsN fun _ _ _ _ _ _ us hl => match us, hl with | [_], _ => rfl
theorem F0_is_order (T : Txt K mg) : ∃ fd, FnP K "is_order" s_is_order (He.ga K "is_order") fd := T.c.dfn 20 rfl
noncomputable def fd_is_order (T : Txt K mg) : FuncData := (F0_is_order T).choose
theorem F_is_order (T : Txt K mg) : FnP K "is_order" s_is_order (He.ga K "is_order") (fd_is_order T) := (F0_is_order T).choose_spec
theorem g_is_order (T : Txt K mg) : mg "is_order" = some (.ref (He.ga K "is_order")) := T.gl (T.c.fact 20 rfl)
theorem kp_is_order (T : Txt K mg) : PySem.W.keepIn K (.ref (He.ga K "is_order")) = true := (F_is_order T).kp
theorem B_is_order (T : Txt K mg) : Binds K (fd_is_order T) ["paper", "a", "e"] [] := (F_is_order T).bindsN fun _ _ _ _ _ _ us hl => match us, hl with | [_, _, _], _ => rfl
theorem F0_are_wholes (T : Txt K mg) : ∃ fd, FnP K "are_wholes" s_are_wholes (He.ga K "are_wholes") fd := T.c.dfn 21 rfl
noncomputable def fd_are_wholes (T : Txt K mg) : FuncData := (F0_are_wholes T).choose
theorem F_are_wholes (T : Txt K mg) : FnP K "are_wholes" s_are_wholes (He.ga K "are_wholes") (fd_are_wholes T) := (F0_are_wholes T).choose_spec
theorem g_are_wholes (T : Txt K mg) : mg "are_wholes" = some (.ref (He.ga K "are_wholes")) := T.gl (T.c.fact 21 rfl)
theorem kp_are_wholes (T : Txt K mg) : PySem.W.keepIn K (.ref (He.ga K "are_wholes")) = true := (F_are_wholes T).kp
theorem B_are_wholes (T : Txt K mg) : Binds K (fd_are_wholes T) ["things", "least"] [] := (F_are_wholes T).bindsN fun _ _ _ _ _ _ us hl => match us, hl with | [_, _], _ => rfl
theorem F0_shows_turned (T : Txt K mg) : ∃ fd, FnP K "shows_turned" s_shows_turned (He.ga K "shows_turned") fd := T.c.dfn 22 rfl
noncomputable def fd_shows_turned (T : Txt K mg) : FuncData := (F0_shows_turned T).choose
theorem F_shows_turned (T : Txt K mg) : FnP K "shows_turned" s_shows_turned (He.ga K "shows_turned") (fd_shows_turned T) := (F0_shows_turned T).choose_spec
theorem g_shows_turned (T : Txt K mg) : mg "shows_turned" = some (.ref (He.ga K "shows_turned")) := T.gl (T.c.fact 22 rfl)
theorem kp_shows_turned (T : Txt K mg) : PySem.W.keepIn K (.ref (He.ga K "shows_turned")) = true := (F_shows_turned T).kp
theorem B_shows_turned (T : Txt K mg) : Binds K (fd_shows_turned T) ["paper", "d", "roots", "turn"] [] := (F_shows_turned T).bindsN fun _ _ _ _ _ _ us hl => match us, hl with | [_, _, _, _], _ => rfl
theorem F0_shows_roots (T : Txt K mg) : ∃ fd, FnP K "shows_roots" s_shows_roots (He.ga K "shows_roots") fd := T.c.dfn 23 rfl
noncomputable def fd_shows_roots (T : Txt K mg) : FuncData := (F0_shows_roots T).choose
theorem F_shows_roots (T : Txt K mg) : FnP K "shows_roots" s_shows_roots (He.ga K "shows_roots") (fd_shows_roots T) := (F0_shows_roots T).choose_spec
theorem g_shows_roots (T : Txt K mg) : mg "shows_roots" = some (.ref (He.ga K "shows_roots")) := T.gl (T.c.fact 23 rfl)
theorem kp_shows_roots (T : Txt K mg) : PySem.W.keepIn K (.ref (He.ga K "shows_roots")) = true := (F_shows_roots T).kp
theorem B_shows_roots (T : Txt K mg) : Binds K (fd_shows_roots T) ["paper", "k", "a", "thing"] [] := (F_shows_roots T).bindsN fun _ _ _ _ _ _ us hl => match us, hl with | [_, _, _, _], _ => rfl
theorem F0_are_primes (T : Txt K mg) : ∃ fd, FnP K "are_primes" s_are_primes (He.ga K "are_primes") fd := T.c.dfn 24 rfl
noncomputable def fd_are_primes (T : Txt K mg) : FuncData := (F0_are_primes T).choose
theorem F_are_primes (T : Txt K mg) : FnP K "are_primes" s_are_primes (He.ga K "are_primes") (fd_are_primes T) := (F0_are_primes T).choose_spec
theorem g_are_primes (T : Txt K mg) : mg "are_primes" = some (.ref (He.ga K "are_primes")) := T.gl (T.c.fact 24 rfl)
theorem kp_are_primes (T : Txt K mg) : PySem.W.keepIn K (.ref (He.ga K "are_primes")) = true := (F_are_primes T).kp
theorem B_are_primes (T : Txt K mg) : Binds K (fd_are_primes T) ["things"] [] := (F_are_primes T).bindsN fun _ _ _ _ _ _ us hl => match us, hl with | [_], _ => rfl
theorem F0_is_named (T : Txt K mg) : ∃ fd, FnP K "is_named" s_is_named (He.ga K "is_named") fd := T.c.dfn 25 rfl
noncomputable def fd_is_named (T : Txt K mg) : FuncData := (F0_is_named T).choose
theorem F_is_named (T : Txt K mg) : FnP K "is_named" s_is_named (He.ga K "is_named") (fd_is_named T) := (F0_is_named T).choose_spec
theorem g_is_named (T : Txt K mg) : mg "is_named" = some (.ref (He.ga K "is_named")) := T.gl (T.c.fact 25 rfl)
theorem kp_is_named (T : Txt K mg) : PySem.W.keepIn K (.ref (He.ga K "is_named")) = true := (F_is_named T).kp
theorem B_is_named (T : Txt K mg) : Binds K (fd_is_named T) ["thing", "word", "many"] [] := (F_is_named T).bindsN fun _ _ _ _ _ _ us hl => match us, hl with | [_, _, _], _ => rfl
theorem F0_is_below (T : Txt K mg) : ∃ fd, FnP K "is_below" s_is_below (He.ga K "is_below") fd := T.c.dfn 26 rfl
noncomputable def fd_is_below (T : Txt K mg) : FuncData := (F0_is_below T).choose
theorem F_is_below (T : Txt K mg) : FnP K "is_below" s_is_below (He.ga K "is_below") (fd_is_below T) := (F0_is_below T).choose_spec
theorem g_is_below (T : Txt K mg) : mg "is_below" = some (.ref (He.ga K "is_below")) := T.gl (T.c.fact 26 rfl)
theorem kp_is_below (T : Txt K mg) : PySem.W.keepIn K (.ref (He.ga K "is_below")) = true := (F_is_below T).kp
theorem B_is_below (T : Txt K mg) : Binds K (fd_is_below T) ["thing", "bound"] [] := (F_is_below T).bindsN fun _ _ _ _ _ _ us hl => match us, hl with | [_, _], _ => rfl
theorem F0_are_rising (T : Txt K mg) : ∃ fd, FnP K "are_rising" s_are_rising (He.ga K "are_rising") fd := T.c.dfn 27 rfl
noncomputable def fd_are_rising (T : Txt K mg) : FuncData := (F0_are_rising T).choose
theorem F_are_rising (T : Txt K mg) : FnP K "are_rising" s_are_rising (He.ga K "are_rising") (fd_are_rising T) := (F0_are_rising T).choose_spec
theorem g_are_rising (T : Txt K mg) : mg "are_rising" = some (.ref (He.ga K "are_rising")) := T.gl (T.c.fact 27 rfl)
theorem kp_are_rising (T : Txt K mg) : PySem.W.keepIn K (.ref (He.ga K "are_rising")) = true := (F_are_rising T).kp
theorem B_are_rising (T : Txt K mg) : Binds K (fd_are_rising T) ["things", "bound"] [] := (F_are_rising T).bindsN fun _ _ _ _ _ _ us hl => match us, hl with | [_, _], _ => rfl
theorem F0_rests_by (T : Txt K mg) : ∃ fd, FnP K "rests_by" s_rests_by (He.ga K "rests_by") fd := T.c.dfn 28 rfl
noncomputable def fd_rests_by (T : Txt K mg) : FuncData := (F0_rests_by T).choose
theorem F_rests_by (T : Txt K mg) : FnP K "rests_by" s_rests_by (He.ga K "rests_by") (fd_rests_by T) := (F0_rests_by T).choose_spec
theorem g_rests_by (T : Txt K mg) : mg "rests_by" = some (.ref (He.ga K "rests_by")) := T.gl (T.c.fact 28 rfl)
theorem kp_rests_by (T : Txt K mg) : PySem.W.keepIn K (.ref (He.ga K "rests_by")) = true := (F_rests_by T).kp
theorem B_rests_by (T : Txt K mg) : Binds K (fd_rests_by T) ["numbers", "p"] [] := (F_rests_by T).bindsN fun _ _ _ _ _ _ us hl => match us, hl with | [_, _], _ => rfl
theorem F0_are_each_with_each (T : Txt K mg) : ∃ fd, FnP K "are_each_with_each" s_are_each_with_each (He.ga K "are_each_with_each") fd := T.c.dfn 29 rfl
noncomputable def fd_are_each_with_each (T : Txt K mg) : FuncData := (F0_are_each_with_each T).choose
theorem F_are_each_with_each (T : Txt K mg) : FnP K "are_each_with_each" s_are_each_with_each (He.ga K "are_each_with_each") (fd_are_each_with_each T) := (F0_are_each_with_each T).choose_spec
theorem g_are_each_with_each (T : Txt K mg) : mg "are_each_with_each" = some (.ref (He.ga K "are_each_with_each")) := T.gl (T.c.fact 29 rfl)
theorem kp_are_each_with_each (T : Txt K mg) : PySem.W.keepIn K (.ref (He.ga K "are_each_with_each")) = true := (F_are_each_with_each T).kp
theorem B_are_each_with_each (T : Txt K mg) : Binds K (fd_are_each_with_each T) ["papers", "k", "a", "found", "rows"] [] := (F_are_each_with_each T).bindsN fun _ _ _ _ _ _ us hl => match us, hl with | [_, _, _, _, _], _ => rfl
theorem F0_shows_roots_of (T : Txt K mg) : ∃ fd, FnP K "shows_roots_of" s_shows_roots_of (He.ga K "shows_roots_of") fd := T.c.dfn 30 rfl
noncomputable def fd_shows_roots_of (T : Txt K mg) : FuncData := (F0_shows_roots_of T).choose
theorem F_shows_roots_of (T : Txt K mg) : FnP K "shows_roots_of" s_shows_roots_of (He.ga K "shows_roots_of") (fd_shows_roots_of T) := (F0_shows_roots_of T).choose_spec
theorem g_shows_roots_of (T : Txt K mg) : mg "shows_roots_of" = some (.ref (He.ga K "shows_roots_of")) := T.gl (T.c.fact 30 rfl)
theorem kp_shows_roots_of (T : Txt K mg) : PySem.W.keepIn K (.ref (He.ga K "shows_roots_of")) = true := (F_shows_roots_of T).kp
theorem B_shows_roots_of (T : Txt K mg) : Binds K (fd_shows_roots_of T) ["papers", "k", "a", "thing"] [] := (F_shows_roots_of T).bindsN fun _ _ _ _ _ _ us hl => match us, hl with | [_, _, _, _], _ => rfl
theorem F0__law_cell_at (T : Txt K mg) : ∃ fd, FnP K "_law_cell_at" s__law_cell_at (He.ga K "_law_cell_at") fd := T.c.dfn 31 rfl
noncomputable def fd__law_cell_at (T : Txt K mg) : FuncData := (F0__law_cell_at T).choose
theorem F__law_cell_at (T : Txt K mg) : FnP K "_law_cell_at" s__law_cell_at (He.ga K "_law_cell_at") (fd__law_cell_at T) := (F0__law_cell_at T).choose_spec
theorem g__law_cell_at (T : Txt K mg) : mg "_law_cell_at" = some (.ref (He.ga K "_law_cell_at")) := T.gl (T.c.fact 31 rfl)
theorem kp__law_cell_at (T : Txt K mg) : PySem.W.keepIn K (.ref (He.ga K "_law_cell_at")) = true := (F__law_cell_at T).kp
theorem B__law_cell_at (T : Txt K mg) : Binds K (fd__law_cell_at T) ["_law_script", "_law_k"] [] := (F__law_cell_at T).bindsN fun _ _ _ _ _ _ us hl => match us, hl with | [_, _], _ => rfl
theorem F0__law_state (T : Txt K mg) : ∃ fd, FnP K "_law_state" s__law_state (He.ga K "_law_state") fd := T.c.dfn 32 rfl
noncomputable def fd__law_state (T : Txt K mg) : FuncData := (F0__law_state T).choose
theorem F__law_state (T : Txt K mg) : FnP K "_law_state" s__law_state (He.ga K "_law_state") (fd__law_state T) := (F0__law_state T).choose_spec
theorem g__law_state (T : Txt K mg) : mg "_law_state" = some (.ref (He.ga K "_law_state")) := T.gl (T.c.fact 32 rfl)
theorem kp__law_state (T : Txt K mg) : PySem.W.keepIn K (.ref (He.ga K "_law_state")) = true := (F__law_state T).kp
theorem B__law_state (T : Txt K mg) : Binds K (fd__law_state T) ["_law_cell", "_law_free"] [] := (F__law_state T).bindsN fun _ _ _ _ _ _ us hl => match us, hl with | [_, _], _ => rfl
theorem F0__law_take (T : Txt K mg) : ∃ fd, FnP K "_law_take" s__law_take (He.ga K "_law_take") fd := T.c.dfn 33 rfl
noncomputable def fd__law_take (T : Txt K mg) : FuncData := (F0__law_take T).choose
theorem F__law_take (T : Txt K mg) : FnP K "_law_take" s__law_take (He.ga K "_law_take") (fd__law_take T) := (F0__law_take T).choose_spec
theorem g__law_take (T : Txt K mg) : mg "_law_take" = some (.ref (He.ga K "_law_take")) := T.gl (T.c.fact 33 rfl)
theorem kp__law_take (T : Txt K mg) : PySem.W.keepIn K (.ref (He.ga K "_law_take")) = true := (F__law_take T).kp
theorem B__law_take (T : Txt K mg) : Binds K (fd__law_take T) ["_law_state_here", "_law_many"] [] := (F__law_take T).bindsN fun _ _ _ _ _ _ us hl => match us, hl with | [_, _], _ => rfl
theorem F0__law_number (T : Txt K mg) : ∃ fd, FnP K "_law_number" s__law_number (He.ga K "_law_number") fd := T.c.dfn 34 rfl
noncomputable def fd__law_number (T : Txt K mg) : FuncData := (F0__law_number T).choose
theorem F__law_number (T : Txt K mg) : FnP K "_law_number" s__law_number (He.ga K "_law_number") (fd__law_number T) := (F0__law_number T).choose_spec
theorem g__law_number (T : Txt K mg) : mg "_law_number" = some (.ref (He.ga K "_law_number")) := T.gl (T.c.fact 34 rfl)
theorem kp__law_number (T : Txt K mg) : PySem.W.keepIn K (.ref (He.ga K "_law_number")) = true := (F__law_number T).kp
theorem B__law_number (T : Txt K mg) : Binds K (fd__law_number T) ["_law_state_here"] [] := (F__law_number T).bindsN fun _ _ _ _ _ _ us hl => match us, hl with | [_], _ => rfl
theorem F0__law_power (T : Txt K mg) : ∃ fd, FnP K "_law_power" s__law_power (He.ga K "_law_power") fd := T.c.dfn 35 rfl
noncomputable def fd__law_power (T : Txt K mg) : FuncData := (F0__law_power T).choose
theorem F__law_power (T : Txt K mg) : FnP K "_law_power" s__law_power (He.ga K "_law_power") (fd__law_power T) := (F0__law_power T).choose_spec
theorem g__law_power (T : Txt K mg) : mg "_law_power" = some (.ref (He.ga K "_law_power")) := T.gl (T.c.fact 35 rfl)
theorem kp__law_power (T : Txt K mg) : PySem.W.keepIn K (.ref (He.ga K "_law_power")) = true := (F__law_power T).kp
theorem B__law_power (T : Txt K mg) : Binds K (fd__law_power T) ["_law_n", "_law_a", "_law_e"] [] := (F__law_power T).bindsN fun _ _ _ _ _ _ us hl => match us, hl with | [_, _, _], _ => rfl
theorem F0__law_parted (T : Txt K mg) : ∃ fd, FnP K "_law_parted" s__law_parted (He.ga K "_law_parted") fd := T.c.dfn 36 rfl
noncomputable def fd__law_parted (T : Txt K mg) : FuncData := (F0__law_parted T).choose
theorem F__law_parted (T : Txt K mg) : FnP K "_law_parted" s__law_parted (He.ga K "_law_parted") (fd__law_parted T) := (F0__law_parted T).choose_spec
theorem g__law_parted (T : Txt K mg) : mg "_law_parted" = some (.ref (He.ga K "_law_parted")) := T.gl (T.c.fact 36 rfl)
theorem kp__law_parted (T : Txt K mg) : PySem.W.keepIn K (.ref (He.ga K "_law_parted")) = true := (F__law_parted T).kp
theorem B__law_parted (T : Txt K mg) : Binds K (fd__law_parted T) ["_law_n"] [] := (F__law_parted T).bindsN fun _ _ _ _ _ _ us hl => match us, hl with | [_], _ => rfl
theorem F0__law_paper (T : Txt K mg) : ∃ fd, FnP K "_law_paper" s__law_paper (He.ga K "_law_paper") fd := T.c.dfn 37 rfl
noncomputable def fd__law_paper (T : Txt K mg) : FuncData := (F0__law_paper T).choose
theorem F__law_paper (T : Txt K mg) : FnP K "_law_paper" s__law_paper (He.ga K "_law_paper") (fd__law_paper T) := (F0__law_paper T).choose_spec
theorem g__law_paper (T : Txt K mg) : mg "_law_paper" = some (.ref (He.ga K "_law_paper")) := T.gl (T.c.fact 37 rfl)
theorem kp__law_paper (T : Txt K mg) : PySem.W.keepIn K (.ref (He.ga K "_law_paper")) = true := (F__law_paper T).kp
theorem B__law_paper (T : Txt K mg) : Binds K (fd__law_paper T) ["_law_p"] [] := (F__law_paper T).bindsN fun _ _ _ _ _ _ us hl => match us, hl with | [_], _ => rfl
theorem F0__law_is_prime (T : Txt K mg) : ∃ fd, FnP K "_law_is_prime" s__law_is_prime (He.ga K "_law_is_prime") fd := T.c.dfn 38 rfl
noncomputable def fd__law_is_prime (T : Txt K mg) : FuncData := (F0__law_is_prime T).choose
theorem F__law_is_prime (T : Txt K mg) : FnP K "_law_is_prime" s__law_is_prime (He.ga K "_law_is_prime") (fd__law_is_prime T) := (F0__law_is_prime T).choose_spec
theorem g__law_is_prime (T : Txt K mg) : mg "_law_is_prime" = some (.ref (He.ga K "_law_is_prime")) := T.gl (T.c.fact 38 rfl)
theorem kp__law_is_prime (T : Txt K mg) : PySem.W.keepIn K (.ref (He.ga K "_law_is_prime")) = true := (F__law_is_prime T).kp
theorem B__law_is_prime (T : Txt K mg) : Binds K (fd__law_is_prime T) ["_law_n"] [] := (F__law_is_prime T).bindsN fun _ _ _ _ _ _ us hl => match us, hl with | [_], _ => rfl
theorem F0__law_primes (T : Txt K mg) : ∃ fd, FnP K "_law_primes" s__law_primes (He.ga K "_law_primes") fd := T.c.dfn 39 rfl
noncomputable def fd__law_primes (T : Txt K mg) : FuncData := (F0__law_primes T).choose
theorem F__law_primes (T : Txt K mg) : FnP K "_law_primes" s__law_primes (He.ga K "_law_primes") (fd__law_primes T) := (F0__law_primes T).choose_spec
theorem g__law_primes (T : Txt K mg) : mg "_law_primes" = some (.ref (He.ga K "_law_primes")) := T.gl (T.c.fact 39 rfl)
theorem kp__law_primes (T : Txt K mg) : PySem.W.keepIn K (.ref (He.ga K "_law_primes")) = true := (F__law_primes T).kp
theorem B__law_primes (T : Txt K mg) : Binds K (fd__law_primes T) ["_law_state_here"] [] := (F__law_primes T).bindsN fun _ _ _ _ _ _ us hl => match us, hl with | [_], _ => rfl
theorem F0__law_common (T : Txt K mg) : ∃ fd, FnP K "_law_common" s__law_common (He.ga K "_law_common") fd := T.c.dfn 40 rfl
noncomputable def fd__law_common (T : Txt K mg) : FuncData := (F0__law_common T).choose
theorem F__law_common (T : Txt K mg) : FnP K "_law_common" s__law_common (He.ga K "_law_common") (fd__law_common T) := (F0__law_common T).choose_spec
theorem g__law_common (T : Txt K mg) : mg "_law_common" = some (.ref (He.ga K "_law_common")) := T.gl (T.c.fact 40 rfl)
theorem kp__law_common (T : Txt K mg) : PySem.W.keepIn K (.ref (He.ga K "_law_common")) = true := (F__law_common T).kp
theorem B__law_common (T : Txt K mg) : Binds K (fd__law_common T) ["_law_one", "_law_other"] [] := (F__law_common T).bindsN fun _ _ _ _ _ _ us hl => match us, hl with | [_, _], _ => rfl
theorem F0__law_asked (T : Txt K mg) : ∃ fd, FnP K "_law_asked" s__law_asked (He.ga K "_law_asked") fd := T.c.dfn 41 rfl
noncomputable def fd__law_asked (T : Txt K mg) : FuncData := (F0__law_asked T).choose
theorem F__law_asked (T : Txt K mg) : FnP K "_law_asked" s__law_asked (He.ga K "_law_asked") (fd__law_asked T) := (F0__law_asked T).choose_spec
theorem g__law_asked (T : Txt K mg) : mg "_law_asked" = some (.ref (He.ga K "_law_asked")) := T.gl (T.c.fact 41 rfl)
theorem kp__law_asked (T : Txt K mg) : PySem.W.keepIn K (.ref (He.ga K "_law_asked")) = true := (F__law_asked T).kp
theorem B__law_asked (T : Txt K mg) : Binds K (fd__law_asked T) ["_law_papers", "_law_k", "_law_state_here"] [] := (F__law_asked T).bindsN fun _ _ _ _ _ _ us hl => match us, hl with | [_, _, _], _ => rfl
theorem F0__law_due (T : Txt K mg) : ∃ fd, FnP K "_law_due" s__law_due (He.ga K "_law_due") fd := T.c.dfn 42 rfl
noncomputable def fd__law_due (T : Txt K mg) : FuncData := (F0__law_due T).choose
theorem F__law_due (T : Txt K mg) : FnP K "_law_due" s__law_due (He.ga K "_law_due") (fd__law_due T) := (F0__law_due T).choose_spec
theorem g__law_due (T : Txt K mg) : mg "_law_due" = some (.ref (He.ga K "_law_due")) := T.gl (T.c.fact 42 rfl)
theorem kp__law_due (T : Txt K mg) : PySem.W.keepIn K (.ref (He.ga K "_law_due")) = true := (F__law_due T).kp
theorem B__law_due (T : Txt K mg) : Binds K (fd__law_due T) ["_law_papers", "_law_k", "_law_a"] [] := (F__law_due T).bindsN fun _ _ _ _ _ _ us hl => match us, hl with | [_, _, _], _ => rfl
theorem F0__law_told (T : Txt K mg) : ∃ fd, FnP K "_law_told" s__law_told (He.ga K "_law_told") fd := T.c.dfn 43 rfl
noncomputable def fd__law_told (T : Txt K mg) : FuncData := (F0__law_told T).choose
theorem F__law_told (T : Txt K mg) : FnP K "_law_told" s__law_told (He.ga K "_law_told") (fd__law_told T) := (F0__law_told T).choose_spec
theorem g__law_told (T : Txt K mg) : mg "_law_told" = some (.ref (He.ga K "_law_told")) := T.gl (T.c.fact 43 rfl)
theorem kp__law_told (T : Txt K mg) : PySem.W.keepIn K (.ref (He.ga K "_law_told")) = true := (F__law_told T).kp
theorem B__law_told (T : Txt K mg) : Binds K (fd__law_told T) ["_law_papers", "_law_k", "_law_a"] [] := (F__law_told T).bindsN fun _ _ _ _ _ _ us hl => match us, hl with | [_, _, _], _ => rfl
theorem F0__law_is_row (T : Txt K mg) : ∃ fd, FnP K "_law_is_row" s__law_is_row (He.ga K "_law_is_row") fd := T.c.dfn 44 rfl
noncomputable def fd__law_is_row (T : Txt K mg) : FuncData := (F0__law_is_row T).choose
theorem F__law_is_row (T : Txt K mg) : FnP K "_law_is_row" s__law_is_row (He.ga K "_law_is_row") (fd__law_is_row T) := (F0__law_is_row T).choose_spec
theorem g__law_is_row (T : Txt K mg) : mg "_law_is_row" = some (.ref (He.ga K "_law_is_row")) := T.gl (T.c.fact 44 rfl)
theorem kp__law_is_row (T : Txt K mg) : PySem.W.keepIn K (.ref (He.ga K "_law_is_row")) = true := (F__law_is_row T).kp
theorem B__law_is_row (T : Txt K mg) : Binds K (fd__law_is_row T) ["_law_paper_here", "_law_d", "_law_a", "_law_rests", "_law_row"] [] := (F__law_is_row T).bindsN fun _ _ _ _ _ _ us hl => match us, hl with | [_, _, _, _, _], _ => rfl
theorem F0__law_are_all (T : Txt K mg) : ∃ fd, FnP K "_law_are_all" s__law_are_all (He.ga K "_law_are_all") fd := T.c.dfn 45 rfl
noncomputable def fd__law_are_all (T : Txt K mg) : FuncData := (F0__law_are_all T).choose
theorem F__law_are_all (T : Txt K mg) : FnP K "_law_are_all" s__law_are_all (He.ga K "_law_are_all") (fd__law_are_all T) := (F0__law_are_all T).choose_spec
theorem g__law_are_all (T : Txt K mg) : mg "_law_are_all" = some (.ref (He.ga K "_law_are_all")) := T.gl (T.c.fact 45 rfl)
theorem kp__law_are_all (T : Txt K mg) : PySem.W.keepIn K (.ref (He.ga K "_law_are_all")) = true := (F__law_are_all T).kp
theorem B__law_are_all (T : Txt K mg) : Binds K (fd__law_are_all T) ["_law_papers", "_law_k", "_law_a", "_law_many", "_law_told_here"] [] := (F__law_are_all T).bindsN fun _ _ _ _ _ _ us hl => match us, hl with | [_, _, _, _, _], _ => rfl
theorem F0__law_by_one (T : Txt K mg) : ∃ fd, FnP K "_law_by_one" s__law_by_one (He.ga K "_law_by_one") fd := T.c.dfn 46 rfl
noncomputable def fd__law_by_one (T : Txt K mg) : FuncData := (F0__law_by_one T).choose
theorem F__law_by_one (T : Txt K mg) : FnP K "_law_by_one" s__law_by_one (He.ga K "_law_by_one") (fd__law_by_one T) := (F0__law_by_one T).choose_spec
theorem g__law_by_one (T : Txt K mg) : mg "_law_by_one" = some (.ref (He.ga K "_law_by_one")) := T.gl (T.c.fact 46 rfl)
theorem kp__law_by_one (T : Txt K mg) : PySem.W.keepIn K (.ref (He.ga K "_law_by_one")) = true := (F__law_by_one T).kp
theorem B__law_by_one (T : Txt K mg) : Binds K (fd__law_by_one T) ["_law_paper_here", "_law_k", "_law_a"] [] := (F__law_by_one T).bindsN fun _ _ _ _ _ _ us hl => match us, hl with | [_, _, _], _ => rfl
theorem F0__law_every (T : Txt K mg) : ∃ fd, FnP K "_law_every" s__law_every (He.ga K "_law_every") fd := T.c.dfn 47 rfl
noncomputable def fd__law_every (T : Txt K mg) : FuncData := (F0__law_every T).choose
theorem F__law_every (T : Txt K mg) : FnP K "_law_every" s__law_every (He.ga K "_law_every") (fd__law_every T) := (F0__law_every T).choose_spec
theorem g__law_every (T : Txt K mg) : mg "_law_every" = some (.ref (He.ga K "_law_every")) := T.gl (T.c.fact 47 rfl)
theorem kp__law_every (T : Txt K mg) : PySem.W.keepIn K (.ref (He.ga K "_law_every")) = true := (F__law_every T).kp
theorem B__law_every (T : Txt K mg) : Binds K (fd__law_every T) ["_law_papers", "_law_k", "_law_a"] [] := (F__law_every T).bindsN fun _ _ _ _ _ _ us hl => match us, hl with | [_, _, _], _ => rfl
theorem F0__law_too_many (T : Txt K mg) : ∃ fd, FnP K "_law_too_many" s__law_too_many (He.ga K "_law_too_many") fd := T.c.dfn 48 rfl
noncomputable def fd__law_too_many (T : Txt K mg) : FuncData := (F0__law_too_many T).choose
theorem F__law_too_many (T : Txt K mg) : FnP K "_law_too_many" s__law_too_many (He.ga K "_law_too_many") (fd__law_too_many T) := (F0__law_too_many T).choose_spec
theorem g__law_too_many (T : Txt K mg) : mg "_law_too_many" = some (.ref (He.ga K "_law_too_many")) := T.gl (T.c.fact 48 rfl)
theorem kp__law_too_many (T : Txt K mg) : PySem.W.keepIn K (.ref (He.ga K "_law_too_many")) = true := (F__law_too_many T).kp
theorem B__law_too_many (T : Txt K mg) : Binds K (fd__law_too_many T) ["_law_papers", "_law_k", "_law_a", "_law_due_here", "_law_told_here"] [] := (F__law_too_many T).bindsN fun _ _ _ _ _ _ us hl => match us, hl with | [_, _, _, _, _], _ => rfl
theorem F0__law_right (T : Txt K mg) : ∃ fd, FnP K "_law_right" s__law_right (He.ga K "_law_right") fd := T.c.dfn 49 rfl
noncomputable def fd__law_right (T : Txt K mg) : FuncData := (F0__law_right T).choose
theorem F__law_right (T : Txt K mg) : FnP K "_law_right" s__law_right (He.ga K "_law_right") (fd__law_right T) := (F0__law_right T).choose_spec
theorem g__law_right (T : Txt K mg) : mg "_law_right" = some (.ref (He.ga K "_law_right")) := T.gl (T.c.fact 49 rfl)
theorem kp__law_right (T : Txt K mg) : PySem.W.keepIn K (.ref (He.ga K "_law_right")) = true := (F__law_right T).kp
theorem B__law_right (T : Txt K mg) : Binds K (fd__law_right T) ["_law_papers", "_law_k", "_law_a", "_law_state_here"] [] := (F__law_right T).bindsN fun _ _ _ _ _ _ us hl => match us, hl with | [_, _, _, _], _ => rfl
theorem F0_law (T : Txt K mg) : ∃ fd, FnP K "law" s_law (He.ga K "law") fd := T.c.dfn 50 rfl
noncomputable def fd_law (T : Txt K mg) : FuncData := (F0_law T).choose
theorem F_law (T : Txt K mg) : FnP K "law" s_law (He.ga K "law") (fd_law T) := (F0_law T).choose_spec
theorem g_law (T : Txt K mg) : mg "law" = some (.ref (He.ga K "law")) := T.gl (T.c.fact 50 rfl)
theorem kp_law (T : Txt K mg) : PySem.W.keepIn K (.ref (He.ga K "law")) = true := (F_law T).kp
theorem B_law (T : Txt K mg) : Binds K (fd_law T) ["_law_script"] [] := (F_law T).bindsN fun _ _ _ _ _ _ us hl => match us, hl with | [_], _ => rfl
theorem g_PrimeError (T : Txt K mg) : mg "PrimeError" = some (.ref (He.ga K "PrimeError")) := T.gl (T.c.fact 51 rfl)
theorem g_NoInverse (T : Txt K mg) : mg "NoInverse" = some (.ref (He.ga K "NoInverse")) := T.gl (T.c.fact 52 rfl)
theorem g_TooMany (T : Txt K mg) : mg "TooMany" = some (.ref (He.ga K "TooMany")) := T.gl (T.c.fact 53 rfl)
theorem x_NoInverse (T : Txt K mg) : XIn K (He.ga K "NoInverse") (He.ma K (He.ga K "NoInverse") "__init__") "divisor" := xin_of (T.c.fact 72 rfl)
theorem F0_init_NoInverse (T : Txt K mg) : ∃ fd, FunD K "__init__" "NoInverse.__init__" (defArgs s_init_NoInverse) (defBody s_init_NoInverse) (defScope s_init_NoInverse) [] [] (He.ma K (He.ga K "NoInverse") "__init__") fd := T.c.dfn 51 rfl
noncomputable def fd_init_NoInverse (T : Txt K mg) : FuncData := (F0_init_NoInverse T).choose
theorem F_init_NoInverse (T : Txt K mg) : FunD K "__init__" "NoInverse.__init__" (defArgs s_init_NoInverse) (defBody s_init_NoInverse) (defScope s_init_NoInverse) [] [] (He.ma K (He.ga K "NoInverse") "__init__") (fd_init_NoInverse T) := (F0_init_NoInverse T).choose_spec
theorem B_init_NoInverse (T : Txt K mg) : Binds K (fd_init_NoInverse T) ["self", "divisor"] [] := (F_init_NoInverse T).bindsN fun _ _ _ _ _ _ us hl => match us, hl with | [_, _], _ => rfl
theorem ok_init_NoInverse (T : Txt K mg) : FnOk P w K mg base CX0 1 (He.ma K (He.ga K "NoInverse") "__init__") (fd_init_NoInverse T) ["self", "divisor"] (sp_init K (He.ga K "NoInverse") "divisor") := by
  refine (F_init_NoInverse T).ok sc_init_NoInverse (fun vs H Q E h => ?_) (fun cdv A outer s H vs Q E hr h => ⟨_, PSs.nox (pss_cons (ps_expr (pe_cinit rfl (g_PrimeError T) (base_of (T.c.fact (t := fun K => baseB (He.ga K "PrimeError") K) 73 rfl)) (pa_cons (pv 0) (pa_cons pe_str pa_nil)))) (pss_one (ps_ost (pv 0) (pv 1)))), ?_⟩)
  · obtain ⟨_, _, rfl, _⟩ := h; rfl
  · exact rd_init h
theorem x_TooMany (T : Txt K mg) : XIn K (He.ga K "TooMany") (He.ma K (He.ga K "TooMany") "__init__") "many" := xin_of (T.c.fact 74 rfl)
theorem F0_init_TooMany (T : Txt K mg) : ∃ fd, FunD K "__init__" "TooMany.__init__" (defArgs s_init_TooMany) (defBody s_init_TooMany) (defScope s_init_TooMany) [] [] (He.ma K (He.ga K "TooMany") "__init__") fd := T.c.dfn 52 rfl
noncomputable def fd_init_TooMany (T : Txt K mg) : FuncData := (F0_init_TooMany T).choose
theorem F_init_TooMany (T : Txt K mg) : FunD K "__init__" "TooMany.__init__" (defArgs s_init_TooMany) (defBody s_init_TooMany) (defScope s_init_TooMany) [] [] (He.ma K (He.ga K "TooMany") "__init__") (fd_init_TooMany T) := (F0_init_TooMany T).choose_spec
theorem B_init_TooMany (T : Txt K mg) : Binds K (fd_init_TooMany T) ["self", "many"] [] := (F_init_TooMany T).bindsN fun _ _ _ _ _ _ us hl => match us, hl with | [_, _], _ => rfl
theorem ok_init_TooMany (T : Txt K mg) : FnOk P w K mg base CX0 1 (He.ma K (He.ga K "TooMany") "__init__") (fd_init_TooMany T) ["self", "many"] (sp_init K (He.ga K "TooMany") "many") := by
  refine (F_init_TooMany T).ok sc_init_TooMany (fun vs H Q E h => ?_) (fun cdv A outer s H vs Q E hr h => ⟨_, PSs.nox (pss_cons (ps_expr (pe_cinit rfl (g_PrimeError T) (base_of (T.c.fact (t := fun K => baseB (He.ga K "PrimeError") K) 73 rfl)) (pa_cons (pv 0) (pa_cons pe_str pa_nil)))) (pss_one (ps_ost (pv 0) (pv 1)))), ?_⟩)
  · obtain ⟨_, _, rfl, _⟩ := h; rfl
  · exact rd_init h
theorem z_PrimeError (T : Txt K mg) : Exc0 K (He.ga K "PrimeError") := exc0_of (T.c.fact 75 rfl)
theorem e_TooMany_TooMany (T : Txt K mg) : PySem.W.exmOne K (.ref (He.ga K "TooMany")) (.ref (He.ga K "TooMany")) = some true := He.exm_ok (T.c.fact 76 rfl)
abbrev RR : PySem.W.OpenRow := PySem.W.OpenLaw.row PySem.Challenge.rw_rootprime_k69_whole_roots_by_great_prime
abbrev hk : PySem.W.Hook := hookR 5 fa fn
def ob (s : PySem.W.SharedT) : He.AlD := toldG 5 fa fn (HandSHeadRun.getT s)
theorem ob_eq (s : PySem.W.SharedT) : ob s = hk.obs s.abs := toldG_eq (HandSHeadRun.getT_eq s)
theorem run (w : World) : HandSHeadRun.RunEq RR (PySem.W.view RR.prog [69]) hk ob 5800 ("taken" :: "divisor" :: "inverse" :: "power" :: "places_by" :: "place_of" :: "root_in" :: "one_root" :: "turned" :: "roots" :: "joined" :: "roots_by" :: "each_with_each" :: "roots_of" :: "is_whole" :: "is_row_of" :: "are_papers" :: "comes_to" :: "is_parting_paper" :: "is_prime_paper" :: "is_order" :: "are_wholes" :: "shows_turned" :: "shows_roots" :: "are_primes" :: "is_named" :: "is_below" :: "are_rising" :: "rests_by" :: "are_each_with_each" :: "shows_roots_of" :: "_law_cell_at" :: "_law_state" :: "_law_take" :: "_law_number" :: "_law_power" :: "_law_parted" :: "_law_paper" :: "_law_is_prime" :: "_law_primes" :: "_law_common" :: "_law_asked" :: "_law_due" :: "_law_told" :: "_law_is_row" :: "_law_are_all" :: "_law_by_one" :: "_law_every" :: "_law_too_many" :: "_law_right" :: "PrimeError" :: "NoInverse" :: "TooMany" :: "MOST_ROOTS_roots" :: "MOST_ROOTS_manyprimes" :: "MOST_ROOTS_upchecks" :: "MOST_PRIMES" :: "MOST_TOLD" :: []) w := by
  intro os
  kernel_rfl

/-- divisor(a, b): a new tuple (g, u, v) -/
def sp_divisor : Sp := fun vs H Q _ => ∃ a b : Int, vs = [.int a, .int b] ∧ a.natAbs < 2 ^ 900 ∧ b.natAbs < 2 ^ 900 ∧
  ∀ g u v p, M.DivOk a b g u v → H p = none → Q (.ref p) (upd H p (.tup [.int g, .int u, .int v]))
theorem ok_divisor (T : Txt K mg) : FnOk P w K mg base CX0 1 (He.ga K "divisor") (fd_divisor T) ["a", "b"] sp_divisor := by
  refine (F_divisor T).ok sc_divisor (fun vs H Q E h => ?_) (fun cdv A outer s H vs Q E hr h => ⟨_, PSs.nox (pss_cons (ps_par3 (i := 2) (j := 3) (l := 4) rfl sc_divisor.nd rfl rfl rfl (by decide) (by decide) (by decide) rfl rfl rfl (pa_cons (pv 0) (pa_cons pe_int (pa_cons pe_int pa_nil))) rfl)
      (pss_cons (ps_par3 (i := 5) (j := 6) (l := 7) rfl sc_divisor.nd rfl rfl rfl (by decide) (by decide) (by decide) rfl rfl rfl (pa_cons (pv 1) (pa_cons pe_int (pa_cons pe_int pa_nil))) rfl)
      (pss_cons (ps_while PassesOwn.never (pt_cmpR op_ne (pv 5) pe_int (nomark _)) (pss_cons (ps_set (i := 8) sc_divisor.nd rfl (Or.inl rfl) (pe_op op_divF (pv 2) (pv 5)))
      (pss_cons (ps_par (i := 2) (j := 5) rfl sc_divisor.nd rfl rfl (by decide) rfl rfl (pa_cons (pv 5) (pa_cons (pe_op op_sub (pv 2) (pe_op op_mulW (pv 8) (pv 5))) pa_nil)) rfl)
      (pss_cons (ps_par (i := 3) (j := 6) rfl sc_divisor.nd rfl rfl (by decide) rfl rfl (pa_cons (pv 6) (pa_cons (pe_op op_sub (pv 3) (pe_op op_mulW (pv 8) (pv 6))) pa_nil)) rfl)
      (pss_one (ps_par (i := 4) (j := 7) rfl sc_divisor.nd rfl rfl (by decide) rfl rfl (pa_cons (pv 7) (pa_cons (pe_op op_sub (pv 4) (pe_op op_mulW (pv 8) (pv 7))) pa_nil)) rfl))))))
      (pss_cons (ps_if (pt_cmpR op_lt (pv 2) pe_int (nomark _)) (pss_one (ps_ret (pe_tup (pa_cons (pe_un un_neg (pv 2)) (pa_cons (pe_un un_neg (pv 3)) (pa_cons (pe_un un_neg (pv 4)) pa_nil)))))) pss_nil)
      (pss_one (ps_ret (pe_tup (pa_cons (pv 2) (pa_cons (pv 3) (pa_cons (pv 4) pa_nil)))))))))), ?_⟩)
  · obtain ⟨a, b, rfl, _⟩ := h; rfl
  · obtain ⟨a, b, rfl, ha, hb, k⟩ := h
    walk_at "g"
    refine s_while (fun σ H' => H' = H ∧ ∃ (g u v r x y : Int) (t : Option V), σ = [some (.int a), some (.int b), some (.int g), some (.int u), some (.int v), some (.int r), some (.int x), some (.int y), t] ∧ M.DivSt a b g u v r x y)
      (fun σ _ => (iv σ 5).natAbs) ⟨rfl, a, 1, 0, b, 0, 1, none, rfl, .inl ⟨rfl, rfl, rfl, rfl, rfl, rfl⟩⟩ ?_
    · rintro σ H' ⟨rfl, g, u, v, r, x, y, t, rfl, I⟩
      walk_at "g"
      refine s_iten (fun hr => ?_) (fun hr => ?_)
      · have Z := M.div_sizes I
        have hd : r ≠ 0 := hr
        have st := M.div_step I hd
        have hf : (g.fdiv r).natAbs ≤ g.natAbs := M.fdiv_le g r
        walk_at "g"
        refine s_i (divF hd (by omega)) ?_
        walk_at "g"
        exact ⟨⟨rfl, _, _, _, _, _, _, _, rfl, st.1⟩, st.2⟩
      · walk_at "g"
        have T := M.div_told I hr
        refine s_ite (fun hg => ?_) (fun hg => ?_)
        · walk_at "g"
          exact ⟨len_le (by simp), fun p hp => k _ _ _ p (T.1 hg) hp⟩
        · walk_at "g"
          exact ⟨len_le (by simp), fun p hp => k _ _ _ p (T.2 hg) hp⟩

/-- inverse(n, a): the number that, times a, is 1 by n; else NoInverse(the divisor) -/
def sp_inverse (K : PySem.W.Frag) : Sp := fun vs H Q E => ∃ n a : Int, vs = [.int n, .int a] ∧ 0 < n ∧ n.natAbs < 2 ^ 900 ∧
  (Int.gcd a n = 1 → ∀ (H' : Hp) (b : Int), Same H H' → 0 ≤ b → b < n → (b * a - 1) % n = 0 → Q (.int b) H') ∧
  (Int.gcd a n ≠ 1 → ∀ (d : Addr) (H' : Hp), H d = none → Same H H' → H' d = some (.xd [("divisor", .int (Int.gcd a n))]) → E (.ref (He.ga K "NoInverse")) (some d) H')
theorem ok_inverse (T : Txt K mg) : FnOk P w K mg base (L2.CX P w) 5 (He.ga K "inverse") (fd_inverse T) ["n", "a"] (sp_inverse K) := by
  refine (F_inverse T).ok sc_inverse (fun vs H Q E h => ?_) (fun cdv A outer s H vs Q E hr h => ⟨_, (pss_cons (ps_asg (pe_call (ok_divisor T) (hr.mono (by decide)) rfl (g_divisor T) (kp_divisor T) (B_divisor T) .nil pass0 (pa_cons (pe_op op_mod (pv 1) (pv 0)) (pa_cons (pv 0) pa_nil))) (pg_tup rfl (pgs_cons (pg_name (i := 2) sc_inverse.nd rfl (Or.inl rfl)) (pgs_cons (pg_name (i := 3) sc_inverse.nd rfl (Or.inl rfl)) (pgs_cons (pg_name (i := 4) sc_inverse.nd rfl (Or.inl rfl)) pgs_nil)))))
      (pss_cons (ps_if (pt_cmpR op_gt (pv 2) pe_int (nomark _)) (pss_one (ps_raise rfl (takes_of rfl rfl rfl rfl) (pmk_oex (x_NoInverse T).oex (x_NoInverse T).iC (x_NoInverse T).tI (ok_init_NoInverse T) (hr.mono (by decide)) (B_init_NoInverse T) .nil pass0 rfl (g_NoInverse T) (pa_cons (pv 2) pa_nil)))) pss_nil)
      (pss_one (ps_ret (pe_op op_mod (pv 3) (pv 0)))))), ?_⟩)
  · obtain ⟨n, a, rfl, _⟩ := h; rfl
  · obtain ⟨n, a, rfl, h0, hn, k1, k2⟩ := h
    have ha0 := Int.emod_nonneg a (show n ≠ 0 by omega)
    have ha1 := Int.emod_lt_of_pos a h0
    have gp := M.gcd_pos (a := a) h0
    walk_at "g"
    refine s_i (by omega) ?_
    walk_at "g"
    refine ⟨a % n, n, rfl, by omega, hn, fun g u v p I hp => ?_⟩
    have S1 : Same H (upd H p (.tup [.int g, .int u, .int v])) := same_upd hp
    have T1 : upd H p (.tup [.int g, .int u, .int v]) p = some (.tup [.int g, .int u, .int v]) := upd_same
    generalize upd H p (.tup [.int g, .int u, .int v]) = H1 at S1 T1 ⊢
    have hg := I.hg
    rw [M.gcd_mod] at hg
    walk_at "g"
    refine s_gtup (SqT.of T1) rfl ?_
    walk_at "g"
    refine s_ite (fun c => ?_) (fun c => ?_)
    · walk_at "g"
      refine s_raise (x_NoInverse T).oex (x_NoInverse T).noF fun d H' hd hx hs => ?_
      rw [hg] at hx
      exact k2 (by omega) d H' (S1.free hd) (S1.trans hs) hx
    · walk_at "g"
      refine s_i (by omega) ?_
      have g1 : Int.gcd a n = 1 := by omega
      exact k1 g1 H1 _ S1 (Int.emod_nonneg _ (by omega)) (Int.emod_lt_of_pos _ h0) (M.inv_of h0 I g1)

/-- a def of which nothing is asked -/
theorem ok_never1 {CX : CXT} {f : Addr} {fd : FuncData} {ps : List Str} : FnOk P w K mg base CX 1 f fd ps (fun _ _ _ _ => False) := ⟨fun _ _ _ _ h => h.elim, fun _ _ _ _ _ _ _ _ _ _ _ _ _ h => h.elim⟩
/-- power(n, a, e), e from 0 on -/
def sp_power0 : Sp := fun vs H Q _ => ∃ (n a : Int) (e : Nat), vs = [.int n, .int a, .int e] ∧ 0 < n ∧ n.natAbs < 2 ^ 900 ∧ Q (.int (M.pw n a e)) H
theorem ok_power0 (T : Txt K mg) : FnOk P w K mg base (L2.CX P w) 6 (He.ga K "power") (fd_power T) ["n", "a", "e"] sp_power0 := by
  refine (F_power T).ok sc_power (fun vs H Q E h => ?_) (fun cdv A outer s H vs Q E hr h => ⟨_, (pss_cons (ps_if (pt_cmpR op_lt (pv 2) pe_int (nomark _)) (pss_one (ps_ret (pe_call (ok_never1) (hr.mono (by decide)) rfl (g_power T) (kp_power T) (B_power T) .nil (passes_call (takes_of rfl rfl rfl rfl) (fun _ _ _ _ h => h)) (pa_cons (pv 0) (pa_cons (pe_call (ok_inverse T) (hr.mono (by decide)) rfl (g_inverse T) (kp_inverse T) (B_inverse T) .nil (passes_call (takes_of rfl rfl rfl rfl) (fun _ _ _ _ h => h)) (pa_cons (pv 0) (pa_cons (pv 1) pa_nil))) (pa_cons (pe_un un_neg (pv 2)) pa_nil)))))) pss_nil)
      (pss_cons (ps_set (i := 3) sc_power.nd rfl (Or.inl rfl) (pe_op op_mod pe_int (pv 0)))
      (pss_cons (ps_set (i := 4) sc_power.nd rfl (Or.inl rfl) (pe_op op_mod (pv 1) (pv 0)))
      (pss_cons (ps_while (passes_of rfl) (pt_cmpR op_gt (pv 2) pe_int (nomark _)) (pss_cons (ps_if (pt_cmpR op_eq (pe_op op_mod (pv 2) pe_int) pe_int (nomark _)) (pss_one (ps_set (i := 3) sc_power.nd rfl (Or.inl rfl) (pe_op op_mod (pe_op op_mulW (pv 3) (pv 4)) (pv 0)))) pss_nil)
      (pss_cons (ps_set (i := 4) sc_power.nd rfl (Or.inl rfl) (pe_op op_mod (pe_op op_mulW (pv 4) (pv 4)) (pv 0)))
      (pss_one (ps_set (i := 2) sc_power.nd rfl (Or.inl rfl) (pe_op op_fdivW (pv 2) pe_int))))))
      (pss_one (ps_ret (pv 3))))))), ?_⟩)
  · obtain ⟨n, a, e, rfl, _⟩ := h; rfl
  · obtain ⟨n, a, e, rfl, h0, hn, k⟩ := h
    walk_at "g"
    refine s_itN (by omega) ?_
    walk_at "g"
    refine s_i (by omega) ?_
    walk_at "g"
    refine s_i (by omega) ?_
    walk_at "g"
    refine s_while (fun σ H' => H' = H ∧ ∃ (e' : Nat) (f b : Int), σ = [some (.int n), some (.int a), some (.int e'), some (.int f), some (.int b)] ∧ 0 ≤ f ∧ f < n ∧ 0 ≤ b ∧ b < n ∧ f * b ^ e' % n = M.pw n a e)
      (fun σ _ => (iv σ 2).natAbs) ⟨rfl, e, _, _, rfl, Int.emod_nonneg _ (by omega), Int.emod_lt_of_pos _ h0, Int.emod_nonneg _ (by omega), Int.emod_lt_of_pos _ h0, M.pw_one⟩ ?_
    rintro σ H' ⟨rfl, e', f, b, rfl, f0, f1, b0, b1, inv⟩
    have st := M.pw_turn inv
    walk_at "g"
    refine s_ite (fun c => ?_) (fun c => ?_)
    · have e2 : (e' : Int) / 2 = ((e' / 2 : Nat) : Int) := by omega
      walk_at "h"
      refine s_join (fun σ' H1 => H1 = H' ∧ ∃ f' : Int, σ' = [some (.int n), some (.int a), some (.int e'), some (.int f'), some (.int b)] ∧ 0 ≤ f' ∧ f' < n ∧ f' * (b * b % n) ^ (e' / 2) % n = M.pw n a e) ?_ fun N J => ?_
      · rintro σ' H1 ⟨rfl, f', rfl, f0', f1', inv'⟩
        walk_at "g"
        refine s_i (by omega) ?_
        walk_at "g"
        refine ⟨⟨rfl, e' / 2, f', _, ?_, f0', f1', Int.emod_nonneg _ (by omega), Int.emod_lt_of_pos _ h0, inv'⟩, ?_⟩
        · rw [e2]; rfl
        · show ((e' : Int) / 2).natAbs < (e' : Int).natAbs
          omega
      · walk_at "g"
        refine s_ite (fun c2 => ?_) (fun c2 => ?_)
        · walk_at "g"
          refine s_i (by omega) ?_
          walk_at "g"
          exact J _ _ ⟨rfl, _, rfl, Int.emod_nonneg _ (by omega), Int.emod_lt_of_pos _ h0, st.1 (by omega)⟩
        · walk_at "g"
          exact J _ _ ⟨rfl, _, rfl, f0, f1, st.2 (by omega)⟩
    · have z : e' = 0 := by omega
      subst z
      walk_at "g"
      rw [M.pw_end f0 f1 inv]
      exact k
/-- power(n, a, e) -/
def sp_power (K : PySem.W.Frag) : Sp := fun vs H Q E => ∃ n a e : Int, vs = [.int n, .int a, .int e] ∧ 0 < n ∧ n.natAbs < 2 ^ 900 ∧
  (0 ≤ e → Q (.int (M.pw n a e.toNat)) H) ∧
  (e < 0 → Int.gcd a n = 1 → ∀ (H' : Hp) (b : Int), Same H H' → 0 ≤ b → b < n → (b * a - 1) % n = 0 → Q (.int (M.pw n b (-e).toNat)) H') ∧
  (e < 0 → Int.gcd a n ≠ 1 → ∀ (d : Addr) (H' : Hp), H d = none → Same H H' → H' d = some (.xd [("divisor", .int (Int.gcd a n))]) → E (.ref (He.ga K "NoInverse")) (some d) H')
/-- .. e below 0 -/
def sp_powerN (K : PySem.W.Frag) : Sp := fun vs H Q E => ∃ n a e : Int, vs = [.int n, .int a, .int e] ∧ 0 < n ∧ n.natAbs < 2 ^ 900 ∧ e < 0 ∧
  (Int.gcd a n = 1 → ∀ (H' : Hp) (b : Int), Same H H' → 0 ≤ b → b < n → (b * a - 1) % n = 0 → Q (.int (M.pw n b (-e).toNat)) H') ∧
  (Int.gcd a n ≠ 1 → ∀ (d : Addr) (H' : Hp), H d = none → Same H H' → H' d = some (.xd [("divisor", .int (Int.gcd a n))]) → E (.ref (He.ga K "NoInverse")) (some d) H')
theorem ok_powerN (T : Txt K mg) : FnOk P w K mg base (L2.CX P w) 7 (He.ga K "power") (fd_power T) ["n", "a", "e"] (sp_powerN K) := by
  refine (F_power T).ok sc_power (fun vs H Q E h => ?_) (fun cdv A outer s H vs Q E hr h => ⟨_, (pss_cons (ps_if (pt_cmpR op_lt (pv 2) pe_int (nomark _)) (pss_one (ps_ret (pe_call (ok_power0 T) (hr.mono (by decide)) rfl (g_power T) (kp_power T) (B_power T) .nil (passes_call (takes_of rfl rfl rfl rfl) (fun _ _ _ _ h => h)) (pa_cons (pv 0) (pa_cons (pe_call (ok_inverse T) (hr.mono (by decide)) rfl (g_inverse T) (kp_inverse T) (B_inverse T) .nil (passes_call (takes_of rfl rfl rfl rfl) (fun _ _ _ _ h => h)) (pa_cons (pv 0) (pa_cons (pv 1) pa_nil))) (pa_cons (pe_un un_neg (pv 2)) pa_nil)))))) pss_nil)
      (pss_cons (ps_set (i := 3) sc_power.nd rfl (Or.inl rfl) (pe_op op_mod pe_int (pv 0)))
      (pss_cons (ps_set (i := 4) sc_power.nd rfl (Or.inl rfl) (pe_op op_mod (pv 1) (pv 0)))
      (pss_cons (ps_while (passes_of rfl) (pt_cmpR op_gt (pv 2) pe_int (nomark _)) (pss_cons (ps_if (pt_cmpR op_eq (pe_op op_mod (pv 2) pe_int) pe_int (nomark _)) (pss_one (ps_set (i := 3) sc_power.nd rfl (Or.inl rfl) (pe_op op_mod (pe_op op_mulW (pv 3) (pv 4)) (pv 0)))) pss_nil)
      (pss_cons (ps_set (i := 4) sc_power.nd rfl (Or.inl rfl) (pe_op op_mod (pe_op op_mulW (pv 4) (pv 4)) (pv 0)))
      (pss_one (ps_set (i := 2) sc_power.nd rfl (Or.inl rfl) (pe_op op_fdivW (pv 2) pe_int))))))
      (pss_one (ps_ret (pv 3))))))), ?_⟩)
  · obtain ⟨n, a, e, rfl, _⟩ := h; rfl
  · obtain ⟨n, a, e, rfl, h0, hn, c, k1, k2⟩ := h
    walk_at "g"
    refine s_itP c ?_
    walk_at "g"
    refine ⟨n, a, rfl, h0, hn, fun g1 H' b hs b0 b1 hb => ?_, fun g1 d H' hd hs hx => k2 g1 d H' hd hs hx⟩
    walk_at "g"
    refine ⟨n, b, (-e).toNat, ?_, h0, hn, k1 g1 H' b hs b0 b1 hb⟩
    have : -e = ((-e).toNat : Int) := by omega
    rw [← this]; rfl
theorem ok_power (T : Txt K mg) : FnOk P w K mg base (L2.CX P w) 7 (He.ga K "power") (fd_power T) ["n", "a", "e"] (sp_power K) := by
  refine fn_or ((ok_power0 T).mono (by decide)) (ok_powerN T) fun vs H Q E ⟨n, a, e, ev, h0, hn, k0, k1, k2⟩ => ?_
  subst ev
  by_cases c : e < 0
  · exact .inr ⟨n, a, e, rfl, h0, hn, c, k1 c, k2 c⟩
  · refine .inl ⟨n, a, e.toNat, ?_, h0, hn, k0 (by omega)⟩
    have : e = (e.toNat : Int) := by omega
    rw [← this]
theorem pos_power {H : Hp} {Q : VK} {E : XK} {n a e : Int} {m : Nat} (he : e = m) (h0 : 0 < n) (hn : n.natAbs < 2 ^ 900) (k : Q (.int (M.pw n a m)) H) : sp_power K [.int n, .int a, .int e] H Q E :=
  ⟨n, a, e, rfl, h0, hn, fun _ => by rw [show e.toNat = m by omega]; exact k, fun c => by omega, fun c => by omega⟩

theorem prodL_pos0 : ∀ {l : List (Nat × Nat)}, (∀ x ∈ l, 0 < x.1) → 0 < M.prodL l
  | [], _ => by decide
  | x :: l, h => Nat.mul_pos (Nat.pow_pos (h x (by simp))) (prodL_pos0 fun y hy => h y (by simp [hy]))
theorem prodL_take_le {l : List (Nat × Nat)} (h : ∀ x ∈ l, 0 < x.1) (i : Nat) : M.prodL (l.take i) ≤ M.prodL l := by
  conv => rhs; rw [← List.take_append_drop i l, M.prodL_app]
  exact Nat.le_mul_of_pos_right _ (prodL_pos0 fun x hx => h x (List.mem_of_mem_drop hx))
theorem prodL_one (x : Nat × Nat) (l : List (Nat × Nat)) : M.prodL (l ++ [x]) = M.prodL l * x.1 ^ x.2 := by rw [M.prodL_app]; simp [M.prodL]
theorem fac_many {F : Nat} {l : List (Nat × Nat)} (h : M.IsFac F l) (h0 : 0 < F) {x : Nat × Nat} (hx : x ∈ l) (hF : F < 2 ^ 200) : x.2 < 2 ^ 60 := by
  have h1 := M.prodL_dvd hx
  rw [h.prod] at h1
  have h2 := Nat.le_of_dvd h0 h1
  have h3 : 2 ^ x.2 ≤ x.1 ^ x.2 := Nat.pow_le_pow_left (h.primes x hx).1.1 _
  have h4 : x.2 < 200 := (Nat.pow_lt_pow_iff_right (by decide : 1 < 2)).mp (by omega)
  omega
theorem filter_take {α : Type} (P : α → Bool) {xs : List α} {i : Nat} {x : α} (h : xs[i]? = some x) : (xs.take (i + 1)).filter P = (xs.take i).filter P ++ (if P x = true then [x] else []) := by
  rw [take_more h, List.filter_append]
  congr 1
  cases e : P x <;> simp [e]

/-! data of any kind, as they lie in the heap; F tells of which lists -/
mutual
inductive DaF (F : Addr → Prop) (H : Hp) : V → PyData → Prop
  | non : DaF F H .non .none
  | bl (b : Bool) : DaF F H (.bl b) (.bool b)
  | int (i : Int) : DaF F H (.int i) (.int i)
  | str (x : Str) : DaF F H (.str x) (.str x)
  | lst {a : Addr} {xs : List V} {ds : List PyData} (e : H a = some (.lst xs)) (h : DaL F H xs ds) (f : F a) : DaF F H (.ref a) (.list ds)
  | tup {a : Addr} {xs : List V} {ds : List PyData} (e : H a = some (.tup xs)) (h : DaL F H xs ds) : DaF F H (.ref a) (.tuple ds)
inductive DaL (F : Addr → Prop) (H : Hp) : List V → List PyData → Prop
  | nil : DaL F H [] []
  | cons {v : V} {d : PyData} {vs : List V} {ds : List PyData} (h : DaF F H v d) (t : DaL F H vs ds) : DaL F H (v :: vs) (d :: ds)
end
/-- data with any lists; data without lists -/
abbrev Da (H : Hp) : V → PyData → Prop := DaF (fun _ => True) H
abbrev Tu (H : Hp) : V → PyData → Prop := DaF (fun _ => False) H
mutual
theorem DaF.same {F : Addr → Prop} {H H' : Hp} (s : Same H H') : ∀ {v : V} {d : PyData}, DaF F H v d → DaF F H' v d
  | _, _, .non => .non
  | _, _, .bl b => .bl b
  | _, _, .int i => .int i
  | _, _, .str x => .str x
  | _, _, .lst e h f => .lst (s _ _ e) (DaL.same s h) f
  | _, _, .tup e h => .tup (s _ _ e) (DaL.same s h)
theorem DaL.same {F : Addr → Prop} {H H' : Hp} (s : Same H H') : ∀ {vs : List V} {ds : List PyData}, DaL F H vs ds → DaL F H' vs ds
  | _, _, .nil => .nil
  | _, _, .cons h t => .cons (DaF.same s h) (DaL.same s t)
end
mutual
theorem DaF.mono {F G : Addr → Prop} {H : Hp} (g : ∀ a, F a → G a) : ∀ {v : V} {d : PyData}, DaF F H v d → DaF G H v d
  | _, _, .non => .non
  | _, _, .bl b => .bl b
  | _, _, .int i => .int i
  | _, _, .str x => .str x
  | _, _, .lst e h f => .lst e (DaL.mono g h) (g _ f)
  | _, _, .tup e h => .tup e (DaL.mono g h)
theorem DaL.mono {F G : Addr → Prop} {H : Hp} (g : ∀ a, F a → G a) : ∀ {vs : List V} {ds : List PyData}, DaL F H vs ds → DaL G H vs ds
  | _, _, .nil => .nil
  | _, _, .cons h t => .cons (DaF.mono g h) (DaL.mono g t)
end
mutual
/-- a list that is none of them may change -/
theorem DaF.upd {F : Addr → Prop} {H : Hp} {p : Addr} {o : HO} {zs : List V} (hp : H p = some (.lst zs)) (n : ¬ F p) : ∀ {v : V} {d : PyData}, DaF F H v d → DaF F (L2.upd H p o) v d
  | _, _, .non => .non
  | _, _, .bl b => .bl b
  | _, _, .int i => .int i
  | _, _, .str x => .str x
  | _, _, @DaF.lst _ _ a _ _ e h f => .lst (by rw [upd_ne (show a ≠ p from fun z => n (z ▸ f))]; exact e) (DaL.upd hp n h) f
  | _, _, .tup e h => .tup (by rw [upd_ne (fun z => by rw [z, hp] at e; cases e)]; exact e) (DaL.upd hp n h)
theorem DaL.upd {F : Addr → Prop} {H : Hp} {p : Addr} {o : HO} {zs : List V} (hp : H p = some (.lst zs)) (n : ¬ F p) : ∀ {vs : List V} {ds : List PyData}, DaL F H vs ds → DaL F (L2.upd H p o) vs ds
  | _, _, .nil => .nil
  | _, _, .cons h t => .cons (DaF.upd hp n h) (DaL.upd hp n t)
end
mutual
theorem DaF.dp (K : PySem.W.Frag) {F : Addr → Prop} {H : Hp} : ∀ {v : V} {d : PyData}, DaF F H v d → Dp K H v d
  | _, _, .non => .non
  | _, _, .bl b => .bl b
  | _, _, .int i => .int i
  | _, _, .str x => .str x
  | _, _, .lst e h _ => .lst (SqL.of e) (DaL.dp K h)
  | _, _, .tup e h => .tup (SqT.of e) (DaL.dp K h)
theorem DaL.dp (K : PySem.W.Frag) {F : Addr → Prop} {H : Hp} : ∀ {vs : List V} {ds : List PyData}, DaL F H vs ds → DpAll K H vs ds
  | _, _, .nil => .nil
  | _, _, .cons h t => .cons (DaF.dp K h) (DaL.dp K t)
end
theorem DaF.any {F : Addr → Prop} {H : Hp} {v : V} {d : PyData} (h : DaF F H v d) : Da H v d := h.mono fun _ _ => trivial
theorem DaL.any {F : Addr → Prop} {H : Hp} {vs : List V} {ds : List PyData} (h : DaL F H vs ds) : DaL (fun _ => True) H vs ds := h.mono fun _ _ => trivial
theorem DaL.len {F : Addr → Prop} {H : Hp} : ∀ {vs : List V} {ds : List PyData}, DaL F H vs ds → vs.length = ds.length
  | _, _, .nil => rfl
  | _, _, .cons _ t => by rw [List.length_cons, List.length_cons, DaL.len t]
theorem DaL.get {F : Addr → Prop} {H : Hp} : ∀ {vs : List V} {ds : List PyData} {i : Nat} {v : V}, DaL F H vs ds → vs[i]? = some v → ∃ d, ds[i]? = some d ∧ DaF F H v d
  | _, _, _, _, .nil, e => by simp at e
  | _, _, 0, _, .cons h _, e => by simp at e; subst e; exact ⟨_, rfl, h⟩
  | _, _, i + 1, v, .cons _ t, e => by
    obtain ⟨d, h1, h2⟩ := DaL.get (i := i) t (by simpa using e)
    exact ⟨d, by simpa using h1, h2⟩
theorem DaL.get' {F : Addr → Prop} {H : Hp} : ∀ {vs : List V} {ds : List PyData} {i : Nat} {d : PyData}, DaL F H vs ds → ds[i]? = some d → ∃ v, vs[i]? = some v ∧ DaF F H v d
  | _, _, _, _, .nil, e => by simp at e
  | _, _, 0, _, .cons h _, e => by simp at e; subst e; exact ⟨_, rfl, h⟩
  | _, _, i + 1, d, .cons _ t, e => by
    obtain ⟨v, h1, h2⟩ := DaL.get' (i := i) t (by simpa using e)
    exact ⟨v, by simpa using h1, h2⟩
theorem DaL.app {F : Addr → Prop} {H : Hp} {ys : List V} {es : List PyData} (h' : DaL F H ys es) : ∀ {vs : List V} {ds : List PyData}, DaL F H vs ds → DaL F H (vs ++ ys) (ds ++ es)
  | _, _, .nil => h'
  | _, _, .cons h t => .cons h (DaL.app h' t)
theorem DaL.take {F : Addr → Prop} {H : Hp} : ∀ {vs : List V} {ds : List PyData} (n : Nat), DaL F H vs ds → DaL F H (vs.take n) (ds.take n)
  | _, _, 0, _ => by simp; exact .nil
  | _, _, _ + 1, .nil => .nil
  | _, _, n + 1, .cons h t => .cons h (DaL.take n t)
theorem DaL.drop {F : Addr → Prop} {H : Hp} : ∀ {vs : List V} {ds : List PyData} (n : Nat), DaL F H vs ds → DaL F H (vs.drop n) (ds.drop n)
  | _, _, 0, h => h
  | _, _, _ + 1, .nil => .nil
  | _, _, n + 1, .cons _ t => DaL.drop n t
theorem DaL.cut {F : Addr → Prop} {H : Hp} {vs : List V} {ds : List PyData} (h : DaL F H vs ds) (lo hi : Option Int) : ∃ n m, DaL F H (cutV vs lo hi) ((ds.drop n).take m) := ⟨_, _, (h.drop _).take _⟩
theorem DaL.rev {F : Addr → Prop} {H : Hp} : ∀ {vs : List V} {ds : List PyData}, DaL F H vs ds → DaL F H vs.reverse ds.reverse
  | _, _, .nil => .nil
  | _, _, .cons h t => by rw [List.reverse_cons, List.reverse_cons]; exact DaL.app (.cons h .nil) (DaL.rev t)
theorem DaL.two {F : Addr → Prop} {H : Hp} {vs : List V} {d e : PyData} {ds : List PyData} (h : DaL F H vs (d :: e :: ds)) : ∃ x y ys, vs = x :: y :: ys ∧ DaF F H x d ∧ DaF F H y e ∧ DaL F H ys ds := by
  cases h with
  | cons h t => cases t with
    | cons h2 t => exact ⟨_, _, _, rfl, h, h2, t⟩
theorem DaL.three {F : Addr → Prop} {H : Hp} {vs : List V} {d e f : PyData} {ds : List PyData} (h : DaL F H vs (d :: e :: f :: ds)) : ∃ x y z ys, vs = x :: y :: z :: ys ∧ DaF F H x d ∧ DaF F H y e ∧ DaF F H z f ∧ DaL F H ys ds := by
  obtain ⟨x, y, ys, rfl, h1, h2, h3⟩ := h.two
  cases h3 with
  | cons h3 t => exact ⟨_, _, _, _, rfl, h1, h2, h3, t⟩
/-- the kind's name -/
def tyN : PyData → String
  | .none => "NoneType"
  | .bool _ => "bool"
  | .int _ => "int"
  | .str _ => "str"
  | .list _ => "list"
  | .tuple _ => "tuple"
  | .dict _ => "dict"
theorem DaF.ty {K : PySem.W.Frag} {F : Addr → Prop} {H : Hp} {v : V} {d : PyData} (h : DaF F H v d) : TyOf K H v (.type (tyN d)) := by
  cases h with
  | non => exact .non
  | bl b => exact .bl b
  | int i => exact .int i
  | str x => exact .str x
  | lst e _ => exact .lst e
  | tup e _ => exact .tup e
def isInt : PyData → Bool
  | .int _ => true
  | .bool _ => true
  | _ => false
def isBool : PyData → Bool
  | .bool _ => true
  | _ => false
def isTup : PyData → Bool
  | .tuple _ => true
  | _ => false
def isLst : PyData → Bool
  | .list _ => true
  | _ => false
theorem kb_si : kitB "str" "int" = some false := by decide +kernel
theorem kb_sb : kitB "str" "bool" = some false := by decide +kernel
theorem kb_st : kitB "str" "tuple" = some false := by decide +kernel
theorem kb_sl : kitB "str" "list" = some false := by decide +kernel
theorem kb_lb : kitB "list" "bool" = some false := by decide +kernel
theorem kb_tb : kitB "tuple" "bool" = some false := by decide +kernel
section
variable {K : PySem.W.Frag} {F : Addr → Prop} {H : Hp} {Q : VK} {v : V} {d : PyData}
theorem s_isiInt (h : DaF F H v d) (q : Q (.bl (isInt d)) H) : rIsi K [v, .ty "int"] H Q := by
  cases h with
  | non => exact s_isi .non kb_ni q
  | bl b => exact s_isi (.bl b) kb_bi q
  | int i => exact s_isi (.int i) kb_ii q
  | str x => exact s_isi (.str x) kb_si q
  | lst e _ => exact s_isi (.lst e) kb_li q
  | tup e _ => exact s_isi (.tup e) kb_ti q
theorem s_isiBool (h : DaF F H v d) (q : Q (.bl (isBool d)) H) : rIsi K [v, .ty "bool"] H Q := by
  cases h with
  | non => exact s_isi .non kb_nb q
  | bl b => exact s_isi (.bl b) kb_bb q
  | int i => exact s_isi (.int i) kb_ib q
  | str x => exact s_isi (.str x) kb_sb q
  | lst e _ => exact s_isi (.lst e) kb_lb q
  | tup e _ => exact s_isi (.tup e) kb_tb q
theorem s_isiTup (h : DaF F H v d) (q : Q (.bl (isTup d)) H) : rIsi K [v, .ty "tuple"] H Q := by
  cases h with
  | non => exact s_isi .non kb_nt q
  | bl b => exact s_isi (.bl b) kb_bt q
  | int i => exact s_isi (.int i) kb_it q
  | str x => exact s_isi (.str x) kb_st q
  | lst e _ => exact s_isi (.lst e) kb_lt q
  | tup e _ => exact s_isi (.tup e) kb_tt q
theorem s_isiLst (h : DaF F H v d) (q : Q (.bl (isLst d)) H) : rIsi K [v, .ty "list"] H Q := by
  cases h with
  | non => exact s_isi .non kb_nl q
  | bl b => exact s_isi (.bl b) kb_bl q
  | int i => exact s_isi (.int i) kb_il q
  | str x => exact s_isi (.str x) kb_sl q
  | lst e _ => exact s_isi (.lst e) kb_ll q
  | tup e _ => exact s_isi (.tup e) kb_tl q
end
/-- not too deep, not too long, no great numbers -/
inductive Bd : Nat → PyData → Prop
  | non {n : Nat} : Bd n .none
  | bl {n : Nat} (b : Bool) : Bd n (.bool b)
  | int {n : Nat} {i : Int} (h : i.natAbs < 2 ^ 300) : Bd n (.int i)
  | str {n : Nat} (x : Str) (h : PyData.strOk x = true) : Bd n (.str x)
  | lst {n : Nat} {ds : List PyData} (l : ds.length ≤ 1999) (h : ∀ d ∈ ds, Bd n d) : Bd (n + 1) (.list ds)
  | tup {n : Nat} {ds : List PyData} (l : ds.length ≤ 999) (h : ∀ d ∈ ds, Bd n d) : Bd (n + 1) (.tuple ds)
theorem Bd.mono : ∀ {n m : Nat} {d : PyData}, Bd n d → n ≤ m → Bd m d := by
  intro n m d h
  induction h generalizing m with
  | non => intro _; exact .non
  | bl b => intro _; exact .bl b
  | int h => intro _; exact .int h
  | str x h => intro _; exact .str x h
  | lst l _ ih =>
    intro e
    obtain ⟨k, rfl⟩ : ∃ k, m = k + 1 := ⟨m - 1, by omega⟩
    exact .lst l fun d hd => ih d hd (by omega)
  | tup l _ ih =>
    intro e
    obtain ⟨k, rfl⟩ : ∃ k, m = k + 1 := ⟨m - 1, by omega⟩
    exact .tup l fun d hd => ih d hd (by omega)
theorem Bd.tup_inv {n : Nat} {ds : List PyData} (h : Bd n (.tuple ds)) : ∃ m, n = m + 1 ∧ ds.length ≤ 999 ∧ ∀ d ∈ ds, Bd m d := by
  cases h with
  | tup l h => exact ⟨_, rfl, l, h⟩
theorem Bd.lst_inv {n : Nat} {ds : List PyData} (h : Bd n (.list ds)) : ∃ m, n = m + 1 ∧ ds.length ≤ 1999 ∧ ∀ d ∈ ds, Bd m d := by
  cases h with
  | lst l h => exact ⟨_, rfl, l, h⟩
theorem Bd.int_inv {n : Nat} {i : Int} (h : Bd n (.int i)) : i.natAbs < 2 ^ 300 := by
  cases h with
  | int h => exact h
theorem Bd.lay {n : Nat} {d : PyData} (h : Bd n d) : d.canLay0 = true ∧ d.depth ≤ n := by
  induction h with
  | non => exact ⟨by simp [PyData.canLay0], by simp [PyData.depth]⟩
  | bl b => exact ⟨by simp [PyData.canLay0], by simp [PyData.depth]⟩
  | int h => exact ⟨by simp [PyData.canLay0], by simp [PyData.depth]⟩
  | str x h => exact ⟨by simp [PyData.canLay0, h], by simp [PyData.depth]⟩
  | lst l _ ih => exact ⟨by simp only [PyData.canLay0]; exact layAll fun d hd => (ih d hd).1, by simp only [PyData.depth]; have := depAll fun d hd => (ih d hd).2; omega⟩
  | tup l _ ih => exact ⟨by simp only [PyData.canLay0]; exact layAll fun d hd => (ih d hd).1, by simp only [PyData.depth]; have := depAll fun d hd => (ih d hd).2; omega⟩
theorem Bd.shaped {n : Nat} {d : PyData} (h : Bd n d) (hn : n ≤ 64) : SeqAt.shaped d = true := by
  unfold SeqAt.shaped
  rw [h.lay.1, Bool.true_and]
  exact decide_eq_true (Nat.le_trans h.lay.2 hn)
/-- a whole number from l on -/
def isW (l : Int) : PyData → Bool
  | .int i => decide (l ≤ i)
  | _ => false
/-- a tuple of k things -/
def isR (k : Int) : PyData → Bool
  | .tuple ds => decide ((ds.length : Int) = k)
  | _ => false
theorem isW_inv {l : Int} {d : PyData} (h : isW l d = true) : ∃ i, d = .int i ∧ l ≤ i := by
  cases d <;> first | exact ⟨_, rfl, of_decide_eq_true h⟩ | cases h
theorem isR_inv {k : Int} {d : PyData} (h : isR k d = true) : ∃ ds, d = .tuple ds ∧ (ds.length : Int) = k := by
  cases d <;> first | exact ⟨_, rfl, of_decide_eq_true h⟩ | cases h
theorem isW_int (l i : Int) : isW l (.int i) = decide (l ≤ i) := rfl
theorem isR_tup (k : Int) (ds : List PyData) : isR k (.tuple ds) = decide ((ds.length : Int) = k) := rfl
/-- the same, to be computed -/
def bdB : Nat → PyData → Bool
  | _, .none => true
  | _, .bool _ => true
  | _, .int i => decide (i.natAbs < 2 ^ 300)
  | _, .str x => PyData.strOk x
  | n + 1, .list ds => decide (ds.length ≤ 1999) && ds.all (bdB n)
  | n + 1, .tuple ds => decide (ds.length ≤ 999) && ds.all (bdB n)
  | _, _ => false
theorem bdB_ok : ∀ {n : Nat} {d : PyData}, bdB n d = true → Bd n d
  | _, .none, _ => .non
  | _, .bool b, _ => .bl b
  | _, .int i, h => .int (by simpa [bdB] using h)
  | _, .str x, h => .str x (by simpa [bdB] using h)
  | n + 1, .list ds, h => by
    simp only [bdB, Bool.and_eq_true, decide_eq_true_eq, List.all_eq_true] at h
    exact .lst h.1 fun d hd => bdB_ok (h.2 d hd)
  | n + 1, .tuple ds, h => by
    simp only [bdB, Bool.and_eq_true, decide_eq_true_eq, List.all_eq_true] at h
    exact .tup h.1 fun d hd => bdB_ok (h.2 d hd)
  | 0, .list _, h => by simp [bdB] at h
  | 0, .tuple _, h => by simp [bdB] at h
  | 0, .dict _, h => by simp [bdB] at h
  | _ + 1, .dict _, h => by simp [bdB] at h

/-! papers among the data -/
def papOf : PyData → PyData
  | .tuple (d :: _) => d
  | _ => .none
def pOf : PyData → Nat
  | .tuple (.int p :: _) => p.toNat
  | _ => 0
def bOf : PyData → Nat
  | .tuple (_ :: .int b :: _) => b.toNat
  | _ => 0
def qOf (d : PyData) : Nat := pOf (papOf d)
def facD (ds : List PyData) : List (Nat × Nat) := ds.map fun d => (qOf d, bOf d)
inductive IsPap : PyData → Prop
  | mk (p f : Nat) (ds : List PyData) (h2 : 2 ≤ p) (f1 : 1 ≤ f) (f2 : f < p) (hq : ∀ d ∈ ds, IsPap (papOf d)) (hr : ∀ d ∈ ds, ∃ pap b, 1 ≤ b ∧ d = .tuple [pap, .int (b : Nat)])
      (srt : (facD ds).Pairwise fun a b => a.1 < b.1) (prod : M.prodL (facD ds) = p - 1) (one : M.pw p f (p - 1) = 1) (no : ∀ d ∈ ds, M.pw p f ((p - 1) / qOf d) ≠ 1) : IsPap (.tuple [.int (p : Nat), .int (f : Nat), .tuple ds])
theorem facD_mem {ds : List PyData} {d : PyData} (h : d ∈ ds) : (qOf d, bOf d) ∈ facD ds := List.mem_map.mpr ⟨d, h, rfl⟩
theorem IsPap.prime {d : PyData} (h : IsPap d) : M.Prime (pOf d) := by
  induction h with
  | mk p f ds h2 f1 f2 hq hr srt prod one no ih =>
    show M.Prime ((p : Int).toNat)
    rw [Int.toNat_natCast]
    refine M.lucas h2 (a := f) (M.ord_of_primesN ((M.pw_one_iff h2).mp one) (by omega) fun q hq' hd z => ?_)
    obtain ⟨k, hk⟩ := M.prime_in' hq' (l := facD ds) (fun x hx => by
      obtain ⟨d, hd, rfl⟩ := List.mem_map.mp hx
      exact ih d hd) (by rw [prod]; exact hd)
    obtain ⟨d, hd, e⟩ := List.mem_map.mp hk
    have e1 : qOf d = q := (Prod.mk.inj e).1
    exact no d hd (by rw [e1]; exact (M.pw_one_iff h2).mpr z)
theorem IsPap.inv {d : PyData} (h : IsPap d) : ∃ (p f : Nat) (ds : List PyData), d = .tuple [.int (p : Nat), .int (f : Nat), .tuple ds] ∧ M.Prime p ∧ 1 ≤ f ∧ f < p ∧ (∀ d ∈ ds, IsPap (papOf d)) ∧ (∀ d ∈ ds, ∃ pap b, 1 ≤ b ∧ d = .tuple [pap, .int (b : Nat)]) ∧ M.IsFac (p - 1) (facD ds) ∧ M.Ord p f (p - 1) := by
  have hp := h.prime
  cases h with
  | mk p f ds h2 f1 f2 hq hr srt prod one no =>
    have hp' : M.Prime p := by
      have : pOf (.tuple [.int (p : Nat), .int (f : Nat), .tuple ds]) = p := Int.toNat_natCast p
      rwa [this] at hp
    have hl : M.IsFac (p - 1) (facD ds) := ⟨srt, fun x hx => by
      obtain ⟨d, hd, rfl⟩ := List.mem_map.mp hx
      obtain ⟨pap, b, hb, e⟩ := hr d hd
      refine ⟨(hq d hd).prime, ?_⟩
      rw [e]
      show 0 < ((b : Int)).toNat
      omega, prod⟩
    refine ⟨p, f, ds, rfl, hp', f1, f2, hq, hr, hl, (M.full_iff hp' (M.un_small (by omega) (by omega)) hl).mpr fun x hx => ?_⟩
    obtain ⟨d, hd, rfl⟩ := List.mem_map.mp hx
    exact no d hd
/-- a row that begins with a paper and a number -/
def RowK (k : Nat) (d : PyData) : Prop := ∃ (pap : PyData) (b : Nat) (rest : List PyData), d = .tuple (pap :: .int (b : Nat) :: rest) ∧ rest.length + 2 = k ∧ IsPap pap ∧ 1 ≤ b
/-- such rows, their primes above l and rising -/
def Rws (k : Nat) : Nat → List PyData → Prop
  | _, [] => True
  | l, d :: ds => RowK k d ∧ l < qOf d ∧ Rws k (qOf d) ds
theorem Rws.all {k : Nat} : ∀ {l : Nat} {ds : List PyData}, Rws k l ds → ∀ d ∈ ds, RowK k d ∧ l < qOf d
  | _, [], _, _, h => by simp at h
  | l, d :: ds, h, e, he => by
    rcases List.mem_cons.mp he with z | z
    · subst z; exact ⟨h.1, h.2.1⟩
    · have := Rws.all h.2.2 e z
      exact ⟨this.1, Nat.lt_trans h.2.1 this.2⟩
theorem Rws.sorted {k : Nat} : ∀ {l : Nat} {ds : List PyData}, Rws k l ds → (facD ds).Pairwise fun a b => a.1 < b.1
  | _, [], _ => .nil
  | l, d :: ds, h => List.pairwise_cons.mpr ⟨fun x hx => by
      obtain ⟨e, he, rfl⟩ := List.mem_map.mp hx
      exact (Rws.all h.2.2 e he).2, Rws.sorted h.2.2⟩
theorem Rws.of {k : Nat} : ∀ {l : Nat} {ds : List PyData}, (∀ d ∈ ds, RowK k d ∧ l < qOf d) → (facD ds).Pairwise (fun a b => a.1 < b.1) → Rws k l ds
  | _, [], _, _ => trivial
  | l, d :: ds, h, s => by
    have s' := List.pairwise_cons.mp s
    exact ⟨(h d (by simp)).1, (h d (by simp)).2, Rws.of (fun e he => ⟨(h e (by simp [he])).1, s'.1 _ (facD_mem he)⟩) s'.2⟩
theorem RowK.pap {k : Nat} {d : PyData} (h : RowK k d) : IsPap (papOf d) := by
  obtain ⟨pap, b, rest, rfl, _, h, _⟩ := h; exact h
theorem RowK.two {k : Nat} {d : PyData} (h : RowK k d) : 2 ≤ qOf d := h.pap.prime.1
theorem Rws.fac {k l : Nat} {ds : List PyData} (h : Rws k l ds) : M.IsFac (M.prodL (facD ds)) (facD ds) := ⟨h.sorted, fun x hx => by
  obtain ⟨d, hd, rfl⟩ := List.mem_map.mp hx
  obtain ⟨pap, b, rest, e, _, h1, h2⟩ := (h.all d hd).1
  subst e
  exact ⟨h1.prime, by show 0 < ((b : Int)).toNat; omega⟩, rfl⟩
/-- a parting paper of k -/
def IsPart (k : Int) (d : PyData) : Prop := ∃ ds, d = .tuple ds ∧ 1 ≤ k ∧ Rws 2 1 ds ∧ k = (M.prodL (facD ds) : Nat)
theorem isPap_iff {p f : Int} {d : PyData} (hp : 2 ≤ p) (hf : 1 ≤ f) : IsPap (.tuple [.int p, .int f, d]) ↔ f < p ∧ IsPart (p - 1) d ∧ M.pw p f (p - 1).toNat = 1 ∧ ∀ ds, d = .tuple ds → ∀ e ∈ ds, M.pw p f ((p - 1).toNat / qOf e) ≠ 1 := by
  obtain ⟨p, rfl⟩ := Int.eq_ofNat_of_zero_le (show 0 ≤ p by omega)
  obtain ⟨f, rfl⟩ := Int.eq_ofNat_of_zero_le (show 0 ≤ f by omega)
  have e1 : ((p : Int) - 1).toNat = p - 1 := by omega
  rw [e1]
  constructor
  · intro h
    cases h with
    | mk _ _ ds h2 f1 f2 hq hr srt prod one no =>
      refine ⟨by omega, ⟨ds, rfl, by omega, Rws.of (fun d hd => ?_) srt, by rw [prod]; omega⟩, one, fun ds' e => by cases e; exact no⟩
      obtain ⟨pap, b, hb, e⟩ := hr d hd
      have hpap := hq d hd
      exact ⟨⟨pap, b, [], e, rfl, by rw [e] at hpap; exact hpap, hb⟩, hpap.prime.1⟩
  · rintro ⟨h1, ⟨ds, rfl, h2, h3, h4⟩, one, no⟩
    refine .mk p f ds (by omega) (by omega) (by omega) (fun d hd => (h3.all d hd).1.pap) (fun d hd => ?_) h3.sorted (by omega) one (no ds rfl)
    obtain ⟨pap, b, rest, e, hl, _, hb⟩ := (h3.all d hd).1
    have : rest = [] := List.eq_nil_of_length_eq_zero (by omega)
    subst this
    exact ⟨pap, b, hb, e⟩
/-- a paper's first part in the heap -/
theorem DaF.pap {F : Addr → Prop} {H : Hp} {v : V} {d : PyData} (h : DaF F H v d) (hp : IsPap d) : ∃ (t : Addr) (xs : List V), v = .ref t ∧ H t = some (.tup (.int (pOf d : Nat) :: xs)) := by
  obtain ⟨p, f, ds, rfl, _⟩ := hp.inv
  cases h with
  | tup e h =>
    obtain ⟨x, y, z, ys, rfl, h1, _⟩ := h.three
    cases h1
    exact ⟨_, y :: z :: ys, rfl, e⟩
theorem DaF.row {F : Addr → Prop} {H : Hp} {v : V} {d : PyData} {k : Nat} (h : DaF F H v d) (hr : RowK k d) : ∃ (t s : Addr) (xs ys : List V), v = .ref t ∧ H t = some (.tup (.ref s :: .int (bOf d : Nat) :: xs)) ∧ H s = some (.tup (.int (qOf d : Nat) :: ys)) := by
  obtain ⟨pap, b, rest, rfl, _, hp, _⟩ := hr
  cases h with
  | tup e h =>
    obtain ⟨x, y, ys, rfl, h1, h2, h3⟩ := h.two
    cases h2
    obtain ⟨s, xs, rfl, es⟩ := h1.pap hp
    exact ⟨_, s, ys, xs, rfl, e, es⟩
/-- is_whole(thing, least) -/
def sp_is_whole : Sp := fun vs H Q _ => ∃ (v : V) (d : PyData) (l : Int), vs = [v, .int l] ∧ Da H v d ∧ Q (.bl (isW l d)) H
theorem ok_is_whole (T : Txt K mg) : FnOk P w K mg base CX0 1 (He.ga K "is_whole") (fd_is_whole T) ["thing", "least"] sp_is_whole := by
  refine (F_is_whole T).ok sc_is_whole (fun vs H Q E h => ?_) (fun cdv A outer s H vs Q E hr h => ⟨_, PSs.nox (pss_one (ps_ret (pe_and (pe_callB call_isi rfl (T.fr (T.c.fact 59 rfl)) boot_isinstance (pa_cons (pv 0) (pa_cons (pe_bltn (v := .ty "int") rfl (T.fr (T.c.fact 60 rfl)) boot_int rfl) pa_nil))) (pe_and (pe_not (pe_callB call_isi rfl (T.fr (T.c.fact 59 rfl)) boot_isinstance (pa_cons (pv 0) (pa_cons (pe_bltn (v := .ty "bool") rfl (T.fr (T.c.fact 61 rfl)) boot_bool rfl) pa_nil)))) (pe_one (pe_cmpR op_ge (pv 0) (pv 1) (nomark _))))))), ?_⟩)
  · obtain ⟨v, d, l, rfl, _⟩ := h; rfl
  · obtain ⟨v, d, l, rfl, hd, k⟩ := h
    cases hd with
    | non => walk_at "g"; refine s_isi .non kb_ni ?_; walk_at "g"; exact k
    | bl b => walk_at "g"; refine s_isi (.bl b) kb_bi ?_; walk_at "g"; refine s_isi (.bl b) kb_bb ?_; walk_at "g"; exact k
    | int i => walk_at "g"; exact k
    | str x => walk_at "g"; refine s_isi (.str x) kb_si ?_; walk_at "g"; exact k
    | lst e _ => walk_at "g"; refine s_isi (.lst e) kb_li ?_; walk_at "g"; exact k
    | tup e _ => walk_at "g"; refine s_isi (.tup e) kb_ti ?_; walk_at "g"; exact k
/-- is_row_of(thing, many) -/
def sp_is_row_of : Sp := fun vs H Q _ => ∃ (v : V) (d : PyData) (k : Int), vs = [v, .int k] ∧ Da H v d ∧ Q (.bl (isR k d)) H
theorem ok_is_row_of (T : Txt K mg) : FnOk P w K mg base CX0 1 (He.ga K "is_row_of") (fd_is_row_of T) ["thing", "many"] sp_is_row_of := by
  refine (F_is_row_of T).ok sc_is_row_of (fun vs H Q E h => ?_) (fun cdv A outer s H vs Q E hr h => ⟨_, PSs.nox (pss_one (ps_ret (pe_and (pe_callB call_isi rfl (T.fr (T.c.fact 59 rfl)) boot_isinstance (pa_cons (pv 0) (pa_cons (pe_bltn (v := .ty "tuple") rfl (T.fr (T.c.fact 58 rfl)) boot_tuple rfl) pa_nil))) (pe_one (pe_cmpR op_eq (pe_callB callLen rfl (T.fr (T.c.fact 62 rfl)) boot_len (pa_cons (pv 0) pa_nil)) (pv 1) (nomark _)))))), ?_⟩)
  · obtain ⟨v, d, k, rfl, _⟩ := h; rfl
  · obtain ⟨v, d, k, rfl, hd, q⟩ := h
    cases hd with
    | non => walk_at "g"; refine s_isi .non kb_nt ?_; walk_at "g"; exact q
    | bl b => walk_at "g"; refine s_isi (.bl b) kb_bt ?_; walk_at "g"; exact q
    | int i => walk_at "g"; refine s_isi (.int i) kb_it ?_; walk_at "g"; exact q
    | str x => walk_at "g"; refine s_isi (.str x) kb_st ?_; walk_at "g"; exact q
    | lst e _ => walk_at "g"; refine s_isi (.lst e) kb_lt ?_; walk_at "g"; exact q
    | tup e h =>
      walk_at "g"; refine s_isi (.tup e) kb_tt ?_; walk_at "g"
      refine s_lenT (SqT.of e) ?_
      walk_at "g"
      rw [h.len]
      exact q
/-- comes_to(things, n) -/
def sp_comes_to : Sp := fun vs H Q _ => ∃ (u : Addr) (xs : List V) (ds : List PyData) (k : Nat) (n : Int), vs = [.ref u, .int n] ∧ H u = some (.tup xs) ∧ DaL (fun _ => True) H xs ds ∧ (∀ d ∈ ds, RowK k d) ∧ (∀ d ∈ ds, qOf d < 2 ^ 300) ∧ n.natAbs < 2 ^ 900 ∧
  ∀ b : Bool, (b = true ↔ n = (M.prodL (facD ds) : Nat)) → Q (.bl b) H
theorem ok_comes_to (T : Txt K mg) : FnOk P w K mg base CX0 1 (He.ga K "comes_to") (fd_comes_to T) ["things", "n"] sp_comes_to := by
  refine (F_comes_to T).ok sc_comes_to (fun vs H Q E h => ?_) (fun cdv A outer s H vs Q E hr h => ⟨_, PSs.nox (pss_cons (ps_for PassesOwn.never rfl (pi_tup (pv 0)) (pg_name (i := 2) sc_comes_to.nd rfl (Or.inl rfl)) (pss_one (ps_for PassesOwn.never rfl (RLong.pi_rangeW rfl (T.fr (T.c.fact 54 rfl)) (pa_cons (pe_ix ix_seq (pv 2) pe_int (fun _ _ => rfl)) pa_nil)) (pg_name (i := 3) sc_comes_to.nd rfl (Or.inl rfl)) (pss_cons (ps_if (PW.pt (pw_or (pt_cmpR op_lt (pv 1) pe_int (nomark _)) (pw_or1 (pt_cmpR op_ne (pe_op op_mod (pv 1) (pe_ix ix_seq (pe_ix ix_seq (pv 2) pe_int (fun _ _ => rfl)) pe_int (fun _ _ => rfl))) pe_int (nomark _))))) (pss_one (ps_ret pe_bl)) pss_nil)
      (pss_one (ps_set (i := 1) sc_comes_to.nd rfl (Or.inl rfl) (pe_op op_fdivW (pv 1) (pe_ix ix_seq (pe_ix ix_seq (pv 2) pe_int (fun _ _ => rfl)) pe_int (fun _ _ => rfl)))))))))
      (pss_one (ps_ret (pe_cmpR op_eq (pv 1) pe_int (nomark _))))), ?_⟩)
  · obtain ⟨u, xs, ds, k, n, rfl, _⟩ := h; rfl
  · obtain ⟨u, xs, ds, k, n0, rfl, eu, hds, hrow, hqb, hnb, kk⟩ := h
    have pos : ∀ i, 0 < M.prodL (facD (ds.drop i)) := fun i => prodL_pos0 fun x hx => by
      obtain ⟨d, hd, rfl⟩ := List.mem_map.mp hx
      have := (hrow d (List.mem_of_mem_drop hd)).two
      show 0 < qOf d
      omega
    walk_at "g"
    refine ⟨⟨_, SqT.of eu⟩, ?_⟩
    refine for_tup (fun i σ H' => H' = H ∧ ∃ (n : Int) (v1 v2 : Option V), σ = [some (.ref u), some (.int n), v1, v2] ∧ n.natAbs < 2 ^ 900 ∧ (n0 = (M.prodL (facD ds) : Nat) ↔ n = (M.prodL (facD (ds.drop i)) : Nat))) ⟨rfl, n0, none, none, rfl, hnb, by rw [List.drop_zero]⟩ (fun i σ H' _ I => by rw [I.1]; exact SqT.of eu) ?_ ?_
    · rintro i x σ H' hi ⟨rfl, n, v1, v2, rfl, nb, inv⟩
      obtain ⟨d, hdi, hd⟩ := hds.get hi
      have hmem := List.mem_of_getElem? hdi
      obtain ⟨t, s, ys, zs, rfl, et, es⟩ := hd.row (hrow d hmem)
      have q2 := (hrow d hmem).two
      have qb := hqb d hmem
      have hil : i < ds.length := (List.getElem?_eq_some_iff.mp hdi).1
      have hdr : ds.drop i = d :: ds.drop (i + 1) := by
        rw [List.drop_eq_getElem_cons hil, (List.getElem?_eq_some_iff.mp hdi).2]
      rw [hdr] at inv
      have hR0 := pos (i + 1)
      have e0 : M.prodL (facD (d :: ds.drop (i + 1))) = qOf d ^ bOf d * M.prodL (facD (ds.drop (i + 1))) := rfl
      rw [e0] at inv
      generalize M.prodL (facD (ds.drop (i + 1))) = R at inv hR0 ⊢
      generalize qOf d = q at *
      generalize bOf d = b at *
      walk_at "g"
      refine s_rngW ?_
      walk_at "g"
      refine s_ixT (SqT.of et) (atI0 1 rfl rfl) ?_
      walk_at "g"
      refine mkRW b (by show (b : Int).toNat = b; omega) ?_
      refine for_range (n := b) (fun j σ H2 => H2 = H' ∧ ∃ (n : Int) (v2 : Option V), σ = [some (.ref u), some (.int n), some (.ref t), v2] ∧ n.natAbs < 2 ^ 900 ∧ (n0 = (M.prodL (facD ds) : Nat) ↔ n = ((q ^ (b - j) * R : Nat) : Int))) ⟨rfl, n, _, rfl, nb, by rw [Nat.sub_zero]; exact inv⟩ ?_ ?_
      · rintro j σ H2 hj ⟨rfl, n, v2, rfl, nb, inv⟩
        obtain ⟨c, hc⟩ : ∃ c, b - j = c + 1 := ⟨b - j - 1, by omega⟩
        have hc2 : b - (j + 1) = c := by omega
        rw [hc] at inv
        have ep : q ^ (c + 1) * R = q * (q ^ c * R) := by rw [Nat.pow_succ]; grind
        rw [ep] at inv
        have hpos : 0 < q * (q ^ c * R) := Nat.mul_pos (by omega) (Nat.mul_pos (Nat.pow_pos (by omega)) hR0)
        walk_at "g"
        refine s_ite (fun c1 => ?_) (fun c1 => ?_)
        · walk_at "g"
          refine kk false ⟨fun z => (nomatch z), fun z => ?_⟩
          have := inv.mp z
          omega
        · walk_at "g"
          refine s_ixT (SqT.of et) (atI0 0 rfl rfl) ?_
          walk_at "g"
          refine s_ixT (SqT.of es) (atI0 0 rfl rfl) ?_
          walk_at "g"
          refine s_i (by omega) ?_
          walk_at "g"
          refine s_iten (fun c2 => ?_) (fun c2 => ?_)
          · walk_at "g"
            refine kk false ⟨fun z => (nomatch z), fun z => ?_⟩
            have := inv.mp z
            exact absurd (Int.emod_eq_zero_of_dvd (by rw [this]; exact Int.natCast_dvd_natCast.mpr (Nat.dvd_mul_right _ _))) c2
          · obtain ⟨n', rfl⟩ := Int.eq_ofNat_of_zero_le (show 0 ≤ n by omega)
            obtain ⟨e, rfl⟩ : q ∣ n' := Int.natCast_dvd_natCast.mp (Int.dvd_of_emod_eq_zero c2)
            have e3 : ((q * e : Nat) : Int) / (q : Int) = (e : Int) := by push_cast; exact Int.mul_ediv_cancel_left _ (by omega)
            have hdle : e ≤ q * e := Nat.le_mul_of_pos_left _ (by omega)
            walk_at "g"
            refine s_ixT (SqT.of et) (atI0 0 rfl rfl) ?_
            walk_at "g"
            refine s_ixT (SqT.of es) (atI0 0 rfl rfl) ?_
            walk_at "g"
            refine s_i (divW (by omega) (by omega)) ?_
            walk_at "g"
            rw [e3]
            refine ⟨rfl, (e : Int), _, rfl, by omega, ?_⟩
            rw [hc2, inv]
            constructor
            · intro z
              have z' : q * e = q * (q ^ c * R) := by omega
              have := Nat.eq_of_mul_eq_mul_left (show 0 < q by omega) z'
              omega
            · intro z
              have : e = q ^ c * R := by omega
              rw [this]
      · rintro σ H2 ⟨rfl, n, v2, rfl, nb, inv⟩
        rw [Nat.sub_self, Nat.pow_zero, Nat.one_mul] at inv
        walk_at "g"
        exact ⟨rfl, n, _, _, rfl, nb, inv⟩
    · rintro σ H' ⟨rfl, n, v1, v2, rfl, nb, inv⟩
      rw [hds.len, List.drop_length] at inv
      walk_at "g"
      refine kk _ ?_
      rw [inv, decide_eq_true_iff]
      rfl
/-- is_prime_paper(thing) -/
def sp_is_prime_paper (n : Nat) : Sp := fun vs H Q _ => ∃ (v : V) (d : PyData), vs = [v] ∧ Da H v d ∧ Bd (3 * n) d ∧ ∀ (b : Bool) H', (b = true ↔ IsPap d) → Same H H' → Q (.bl b) H'
/-- are_papers(things, many) -/
def sp_are_papers (n : Nat) : Sp := fun vs H Q _ => ∃ (v : V) (d : PyData) (k : Nat), vs = [v, .int (k : Nat)] ∧ 2 ≤ k ∧ Da H v d ∧ Bd (3 * n + 2) d ∧ ∀ (b : Bool) H', (b = true ↔ ∃ ds, d = .tuple ds ∧ Rws k 1 ds) → Same H H' → Q (.bl b) H'
/-- is_parting_paper(n, thing) -/
def sp_is_parting_paper (n : Nat) : Sp := fun vs H Q _ => ∃ (v : V) (d : PyData) (k : Int), vs = [.int k, v] ∧ Da H v d ∧ Bd (3 * n + 2) d ∧ k.natAbs < 2 ^ 900 ∧ ∀ (b : Bool) H', (b = true ↔ IsPart k d) → Same H H' → Q (.bl b) H'
theorem RowK.qb {k n : Nat} {d : PyData} (h : RowK k d) (hb : Bd n d) : qOf d < 2 ^ 300 := by
  obtain ⟨pap, b, rest, rfl, _, hp, _⟩ := h
  obtain ⟨p, f, ds, rfl, _⟩ := hp.inv
  obtain ⟨m, rfl, _, h1⟩ := hb.tup_inv
  obtain ⟨m', rfl, _, h2⟩ := (h1 (.tuple [.int (p : Nat), .int (f : Nat), .tuple ds]) (by simp)).tup_inv
  have h3 := (h2 (.int (p : Nat)) (by simp)).int_inv
  show ((p : Int)).toNat < _
  omega
theorem ok_arePapersS (T : Txt K mg) {n : Nat} (IH : FnOk P w K mg base CX0 (3 * n + 10) (He.ga K "is_prime_paper") (fd_is_prime_paper T) ["thing"] (sp_is_prime_paper n)) : FnOk P w K mg base CX0 (3 * n + 11) (He.ga K "are_papers") (fd_are_papers T) ["things", "many"] (sp_are_papers n) := by
  refine (F_are_papers T).ok sc_are_papers (fun vs H Q E h => ?_) (fun cdv A outer s H vs Q E hr h => ⟨_, PSs.nox (pss_cons (ps_if (pt_not (pt_val (pe_callB call_isi rfl (T.fr (T.c.fact 59 rfl)) boot_isinstance (pa_cons (pv 0) (pa_cons (pe_bltn (v := .ty "tuple") rfl (T.fr (T.c.fact 58 rfl)) boot_tuple rfl) pa_nil))))) (pss_one (ps_ret pe_bl)) pss_nil)
      (pss_cons (ps_set (i := 2) sc_are_papers.nd rfl (Or.inl rfl) pe_int)
      (pss_cons (ps_for PassesOwn.never rfl (pi_tup (pv 0)) (pg_name (i := 3) sc_are_papers.nd rfl (Or.inl rfl)) (pss_cons (ps_if (PW.pt (pw_or (pt_not (pt_val (pe_call (ok_is_row_of T) (hr.mono (by omega)) rfl (g_is_row_of T) (kp_is_row_of T) (B_is_row_of T) .nil pass0 (pa_cons (pv 3) (pa_cons (pv 1) pa_nil))))) (pw_or (pt_not (pt_val (pe_call (IH) (hr.mono (by omega)) rfl (g_is_prime_paper T) (kp_is_prime_paper T) (B_is_prime_paper T) .nil pass0 (pa_cons (pe_ix ix_seq (pv 3) pe_int (fun _ _ => rfl)) pa_nil)))) (pw_or1 (pt_not (pt_val (pe_call (ok_is_whole T) (hr.mono (by omega)) rfl (g_is_whole T) (kp_is_whole T) (B_is_whole T) .nil pass0 (pa_cons (pe_ix ix_seq (pv 3) pe_int (fun _ _ => rfl)) (pa_cons pe_int pa_nil))))))))) (pss_one (ps_ret pe_bl)) pss_nil)
      (pss_cons (ps_if (pt_cmpR op_le (pe_ix ix_seq (pe_ix ix_seq (pv 3) pe_int (fun _ _ => rfl)) pe_int (fun _ _ => rfl)) (pv 2) (nomark _)) (pss_one (ps_ret pe_bl)) pss_nil)
      (pss_one (ps_set (i := 2) sc_are_papers.nd rfl (Or.inl rfl) (pe_ix ix_seq (pe_ix ix_seq (pv 3) pe_int (fun _ _ => rfl)) pe_int (fun _ _ => rfl)))))))
      (pss_one (ps_ret pe_bl))))), ?_⟩)
  · obtain ⟨v, d, k, rfl, _⟩ := h; rfl
  · obtain ⟨v, d, k, rfl, k2, hd, hb, q⟩ := h
    have no : isTup d = false → ¬ ∃ ds, d = .tuple ds ∧ Rws k 1 ds := fun z ⟨ds, e, _⟩ => by subst e; cases z
    walk_at "g"
    refine s_isiTup hd ?_
    walk_at "g"
    cases et : isTup d with
    | false =>
      walk_at "g"
      exact q false H ⟨fun z => (nomatch z), fun z => absurd z (no et)⟩ (Same.refl _)
    | true =>
    cases hd with
    | non => cases et
    | bl b => cases et
    | int i => cases et
    | str x => cases et
    | lst _ _ => cases et
    | @tup u xs ds eu hds =>
    obtain ⟨m, em, hlen, hbd⟩ := hb.tup_inv
    have hbd' : ∀ e ∈ ds, Bd (3 * n + 1) e := fun e he => by rw [show 3 * n + 1 = m by omega]; exact hbd e he
    walk_at "g"
    refine ⟨⟨_, SqT.of eu⟩, ?_⟩
    refine for_tup (fun i σ H' => Same H H' ∧ ∃ (l : Nat) (v : Option V), σ = [some (.ref u), some (.int k), some (.int l), v] ∧ (Rws k 1 ds ↔ Rws k l (ds.drop i))) ⟨Same.refl _, 1, none, rfl, by rw [List.drop_zero]⟩ (fun i σ H' _ I => SqT.of (I.1 _ _ eu)) ?_ ?_
    · rintro i x σ H' hi ⟨hs, l, v, rfl, inv⟩
      obtain ⟨d, hdi, hd0⟩ := hds.get hi
      have hd := hd0.same hs
      have hmem := List.mem_of_getElem? hdi
      have hbdd := hbd' d hmem
      have hil : i < ds.length := (List.getElem?_eq_some_iff.mp hdi).1
      have hdr : ds.drop i = d :: ds.drop (i + 1) := by
        rw [List.drop_eq_getElem_cons hil, (List.getElem?_eq_some_iff.mp hdi).2]
      rw [hdr] at inv
      have bad : ∀ H2, Same H H2 → ¬ (RowK k d ∧ l < qOf d) → Q (.bl false) H2 := fun H2 s2 nn => q false H2 ⟨fun z => (nomatch z), fun ⟨ds', e, z⟩ => by
        cases e
        have z' := inv.mp z
        exact absurd ⟨z'.1, z'.2.1⟩ nn⟩ s2
      walk_at "g"
      refine ⟨x, d, (k : Nat), rfl, hd, ?_⟩
      walk_at "g"
      cases er : isR (k : Nat) d with
      | false =>
        walk_at "g"
        refine bad H' hs fun ⟨⟨pap, b, rest, e, hl, _⟩, _⟩ => ?_
        subst e
        rw [isR_tup, decide_eq_true (by simp only [List.length_cons]; omega)] at er
        cases er
      | true =>
      obtain ⟨es, rfl, hlk⟩ := isR_inv er
      obtain ⟨e0, e1, et', rfl⟩ : ∃ e0 e1 er, es = e0 :: e1 :: er := by
        match es, hlk with
        | [], h => simp at h; omega
        | [_], h => simp at h; omega
        | a :: b :: c, _ => exact ⟨a, b, c, rfl⟩
      obtain ⟨m', em', _, hbe⟩ := hbdd.tup_inv
      have hbe0 : Bd (3 * n) e0 := by rw [show 3 * n = m' by omega]; exact hbe e0 (by simp)
      cases hd with
      | @tup t ys _ et hes =>
      obtain ⟨y0, y1, yr, rfl, h0, h1, h2⟩ := hes.two
      walk_at "g"
      refine s_ixT (SqT.of et) (atI0 0 rfl rfl) ?_
      walk_at "g"
      refine ⟨y0, e0, rfl, h0, hbe0, fun bb H2 hbb s2 => ?_⟩
      have s02 := hs.trans s2
      have et2 := s2 _ _ et
      walk_at "g"
      cases bb with
      | false =>
        walk_at "g"
        refine bad H2 s02 fun ⟨⟨pap, b, rest, e, hl, hp, _⟩, _⟩ => ?_
        cases e
        exact absurd (hbb.mpr hp) (by simp)
      | true =>
      have hp : IsPap e0 := hbb.mp rfl
      walk_at "g"
      refine s_ixT (SqT.of et2) (atI0 1 rfl rfl) ?_
      walk_at "g"
      refine ⟨y1, e1, 1, rfl, h1.same s2, ?_⟩
      walk_at "g"
      cases ew : isW 1 e1 with
      | false =>
        walk_at "g"
        refine bad H2 s02 fun ⟨⟨pap, b, rest, e, hl, hp, hb1⟩, _⟩ => ?_
        cases e
        rw [isW_int, decide_eq_true (by omega)] at ew
        cases ew
      | true =>
      obtain ⟨bi, rfl, hb1⟩ := isW_inv ew
      obtain ⟨b, rfl⟩ := Int.eq_ofNat_of_zero_le (show 0 ≤ bi by omega)
      obtain ⟨s, zs, rfl, es⟩ := (h0.same s2).pap hp
      have hrow : RowK k (.tuple (e0 :: .int (b : Nat) :: et')) := ⟨e0, b, et', rfl, by simp at hlk; omega, hp, by omega⟩
      walk_at "g"
      refine s_ixT (SqT.of et2) (atI0 0 rfl rfl) ?_
      walk_at "g"
      refine s_ixT (SqT.of es) (atI0 0 rfl rfl) ?_
      walk_at "g"
      refine s_ite (fun c => ?_) (fun c => ?_)
      · walk_at "g"
        refine bad H2 s02 fun z => ?_
        have : l < pOf e0 := z.2
        omega
      · walk_at "g"
        refine s_ixT (SqT.of et2) (atI0 0 rfl rfl) ?_
        walk_at "g"
        refine s_ixT (SqT.of es) (atI0 0 rfl rfl) ?_
        walk_at "g"
        refine ⟨s02, pOf e0, _, rfl, inv.trans ⟨fun z => z.2.2, fun z => ⟨hrow, ?_, z⟩⟩⟩
        show l < pOf e0
        omega
    · rintro σ H' ⟨hs, l, v, rfl, inv⟩
      rw [hds.len, List.drop_length] at inv
      walk_at "g"
      exact q true H' ⟨fun _ => ⟨ds, rfl, inv.mpr trivial⟩, fun _ => rfl⟩ hs
theorem ok_partingS (T : Txt K mg) {n : Nat} (IH : FnOk P w K mg base CX0 (3 * n + 11) (He.ga K "are_papers") (fd_are_papers T) ["things", "many"] (sp_are_papers n)) : FnOk P w K mg base CX0 (3 * n + 12) (He.ga K "is_parting_paper") (fd_is_parting_paper T) ["n", "thing"] (sp_is_parting_paper n) := by
  refine (F_is_parting_paper T).ok sc_is_parting_paper (fun vs H Q E h => ?_) (fun cdv A outer s H vs Q E hr h => ⟨_, PSs.nox (pss_one (ps_ret (pe_and (pe_cmpR op_ge (pv 0) pe_int (nomark _)) (pe_and (pe_call (IH) (hr.mono (by omega)) rfl (g_are_papers T) (kp_are_papers T) (B_are_papers T) .nil pass0 (pa_cons (pv 1) (pa_cons pe_int pa_nil))) (pe_one (pe_call (ok_comes_to T) (hr.mono (by omega)) rfl (g_comes_to T) (kp_comes_to T) (B_comes_to T) .nil pass0 (pa_cons (pv 1) (pa_cons (pv 0) pa_nil)))))))), ?_⟩)
  · obtain ⟨v, d, k, rfl, _⟩ := h; rfl
  · obtain ⟨v, d, k, rfl, hd, hb, kb, q⟩ := h
    walk_at "g"
    refine s_ite (fun c => ?_) (fun c => ?_)
    · walk_at "g"
      refine ⟨v, d, 2, rfl, by decide, hd, hb, fun b H1 hbb s1 => ?_⟩
      walk_at "g"
      cases b with
      | false =>
        walk_at "g"
        refine q false H1 ⟨fun z => (nomatch z), fun ⟨ds, e, _, h, _⟩ => hbb.mpr ⟨ds, e, h⟩⟩ s1
      | true =>
      obtain ⟨ds, rfl, hR⟩ := hbb.mp rfl
      cases hd with
      | @tup u xs _ eu hds =>
      obtain ⟨m, em, hlen, hbd⟩ := hb.tup_inv
      walk_at "g"
      refine ⟨u, xs, ds, 2, k, rfl, s1 _ _ eu, hds.same s1, fun d hd => (hR.all d hd).1, fun d hd => (hR.all d hd).1.qb (hbd d hd), kb, fun b hb => q b H1 (hb.trans ⟨fun z => ⟨ds, rfl, c, hR, z⟩, fun ⟨ds', e, _, _, z⟩ => by cases e; exact z⟩) s1⟩
    · walk_at "g"
      exact q false H ⟨fun z => (nomatch z), fun ⟨_, _, z, _⟩ => absurd z c⟩ (Same.refl _)
theorem ok_primePaperS (T : Txt K mg) {n : Nat} (IH : FnOk P w K mg base CX0 (3 * n + 12) (He.ga K "is_parting_paper") (fd_is_parting_paper T) ["n", "thing"] (sp_is_parting_paper n)) : FnOk P w K mg base CX0 (3 * n + 13) (He.ga K "is_prime_paper") (fd_is_prime_paper T) ["thing"] (sp_is_prime_paper (n + 1)) := by
  refine (F_is_prime_paper T).ok sc_is_prime_paper (fun vs H Q E h => ?_) (fun cdv A outer s H vs Q E hr h => ⟨_, PSs.nox (pss_cons (ps_if (PW.pt (pw_or (pt_not (pt_val (pe_call (ok_is_row_of T) (hr.mono (by omega)) rfl (g_is_row_of T) (kp_is_row_of T) (B_is_row_of T) .nil pass0 (pa_cons (pv 0) (pa_cons pe_int pa_nil))))) (pw_or (pt_not (pt_val (pe_call (ok_is_whole T) (hr.mono (by omega)) rfl (g_is_whole T) (kp_is_whole T) (B_is_whole T) .nil pass0 (pa_cons (pe_ix ix_seq (pv 0) pe_int (fun _ _ => rfl)) (pa_cons pe_int pa_nil))))) (pw_or1 (pt_not (pt_val (pe_call (ok_is_whole T) (hr.mono (by omega)) rfl (g_is_whole T) (kp_is_whole T) (B_is_whole T) .nil pass0 (pa_cons (pe_ix ix_seq (pv 0) pe_int (fun _ _ => rfl)) (pa_cons pe_int pa_nil))))))))) (pss_one (ps_ret pe_bl)) pss_nil)
      (pss_cons (ps_asg (pv 0) (pg_tup rfl (pgs_cons (pg_name (i := 1) sc_is_prime_paper.nd rfl (Or.inr rfl)) (pgs_cons (pg_name (i := 2) sc_is_prime_paper.nd rfl (Or.inr rfl)) (pgs_cons (pg_name (i := 3) sc_is_prime_paper.nd rfl (Or.inl rfl)) pgs_nil)))))
      (pss_cons (ps_if (PW.pt (pw_or (pt_cmpR op_ge (pv 2) (pv 1) (nomark _)) (pw_or (pt_not (pt_val (pe_call (IH) (hr.mono (by omega)) rfl (g_is_parting_paper T) (kp_is_parting_paper T) (B_is_parting_paper T) .nil pass0 (pa_cons (pe_op op_sub (pv 1) pe_int) (pa_cons (pv 3) pa_nil))))) (pw_or1 (pt_cmpR op_ne (pe_call (ok_power T) (hr.mono (by omega)) rfl (g_power T) (kp_power T) (B_power T) .nil passL (pa_cons (pv 1) (pa_cons (pv 2) (pa_cons (pe_op op_sub (pv 1) pe_int) pa_nil)))) pe_int (nomark _)))))) (pss_one (ps_ret pe_bl)) pss_nil)
      (pss_one (ps_ret (pe_not (pe_callB (cr_any rfl) rfl (T.fr (T.c.fact 63 rfl)) boot_any (pa_cons (pe_lc (own := [("part", 4)]) (tt := tYes) rfl sc_is_prime_paper.nd (pi_tup (pv 3)) (blkOk_by (N := N_is_prime_paper) (sc := defScope s_is_prime_paper) (by decide +kernel)) (fun _ _ _ _ _ => (pg_name (i := 4) sc_is_prime_paper.nd rfl (Or.inl rfl))) (fun _ _ _ _ _ => pts_nil) (fun _ _ _ _ _ => (pe_cmpR op_eq (pe_call (ok_power T) (hr.mono (by omega)) rfl (g_power T) (kp_power T) (B_power T) .nil passL (pa_cons (pv 1) (pa_cons (pv 2) (pa_cons (pe_op op_fdivW (pe_op op_sub (pv 1) pe_int) (pe_ix (R.ix_seqK K rfl) (pe_ix (R.ix_seqK K rfl) (pv 4) pe_int (fun _ _ => rfl)) pe_int (fun _ _ => rfl))) pa_nil)))) pe_int (nomark _)))) pa_nil)))))))), ?_⟩)
  · obtain ⟨v, d, rfl, _⟩ := h; rfl
  · obtain ⟨v, d, rfl, hd, hb, q⟩ := h
    have bad : ∀ H2, Same H H2 → ¬ IsPap d → Q (.bl false) H2 := fun H2 s2 nn => q false H2 ⟨fun z => (nomatch z), fun z => absurd z nn⟩ s2
    walk_at "g"
    refine ⟨v, d, 3, rfl, hd, ?_⟩
    walk_at "g"
    cases er : isR 3 d with
    | false =>
      walk_at "g"
      refine bad H (Same.refl _) fun z => ?_
      obtain ⟨p, f, ds, rfl, _⟩ := z.inv
      cases er
    | true =>
    obtain ⟨es, rfl, hl⟩ := isR_inv er
    obtain ⟨e0, e1, e2, rfl⟩ : ∃ e0 e1 e2, es = [e0, e1, e2] := by
      match es, hl with
      | [a, b, c], _ => exact ⟨a, b, c, rfl⟩
      | [], h => simp at h
      | [_], h => simp at h
      | [_, _], h => simp at h
      | _ :: _ :: _ :: _ :: _, h => simp at h; omega
    obtain ⟨m, em, _, hbe⟩ := hb.tup_inv
    have hb2 : Bd (3 * n + 2) e2 := by rw [show 3 * n + 2 = m by omega]; exact hbe e2 (by simp)
    cases hd with
    | @tup t ys _ et hes =>
    obtain ⟨y0, y1, y2, yr, rfl, h0, h1, h2, h3⟩ := hes.three
    cases h3
    walk_at "g"
    refine s_ixT (SqT.of et) (atI0 0 rfl rfl) ?_
    walk_at "g"
    refine ⟨y0, e0, 2, rfl, h0, ?_⟩
    walk_at "g"
    cases ew : isW 2 e0 with
    | false =>
      walk_at "g"
      refine bad H (Same.refl _) fun z => ?_
      obtain ⟨p, f, ds, e, hp, _⟩ := z.inv
      cases e
      have := hp.1
      rw [isW_int, decide_eq_true (show (2 : Int) ≤ (p : Int) by omega)] at ew
      cases ew
    | true =>
    obtain ⟨p, rfl, p2⟩ := isW_inv ew
    walk_at "g"
    refine s_ixT (SqT.of et) (atI0 1 rfl rfl) ?_
    walk_at "g"
    refine ⟨y1, e1, 1, rfl, h1, ?_⟩
    walk_at "g"
    cases ew1 : isW 1 e1 with
    | false =>
      walk_at "g"
      refine bad H (Same.refl _) fun z => ?_
      obtain ⟨p, f, ds, e, hp, hf, _⟩ := z.inv
      cases e
      rw [isW_int, decide_eq_true (show (1 : Int) ≤ (f : Int) by omega)] at ew1
      cases ew1
    | true =>
    obtain ⟨f, rfl, f1⟩ := isW_inv ew1
    cases h0
    cases h1
    have hpb := (hbe (.int p) (by simp)).int_inv
    have hfb := (hbe (.int f) (by simp)).int_inv
    have iff := isPap_iff (d := e2) p2 f1
    walk_at "g"
    refine s_gtup (SqT.of et) rfl ?_
    walk_at "g"
    refine s_ite (fun c => ?_) (fun c => ?_)
    · walk_at "g"
      exact bad H (Same.refl _) fun z => by have := (iff.mp z).1; omega
    walk_at "g"
    refine ⟨y2, e2, p - 1, rfl, h2, hb2, by omega, fun b H1 hbb s1 => ?_⟩
    walk_at "g"
    cases b with
    | false =>
      walk_at "g"
      exact bad H1 s1 fun z => absurd (hbb.mpr (iff.mp z).2.1) (by simp)
    | true =>
    have hpart := hbb.mp rfl
    walk_at "g"
    refine pos_power (m := (p - 1).toNat) (by omega) (by omega) (by omega) ?_
    walk_at "g"
    refine s_iten (fun c2 => ?_) (fun c2 => ?_)
    · walk_at "g"
      exact bad H1 s1 fun z => c2 (iff.mp z).2.2.1
    obtain ⟨ds, rfl, hp1, hR, hprod⟩ := id hpart
    cases h2 with
    | @tup u xs _ eu hds =>
    obtain ⟨m2, _, hlen, hbd⟩ := hb2.tup_inv
    have eu1 := s1 _ _ eu
    have hds1 := hds.same s1
    walk_at "g"
    refine s_lc ?_
    walk_at "g"
    refine ⟨⟨_, SqT.of eu1⟩, fun D hD => ?_⟩
    refine lc_tup (fun i H3 => Same H1 H3 ∧ H3 D = some (.lst (((ds.take i).map fun d => decide (M.pw p f ((p - 1).toNat / qOf d) = 1)).map V.bl))) ⟨same_upd hD, upd_same⟩ (fun i H3 _ I => SqT.of (I.1 _ _ eu1)) ?_ ?_
    · rintro i x H3 hi ⟨s3, hb3⟩
      obtain ⟨d, hdi, hd0⟩ := hds1.get hi
      have hmem := List.mem_of_getElem? hdi
      have hrow := (hR.all d hmem).1
      obtain ⟨t', s, ys, zs, rfl, et', es⟩ := (hd0.same s3).row hrow
      have q2 := hrow.two
      have qb := hrow.qb (hbd d hmem)
      have hil : i < ds.length := (List.getElem?_eq_some_iff.mp hdi).1
      walk_at "g"
      refine ⟨rfl, ?_⟩
      walk_at "g"
      refine s_ixT (SqT.of et') (atI0 0 rfl rfl) ?_
      walk_at "g"
      refine s_ixT (SqT.of es) (atI0 0 rfl rfl) ?_
      walk_at "g"
      refine s_i (divW (by omega) (by omega)) ?_
      walk_at "g"
      refine pos_power (m := (p - 1).toNat / qOf d) (by rw [Int.natCast_ediv, Int.toNat_of_nonneg (by omega)]) (by omega) (by omega) ?_
      walk_at "g"
      refine ⟨_, hb3, small1000 (by rw [List.length_map, List.length_map, List.length_take]; omega), same_upd' s3 hD, ?_⟩
      rw [upd_same, take_more hdi, List.map_append, List.map_append]; rfl
    · rintro H3 ⟨s3, hb3⟩
      rw [hds.len, List.take_length] at hb3
      walk_at "g"
      refine ⟨D, _, rfl, SqL.of hb3, ?_⟩
      walk_at "g"
      refine q _ H3 ?_ (s1.trans s3)
      rw [Bool.not_eq_true', List.any_eq_false, iff]
      constructor
      · intro h
        refine ⟨by omega, hpart, c2, fun ds' e => ?_⟩
        cases e
        intro d hd e
        exact h _ (List.mem_map.mpr ⟨d, hd, rfl⟩) (decide_eq_true e)
      · rintro ⟨_, _, _, h⟩ b hb4
        obtain ⟨d, hd, rfl⟩ := List.mem_map.mp hb4
        intro e
        exact h ds rfl d hd (of_decide_eq_true e)
/-- is_prime_paper of a thing that is no tuple: the bottom -/
theorem ok_primePaper0 (T : Txt K mg) (IH : FnOk P w K mg base CX0 9 (He.ga K "is_parting_paper") (fd_is_parting_paper T) ["n", "thing"] (fun _ _ _ _ => False)) : FnOk P w K mg base CX0 10 (He.ga K "is_prime_paper") (fd_is_prime_paper T) ["thing"] (sp_is_prime_paper 0) := by
  refine (F_is_prime_paper T).ok sc_is_prime_paper (fun vs H Q E h => ?_) (fun cdv A outer s H vs Q E hr h => ⟨_, PSs.nox (pss_cons (ps_if (PW.pt (pw_or (pt_not (pt_val (pe_call (ok_is_row_of T) (hr.mono (by omega)) rfl (g_is_row_of T) (kp_is_row_of T) (B_is_row_of T) .nil pass0 (pa_cons (pv 0) (pa_cons pe_int pa_nil))))) (pw_or (pt_not (pt_val (pe_call (ok_is_whole T) (hr.mono (by omega)) rfl (g_is_whole T) (kp_is_whole T) (B_is_whole T) .nil pass0 (pa_cons (pe_ix ix_seq (pv 0) pe_int (fun _ _ => rfl)) (pa_cons pe_int pa_nil))))) (pw_or1 (pt_not (pt_val (pe_call (ok_is_whole T) (hr.mono (by omega)) rfl (g_is_whole T) (kp_is_whole T) (B_is_whole T) .nil pass0 (pa_cons (pe_ix ix_seq (pv 0) pe_int (fun _ _ => rfl)) (pa_cons pe_int pa_nil))))))))) (pss_one (ps_ret pe_bl)) pss_nil)
      (pss_cons (ps_asg (pv 0) (pg_tup rfl (pgs_cons (pg_name (i := 1) sc_is_prime_paper.nd rfl (Or.inr rfl)) (pgs_cons (pg_name (i := 2) sc_is_prime_paper.nd rfl (Or.inr rfl)) (pgs_cons (pg_name (i := 3) sc_is_prime_paper.nd rfl (Or.inl rfl)) pgs_nil)))))
      (pss_cons (ps_if (PW.pt (pw_or (pt_cmpR op_ge (pv 2) (pv 1) (nomark _)) (pw_or (pt_not (pt_val (pe_call (IH) (hr.mono (by omega)) rfl (g_is_parting_paper T) (kp_is_parting_paper T) (B_is_parting_paper T) .nil pass0 (pa_cons (pe_op op_sub (pv 1) pe_int) (pa_cons (pv 3) pa_nil))))) (pw_or1 (pt_cmpR op_ne (pe_call (ok_power T) (hr.mono (by omega)) rfl (g_power T) (kp_power T) (B_power T) .nil passL (pa_cons (pv 1) (pa_cons (pv 2) (pa_cons (pe_op op_sub (pv 1) pe_int) pa_nil)))) pe_int (nomark _)))))) (pss_one (ps_ret pe_bl)) pss_nil)
      (pss_one (ps_ret (pe_not (pe_callB (cr_any rfl) rfl (T.fr (T.c.fact 63 rfl)) boot_any (pa_cons (pe_lc (own := [("part", 4)]) (tt := tYes) rfl sc_is_prime_paper.nd (pi_tup (pv 3)) (blkOk_by (N := N_is_prime_paper) (sc := defScope s_is_prime_paper) (by decide +kernel)) (fun _ _ _ _ _ => (pg_name (i := 4) sc_is_prime_paper.nd rfl (Or.inl rfl))) (fun _ _ _ _ _ => pts_nil) (fun _ _ _ _ _ => (pe_cmpR op_eq (pe_call (ok_power T) (hr.mono (by omega)) rfl (g_power T) (kp_power T) (B_power T) .nil passL (pa_cons (pv 1) (pa_cons (pv 2) (pa_cons (pe_op op_fdivW (pe_op op_sub (pv 1) pe_int) (pe_ix (R.ix_seqK K rfl) (pe_ix (R.ix_seqK K rfl) (pv 4) pe_int (fun _ _ => rfl)) pe_int (fun _ _ => rfl))) pa_nil)))) pe_int (nomark _)))) pa_nil)))))))), ?_⟩)
  · obtain ⟨v, d, rfl, _⟩ := h; rfl
  · obtain ⟨v, d, rfl, hd, hb, q⟩ := h
    walk_at "g"
    refine ⟨v, d, 3, rfl, hd, ?_⟩
    walk_at "g"
    cases er : isR 3 d with
    | false =>
      walk_at "g"
      refine q false H ⟨fun z => (nomatch z), fun z => ?_⟩ (Same.refl _)
      obtain ⟨p, f, ds, rfl, _⟩ := z.inv
      cases er
    | true =>
      obtain ⟨es, rfl, hl⟩ := isR_inv er
      obtain ⟨m, em, _⟩ := hb.tup_inv
      omega
theorem neverF {CX : CXT} {n : Nat} {f : Addr} {fd : FuncData} {ps : List Str} : FnOk P w K mg base CX n f fd ps (fun _ _ _ _ => False) := ⟨fun vs H Q E h => h.elim, fun _ _ _ _ _ _ _ _ _ _ _ _ _ h => h.elim⟩
theorem primePaperN (T : Txt K mg) : ∀ n : Nat, FnOk P w K mg base CX0 (3 * n + 10) (He.ga K "is_prime_paper") (fd_is_prime_paper T) ["thing"] (sp_is_prime_paper n)
  | 0 => ok_primePaper0 T neverF
  | n + 1 => ok_primePaperS T (ok_partingS T (ok_arePapersS T (primePaperN T n)))

theorem ok_is_prime_paper (T : Txt K mg) : FnOk P w K mg base CX0 145 (He.ga K "is_prime_paper") (fd_is_prime_paper T) ["thing"] (sp_is_prime_paper 45) := primePaperN T 45
theorem ok_are_papers (T : Txt K mg) : FnOk P w K mg base CX0 143 (He.ga K "are_papers") (fd_are_papers T) ["things", "many"] (sp_are_papers 44) := ok_arePapersS (n := 44) T (primePaperN T 44)
theorem ok_is_parting_paper (T : Txt K mg) : FnOk P w K mg base CX0 144 (He.ga K "is_parting_paper") (fd_is_parting_paper T) ["n", "thing"] (sp_is_parting_paper 44) := ok_partingS (n := 44) T (ok_arePapersS (n := 44) T (primePaperN T 44))

/-! is_order and the readers of what shows roots and powers, of data -/
theorem ord_byD {p c : Nat} {a : Int} {ds : List PyData} (hp : M.Prime p) (hl : M.IsFac (p - 1) (facD ds)) (hc : c ∣ p - 1) (c0 : 0 < c) (h1 : M.is1 p a c) : M.Ord p a c ↔ ∀ d ∈ ds, c % qOf d = 0 → M.pw p a (c / qOf d) ≠ 1 := by
  have hp2 := hp.1
  constructor
  · intro ho d hd hq e
    have q2 : 2 ≤ qOf d := (hl.primes _ (facD_mem hd)).1.1
    have hle : qOf d ≤ c := Nat.le_of_dvd c0 (Nat.dvd_of_mod_eq_zero hq)
    have h4 : c ≤ c / qOf d := ho.least _ (Nat.div_pos hle (by omega)) ((M.pw_one_iff hp2).mp e)
    have h5 := Nat.div_lt_self c0 (show 1 < qOf d by omega)
    omega
  · intro h
    refine M.ord_of_primes hp h1 c0 fun q hq hd hq1 => ?_
    obtain ⟨k, hk⟩ := M.fac_prime_in hl hq (Nat.dvd_trans hd hc)
    obtain ⟨d, hd', e⟩ := List.mem_map.mp hk
    have e1 : qOf d = q := (Prod.mk.inj e).1
    exact h d hd' (by rw [e1]; exact Nat.mod_eq_zero_of_dvd hd) (by rw [e1]; exact (M.pw_one_iff hp2).mpr hq1)
/-- a paper among the data, opened -/
theorem DaF.paper {F : Addr → Prop} {H : Hp} {v : V} {d : PyData} {n : Nat} (h : DaF F H v d) (hp : IsPap d) (hb : Bd n d) : ∃ (t u : Addr) (f : Nat) (xs : List V) (ds : List PyData), v = .ref t ∧ H t = some (.tup [.int (pOf d : Nat), .int (f : Nat), .ref u]) ∧ H u = some (.tup xs) ∧ DaL F H xs ds ∧ M.Prime (pOf d) ∧ pOf d < 2 ^ 300 ∧ M.IsFac (pOf d - 1) (facD ds) ∧ (∀ d ∈ ds, RowK 2 d) ∧ ds.length ≤ 999 := by
  obtain ⟨p, f, ds, rfl, hpr, f1, f2, hq, hr, hl, _⟩ := hp.inv
  have e : pOf (.tuple [.int (p : Nat), .int (f : Nat), .tuple ds]) = p := Int.toNat_natCast p
  rw [e]
  obtain ⟨m, em, _, hbe⟩ := hb.tup_inv
  obtain ⟨m2, em2, hlen, _⟩ := (hbe (.tuple ds) (by simp)).tup_inv
  have hpb := (hbe (.int (p : Nat)) (by simp)).int_inv
  cases h with
  | tup e0 h =>
    obtain ⟨y0, y1, y2, yr, rfl, h0, h1, h2, h3⟩ := h.three
    cases h0; cases h1; cases h3
    cases h2 with
    | tup eu hds => exact ⟨_, _, f, _, ds, rfl, e0, eu, hds, hpr, by omega, hl, fun d hd => by
        obtain ⟨pap, b, b1, ed⟩ := hr d hd
        have hpap := hq d hd
        exact ⟨pap, b, [], ed, rfl, by rw [ed] at hpap; exact hpap, b1⟩, hlen⟩
/-- is_order(paper, a, e), of a paper among the data -/
def sp_is_order : Sp := fun vs H Q _ => ∃ (v : V) (d : PyData) (n : Nat) (a e : Int), vs = [v, .int a, .int e] ∧ Da H v d ∧ IsPap d ∧ Bd n d ∧ e.natAbs < 2 ^ 900 ∧
  ∀ (b : Bool) H', (b = true ↔ ∃ c : Nat, e = c ∧ M.Ord (pOf d) a c) → Same H H' → Q (.bl b) H'
theorem ok_is_order (T : Txt K mg) : FnOk P w K mg base CX0 8 (He.ga K "is_order") (fd_is_order T) ["paper", "a", "e"] sp_is_order := by
  refine (F_is_order T).ok sc_is_order (fun vs H Q E h => ?_) (fun cdv A outer s H vs Q E hr h => ⟨_, PSs.nox (pss_cons (ps_set (i := 3) sc_is_order.nd rfl (Or.inr rfl) (pe_ix ix_seq (pv 0) pe_int (fun _ _ => rfl)))
      (pss_cons (ps_if (PW.pt (pw_or (pt_cmpR op_lt (pv 2) pe_int (nomark _)) (pw_or (pt_cmpR op_ne (pe_op op_mod (pe_op op_sub (pv 3) pe_int) (pv 2)) pe_int (nomark _)) (pw_or1 (pt_cmpR op_ne (pe_call (ok_power T) (hr.mono (by decide)) rfl (g_power T) (kp_power T) (B_power T) .nil passL (pa_cons (pv 3) (pa_cons (pv 1) (pa_cons (pv 2) pa_nil)))) pe_int (nomark _)))))) (pss_one (ps_ret pe_bl)) pss_nil)
      (pss_cons ((ps_setLc (i := 4) (own := [("part", 5)]) rfl sc_is_order.nd rfl rfl (sw_true rfl rfl rfl rfl) (pi_tup (pe_ix ix_seq (pv 0) pe_int (fun _ _ => rfl))) (blkOk_by (N := N_is_order) (sc := defScope s_is_order) (by decide +kernel)) (fun _ _ _ _ _ => (pg_name (i := 5) sc_is_order.nd rfl (Or.inl rfl))) (fun _ _ _ _ _ => (pts_one (pt_cmpR op_eq (pe_op op_mod (pv 2) (pe_ix (R.ix_seqK K rfl) (pe_ix (R.ix_seqK K rfl) (pv 5) pe_int (fun _ _ => rfl)) pe_int (fun _ _ => rfl))) pe_int (nomark _)))) (fun _ _ _ _ _ => (pe_ix (R.ix_seqK K rfl) (pe_ix (R.ix_seqK K rfl) (pv 5) pe_int (fun _ _ => rfl)) pe_int (fun _ _ => rfl)))))
      (pss_one (ps_ret (pe_not (pe_callB (cr_any rfl) rfl (T.fr (T.c.fact 63 rfl)) boot_any (pa_cons (pe_lc (own := [("q", 6)]) (tt := tYes) rfl sc_is_order.nd (pi_list (pv 4)) (blkOk_by (N := N_is_order) (sc := defScope s_is_order) (by decide +kernel)) (fun _ _ _ _ _ => (pg_name (i := 6) sc_is_order.nd rfl (Or.inl rfl))) (fun _ _ _ _ _ => pts_nil) (fun _ _ _ _ _ => (pe_cmpR op_eq (pe_call (ok_power T) (hr.mono (by decide)) rfl (g_power T) (kp_power T) (B_power T) .nil passL (pa_cons (pv 3) (pa_cons (pv 1) (pa_cons (pe_op op_fdivW (pv 2) (pv 6)) pa_nil)))) pe_int (nomark _)))) pa_nil)))))))), ?_⟩)
  · obtain ⟨v, d, n, a, e, rfl, _⟩ := h; rfl
  · obtain ⟨v, d, n, a, e, rfl, hd, hpap, hbd, heb, k⟩ := h
    obtain ⟨t, u, f, xs, ds, rfl, et, eu, hds, hp, hpb, hl, hrow, hlen⟩ := hd.paper hpap hbd
    generalize pOf d = p at *
    have hp2 := hp.1
    have e1 : (p : Int) - 1 = ((p - 1 : Nat) : Int) := by omega
    walk_at "g"
    refine s_ixT (SqT.of et) (atI0 0 rfl rfl) ?_
    walk_at "g"
    refine s_ite (fun c => ?_) (fun c => ?_)
    · walk_at "g"
      exact k false _ ⟨fun z => (nomatch z), fun ⟨c', h1, h2⟩ => by have := h2.pos; omega⟩ (Same.refl _)
    obtain ⟨c', rfl⟩ := Int.eq_ofNat_of_zero_le (show 0 ≤ e by omega)
    walk_at "g"
    refine s_i (by omega) ?_
    walk_at "g"
    refine s_iten (fun c2 => ?_) (fun c2 => ?_)
    · walk_at "g"
      refine k false _ ⟨fun z => (nomatch z), fun ⟨c3, h1, h2⟩ => absurd ?_ c2⟩ (Same.refl _)
      have h3 := h2.dvdN (M.fermat hp (h2.unit hp))
      rw [e1, h1]
      exact Int.emod_eq_zero_of_dvd (Int.natCast_dvd_natCast.mpr h3)
    have hcd : c' ∣ p - 1 := by rw [e1] at c2; exact Int.natCast_dvd_natCast.mp (Int.dvd_of_emod_eq_zero c2)
    have c0 : 0 < c' := by omega
    have cle := Nat.le_of_dvd (by omega) hcd
    walk_at "g"
    refine pos_power (m := c') rfl (by omega) (by omega) ?_
    walk_at "g"
    refine s_iten (fun c3 => ?_) (fun c3 => ?_)
    · walk_at "g"
      refine k false _ ⟨fun z => (nomatch z), fun ⟨c4, h1, h2⟩ => ?_⟩ (Same.refl _)
      have : c4 = c' := by omega
      subst this
      exact absurd ((M.pw_one_iff hp2).mpr h2.one) c3
    have h1 := (M.pw_one_iff hp2).mp c3
    have iff := ord_byD hp hl hcd c0 h1
    have hqs : ∀ d ∈ ds, 2 ≤ qOf d ∧ qOf d ≤ p - 1 := fun d hd => ⟨(hrow d hd).two, Nat.le_of_dvd (by omega) (M.fac_dvd hl (facD_mem hd))⟩
    walk_at "g"
    refine s_lc ?_
    walk_at "g"
    refine s_ixT (SqT.of et) (atI0 2 rfl rfl) ?_
    refine ⟨u, rfl, ⟨_, SqT.of eu⟩, fun D hD => ?_⟩
    refine lc_tup (fun i H2 => Same H H2 ∧ H2 D = some (.lst ((((ds.take i).filter fun d => c' % qOf d == 0).map fun d => (qOf d : Int)).map V.int))) ⟨same_upd hD, upd_same⟩ (fun i H2 _ I => SqT.of (I.1 _ _ eu)) ?_ ?_
    · rintro i x H2 hi ⟨s2, hb⟩
      obtain ⟨d', hdi, hd'⟩ := hds.get hi
      have hmem := List.mem_of_getElem? hdi
      obtain ⟨t', s, ys, zs, rfl, et', es⟩ := (hd'.same s2).row (hrow d' hmem)
      have hil : i < ds.length := (List.getElem?_eq_some_iff.mp hdi).1
      obtain ⟨q2', qb'⟩ := hqs d' hmem
      have hft := filter_take (fun d => c' % qOf d == 0) hdi
      have hfl := List.length_filter_le (fun d => c' % qOf d == 0) (ds.take i)
      rw [List.length_take] at hfl
      walk_at "g"
      refine ⟨rfl, ?_⟩
      walk_at "g"
      refine s_ixT (SqT.of et') (atI0 0 rfl rfl) ?_
      walk_at "g"
      refine s_ixT (SqT.of es) (atI0 0 rfl rfl) ?_
      walk_at "g"
      refine s_i (by omega) ?_
      walk_at "g"
      refine s_ite (fun cc => ?_) (fun cc => ?_)
      · have hdv : (c' % qOf d' == 0) = true := beq_iff_eq.mpr (by omega)
        rw [if_pos hdv] at hft
        walk_at "g"
        refine s_ixT (SqT.of et') (atI0 0 rfl rfl) ?_
        walk_at "g"
        refine s_ixT (SqT.of es) (atI0 0 rfl rfl) ?_
        refine ⟨_, hb, small1000 (by rw [List.length_map, List.length_map]; omega), same_upd' s2 hD, ?_⟩
        rw [upd_same, hft, List.map_append, List.map_append]; rfl
      · have hdv : ¬ (c' % qOf d' == 0) = true := fun z => by
          have h9 : c' % qOf d' = 0 := beq_iff_eq.mp z
          omega
        rw [if_neg hdv, List.append_nil] at hft
        walk_at "g"
        exact ⟨s2, by rw [hft]; exact hb⟩
    · rintro H2 ⟨s2, hb⟩
      rw [hds.len, List.take_length] at hb
      have hfl := List.length_filter_le (fun d => c' % qOf d == 0) ds
      have hfm : ∀ d ∈ ds.filter (fun d => c' % qOf d == 0), d ∈ ds ∧ c' % qOf d = 0 := fun r hr => ⟨(List.mem_filter.mp hr).1, beq_iff_eq.mp (List.mem_filter.mp hr).2⟩
      have hfr : ∀ d ∈ ds, c' % qOf d = 0 → d ∈ ds.filter (fun d => c' % qOf d == 0) := fun d hd e => List.mem_filter.mpr ⟨hd, beq_iff_eq.mpr e⟩
      generalize ds.filter (fun d => c' % qOf d == 0) = F at hb hfl hfm hfr
      walk_at "g"
      refine s_lc ?_
      walk_at "g"
      refine ⟨⟨_, SqL.of hb⟩, fun D2 hD2 => ?_⟩
      refine lc_list (fun i H3 => Same H2 H3 ∧ H3 D2 = some (.lst (((F.take i).map fun d => decide (M.pw p a (c' / qOf d) = 1)).map V.bl))) ⟨same_upd hD2, upd_same⟩ (fun i H3 _ I => SqL.of (I.1 _ _ hb)) ?_ ?_
      · rintro i x H3 hi ⟨s3, hb3⟩
        rw [List.getElem?_map, List.getElem?_map] at hi
        obtain ⟨y, hy, rfl⟩ := Option.map_eq_some_iff.mp hi
        obtain ⟨d', hab, rfl⟩ := Option.map_eq_some_iff.mp hy
        obtain ⟨q2', qb'⟩ := hqs _ (hfm _ (List.mem_of_getElem? hab)).1
        walk_at "g"
        refine ⟨rfl, ?_⟩
        walk_at "g"
        refine s_i (divW (by omega) (by omega)) ?_
        walk_at "g"
        refine pos_power (m := c' / qOf d') (Int.natCast_ediv _ _).symm (by omega) (by omega) ?_
        walk_at "g"
        refine ⟨_, hb3, small1000 (by rw [List.length_map, List.length_map, List.length_take]; omega), same_upd' s3 hD2, ?_⟩
        rw [upd_same, take_more hab, List.map_append, List.map_append]; rfl
      · rintro H3 ⟨s3, hb3⟩
        rw [List.length_map, List.length_map, List.take_length] at hb3
        walk_at "g"
        refine ⟨D2, _, rfl, SqL.of hb3, ?_⟩
        walk_at "g"
        refine k _ H3 ?_ (s2.trans s3)
        rw [Bool.not_eq_true', List.any_eq_false]
        constructor
        · intro h
          refine ⟨c', rfl, iff.mpr fun d' hd' hq e => ?_⟩
          exact h _ (List.mem_map.mpr ⟨d', hfr d' hd' hq, rfl⟩) (decide_eq_true e)
        · rintro ⟨c4, h5, h6⟩ b hb4
          have : c4 = c' := by omega
          subst this
          obtain ⟨d', hd', rfl⟩ := List.mem_map.mp hb4
          intro e
          exact iff.mp h6 d' (hfm d' hd').1 (hfm d' hd').2 (of_decide_eq_true e)

/-- numbers as values -/
def nv (l : List Nat) : List V := (l.map fun d : Nat => (d : Int)).map V.int
theorem ints_back {L : List Nat} {ns : List Int} (pm : ns.Perm (L.map fun d : Nat => (d : Int))) (srt : ns.Pairwise (· ≤ ·)) (nd : L.Pairwise (· ≠ ·)) : ∃ ds : List Nat, ns = ds.map (fun d : Nat => (d : Int)) ∧ ds.Perm L ∧ ds.Pairwise (· < ·) := by
  have h1 : ns = (ns.map Int.toNat).map (fun d : Nat => (d : Int)) := by
    rw [List.map_map]
    refine ((List.map_congr_left fun z hz => ?_).trans (List.map_id _)).symm
    obtain ⟨d, _, rfl⟩ := List.mem_map.mp (pm.mem_iff.mp hz)
    rfl
  have h2 : (ns.map Int.toNat).Perm L := by
    have h := pm.map Int.toNat
    rw [List.map_map] at h
    have e : L.map (Int.toNat ∘ fun d : Nat => (d : Int)) = L := (List.map_congr_left fun z _ => rfl).trans (List.map_id _)
    rw [e] at h
    exact h
  refine ⟨_, h1, h2, ?_⟩
  have h3 : (ns.map Int.toNat).Nodup := h2.nodup_iff.mpr nd
  rw [h1, List.pairwise_map] at srt
  exact (srt.and h3).imp fun z => by have := z.1; have := z.2; omega
theorem nv_app (l m : List Nat) : nv (l ++ m) = nv l ++ nv m := by simp [nv]
theorem nv_len (l : List Nat) : (nv l).length = l.length := by simp [nv]
theorem nv_get {l : List Nat} {i : Nat} {x : V} (h : (nv l)[i]? = some x) : ∃ d, l[i]? = some d ∧ x = .int (d : Nat) := by
  unfold nv at h
  rw [List.getElem?_map, List.getElem?_map] at h
  obtain ⟨z, h1, rfl⟩ := Option.map_eq_some_iff.mp h
  obtain ⟨d, h2, rfl⟩ := Option.map_eq_some_iff.mp h1
  exact ⟨d, h2, rfl⟩
theorem line2 {n : Nat} (h : n ≤ 2000000) : n < sizeLine := by rw [sizeLine_eq]; omega

/-! no truths within: == is sameness -/
mutual
def nb : PyData → Bool
  | .bool _ => false
  | .dict _ => false
  | .list ds => nbs ds
  | .tuple ds => nbs ds
  | .none => true
  | .int _ => true
  | .str _ => true
def nbs : List PyData → Bool
  | [] => true
  | d :: ds => nb d && nbs ds
end
mutual
theorem eqv_nb : ∀ (d e : PyData), nb d = true → nb e = true → PyData.eqv d e = true → d = e
  | .none, e, _, _, h => by cases e <;> simp_all [PyData.eqv]
  | .int i, e, _, h2, h => by cases e <;> simp_all [PyData.eqv, nb]
  | .str x, e, _, _, h => by cases e <;> simp_all [PyData.eqv]
  | .bool _, _, h1, _, _ => by simp [nb] at h1
  | .dict _, _, h1, _, _ => by simp [nb] at h1
  | .list xs, e, h1, h2, h => by
    cases e with
    | list ys => rw [eqvs_nb xs ys (by simpa [nb] using h1) (by simpa [nb] using h2) (by simpa [PyData.eqv] using h)]
    | _ => simp [PyData.eqv] at h
  | .tuple xs, e, h1, h2, h => by
    cases e with
    | tuple ys => rw [eqvs_nb xs ys (by simpa [nb] using h1) (by simpa [nb] using h2) (by simpa [PyData.eqv] using h)]
    | _ => simp [PyData.eqv] at h
theorem eqvs_nb : ∀ (ds es : List PyData), nbs ds = true → nbs es = true → PyData.eqvAll ds es = true → ds = es
  | [], es, _, _, h => by cases es <;> simp_all [PyData.eqvAll]
  | d :: ds, es, h1, h2, h => by
    cases es with
    | nil => simp [PyData.eqvAll] at h
    | cons e es =>
      simp only [nbs, PyData.eqvAll, Bool.and_eq_true] at h1 h2 h
      rw [eqv_nb d e h1.1 h2.1 h.1, eqvs_nb ds es h1.2 h2.2 h.2]
end
theorem eqv_nb_iff {d e : PyData} (h1 : nb d = true) (h2 : nb e = true) (hl : PyData.canLay0 d = true) : PyData.eqv d e = true ↔ d = e := ⟨eqv_nb d e h1 h2, fun z => by rw [← z]; exact eqv_refl d hl⟩
theorem eqv_str {d : PyData} {x : Str} : PyData.eqv d (.str x) = true ↔ d = .str x := by cases d <;> simp [PyData.eqv]
theorem nbs_all {ds : List PyData} : nbs ds = true ↔ ∀ d ∈ ds, nb d = true := by
  induction ds with
  | nil => simp [nbs]
  | cons d ds ih => simp [nbs, ih]
theorem isW_nb {l : Int} {d : PyData} (h : isW l d = true) : nb d = true := by
  obtain ⟨i, rfl, _⟩ := isW_inv h; rfl
theorem nbs_nats (l : List Nat) : nbs (l.map fun n : Nat => PyData.int (n : Nat)) = true := nbs_all.mpr fun d hd => by
  obtain ⟨n, _, rfl⟩ := List.mem_map.mp hd; rfl
theorem dal_ints {F : Addr → Prop} {H : Hp} : ∀ ns : List Int, DaL F H (ns.map V.int) (ns.map PyData.int)
  | [] => .nil
  | n :: ns => .cons (.int n) (dal_ints ns)

theorem dal_nv {F : Addr → Prop} {H : Hp} : ∀ l : List Nat, DaL F H (nv l) (l.map fun n : Nat => PyData.int (n : Nat))
  | [] => .nil
  | n :: ns => .cons (.int (n : Nat)) (dal_nv ns)
/-- are_wholes(things, least), of a tuple or a list -/
def sp_are_wholesT : Sp := fun vs H Q _ => ∃ (p : Addr) (xs : List V) (ds : List PyData) (l : Int), vs = [.ref p, .int l] ∧ H p = some (.tup xs) ∧ DaL (fun _ => True) H xs ds ∧ ds.length ≤ 999 ∧ ∀ H', Same H H' → Q (.bl (ds.all (isW l))) H'
def sp_are_wholesL : Sp := fun vs H Q _ => ∃ (p : Addr) (xs : List V) (ds : List PyData) (l : Int), vs = [.ref p, .int l] ∧ H p = some (.lst xs) ∧ DaL (fun _ => True) H xs ds ∧ ds.length ≤ 1999 ∧ ∀ H', Same H H' → Q (.bl (ds.all (isW l))) H'
def sp_are_wholes : Sp := fun vs H Q E => sp_are_wholesT vs H Q E ∨ sp_are_wholesL vs H Q E
theorem all_map_take {ds : List PyData} {l : Int} : ((ds.map fun d => isW l d).all fun b => b) = ds.all (isW l) := by rw [List.all_map]; rfl
theorem ok_wholesT (T : Txt K mg) : FnOk P w K mg base CX0 2 (He.ga K "are_wholes") (fd_are_wholes T) ["things", "least"] sp_are_wholesT := by
  refine (F_are_wholes T).ok sc_are_wholes (fun vs H Q E h => ?_) (fun cdv A outer s H vs Q E hr h => ⟨_, PSs.nox (pss_one (ps_ret (pe_callB (cr_all rfl) rfl (T.fr (T.c.fact 64 rfl)) boot_all (pa_cons (pe_lc (own := [("thing", 2)]) (tt := tYes) rfl sc_are_wholes.nd (pi_tup (pv 0)) (blkOk_by (N := N_are_wholes) (sc := defScope s_are_wholes) (by decide +kernel)) (fun _ _ _ _ _ => (pg_name (i := 2) sc_are_wholes.nd rfl (Or.inl rfl))) (fun _ _ _ _ _ => pts_nil) (fun _ _ _ _ _ => (pe_call (ok_is_whole T) (hr.mono (by decide)) rfl (g_is_whole T) (kp_is_whole T) (B_is_whole T) .nil pass0 (pa_cons (pv 2) (pa_cons (pv 1) pa_nil))))) pa_nil)))), ?_⟩)
  · obtain ⟨p, xs, ds, l, rfl, _⟩ := h; rfl
  · obtain ⟨p, xs, ds, l, rfl, ep, hds, hlen, q⟩ := h
    have hxl := hds.len
    walk_at "g"
    refine s_lc ?_
    walk_at "g"
    refine ⟨⟨_, SqT.of ep⟩, fun D hD => ?_⟩
    refine lc_tup (fun i H3 => Same H H3 ∧ H3 D = some (.lst (((ds.take i).map fun d => isW l d).map V.bl))) ⟨same_upd hD, upd_same⟩ (fun i H3 _ I => SqT.of (I.1 _ _ ep)) ?_ ?_
    · rintro i x H3 hi ⟨s3, hb3⟩
      obtain ⟨d, hdi, hd0⟩ := hds.get hi
      have hil : i < ds.length := (List.getElem?_eq_some_iff.mp hdi).1
      walk_at "g"
      refine ⟨rfl, ?_⟩
      walk_at "g"
      refine ⟨x, d, l, rfl, hd0.same s3, ?_⟩
      refine ⟨_, hb3, line2 (by rw [List.length_map, List.length_map, List.length_take]; omega), same_upd' s3 hD, ?_⟩
      rw [upd_same, take_more hdi, List.map_append, List.map_append]; rfl
    · rintro H3 ⟨s3, hb3⟩
      rw [hxl, List.take_length] at hb3
      walk_at "g"
      refine ⟨D, _, rfl, SqL.of hb3, ?_⟩
      walk_at "g"
      have e := @all_map_take ds l
      exact e ▸ q H3 s3
theorem ok_wholesL (T : Txt K mg) : FnOk P w K mg base CX0 2 (He.ga K "are_wholes") (fd_are_wholes T) ["things", "least"] sp_are_wholesL := by
  refine (F_are_wholes T).ok sc_are_wholes (fun vs H Q E h => ?_) (fun cdv A outer s H vs Q E hr h => ⟨_, PSs.nox (pss_one (ps_ret (pe_callB (cr_all rfl) rfl (T.fr (T.c.fact 64 rfl)) boot_all (pa_cons (pe_lc (own := [("thing", 2)]) (tt := tYes) rfl sc_are_wholes.nd (pi_list (pv 0)) (blkOk_by (N := N_are_wholes) (sc := defScope s_are_wholes) (by decide +kernel)) (fun _ _ _ _ _ => (pg_name (i := 2) sc_are_wholes.nd rfl (Or.inl rfl))) (fun _ _ _ _ _ => pts_nil) (fun _ _ _ _ _ => (pe_call (ok_is_whole T) (hr.mono (by decide)) rfl (g_is_whole T) (kp_is_whole T) (B_is_whole T) .nil pass0 (pa_cons (pv 2) (pa_cons (pv 1) pa_nil))))) pa_nil)))), ?_⟩)
  · obtain ⟨p, xs, ds, l, rfl, _⟩ := h; rfl
  · obtain ⟨p, xs, ds, l, rfl, ep, hds, hlen, q⟩ := h
    have hxl := hds.len
    walk_at "g"
    refine s_lc ?_
    walk_at "g"
    refine ⟨⟨_, SqL.of ep⟩, fun D hD => ?_⟩
    refine lc_list (fun i H3 => Same H H3 ∧ H3 D = some (.lst (((ds.take i).map fun d => isW l d).map V.bl))) ⟨same_upd hD, upd_same⟩ (fun i H3 _ I => SqL.of (I.1 _ _ ep)) ?_ ?_
    · rintro i x H3 hi ⟨s3, hb3⟩
      obtain ⟨d, hdi, hd0⟩ := hds.get hi
      have hil : i < ds.length := (List.getElem?_eq_some_iff.mp hdi).1
      walk_at "g"
      refine ⟨rfl, ?_⟩
      walk_at "g"
      refine ⟨x, d, l, rfl, hd0.same s3, ?_⟩
      refine ⟨_, hb3, line2 (by rw [List.length_map, List.length_map, List.length_take]; omega), same_upd' s3 hD, ?_⟩
      rw [upd_same, take_more hdi, List.map_append, List.map_append]; rfl
    · rintro H3 ⟨s3, hb3⟩
      rw [hxl, List.take_length] at hb3
      walk_at "g"
      refine ⟨D, _, rfl, SqL.of hb3, ?_⟩
      walk_at "g"
      have e := @all_map_take ds l
      exact e ▸ q H3 s3
theorem ok_are_wholes (T : Txt K mg) : FnOk P w K mg base CX0 2 (He.ga K "are_wholes") (fd_are_wholes T) ["things", "least"] sp_are_wholes := fn_or (ok_wholesT T) (ok_wholesL T) fun _ _ _ _ h => h

/-- what is told of roots, with what shows it -/
def IsRt (p k : Nat) (a : Int) (d : PyData) : Prop := ∃ (rs : List Int) (s : PyData), M.IsKR p k a rs ∧ d = .tuple [.list (rs.map .int), s] ∧
  ((¬ M.un p a ∧ s = .tuple [.str "nought"]) ∨
   (M.un p a ∧ ¬ M.is1 p a ((p - 1) / Nat.gcd k (p - 1)) ∧ s = .tuple [.str "none", .int ((p - 1) / Nat.gcd k (p - 1) : Nat), .int (M.pw p a ((p - 1) / Nat.gcd k (p - 1)))]) ∨
   (M.un p a ∧ M.is1 p a ((p - 1) / Nat.gcd k (p - 1)) ∧ Nat.gcd k (p - 1) ≤ 400 ∧ rs.length = Nat.gcd k (p - 1) ∧ ∃ turn : Int, 0 < turn ∧ turn < p ∧ M.Ord p turn (Nat.gcd k (p - 1)) ∧ s = .tuple [.str "turned", .int (rs.headD 0), .int turn]))
theorem wholes_back : ∀ {ds : List PyData}, ds.all (isW 0) = true → ∃ rs : List Int, ds = rs.map .int ∧ ∀ r ∈ rs, 0 ≤ r
  | [], _ => ⟨[], rfl, by simp⟩
  | d :: ds, h => by
    simp only [List.all_cons, Bool.and_eq_true] at h
    obtain ⟨i, rfl, i0⟩ := isW_inv h.1
    obtain ⟨rs, rfl, h2⟩ := wholes_back h.2
    refine ⟨i :: rs, rfl, fun r hr => ?_⟩
    rcases List.mem_cons.mp hr with z | z
    · rw [z]; exact i0
    · exact h2 r z
theorem wholes_all {rs : List Int} (h : ∀ r ∈ rs, 0 ≤ r) : (rs.map PyData.int).all (isW 0) = true := by
  rw [List.all_eq_true]
  intro d hd
  obtain ⟨r, hr, rfl⟩ := List.mem_map.mp hd
  rw [isW_int, decide_eq_true (h r hr)]
theorem nb_ints {rs : List Int} : nb (.list (rs.map PyData.int)) = true := by
  simp only [nb]
  exact nbs_all.mpr fun d hd => by
    obtain ⟨n, _, rfl⟩ := List.mem_map.mp hd; rfl
theorem map_int_inj {rs ns : List Int} : rs.map PyData.int = ns.map PyData.int ↔ rs = ns :=
  ⟨fun h => by
    have := congrArg (List.map fun d => match d with | PyData.int i => i | _ => 0) h
    rw [List.map_map, List.map_map] at this
    have e : ((fun d => match d with | PyData.int i => i | _ => 0) ∘ PyData.int) = (id : Int → Int) := rfl
    rw [e, List.map_id, List.map_id] at this
    exact this, fun h => by rw [h]⟩
theorem dal_back {F : Addr → Prop} {H : Hp} : ∀ {xs : List V} {rs : List Int}, DaL F H xs (rs.map PyData.int) → xs = rs.map V.int
  | _, [], h => by cases h; rfl
  | _, r :: rs, h => by
    cases h with
    | cons a b =>
      cases a
      rw [dal_back b]; rfl
/-- the rests that are gone -/
def goR (p : Nat) (r turn : Int) (i : Nat) : Int := if i = 0 then r else r * turn ^ i % (p : Int)
theorem goR_next {p : Nat} {r turn : Int} {i : Nat} : goR p r turn i * turn % (p : Int) = goR p r turn (i + 1) := by
  unfold goR
  by_cases h : i = 0
  · subst h
    rw [if_pos rfl, if_neg (by decide), Int.pow_succ, Int.pow_zero, Int.one_mul]
  · rw [if_neg h, if_neg (by omega), Int.mul_emod, Int.emod_emod, ← Int.mul_emod, Int.mul_assoc, ← Int.pow_succ]
theorem goR_std {p : Nat} {r turn : Int} {i : Nat} (h0 : 0 ≤ r) (h1 : r < p) : goR p r turn i = r * turn ^ i % (p : Int) := by
  unfold goR
  by_cases h : i = 0
  · subst h; rw [if_pos rfl, Int.pow_zero, Int.mul_one, Int.emod_eq_of_lt h0 h1]
  · rw [if_neg h]
/-- shows_turned(paper, d, roots, turn) -/
def sp_shows_turned : Sp := fun vs H Q _ => ∃ (v : V) (dd : PyData) (n d k : Nat) (D : Addr) (rs : List Int) (a turn : Int), vs = [v, .int d, .ref D, .int turn] ∧ Da H v dd ∧ IsPap dd ∧ Bd n dd ∧ H D = some (.lst (rs.map V.int)) ∧ (∀ r ∈ rs, 0 ≤ r ∧ r.natAbs < 2 ^ 300) ∧ turn.natAbs < 2 ^ 300 ∧
  d ≤ 400 ∧ d = Nat.gcd k (pOf dd - 1) ∧ 0 < k ∧ M.un (pOf dd) a ∧ M.al (pOf dd) (rs.headD 0 ^ k) a ∧
  ∀ (o : Bool) H', (o = true ↔ 0 < turn ∧ turn < pOf dd ∧ M.Ord (pOf dd) turn d ∧ rs.length = d ∧ M.IsKR (pOf dd) k a rs) → Same H H' → Q (.bl o) H'
theorem ok_shows_turned (T : Txt K mg) : FnOk P w K mg base CX0 9 (He.ga K "shows_turned") (fd_shows_turned T) ["paper", "d", "roots", "turn"] sp_shows_turned := by
  refine (F_shows_turned T).ok sc_shows_turned (fun vs H Q E h => ?_) (fun cdv A outer s H vs Q E hr h => ⟨_, PSs.nox (pss_cons (ps_set (i := 4) sc_shows_turned.nd rfl (Or.inl rfl) (pe_ix ix_seq (pv 0) pe_int (fun _ _ => rfl)))
      (pss_cons (ps_if (PW.pt (pw_or (pt_not (pt_val (pe_call (ok_is_whole T) (hr.mono (by decide)) rfl (g_is_whole T) (kp_is_whole T) (B_is_whole T) .nil pass0 (pa_cons (pv 3) (pa_cons pe_int pa_nil))))) (pw_or (pt_cmpR op_ge (pv 3) (pv 4) (nomark _)) (pw_or (pt_cmpR op_ne (pe_callB callLen rfl (T.fr (T.c.fact 62 rfl)) boot_len (pa_cons (pv 2) pa_nil)) (pv 1) (nomark _)) (pw_or1 (pt_not (pt_val (pe_call (ok_is_order T) (hr.mono (by decide)) rfl (g_is_order T) (kp_is_order T) (B_is_order T) .nil pass0 (pa_cons (pv 0) (pa_cons (pv 3) (pa_cons (pv 1) pa_nil))))))))))) (pss_one (ps_ret pe_bl)) pss_nil)
      (pss_cons (ps_set (i := 5) sc_shows_turned.nd rfl (Or.inl rfl) (pe_ix ix_seq (pv 2) pe_int (fun _ _ => rfl)))
      (pss_cons (ps_set (i := 6) sc_shows_turned.nd rfl (Or.inl rfl) (pe_lst pa_nil))
      (pss_cons (ps_for PassesOwn.never rfl (pi_range1 rfl (T.fr (T.c.fact 54 rfl)) (pa_cons (pv 1) pa_nil)) (pg_name (i := 7) sc_shows_turned.nd rfl (Or.inl rfl)) (pss_cons (ps_expr (pe_bm PySem.F.plainAttrs_list PySem.F.slot_list_append PySem.F.type_list_append mt_append (pv 6) (pa_cons (pv 5) pa_nil)))
      (pss_one (ps_set (i := 5) sc_shows_turned.nd rfl (Or.inl rfl) (pe_op op_mod (pe_op op_mulW (pv 5) (pv 3)) (pv 4))))))
      (pss_one (ps_ret (pe_and (pe_cmpR (op_eqD hr.units) (pv 2) (pe_callB cr_sortedI rfl (T.fr (T.c.fact 55 rfl)) boot_sorted (pa_cons (pv 6) pa_nil)) (nomark _)) (pe_one (pe_cmpR op_eq (pv 5) (pe_ix ix_seq (pv 2) pe_int (fun _ _ => rfl)) (nomark _))))))))))), ?_⟩)
  · obtain ⟨v, dd, n, d, k, D, rs, a, turn, rfl, _⟩ := h; rfl
  · obtain ⟨v, dd, n, d, kk, D, rs, a, turn, rfl, hd, hpap, hbd, eD, hrs, htb, hd4, hdg, k0, hu, hal, k⟩ := h
    obtain ⟨t, u, f, xs, ds, rfl, et, eu, hds, hp, hpb, hl, hrow, hlen⟩ := hd.paper hpap hbd
    have hdP := hd
    generalize hpd : pOf dd = p at *
    have hp2 := hp.1
    have bad : ∀ H2, Same H H2 → ¬ (0 < turn ∧ turn < p ∧ M.Ord p turn d ∧ rs.length = d ∧ M.IsKR p kk a rs) → Q (.bl false) H2 := fun H2 s2 h => k false H2 ⟨fun z => (nomatch z), fun z => absurd z h⟩ s2
    walk_at "g"
    refine s_ixT (SqT.of et) (atI0 0 rfl rfl) ?_
    walk_at "g"
    refine ⟨.int turn, .int turn, 1, rfl, .int turn, ?_⟩
    rw [isW_int]
    walk_at "g"
    refine s_iten (fun c1 => ?_) (fun c1 => ?_)
    · walk_at "g"
      exact bad H (Same.refl _) fun z => by omega
    walk_at "g"
    refine s_ite (fun c2 => ?_) (fun c2 => ?_)
    · walk_at "g"
      exact bad H (Same.refl _) fun z => by omega
    walk_at "g"
    refine s_lenL (SqL.of eD) ?_
    rw [List.length_map]
    walk_at "g"
    refine s_iten (fun c3 => ?_) (fun c3 => ?_)
    · walk_at "g"
      exact bad H (Same.refl _) fun z => by omega
    walk_at "g"
    refine ⟨.ref t, dd, n, turn, d, rfl, hdP, hpap, hbd, by omega, fun o H1 ho s1 => ?_⟩
    rw [hpd] at ho
    walk_at "g"
    cases o with
    | false =>
      walk_at "g"
      exact bad H1 s1 fun z => absurd (ho.mpr ⟨d, rfl, z.2.2.1⟩) (by simp)
    | true =>
    obtain ⟨d', ed', hord⟩ := ho.mp rfl
    have : d' = d := by omega
    subst this
    have d0 := hord.pos
    obtain ⟨r0, rs', rfl⟩ : ∃ r0 rs', rs = r0 :: rs' := by
      cases rs with
      | nil => simp at c3; omega
      | cons r0 rs' => exact ⟨r0, rs', rfl⟩
    have hr0 := hrs r0 (by simp)
    have hal : M.al p (r0 ^ kk) a := hal
    have eD1 := s1 _ _ eD
    walk_at "g"
    refine s_ixL (SqL.of eD1) (atI0 0 rfl rfl) ?_
    walk_at "g"
    refine mkL (by simp) fun L H2 nL eL s2 => ?_
    walk_at "g"
    refine mkR1 d' (by omega) (by omega) (by omega) ?_
    refine for_range (n := d') (fun i σ H' => Same H1 H' ∧ H' L = some (.lst (((List.range i).map (goR p r0 turn)).map V.int)) ∧ ∃ (w : Option V), σ = [some (.ref t), some (.int d'), some (.ref D), some (.int turn), some (.int p), some (.int (goR p r0 turn i)), some (.ref L), w]) ⟨s2, eL, none, rfl⟩ ?_ ?_
    · rintro i σ H' hi ⟨s3, e3, w, rfl⟩
      have gb : (goR p r0 turn i).natAbs < 2 ^ 300 := by
        unfold goR
        by_cases h : i = 0
        · rw [if_pos h]; exact hr0.2
        · rw [if_neg h]
          have q1 := Int.emod_nonneg (r0 * turn ^ i) (show (p : Int) ≠ 0 by omega)
          have q2 := Int.emod_lt_of_pos (r0 * turn ^ i) (show (0 : Int) < p by omega)
          omega
      have nx := goR_next (p := p) (r := r0) (turn := turn) (i := i)
      walk_at "g"
      refine ⟨s_tyL e3, ?_⟩
      walk_at "g"
      refine s_append e3 (small1000 (by rw [List.length_map, List.length_map, List.length_range]; omega)) ?_
      walk_at "g"
      try refine s_i (mulW (by omega) (by omega)) ?_
      walk_at "g"
      refine s_i (by omega) ?_
      rw [nx]
      walk_at "g"
      refine ⟨same_upd' s3 nL, ?_, _, rfl⟩
      rw [upd_same, List.range_succ, List.map_append, List.map_append]; rfl
    · rintro σ H' ⟨s3, e3, w, rfl⟩
      walk_at "g"
      refine ⟨L, _, rfl, SqL.of e3, fun ns N pm srt nN => ?_⟩
      have s4 : Same H' (upd H' N (.lst (ns.map V.int))) := same_upd nN
      have eN : upd H' N (.lst (ns.map V.int)) N = some (.lst (ns.map V.int)) := upd_same
      generalize upd H' N (.lst (ns.map V.int)) = H4 at s4 eN ⊢
      have eD4 := s4 _ _ (s3 _ _ eD1)
      have s14 := s1.trans (s3.trans s4)
      have nl : ns.length = d' := by rw [pm.length_eq, List.length_map, List.length_range]
      have hnb : ∀ z ∈ ns, z.natAbs < 2 ^ 300 := fun z hz => by
        obtain ⟨i, hi, rfl⟩ := List.mem_map.mp (pm.mem_iff.mp hz)
        unfold goR
        by_cases h : i = 0
        · rw [if_pos h]; exact hr0.2
        · rw [if_neg h]
          have q1 := Int.emod_nonneg (r0 * turn ^ i) (show (p : Int) ≠ 0 by omega)
          have q2 := Int.emod_lt_of_pos (r0 * turn ^ i) (show (0 : Int) < p by omega)
          omega
      have bI : ∀ l : List Int, l.length ≤ 1999 → (∀ z ∈ l, z.natAbs < 2 ^ 300) → Bd 1 (.list (l.map .int)) := fun l h1 h2 => .lst (by rw [List.length_map]; exact h1) fun d hd => by
        obtain ⟨z, hz, rfl⟩ := List.mem_map.mp hd
        exact .int (h2 z hz)
      have b1 := bI (r0 :: rs') (by omega) fun z hz => (hrs z hz).2
      have b2 := bI ns (by omega) hnb
      refine s_eqD (.list ((r0 :: rs').map .int)) (.list (ns.map .int)) (.lst (SqL.of eD4) (DaL.dp K (F := fun _ => True) (dal_ints _))) (.lst (SqL.of eN) (DaL.dp K (F := fun _ => True) (dal_ints _))) (b1.shaped (by decide)) (b2.shaped (by decide)) ?_
      have ev := eqv_nb_iff (nb_ints (rs := r0 :: rs')) (nb_ints (rs := ns)) b1.lay.1
      rw [PyData.list.injEq, map_int_inj] at ev
      have key : 0 ≤ r0 → r0 < p → M.IsKR p kk a ns := fun h0 h1 => by
        refine M.kr_all hp hu (by rw [hdg]) hal hord ?_ srt k0
        have e : (List.range d').map (goR p r0 turn) = (List.range d').map fun i => r0 * turn ^ i % (p : Int) := List.map_congr_left fun i _ => goR_std h0 h1
        rw [← e]; exact pm
      have gd : 0 ≤ r0 → r0 < p → goR p r0 turn d' = r0 := fun h0 h1 => by
        rw [goR_std h0 h1]
        have h2 : M.al p (r0 * turn ^ d') r0 := by
          have h3 := M.al_mul (show M.al p r0 r0 by unfold M.al; rw [Int.sub_self]; exact Int.dvd_zero _) (show M.al p (turn ^ d') 1 from hord.one)
          rwa [Int.mul_one] at h3
        rw [M.al_emod h2, Int.emod_eq_of_lt h0 h1]
      walk_at "g"
      cases ee : PyData.eqv (.list ((r0 :: rs').map .int)) (.list (ns.map .int)) with
      | false =>
        walk_at "g"
        refine bad H4 s14 fun z => ?_
        have h1 := (z.2.2.2.2.iff r0).mp (by simp)
        have h2 := z.2.2.2.2.unique (key h1.1 h1.2.1)
        rw [ev.mpr h2] at ee
        cases ee
      | true =>
        have hns := ev.mp ee
        walk_at "g"
        refine s_ixL (SqL.of eD4) (atI0 0 rfl rfl) ?_
        walk_at "g"
        refine k _ H4 ?_ s14
        rw [decide_eq_true_iff]
        constructor
        · intro h
          have h1 : r0 < p := by
            rw [← h]
            unfold goR
            rw [if_neg (by omega)]
            exact Int.emod_lt_of_pos _ (by omega)
          refine ⟨by omega, by omega, hord, by omega, ?_⟩
          rw [hns]; exact key hr0.1 h1
        · rintro ⟨_, _, _, _, z⟩
          have h1 := (z.iff r0).mp (by simp)
          exact gd h1.1 h1.2.1
/-- shows_roots(paper, k, a, thing), of any things -/
def sp_shows_roots : Sp := fun vs H Q _ => ∃ (v vt : V) (d dt : PyData) (k : Nat) (a : Int), vs = [v, .int k, .int a, vt] ∧ Da H v d ∧ Bd 135 d ∧ Da H vt dt ∧ Bd 60 dt ∧ 0 < k ∧ k < 2 ^ 900 ∧
  ∀ (o : Bool) H', (o = true ↔ IsPap d ∧ IsRt (pOf d) k a dt) → Same H H' → Q (.bl o) H'
theorem ok_shows_roots (T : Txt K mg) : FnOk P w K mg base CX0 146 (He.ga K "shows_roots") (fd_shows_roots T) ["paper", "k", "a", "thing"] sp_shows_roots := by
  refine (F_shows_roots T).ok sc_shows_roots (fun vs H Q E h => ?_) (fun cdv A outer s H vs Q E hr h => ⟨_, PSs.nox (pss_cons (ps_if (PW.pt (pw_or (pt_not (pt_val (pe_call (ok_is_prime_paper T) (hr.mono (by decide)) rfl (g_is_prime_paper T) (kp_is_prime_paper T) (B_is_prime_paper T) .nil pass0 (pa_cons (pv 0) pa_nil)))) (pw_or (pt_not (pt_val (pe_call (ok_is_row_of T) (hr.mono (by decide)) rfl (g_is_row_of T) (kp_is_row_of T) (B_is_row_of T) .nil pass0 (pa_cons (pv 3) (pa_cons pe_int pa_nil))))) (pw_or1 (pt_not (pt_val (pe_callB call_isi rfl (T.fr (T.c.fact 59 rfl)) boot_isinstance (pa_cons (pe_ix ix_seq (pv 3) pe_int (fun _ _ => rfl)) (pa_cons (pe_bltn (v := .ty "list") rfl (T.fr (T.c.fact 65 rfl)) boot_list rfl) pa_nil))))))))) (pss_one (ps_ret pe_bl)) pss_nil)
      (pss_cons (ps_asg (pv 3) (pg_tup rfl (pgs_cons (pg_name (i := 4) sc_shows_roots.nd rfl (Or.inl rfl)) (pgs_cons (pg_name (i := 5) sc_shows_roots.nd rfl (Or.inl rfl)) pgs_nil))))
      (pss_cons (ps_if (PW.pt (pw_or (pt_not (pt_val (pe_call (ok_are_wholes T) (hr.mono (by decide)) rfl (g_are_wholes T) (kp_are_wholes T) (B_are_wholes T) .nil pass0 (pa_cons (pv 4) (pa_cons pe_int pa_nil))))) (pw_or1 (pt_not (pt_val (pe_callB call_isi rfl (T.fr (T.c.fact 59 rfl)) boot_isinstance (pa_cons (pv 5) (pa_cons (pe_bltn (v := .ty "tuple") rfl (T.fr (T.c.fact 58 rfl)) boot_tuple rfl) pa_nil)))))))) (pss_one (ps_ret pe_bl)) pss_nil)
      (pss_cons (ps_set (i := 6) sc_shows_roots.nd rfl (Or.inl rfl) (pe_ix ix_seq (pv 0) pe_int (fun _ _ => rfl)))
      (pss_cons (ps_if (pt_cmpR op_eq (pe_op op_mod (pv 2) (pv 6)) pe_int (nomark _)) (pss_one (ps_ret (pe_and (pe_cmpR (op_eqD hr.units) (pv 5) (pe_tup (pa_cons pe_str pa_nil)) (nomark _)) (pe_one (pe_cmpR (op_eqD hr.units) (pv 4) (pe_lst (pa_cons pe_int pa_nil)) (nomark _)))))) pss_nil)
      (pss_cons (ps_if (PW.pt (pw_or (pt_cmpR op_ne (pe_callB callLen rfl (T.fr (T.c.fact 62 rfl)) boot_len (pa_cons (pv 5) pa_nil)) pe_int (nomark _)) (pw_or1 (pt_not (pt_val (pe_call (ok_are_wholes T) (hr.mono (by decide)) rfl (g_are_wholes T) (kp_are_wholes T) (B_are_wholes T) .nil pass0 (pa_cons (pe_slice sl_tup (pv 5) (po_some pe_int) po_none) (pa_cons pe_int pa_nil)))))))) (pss_one (ps_ret pe_bl)) pss_nil)
      (pss_cons (ps_set (i := 7) sc_shows_roots.nd rfl (Or.inl rfl) (pe_ix ix_seq (pe_call (ok_divisor T) (hr.mono (by decide)) rfl (g_divisor T) (kp_divisor T) (B_divisor T) .nil pass0 (pa_cons (pv 1) (pa_cons (pe_op op_sub (pv 6) pe_int) pa_nil))) pe_int (fun _ _ => rfl)))
      (pss_cons (ps_set (i := 8) sc_shows_roots.nd rfl (Or.inl rfl) (pe_call (ok_power T) (hr.mono (by decide)) rfl (g_power T) (kp_power T) (B_power T) .nil passL (pa_cons (pv 6) (pa_cons (pv 2) (pa_cons (pe_op op_fdivW (pe_op op_sub (pv 6) pe_int) (pv 7)) pa_nil)))))
      (pss_cons (ps_if (pt_cmpR (op_eqD hr.units) (pe_ix ix_seq (pv 5) pe_int (fun _ _ => rfl)) pe_str (nomark _)) (pss_one (ps_ret (pe_and (pe_cmpR (op_eqD hr.units) (pv 4) (pe_lst pa_nil) (nomark _)) (pe_and (pe_cmpR (op_eqD hr.units) (pv 5) (pe_tup (pa_cons pe_str (pa_cons (pe_op op_fdivW (pe_op op_sub (pv 6) pe_int) (pv 7)) (pa_cons (pv 8) pa_nil)))) (nomark _)) (pe_one (pe_cmpR op_ne (pv 8) pe_int (nomark _))))))) pss_nil)
      (pss_cons (ps_if (PW.pt (pw_or (pt_cmpR (op_neD hr.units) (pe_ix ix_seq (pv 5) pe_int (fun _ _ => rfl)) pe_str (nomark _)) (pw_or (pt_cmpR op_gt (pv 7) (pe_glob (v := .int 400) rfl (T.int_ok (T.c.fact 69 rfl)).choose_spec ⟨_, rfl⟩) (nomark _)) (pw_or1 (pt_cmpR (op_neD hr.units) (pe_slice sl_list (pv 4) po_none (po_some pe_int)) (pe_lst (pa_cons (pe_ix ix_seq (pv 5) pe_int (fun _ _ => rfl)) pa_nil)) (nomark _)))))) (pss_one (ps_ret pe_bl)) pss_nil)
      (pss_one (ps_ret (pe_and (pe_cmpR op_eq (pe_call (ok_power T) (hr.mono (by decide)) rfl (g_power T) (kp_power T) (B_power T) .nil passL (pa_cons (pv 6) (pa_cons (pe_ix ix_seq (pv 5) pe_int (fun _ _ => rfl)) (pa_cons (pv 1) pa_nil)))) (pe_op op_mod (pv 2) (pv 6)) (nomark _)) (pe_one (pe_call (ok_shows_turned T) (hr.mono (by decide)) rfl (g_shows_turned T) (kp_shows_turned T) (B_shows_turned T) .nil pass0 (pa_cons (pv 0) (pa_cons (pv 7) (pa_cons (pv 4) (pa_cons (pe_ix ix_seq (pv 5) pe_int (fun _ _ => rfl)) pa_nil))))))))))))))))))), ?_⟩)
  · obtain ⟨v, vt, d, dt, k, a, rfl, _⟩ := h; rfl
  · obtain ⟨v, vt, d, dt, kk, a, rfl, hd, hbd, hdt, hbt, k0, kb, k⟩ := h
    have bad : ¬ (IsPap d ∧ IsRt (pOf d) kk a dt) → ∀ H2, Same H H2 → Q (.bl false) H2 := fun h H2 s2 => k false H2 ⟨fun z => (nomatch z), fun z => absurd z h⟩ s2
    have shS : ∀ x : Str, PyData.strOk x = true → SeqAt.shaped (.str x) = true := fun x h => (Bd.str x h : Bd 1 _).shaped (by decide)
    walk_at "g"
    refine ⟨v, d, rfl, hd, hbd, fun bb H1 hbb s1 => ?_⟩
    walk_at "g"
    cases bb with
    | false =>
      walk_at "g"
      exact bad (fun z => absurd (hbb.mpr z.1) (by simp)) H1 s1
    | true =>
    have hpap : IsPap d := hbb.mp rfl
    obtain ⟨t, u, f, xs, ds, rfl, et, eu, hds, hp, hpb, hl, hrow, hlen⟩ := (hd.same s1).paper hpap hbd
    have hp2 := hp.1
    have hdP : Da H1 (.ref t) d := hd.same s1
    have hk := k
    generalize hpd : pOf d = p at *
    have ee : (p : Int) - 1 = ((p - 1 : Nat) : Int) := by omega
    have p10 : 0 < p - 1 := by omega
    have ia := M.un_iff (p := p) (a := a)
    have badF : ¬ IsRt p kk a dt → ∀ H2, Same H H2 → Q (.bl false) H2 := fun h H2 s2 => bad (fun z => h z.2) H2 s2
    walk_at "g"
    refine ⟨vt, dt, 2, rfl, hdt.same s1, ?_⟩
    walk_at "g"
    cases er : isR 2 dt with
    | false =>
      walk_at "g"
      exact badF (fun ⟨rs, s, _, e, _⟩ => by rw [e] at er; cases er) H1 s1
    | true =>
    obtain ⟨es, rfl, hl2⟩ := isR_inv er
    obtain ⟨d0, d1, rfl⟩ : ∃ a0 a1, es = [a0, a1] := by
      match es, hl2 with
      | [a, b], _ => exact ⟨a, b, rfl⟩
      | [], h => simp at h
      | [_], h => simp at h
      | _ :: _ :: _ :: _, h => simp at h; omega
    obtain ⟨m1, em1, _, hb1⟩ := hbt.tup_inv
    have hbd0 : Bd 59 d0 := by rw [show 59 = m1 by omega]; exact hb1 d0 (by simp)
    have hbd1 : Bd 59 d1 := by rw [show 59 = m1 by omega]; exact hb1 d1 (by simp)
    have hdt1 := hdt.same s1
    cases hdt1 with
    | @tup tt ys _ ett hy =>
    obtain ⟨y0, y1, yr, rfl, h0, h1, h2⟩ := hy.two
    cases h2
    walk_at "g"
    refine s_ixT (SqT.of ett) (atI0 0 rfl rfl) ?_
    walk_at "g"
    refine s_isiLst h0 ?_
    walk_at "g"
    cases el : isLst d0 with
    | false =>
      walk_at "g"
      exact badF (fun ⟨rs, s, _, e, _⟩ => by cases e; cases el) H1 s1
    | true =>
    cases h0 with
    | non => cases el
    | bl b => cases el
    | int i => cases el
    | str x => cases el
    | tup _ _ => cases el
    | @lst D ws qs eD hqs _ =>
    obtain ⟨m2, em2, hql, hbq⟩ := hbd0.lst_inv
    walk_at "g"
    refine s_gtup (SqT.of ett) rfl ?_
    walk_at "g"
    refine .inr ⟨D, ws, qs, 0, rfl, eD, hqs, hql, fun H2 s2 => ?_⟩
    have s12 := s1.trans s2
    walk_at "g"
    cases ew : qs.all (isW 0) with
    | false =>
      walk_at "g"
      refine badF (fun ⟨rs, s, hI, e, _⟩ => ?_) H2 s12
      cases e
      rw [wholes_all fun r hr => ((hI.iff r).mp hr).1] at ew
      cases ew
    | true =>
    obtain ⟨rs, rfl, hr0⟩ := wholes_back ew
    obtain rfl := dal_back hqs
    rw [List.length_map] at hql
    have hrb : ∀ r ∈ rs, 0 ≤ r ∧ r.natAbs < 2 ^ 300 := fun r hr => ⟨hr0 r hr, (hbq (.int r) (List.mem_map.mpr ⟨r, hr, rfl⟩)).int_inv⟩
    have eD2 := s2 _ _ eD
    walk_at "g"
    refine s_isiTup (h1.same s2) ?_
    walk_at "g"
    cases ett1 : isTup d1 with
    | false =>
      walk_at "g"
      refine badF (fun ⟨rs, s, _, e, h⟩ => ?_) H2 s12
      simp only [PyData.tuple.injEq, List.cons.injEq, and_true] at e
      have e2 := e.2
      rcases h with ⟨_, e⟩ | ⟨_, _, e⟩ | ⟨_, _, _, _, turn, _, _, _, e⟩ <;> (rw [e2, e] at ett1; cases ett1)
    | true =>
    have h12 := h1.same s2
    cases h12 with
    | non => cases ett1
    | bl b => cases ett1
    | int i => cases ett1
    | str x => cases ett1
    | lst _ _ => cases ett1
    | @tup S zs ss eS hss =>
    obtain ⟨m3, em3, hsl, hbs⟩ := hbd1.tup_inv
    have hzl := hss.len
    have noR : ¬ IsRt p kk a (.tuple [.list (rs.map .int), .tuple ss]) → ∀ H3, Same H H3 → Q (.bl false) H3 := badF
    have b1 : Bd 59 (.list (rs.map .int)) := hbd0
    have dpL : ∀ H3, Same H2 H3 → Dp K H3 (.ref D) (.list (rs.map .int)) := fun H3 s3 => .lst (SqL.of (s3 _ _ eD2)) (DaL.dp K (F := fun _ => True) (dal_ints _))
    have dpS : ∀ H3, Same H2 H3 → Dp K H3 (.ref S) (.tuple ss) := fun H3 s3 => DaF.dp K (F := fun _ => True) (.tup (s3 _ _ eS) (hss.same s3))
    walk_at "g"
    refine s_ixT (SqT.of (s2 _ _ et)) (atI0 0 rfl rfl) ?_
    walk_at "g"
    refine s_i (by omega) ?_
    walk_at "g"
    refine s_ite (fun c => ?_) (fun c => ?_)
    · have hn : ¬ M.un p a := fun z => ia.mp z c
      walk_at "g"
      refine mkT (by simp) fun W H3 nW eW s3 => ?_
      walk_at "g"
      have bW : Bd 2 (.tuple [.str "nought"]) := .tup (by simp) fun d hd => by rw [List.mem_singleton.mp hd]; exact .str _ (by decide +kernel)
      refine s_eqD (.tuple ss) (.tuple [.str "nought"]) (dpS H3 s3) (.tup (SqT.of eW) (.cons (.str _) .nil)) (hbd1.shaped (by decide)) (bW.shaped (by decide)) ?_
      walk_at "g"
      cases e1 : PyData.eqv (.tuple ss) (.tuple [.str "nought"]) with
      | false =>
        walk_at "g"
        refine noR (fun ⟨rs2, s, hI, e, h⟩ => ?_) H3 (s12.trans s3)
        rcases h with ⟨_, e2⟩ | ⟨z, _⟩ | ⟨z, _⟩
        · rw [e2] at e
          simp only [PyData.tuple.injEq, List.cons.injEq, and_true] at e
          rw [e.2, eqv_refl _ bW.lay.1] at e1
          cases e1
        · exact hn z
        · exact hn z
      | true =>
        have hss' : ss = [.str "nought"] := by
          match ss, e1 with
          | [], h => simp [PyData.eqv, PyData.eqvAll] at h
          | [x], h => simp only [PyData.eqv, PyData.eqvAll, Bool.and_true] at h; rw [eqv_str.mp h]
          | _ :: _ :: _, h => simp [PyData.eqv, PyData.eqvAll] at h
        subst hss'
        walk_at "g"
        refine mkL (by simp) fun Z H4 nZ eZ s4 => ?_
        have bZ : Bd 1 (.list ([(0 : Int)].map .int)) := .lst (by simp) fun d hd => by rw [List.mem_singleton.mp hd]; exact .int (by decide)
        refine s_eqD (.list (rs.map .int)) (.list ([(0 : Int)].map .int)) (dpL H4 (s3.trans s4)) (.lst (SqL.of eZ) (.cons (.int 0) .nil)) (b1.shaped (by decide)) (bZ.shaped (by decide)) ?_
        refine hk _ H4 ?_ (s12.trans (s3.trans s4))
        rw [eqv_nb_iff nb_ints nb_ints b1.lay.1, PyData.list.injEq, map_int_inj]
        constructor
        · intro h
          subst h
          exact ⟨hpap, [0], _, M.kr_nought hp k0 (Int.dvd_of_emod_eq_zero c), rfl, .inl ⟨hn, rfl⟩⟩
        · rintro ⟨_, rs2, s, hI, e, _⟩
          simp only [PyData.tuple.injEq, List.cons.injEq, PyData.list.injEq, map_int_inj] at e
          rw [e.1]
          exact hI.unique (M.kr_nought hp k0 (Int.dvd_of_emod_eq_zero c))
    have hu : M.un p a := ia.mpr c
    walk_at "g"
    refine s_lenT (SqT.of eS) ?_
    rw [hzl]
    walk_at "g"
    refine s_iten (fun c3 => ?_) (fun c3 => ?_)
    · walk_at "g"
      refine noR (fun ⟨rs2, s, hI, e, h⟩ => ?_) H2 s12
      rcases h with ⟨z, _⟩ | ⟨_, _, e2⟩ | ⟨_, _, _, _, turn, _, _, _, e2⟩
      · exact z hu
      all_goals
        rw [e2] at e
        simp only [PyData.tuple.injEq, List.cons.injEq, and_true] at e
        rw [e.2] at c3
        simp at c3
    obtain ⟨w0, w1, w2, rfl⟩ : ∃ a0 a1 a2, ss = [a0, a1, a2] := by
      have : ss.length = 3 := by omega
      match ss, this with
      | [a, b, c], _ => exact ⟨a, b, c, rfl⟩
    obtain ⟨z0, z1, z2, zr, rfl, g0, g1, g2, g3⟩ := hss.three
    cases g3
    walk_at "g"
    refine mkSlT (SqT.of eS) (show ¬ (HT.sIx 3 0 (some 1) = 0 ∧ HT.sIx 3 3 none = 3) by decide) fun l H3 nl el s3 => ?_
    have el : H3 l = some (.tup [z1, z2]) := el
    walk_at "g"
    refine .inl ⟨l, [z1, z2], [w1, w2], 0, rfl, el, .cons (g1.same s3) (.cons (g2.same s3) .nil), by simp, fun H4 s4 => ?_⟩
    have s24 := s3.trans s4
    have s14 := s12.trans s24
    walk_at "g"
    cases ew2 : [w1, w2].all (isW 0) with
    | false =>
      walk_at "g"
      refine noR (fun ⟨rs2, s, hI, e, h⟩ => ?_) H4 s14
      have nn : ∀ i j : Int, 0 ≤ i → 0 ≤ j → [PyData.int i, .int j].all (isW 0) = true := fun i j h1 h2 => by
        simp only [List.all_cons, List.all_nil, isW_int, decide_eq_true h1, decide_eq_true h2]; rfl
      rcases h with ⟨z, _⟩ | ⟨_, _, e2⟩ | ⟨_, _, _, hlen2, turn, t1, t2, t3, e2⟩
      · exact z hu
      · rw [e2] at e
        simp only [PyData.tuple.injEq, List.cons.injEq, and_true] at e
        rw [e.2.2.1, e.2.2.2, nn _ _ (Int.natCast_nonneg _) (M.pw_range (n := (p : Int)) (by omega) _ _).1] at ew2
        cases ew2
      · rw [e2] at e
        simp only [PyData.tuple.injEq, List.cons.injEq, and_true] at e
        have hd0 : 0 ≤ rs2.headD 0 := by
          cases rs2 with
          | nil => simp
          | cons x _ => exact ((hI.iff x).mp (by simp)).1
        rw [e.2.2.1, e.2.2.2, nn _ _ hd0 (by omega)] at ew2
        cases ew2
    | true =>
    simp only [List.all_cons, List.all_nil, Bool.and_true, Bool.and_eq_true] at ew2
    obtain ⟨i1, rfl, i10⟩ := isW_inv ew2.1
    obtain ⟨i2, rfl, i20⟩ := isW_inv ew2.2
    cases g1
    cases g2
    have hi1 := (hbs (.int i1) (by simp)).int_inv
    have hi2 := (hbs (.int i2) (by simp)).int_inv
    have eS4 := s24 _ _ eS
    walk_at "g"
    refine ⟨kk, (p : Int) - 1, rfl, by omega, by omega, fun g u' v' T1 I nT1 => ?_⟩
    have S5 : Same H4 (upd H4 T1 (.tup [.int g, .int u', .int v'])) := same_upd nT1
    have eT1 : upd H4 T1 (.tup [.int g, .int u', .int v']) T1 = some (.tup [.int g, .int u', .int v']) := upd_same
    generalize upd H4 T1 (.tup [.int g, .int u', .int v']) = H5 at S5 eT1 ⊢
    have hg : g = ((Nat.gcd kk (p - 1) : Nat) : Int) := by
      have := I.hg
      rw [ee] at this
      exact this
    clear I
    subst hg
    have s25 := s24.trans S5
    have s15 := s12.trans s25
    have gp0 : 0 < Nat.gcd kk (p - 1) := Nat.gcd_pos_of_pos_right _ p10
    have gp := Nat.gcd_dvd_right kk (p - 1)
    have gb := Nat.le_of_dvd p10 gp
    have eb : (p - 1) / Nat.gcd kk (p - 1) ≤ p - 1 := Nat.div_le_self _ _
    have eie : (((p - 1 : Nat) : Int) / ((Nat.gcd kk (p - 1) : Nat) : Int)) = (((p - 1) / Nat.gcd kk (p - 1) : Nat) : Int) := (Int.natCast_ediv _ _).symm
    have h1w := M.pw_one_iff hp2 (a := a) (e := (p - 1) / Nat.gcd kk (p - 1))
    have hnone := M.kr_none (p := p) (k := kk) (a := a) hp hu k0
    have hkr1 := fun (y : Int) => M.kr_one (p := p) (k := kk) (a := a) (y := y) hp hu k0
    have hunf : ∀ rs' : List Int, IsRt p kk a (.tuple [.list (rs'.map .int), .tuple [w0, .int i1, .int i2]]) ↔ M.IsKR p kk a rs' ∧ ((¬ M.is1 p a ((p - 1) / Nat.gcd kk (p - 1)) ∧ w0 = .str "none" ∧ i1 = ((p - 1) / Nat.gcd kk (p - 1) : Nat) ∧ i2 = M.pw p a ((p - 1) / Nat.gcd kk (p - 1))) ∨
        (M.is1 p a ((p - 1) / Nat.gcd kk (p - 1)) ∧ Nat.gcd kk (p - 1) ≤ 400 ∧ rs'.length = Nat.gcd kk (p - 1) ∧ 0 < i2 ∧ i2 < p ∧ M.Ord p i2 (Nat.gcd kk (p - 1)) ∧ w0 = .str "turned" ∧ i1 = rs'.headD 0)) := fun rs' => by
      constructor
      · rintro ⟨rs2, s, hI, e, h⟩
        rcases h with ⟨z, _⟩ | ⟨_, hn, e2⟩ | ⟨_, hy, h4, hlen2, turn, t1, t2, t3, e2⟩
        · exact absurd hu z
        · rw [e2] at e
          simp only [PyData.tuple.injEq, List.cons.injEq, PyData.list.injEq, map_int_inj, PyData.int.injEq, and_true] at e
          obtain ⟨rfl, q1, q2, q3⟩ := e
          exact ⟨hI, .inl ⟨hn, q1, q2, q3⟩⟩
        · rw [e2] at e
          simp only [PyData.tuple.injEq, List.cons.injEq, PyData.list.injEq, map_int_inj, PyData.int.injEq, and_true] at e
          obtain ⟨rfl, q1, q2, rfl⟩ := e
          exact ⟨hI, .inr ⟨hy, h4, hlen2, t1, t2, t3, q1, q2⟩⟩
      · rintro ⟨hI, ⟨hn, q1, q2, q3⟩ | ⟨hy, h4, hlen2, t1, t2, t3, q1, q2⟩⟩
        · exact ⟨rs', _, hI, rfl, .inr (.inl ⟨hu, hn, by rw [q1, q2, q3]⟩)⟩
        · exact ⟨rs', _, hI, rfl, .inr (.inr ⟨hu, hy, h4, hlen2, i2, t1, t2, t3, by rw [q1, q2]⟩)⟩
    have hIR := hunf rs
    have hkE := hk
    have no : ¬ (M.IsKR p kk a rs ∧ ((¬ M.is1 p a ((p - 1) / Nat.gcd kk (p - 1)) ∧ w0 = .str "none" ∧ i1 = ((p - 1) / Nat.gcd kk (p - 1) : Nat) ∧ i2 = M.pw p a ((p - 1) / Nat.gcd kk (p - 1))) ∨
        (M.is1 p a ((p - 1) / Nat.gcd kk (p - 1)) ∧ Nat.gcd kk (p - 1) ≤ 400 ∧ rs.length = Nat.gcd kk (p - 1) ∧ 0 < i2 ∧ i2 < p ∧ M.Ord p i2 (Nat.gcd kk (p - 1)) ∧ w0 = .str "turned" ∧ i1 = rs.headD 0))) → ∀ H3, Same H H3 → Q (.bl false) H3 := fun h => badF fun z => h (hIR.mp z)
    have yes : ∀ (o : Bool) H3, (o = true ↔ (M.IsKR p kk a rs ∧ ((¬ M.is1 p a ((p - 1) / Nat.gcd kk (p - 1)) ∧ w0 = .str "none" ∧ i1 = ((p - 1) / Nat.gcd kk (p - 1) : Nat) ∧ i2 = M.pw p a ((p - 1) / Nat.gcd kk (p - 1))) ∨
        (M.is1 p a ((p - 1) / Nat.gcd kk (p - 1)) ∧ Nat.gcd kk (p - 1) ≤ 400 ∧ rs.length = Nat.gcd kk (p - 1) ∧ 0 < i2 ∧ i2 < p ∧ M.Ord p i2 (Nat.gcd kk (p - 1)) ∧ w0 = .str "turned" ∧ i1 = rs.headD 0)))) → Same H H3 → Q (.bl o) H3 := fun o H3 h s => hkE o H3 (h.trans (hIR.symm.trans ⟨fun z => ⟨hpap, z⟩, fun z => z.2⟩)) s
    clear hIR hunf noR badF hkE hk k bad
    generalize hG : Nat.gcd kk (p - 1) = G at *
    generalize (p - 1) / G = e at *
    walk_at "g"
    refine s_ixT (SqT.of eT1) (atI0 0 rfl rfl) ?_
    walk_at "g"
    refine s_i (divW (by omega) (by omega)) ?_
    rw [ee, eie]
    walk_at "g"
    refine pos_power (m := e) rfl (by omega) (by omega) ?_
    have hpr := M.pw_range (n := (p : Int)) (by omega) a e
    have eS5 := S5 _ _ eS4
    have hw0 : Da H5 z0 w0 := g0.same s25
    have hbw : Bd 58 w0 := by rw [show 58 = m3 by omega]; exact hbs w0 (by simp)
    walk_at "g"
    refine s_ixT (SqT.of eS5) (atI0 0 rfl rfl) ?_
    walk_at "g"
    refine s_eqD w0 (.str "none") (hw0.dp K) (.str _) (hbw.shaped (by decide)) (shS _ (by decide +kernel)) ?_
    walk_at "g"
    cases e1 : PyData.eqv w0 (.str "none") with
    | true =>
      obtain rfl := eqv_str.mp e1
      walk_at "g"
      refine mkL (by simp) fun Z H6 nZ eZ s6 => ?_
      have bZ : Bd 1 (.list (([] : List Int).map .int)) := .lst (by simp) fun d hd => by simp at hd
      refine s_eqD (.list (rs.map .int)) (.list (([] : List Int).map .int)) (dpL H6 (s25.trans s6)) (.lst (SqL.of eZ) .nil) (b1.shaped (by decide)) (bZ.shaped (by decide)) ?_
      have ev := eqv_nb_iff (nb_ints (rs := rs)) (nb_ints (rs := [])) b1.lay.1
      rw [PyData.list.injEq, map_int_inj] at ev
      walk_at "g"
      cases e2 : PyData.eqv (.list (rs.map .int)) (.list (([] : List Int).map .int)) with
      | false =>
        walk_at "g"
        refine no (fun ⟨hI, h⟩ => ?_) H6 (s15.trans s6)
        rcases h with ⟨hn, _⟩ | ⟨_, _, _, _, _, _, q, _⟩
        · rw [ev.mpr (hI.unique (hnone hn))] at e2
          cases e2
        · cases q
      | true =>
        obtain rfl := ev.mp e2
        walk_at "g"
        refine s_i (divW (by omega) (by omega)) ?_
        rw [ee, eie]
        walk_at "g"
        refine mkT (by simp) fun W H7 nW eW s7 => ?_
        have s57 := s6.trans s7
        have bW : Bd 2 (.tuple [.str "none", .int (e : Nat), .int (M.pw p a e)]) := .tup (by simp) fun d hd => by
          simp only [List.mem_cons, List.not_mem_nil, or_false] at hd
          rcases hd with z | z | z <;> subst z
          · exact .str _ (by decide +kernel)
          · exact .int (by omega)
          · exact .int (by omega)
        refine s_eqD (.tuple [.str "none", .int i1, .int i2]) (.tuple [.str "none", .int (e : Nat), .int (M.pw p a e)]) (dpS H7 (s25.trans s57)) (.tup (SqT.of eW) (.cons (.str _) (.cons (.int _) (.cons (.int _) .nil)))) (hbd1.shaped (by decide)) (bW.shaped (by decide)) ?_
        have ev2 := eqv_nb_iff (d := .tuple [.str "none", .int i1, .int i2]) (e := .tuple [.str "none", .int (e : Nat), .int (M.pw p a e)]) rfl rfl hbd1.lay.1
        simp only [PyData.tuple.injEq, List.cons.injEq, PyData.int.injEq, and_true, true_and] at ev2
        walk_at "g"
        cases e3 : PyData.eqv (.tuple [.str "none", .int i1, .int i2]) (.tuple [.str "none", .int (e : Nat), .int (M.pw p a e)]) with
        | false =>
          walk_at "g"
          refine no (fun ⟨hI, h⟩ => ?_) H7 (s15.trans s57)
          rcases h with ⟨hn, _, q2, q3⟩ | ⟨_, _, _, _, _, _, q, _⟩
          · rw [ev2.mpr ⟨q2, q3⟩] at e3
            cases e3
          · cases q
        | true =>
          obtain ⟨q2, q3⟩ := ev2.mp e3
          walk_at "g"
          refine yes _ H7 ?_ (s15.trans s57)
          rw [Bool.not_eq_true', decide_eq_false_iff_not]
          constructor
          · intro h
            have hn : ¬ M.is1 p a e := fun z => h (h1w.mpr z)
            exact ⟨hnone hn, .inl ⟨hn, rfl, q2, q3⟩⟩
          · rintro ⟨hI, ⟨hn, _⟩ | ⟨_, _, _, _, _, _, q, _⟩⟩
            · exact fun z => hn (h1w.mp z)
            · cases q
    | false =>
    have hw0n : w0 ≠ .str "none" := fun z => by rw [eqv_str.mpr z] at e1; cases e1
    walk_at "g"
    refine s_ixT (SqT.of eS5) (atI0 0 rfl rfl) ?_
    walk_at "g"
    refine s_neD w0 (.str "turned") (hw0.dp K) (.str _) (hbw.shaped (by decide)) (shS _ (by decide +kernel)) ?_
    walk_at "g"
    cases e2 : PyData.eqv w0 (.str "turned") with
    | false =>
      walk_at "g"
      refine no (fun ⟨hI, h⟩ => ?_) H5 s15
      rcases h with ⟨hn, q, _⟩ | ⟨_, _, _, _, _, _, q, _⟩
      · exact hw0n q
      · rw [eqv_str.mpr q] at e2; cases e2
    | true =>
    obtain rfl := eqv_str.mp e2
    walk_at "g"
    refine s_ite (fun c4 => ?_) (fun c4 => ?_)
    · walk_at "g"
      refine no (fun ⟨hI, h⟩ => ?_) H5 s15
      rcases h with ⟨hn, q, _⟩ | ⟨_, q, _⟩
      · cases q
      · omega
    walk_at "g"
    refine mkSl (SqL.of (s25 _ _ eD2)) fun l2 H6 nl2 el2 s6 => ?_
    have el2 : H6 l2 = some (.lst ((rs.take 1).map V.int)) := by
      rw [el2]
      congr 2
      unfold cutV
      rw [List.length_map]
      have h0 : HT.sIx rs.length 0 none = 0 := rfl
      have h1 : HT.sIx rs.length rs.length (some 1) = min 1 rs.length := by
        unfold HT.sIx
        simp
        try omega
      rw [h0, h1, List.drop_zero, Nat.sub_zero, List.map_take]
      cases rs with
      | nil => rfl
      | cons r rs => simp
    walk_at "g"
    refine s_ixT (SqT.of (s6 _ _ eS5)) (atI0 1 rfl rfl) ?_
    walk_at "g"
    refine mkL (by simp) fun L3 H7 nL3 eL3 s7 => ?_
    have s57 := s6.trans s7
    have bT : Bd 1 (.list ((rs.take 1).map .int)) := .lst (by rw [List.length_map, List.length_take]; omega) fun d hd => by
      obtain ⟨z, hz, rfl⟩ := List.mem_map.mp hd
      exact .int (hrb z (List.mem_of_mem_take hz)).2
    have bU : Bd 1 (.list ([i1].map .int)) := .lst (by simp) fun d hd => by rw [List.mem_singleton.mp hd]; exact .int hi1
    refine s_neD (.list ((rs.take 1).map .int)) (.list ([i1].map .int)) (.lst (SqL.of (s7 _ _ el2)) (DaL.dp K (F := fun _ => True) (dal_ints _))) (.lst (SqL.of eL3) (.cons (.int _) .nil)) (bT.shaped (by decide)) (bU.shaped (by decide)) ?_
    have ev := eqv_nb_iff (nb_ints (rs := rs.take 1)) (nb_ints (rs := [i1])) bT.lay.1
    rw [PyData.list.injEq, map_int_inj] at ev
    walk_at "g"
    cases e3 : PyData.eqv (.list ((rs.take 1).map .int)) (.list ([i1].map .int)) with
    | false =>
      walk_at "g"
      refine no (fun ⟨hI, h⟩ => ?_) H7 (s15.trans s57)
      rcases h with ⟨hn, q, _⟩ | ⟨_, _, hlen2, _, _, _, _, q⟩
      · cases q
      · cases rs with
        | nil => simp at hlen2; omega
        | cons r rs' =>
          rw [ev.mpr (by rw [q]; rfl)] at e3
          cases e3
    | true =>
    have hev := ev.mp e3
    obtain ⟨rs', rfl⟩ : ∃ rs', rs = i1 :: rs' := by
      cases rs with
      | nil => simp at hev
      | cons r rs' => simp at hev; exact ⟨rs', by rw [hev]⟩
    have eS7 := s57 _ _ eS5
    walk_at "g"
    refine s_ixT (SqT.of eS7) (atI0 1 rfl rfl) ?_
    walk_at "g"
    refine pos_power (m := kk) rfl (by omega) (by omega) ?_
    walk_at "g"
    refine s_i (by omega) ?_
    walk_at "g"
    refine s_ite (fun c5 => ?_) (fun c5 => ?_)
    · have hal : M.al p (i1 ^ kk) a := M.al_of_emod c5
      have hy : M.is1 p a e := hkr1 i1 hal
      walk_at "g"
      refine s_ixT (SqT.of eS7) (atI0 2 rfl rfl) ?_
      walk_at "g"
      refine ⟨.ref t, d, 135, G, kk, D, i1 :: rs', a, i2, rfl, hdP.same (s2.trans (s25.trans s57)), hpap, hbd, s57 _ _ (s25 _ _ eD2), hrb, hi2, by omega, by rw [hpd, hG], k0, by rw [hpd]; exact hu, by rw [hpd]; exact hal, fun o H8 ho s8 => ?_⟩
      rw [hpd] at ho
      refine yes o H8 (ho.trans ?_) (s15.trans (s57.trans s8))
      constructor
      · rintro ⟨t1, t2, t3, t4, t5⟩
        exact ⟨t5, .inr ⟨hy, by omega, t4, t1, t2, t3, rfl, rfl⟩⟩
      · rintro ⟨hI, ⟨hn, q, _⟩ | ⟨_, _, hlen2, t1, t2, t3, _⟩⟩
        · cases q
        · exact ⟨t1, t2, t3, hlen2, hI⟩
    · walk_at "g"
      refine no (fun ⟨hI, _⟩ => c5 ?_) H7 (s15.trans s57)
      exact M.al_emod ((hI.iff i1).mp (by simp)).2.2

/-! data of tuples alone stand when one place that holds no tuple changes -/
mutual
theorem DaF.tups {H H' : Hp} (s : ∀ b r, H b = some (.tup r) → H' b = some (.tup r)) : ∀ {v : V} {d : PyData}, DaF (fun _ => False) H v d → DaF (fun _ => False) H' v d
  | _, _, .non => .non
  | _, _, .bl b => .bl b
  | _, _, .int i => .int i
  | _, _, .str x => .str x
  | _, _, .tup e h => .tup (s _ _ e) (DaL.tups s h)
theorem DaL.tups {H H' : Hp} (s : ∀ b r, H b = some (.tup r) → H' b = some (.tup r)) : ∀ {vs : List V} {ds : List PyData}, DaL (fun _ => False) H vs ds → DaL (fun _ => False) H' vs ds
  | _, _, .nil => .nil
  | _, _, .cons h t => .cons (DaF.tups s h) (DaL.tups s t)
end
theorem DaF.sameN {H H' : Hp} {s : Addr} {v : V} {d : PyData} (h : DaF (fun _ => False) H v d) (st : ∀ r, H s ≠ some (.tup r)) (sb : SameB s H H') : Tu H' v d := DaF.tups (fun b r e => sb _ _ (fun z => by
  rw [z] at e; exact st _ e) e) h
theorem DaF.da {H : Hp} {v : V} {d : PyData} (h : DaF (fun _ => False) H v d) : Da H v d := h.mono fun _ z => z.elim

/-! the small readers of morechecks, of any datum -/
/-- a list of one to five prime papers, their primes rising -/
def PapsD (d : PyData) : Prop := ∃ ds : List PyData, d = .list ds ∧ 1 ≤ ds.length ∧ ds.length ≤ 5 ∧ (∀ e ∈ ds, IsPap e) ∧ (ds.map pOf).Pairwise (· < ·)
def isBel : PyData → Int → Bool
  | .int i, b => decide (0 ≤ i) && decide (i < b)
  | _, _ => false
theorem isBel_inv {d : PyData} {b : Int} (h : isBel d b = true) : ∃ i : Nat, d = .int (i : Nat) ∧ (i : Int) < b := by
  cases d with
  | int i =>
    simp only [isBel, Bool.and_eq_true, decide_eq_true_eq] at h
    obtain ⟨n, rfl⟩ := Int.eq_ofNat_of_zero_le h.1
    exact ⟨n, rfl, h.2⟩
  | _ => cases h
def isNm : PyData → Str → Int → Bool
  | .tuple (e :: es), w, m => decide (((e :: es).length : Int) = m) && PyData.eqv e (.str w)
  | _, _, _ => false
theorem isNm_inv {d : PyData} {w : Str} {m : Int} (h : isNm d w m = true) : ∃ es, d = .tuple (.str w :: es) ∧ ((es.length : Int) + 1 = m) := by
  cases d with
  | tuple es =>
    cases es with
    | nil => cases h
    | cons e es =>
      simp only [isNm, Bool.and_eq_true, decide_eq_true_eq] at h
      have := eqv_str.mp h.2
      subst this
      exact ⟨es, rfl, by have := h.1; simp only [List.length_cons] at this; omega⟩
  | _ => cases h
theorem isNm_of {w : Str} {es : List PyData} {m : Int} (h : (es.length : Int) + 1 = m) : isNm (.tuple (.str w :: es)) w m = true := by
  simp only [isNm, Bool.and_eq_true, decide_eq_true_eq]
  exact ⟨by simp only [List.length_cons]; omega, eqv_str.mpr rfl⟩
/-- is_below(thing, bound), of any datum -/
def sp_is_below : Sp := fun vs H Q _ => ∃ (v : V) (d : PyData) (b : Int), vs = [v, .int b] ∧ Da H v d ∧ Q (.bl (isBel d b)) H
theorem ok_is_below (T : Txt K mg) : FnOk P w K mg base CX0 2 (He.ga K "is_below") (fd_is_below T) ["thing", "bound"] sp_is_below := by
  refine (F_is_below T).ok sc_is_below (fun vs H Q E h => ?_) (fun cdv A outer s H vs Q E hr h => ⟨_, PSs.nox (pss_one (ps_ret (pe_and (pe_call (ok_is_whole T) (hr.mono (by decide)) rfl (g_is_whole T) (kp_is_whole T) (B_is_whole T) .nil pass0 (pa_cons (pv 0) (pa_cons pe_int pa_nil))) (pe_one (pe_cmpR op_lt (pv 0) (pv 1) (nomark _)))))), ?_⟩)
  · obtain ⟨v, d, b, rfl, _⟩ := h; rfl
  · obtain ⟨v, d, b, rfl, hd, k⟩ := h
    walk_at "g"
    refine ⟨v, d, 0, rfl, hd, ?_⟩
    walk_at "g"
    cases ew : isW 0 d with
    | false =>
      have e : isBel d b = false := by
        cases d with
        | int i =>
          rw [isW_int] at ew
          simp only [isBel, ew, Bool.false_and]
        | _ => rfl
      rw [e] at k
      walk_at "g"
      exact k
    | true =>
      obtain ⟨i, rfl, i0⟩ := isW_inv ew
      cases hd
      have e : isBel (.int i) b = decide (i < b) := by
        simp only [isBel]
        rw [decide_eq_true i0, Bool.true_and]
      rw [e] at k
      walk_at "g"
      exact k
/-- is_named(thing, word, many), of any datum -/
def sp_is_named : Sp := fun vs H Q _ => ∃ (v : V) (d : PyData) (w : Str) (m : Int) (n : Nat), vs = [v, .str w, .int m] ∧ Da H v d ∧ Bd n d ∧ n ≤ 64 ∧ PyData.strOk w = true ∧ 1 ≤ m ∧ Q (.bl (isNm d w m)) H
theorem ok_is_named (T : Txt K mg) : FnOk P w K mg base CX0 2 (He.ga K "is_named") (fd_is_named T) ["thing", "word", "many"] sp_is_named := by
  refine (F_is_named T).ok sc_is_named (fun vs H Q E h => ?_) (fun cdv A outer s H vs Q E hr h => ⟨_, PSs.nox (pss_one (ps_ret (pe_and (pe_call (ok_is_row_of T) (hr.mono (by decide)) rfl (g_is_row_of T) (kp_is_row_of T) (B_is_row_of T) .nil pass0 (pa_cons (pv 0) (pa_cons (pv 2) pa_nil))) (pe_one (pe_cmpR (op_eqD hr.units) (pe_ix ix_seq (pv 0) pe_int (fun _ _ => rfl)) (pv 1) (nomark _)))))), ?_⟩)
  · obtain ⟨v, d, w, m, n, rfl, _⟩ := h; rfl
  · obtain ⟨v, d, w, m, n, rfl, hd, hbd, n64, hw, m1, k⟩ := h
    walk_at "g"
    refine ⟨v, d, m, rfl, hd, ?_⟩
    walk_at "g"
    cases er : isR m d with
    | false =>
      have e : isNm d w m = false := by
        cases h : isNm d w m with
        | false => rfl
        | true =>
          obtain ⟨es, rfl, hl⟩ := isNm_inv h
          rw [isR_tup] at er
          have := of_decide_eq_false er
          simp only [List.length_cons] at this
          omega
      rw [e] at k
      walk_at "g"
      exact k
    | true =>
      obtain ⟨es, rfl, hl⟩ := isR_inv er
      cases es with
      | nil => simp at hl; omega
      | cons e0 es =>
      obtain ⟨m1', em1, _, hb1⟩ := hbd.tup_inv
      cases hd with
      | @tup t ys _ et hy =>
      cases hy with
      | @cons y0 ys' _ _ h0 ht =>
      walk_at "g"
      refine s_ixT (SqT.of et) (atI0 0 rfl rfl) ?_
      walk_at "g"
      refine s_eqD e0 (.str w) (h0.dp K) (.str _) ((hb1 e0 (by simp)).shaped (by omega)) ((Bd.str w hw : Bd 1 _).shaped (by decide)) ?_
      have e : isNm (.tuple (e0 :: es)) w m = PyData.eqv e0 (.str w) := by
        simp only [isNm]
        rw [decide_eq_true hl, Bool.true_and]
      rw [e] at k
      walk_at "g"
      exact k
/-- are_primes(things), of any datum -/
def sp_are_primes : Sp := fun vs H Q _ => ∃ (v : V) (d : PyData), vs = [v] ∧ Da H v d ∧ Bd 136 d ∧ ∀ (o : Bool) H', (o = true ↔ PapsD d) → Same H H' → Q (.bl o) H'
theorem ok_are_primes (T : Txt K mg) : FnOk P w K mg base CX0 146 (He.ga K "are_primes") (fd_are_primes T) ["things"] sp_are_primes := by
  refine (F_are_primes T).ok sc_are_primes (fun vs H Q E h => ?_) (fun cdv A outer s H vs Q E hr h => ⟨_, PSs.nox (pss_cons (ps_if (PW.pt (pw_or (pt_not (pt_val (pe_callB call_isi rfl (T.fr (T.c.fact 59 rfl)) boot_isinstance (pa_cons (pv 0) (pa_cons (pe_bltn (v := .ty "list") rfl (T.fr (T.c.fact 65 rfl)) boot_list rfl) pa_nil))))) (pw_or (pt_cmpR op_lt (pe_callB callLen rfl (T.fr (T.c.fact 62 rfl)) boot_len (pa_cons (pv 0) pa_nil)) pe_int (nomark _)) (pw_or1 (pt_cmpR op_gt (pe_callB callLen rfl (T.fr (T.c.fact 62 rfl)) boot_len (pa_cons (pv 0) pa_nil)) (pe_glob (v := .int 5) rfl (T.int_ok (T.c.fact 70 rfl)).choose_spec ⟨_, rfl⟩) (nomark _)))))) (pss_one (ps_ret pe_bl)) pss_nil)
      (pss_cons (ps_set (i := 1) sc_are_primes.nd rfl (Or.inl rfl) pe_int)
      (pss_cons (ps_for PassesOwn.never rfl (pi_list (pv 0)) (pg_name (i := 2) sc_are_primes.nd rfl (Or.inl rfl)) (pss_cons (ps_if (PW.pt (pw_or (pt_not (pt_val (pe_call (ok_is_prime_paper T) (hr.mono (by decide)) rfl (g_is_prime_paper T) (kp_is_prime_paper T) (B_is_prime_paper T) .nil pass0 (pa_cons (pv 2) pa_nil)))) (pw_or1 (pt_cmpR op_le (pe_ix ix_seq (pv 2) pe_int (fun _ _ => rfl)) (pv 1) (nomark _))))) (pss_one (ps_ret pe_bl)) pss_nil)
      (pss_one (ps_set (i := 1) sc_are_primes.nd rfl (Or.inl rfl) (pe_ix ix_seq (pv 2) pe_int (fun _ _ => rfl))))))
      (pss_one (ps_ret pe_bl))))), ?_⟩)
  · obtain ⟨v, d, rfl, _⟩ := h; rfl
  · obtain ⟨v, d, rfl, hd, hbd, k⟩ := h
    have bad : (PapsD d → False) → ∀ H2, Same H H2 → Q (.bl false) H2 := fun h H2 s2 => k false H2 ⟨fun z => (nomatch z), fun z => (h z).elim⟩ s2
    walk_at "g"
    refine s_isiLst hd ?_
    walk_at "g"
    cases el : isLst d with
    | false =>
      walk_at "g"
      exact bad (fun ⟨ds, e, _⟩ => by rw [e] at el; cases el) H (Same.refl _)
    | true =>
    cases hd with
    | non => cases el
    | bl b => cases el
    | int i => cases el
    | str x => cases el
    | tup _ _ => cases el
    | @lst D ws ds eD hds _ =>
    obtain ⟨m2, em2, hql, hbq⟩ := hbd.lst_inv
    have hwl := hds.len
    walk_at "g"
    refine s_lenL (SqL.of eD) ?_
    rw [hwl]
    walk_at "g"
    refine s_ite (fun c1 => ?_) (fun c1 => ?_)
    · walk_at "g"
      exact bad (fun ⟨ds', e, z, _⟩ => by cases e; omega) H (Same.refl _)
    walk_at "g"
    refine s_lenL (SqL.of eD) ?_
    rw [hwl]
    walk_at "g"
    refine s_ite (fun c2 => ?_) (fun c2 => ?_)
    · walk_at "g"
      exact bad (fun ⟨ds', e, _, z, _⟩ => by cases e; omega) H (Same.refl _)
    walk_at "g"
    refine ⟨⟨_, SqL.of eD⟩, ?_⟩
    refine for_list (fun i σ H' => Same H H' ∧ ∃ (last : Int) (v2 : Option V), σ = [some (.ref D), some (.int last), v2] ∧ (∀ e ∈ ds.take i, IsPap e ∧ (pOf e : Int) ≤ last) ∧ ((ds.take i).map pOf).Pairwise (· < ·) ∧ (i = 0 ∧ last = 1 ∨ ∃ e ∈ ds.take i, (pOf e : Int) = last)) ⟨Same.refl _, 1, none, rfl, by simp, by simp, .inl ⟨rfl, rfl⟩⟩ (fun i σ H' _ I => SqL.of (I.1 _ _ eD)) ?_ ?_
    · rintro i x σ H' hi ⟨s1, last, v2, rfl, hall, hpw, hla⟩
      obtain ⟨q, hq, hxq⟩ := hds.get hi
      have hmem := List.mem_of_getElem? hq
      have hqi := List.getElem?_eq_some_iff.mp hq
      walk_at "g"
      refine ⟨x, q, rfl, hxq.same s1, by rw [show 3 * 45 = m2 by omega]; exact hbq q hmem, fun bb H2 hbb s2 => ?_⟩
      have s12 := s1.trans s2
      walk_at "g"
      cases bb with
      | false =>
        walk_at "g"
        exact bad (fun ⟨ds', e, _, _, z, _⟩ => by cases e; exact absurd (hbb.mpr (z q hmem)) (by simp)) H2 s12
      | true =>
      have hpap : IsPap q := hbb.mp rfl
      obtain ⟨t, u, f, xs, es, rfl, et, eu, hes, hp, hpb, hl, hrow, hlen⟩ := (hxq.same s12).paper hpap (hbq q hmem)
      have hp2 := hp.1
      walk_at "g"
      refine s_ixT (SqT.of et) (atI0 0 rfl rfl) ?_
      walk_at "g"
      refine s_ite (fun c3 => ?_) (fun c3 => ?_)
      · walk_at "g"
        refine bad (fun ⟨ds', e, _, _, _, z⟩ => ?_) H2 s12
        cases e
        rcases hla with ⟨_, z1⟩ | ⟨e', he', z1⟩
        · omega
        · obtain ⟨j, hj, hje⟩ := List.getElem_of_mem he'
          rw [List.length_take] at hj
          rw [List.getElem_take] at hje
          have := List.pairwise_iff_getElem.mp z j i (by rw [List.length_map]; omega) (by rw [List.length_map]; exact hqi.1) (by omega)
          rw [List.getElem_map, List.getElem_map, hje, hqi.2] at this
          omega
      walk_at "g"
      refine s_ixT (SqT.of et) (atI0 0 rfl rfl) ?_
      walk_at "g"
      refine ⟨s12, _, _, rfl, ?_, ?_, .inr ⟨q, by rw [take_more hq]; simp, rfl⟩⟩
      · intro e he
        rw [take_more hq] at he
        rcases List.mem_append.mp he with z | z
        · exact ⟨(hall e z).1, by have := (hall e z).2; omega⟩
        · rw [List.mem_singleton.mp z]; exact ⟨hpap, Int.le_refl _⟩
      · rw [take_more hq, List.map_append]
        refine List.pairwise_append.mpr ⟨hpw, by simp, fun r hr z hz => ?_⟩
        obtain ⟨e, he, rfl⟩ := List.mem_map.mp hr
        simp only [List.map_cons, List.map_nil, List.mem_singleton] at hz
        rw [hz]
        have := (hall e he).2
        omega
    · rintro σ H' ⟨s1, last, v2, rfl, hall, hpw, hla⟩
      rw [hwl, List.take_length] at hall hpw
      walk_at "g"
      exact k true H' ⟨fun _ => ⟨ds, rfl, by omega, by omega, fun e he => (hall e he).1, hpw⟩, fun _ => rfl⟩ s1

theorem mkSlA {K : PySem.W.Frag} {H : Hp} {Q : VK} {p : Addr} {xs : List V} {lo hi : Option Int} (hs : SqT K H p xs) (hp : H p = some (.tup xs)) (h : ∀ l H', H' l = some (.tup (cutV xs lo hi)) → Same H H' → Q (.ref l) H') : rSlA K (.ref p) lo hi H Q :=
  ⟨p, xs, rfl, hs, fun z => h p H (by
    have : cutV xs lo hi = xs := by
      unfold cutV
      rw [z.1, z.2, List.drop_zero, Nat.sub_zero, List.take_length]
    rw [this]; exact hp) (Same.refl _), fun _ l hl => h l _ upd_same (same_upd hl)⟩
theorem mkCatA {K : PySem.W.Frag} {H : Hp} {Q : VK} {p q : Addr} {xs ys : List V} (hp : H p = some (.tup xs)) (hq : H q = some (.tup ys)) (hl : xs.length + ys.length ≤ 1000) (h : ∀ l H', H' l = some (.tup (xs ++ ys)) → Same H H' → Q (.ref l) H') : rCatA K (.ref p) (.ref q) H Q :=
  ⟨p, q, xs, ys, rfl, rfl, SqT.of hp, SqT.of hq, Nat.le_trans hl (Nat.le_of_lt (small1000 (Nat.le_refl _))), fun z => h q H (by rw [z]; exact hq) (Same.refl _), fun _ z => h p H (by rw [z, List.append_nil]; exact hp) (Same.refl _), fun _ _ l hl => h l _ upd_same (same_upd hl)⟩

/-! expressions that come to data, the heap only growing -/
section
variable {K : PySem.W.Frag} {F : Addr → Prop} {n m k L : Nat} {te ta tb ti : TE} {tl : TA} {tlo thi : TO} {σ : L2.St} {H : Hp} {v : V} {i j : Int} {d : PyData} {P : Int → Prop}
def EvV (te : TE) (σ : L2.St) (H : Hp) (v : V) : Prop := ∀ H1, Same H H1 → ∀ Q : VK, Q v H1 → te σ H1 Q
def EvI (te : TE) (σ : L2.St) (H : Hp) (P : Int → Prop) : Prop := ∀ H1, Same H H1 → ∀ Q : VK, (∀ i H2, Same H1 H2 → P i → Q (.int i) H2) → te σ H1 Q
def EvD (F : Addr → Prop) (n : Nat) (te : TE) (σ : L2.St) (H : Hp) : Prop := ∀ H1, Same H H1 → ∀ Q : VK, (∀ x H2 d, Same H1 H2 → DaF F H2 x d → Bd n d → Q x H2) → te σ H1 Q
def EvL (F : Addr → Prop) (n k : Nat) (tl : TA) (σ : L2.St) (H : Hp) : Prop := ∀ H1, Same H H1 → ∀ Q : List V → Hp → Prop, (∀ xs H2 ds, Same H1 H2 → DaL F H2 xs ds → (∀ d ∈ ds, Bd n d) → ds.length = k → Q xs H2) → tl σ H1 Q
def EvT (F : Addr → Prop) (n L : Nat) (te : TE) (σ : L2.St) (H : Hp) : Prop := ∀ H1, Same H H1 → ∀ Q : VK, (∀ p xs H2 ds, Same H1 H2 → H2 p = some (.tup xs) → DaL F H2 xs ds → (∀ d ∈ ds, Bd n d) → ds.length ≤ L → Q (.ref p) H2) → te σ H1 Q
def EvX (F : Addr → Prop) (n L : Nat) (te : TE) (σ : L2.St) (H : Hp) : Prop := ∀ H1, Same H H1 → ∀ Q : VK, (∀ p xs H2 ds, Same H1 H2 → H1 p = none → H2 p = some (.lst xs) → DaL F H2 xs ds → (∀ d ∈ ds, Bd n d) → ds.length = L → Q (.ref p) H2) → te σ H1 Q
def EvVs (tl : TA) (σ : L2.St) (H : Hp) (vs : List V) : Prop := ∀ H1, Same H H1 → ∀ Q : List V → Hp → Prop, Q vs H1 → tl σ H1 Q
def EvO (t : TO) (σ : L2.St) (H : Hp) (o : Option Int) : Prop := ∀ H1, Same H H1 → ∀ Q : Option Int → Hp → Prop, Q o H1 → t σ H1 Q
theorem evv_var (e : σ[k]? = some (some v)) : EvV (tVar k) σ H v := fun _ _ _ q => ⟨v, e, q⟩
theorem evv_c : EvV (tC v) σ H v := fun _ _ _ q => q
theorem evi_v (e : EvV te σ H (.int i)) (h : P i) : EvI te σ H P := fun H1 s1 Q q => e H1 s1 Q (q i H1 (Same.refl _) h)
theorem evi_mono {P' : Int → Prop} (e : EvI te σ H P) (h : ∀ i, P i → P' i) : EvI te σ H P' := fun H1 s1 Q q => e H1 s1 Q fun i H2 s2 hp => q i H2 s2 (h i hp)
theorem evd_i (e : EvI te σ H P) (h : ∀ i, P i → i.natAbs < 2 ^ 300) : EvD F n te σ H := fun H1 s1 Q q => e H1 s1 Q fun i H2 s2 hp => q _ H2 (.int i) s2 (.int i) (.int (h i hp))
theorem evd_v (e : EvV te σ H v) (h : DaF F H v d) (b : Bd m d) (le : m ≤ n) : EvD F n te σ H := fun H1 s1 Q q => e H1 s1 Q (q v H1 d (Same.refl _) (h.same s1) (b.mono le))
theorem evd_var (e : σ[k]? = some (some v)) (h : DaF F H v d) (b : Bd m d) (le : m ≤ n) : EvD F n (tVar k) σ H := evd_v (evv_var e) h b le
theorem evd_int (e : EvV te σ H (.int i)) (h : i.natAbs < 2 ^ 300) : EvD F n te σ H := evd_v e (.int i) (.int h : Bd n _) (Nat.le_refl _)
theorem evd_non : EvD F n (tC .non) σ H := evd_v evv_c .non (.non : Bd n _) (Nat.le_refl _)
theorem evd_bl {b : Bool} : EvD F n (tC (.bl b)) σ H := evd_v evv_c (.bl b) (.bl b : Bd n _) (Nat.le_refl _)
theorem evd_str {x : Str} (h : PyData.strOk x = true) : EvD F n (tC (.str x)) σ H := evd_v evv_c (.str x) (.str x h : Bd n _) (Nat.le_refl _)
theorem evl_nil : EvL F n 0 tNil σ H := fun H1 _ Q q => q [] H1 [] (Same.refl _) .nil (by simp) rfl
theorem evl_cons (h : EvD F n ta σ H) (t : EvL F n k tl σ H) : EvL F n (k + 1) (tCons ta tl) σ H := fun H1 s1 Q q => h H1 s1 _ fun x H2 d s2 hd hb => t H2 (s1.trans s2) _ fun xs H3 ds s3 hds hbs hl => q (x :: xs) H3 (d :: ds) (s2.trans s3) (.cons (hd.same s3) hds) (fun e he => by
  rcases List.mem_cons.mp he with z | z
  · rw [z]; exact hb
  · exact hbs e z) (by rw [List.length_cons, hl])
theorem evt_tup (h : EvL F n k tl σ H) (hk : k ≤ 900) : EvT F n k (tTup tl) σ H := fun H1 s1 Q q => h H1 s1 _ fun xs H2 ds s2 hds hbs hl => ⟨len_le (by rw [hds.len]; omega), fun p hp => q p xs _ ds (s2.trans (same_upd hp)) upd_same (hds.same (same_upd hp)) hbs (Nat.le_of_eq hl)⟩
theorem evx_lst (h : EvL F n k tl σ H) (hk : k ≤ 900) : EvX F n k (tLst tl) σ H := fun H1 s1 Q q => h H1 s1 _ fun xs H2 ds s2 hds hbs hl => ⟨len_le (by rw [hds.len]; omega), fun p hp => q p xs _ ds (s2.trans (same_upd hp)) (s2.free hp) upd_same (hds.same (same_upd hp)) hbs hl⟩
theorem evd_t (h : EvT F n L te σ H) (hL : L ≤ 900) : EvD F (n + 1) te σ H := fun H1 s1 Q q => h H1 s1 Q fun p xs H2 ds s2 hp hds hbs hl => q _ H2 (.tuple ds) s2 (.tup hp hds) (.tup (by omega) hbs)
theorem evd_x (hF : ∀ a, H a = none → F a) (h : EvX F n L te σ H) (hL : L ≤ 900) : EvD F (n + 1) te σ H := fun H1 s1 Q q => h H1 s1 Q fun p xs H2 ds s2 np hp hds hbs hl => q _ H2 (.list ds) s2 (.lst hp hds (hF p (s1.free np))) (.lst (by omega) hbs)
theorem evd_tup (h : EvL F n k tl σ H) (hk : k ≤ 900) : EvD F (n + 1) (tTup tl) σ H := evd_t (evt_tup h hk) hk
theorem evd_lst (hF : ∀ a, H a = none → F a) (h : EvL F n k tl σ H) (hk : k ≤ 900) : EvD F (n + 1) (tLst tl) σ H := evd_x hF (evx_lst h hk) hk
theorem evt_var {p : Addr} {xs : List V} {ds : List PyData} (e : σ[k]? = some (some (.ref p))) (hp : H p = some (.tup xs)) (hd : DaL F H xs ds) (hb : ∀ d ∈ ds, Bd m d) (le : m ≤ n) (hl : ds.length ≤ L) : EvT F n L (tVar k) σ H := fun H1 s1 Q q => ⟨_, e, q p xs H1 ds (Same.refl _) (s1 _ _ hp) (hd.same s1) (fun d hd' => (hb d hd').mono le) hl⟩
theorem evt_cat (h1 : EvT F n L ta σ H) (h2 : EvT F n m tb σ H) (hL : L + m ≤ 1000) : EvT F n (L + m) (tOp (rCatA K) ta tb) σ H := fun H1 s1 Q q => h1 H1 s1 _ fun p xs H2 ds s2 hp hds hbs hl => h2 H2 (s1.trans s2) _ fun p' ys H3 es s3 hp' hes hbs' hl' => by
  have a1 := hds.len
  have a2 := hes.len
  refine mkCatA (s3 _ _ hp) hp' (by omega) fun l H4 el s4 => q l _ H4 (ds ++ es) (s2.trans (s3.trans s4)) el (DaL.app (hes.same s4) (hds.same (s3.trans s4))) (fun e he => ?_) (by rw [List.length_append]; omega)
  rcases List.mem_append.mp he with z | z
  · exact hbs e z
  · exact hbs' e z
theorem evx_cat (h1 : EvX F n L ta σ H) (h2 : EvX F n m tb σ H) (hL : L + m ≤ 1000) : EvX F n (L + m) (tOp rCat ta tb) σ H := fun H1 s1 Q q => h1 H1 s1 _ fun p xs H2 ds s2 np hp hds hbs hl => h2 H2 (s1.trans s2) _ fun p' ys H3 es s3 np' hp' hes hbs' hl' => by
  have a1 := hds.len
  have a2 := hes.len
  refine mkCat (s3 _ _ hp) hp' (by omega) fun l H4 nl el s4 => q l _ H4 (ds ++ es) (s2.trans (s3.trans s4)) ((s2.trans s3).free nl) el (DaL.app (hes.same s4) (hds.same (s3.trans s4))) (fun e he => ?_) (by rw [List.length_append]; omega)
  rcases List.mem_append.mp he with z | z
  · exact hbs e z
  · exact hbs' e z
/-- a list that a name holds, added to -/
theorem evx_catV {p : Addr} {xs : List V} {ds : List PyData} (e : σ[k]? = some (some (.ref p))) (hp : H p = some (.lst xs)) (hd : DaL F H xs ds) (hb : ∀ d ∈ ds, Bd n d) (hl : ds.length = L) (h2 : EvX F n m tb σ H) (hL : L + m ≤ 1000) : EvX F n (L + m) (tOp rCat (tVar k) tb) σ H := fun H1 s1 Q q => ⟨_, e, h2 H1 s1 _ fun p' ys H3 es s3 np' hp' hes hbs' hl' => by
  have a1 := hd.len
  have a2 := hes.len
  refine mkCat (s3 _ _ (s1 _ _ hp)) hp' (by omega) fun l H4 nl el s4 => q l _ H4 (ds ++ es) (s3.trans s4) (s3.free nl) el (DaL.app (hes.same s4) (hd.same (s1.trans (s3.trans s4)))) (fun e he => ?_) (by rw [List.length_append]; omega)
  rcases List.mem_append.mp he with z | z
  · exact hb e z
  · exact hbs' e z⟩
theorem evo_none : EvO tNoPart σ H none := fun _ _ _ q => q
theorem evo_some (e : EvV te σ H (.int i)) : EvO (tPart te) σ H (some i) := fun H1 s1 Q q => e H1 s1 _ ⟨i, rfl, q⟩
theorem cut_bd {xs : List V} {ds : List PyData} {F : Addr → Prop} {H : Hp} {n L : Nat} (h : DaL F H xs ds) (hb : ∀ d ∈ ds, Bd n d) (hl : ds.length ≤ L) (lo hi : Option Int) : ∃ es, DaL F H (cutV xs lo hi) es ∧ (∀ d ∈ es, Bd n d) ∧ es.length ≤ L := by
  obtain ⟨a, b, h'⟩ := h.cut lo hi
  refine ⟨_, h', fun d hd => hb d (List.mem_of_mem_drop (List.mem_of_mem_take hd)), ?_⟩
  rw [List.length_take, List.length_drop]; omega
theorem evt_sl {o u : Option Int} (h : EvT F n L te σ H) (l : EvO tlo σ H o) (r : EvO thi σ H u) : EvT F n L (L2.tSl (rSlA K) te tlo thi) σ H := fun H1 s1 Q q => h H1 s1 _ fun p xs H2 ds s2 hp hds hbs hl => l H2 (s1.trans s2) _ (r H2 (s1.trans s2) _ (mkSlA (SqT.of hp) hp fun l' H3 el s3 => by
  obtain ⟨es, h1, h2, h3⟩ := cut_bd hds hbs hl o u
  exact q l' _ H3 es (s2.trans s3) el (h1.same s3) h2 h3))
theorem evt_rev (h : EvT F n L te σ H) : EvT F n L (RevT.tRevT K te) σ H := fun H1 s1 Q q => h H1 s1 _ fun p xs H2 ds s2 hp hds hbs hl => ⟨p, xs, rfl, SqT.of hp, fun l nl => q l _ _ ds.reverse (s2.trans (same_upd nl)) upd_same (hds.rev.same (same_upd nl)) (fun d hd => hbs d (List.mem_reverse.mp hd)) (by rw [List.length_reverse]; exact hl)⟩
/-- one of a list that has just been made -/
theorem evd_pick (h : EvX F n L ta σ H) (e : EvV ti σ H (.int j)) (hj : 0 ≤ j ∧ j < (L : Int)) : EvD F n (tOp (rIx K) ta ti) σ H := fun H1 s1 Q q => h H1 s1 _ fun p xs H2 ds s2 np hp hds hbs hl => e H2 (s1.trans s2) _ (by
  obtain ⟨k, rfl⟩ := Int.eq_ofNat_of_zero_le hj.1
  have hk : k < ds.length := by omega
  obtain ⟨x, hx, hd⟩ := hds.get' (List.getElem?_eq_getElem hk)
  exact s_ixL (SqL.of hp) (atI_nat hx) (q x H2 _ s2 hd (hbs _ (List.getElem_mem hk))))
theorem evvs_nil : EvVs tNil σ H [] := fun _ _ _ q => q
theorem evvs_cons {vs : List V} (h : EvV ta σ H v) (t : EvVs tl σ H vs) : EvVs (tCons ta tl) σ H (v :: vs) := fun H1 s1 Q q => h H1 s1 _ (t H1 s1 _ q)
/-- one of some numbers -/
theorem evi_pick (ns : List Int) (h : EvVs tl σ H (ns.map V.int)) (hl : ns.length ≤ 1000) (e : EvV ti σ H (.int j)) (hj : 0 ≤ j ∧ j < ns.length) (hp : ∀ z ∈ ns, P z) : EvI (tOp (rIx K) (tLst tl) ti) σ H P := fun H1 s1 Q q => h H1 s1 _ ⟨len_le (by rw [List.length_map]; exact hl), fun p np => e _ (s1.trans (same_upd np)) _ (s_pickN ns upd_same hj hp fun z hz => q z _ (same_upd np) hz)⟩
end

/-- list(t), tuple(l) in an expression -/
theorem evx_lstOf {F : Addr → Prop} {n k L : Nat} {σ : L2.St} {H : Hp} {p : Addr} {xs : List V} {ds : List PyData} (e : σ[k]? = some (some (.ref p))) (hp : H p = some (.tup xs)) (hd : DaL F H xs ds) (hb : ∀ d ∈ ds, Bd n d) (hl : ds.length = L) : EvX F n L (tCB (rLstOf K) (tCons (tVar k) tNil)) σ H := fun H1 s1 Q q => ⟨_, e, s_lstT (SqT.of (s1 _ _ hp)) fun l nl => q l xs _ ds (same_upd nl) nl upd_same (hd.same (s1.trans (same_upd nl))) hb hl⟩
theorem dal_false {F : Addr → Prop} {H : Hp} {xs : List V} {ds : List PyData} (h : DaL (fun _ => False) H xs ds) : DaL F H xs ds := h.mono fun _ z => z.elim
/-- the slots, written out -/
theorem s_ckS {a b : TS} {D : Ends} {σ σ' : L2.St} {H : Hp} (e : σ = σ') (h : tSeq a b D σ' H) : tSeq a b D σ H := by subst e; exact h
theorem s_ckR {te : TE} {D : Ends} {σ σ' : L2.St} {H : Hp} (e : σ = σ') (h : tRet te D σ' H) : tRet te D σ H := by subst e; exact h
theorem sl_tupAK (K : PySem.W.Frag) {X : Cx} (h : X.K = K) : SlR X (rSlA K) := h ▸ sl_tupA
theorem op_catAK (K : PySem.W.Frag) {X : Cx} (h : X.K = K) : OpR X (binaryOp .Add) (rCatA K) := h ▸ op_catA

/-! expressions that come to a told datum, the heap only growing -/
section
variable {K : PySem.W.Frag} {F : Addr → Prop} {te ta tb ti : TE} {tl : TA} {tlo thi : TO} {σ : L2.St} {H : Hp} {v x y z : V} {i j : Int} {k : Nat} {d e : PyData} {ds es : List PyData} {r : R2}
def EvE (F : Addr → Prop) (te : TE) (σ : L2.St) (H : Hp) (d : PyData) : Prop := ∀ H1, Same H H1 → ∀ Q : VK, (∀ x H2, Same H1 H2 → DaF F H2 x d → Q x H2) → te σ H1 Q
def EvEs (F : Addr → Prop) (tl : TA) (σ : L2.St) (H : Hp) (ds : List PyData) : Prop := ∀ H1, Same H H1 → ∀ Q : List V → Hp → Prop, (∀ xs H2, Same H1 H2 → DaL F H2 xs ds → Q xs H2) → tl σ H1 Q
theorem eve_v (e : EvV te σ H v) (h : DaF F H v d) : EvE F te σ H d := fun H1 s1 Q q => e H1 s1 Q (q v H1 (Same.refl _) (h.same s1))
theorem eve_var (e : σ[k]? = some (some v)) (h : DaF F H v d) : EvE F (tVar k) σ H d := eve_v (evv_var e) h
theorem eve_i (e : EvV te σ H (.int i)) : EvE F te σ H (.int i) := eve_v e (.int i)
theorem eve_b {b : Bool} (e : EvV te σ H (.bl b)) : EvE F te σ H (.bool b) := eve_v e (.bl b)
theorem eve_int : EvE F (tC (.int i)) σ H (.int i) := eve_i evv_c
theorem eve_non : EvE F (tC .non) σ H .none := eve_v evv_c .non
theorem eve_bl {b : Bool} : EvE F (tC (.bl b)) σ H (.bool b) := eve_b evv_c
theorem eve_str {x : Str} : EvE F (tC (.str x)) σ H (.str x) := eve_v evv_c (.str x)
theorem eves_nil : EvEs F tNil σ H [] := fun H1 _ Q q => q [] H1 (Same.refl _) .nil
theorem eves_cons (h : EvE F ta σ H d) (t : EvEs F tl σ H ds) : EvEs F (tCons ta tl) σ H (d :: ds) := fun H1 s1 Q q => h H1 s1 _ fun x H2 s2 hd => t H2 (s1.trans s2) _ fun xs H3 s3 hds => q (x :: xs) H3 (s2.trans s3) (.cons (hd.same s3) hds)
theorem eve_tup (h : EvEs F tl σ H ds) (hl : ds.length ≤ 1000 := by first | decide | simp) : EvE F (tTup tl) σ H (.tuple ds) := fun H1 s1 Q q => h H1 s1 _ fun xs H2 s2 hds => ⟨len_le (by rw [hds.len]; exact hl), fun p hp => q _ _ (s2.trans (same_upd hp)) (.tup upd_same (hds.same (same_upd hp)))⟩
theorem eve_lst (hF : ∀ a, H a = none → F a) (h : EvEs F tl σ H ds) (hl : ds.length ≤ 1000 := by first | decide | simp) : EvE F (tLst tl) σ H (.list ds) := fun H1 s1 Q q => h H1 s1 _ fun xs H2 s2 hds => ⟨len_le (by rw [hds.len]; exact hl), fun p hp => q _ _ (s2.trans (same_upd hp)) (.lst upd_same (hds.same (same_upd hp)) (hF p ((s1.trans s2).free hp)))⟩
theorem DaF.tup_inv (h : DaF F H v (.tuple ds)) : ∃ p xs, v = .ref p ∧ H p = some (.tup xs) ∧ DaL F H xs ds := by
  cases h with
  | tup e h => exact ⟨_, _, rfl, e, h⟩
theorem DaF.lst_inv (h : DaF F H v (.list ds)) : ∃ p xs, v = .ref p ∧ H p = some (.lst xs) ∧ DaL F H xs ds ∧ F p := by
  cases h with
  | lst e h f => exact ⟨_, _, rfl, e, h, f⟩
theorem eve_cat (h1 : EvE F ta σ H (.tuple ds)) (h2 : EvE F tb σ H (.tuple es)) (hL : ds.length + es.length ≤ 1000) : EvE F (tOp (rCatA K) ta tb) σ H (.tuple (ds ++ es)) := fun H1 s1 Q q => h1 H1 s1 _ fun x H2 s2 hx => h2 H2 (s1.trans s2) _ fun y H3 s3 hy => by
  obtain ⟨p, xs, rfl, hp, hds⟩ := hx.tup_inv
  obtain ⟨p', ys, rfl, hp', hes⟩ := hy.tup_inv
  have a1 := hds.len
  have a2 := hes.len
  exact mkCatA (s3 _ _ hp) hp' (by omega) fun l H4 el s4 => q _ H4 (s2.trans (s3.trans s4)) (.tup el (DaL.app (hes.same s4) (hds.same (s3.trans s4))))
theorem eve_catL (hF : ∀ a, H a = none → F a) (h1 : EvE F ta σ H (.list ds)) (h2 : EvE F tb σ H (.list es)) (hL : ds.length + es.length ≤ 1000) : EvE F (tOp rCat ta tb) σ H (.list (ds ++ es)) := fun H1 s1 Q q => h1 H1 s1 _ fun x H2 s2 hx => h2 H2 (s1.trans s2) _ fun y H3 s3 hy => by
  obtain ⟨p, xs, rfl, hp, hds, _⟩ := hx.lst_inv
  obtain ⟨p', ys, rfl, hp', hes, _⟩ := hy.lst_inv
  have a1 := hds.len
  have a2 := hes.len
  exact mkCat (s3 _ _ hp) hp' (by omega) fun l H4 nl el s4 => q _ H4 (s2.trans (s3.trans s4)) (.lst el (DaL.app (hes.same s4) (hds.same (s3.trans s4))) (hF l ((s1.trans (s2.trans s3)).free nl)))
/-- cut, of data -/
def cutD (ds : List PyData) (lo hi : Option Int) : List PyData := (ds.drop (HT.sIx ds.length 0 lo)).take (HT.sIx ds.length ds.length hi - HT.sIx ds.length 0 lo)
theorem cutD_len (ds : List PyData) (lo hi : Option Int) : (cutD ds lo hi).length ≤ ds.length := by unfold cutD; rw [List.length_take, List.length_drop]; omega
theorem cutD_mem {lo hi : Option Int} (h : d ∈ cutD ds lo hi) : d ∈ ds := List.mem_of_mem_drop (List.mem_of_mem_take h)
theorem DaL.cutD {xs : List V} (h : DaL F H xs ds) (lo hi : Option Int) : DaL F H (cutV xs lo hi) (C.cutD ds lo hi) := by
  unfold cutV C.cutD
  rw [h.len]
  exact (h.drop _).take _
theorem sIx_k {n m k : Nat} (h : k ≤ n) : HT.sIx n m (some (k : Int)) = k := (HT.sIx_nat n m k).trans (by omega)
theorem cutD_to {k : Nat} (h : k ≤ ds.length) : cutD ds none (some (k : Int)) = ds.take k := by
  unfold cutD
  rw [sIx_k h, show HT.sIx ds.length 0 none = 0 from rfl, List.drop_zero, Nat.sub_zero]
theorem cutD_from {k : Nat} (h : k ≤ ds.length) : cutD ds (some (k : Int)) none = ds.drop k := by
  unfold cutD
  rw [sIx_k h, show HT.sIx ds.length ds.length none = ds.length from rfl]
  exact List.take_of_length_le (by rw [List.length_drop]; exact Nat.le_refl _)
theorem eve_sl {o u : Option Int} (h : EvE F te σ H (.tuple ds)) (l : EvO tlo σ H o) (r : EvO thi σ H u) : EvE F (L2.tSl (rSlA K) te tlo thi) σ H (.tuple (cutD ds o u)) := fun H1 s1 Q q => h H1 s1 _ fun x H2 s2 hx => l H2 (s1.trans s2) _ (r H2 (s1.trans s2) _ (by
  obtain ⟨p, xs, rfl, hp, hds⟩ := hx.tup_inv
  exact mkSlA (SqT.of hp) hp fun l' H3 el s3 => q _ H3 (s2.trans s3) (.tup el ((hds.cutD o u).same s3))))
theorem eve_slL (hF : ∀ a, H a = none → F a) {o u : Option Int} (h : EvE F te σ H (.list ds)) (l : EvO tlo σ H o) (r : EvO thi σ H u) : EvE F (L2.tSl (rSlL K) te tlo thi) σ H (.list (cutD ds o u)) := fun H1 s1 Q q => h H1 s1 _ fun x H2 s2 hx => l H2 (s1.trans s2) _ (r H2 (s1.trans s2) _ (by
  obtain ⟨p, xs, rfl, hp, hds, _⟩ := hx.lst_inv
  exact mkSl (SqL.of hp) fun l' H3 nl el s3 => q _ H3 (s2.trans s3) (.lst el ((hds.cutD o u).same s3) (hF l' ((s1.trans s2).free nl)))))
theorem eve_rev (h : EvE F te σ H (.tuple ds)) : EvE F (RevT.tRevT K te) σ H (.tuple ds.reverse) := fun H1 s1 Q q => h H1 s1 _ fun x H2 s2 hx => by
  obtain ⟨p, xs, rfl, hp, hds⟩ := hx.tup_inv
  exact ⟨p, xs, rfl, SqT.of hp, fun l nl => q _ _ (s2.trans (same_upd nl)) (.tup upd_same (hds.rev.same (same_upd nl)))⟩
theorem eve_revL (hF : ∀ a, H a = none → F a) (h : EvE F te σ H (.list ds)) : EvE F (L2.tRevL K te) σ H (.list ds.reverse) := fun H1 s1 Q q => h H1 s1 _ fun x H2 s2 hx => by
  obtain ⟨p, xs, rfl, hp, hds, _⟩ := hx.lst_inv
  exact ⟨p, xs, rfl, SqL.of hp, fun l nl => q _ _ (s2.trans (same_upd nl)) (.lst upd_same (hds.rev.same (same_upd nl)) (hF l ((s1.trans s2).free nl)))⟩
theorem atI_da {xs : List V} (h : DaL F H xs ds) (k : Nat) (hj : j = k) (e : ds[k]? = some d) : ∃ x, atI xs j = some x ∧ DaF F H x d := by
  subst hj
  obtain ⟨x, h1, h2⟩ := h.get' e
  exact ⟨x, atI_nat h1, h2⟩
theorem eve_ix (h : EvE F te σ H (.tuple ds)) (e : EvV ti σ H (.int j)) (k : Nat) (hj : j = k) (hd : ds[k]? = some d) : EvE F (tOp (rIx K) te ti) σ H d := fun H1 s1 Q q => h H1 s1 _ fun x H2 s2 hx => e H2 (s1.trans s2) _ (by
  obtain ⟨p, xs, rfl, hp, hds⟩ := hx.tup_inv
  obtain ⟨x, h1, h2⟩ := atI_da hds k hj hd
  exact s_ixT (SqT.of hp) h1 (q x H2 s2 h2))
theorem eve_ixL (h : EvE F te σ H (.list ds)) (e : EvV ti σ H (.int j)) (k : Nat) (hj : j = k) (hd : ds[k]? = some d) : EvE F (tOp (rIx K) te ti) σ H d := fun H1 s1 Q q => h H1 s1 _ fun x H2 s2 hx => e H2 (s1.trans s2) _ (by
  obtain ⟨p, xs, rfl, hp, hds, _⟩ := hx.lst_inv
  obtain ⟨x, h1, h2⟩ := atI_da hds k hj hd
  exact s_ixL (SqL.of hp) h1 (q x H2 s2 h2))
theorem eve_lstOf (hF : ∀ a, H a = none → F a) (h : EvE F te σ H (.tuple ds)) : EvE F (tCB (rLstOf K) (tCons te tNil)) σ H (.list ds) := fun H1 s1 Q q => h H1 s1 _ fun x H2 s2 hx => by
  obtain ⟨p, xs, rfl, hp, hds⟩ := hx.tup_inv
  exact s_lstT (SqT.of hp) fun l nl => q _ _ (s2.trans (same_upd nl)) (.lst upd_same (hds.same (same_upd nl)) (hF l ((s1.trans s2).free nl)))
theorem eve_lstOfL (hF : ∀ a, H a = none → F a) (h : EvE F te σ H (.list ds)) : EvE F (tCB (rLstOf K) (tCons te tNil)) σ H (.list ds) := fun H1 s1 Q q => h H1 s1 _ fun x H2 s2 hx => by
  obtain ⟨p, xs, rfl, hp, hds, _⟩ := hx.lst_inv
  exact s_lstL (SqL.of hp) fun l nl => q _ _ (s2.trans (same_upd nl)) (.lst upd_same (hds.same (same_upd nl)) (hF l ((s1.trans s2).free nl)))
theorem eve_tupOfL (h : EvE F te σ H (.list ds)) : EvE F (tCB (rTupOf K) (tCons te tNil)) σ H (.tuple ds) := fun H1 s1 Q q => h H1 s1 _ fun x H2 s2 hx => by
  obtain ⟨p, xs, rfl, hp, hds, _⟩ := hx.lst_inv
  exact s_tupL (SqL.of hp) fun l nl => q _ _ (s2.trans (same_upd nl)) (.tup upd_same (hds.same (same_upd nl)))
theorem evv_op (h1 : EvV ta σ H x) (h2 : EvV tb σ H y) (h : ∀ H1 (Q : VK), Q z H1 → r x y H1 Q) : EvV (tOp r ta tb) σ H z := fun H1 s1 Q q => h1 H1 s1 _ (h2 H1 s1 _ (h H1 Q q))
theorem evv_un {r : V → Hp → VK → Prop} (h1 : EvV ta σ H x) (h : ∀ H1 (Q : VK), Q z H1 → r x H1 Q) : EvV (tUn r ta) σ H z := fun H1 s1 Q q => h1 H1 s1 _ (h H1 Q q)
theorem evv_neg (h1 : EvV ta σ H (.int i)) : EvV (tUn (rU fun a => V.int (-a)) ta) σ H (.int (-i)) := evv_un h1 fun _ _ q => s_u (f := fun a => V.int (-a)) q
theorem evv_p59 : EvV (tOp (rI CPow fun i j => V.int (i ^ j.toNat)) (tC (.int 10)) (tC (.int 59))) σ H (.int (10 ^ 59)) := evv_op evv_c evv_c fun _ _ q => s_p10_59 q
theorem evv_add (h1 : EvV ta σ H (.int i)) (h2 : EvV tb σ H (.int j)) : EvV (tOp (rI0 fun a b => V.int (a + b)) ta tb) σ H (.int (i + j)) := evv_op h1 h2 fun _ _ q => s_i0 q
theorem evv_sub (h1 : EvV ta σ H (.int i)) (h2 : EvV tb σ H (.int j)) : EvV (tOp (rI0 fun a b => V.int (a - b)) ta tb) σ H (.int (i - j)) := evv_op h1 h2 fun _ _ q => s_i0 q
end
mutual
/-- data stand when what is neither tuple nor list changes -/
theorem DaF.keep {F : Addr → Prop} {H H' : Hp} (kt : ∀ b r, H b = some (.tup r) → H' b = some (.tup r)) (kl : ∀ b r, H b = some (.lst r) → H' b = some (.lst r)) : ∀ {v : V} {d : PyData}, DaF F H v d → DaF F H' v d
  | _, _, .non => .non
  | _, _, .bl b => .bl b
  | _, _, .int i => .int i
  | _, _, .str x => .str x
  | _, _, .lst e h f => .lst (kl _ _ e) (DaL.keep kt kl h) f
  | _, _, .tup e h => .tup (kt _ _ e) (DaL.keep kt kl h)
theorem DaL.keep {F : Addr → Prop} {H H' : Hp} (kt : ∀ b r, H b = some (.tup r) → H' b = some (.tup r)) (kl : ∀ b r, H b = some (.lst r) → H' b = some (.lst r)) : ∀ {vs : List V} {ds : List PyData}, DaL F H vs ds → DaL F H' vs ds
  | _, _, .nil => .nil
  | _, _, .cons h t => .cons (DaF.keep kt kl h) (DaL.keep kt kl t)
end

/-- whole numbers from 0 on below a bound, rising, some four hundred at most -/
def RisD (B : Int) (d : PyData) : Prop := ∃ ns : List Int, d = .list (ns.map .int) ∧ ns.length ≤ 400 ∧ (∀ n ∈ ns, 0 ≤ n ∧ n < B) ∧ ns.Pairwise (· < ·)
theorem isBel_int (i B : Int) : isBel (.int i) B = (decide (0 ≤ i) && decide (i < B)) := rfl
theorem bel_back {B : Int} : ∀ {ds : List PyData}, ds.all (fun d => isBel d B) = true → ∃ ns : List Int, ds = ns.map .int ∧ ∀ n ∈ ns, 0 ≤ n ∧ n < B
  | [], _ => ⟨[], rfl, by simp⟩
  | d :: ds, h => by
    rw [List.all_cons, Bool.and_eq_true] at h
    obtain ⟨i, rfl, hi⟩ := isBel_inv h.1
    obtain ⟨ns, rfl, hn⟩ := bel_back h.2
    exact ⟨(i : Int) :: ns, rfl, fun n hm => by
      rcases List.mem_cons.mp hm with z | z
      · rw [z]; exact ⟨by omega, hi⟩
      · exact hn n z⟩
theorem bel_all {B : Int} {ns : List Int} (h : ∀ n ∈ ns, 0 ≤ n ∧ n < B) : (ns.map PyData.int).all (fun d => isBel d B) = true := by
  rw [List.all_eq_true]
  intro d hd
  obtain ⟨n, hn, rfl⟩ := List.mem_map.mp hd
  rw [isBel_int, decide_eq_true (h n hn).1, decide_eq_true (h n hn).2]; rfl
theorem getD_at {α : Type} {l : List α} {i : Nat} {d : α} (h : i < l.length) : l.getD i d = l[i] := by simp [List.getD, h]
theorem rising_iff {ns : List Int} : ((List.range (ns.length - 1)).map fun k => decide (ns.getD k 0 < ns.getD (k + 1) 0)).all id = true ↔ ns.Pairwise (· < ·) := by
  rw [List.all_eq_true]
  constructor
  · intro h
    have step : ∀ k, k + 1 < ns.length → ns.getD k 0 < ns.getD (k + 1) 0 := fun k hk => of_decide_eq_true (h _ (List.mem_map.mpr ⟨k, List.mem_range.mpr (by omega), rfl⟩))
    have far : ∀ d k, k + 1 + d < ns.length → ns.getD k 0 < ns.getD (k + 1 + d) 0 := fun d => by
      induction d with
      | zero => exact fun k hk => step k hk
      | succ d ih =>
        intro k hk
        exact Int.lt_trans (ih k (by omega)) (step (k + 1 + d) (by omega))
    refine List.pairwise_iff_getElem.mpr fun i j hi hj hij => ?_
    have := far (j - i - 1) i (by omega)
    rw [show i + 1 + (j - i - 1) = j by omega] at this
    rw [getD_at hi, getD_at hj] at this
    exact this
  · intro h b hb
    obtain ⟨k, hk, rfl⟩ := List.mem_map.mp hb
    have hk := List.mem_range.mp hk
    refine decide_eq_true ?_
    rw [getD_at (by omega), getD_at (by omega)]
    exact List.pairwise_iff_getElem.mp h k (k + 1) (by omega) (by omega) (by omega)
/-- are_rising(things, bound), of any datum -/
def sp_are_rising : Sp := fun vs H Q _ => ∃ (v : V) (d : PyData) (B : Int) (n : Nat), vs = [v, .int B] ∧ Da H v d ∧ Bd n d ∧ ∀ (o : Bool) H', (o = true ↔ RisD B d) → Same H H' → Q (.bl o) H'
theorem ok_are_rising (T : Txt K mg) : FnOk P w K mg base CX0 3 (He.ga K "are_rising") (fd_are_rising T) ["things", "bound"] sp_are_rising := by
  refine (F_are_rising T).ok sc_are_rising (fun vs H Q E h => ?_) (fun cdv A outer s H vs Q E hr h => ⟨_, PSs.nox (pss_cons (ps_if (PW.pt (pw_or (pt_not (pt_val (pe_callB call_isi rfl (T.fr (T.c.fact 59 rfl)) boot_isinstance (pa_cons (pv 0) (pa_cons (pe_bltn (v := .ty "list") rfl (T.fr (T.c.fact 65 rfl)) boot_list rfl) pa_nil))))) (pw_or1 (pt_cmpR op_gt (pe_callB callLen rfl (T.fr (T.c.fact 62 rfl)) boot_len (pa_cons (pv 0) pa_nil)) (pe_glob (v := .int 400) rfl (T.int_ok (T.c.fact 71 rfl)).choose_spec ⟨_, rfl⟩) (nomark _))))) (pss_one (ps_ret pe_bl)) pss_nil)
      (pss_cons (ps_if (pt_not (pt_val (pe_callB (cr_all rfl) rfl (T.fr (T.c.fact 64 rfl)) boot_all (pa_cons (pe_lc (own := [("thing", 2)]) (tt := tYes) rfl sc_are_rising.nd (pi_list (pv 0)) (blkOk_by (N := N_are_rising) (sc := defScope s_are_rising) (by decide +kernel)) (fun _ _ _ _ _ => (pg_name (i := 2) sc_are_rising.nd rfl (Or.inl rfl))) (fun _ _ _ _ _ => pts_nil) (fun _ _ _ _ _ => (pe_call (ok_is_below T) (hr.mono (by decide)) rfl (g_is_below T) (kp_is_below T) (B_is_below T) .nil pass0 (pa_cons (pv 2) (pa_cons (pv 1) pa_nil))))) pa_nil)))) (pss_one (ps_ret pe_bl)) pss_nil)
      (pss_one (ps_ret (pe_callB (cr_all rfl) rfl (T.fr (T.c.fact 64 rfl)) boot_all (pa_cons (pe_lc (own := [("k", 3)]) (tt := tYes) rfl sc_are_rising.nd (pi_range1 rfl (T.fr (T.c.fact 54 rfl)) (pa_cons (pe_op op_sub (pe_callB callLen rfl (T.fr (T.c.fact 62 rfl)) boot_len (pa_cons (pv 0) pa_nil)) pe_int) pa_nil)) (blkOk_by (N := N_are_rising) (sc := defScope s_are_rising) (by decide +kernel)) (fun _ _ _ _ _ => (pg_name (i := 3) sc_are_rising.nd rfl (Or.inl rfl))) (fun _ _ _ _ _ => pts_nil) (fun _ _ _ _ _ => (pe_cmpR op_lt (pe_ix (R.ix_seqK K rfl) (pv 0) (pv 3) (fun _ _ => rfl)) (pe_ix (R.ix_seqK K rfl) (pv 0) (pe_op op_add (pv 3) pe_int) (fun _ _ => rfl)) (nomark _)))) pa_nil)))))), ?_⟩)
  · obtain ⟨v, d, B, n, rfl, _⟩ := h; rfl
  · obtain ⟨v, d, B, n, rfl, hd, hbd, k⟩ := h
    have bad : ¬ RisD B d → ∀ H2, Same H H2 → Q (.bl false) H2 := fun h H2 s2 => k false H2 ⟨fun z => (nomatch z), fun z => absurd z h⟩ s2
    walk_at "g"
    refine s_isiLst hd ?_
    walk_at "g"
    cases el : isLst d with
    | false =>
      walk_at "g"
      exact bad (fun ⟨ds, e, _⟩ => by rw [e] at el; cases el) H (Same.refl _)
    | true =>
    cases hd with
    | non => cases el
    | bl b => cases el
    | int i => cases el
    | str x => cases el
    | tup _ _ => cases el
    | @lst D ws ds eD hds _ =>
    obtain ⟨m2, em2, hql, hbq⟩ := hbd.lst_inv
    have hwl := hds.len
    walk_at "g"
    refine s_lenL (SqL.of eD) ?_
    rw [hwl]
    walk_at "g"
    refine s_ite (fun c1 => ?_) (fun c1 => ?_)
    · walk_at "g"
      exact bad (fun ⟨ns, e, z, _⟩ => by cases e; rw [List.length_map] at c1; omega) H (Same.refl _)
    walk_at "g"
    refine s_lc ?_
    walk_at "g"
    refine ⟨⟨_, SqL.of eD⟩, fun F hF => ?_⟩
    refine lc_list (fun i H2 => Same H H2 ∧ H2 F = some (.lst (((ds.take i).map fun d => isBel d B).map V.bl))) ⟨same_upd hF, upd_same⟩ (fun i H2 _ I => SqL.of (I.1 _ _ eD)) ?_ ?_
    · rintro i v H2 hi ⟨s2, eF⟩
      obtain ⟨d, hdi, hdd⟩ := hds.get hi
      have hil := (List.getElem?_eq_some_iff.mp hdi).1
      walk_at "g"
      refine ⟨rfl, ?_⟩
      walk_at "g"
      refine ⟨v, d, B, rfl, hdd.same s2, ?_⟩
      refine ⟨_, eF, line2 (by rw [List.length_map, List.length_map, List.length_take]; omega), same_upd' s2 hF, ?_⟩
      rw [upd_same, take_more hdi, List.map_append, List.map_append]; rfl
    rintro H2 ⟨s2, eF⟩
    rw [hwl, List.take_length] at eF
    walk_at "g"
    refine ⟨F, _, rfl, SqL.of eF, ?_⟩
    have hall : ((ds.map fun d => isBel d B).all id) = ds.all fun d => isBel d B := by rw [List.all_map]; rfl
    rw [hall]
    walk_at "g"
    cases ea : ds.all fun d => isBel d B with
    | false =>
      walk_at "g"
      exact bad (fun ⟨ns, e, _, z, _⟩ => by cases e; rw [bel_all z] at ea; cases ea) H2 s2
    | true =>
    obtain ⟨ns, rfl, hns⟩ := bel_back ea
    have hws := dal_back hds
    subst hws
    rw [List.length_map] at c1
    clear hwl
    have eD2 := s2 _ _ eD
    walk_at "g"
    refine s_lc ?_
    walk_at "g"
    refine s_lenL (SqL.of eD2) ?_
    rw [List.length_map]
    walk_at "g"
    refine mkR1 (ns.length - 1) (by omega) (by omega) (by omega) ?_
    refine fun G hG => ?_
    refine lc_range (n := ns.length - 1) (fun i H3 => Same H2 H3 ∧ H3 G = some (.lst (((List.range i).map fun k => decide (ns.getD k 0 < ns.getD (k + 1) 0)).map V.bl))) ⟨same_upd hG, upd_same⟩ ?_ ?_
    · rintro i H3 hi ⟨s3, eG⟩
      rw [Int.zero_add]
      have eD3 := s3 _ _ eD2
      have g : ∀ j, j < ns.length → (ns.map V.int)[j]? = some (.int (ns.getD j 0)) := fun j hj => by
        rw [List.getElem?_map, List.getElem?_eq_getElem hj, getD_at hj]; rfl
      walk_at "g"
      refine ⟨rfl, ?_⟩
      walk_at "g"
      refine s_ixL (SqL.of eD3) (atI0 i rfl (g i (by omega))) ?_
      walk_at "g"
      refine s_ixL (SqL.of eD3) (atI0 (i + 1) (by omega) (g (i + 1) (by omega))) ?_
      walk_at "g"
      refine ⟨_, eG, line2 (by rw [List.length_map, List.length_map, List.length_range]; omega), same_upd' s3 hG, ?_⟩
      rw [upd_same, List.range_succ, List.map_append, List.map_append]; rfl
    rintro H3 ⟨s3, eG⟩
    walk_at "g"
    refine ⟨G, _, rfl, SqL.of eG, ?_⟩
    refine k _ H3 ?_ (s2.trans s3)
    rw [rising_iff]
    constructor
    · intro h
      exact ⟨ns, rfl, by omega, hns, h⟩
    · rintro ⟨ns', e, _, _, h⟩
      have := map_int_inj.mp (PyData.list.inj e)
      rw [this]; exact h
theorem sub_len : ∀ {xs L : List Int}, xs.Nodup → (∀ z ∈ xs, z ∈ L) → xs.length ≤ L.length
  | [], _, _, _ => Nat.zero_le _
  | x :: xs, L, nd, h => by
    have hx := h x (by simp)
    have nd' := List.nodup_cons.mp nd
    have := sub_len (L := L.erase x) nd'.2 fun z hz => (List.mem_erase_of_ne (fun e => nd'.1 (by rw [e] at hz; exact hz))).mpr (h z (by simp [hz]))
    rw [List.length_erase_of_mem hx] at this
    have := List.length_pos_of_mem hx
    simp only [List.length_cons]; omega
/-- rests_by(numbers, p): a new list -/
def sp_rests_by : Sp := fun vs H Q _ => ∃ (D : Addr) (ns : List Int) (p : Nat), vs = [.ref D, .int p] ∧ H D = some (.lst (ns.map V.int)) ∧ ns.length ≤ 400 ∧ 0 < p ∧ ∀ (ys : List Int) (R : Addr) (H' : Hp), ys.Pairwise (· < ·) → (∀ z, z ∈ ys ↔ ∃ n ∈ ns, n % (p : Int) = z) → ys.length ≤ 400 → H' R = some (.lst (ys.map V.int)) → Same H H' → Q (.ref R) H'
theorem ok_rests_by (T : Txt K mg) : FnOk P w K mg base CX0 1 (He.ga K "rests_by") (fd_rests_by T) ["numbers", "p"] sp_rests_by := by
  refine (F_rests_by T).ok sc_rests_by (fun vs H Q E h => ?_) (fun cdv A outer s H vs Q E hr h => ⟨_, PSs.nox (pss_one (ps_ret (pe_callB (R.cr_sortedAny rfl) rfl (T.fr (T.c.fact 55 rfl)) boot_sorted (pa_cons (pe_callTy (R.cr_setL rfl) rfl (T.fr (T.c.fact 66 rfl)) PyProof.Rows.boot_set (pa_cons (pe_lc (own := [("number", 2)]) (tt := tYes) rfl sc_rests_by.nd (pi_list (pv 0)) (blkOk_by (N := N_rests_by) (sc := defScope s_rests_by) (by decide +kernel)) (fun _ _ _ _ _ => (pg_name (i := 2) sc_rests_by.nd rfl (Or.inl rfl))) (fun _ _ _ _ _ => pts_nil) (fun _ _ _ _ _ => (pe_op op_mod (pv 2) (pv 1)))) pa_nil)) pa_nil)))), ?_⟩)
  · obtain ⟨D, ns, p, rfl, _⟩ := h; rfl
  · obtain ⟨D, ns, p, rfl, eD, hl, p0, k⟩ := h
    walk_at "g"
    refine s_lc ?_
    walk_at "g"
    refine ⟨⟨_, SqL.of eD⟩, fun F hF => ?_⟩
    refine lc_list (fun i H2 => Same H H2 ∧ H2 F = some (.lst (((ns.take i).map fun n => n % (p : Int)).map V.int))) ⟨same_upd hF, upd_same⟩ (fun i H2 _ I => SqL.of (I.1 _ _ eD)) ?_ ?_
    · rintro i v H2 hi ⟨s2, eF⟩
      rw [List.getElem?_map] at hi
      obtain ⟨n, hn, rfl⟩ := Option.map_eq_some_iff.mp hi
      have hil := (List.getElem?_eq_some_iff.mp hn).1
      walk_at "g"
      refine ⟨rfl, ?_⟩
      walk_at "g"
      refine s_i (by omega) ?_
      refine ⟨_, eF, line2 (by rw [List.length_map, List.length_map, List.length_take]; omega), same_upd' s2 hF, ?_⟩
      rw [upd_same, take_more hn, List.map_append, List.map_append]; rfl
    rintro H2 ⟨s2, eF⟩
    rw [List.length_map, List.take_length] at eF
    walk_at "g"
    refine s_setAny (SqL.of eF) (by rw [List.length_map]; omega) fun S n H3 nS hn eS s3 => ?_
    walk_at "g"
    refine s_sortedAny eS hn fun ys R H4 srt hm nR eR s4 => ?_
    have hm' : ∀ z, z ∈ ys ↔ ∃ n ∈ ns, n % (p : Int) = z := fun z => by rw [hm, List.mem_map]
    refine k ys R H4 srt hm' ?_ eR (s2.trans (s3.trans s4))
    have nd : ys.Nodup := srt.imp fun h => by omega
    have := sub_len nd (L := ns.map fun n => n % (p : Int)) fun z hz => (hm z).mp hz
    rw [List.length_map] at this
    omega
/-- all roots by each prime, told together -/
def EachD (ds : List PyData) (k : Nat) (a : Int) (df dr : PyData) : Prop := ∃ (ns : List Int) (rl : List (List Int)) (es : List PyData), df = .list (ns.map .int) ∧ ns ≠ [] ∧ ns.length ≤ 400 ∧ ns.Pairwise (· < ·) ∧ (∀ n ∈ ns, 0 ≤ n ∧ n < (M.prodN (ds.map pOf) : Nat)) ∧ dr = .tuple es ∧ es.length = ds.length ∧ rl.length = ds.length ∧
  (∀ (i : Nat) (d : PyData) (rs : List Int) (e : PyData), ds[i]? = some d → rl[i]? = some rs → es[i]? = some e → rs.Pairwise (· < ·) ∧ (∀ z, z ∈ rs ↔ ∃ n ∈ ns, n % (pOf d : Int) = z) ∧ IsRt (pOf d) k a (.tuple [.list (rs.map .int), e])) ∧ ns.length = M.prodN (rl.map List.length)
/-- are_each_with_each(papers, k, a, found, rows), of any list found and any rows -/
def sp_are_each_with_each (K : PySem.W.Frag) : Sp := fun vs H Q _ => ∃ (D : Addr) (ws : List V) (ds : List PyData) (vf vr : V) (df dr : PyData) (kk : Nat) (a : Int), vs = [.ref D, .int kk, .int a, vf, vr] ∧ H D = some (.lst ws) ∧ DaL (fun _ => True) H ws ds ∧ ds.length ≤ 5 ∧ (∀ d ∈ ds, IsPap d ∧ Bd 135 d ∧ pOf d ≤ 1000000000) ∧ Da H vf df ∧ isLst df = true ∧ Bd 59 df ∧ Da H vr dr ∧ Bd 59 dr ∧ 0 < kk ∧ kk < 2 ^ 900 ∧
  ∀ (o : Bool) H', (o = true ↔ EachD ds kk a df dr) → Same H H' → Q (.bl o) H'
theorem ok_are_each_with_each (T : Txt K mg) : FnOk P w K mg base CX0 147 (He.ga K "are_each_with_each") (fd_are_each_with_each T) ["papers", "k", "a", "found", "rows"] (sp_are_each_with_each K) := by
  refine (F_are_each_with_each T).ok sc_are_each_with_each (fun vs H Q E h => ?_) (fun cdv A outer s H vs Q E hr h => ⟨_, PSs.nox (pss_cons (ps_set (i := 5) sc_are_each_with_each.nd rfl (Or.inl rfl) pe_int)
      (pss_cons (ps_for PassesOwn.never rfl (pi_list (pv 0)) (pg_name (i := 6) sc_are_each_with_each.nd rfl (Or.inl rfl)) (pss_one (ps_set (i := 5) sc_are_each_with_each.nd rfl (Or.inl rfl) (pe_op op_mulW (pv 5) (pe_ix ix_seq (pv 6) pe_int (fun _ _ => rfl))))))
      (pss_cons (ps_if (PW.pt (pw_or (pt_cmpR (op_eqD hr.units) (pv 3) (pe_lst pa_nil) (nomark _)) (pw_or (pt_not (pt_val (pe_call (ok_is_row_of T) (hr.mono (by decide)) rfl (g_is_row_of T) (kp_is_row_of T) (B_is_row_of T) .nil pass0 (pa_cons (pv 4) (pa_cons (pe_callB callLen rfl (T.fr (T.c.fact 62 rfl)) boot_len (pa_cons (pv 0) pa_nil)) pa_nil))))) (pw_or1 (pt_not (pt_val (pe_call (ok_are_rising T) (hr.mono (by decide)) rfl (g_are_rising T) (kp_are_rising T) (B_are_rising T) .nil pass0 (pa_cons (pv 3) (pa_cons (pv 5) pa_nil))))))))) (pss_one (ps_ret pe_bl)) pss_nil)
      (pss_cons (ps_set (i := 7) sc_are_each_with_each.nd rfl (Or.inl rfl) pe_int)
      (pss_cons (ps_for PassesOwn.never rfl (RZM.pi_zipM rfl (T.fr (T.c.fact 56 rfl)) (pa_cons (pv 0) (pa_cons (pv 4) pa_nil))) (pg_tup rfl (pgs_cons (pg_name (i := 6) sc_are_each_with_each.nd rfl (Or.inl rfl)) (pgs_cons (pg_name (i := 8) sc_are_each_with_each.nd rfl (Or.inl rfl)) pgs_nil))) (pss_cons (ps_set (i := 9) sc_are_each_with_each.nd rfl (Or.inl rfl) (pe_call (ok_rests_by T) (hr.mono (by decide)) rfl (g_rests_by T) (kp_rests_by T) (B_rests_by T) .nil pass0 (pa_cons (pv 3) (pa_cons (pe_ix ix_seq (pv 6) pe_int (fun _ _ => rfl)) pa_nil))))
      (pss_cons (ps_if (pt_not (pt_val (pe_call (ok_shows_roots T) (hr.mono (by decide)) rfl (g_shows_roots T) (kp_shows_roots T) (B_shows_roots T) .nil pass0 (pa_cons (pv 6) (pa_cons (pv 1) (pa_cons (pv 2) (pa_cons (pe_tup (pa_cons (pv 9) (pa_cons (pv 8) pa_nil))) pa_nil))))))) (pss_one (ps_ret pe_bl)) pss_nil)
      (pss_one (ps_set (i := 7) sc_are_each_with_each.nd rfl (Or.inl rfl) (pe_op op_mulW (pv 7) (pe_callB callLen rfl (T.fr (T.c.fact 62 rfl)) boot_len (pa_cons (pv 9) pa_nil))))))))
      (pss_one (ps_ret (pe_cmpR op_eq (pe_callB callLen rfl (T.fr (T.c.fact 62 rfl)) boot_len (pa_cons (pv 3) pa_nil)) (pv 7) (nomark _))))))))), ?_⟩)
  · obtain ⟨D, ws, ds, vf, vr, df, dr, kk, a, rfl, _⟩ := h; rfl
  · obtain ⟨D, ws, ds, vf, vr, df, dr, kk, a, rfl, eD, hds, hl5, hpaps, hdf, hlf, hbf, hdr, hbr, k0, kb, k⟩ := h
    have bad : ¬ EachD ds kk a df dr → ∀ H2, Same H H2 → Q (.bl false) H2 := fun h H2 s2 => k false H2 ⟨fun z => (nomatch z), fun z => absurd z h⟩ s2
    have hwl := hds.len
    have hpr2 : ∀ z ∈ ds.map pOf, 0 < z ∧ z ≤ 1000000000 := fun z hz => by
      obtain ⟨d, hd, rfl⟩ := List.mem_map.mp hz
      have := (hpaps d hd).1.prime.1
      exact ⟨by omega, (hpaps d hd).2.2⟩
    have hprB : ∀ i, M.prodN ((ds.map pOf).take i) ≤ 10 ^ 45 := fun i => by
      have h1 := M.prodN_take (fun z hz => (hpr2 z hz).1) i
      have h2 := M.prodN_bd (B := 1000000000) fun z hz => (hpr2 z hz).2
      have h3 : (1000000000 : Nat) ^ (ds.map pOf).length ≤ 1000000000 ^ 5 := Nat.pow_le_pow_right (by decide) (by rw [List.length_map]; exact hl5)
      have h4 : (1000000000 : Nat) ^ 5 = 10 ^ 45 := by decide
      omega
    walk_at "g"
    refine ⟨⟨_, SqL.of eD⟩, ?_⟩
    refine for_list (fun i σ H' => Same H H' ∧ ∃ v : Option V, σ = [some (.ref D), some (.int kk), some (.int a), some vf, some vr, some (.int (M.prodN ((ds.map pOf).take i) : Nat)), v, none, none, none]) ⟨Same.refl _, none, by rw [List.take_zero]; rfl⟩ (fun i σ H' _ I => SqL.of (I.1 _ _ eD)) ?_ ?_
    · rintro i x σ H1 hi ⟨s1, v, rfl⟩
      obtain ⟨d, hdi, hdd⟩ := hds.get hi
      have hdm := List.mem_of_getElem? hdi
      obtain ⟨tp, xs, rfl, etp⟩ := (hdd.same s1).pap (hpaps d hdm).1
      have h9 := (hpaps d hdm).2.2
      have hB := hprB i
      have hpi : (ds.map pOf)[i]? = some (pOf d) := by rw [List.getElem?_map, hdi]; rfl
      walk_at "g"
      refine s_ixT (SqT.of etp) (atI0 0 rfl rfl) ?_
      walk_at "g"
      try refine s_i (mulW (by omega) (by omega)) ?_
      walk_at "g"
      refine ⟨s1, some (.ref tp), ?_⟩
      rw [take_more hpi, M.prodN_snoc, Int.natCast_mul]; rfl
    rintro σ H1 ⟨s1, v, rfl⟩
    rw [hwl, List.take_of_length_le (by rw [List.length_map]; omega)]
    have hB := hprB ds.length
    rw [List.take_of_length_le (by rw [List.length_map]; omega)] at hB
    cases hdf with
    | non => cases hlf
    | bl b => cases hlf
    | int i => cases hlf
    | str x => cases hlf
    | tup _ _ => cases hlf
    | @lst E zs fs eE hfs _ =>
    have hzl := hfs.len
    walk_at "g"
    refine mkL (by simp) fun E0 H2 nE0 eE0 s2 => ?_
    have S2 := s1.trans s2
    walk_at "g"
    refine s_eqD (.list fs) (.list []) (.lst (SqL.of (S2 _ _ eE)) ((hfs.same S2).dp K)) (.lst (SqL.of eE0) .nil) (hbf.shaped (by decide)) (by decide +kernel) ?_
    have hemp : PyData.eqv (.list fs) (.list []) = fs.isEmpty := by cases fs <;> simp [PyData.eqv, PyData.eqvAll]
    rw [hemp]
    walk_at "g"
    cases fs with
    | nil =>
      rw [show ([] : List PyData).isEmpty = true from rfl]
      walk_at "g"
      refine bad (fun ⟨ns, _, _, e, h, _⟩ => ?_) H2 S2
      cases ns with
      | nil => exact h rfl
      | cons n ns => simp at e
    | cons f0 fr =>
    rw [show (f0 :: fr).isEmpty = false from rfl]
    walk_at "g"
    refine s_lenL (SqL.of (S2 _ _ eD)) ?_
    rw [hwl]
    walk_at "g"
    refine ⟨vr, dr, ds.length, rfl, hdr.same S2, ?_⟩
    walk_at "g"
    cases er : isR ds.length dr with
    | false =>
      walk_at "g"
      refine bad (fun ⟨ns, rl, es, _, _, _, _, _, z, hle, _⟩ => ?_) H2 S2
      rw [z, isR_tup, hle] at er
      simp at er
    | true =>
    obtain ⟨es, rfl, hle⟩ := isR_inv er
    have hle : es.length = ds.length := by omega
    obtain ⟨m1, em1, _, hb1⟩ := hbr.tup_inv
    obtain rfl : m1 = 58 := by omega
    have hdr2 := hdr.same S2
    cases hdr2 with
    | @tup R ys _ eR hys =>
    have hyl := hys.len
    walk_at "g"
    refine ⟨.ref E, .list (f0 :: fr), _, 59, rfl, .lst (S2 _ _ eE) (hfs.same S2) trivial, hbf, fun o H3 ho s3 => ?_⟩
    have S3 := S2.trans s3
    walk_at "g"
    cases o with
    | false =>
      walk_at "g"
      exact bad (fun ⟨ns, _, _, e, _, h4, hsr, hrg, _⟩ => absurd (ho.mpr ⟨ns, e, h4, hrg, hsr⟩) (by simp)) H3 S3
    | true =>
    obtain ⟨ns, ens, h4, hrg, hsr⟩ := ho.mp rfl
    have ens := PyData.list.inj ens
    rw [ens] at hfs
    have hzs := dal_back hfs
    subst hzs
    have hns0 : ns ≠ [] := fun z => by rw [z] at ens; simp at ens
    have eE3 := S3 _ _ eE
    walk_at "g"
    refine s_zipM ?_
    walk_at "g"
    refine ⟨D, R, ws, ys, rfl, SqL.of (S3 _ _ eD), SqT.of (s3 _ _ eR), ?_⟩
    refine for_it (walk_zipM (xs := ws) (ys := ys) (n := ds.length) (by omega)) (fun i σ H' => Same H3 H' ∧ ∃ (rl : List (List Int)) (v6 v8 v9 : Option V), σ = [some (.ref D), some (.int kk), some (.int a), some (.ref E), some (.ref R), some (.int (M.prodN (ds.map pOf) : Nat)), v6, some (.int (M.prodN (rl.map List.length) : Nat)), v8, v9] ∧ rl.length = i ∧ (∀ rs ∈ rl, rs.length ≤ 400) ∧
      ∀ (j : Nat) (d : PyData) (rs : List Int) (e : PyData), j < i → ds[j]? = some d → rl[j]? = some rs → es[j]? = some e → rs.Pairwise (· < ·) ∧ (∀ z, z ∈ rs ↔ ∃ n ∈ ns, n % (pOf d : Int) = z) ∧ IsRt (pOf d) kk a (.tuple [.list (rs.map .int), e])) ⟨Same.refl _, [], _, none, none, rfl, rfl, by simp, fun j _ _ _ hj => by omega⟩ (fun i σ H' _ I => ⟨SqL.of (I.1 _ _ (S3 _ _ eD)), SqT.of (I.1 _ _ (s3 _ _ eR))⟩) ?_ ?_
    · rintro i v σ H4 H5 hi ⟨s4, rl, v6, v8, v9, rfl, hrl, h400, hrows⟩ ⟨T, x1, y1, rfl, nT, rfl, hx1, hy1⟩
      have hi' : i < ds.length := hi
      obtain ⟨d, hdi, hd⟩ := hds.get hx1
      obtain ⟨e, hei, he⟩ := hys.get hy1
      have hdm := List.mem_of_getElem? hdi
      have hem := List.mem_of_getElem? hei
      obtain ⟨hpap, hbpd, hp9⟩ := hpaps d hdm
      have hp2 := hpap.prime.1
      have s5 : Same H4 (upd H4 T (.tup [x1, y1])) := same_upd nT
      have eT : upd H4 T (.tup [x1, y1]) T = some (.tup [x1, y1]) := upd_same
      generalize upd H4 T (.tup [x1, y1]) = H5 at s5 eT ⊢
      have S5 := s4.trans s5
      obtain ⟨tp, xs, rfl, etp⟩ := (hd.same (S3.trans S5)).pap hpap
      refine s_gtup (SqT.of eT) rfl ?_
      walk_at "g"
      refine s_ixT (SqT.of etp) (atI0 0 rfl rfl) ?_
      walk_at "g"
      refine ⟨E, ns, pOf d, rfl, S5 _ _ eE3, h4, by omega, fun rs Rr H6 hrsr hrm hr4 eRr s6 => ?_⟩
      walk_at "g"
      refine mkT (by simp) fun l7 H7 nl7 el7 s7 => ?_
      have S7 := S5.trans (s6.trans s7)
      have brs : Bd 59 (.list (rs.map PyData.int)) := .lst (by rw [List.length_map]; omega) fun z hz => by
        obtain ⟨r, hr, rfl⟩ := List.mem_map.mp hz
        obtain ⟨n, _, rfl⟩ := (hrm r).mp hr
        have r0 := Int.emod_nonneg n (show ((pOf d : Nat) : Int) ≠ 0 by omega)
        have r1 := Int.emod_lt_of_pos n (show (0 : Int) < ((pOf d : Nat) : Int) by omega)
        exact .int (by omega)
      walk_at "g"
      refine ⟨.ref tp, .ref l7, d, .tuple [.list (rs.map .int), e], kk, a, rfl, hd.same (S3.trans S7), hbpd, .tup el7 (.cons (.lst (s7 _ _ eRr) (dal_ints _) trivial) (.cons (he.same (s3.trans S7)) .nil)), .tup (by simp) fun z hz => ?_, k0, kb, fun o H8 ho8 s8 => ?_⟩
      · simp only [List.mem_cons, List.not_mem_nil, or_false] at hz
        rcases hz with w | w <;> subst w
        · exact brs
        · exact (hb1 _ hem).mono (by decide)
      walk_at "g"
      have S8 := S7.trans s8
      cases o with
      | false =>
        walk_at "g"
        refine bad (fun ⟨ns', rl', es', z1, _, _, _, _, z2, _, hrl', hr', _⟩ => ?_) H8 (S3.trans S8)
        have e1 : ns' = ns := by
          have := PyData.list.inj z1
          rw [ens] at this
          exact (map_int_inj.mp this).symm
        have e2 := PyData.tuple.inj z2
        subst e1 e2
        obtain ⟨rs', hrs'⟩ : ∃ rs', rl'[i]? = some rs' := ⟨_, List.getElem?_eq_getElem (by omega)⟩
        obtain ⟨w1, w2, w3⟩ := hr' i d rs' e hdi hrs' hei
        have e3 : rs' = rs := M.sorted_ext w1 hrsr fun z => (w2 z).trans (hrm z).symm
        subst e3
        exact absurd (ho8.mpr ⟨hpap, w3⟩) (by simp)
      | true =>
        obtain ⟨_, hRt⟩ := ho8.mp rfl
        have hB2 : M.prodN (rl.map List.length) ≤ 400 ^ 5 := by
          have h1 := M.prodN_bd (l := rl.map List.length) (B := 400) fun z hz => by
            obtain ⟨r, hr, rfl⟩ := List.mem_map.mp hz
            exact h400 r hr
          have h2 : (400 : Nat) ^ (rl.map List.length).length ≤ 400 ^ 5 := Nat.pow_le_pow_right (by decide) (by rw [List.length_map]; omega)
          omega
        have hB3 : (400 : Nat) ^ 5 ≤ 10 ^ 14 := by decide
        walk_at "g"
        refine s_lenL (SqL.of (s8 _ _ (s7 _ _ eRr))) ?_
        rw [List.length_map]
        walk_at "g"
        try refine s_i (mulW (by omega) (by omega)) ?_
        walk_at "g"
        refine ⟨S8, rl ++ [rs], some (.ref tp), some y1, some (.ref Rr), ?_, by rw [List.length_append, hrl]; rfl, fun r hr => ?_, fun j d' rs' e' hj h1 h2 h3 => ?_⟩
        · rw [List.map_append, List.map_cons, List.map_nil, M.prodN_snoc, Int.natCast_mul]; rfl
        · rcases List.mem_append.mp hr with z | z
          · exact h400 r z
          · rw [List.mem_singleton.mp z]; exact hr4
        · rcases Nat.lt_or_ge j i with z | z
          · rw [List.getElem?_append_left (by omega)] at h2
            exact hrows j d' rs' e' z h1 h2 h3
          · obtain rfl : j = i := by omega
            rw [List.getElem?_append_right (by omega), hrl, Nat.sub_self] at h2
            rw [hdi] at h1
            rw [hei] at h3
            cases h1
            cases h2
            cases h3
            exact ⟨hrsr, hrm, hRt⟩
    · rintro σ H4 ⟨s4, rl, v6, v8, v9, rfl, hrl, h400, hrows⟩
      walk_at "g"
      refine s_lenL (SqL.of (s4 _ _ eE3)) ?_
      rw [List.length_map]
      walk_at "g"
      refine k _ H4 ?_ (S3.trans s4)
      rw [decide_eq_true_iff]
      constructor
      · intro h
        exact ⟨ns, rl, es, by rw [ens], hns0, h4, hsr, hrg, rfl, hle, hrl, fun i d rs e h1 h2 h3 => hrows i d rs e (List.getElem?_eq_some_iff.mp h1).1 h1 h2 h3, by omega⟩
      · rintro ⟨ns', rl', es', z1, _, _, _, _, z2, _, hrl', hr', hlen⟩
        have e1 : ns' = ns := by
          have := PyData.list.inj z1
          rw [ens] at this
          exact (map_int_inj.mp this).symm
        have e2 := PyData.tuple.inj z2
        subst e1 e2
        have e3 : rl' = rl := List.ext_getElem? fun i => by
          rcases Nat.lt_or_ge i ds.length with c | c
          · obtain ⟨d, hd⟩ : ∃ d, ds[i]? = some d := ⟨_, List.getElem?_eq_getElem c⟩
            obtain ⟨r1, h1⟩ : ∃ r, rl'[i]? = some r := ⟨_, List.getElem?_eq_getElem (by omega)⟩
            obtain ⟨r2, h2⟩ : ∃ r, rl[i]? = some r := ⟨_, List.getElem?_eq_getElem (by omega)⟩
            obtain ⟨e, h3⟩ : ∃ e, es[i]? = some e := ⟨_, List.getElem?_eq_getElem (by omega)⟩
            obtain ⟨a1, a2, _⟩ := hr' i d r1 e hd h1 h3
            obtain ⟨b1, b2, _⟩ := hrows i d r2 e c hd h2 h3
            rw [h1, h2, M.sorted_ext a1 b1 fun z => (a2 z).trans (b2 z).symm]
          · rw [List.getElem?_eq_none (by omega), List.getElem?_eq_none (by omega)]
        rw [e3] at hlen
        omega

/-- what is told of the roots by some primes -/
def ShowsRD (ds : List PyData) (k : Nat) (a : Int) (dt : PyData) : Prop :=
  (∃ (i : Nat) (d e r : PyData), ds[i]? = some d ∧ dt = .tuple [.list [], .tuple [.str "none", .int (i : Nat), e, r]] ∧ IsRt (pOf d) k a (.tuple [.list [], .tuple [.str "none", e, r]])) ∨
  (∃ f rows, dt = .tuple [f, .tuple [.str "by", rows]] ∧ EachD ds k a f rows)
/-- shows_roots_of(papers, k, a, thing), of any things -/
def sp_shows_roots_of : Sp := fun vs H Q _ => ∃ (v vt : V) (d dt : PyData) (kk : Nat) (a : Int), vs = [v, .int kk, .int a, vt] ∧ Da H v d ∧ Bd 136 d ∧ (PapsD d → ∀ ds, d = .list ds → ∀ e ∈ ds, pOf e ≤ 1000000000) ∧ Da H vt dt ∧ Bd 60 dt ∧ 0 < kk ∧ kk < 2 ^ 900 ∧
  ∀ (o : Bool) H', (o = true ↔ PapsD d ∧ ∃ ds, d = .list ds ∧ ShowsRD ds kk a dt) → Same H H' → Q (.bl o) H'
theorem ok_shows_roots_of (T : Txt K mg) : FnOk P w K mg base CX0 148 (He.ga K "shows_roots_of") (fd_shows_roots_of T) ["papers", "k", "a", "thing"] sp_shows_roots_of := by
  refine (F_shows_roots_of T).ok sc_shows_roots_of (fun vs H Q E h => ?_) (fun cdv A outer s H vs Q E hr h => ⟨_, PSs.nox (pss_cons (ps_if (PW.pt (pw_or (pt_not (pt_val (pe_call (ok_are_primes T) (hr.mono (by decide)) rfl (g_are_primes T) (kp_are_primes T) (B_are_primes T) .nil pass0 (pa_cons (pv 0) pa_nil)))) (pw_or (pt_not (pt_val (pe_call (ok_is_row_of T) (hr.mono (by decide)) rfl (g_is_row_of T) (kp_is_row_of T) (B_is_row_of T) .nil pass0 (pa_cons (pv 3) (pa_cons pe_int pa_nil))))) (pw_or1 (pt_not (pt_val (pe_callB call_isi rfl (T.fr (T.c.fact 59 rfl)) boot_isinstance (pa_cons (pe_ix ix_seq (pv 3) pe_int (fun _ _ => rfl)) (pa_cons (pe_bltn (v := .ty "list") rfl (T.fr (T.c.fact 65 rfl)) boot_list rfl) pa_nil))))))))) (pss_one (ps_ret pe_bl)) pss_nil)
      (pss_cons (ps_asg (pv 3) (pg_tup rfl (pgs_cons (pg_name (i := 4) sc_shows_roots_of.nd rfl (Or.inl rfl)) (pgs_cons (pg_name (i := 5) sc_shows_roots_of.nd rfl (Or.inl rfl)) pgs_nil))))
      (pss_cons (ps_if (pt_val (pe_call (ok_is_named T) (hr.mono (by decide)) rfl (g_is_named T) (kp_is_named T) (B_is_named T) .nil pass0 (pa_cons (pv 5) (pa_cons pe_str (pa_cons pe_int pa_nil))))) (pss_cons (ps_set (i := 6) sc_shows_roots_of.nd rfl (Or.inl rfl) (pe_tup (pa_cons (pv 4) (pa_cons (pe_op op_catA (pe_tup (pa_cons pe_str pa_nil)) (pe_slice sl_tupA (pv 5) (po_some pe_int) po_none)) pa_nil))))
      (pss_one (ps_ret (pe_and (pe_cmpR (op_eqD hr.units) (pv 4) (pe_lst pa_nil) (nomark _)) (pe_and (pe_call (ok_is_below T) (hr.mono (by decide)) rfl (g_is_below T) (kp_is_below T) (B_is_below T) .nil pass0 (pa_cons (pe_ix ix_seq (pv 5) pe_int (fun _ _ => rfl)) (pa_cons (pe_callB callLen rfl (T.fr (T.c.fact 62 rfl)) boot_len (pa_cons (pv 0) pa_nil)) pa_nil))) (pe_one (pe_call (ok_shows_roots T) (hr.mono (by decide)) rfl (g_shows_roots T) (kp_shows_roots T) (B_shows_roots T) .nil pass0 (pa_cons (pe_ix ix_seq (pv 0) (pe_ix ix_seq (pv 5) pe_int (fun _ _ => rfl)) (fun _ _ => rfl)) (pa_cons (pv 1) (pa_cons (pv 2) (pa_cons (pv 6) pa_nil))))))))))) pss_nil)
      (pss_one (ps_ret (pe_and (pe_call (ok_is_named T) (hr.mono (by decide)) rfl (g_is_named T) (kp_is_named T) (B_is_named T) .nil pass0 (pa_cons (pv 5) (pa_cons pe_str (pa_cons pe_int pa_nil)))) (pe_one (pe_call (ok_are_each_with_each T) (hr.mono (by decide)) rfl (g_are_each_with_each T) (kp_are_each_with_each T) (B_are_each_with_each T) .nil pass0 (pa_cons (pv 0) (pa_cons (pv 1) (pa_cons (pv 2) (pa_cons (pv 4) (pa_cons (pe_ix ix_seq (pv 5) pe_int (fun _ _ => rfl)) pa_nil))))))))))))), ?_⟩)
  · obtain ⟨v, vt, d, dt, kk, a, rfl, _⟩ := h; rfl
  · obtain ⟨v, vt, d, dt, kk, a, rfl, hd, hbd, hp9, hdt, hbt, k0, kb, k⟩ := h
    have bad : (PapsD d → ∀ ds, d = .list ds → ShowsRD ds kk a dt → False) → ∀ H2, Same H H2 → Q (.bl false) H2 := fun h H2 s2 => k false H2 ⟨fun z => (nomatch z), fun ⟨z, ds, e, z2⟩ => (h z ds e z2).elim⟩ s2
    walk_at "g"
    refine ⟨v, d, rfl, hd, hbd, fun o1 H1 ho1 s1 => ?_⟩
    walk_at "g"
    cases o1 with
    | false =>
      walk_at "g"
      exact bad (fun z => absurd (ho1.mpr z) (by simp)) H1 s1
    | true =>
    have hP := ho1.mp rfl
    obtain ⟨ds, rfl, hl0, hl5, hpap, hpw⟩ := id hP
    have hp9 := hp9 hP ds rfl
    obtain ⟨m0, em0, _, hbds⟩ := hbd.lst_inv
    obtain rfl : m0 = 135 := by omega
    have badS : ¬ ShowsRD ds kk a dt → ∀ H2, Same H H2 → Q (.bl false) H2 := fun h => bad fun _ ds' e z => by cases e; exact h z
    have hd1 := hd.same s1
    cases hd1 with
    | @lst D ws _ eD hds _ =>
    have hwl := hds.len
    have hdt1 := hdt.same s1
    walk_at "g"
    refine ⟨vt, dt, 2, rfl, hdt1, ?_⟩
    walk_at "g"
    cases er : isR 2 dt with
    | false =>
      walk_at "g"
      refine badS (fun z => ?_) H1 s1
      obtain ⟨_, _, _, _, _, z, _⟩ | ⟨_, _, z, _⟩ := z <;> rw [z] at er <;> cases er
    | true =>
    obtain ⟨es, rfl, hl2⟩ := isR_inv er
    obtain ⟨df, dsh, rfl⟩ : ∃ a0 a1, es = [a0, a1] := by
      match es, hl2 with
      | [a, b], _ => exact ⟨a, b, rfl⟩
      | [], h => simp at h
      | [_], h => simp at h
      | _ :: _ :: _ :: _, h => simp at h; omega
    obtain ⟨m1, em1, _, hb1⟩ := hbt.tup_inv
    obtain rfl : m1 = 59 := by omega
    have hbf := hb1 df (by simp)
    have hbs := hb1 dsh (by simp)
    cases hdt1 with
    | @tup tt ys _ ett hy =>
    obtain ⟨vf, vs, yr, rfl, h0, h1, h2⟩ := hy.two
    cases h2
    walk_at "g"
    refine s_ixT (SqT.of ett) (atI0 0 rfl rfl) ?_
    walk_at "g"
    refine s_isiLst h0 ?_
    walk_at "g"
    cases hlf : isLst df with
    | false =>
      walk_at "g"
      refine badS (fun z => ?_) H1 s1
      obtain ⟨_, _, _, _, _, z, _⟩ | ⟨_, _, z, ns, _, _, e, _⟩ := z
      · simp only [PyData.tuple.injEq, List.cons.injEq] at z
        rw [z.1] at hlf; cases hlf
      · simp only [PyData.tuple.injEq, List.cons.injEq] at z
        rw [z.1, e] at hlf; cases hlf
    | true =>
    have hk : ∀ (o : Bool) H', (o = true ↔ ShowsRD ds kk a (.tuple [df, dsh])) → Same H H' → Q (.bl o) H' := fun o H' h s => k o H' (h.trans ⟨fun z => ⟨hP, ds, rfl, z⟩, fun ⟨_, ds', e, z⟩ => by cases e; exact z⟩) s
    clear k bad
    walk_at "g"
    refine s_gtup (SqT.of ett) rfl ?_
    walk_at "g"
    refine ⟨vs, dsh, "none", 4, 59, rfl, h1, hbs, by decide, by decide +kernel, by decide, ?_⟩
    cases c1 : isNm dsh "none" 4 with
    | true =>
      obtain ⟨es, rfl, hl3⟩ := isNm_inv c1
      obtain ⟨d1, d2, d3, rfl⟩ : ∃ a b c, es = [a, b, c] := by
        match es, hl3 with
        | [a, b, c], _ => exact ⟨a, b, c, rfl⟩
        | [], h => simp at h
        | [_], h => simp at h
        | [_, _], h => simp at h
        | _ :: _ :: _ :: _ :: _, h => simp at h; omega
      obtain ⟨m2, em2, _, hb2⟩ := hbs.tup_inv
      obtain rfl : m2 = 58 := by omega
      cases h1 with
      | @tup ts zs _ ets hz =>
      cases hz with
      | @cons z0 zs' _ _ q0 qz =>
      obtain ⟨z1, z2, z3, zr, rfl, q1, q2, q3, q4⟩ := qz.three
      cases q4
      cases q0
      have iff1 : ∀ o : Bool, (o = true ↔ ∃ (i : Nat) (d : PyData), d1 = .int (i : Nat) ∧ ds[i]? = some d ∧ df = .list [] ∧ IsRt (pOf d) kk a (.tuple [.list [], .tuple [.str "none", d2, d3]])) → (o = true ↔ ShowsRD ds kk a (.tuple [df, .tuple [.str "none", d1, d2, d3]])) := fun o h => h.trans (by
        constructor
        · rintro ⟨i, d, rfl, hdi, rfl, hW⟩
          exact .inl ⟨i, d, d2, d3, hdi, rfl, hW⟩
        · rintro (⟨i, d, e, r, hdi, z, hW⟩ | ⟨f, rows, z, _⟩)
          · simp only [PyData.tuple.injEq, List.cons.injEq, and_true, true_and] at z
            obtain ⟨rfl, rfl, rfl, rfl⟩ := z
            exact ⟨i, d, rfl, hdi, rfl, hW⟩
          · simp only [PyData.tuple.injEq, List.cons.injEq, PyData.str.injEq] at z
            exact absurd z.2.1.1 (by decide +kernel))
      have badN : (∀ (i : Nat) (d : PyData), d1 = .int (i : Nat) → ds[i]? = some d → df = .list [] → IsRt (pOf d) kk a (.tuple [.list [], .tuple [.str "none", d2, d3]]) → False) → ∀ H3, Same H H3 → Q (.bl false) H3 := fun h H3 s3 => hk false H3 (iff1 false ⟨fun z => (nomatch z), fun ⟨i, d, z1, z2, z3, z4⟩ => (h i d z1 z2 z3 z4).elim⟩) s3
      walk_at "c"
      with_reducible refine s_asg ?_
      refine (eve_tup (eves_cons (eve_var rfl h0) (eves_cons (eve_cat (eve_tup (eves_cons eve_str eves_nil)) (eve_sl (eve_var rfl (.tup ets (.cons (.str _) (.cons q1 (.cons q2 (.cons q3 .nil)))))) (evo_some evv_c) evo_none) (by have := cutD_len [.str "none", d1, d2, d3] (some 2) none; simp only [List.length_cons, List.length_nil] at this ⊢; omega)) eves_nil)) : EvE (fun _ => True) _ _ H1 (.tuple [df, .tuple ([.str "none"] ++ cutD [.str "none", d1, d2, d3] (some 2) none)])) H1 (Same.refl _) _ fun vt H3 s3 hvt => ?_
      have hcut : cutD [.str "none", d1, d2, d3] (some 2) none = [d2, d3] := cutD_from (k := 2) (ds := [.str "none", d1, d2, d3]) (by simp)
      rw [hcut] at hvt
      have hvt : Da H3 vt (.tuple [df, .tuple [.str "none", d2, d3]]) := hvt
      have S3 := s1.trans s3
      have h03 := h0.same s3
      walk_at "g"
      refine mkL (by simp) fun E0 H4 nE0 eE0 s4 => ?_
      have S4 := S3.trans s4
      have s34 := s3.trans s4
      walk_at "g"
      refine s_eqD df (.list []) ((h03.same s4).dp K) (.lst (SqL.of eE0) .nil) (hbf.shaped (by decide)) (by decide +kernel) ?_
      walk_at "g"
      have hemp : PyData.eqv df (.list []) = true ↔ df = .list [] := by
        cases df with
        | list fs => cases fs <;> simp [PyData.eqv, PyData.eqvAll]
        | _ => cases hlf
      cases ee : PyData.eqv df (.list []) with
      | false =>
        walk_at "g"
        refine badN (fun i d _ _ z _ => ?_) H4 S4
        rw [hemp.mpr z] at ee; cases ee
      | true =>
      obtain rfl := hemp.mp ee
      walk_at "g"
      refine s_ixT (SqT.of (s34 _ _ ets)) (atI0 1 rfl rfl) ?_
      walk_at "g"
      refine s_lenL (SqL.of (s34 _ _ eD)) ?_
      rw [hwl]
      walk_at "g"
      refine ⟨z1, d1, ds.length, rfl, q1.same s34, ?_⟩
      walk_at "g"
      cases c2 : isBel d1 ds.length with
      | false =>
        walk_at "g"
        refine badN (fun i d z1 z2 _ _ => ?_) H4 S4
        rw [z1] at c2
        have := (List.getElem?_eq_some_iff.mp z2).1
        simp only [isBel, Bool.and_eq_false_iff, decide_eq_false_iff_not] at c2
        omega
      | true =>
      obtain ⟨i, rfl, hi⟩ := isBel_inv c2
      have hi : i < ds.length := by omega
      cases q1
      obtain ⟨wi, hwi, hdi⟩ := hds.get' (List.getElem?_eq_getElem hi)
      have hmi := List.getElem_mem hi
      walk_at "g"
      refine s_ixT (SqT.of (s34 _ _ ets)) (atI0 1 rfl rfl) ?_
      walk_at "g"
      refine s_ixL (SqL.of (s34 _ _ eD)) (atI_nat hwi) ?_
      walk_at "g"
      have hbt' : Bd 60 (.tuple [.list [], .tuple [.str "none", d2, d3]]) := .tup (by simp) fun y hy => by
        simp only [List.mem_cons, List.not_mem_nil, or_false] at hy
        rcases hy with w | w <;> subst w
        · exact .lst (by simp) (by simp)
        · refine .tup (by simp) fun y hy => hb2 y ?_
          simp only [List.mem_cons, List.not_mem_nil, or_false] at hy ⊢
          rcases hy with w | w | w <;> simp [w]
      refine ⟨wi, vt, ds[i], _, kk, a, rfl, hdi.same s34, hbds _ hmi, hvt.same s4, hbt', k0, kb, fun o H5 ho s5 => ?_⟩
      refine hk o H5 (iff1 o (ho.trans ?_)) (S4.trans s5)
      constructor
      · rintro ⟨_, hW⟩
        exact ⟨i, _, rfl, List.getElem?_eq_getElem hi, rfl, hW⟩
      · rintro ⟨i', d, z1, z2, _, hW⟩
        obtain rfl : i = i' := by have := PyData.int.inj z1; omega
        rw [List.getElem?_eq_getElem hi] at z2
        cases z2
        exact ⟨hpap _ hmi, hW⟩
    | false =>
    have notN : ∀ e r i, dsh ≠ .tuple [.str "none", i, e, r] := fun e r i z => by
      rw [z, isNm_of (by simp)] at c1
      cases c1
    walk_at "g"
    refine ⟨vs, dsh, "by", 2, 59, rfl, h1, hbs, by decide, by decide +kernel, by decide, ?_⟩
    cases c3 : isNm dsh "by" 2 with
    | false =>
      walk_at "g"
      refine badS (fun z => ?_) H1 s1
      rcases z with ⟨i, d, e, r, hdi, z, hW⟩ | ⟨f, rows, z, _⟩
      · simp only [PyData.tuple.injEq, List.cons.injEq, and_true] at z
        exact notN _ _ _ z.2
      · simp only [PyData.tuple.injEq, List.cons.injEq, and_true] at z
        rw [z.2, isNm_of (by simp)] at c3
        cases c3
    | true =>
    obtain ⟨es, rfl, hl5'⟩ := isNm_inv c3
    obtain ⟨dr, rfl⟩ : ∃ a, es = [a] := by
      match es, hl5' with
      | [a], _ => exact ⟨a, rfl⟩
      | [], h => simp at h
      | _ :: _ :: _, h => simp at h; omega
    obtain ⟨m2, em2, _, hb2⟩ := hbs.tup_inv
    cases h1 with
    | @tup ts zs _ ets hz =>
    obtain ⟨z0, z1, zr, rfl, q0, q1, q2⟩ := hz.two
    cases q2
    cases q0
    walk_at "g"
    refine s_ixT (SqT.of ets) (atI0 1 rfl rfl) ?_
    walk_at "g"
    refine ⟨D, ws, ds, vf, z1, df, dr, kk, a, rfl, eD, hds, hl5, fun d hd => ⟨hpap d hd, hbds d hd, hp9 d hd⟩, h0, hlf, hbf, q1, (hb2 dr (by simp)).mono (by omega), k0, kb, fun o H3 ho s3 => ?_⟩
    refine hk o H3 (ho.trans ?_) (s1.trans s3)
    constructor
    · intro h
      exact .inr ⟨df, dr, rfl, h⟩
    · rintro (⟨i, d, e, r, hdi, z, hW⟩ | ⟨f, rows, z, hL⟩)
      · simp only [PyData.tuple.injEq, List.cons.injEq, PyData.str.injEq] at z
        exact absurd z.2.1.1 (by decide +kernel)
      · simp only [PyData.tuple.injEq, List.cons.injEq, and_true, true_and] at z
        obtain ⟨rfl, rfl⟩ := z
        exact hL

/-- taken(q, many): the power -/
def sp_taken : Sp := fun vs H Q _ => ∃ q b : Nat, vs = [.int q, .int b] ∧ 0 < q ∧ b < 2 ^ 60 ∧ q ^ b < 2 ^ 900 ∧ Q (.int ((q ^ b : Nat) : Int)) H
theorem ok_taken (T : Txt K mg) : FnOk P w K mg base CX0 1 (He.ga K "taken") (fd_taken T) ["q", "many"] sp_taken := by
  refine (F_taken T).ok sc_taken (fun vs H Q E h => ?_) (fun cdv A outer s H vs Q E hr h => ⟨_, PSs.nox (pss_cons (ps_set (i := 2) sc_taken.nd rfl (Or.inl rfl) pe_int)
      (pss_cons (ps_for PassesOwn.never rfl (pi_range1 rfl (T.fr (T.c.fact 54 rfl)) (pa_cons (pv 1) pa_nil)) (pg_name (i := 3) sc_taken.nd rfl (Or.inl rfl)) (pss_one (ps_set (i := 2) sc_taken.nd rfl (Or.inl rfl) (pe_op op_mulW (pv 2) (pv 0)))))
      (pss_one (ps_ret (pv 2))))), ?_⟩)
  · obtain ⟨q, b, rfl, _⟩ := h; rfl
  · obtain ⟨q, b, rfl, q0, hb, hqb, k⟩ := h
    walk_at "g"
    refine mkR1 b (by omega) (by omega) (by omega) ?_
    refine for_range (n := b) (fun i σ H' => H' = H ∧ ∃ v : Option V, σ = [some (.int q), some (.int b), some (.int ((q ^ i : Nat) : Int)), v]) ⟨rfl, none, rfl⟩ ?_ ?_
    · rintro i σ H' hi ⟨rfl, v, rfl⟩
      have h1 : q ^ i ≤ q ^ b := Nat.pow_le_pow_right q0 (by omega)
      have h2 : q ^ 1 ≤ q ^ b := Nat.pow_le_pow_right q0 (by omega)
      rw [Nat.pow_one] at h2
      have e3 : ((q ^ i : Nat) : Int) * (q : Int) = ((q ^ (i + 1) : Nat) : Int) := by rw [Nat.pow_succ]; push_cast; rfl
      walk_at "g"
      try refine s_i (mulW (by omega) (by omega)) ?_
      walk_at "g"
      rw [e3]
      exact ⟨rfl, _, rfl⟩
    · rintro σ H' ⟨rfl, v, rfl⟩
      walk_at "g"
      exact k

/-- _law_cell_at(script, k): a cell, or 0 -/
def sp__law_cell_at (K : PySem.W.Frag) : Sp := fun vs H Q _ => ∃ (a : Addr) (ns : List Int) (k : Nat), vs = [.ref a, .int k] ∧ SqL K H a (ns.map V.int) ∧ ∀ z : Int, Q (.int z) H
theorem ok__law_cell_at (T : Txt K mg) : FnOk P w K mg base CX0 1 (He.ga K "_law_cell_at") (fd__law_cell_at T) ["_law_script", "_law_k"] (sp__law_cell_at K) := by
  refine (F__law_cell_at T).ok sc__law_cell_at (fun vs H Q E h => ?_) (fun cdv A outer s H vs Q E hr h => ⟨_, PSs.nox (pss_cons (ps_if (pt_cmpR op_lt (pv 1) (pe_callB callLen rfl (T.fr (T.c.fact 62 rfl)) boot_len (pa_cons (pv 0) pa_nil)) (nomark _)) (pss_one (ps_ret (pe_ix ix_seq (pv 0) (pv 1) (fun _ _ => rfl)))) pss_nil)
      (pss_one (ps_ret pe_int))), ?_⟩)
  · obtain ⟨a, ns, k, rfl, _⟩ := h; rfl
  · obtain ⟨a, ns, k, rfl, hS, q⟩ := h
    walk_at "g"
    refine s_lenL hS ?_
    walk_at "g"
    refine s_ite (fun c => ?_) (fun c => ?_)
    · rw [List.length_map] at c
      obtain ⟨z, hz⟩ : ∃ z, ns[k]? = some z := ⟨_, List.getElem?_eq_getElem (show k < ns.length by omega)⟩
      walk_at "g"
      refine s_ixL hS (atI0 k rfl (v := .int z) (by rw [List.getElem?_map, hz]; rfl)) ?_
      exact q _
    · walk_at "g"
      exact q 0

/-- the state of a law's draws: a dict of what is left and whether it is free -/
def StAt (H : Hp) (p : Addr) : Prop := ∃ (l : Int) (f : Bool), H p = some (.dK [(.inr "left", .int l), (.inr "free", .bl f)]) ∧ (f = false → 0 ≤ l ∧ l < 2147483647)
theorem StAt.same {H H' : Hp} {p : Addr} (h : StAt H p) (s : Same H H') : StAt H' p := by
  obtain ⟨l, f, e, k⟩ := h
  exact ⟨l, f, s _ _ e, k⟩
theorem tups_b {H H' : Hp} {p : Addr} (h : StAt H p) (s : ∀ b o, b ≠ p → H b = some o → H' b = some o) {xs : List V} {rs : List (List V)} (ht : TupsIn H xs rs) : TupsIn H' xs rs := by
  induction ht with
  | nil => exact .nil
  | cons f _ ih =>
    obtain ⟨t, e, ht⟩ := f
    refine .cons ⟨t, e, s _ _ (fun z => ?_) ht⟩ ih
    obtain ⟨_, _, e2, _⟩ := h
    rw [z, e2] at ht; cases ht
/-- _law_state(cell, free): a new state -/
def sp__law_state : Sp := fun vs H Q _ => ∃ (c : Int) (f : Bool), vs = [.int c, .bl f] ∧ ∀ p H', H p = none → Same H H' → StAt H' p → Q (.ref p) H'
theorem ok__law_state (T : Txt K mg) : FnOk P w K mg base CX0 1 (He.ga K "_law_state") (fd__law_state T) ["_law_cell", "_law_free"] sp__law_state := by
  refine (F__law_state T).ok sc__law_state (fun vs H Q E h => ?_) (fun cdv A outer s H vs Q E hr h => ⟨_, PSs.nox (pss_cons (ps_if (pt_val (pv 1)) (pss_one (ps_ret (pe_disp (pps_cons pe_str (pv 0) (pps_cons pe_str pe_bl pps_nil)) rfl rfl (by simp) (by decide)))) pss_nil)
      (pss_one (ps_ret (pe_disp (pps_cons pe_str (pe_op op_add pe_int (pe_op op_mod (pv 0) pe_int)) (pps_cons pe_str pe_bl pps_nil)) rfl rfl (by simp) (by decide))))), ?_⟩)
  · obtain ⟨c, f, rfl, _⟩ := h; rfl
  · obtain ⟨c, f, rfl, k⟩ := h
    walk_at "g"
    refine s_iteb (fun e => ?_) (fun e => ?_)
    · walk_at "g"
      refine s_disp fun p H1 np hd s1 => ?_
      walk_at "g"
      refine mkDisp [(.inr "left", .int c), (.inr "free", .bl true)] hd rfl (by simp) fun H2 e2 s2 => ?_
      exact k p H2 np (s2 H np s1) ⟨c, true, e2, fun z => nomatch z⟩
    · walk_at "g"
      refine s_disp fun p H1 np hd s1 => ?_
      walk_at "g"
      refine mkDisp [(.inr "left", .int (1 + c % 2147483646)), (.inr "free", .bl false)] hd rfl (by simp) fun H2 e2 s2 => ?_
      exact k p H2 np (s2 H np s1) ⟨1 + c % 2147483646, false, e2, fun _ => by omega⟩

/-- _law_take(state, many): a number from 0 to below many -/
def sp__law_take : Sp := fun vs H Q _ => ∃ (p : Addr) (m : Int), vs = [.ref p, .int m] ∧ 0 < m ∧ m < 2 ^ 900 ∧ StAt H p ∧ ∀ (z : Int) H', 0 ≤ z → z < m → StAt H' p → SameB p H H' → Q (.int z) H'
theorem ok__law_take (T : Txt K mg) : FnOk P w K mg base CX0 1 (He.ga K "_law_take") (fd__law_take T) ["_law_state_here", "_law_many"] sp__law_take := by
  refine (F__law_take T).ok sc__law_take (fun vs H Q E h => ?_) (fun cdv A outer s H vs Q E hr h => ⟨_, PSs.nox (pss_cons (ps_if (pt_val (pe_dget (hu_of hr) (pv 0) pe_str (fun _ _ => rfl))) (pss_cons (ps_set (i := 2) sc__law_take.nd rfl (Or.inl rfl) (pe_op op_mod (pe_dget (hu_of hr) (pv 0) pe_str (fun _ _ => rfl)) (pv 1)))
      (pss_cons (ps_dput (hu_of hr) (pv 0) pe_str (pe_op op_fdivW (pe_dget (hu_of hr) (pv 0) pe_str (fun _ _ => rfl)) (pv 1)) rfl)
      (pss_one (ps_ret (pv 2))))) pss_nil)
      (pss_cons (ps_dput (hu_of hr) (pv 0) pe_str (pe_op op_mod (pe_op op_mulW (pe_dget (hu_of hr) (pv 0) pe_str (fun _ _ => rfl)) pe_int) pe_int) rfl)
      (pss_one (ps_ret (pe_op op_mod (pe_op op_fdivW (pe_op op_mod (pe_op op_mulW (pe_dget (hu_of hr) (pv 0) pe_str (fun _ _ => rfl)) pe_int) pe_int) pe_int) (pv 1)))))), ?_⟩)
  · obtain ⟨p, m, rfl, _⟩ := h; rfl
  · obtain ⟨p, m, rfl, m0, m1, ⟨l, f, hd, hf⟩, k⟩ := h
    have hl : ([(.inr "left", .int l), (.inr "free", .bl f)] : List (Key × V)).length < sizeLine := by exact small1000 (by simp)
    have v1 : valV ([(.inr "left", .int l), (.inr "free", .bl f)] : List (Key × V)) (.inr "left") = some (.int l) := by rfl
    have v2 : valV ([(.inr "left", .int l), (.inr "free", .bl f)] : List (Key × V)) (.inr "free") = some (.bl f) := by rfl
    have pk : ∀ x : Int, putK ([(.inr "left", .int l), (.inr "free", .bl f)] : List (Key × V)) (.inr "left") (.int x) = [(.inr "left", .int x), (.inr "free", .bl f)] := fun x => by rfl
    walk_at "g"
    refine s_dgetS hd v2 ?_
    walk_at "g"
    cases f with
    | true =>
      walk_at "g"
      refine s_dgetS hd v1 ?_
      walk_at "g"
      refine s_i (by omega) ?_
      walk_at "g"
      refine s_dgetS hd v1 ?_
      walk_at "g"
      refine s_i (divW m0 (by omega)) ?_
      walk_at "g"
      refine s_dputS hd hl ?_
      walk_at "g"
      rw [pk]
      exact k _ _ (Int.emod_nonneg _ (by omega)) (Int.emod_lt_of_pos _ m0) ⟨_, true, upd_same, fun z => nomatch z⟩ SameB.put
    | false =>
      have hb := hf rfl
      walk_at "g"
      refine s_dgetS hd v1 ?_
      walk_at "g"
      refine s_dputS hd hl ?_
      walk_at "g"
      rw [pk]
      have e : upd H p (.dK [(.inr "left", .int (l * 48271 % 2147483647)), (.inr "free", .bl false)]) p = some (.dK [(.inr "left", .int (l * 48271 % 2147483647)), (.inr "free", .bl false)]) := upd_same
      refine s_dgetS e (by rfl) ?_
      have b0 : 0 ≤ l * 48271 % 2147483647 := by omega
      have b1 : l * 48271 % 2147483647 < 2147483647 := by omega
      walk_at "g"
      refine s_i (by omega) ?_
      walk_at "g"
      exact k _ _ (Int.emod_nonneg _ (by omega)) (Int.emod_lt_of_pos _ m0) ⟨_, false, upd_same, fun _ => ⟨b0, b1⟩⟩ SameB.put

/-- _law_number(state): a number of at most fifty-six figures, of either sign -/
def sp__law_number : Sp := fun vs H Q _ => ∃ (p : Addr), vs = [.ref p] ∧ StAt H p ∧ ∀ (z : Int) H', z.natAbs < 10 ^ 57 → StAt H' p → SameB p H H' → Q (.int z) H'
theorem ok__law_number (T : Txt K mg) : FnOk P w K mg base CX0 2 (He.ga K "_law_number") (fd__law_number T) ["_law_state_here"] sp__law_number := by
  refine (F__law_number T).ok sc__law_number (fun vs H Q E h => ?_) (fun cdv A outer s H vs Q E hr h => ⟨_, PSs.nox (pss_cons (ps_set (i := 1) sc__law_number.nd rfl (Or.inl rfl) (pe_call (ok__law_take T) (hr.mono (by decide)) rfl (g__law_take T) (kp__law_take T) (B__law_take T) .nil pass0 (pa_cons (pv 0) (pa_cons pe_int pa_nil))))
      (pss_cons (ps_if (pt_cmpR op_eq (pv 1) pe_int (nomark _)) (pss_one (ps_ret (pe_op op_sub (pe_call (ok__law_take T) (hr.mono (by decide)) rfl (g__law_take T) (kp__law_take T) (B__law_take T) .nil pass0 (pa_cons (pv 0) (pa_cons pe_int pa_nil))) pe_int))) pss_nil)
      (pss_cons (ps_if (pt_cmpR op_eq (pv 1) pe_int (nomark _)) (pss_one (ps_ret (pe_op op_sub (pe_call (ok__law_take T) (hr.mono (by decide)) rfl (g__law_take T) (kp__law_take T) (B__law_take T) .nil pass0 (pa_cons (pv 0) (pa_cons (pe_op op_mulW pe_int (pe_op op_pow pe_int pe_int)) pa_nil))) (pe_op op_pow pe_int pe_int)))) pss_nil)
      (pss_cons (ps_set (i := 2) sc__law_number.nd rfl (Or.inl rfl) pe_int)
      (pss_cons (ps_for PassesOwn.never rfl (pi_range1 rfl (T.fr (T.c.fact 54 rfl)) (pa_cons pe_int pa_nil)) (pg_name (i := 3) sc__law_number.nd rfl (Or.inl rfl)) (pss_one (ps_set (i := 2) sc__law_number.nd rfl (Or.inl rfl) (pe_op op_add (pe_op op_mulW (pv 2) (pe_op op_pow pe_int pe_int)) (pe_call (ok__law_take T) (hr.mono (by decide)) rfl (g__law_take T) (kp__law_take T) (B__law_take T) .nil pass0 (pa_cons (pv 0) (pa_cons (pe_op op_pow pe_int pe_int) pa_nil)))))))
      (pss_one (ps_ret (pe_op op_mulW (pv 2) (pe_op op_sub (pe_op op_mulW pe_int (pe_call (ok__law_take T) (hr.mono (by decide)) rfl (g__law_take T) (kp__law_take T) (B__law_take T) .nil pass0 (pa_cons (pv 0) (pa_cons pe_int pa_nil)))) pe_int))))))))), ?_⟩)
  · obtain ⟨p, rfl, _⟩ := h; rfl
  · obtain ⟨p, rfl, hst, k⟩ := h
    walk_at "g"
    refine ⟨p, 4, rfl, by decide, by decide, hst, fun w H1 w0 w1 st1 s1 => ?_⟩
    walk_at "g"
    refine s_ite (fun _ => ?_) (fun _ => ?_)
    · walk_at "g"
      refine ⟨p, 21, rfl, by decide, by decide, st1, fun z H2 z0 z1 st2 s2 => ?_⟩
      walk_at "g"
      exact k _ H2 (by omega) st2 (s1.trans s2)
    walk_at "g"
    refine s_ite (fun _ => ?_) (fun _ => ?_)
    · walk_at "g"
      refine ⟨p, _, rfl, by decide, by decide, st1, fun z H2 z0 z1 st2 s2 => ?_⟩
      walk_at "g"
      exact k _ H2 (by omega) st2 (s1.trans s2)
    walk_at "g"
    refine mkR1 7 rfl (by decide) (by decide) ?_
    refine for_range (n := 7) (fun i σ H' => SameB p H H' ∧ StAt H' p ∧ ∃ (f : Int) (v : Option V), σ = [some (.ref p), some (.int w), some (.int f), v] ∧ 0 ≤ f ∧ f < 10 ^ (8 * i)) ⟨s1, st1, 0, none, rfl, by decide, by decide⟩ ?_ ?_
    · rintro i σ H' hi ⟨hs, st, f, v, rfl, f0, f1⟩
      have f2 : f < 10 ^ 56 := Int.lt_of_lt_of_le f1 (by
        have : i = 0 ∨ i = 1 ∨ i = 2 ∨ i = 3 ∨ i = 4 ∨ i = 5 ∨ i = 6 := by omega
        rcases this with rfl | rfl | rfl | rfl | rfl | rfl | rfl <;> decide)
      walk_at "g"
      refine ⟨p, _, rfl, by decide, by decide, st, fun z H2 z0 z1 st2 s2 => ?_⟩
      walk_at "g"
      refine ⟨hs.trans s2, st2, _, _, rfl, by omega, ?_⟩
      have e : (10 : Int) ^ (8 * (i + 1)) = 10 ^ (8 * i) * 10 ^ 8 := by rw [← Int.pow_add]; congr 1
      rw [e]
      generalize (10 : Int) ^ (8 * i) = M at f1 ⊢
      omega
    · rintro σ H' ⟨hs, st, f, v, rfl, f0, f1⟩
      have f2 : f < 10 ^ 56 := f1
      walk_at "g"
      refine ⟨p, 2, rfl, by decide, by decide, st, fun z H2 z0 z1 st2 s2 => ?_⟩
      walk_at "g"
      have e : z = 0 ∨ z = 1 := by omega
      refine k _ H2 ?_ st2 (hs.trans s2)
      rcases e with rfl | rfl <;> omega

/-- _law_power(n, a, e), e from 0 on -/
def sp__law_power : Sp := fun vs H Q _ => ∃ (n a : Int) (e : Nat), vs = [.int n, .int a, .int e] ∧ 0 < n ∧ n.natAbs < 2 ^ 900 ∧ Q (.int (M.pw n a e)) H
theorem ok__law_power (T : Txt K mg) : FnOk P w K mg base CX0 1 (He.ga K "_law_power") (fd__law_power T) ["_law_n", "_law_a", "_law_e"] sp__law_power := by
  refine (F__law_power T).ok sc__law_power (fun vs H Q E h => ?_) (fun cdv A outer s H vs Q E hr h => ⟨_, PSs.nox (pss_cons (ps_set (i := 3) sc__law_power.nd rfl (Or.inl rfl) (pe_op op_mod pe_int (pv 0)))
      (pss_cons (ps_set (i := 4) sc__law_power.nd rfl (Or.inl rfl) (pe_op op_mod (pv 1) (pv 0)))
      (pss_cons (ps_while PassesOwn.never (pt_cmpR op_gt (pv 2) pe_int (nomark _)) (pss_cons (ps_if (pt_cmpR op_eq (pe_op op_mod (pv 2) pe_int) pe_int (nomark _)) (pss_one (ps_set (i := 3) sc__law_power.nd rfl (Or.inl rfl) (pe_op op_mod (pe_op op_mulW (pv 3) (pv 4)) (pv 0)))) pss_nil)
      (pss_cons (ps_set (i := 4) sc__law_power.nd rfl (Or.inl rfl) (pe_op op_mod (pe_op op_mulW (pv 4) (pv 4)) (pv 0)))
      (pss_one (ps_set (i := 2) sc__law_power.nd rfl (Or.inl rfl) (pe_op op_fdivW (pv 2) pe_int))))))
      (pss_one (ps_ret (pv 3)))))), ?_⟩)
  · obtain ⟨n, a, e, rfl, _⟩ := h; rfl
  · obtain ⟨n, a, e, rfl, h0, hn, k⟩ := h
    walk_at "g"
    refine s_i (by omega) ?_
    walk_at "g"
    refine s_i (by omega) ?_
    walk_at "g"
    refine s_while (fun σ H' => H' = H ∧ ∃ (e' : Nat) (f b : Int), σ = [some (.int n), some (.int a), some (.int e'), some (.int f), some (.int b)] ∧ 0 ≤ f ∧ f < n ∧ 0 ≤ b ∧ b < n ∧ f * b ^ e' % n = M.pw n a e)
      (fun σ _ => (iv σ 2).natAbs) ⟨rfl, e, _, _, rfl, Int.emod_nonneg _ (by omega), Int.emod_lt_of_pos _ h0, Int.emod_nonneg _ (by omega), Int.emod_lt_of_pos _ h0, M.pw_one⟩ ?_
    rintro σ H' ⟨rfl, e', f, b, rfl, f0, f1, b0, b1, inv⟩
    have st := M.pw_turn inv
    walk_at "g"
    refine s_ite (fun c => ?_) (fun c => ?_)
    · have e2 : (e' : Int) / 2 = ((e' / 2 : Nat) : Int) := by omega
      walk_at "h"
      refine s_join (fun σ' H1 => H1 = H' ∧ ∃ f' : Int, σ' = [some (.int n), some (.int a), some (.int e'), some (.int f'), some (.int b)] ∧ 0 ≤ f' ∧ f' < n ∧ f' * (b * b % n) ^ (e' / 2) % n = M.pw n a e) ?_ fun N J => ?_
      · rintro σ' H1 ⟨rfl, f', rfl, f0', f1', inv'⟩
        walk_at "g"
        refine s_i (by omega) ?_
        walk_at "g"
        refine ⟨⟨rfl, e' / 2, f', _, ?_, f0', f1', Int.emod_nonneg _ (by omega), Int.emod_lt_of_pos _ h0, inv'⟩, ?_⟩
        · rw [e2]; rfl
        · show ((e' : Int) / 2).natAbs < (e' : Int).natAbs
          omega
      · walk_at "g"
        refine s_ite (fun c2 => ?_) (fun c2 => ?_)
        · walk_at "g"
          refine s_i (by omega) ?_
          walk_at "g"
          exact J _ _ ⟨rfl, _, rfl, Int.emod_nonneg _ (by omega), Int.emod_lt_of_pos _ h0, st.1 (by omega)⟩
        · walk_at "g"
          exact J _ _ ⟨rfl, _, rfl, f0, f1, st.2 (by omega)⟩
    · have z : e' = 0 := by omega
      subst z
      walk_at "g"
      rw [M.pw_end f0 f1 inv]
      exact k

/-- _law_parted(n): a new list of the primes of n and how often -/
def sp__law_parted : Sp := fun vs H Q _ => ∃ n : Nat, vs = [.int n] ∧ 0 < n ∧ n < 2 ^ 200 ∧ ∀ p H' xs l, M.IsFac n l → H p = none → Same H H' → H' p = some (.lst xs) → TupsIn H' xs (l.map fun x => [V.int (x.1 : Nat), V.int (x.2 : Nat)]) → Q (.ref p) H'
theorem fac_len {n : Nat} {l : List (Nat × Nat)} {m d : Nat} (h : M.Fac n l m d) (hn : n < 2 ^ 200) : l.length ≤ 200 := by
  have h1 : ∀ l : List (Nat × Nat), (∀ x ∈ l, M.Prime x.1 ∧ 0 < x.2) → 2 ^ l.length ≤ M.prodL l := fun l => by
    induction l with
    | nil => intro _; exact Nat.le_refl 1
    | cons x l ih =>
      intro hl
      have h1 := ih fun y hy => hl y (by simp [hy])
      have h2 := hl x (by simp)
      have h3 : 2 ≤ x.1 ^ x.2 := Nat.le_trans h2.1.1 (Nat.le_of_dvd (Nat.pow_pos h2.1.pos) (M.dvd_pow_self x.1 h2.2))
      rw [List.length_cons, Nat.pow_succ, Nat.mul_comm]
      exact Nat.mul_le_mul h3 h1
  have h2 := h1 l h.primes
  have h3 : M.prodL l ≤ n := by rw [← h.prod]; exact Nat.le_mul_of_pos_right _ h.npos
  rcases Nat.lt_or_ge 200 l.length with z | z
  · have := Nat.pow_le_pow_right (show 0 < 2 by decide) (Nat.le_of_lt z)
    omega
  · exact z
theorem fac_rest {n : Nat} {l : List (Nat × Nat)} {m d : Nat} (h : M.Fac n l m d) : m ≤ n := by
  rw [← h.prod]
  have : 0 < M.prodL l := Nat.pos_of_ne_zero fun z => by
    have h1 := h.prod
    rw [z, Nat.zero_mul] at h1
    have h2 : ∀ l : List (Nat × Nat), (∀ x ∈ l, M.Prime x.1 ∧ 0 < x.2) → 0 < M.prodL l := fun l => by
      induction l with
      | nil => intro _; decide
      | cons x l ih => intro hl; exact Nat.mul_pos (Nat.pow_pos (hl x (by simp)).1.pos) (ih fun y hy => hl y (by simp [hy]))
    have := h2 l h.primes
    omega
  exact Nat.le_mul_of_pos_left _ this
theorem ok__law_parted (T : Txt K mg) : FnOk P w K mg base CX0 1 (He.ga K "_law_parted") (fd__law_parted T) ["_law_n"] sp__law_parted := by
  refine (F__law_parted T).ok sc__law_parted (fun vs H Q E h => ?_) (fun cdv A outer s H vs Q E hr h => ⟨_, PSs.nox (pss_cons (ps_set (i := 1) sc__law_parted.nd rfl (Or.inl rfl) (pe_lst pa_nil))
      (pss_cons (ps_set (i := 2) sc__law_parted.nd rfl (Or.inl rfl) pe_int)
      (pss_cons (ps_while PassesOwn.never (pt_cmpR op_gt (pv 0) pe_int (nomark _)) (pss_cons (ps_if (pt_cmpR op_gt (pe_op op_mulW (pv 2) (pv 2)) (pv 0) (nomark _)) (pss_one (ps_set (i := 2) sc__law_parted.nd rfl (Or.inl rfl) (pv 0))) pss_nil)
      (pss_cons (ps_set (i := 3) sc__law_parted.nd rfl (Or.inl rfl) pe_int)
      (pss_cons (ps_while PassesOwn.never (pt_cmpR op_eq (pe_op op_mod (pv 0) (pv 2)) pe_int (nomark _)) (pss_cons (ps_set (i := 0) sc__law_parted.nd rfl (Or.inl rfl) (pe_op op_fdivW (pv 0) (pv 2)))
      (pss_one (ps_set (i := 3) sc__law_parted.nd rfl (Or.inl rfl) (pe_op op_add (pv 3) pe_int)))))
      (pss_cons (ps_if (pt_cmpR op_gt (pv 3) pe_int (nomark _)) (pss_one (ps_expr (pe_bm PySem.F.plainAttrs_list PySem.F.slot_list_append PySem.F.type_list_append mt_append (pv 1) (pa_cons (pe_tup (pa_cons (pv 2) (pa_cons (pv 3) pa_nil))) pa_nil)))) pss_nil)
      (pss_one (ps_set (i := 2) sc__law_parted.nd rfl (Or.inl rfl) (pe_op op_add (pe_op op_add (pv 2) pe_int) (pe_op op_mod (pv 2) pe_int)))))))))
      (pss_one (ps_ret (pv 1)))))), ?_⟩)
  · obtain ⟨n, rfl, _⟩ := h; rfl
  · obtain ⟨n0, rfl, h0, hn, k⟩ := h
    walk_at "g"
    refine mkL (by simp) fun p H1 np e1 s1 => ?_
    walk_at "g"
    refine s_while (fun σ H' => Same H H' ∧ ∃ (n d : Nat) (v : Option V) (xs : List V) (l : List (Nat × Nat)), σ = [some (.int n), some (.ref p), some (.int d), v] ∧ H' p = some (.lst xs) ∧ TupsIn H' xs (l.map fun x => [V.int (x.1 : Nat), V.int (x.2 : Nat)]) ∧ M.Fac n0 l n d)
      (fun σ _ => if (iv σ 0).toNat ≤ 1 then 0 else (iv σ 0).toNat + ((iv σ 0).toNat - (iv σ 2).toNat)) ⟨s1, n0, 2, none, [], [], rfl, e1, .nil, M.fac_start h0⟩ ?_
    rintro σ H' ⟨hs, n, d, v, xs, l, rfl, hp, ht, fac⟩
    have hxl : xs.length = l.length := by rw [ht.length, List.length_map]
    have hll := fac_len fac hn
    have hnl := fac_rest fac
    walk_at "g"
    refine s_ite (fun c => ?_) (fun c => ?_)
    · have hn1 : 1 < n := by omega
      have hdn := M.fac_le fac hn1
      have hd2 := fac.dtwo
      walk_at "h"
      refine s_join (fun σ' H2 => H2 = H' ∧ ∃ d' : Nat, (d' = n ∨ d' = d ∧ d * d ≤ n) ∧ σ' = [some (.int n), some (.ref p), some (.int d'), v] ∧ M.Fac n0 l n d') ?_ fun N J => ?_
      · rintro σ' H2 ⟨rfl, d', hd', rfl, fac'⟩
        have hd2' := fac'.dtwo
        have hdn' := M.fac_le fac' hn1
        walk_at "g"
        refine s_while (fun σ' H3 => H3 = H2 ∧ ∃ m k : Nat, σ' = [some (.int m), some (.ref p), some (.int d'), some (.int k)] ∧ n = d' ^ k * m ∧ 0 < m) (fun σ _ => (iv σ 0).toNat) ⟨rfl, n, 0, rfl, by simp, by omega⟩ ?_
        rintro σ' H3 ⟨rfl, m, j, rfl, em, m0⟩
        have hml : m ≤ n := by rw [em]; exact Nat.le_mul_of_pos_left _ (Nat.pow_pos (by omega))
        walk_at "g"
        refine s_i (by omega) ?_
        walk_at "g"
        refine s_ite (fun c2 => ?_) (fun c2 => ?_)
        · have hdm : d' ∣ m := Int.natCast_dvd_natCast.mp (Int.dvd_of_emod_eq_zero c2)
          obtain ⟨m', rfl⟩ := hdm
          have e3 : ((d' * m' : Nat) : Int) / (d' : Int) = (m' : Int) := by
            push_cast
            exact Int.mul_ediv_cancel_left _ (by omega)
          walk_at "g"
          refine s_i (divW (by omega) (by omega)) ?_
          walk_at "g"
          rw [e3]
          have m0' : 0 < m' := Nat.pos_of_ne_zero fun z => by rw [z] at m0; omega
          have : 2 * m' ≤ d' * m' := Nat.mul_le_mul_right m' hd2'
          refine ⟨⟨rfl, m', j + 1, rfl, by rw [em, Nat.pow_succ]; grind, m0'⟩, ?_⟩
          show (m' : Int).toNat < ((d' * m' : Nat) : Int).toNat
          omega
        · have hdm : ¬ d' ∣ m := fun z => c2 (Int.emod_eq_zero_of_dvd (Int.natCast_dvd_natCast.mpr z))
          have stp := M.fac_step fac' em hdm
          -- what the turn's end asks
          have fin : ∀ (H4 : Hp) (xs' : List V) (l' : List (Nat × Nat)) (d2 : Int), Same H H4 → H4 p = some (.lst xs') → TupsIn H4 xs' (l'.map fun x => [V.int (x.1 : Nat), V.int (x.2 : Nat)]) → M.Fac n0 l' m (d' + 1) → d2 = (d' : Int) + 1 + (d' : Int) % 2 →
              ((Same H H4 ∧ ∃ (n d : Nat) (v : Option V) (xs : List V) (l : List (Nat × Nat)), [some (.int m), some (.ref p), some (.int d2), some (.int j)] = [some (.int (n : Int)), some (.ref p), some (.int (d : Int)), v] ∧ H4 p = some (.lst xs) ∧ TupsIn H4 xs (l.map fun x => [V.int (x.1 : Nat), V.int (x.2 : Nat)]) ∧ M.Fac n0 l n d) ∧
                (if (m : Int).toNat ≤ 1 then 0 else (m : Int).toNat + ((m : Int).toNat - d2.toNat)) < (if (n : Int).toNat ≤ 1 then 0 else (n : Int).toNat + ((n : Int).toNat - (d : Int).toNat))) := by
            intro H4 xs' l' d2 s4 h4 t4 f4 e4
            have facN : M.Fac n0 l' m (d' + 1 + d' % 2) := by
              rcases Nat.mod_two_eq_zero_or_one d' with z | z
              · rw [z]; exact f4
              · rw [z]; exact M.fac_odd f4 (by omega) (by omega)
            refine ⟨⟨s4, m, d' + 1 + d' % 2, _, xs', l', by rw [e4]; push_cast; rfl, h4, t4, facN⟩, ?_⟩
            have ht1 : (m : Int).toNat = m := by omega
            have ht2 : (n : Int).toNat = n := by omega
            have ht3 : (d : Int).toNat = d := by omega
            rw [ht1, ht2, ht3, if_neg (show ¬ n ≤ 1 by omega)]
            by_cases hm1 : m ≤ 1
            · rw [if_pos hm1]; omega
            · rw [if_neg hm1]
              rcases Nat.eq_zero_or_pos j with z | z
              · subst z
                rw [Nat.pow_zero, Nat.one_mul] at em
                subst em
                have hd3 : d' ≠ n := fun z => hdm (by rw [z]; exact Nat.dvd_refl _)
                rcases hd' with z | ⟨z, z2⟩
                · exact absurd z hd3
                · subst z; omega
              · have h5 : d' ^ 1 ≤ d' ^ j := Nat.pow_le_pow_right (by omega) z
                rw [Nat.pow_one] at h5
                have h6 : 2 * m ≤ n := by rw [em]; exact Nat.mul_le_mul_right m (by omega)
                rcases hd' with z2 | ⟨z2, z3⟩
                · exfalso
                  subst z2
                  have h7 : d' * 2 ≤ d' ^ j * m := Nat.mul_le_mul h5 (by omega)
                  omega
                · subst z2
                  have h8 : d' * 2 ≤ d' * d' := Nat.mul_le_mul_left _ hd2'
                  omega
          walk_at "h"
          refine s_join (fun σ' H4 => Same H H4 ∧ ∃ (xs' : List V) (l' : List (Nat × Nat)), σ' = [some (.int m), some (.ref p), some (.int d'), some (.int j)] ∧ H4 p = some (.lst xs') ∧ TupsIn H4 xs' (l'.map fun x => [V.int (x.1 : Nat), V.int (x.2 : Nat)]) ∧ M.Fac n0 l' m (d' + 1)) ?_ fun N J => ?_
          · rintro σ' H4 ⟨s4, xs', l', rfl, h4, t4, f4⟩
            walk_at "g"
            exact fin H4 xs' l' _ s4 h4 t4 f4 rfl
          · walk_at "g"
            refine s_ite (fun c3 => ?_) (fun c3 => ?_)
            · rw [if_pos (by omega)] at stp
              walk_at "g"
              refine ⟨s_tyL hp, ?_⟩
              walk_at "g"
              refine mkT (by simp) fun t H4 nt et s4 => ?_
              walk_at "g"
              refine s_append (s4 _ _ hp) (small1000 (by omega)) ?_
              walk_at "g"
              refine J _ _ ⟨same_upd' (hs.trans s4) np, xs ++ [.ref t], l ++ [(d', j)], rfl, upd_same, ?_, stp⟩
              rw [List.map_append]
              exact TupsIn.app hp ht s4 nt et
            · rw [if_neg (by omega)] at stp
              walk_at "g"
              exact J _ _ ⟨hs, xs, l, rfl, hp, ht, stp⟩
      · walk_at "g"
        refine s_ite (fun c2 => ?_) (fun c2 => ?_)
        · walk_at "g"
          refine J _ _ ⟨rfl, n, .inl rfl, rfl, M.fac_jump fac hn1 ?_⟩
          have : ((d * d : Nat) : Int) > (n : Int) := by push_cast; omega
          omega
        · walk_at "g"
          refine J _ _ ⟨rfl, d, .inr ⟨rfl, ?_⟩, rfl, fac⟩
          have : ¬ (((d * d : Nat) : Int) > (n : Int)) := by push_cast; omega
          omega
    · walk_at "g"
      exact k p H' xs l (M.fac_end fac (by omega)) np hs hp ht

/-- the paper of a prime p at t, n deep at most -/
def PaperAt : Nat → Hp → Addr → Nat → Prop
  | 0, _, _, _ => False
  | n + 1, H, t, p => ∃ (f : Nat) (u : Addr) (xs : List V) (l : List (Nat × Nat)), H t = some (.tup [.int (p : Nat), .int (f : Nat), .ref u]) ∧ H u = some (.tup xs) ∧ M.Prime p ∧ M.LeastFull p f ∧ M.IsFac (p - 1) l ∧
    Paired (fun x r => ∃ a s, x = V.ref a ∧ H a = some (.tup [.ref s, .int (r.2 : Nat)]) ∧ PaperAt n H s r.1) xs l
theorem PaperAt.same : ∀ {n : Nat} {H H' : Hp} {t : Addr} {p : Nat}, PaperAt n H t p → Same H H' → PaperAt n H' t p
  | 0, _, _, _, _, h, _ => h.elim
  | n + 1, H, H', t, p, ⟨f, u, xs, l, e1, e2, hp, hf, hl, pr⟩, s => ⟨f, u, xs, l, s _ _ e1, s _ _ e2, hp, hf, hl, paired_mono (fun _ _ ⟨a, b, e, h1, h2⟩ => ⟨a, b, e, s _ _ h1, h2.same s⟩) pr⟩
theorem PaperAt.upd : ∀ {n : Nat} {H : Hp} {t D : Addr} {p : Nat} {zs : List V} {o : HO}, H D = some (.lst zs) → PaperAt n H t p → PaperAt n (L2.upd H D o) t p
  | 0, _, _, _, _, _, _, _, h => h.elim
  | n + 1, H, t, D, p, zs, o, hD, ⟨f, u, xs, l, e1, e2, hp, hf, hl, pr⟩ => by
    have fr : ∀ {r : List V} {b : Addr}, H b = some (.tup r) → L2.upd H D o b = some (.tup r) := fun {r b} e => by
      rw [upd_ne (fun z => by rw [z, hD] at e; cases e)]; exact e
    exact ⟨f, u, xs, l, fr e1, fr e2, hp, hf, hl, paired_mono (fun _ _ ⟨a, b, e, h1, h2⟩ => ⟨a, b, e, fr h1, h2.upd hD⟩) pr⟩
/-- what a reader of a paper needs -/
theorem PaperAt.open_ {n : Nat} {H : Hp} {t : Addr} {p : Nat} (h : PaperAt n H t p) : ∃ (m : Nat) (f : Nat) (u : Addr) (xs : List V) (l : List (Nat × Nat)), n = m + 1 ∧ H t = some (.tup [.int (p : Nat), .int (f : Nat), .ref u]) ∧ H u = some (.tup xs) ∧ M.Prime p ∧ M.LeastFull p f ∧ M.IsFac (p - 1) l ∧
    Paired (fun x r => ∃ a s, x = V.ref a ∧ H a = some (.tup [.ref s, .int (r.2 : Nat)]) ∧ PaperAt m H s r.1) xs l := by
  cases n with
  | zero => exact h.elim
  | succ m =>
    obtain ⟨f, u, xs, l, h⟩ := h
    exact ⟨m, f, u, xs, l, rfl, h⟩
def sp__law_paper (n : Nat) : Sp := fun vs H Q _ => ∃ p : Nat, vs = [.int p] ∧ M.Prime p ∧ p ≤ 2 ^ n ∧ p < 2 ^ 100 ∧ ∀ t H', PaperAt (n + 1) H' t p → Same H H' → Q (.ref t) H'
theorem ok_paperS (T : Txt K mg) {n : Nat} (IH : FnOk P w K mg base CX0 (n + 2) (He.ga K "_law_paper") (fd__law_paper T) ["_law_p"] (sp__law_paper n)) : FnOk P w K mg base CX0 (n + 3) (He.ga K "_law_paper") (fd__law_paper T) ["_law_p"] (sp__law_paper (n + 1)) := by
  refine (F__law_paper T).ok sc__law_paper (fun vs H Q E h => ?_) (fun cdv A outer s H vs Q E hr h => ⟨_, PSs.nox (pss_cons (ps_set (i := 1) sc__law_paper.nd rfl (Or.inl rfl) (pe_call (ok__law_parted T) (hr.mono (by omega)) rfl (g__law_parted T) (kp__law_parted T) (B__law_parted T) .nil pass0 (pa_cons (pe_op op_sub (pv 0) pe_int) pa_nil)))
      (pss_cons (ps_set (i := 2) sc__law_paper.nd rfl (Or.inr rfl) pe_int)
      (pss_cons (ps_while PassesOwn.never (pt_cmpR op_in_seq pe_int (pe_lc (own := [("_law_q", 3), ("_law_many", 4)]) (tt := tYes) (g := gTup K 2 (gCons (gName 3) (gCons (gName 4) gNil))) rfl sc__law_paper.nd (pi_list (pv 1)) (blkOk_by (N := N__law_paper) (sc := defScope s__law_paper) (by decide +kernel)) (fun _ _ _ _ _ => (pg_tup rfl (pgs_cons (pg_name (i := 3) sc__law_paper.nd rfl (Or.inl rfl)) (pgs_cons (pg_name (i := 4) sc__law_paper.nd rfl (Or.inl rfl)) pgs_nil)))) (fun _ _ _ _ _ => pts_nil) (fun _ _ _ _ _ => (pe_call (ok__law_power T) (hr.mono (by omega)) rfl (g__law_power T) (kp__law_power T) (B__law_power T) .nil pass0 (pa_cons (pv 0) (pa_cons (pv 2) (pa_cons (pe_op op_fdivW (pe_op op_sub (pv 0) pe_int) (pv 3)) pa_nil)))))) rfl) (pss_one (ps_set (i := 2) sc__law_paper.nd rfl (Or.inr rfl) (pe_op op_add (pv 2) pe_int))))
      (pss_one (ps_ret (pe_tup (pa_cons (pv 0) (pa_cons (pv 2) (pa_cons (pe_callTy callTup rfl (T.fr (T.c.fact 58 rfl)) boot_tuple (pa_cons (pe_lc (own := [("_law_q", 3), ("_law_many", 4)]) (tt := tYes) (g := gTup K 2 (gCons (gName 3) (gCons (gName 4) gNil))) rfl sc__law_paper.nd (pi_list (pv 1)) (blkOk_by (N := N__law_paper) (sc := defScope s__law_paper) (by decide +kernel)) (fun _ _ _ _ _ => (pg_tup rfl (pgs_cons (pg_name (i := 3) sc__law_paper.nd rfl (Or.inl rfl)) (pgs_cons (pg_name (i := 4) sc__law_paper.nd rfl (Or.inl rfl)) pgs_nil)))) (fun _ _ _ _ _ => pts_nil) (fun _ _ _ _ _ => (pe_tup (pa_cons (pe_call (IH) (hr.mono (by omega)) rfl (g__law_paper T) (kp__law_paper T) (B__law_paper T) .nil pass0 (pa_cons (pv 3) pa_nil)) (pa_cons (pv 4) pa_nil))))) pa_nil)) pa_nil))))))))), ?_⟩)
  · obtain ⟨p, rfl, _⟩ := h; rfl
  · obtain ⟨p, rfl, hp, hpn, hpb, k⟩ := h
    have hp2 := hp.1
    have e1 : (p : Int) - 1 = ((p - 1 : Nat) : Int) := by omega
    walk_at "g"
    refine ⟨p - 1, by rw [e1]; rfl, by omega, by omega, fun q H1 xs l hl nq s1 hq ht => ?_⟩
    have hxl : xs.length = l.length := by rw [ht.length, List.length_map]
    have hll : l.length ≤ 200 := by
      obtain ⟨d, hd⟩ := M.Fac.of hl (by omega)
      exact fac_len hd (by omega)
    obtain ⟨g, g0, g1, gf⟩ := M.full_small hp
    walk_at "g"
    refine s_while (fun σ H' => Same H1 H' ∧ ∃ (f : Nat) (v1 v2 : Option V), σ = [some (.int p), some (.ref q), some (.int f), v1, v2] ∧ 0 < f ∧ f ≤ g ∧ ∀ i : Nat, 0 < i → i < f → ¬M.Ord p (i : Int) (p - 1))
      (fun σ _ => g - (iv σ 2).toNat) ⟨Same.refl _, 1, none, none, rfl, by decide, by omega, fun i h1 h2 => by omega⟩ ?_
    rintro σ H' ⟨hs, f, v1, v2, rfl, f0, fg, hno⟩
    have hun : M.un p (f : Int) := M.un_small (by omega) (by omega)
    walk_at "g"
    refine ⟨_, rfl, q, rfl, ⟨_, SqL.of (hs _ _ hq)⟩, fun D hD => ?_⟩
    refine lc_list (fun i H2 => Same H' H2 ∧ H2 D = some (.lst ((l.take i).map fun x => V.int (M.pw p f ((p - 1) / x.1))))) ⟨same_upd hD, upd_same⟩ (fun i H2 _ I => SqL.of (I.1 _ _ (hs _ _ hq))) ?_ ?_
    · rintro i x H2 hi ⟨s2, hD2⟩
      have hil : i < xs.length := (List.getElem?_eq_some_iff.mp hi).1
      obtain ⟨y, hy, t, rfl, et⟩ := pget ht hi
      rw [List.getElem?_map] at hy
      obtain ⟨⟨a, b⟩, hab, rfl⟩ := Option.map_eq_some_iff.mp hy
      have ha := (hl.primes _ (List.mem_of_getElem? hab)).1.pos
      have hab2 := (hl.primes _ (List.mem_of_getElem? hab)).1
      have had := Nat.le_of_dvd (by omega) (M.fac_dvd hl (List.mem_of_getElem? hab))
      refine s_gtup (SqT.of (s2 _ _ (hs _ _ et))) rfl ?_
      walk_at "g"
      refine ⟨rfl, ?_⟩
      walk_at "g"
      refine s_i (divW (by show (0 : Int) < (a : Int); omega) (by show (a : Int).natAbs < _; omega)) ?_
      walk_at "g"
      have e2 : ((p : Int) - 1) / ((a : Nat) : Int) = (((p - 1) / a : Nat) : Int) := by rw [e1]; exact (Int.natCast_ediv _ _).symm
      refine ⟨p, f, (p - 1) / a, by rw [← e2]; rfl, by omega, by omega, ?_⟩
      refine ⟨_, hD2, small1000 (by rw [List.length_map, List.length_take]; omega), same_upd' s2 hD, ?_⟩
      rw [upd_same, take_more hab, List.map_append]; rfl
    · rintro H2 ⟨s2, hD2⟩
      rw [hxl, List.take_length] at hD2
      have hD3 : H2 D = some (.lst ((l.map fun x => M.pw p f ((p - 1) / x.1)).map V.int)) := by rw [hD2, List.map_map]; rfl
      refine s_inL hD3 ?_
      have fi := M.full_iff hp hun hl
      walk_at "g"
      refine s_ite (fun c => ?_) (fun c => ?_)
      · have nf : ¬M.Ord p (f : Int) (p - 1) := fun o => by
          obtain ⟨x, hx, e⟩ := List.mem_map.mp c
          exact (fi.mp o) x hx e
        have fl : f ≠ g := fun z => nf (by rw [z]; exact gf)
        walk_at "g"
        refine ⟨⟨hs.trans s2, f + 1, _, _, by push_cast; rfl, by omega, by omega, fun i h1 h2 => ?_⟩, ?_⟩
        · by_cases z : i = f
          · rw [z]; exact nf
          · exact hno i h1 (by omega)
        · show g - ((f : Int) + 1).toNat < g - (f : Int).toNat
          omega
      · have of : M.Ord p (f : Int) (p - 1) := fi.mpr fun x hx z => c (List.mem_map.mpr ⟨x, hx, z⟩)
        walk_at "g"
        have hs2 := hs.trans s2
        refine ⟨_, rfl, q, rfl, ⟨_, SqL.of (hs2 _ _ hq)⟩, fun D2 hD2' => ?_⟩
        refine lc_list (fun i H3 => Same H2 H3 ∧ ∃ ys : List V, H3 D2 = some (.lst ys) ∧ Paired (fun x r => ∃ a s, x = V.ref a ∧ H3 a = some (.tup [.ref s, .int (r.2 : Nat)]) ∧ PaperAt (n + 1) H3 s r.1) ys (l.take i)) ⟨same_upd hD2', [], upd_same, by rw [List.take_zero]; exact .nil⟩ (fun i H3 _ I => SqL.of (I.1 _ _ (hs2 _ _ hq))) ?_ ?_
        · rintro i x H3 hi ⟨s3, ys, hD3', pr⟩
          have hil : i < xs.length := (List.getElem?_eq_some_iff.mp hi).1
          obtain ⟨y, hy, t, rfl, et⟩ := pget ht hi
          rw [List.getElem?_map] at hy
          obtain ⟨⟨a, b⟩, hab, rfl⟩ := Option.map_eq_some_iff.mp hy
          have hpa := (hl.primes _ (List.mem_of_getElem? hab)).1
          have hda := M.fac_dvd hl (List.mem_of_getElem? hab)
          have had := Nat.le_of_dvd (by omega) hda
          have hyl : ys.length = i := by rw [pr.length, List.length_take]; omega
          refine s_gtup (SqT.of (s3 _ _ (hs2 _ _ et))) rfl ?_
          walk_at "g"
          refine ⟨rfl, ?_⟩
          walk_at "g"
          refine ⟨a, rfl, hpa, M.paper_prime hp hpa hda hpn, Nat.lt_of_le_of_lt had (by omega), fun s H4 pa s4 => ?_⟩
          walk_at "g"
          refine mkT (by simp) fun t2 H5 nt2 et2 s5 => ?_
          have s35 := s4.trans s5
          refine ⟨ys, s35 _ _ hD3', small1000 (by omega), same_upd' (s3.trans s35) hD2', ys ++ [.ref t2], upd_same, ?_⟩
          rw [take_more hab]
          have fr : ∀ {r : List V} {b : Addr}, H5 b = some (.tup r) → upd H5 D2 (.lst (ys ++ [.ref t2])) b = some (.tup r) := fun {r b} e => by
            rw [upd_ne (fun z => by rw [z, s35 _ _ hD3'] at e; cases e)]; exact e
          refine paired_snoc (paired_mono (fun x r ⟨a', s', e', h1, h2⟩ => ⟨a', s', e', fr (s35 _ _ h1), PaperAt.upd (s35 _ _ hD3') (h2.same s35)⟩) pr) ⟨t2, s, rfl, fr et2, PaperAt.upd (s35 _ _ hD3') (pa.same s5)⟩
        · rintro H3 ⟨s3, ys, hD3', pr⟩
          rw [hxl, List.take_length] at pr
          have hyl : ys.length = l.length := pr.length
          walk_at "g"
          refine s_tupL (SqL.of hD3') fun u nu => ?_
          have S4 : Same H3 (upd H3 u (.tup ys)) := same_upd nu
          have e4 : upd H3 u (.tup ys) u = some (.tup ys) := upd_same
          generalize upd H3 u (.tup ys) = H4 at S4 e4 ⊢
          walk_at "g"
          refine mkT (by simp) fun t H5 nt et s5 => ?_
          refine k t H5 ⟨f, u, ys, l, et, s5 _ _ e4, hp, ⟨f0, by omega, of, hno⟩, hl, paired_mono (fun x r ⟨a', s', e', h1, h2⟩ => ⟨a', s', e', s5 _ _ (S4 _ _ h1), (h2.same S4).same s5⟩) pr⟩ (s1.trans (hs2.trans (s3.trans (S4.trans s5))))
theorem paperN (T : Txt K mg) : ∀ n : Nat, FnOk P w K mg base CX0 (n + 2) (He.ga K "_law_paper") (fd__law_paper T) ["_law_p"] (sp__law_paper n)
  | 0 => ⟨fun vs H Q E ⟨p, e, hp, h, _⟩ => by have := hp.1; rw [Nat.pow_zero] at h; omega, fun _ _ _ _ _ _ vs _ _ _ _ _ _ ⟨p, e, hp, h, _⟩ => by have := hp.1; rw [Nat.pow_zero] at h; omega⟩
  | n + 1 => ok_paperS T (paperN T n)
theorem ok__law_paper (T : Txt K mg) : FnOk P w K mg base CX0 40 (He.ga K "_law_paper") (fd__law_paper T) ["_law_p"] (sp__law_paper 38) := paperN T 38

/-- a parting paper at u: for each prime its paper's place, the prime, how often -/
def PartsAt (m : Nat) (H : Hp) (u : Addr) (pl : List (Addr × Nat × Nat)) : Prop := ∃ xs, H u = some (.tup xs) ∧ Paired (fun x r => ∃ t, x = V.ref t ∧ H t = some (.tup [.ref r.1, .int (r.2.2 : Nat)]) ∧ PaperAt m H r.1 r.2.1) xs pl
def facs (pl : List (Addr × Nat × Nat)) : List (Nat × Nat) := pl.map fun r => r.2
theorem facs_len (pl : List (Addr × Nat × Nat)) : (facs pl).length = pl.length := List.length_map ..
theorem facs_get {pl : List (Addr × Nat × Nat)} {i : Nat} {s : Addr} {q b : Nat} (h : pl[i]? = some (s, q, b)) : (facs pl)[i]? = some (q, b) := by
  unfold facs; rw [List.getElem?_map, h]; rfl
theorem PartsAt.same {m : Nat} {H H' : Hp} {u : Addr} {pl : List (Addr × Nat × Nat)} (h : PartsAt m H u pl) (s : Same H H') : PartsAt m H' u pl := by
  obtain ⟨xs, e, pr⟩ := h
  exact ⟨xs, s _ _ e, paired_mono (fun _ _ ⟨t, e, h1, h2⟩ => ⟨t, e, s _ _ h1, h2.same s⟩) pr⟩
theorem pap_choose {n : Nat} {H : Hp} : ∀ {xs : List V} {l : List (Nat × Nat)}, Paired (fun x r => ∃ a s, x = V.ref a ∧ H a = some (.tup [.ref s, .int (r.2 : Nat)]) ∧ PaperAt n H s r.1) xs l →
    ∃ pl : List (Addr × Nat × Nat), facs pl = l ∧ Paired (fun x r => ∃ t, x = V.ref t ∧ H t = some (.tup [.ref r.1, .int (r.2.2 : Nat)]) ∧ PaperAt n H r.1 r.2.1) xs pl
  | _, _, .nil => ⟨[], rfl, .nil⟩
  | _, y :: _, .cons ⟨a, s, e, h1, h2⟩ r => by
    obtain ⟨pl, e2, pr⟩ := pap_choose r
    exact ⟨(s, y) :: pl, by unfold facs at e2 ⊢; rw [List.map_cons, e2], .cons ⟨a, e, h1, h2⟩ pr⟩
/-- a paper, opened -/
structure Pap (n : Nat) (H : Hp) (t : Addr) (p f : Nat) (u : Addr) (pl : List (Addr × Nat × Nat)) : Prop where
  at_ : H t = some (.tup [.int (p : Nat), .int (f : Nat), .ref u])
  hp : M.Prime p
  hf : M.LeastFull p f
  hl : M.IsFac (p - 1) (facs pl)
  ps : PartsAt n H u pl
theorem Pap.same {n : Nat} {H H' : Hp} {t : Addr} {p f : Nat} {u : Addr} {pl : List (Addr × Nat × Nat)} (h : Pap n H t p f u pl) (s : Same H H') : Pap n H' t p f u pl := ⟨s _ _ h.at_, h.hp, h.hf, h.hl, h.ps.same s⟩
theorem PaperAt.pap {n : Nat} {H : Hp} {t : Addr} {p : Nat} (h : PaperAt (n + 1) H t p) : ∃ f u pl, Pap n H t p f u pl := by
  obtain ⟨f, u, xs, l, e1, e2, hp, hf, hl, pr⟩ := h
  obtain ⟨pl, e3, pr'⟩ := pap_choose pr
  exact ⟨f, u, pl, e1, hp, hf, by rw [e3]; exact hl, xs, e2, pr'⟩
theorem Pap.paper {n : Nat} {H : Hp} {t : Addr} {p f : Nat} {u : Addr} {pl : List (Addr × Nat × Nat)} (h : Pap n H t p f u pl) : PaperAt (n + 1) H t p := by
  obtain ⟨xs, e2, pr⟩ := h.ps
  refine ⟨f, u, xs, facs pl, h.at_, e2, h.hp, h.hf, h.hl, ?_⟩
  have key : ∀ {xs : List V} {pl : List (Addr × Nat × Nat)}, Paired (fun x r => ∃ t, x = V.ref t ∧ H t = some (.tup [.ref r.1, .int (r.2.2 : Nat)]) ∧ PaperAt n H r.1 r.2.1) xs pl → Paired (fun x r => ∃ a s, x = V.ref a ∧ H a = some (.tup [.ref s, .int (r.2 : Nat)]) ∧ PaperAt n H s r.1) xs (facs pl) := by
    intro xs pl pr
    induction pr with
    | nil => exact .nil
    | cons f _ ih =>
      obtain ⟨t, e, h1, h2⟩ := f
      exact .cons ⟨t, _, e, h1, h2⟩ ih
  exact key pr
theorem paired_mem {α β : Type} {F : α → β → Prop} {xs : List α} {ys : List β} {y : β} (h : Paired F xs ys) (hy : y ∈ ys) : ∃ x, x ∈ xs ∧ F x y := by
  induction h with
  | nil => simp at hy
  | cons f _ ih =>
    rcases List.mem_cons.mp hy with z | z
    · subst z; exact ⟨_, by simp, f⟩
    · obtain ⟨x, h1, h2⟩ := ih z
      exact ⟨x, by simp [h1], h2⟩
theorem PartsAt.mem {m : Nat} {H : Hp} {u : Addr} {pl : List (Addr × Nat × Nat)} (h : PartsAt m H u pl) {r : Addr × Nat × Nat} (hr : r ∈ pl) : PaperAt m H r.1 r.2.1 := by
  obtain ⟨xs, e, pr⟩ := h
  obtain ⟨x, _, t, _, _, h2⟩ := paired_mem pr hr
  exact h2
/-- the first part of a paper is its prime -/
theorem PaperAt.first {n : Nat} {H : Hp} {t : Addr} {p : Nat} (h : PaperAt n H t p) : ∃ f u, H t = some (.tup [.int (p : Nat), .int (f : Nat), .ref u]) := by
  obtain ⟨m, f, u, xs, l, _, e1, _⟩ := h.open_
  exact ⟨f, u, e1⟩
theorem facs_mem {pl : List (Addr × Nat × Nat)} {r : Addr × Nat × Nat} (h : r ∈ pl) : r.2 ∈ facs pl := List.mem_map.mpr ⟨r, h, rfl⟩
theorem pl_len {E : Nat} {pl : List (Addr × Nat × Nat)} (h : M.IsFac E (facs pl)) (h0 : 0 < E) (h1 : E < 2 ^ 200) : pl.length ≤ 200 := by
  obtain ⟨d, hd⟩ := M.Fac.of h h0
  have := fac_len hd h1
  rwa [facs_len] at this
/-- the rows of an order paper -/
def dv (o : Nat) (r : Addr × Nat × Nat) : Bool := o % r.2.1 == 0
def ordRows (n : Nat) (a : Int) (o : Nat) (pl : List (Addr × Nat × Nat)) : List (List V) := (pl.filter (dv o)).map fun r => [V.ref r.1, V.int (M.vq r.2.1 o : Nat), V.int (M.pw n a (o / r.2.1))]
/-- the order paper of a by n at t, by the primes pl -/
def OrdAt (H : Hp) (t : Addr) (n : Nat) (a : Int) (o : Nat) (pl : List (Addr × Nat × Nat)) : Prop := ∃ w ys, H t = some (.tup [.int (o : Nat), .ref w]) ∧ H w = some (.tup ys) ∧ TupsIn H ys (ordRows n a o pl)
theorem OrdAt.same {H H' : Hp} {t : Addr} {n : Nat} {a : Int} {o : Nat} {pl : List (Addr × Nat × Nat)} (h : OrdAt H t n a o pl) (s : Same H H') : OrdAt H' t n a o pl := by
  obtain ⟨w, ys, h1, h2, h3⟩ := h
  exact ⟨w, ys, s _ _ h1, s _ _ h2, h3.same s⟩
theorem PaperAt.pap' {n : Nat} {H : Hp} {t : Addr} {p : Nat} (h : PaperAt n H t p) : ∃ m f u pl, n = m + 1 ∧ Pap m H t p f u pl := by
  cases n with
  | zero => exact h.elim
  | succ m =>
    obtain ⟨f, u, pl, e⟩ := h.pap
    exact ⟨m, f, u, pl, rfl, e⟩
theorem ord_no_one {p : Nat} {a : Int} {o : Nat} {pl : List (Addr × Nat × Nat)} (hp2 : 2 ≤ p) (ho : M.Ord p a o) (hq : ∀ r ∈ pl, 2 ≤ r.2.1) : (1 : Int) ∉ ((pl.filter (dv o)).map fun r => M.pw p a (o / r.2.1)) := fun h => by
  obtain ⟨r, hr, e⟩ := List.mem_map.mp h
  obtain ⟨h1, h2⟩ := List.mem_filter.mp hr
  have hd : o % r.2.1 = 0 := by unfold dv at h2; exact beq_iff_eq.mp h2
  have hq2 := hq r h1
  have o0 := ho.pos
  have h3 : r.2.1 ≤ o := Nat.le_of_dvd o0 (Nat.dvd_of_mod_eq_zero hd)
  have h4 := ho.least _ (Nat.div_pos h3 (by omega)) ((M.pw_one_iff hp2).mp e)
  have h5 := Nat.div_lt_self o0 (show 1 < r.2.1 by omega)
  omega

/-- _law_is_prime(n): whether it is a prime -/
def sp__law_is_prime : Sp := fun vs H Q _ => ∃ n : Nat, vs = [.int n] ∧ n < 2 ^ 200 ∧ ∀ b : Bool, (b = true ↔ M.Prime n) → Q (.bl b) H
theorem ok__law_is_prime (T : Txt K mg) : FnOk P w K mg base CX0 1 (He.ga K "_law_is_prime") (fd__law_is_prime T) ["_law_n"] sp__law_is_prime := by
  refine (F__law_is_prime T).ok sc__law_is_prime (fun vs H Q E h => ?_) (fun cdv A outer s H vs Q E hr h => ⟨_, PSs.nox (pss_cons (ps_if (pt_cmpR op_eq (pe_op op_mod (pv 0) pe_int) pe_int (nomark _)) (pss_one (ps_ret (pe_cmpR op_eq (pv 0) pe_int (nomark _)))) pss_nil)
      (pss_cons (ps_set (i := 1) sc__law_is_prime.nd rfl (Or.inl rfl) pe_int)
      (pss_cons (ps_while PassesOwn.never (pt_cmpR op_le (pe_op op_mulW (pv 1) (pv 1)) (pv 0) (nomark _)) (pss_cons (ps_if (pt_cmpR op_eq (pe_op op_mod (pv 0) (pv 1)) pe_int (nomark _)) (pss_one (ps_ret pe_bl)) pss_nil)
      (pss_one (ps_set (i := 1) sc__law_is_prime.nd rfl (Or.inl rfl) (pe_op op_add (pv 1) pe_int)))))
      (pss_one (ps_ret (pe_cmpR op_gt (pv 0) pe_int (nomark _))))))), ?_⟩)
  · obtain ⟨n, rfl, _⟩ := h; rfl
  · obtain ⟨n, rfl, hn, k⟩ := h
    walk_at "g"
    refine s_ite (fun c => ?_) (fun c => ?_)
    · walk_at "g"
      refine k _ ?_
      rw [decide_eq_true_iff]
      constructor
      · intro e
        have : n = 2 := by omega
        rw [this]
        exact M.prime_of_no (by decide) fun d h1 h2 => by have := Nat.mul_le_mul h1 h1; omega
      · intro hp
        have h2 : 2 ∣ n := Nat.dvd_of_mod_eq_zero (by omega)
        rcases hp.2 2 h2 with z | z <;> omega
    · walk_at "g"
      refine s_while (fun σ H' => H' = H ∧ ∃ d : Nat, σ = [some (.int n), some (.int d)] ∧ 3 ≤ d ∧ d ≤ n + 3 ∧ d % 2 = 1 ∧ ∀ e, 2 ≤ e → e < d → e % 2 = 1 → ¬ e ∣ n) (fun σ _ => n + 3 - (iv σ 1).toNat) ⟨rfl, 3, rfl, by decide, by omega, by decide, fun e h1 h2 h3 => by omega⟩ ?_
      rintro σ H' ⟨rfl, d, rfl, d3, d9, d1, no⟩
      have hbig : d < 2 ^ 300 := by have : (2:Nat)^200 + 3 < 2^300 := by decide
                                    omega
      have odd : ∀ e, e ∣ n → e % 2 = 1 := fun e he => by
        rcases Nat.mod_two_eq_zero_or_one e with z | z
        · have := Nat.dvd_trans (Nat.dvd_of_mod_eq_zero z) he
          have := Nat.mod_eq_zero_of_dvd this
          omega
        · exact z
      walk_at "g"
      refine s_ite (fun c2 => ?_) (fun c2 => ?_)
      · have hdd : d * d ≤ n := by
          have : ((d * d : Nat) : Int) ≤ n := by push_cast; exact c2
          omega
        have hdn : d * 3 ≤ d * d := Nat.mul_le_mul_left d d3
        walk_at "g"
        refine s_i (by omega) ?_
        walk_at "g"
        refine s_ite (fun c3 => ?_) (fun c3 => ?_)
        · walk_at "g"
          refine k false ⟨fun z => (nomatch z), fun hp => ?_⟩
          have hd : d ∣ n := Int.natCast_dvd_natCast.mp (Int.dvd_of_emod_eq_zero c3)
          rcases hp.2 d hd with z | z <;> omega
        · walk_at "g"
          refine ⟨⟨rfl, d + 2, by push_cast; rfl, by omega, by omega, by omega, fun e h1 h2 h3 => ?_⟩, ?_⟩
          · by_cases z : e = d
            · rw [z]; exact fun hd => c3 (Int.emod_eq_zero_of_dvd (Int.natCast_dvd_natCast.mpr hd))
            · exact no e h1 (by omega) h3
          · show n + 3 - ((d : Int) + 2).toNat < n + 3 - (d : Int).toNat
            omega
      · walk_at "g"
        refine k _ ?_
        rw [decide_eq_true_iff]
        constructor
        · intro h1
          refine M.prime_of_no (by omega) fun e e1 e2 e3 => ?_
          have : e < d := by
            rcases Nat.lt_or_ge e d with z | z
            · exact z
            · have h5 := Nat.mul_le_mul z z
              have : ((d * d : Nat) : Int) ≤ n := by omega
              push_cast at this
              exact absurd this c2
          exact no e e1 this (odd e e3) e3
        · intro hp; have := hp.1; omega

/-- _law_common of two numbers from 0 on: their greatest divisor -/
def sp__law_common : Sp := fun vs H Q _ => ∃ a b : Nat, vs = [.int a, .int b] ∧ Q (.int (Nat.gcd a b)) H
theorem ok__law_common (T : Txt K mg) : FnOk P w K mg base CX0 1 (He.ga K "_law_common") (fd__law_common T) ["_law_one", "_law_other"] sp__law_common := by
  refine (F__law_common T).ok sc__law_common (fun vs H Q E h => ?_) (fun cdv A outer s H vs Q E hr h => ⟨_, PSs.nox (pss_cons (ps_while PassesOwn.never (pt_cmpR op_ne (pv 1) pe_int (nomark _)) (pss_one (ps_par (i := 0) (j := 1) rfl sc__law_common.nd rfl rfl (by decide) rfl rfl (pa_cons (pv 1) (pa_cons (pe_op op_mod (pv 0) (pv 1)) pa_nil)) rfl)))
      (pss_one (ps_ret (pv 0)))), ?_⟩)
  · obtain ⟨a, b, rfl, _⟩ := h; rfl
  · obtain ⟨a, b, rfl, k⟩ := h
    walk_at "g"
    refine s_while (fun σ H' => H' = H ∧ ∃ c d : Nat, σ = [some (.int c), some (.int d)] ∧ Nat.gcd c d = Nat.gcd a b) (fun σ _ => (iv σ 1).natAbs) ⟨rfl, a, b, rfl, rfl⟩ ?_
    rintro σ H' ⟨rfl, c, d, rfl, e⟩
    walk_at "g"
    refine s_iten (fun hd => ?_) (fun hd => ?_)
    · walk_at "g"
      refine s_i (by omega) ?_
      walk_at "g"
      have dp : 0 < d := by omega
      have ml := Nat.mod_lt c dp
      refine ⟨⟨rfl, d, c % d, rfl, ?_⟩, ?_⟩
      · rw [Nat.gcd_comm, ← Nat.gcd_rec, Nat.gcd_comm]; exact e
      · show ((c : Int) % d).natAbs < (d : Int).natAbs
        omega
    · have z : d = 0 := by omega
      subst z
      walk_at "g"
      rw [Nat.gcd_zero_right] at e
      rw [e]
      exact k

/-- numbers, each with how often, as the entries of a dict -/
def pKv (L : List (Nat × Nat)) : List (Key × V) := L.map fun x => ((.inl (x.1 : Int) : Key), V.int (x.2 : Nat))
def cur : List (Nat × Nat) → Nat → Nat
  | [], _ => 0
  | x :: L, q => if x.1 = q then x.2 else cur L q
theorem key_ne {a b : Nat} (h : a ≠ b) : ¬ ((Sum.inl (a : Int) : Key) = Sum.inl (b : Int)) := fun z => h (by
  have := Sum.inl.inj z
  omega)
theorem pk_get (q : Nat) : ∀ L : List (Nat × Nat), (valV (pKv L) (.inl (q : Int))).getD (.int 0) = V.int (cur L q : Nat)
  | [] => rfl
  | x :: L => by
    have ih := pk_get q L
    unfold pKv valV at ih ⊢
    rw [List.map_cons, List.find?_cons]
    unfold cur
    by_cases c : x.1 = q
    · rw [if_pos c]
      simp [c]
    · rw [if_neg c]
      have h1 : decide ((Sum.inl (x.1 : Int) : Key) = Sum.inl (q : Int)) = false := decide_eq_false (key_ne c)
      simp only [h1]
      exact ih
theorem pk_val {L : List (Nat × Nat)} {q b : Nat} (nd : (L.map (·.1)).Nodup) (h : (q, b) ∈ L) : valV (pKv L) (.inl (q : Int)) = some (.int (b : Nat)) ∧ cur L q = b := by
  induction L with
  | nil => cases h
  | cons x L ih =>
    have nd' := List.nodup_cons.mp (by rw [List.map_cons] at nd; exact nd)
    unfold pKv valV cur
    rw [List.map_cons, List.find?_cons]
    rcases List.mem_cons.mp h with e | e
    · subst e
      simp
    · have hne : x.1 ≠ q := fun z => nd'.1 (List.mem_map.mpr ⟨_, e, z.symm⟩)
      have h1 : decide ((Sum.inl (x.1 : Int) : Key) = Sum.inl (q : Int)) = false := decide_eq_false (key_ne hne)
      simp only [h1]
      rw [if_neg hne]
      exact ih nd'.2 e
theorem cur_none {L : List (Nat × Nat)} {q : Nat} (h : q ∉ L.map (·.1)) : cur L q = 0 := by
  induction L with
  | nil => rfl
  | cons x L ih =>
    rw [List.map_cons, List.mem_cons] at h
    unfold cur
    rw [if_neg fun z => h (.inl z.symm)]
    exact ih fun z => h (.inr z)
theorem pk_none {L : List (Nat × Nat)} {q : Nat} (h : q ∉ L.map (·.1)) : valV (pKv L) (.inl (q : Int)) = none := by
  unfold valV pKv
  rw [Option.map_eq_none_iff, List.find?_eq_none]
  intro kv hkv
  obtain ⟨x, hx, rfl⟩ := List.mem_map.mp hkv
  intro e
  have e1 : (Sum.inl (x.1 : Int) : Key) = Sum.inl (q : Int) := of_decide_eq_true e
  have e2 := Sum.inl.inj e1
  exact h (List.mem_map.mpr ⟨x, hx, by omega⟩)
/-- the list behind a put -/
def pkPut (L : List (Nat × Nat)) (q m : Nat) : List (Nat × Nat) := if q ∈ L.map (·.1) then L.map fun x => if x.1 = q then (q, m) else x else L ++ [(q, m)]
theorem pk_put {L : List (Nat × Nat)} (q m : Nat) : putK (pKv L) (.inl (q : Int)) (.int (m : Nat)) = pKv (pkPut L q m) := by
  unfold pkPut
  by_cases c : q ∈ L.map (·.1)
  · rw [if_pos c]
    obtain ⟨y, hy, rfl⟩ := List.mem_map.mp c
    unfold putK
    rw [if_pos (by
      rw [List.any_eq_true]
      exact ⟨_, List.mem_map.mpr ⟨y, hy, rfl⟩, by simp⟩)]
    unfold pKv
    rw [List.map_map, List.map_map]
    refine List.map_congr_left fun k hk => ?_
    by_cases d : k.1 = y.1
    · simp [d]
    · simp only [Function.comp, if_neg d, if_neg (key_ne d)]
  · rw [if_neg c, putK_new _ (pk_none c)]
    unfold pKv
    rw [List.map_append]; rfl
theorem pk_keys {L : List (Nat × Nat)} {q m : Nat} (c : q ∈ L.map (·.1)) : (L.map fun x => if x.1 = q then (q, m) else x).map (·.1) = L.map (·.1) := by
  rw [List.map_map]
  refine List.map_congr_left fun x _ => ?_
  show (if x.1 = q then (q, m) else x).1 = x.1
  split
  · rename_i h; exact h.symm
  · rfl
theorem pk_nd {L : List (Nat × Nat)} (q m : Nat) (nd : (L.map (·.1)).Nodup) : ((pkPut L q m).map (·.1)).Nodup := by
  unfold pkPut
  by_cases c : q ∈ L.map (·.1)
  · rw [if_pos c, pk_keys c]; exact nd
  · rw [if_neg c, List.map_append]
    exact List.nodup_append.mpr ⟨nd, List.pairwise_singleton _ _, fun a ha b hb => by rw [List.mem_singleton.mp hb]; exact fun z => c (by rw [← show a = q from z]; exact ha)⟩
theorem pk_mem {L : List (Nat × Nat)} {q m : Nat} {x : Nat × Nat} (h : x ∈ pkPut L q m) : x = (q, m) ∨ x ∈ L ∧ x.1 ≠ q := by
  unfold pkPut at h
  by_cases c : q ∈ L.map (·.1)
  · rw [if_pos c] at h
    obtain ⟨y, hy, rfl⟩ := List.mem_map.mp h
    by_cases d : y.1 = q
    · rw [if_pos d]; exact .inl rfl
    · rw [if_neg d]; exact .inr ⟨hy, d⟩
  · rw [if_neg c] at h
    rcases List.mem_append.mp h with z | z
    · exact .inr ⟨z, fun e => c (List.mem_map.mpr ⟨x, z, e⟩)⟩
    · exact .inl (List.mem_singleton.mp z)
theorem pk_has {L : List (Nat × Nat)} (q m : Nat) : (q, m) ∈ pkPut L q m := by
  unfold pkPut
  by_cases c : q ∈ L.map (·.1)
  · rw [if_pos c]
    obtain ⟨y, hy, e⟩ := List.mem_map.mp c
    exact List.mem_map.mpr ⟨y, hy, by rw [if_pos e]⟩
  · rw [if_neg c]; simp
theorem pk_old {L : List (Nat × Nat)} {q m : Nat} {x : Nat × Nat} (h : x ∈ L) (hx : x.1 ≠ q) : x ∈ pkPut L q m := by
  unfold pkPut
  by_cases c : q ∈ L.map (·.1)
  · rw [if_pos c]
    exact List.mem_map.mpr ⟨x, h, by rw [if_neg hx]⟩
  · rw [if_neg c]; simp [h]
theorem pk_len {L : List (Nat × Nat)} (q m : Nat) : (pkPut L q m).length ≤ L.length + 1 := by
  unfold pkPut
  split
  · rw [List.length_map]; omega
  · rw [List.length_append]; simp
theorem pk_prod {L : List (Nat × Nat)} {q t : Nat} (nd : (L.map (·.1)).Nodup) : M.prodL (pkPut L q (cur L q + t)) = M.prodL L * q ^ t := by
  unfold pkPut
  by_cases c : q ∈ L.map (·.1)
  · rw [if_pos c]
    induction L with
    | nil => cases c
    | cons x L ih =>
      have nd' := List.nodup_cons.mp (by rw [List.map_cons] at nd; exact nd)
      rw [List.map_cons]
      unfold cur
      by_cases d : x.1 = q
      · rw [if_pos d, if_pos d]
        have hno : q ∉ L.map (·.1) := by rw [← d]; exact nd'.1
        have e : (L.map fun y => if y.1 = q then (q, x.2 + t) else y) = L := (List.map_congr_left fun y hy => by rw [if_neg fun z => hno (List.mem_map.mpr ⟨y, hy, z⟩)]; rfl).trans (List.map_id _)
        rw [e]
        simp only [M.prodL]
        rw [d, Nat.pow_add]
        grind
      · rw [if_neg d, if_neg d]
        rw [List.map_cons, List.mem_cons] at c
        have ih' := ih nd'.2 (c.resolve_left fun z => d z.symm)
        simp only [M.prodL]
        rw [ih', Nat.mul_assoc]
  · rw [if_neg c, cur_none c, M.prodL_app]
    simp [M.prodL]
theorem pk_merge : ∀ (B A : List (Nat × Nat)), ((A ++ B).map (·.1)).Nodup → mergeK (pKv A) (pKv B) = pKv (A ++ B)
  | [], A, _ => by rw [List.append_nil]; rfl
  | x :: B, A, nd => by
    have hx : x.1 ∉ A.map (·.1) := fun z => by
      rw [List.map_append, List.map_cons] at nd
      exact (List.nodup_append.mp nd).2.2 x.1 z x.1 (by simp) rfl
    have e1 : mergeK (pKv A) (pKv (x :: B)) = mergeK (putK (pKv A) (.inl (x.1 : Int)) (.int (x.2 : Nat))) (pKv B) := rfl
    rw [e1, putK_new _ (pk_none hx)]
    have e2 : pKv A ++ [((.inl (x.1 : Int) : Key), V.int (x.2 : Nat))] = pKv (A ++ [x]) := by unfold pKv; rw [List.map_append]; rfl
    rw [e2, pk_merge B (A ++ [x]) (by rw [List.append_assoc]; exact nd), List.append_assoc]; rfl
theorem pk_sort {L : List (Nat × Nat)} {qs : List Nat} (nd : (L.map (·.1)).Nodup) (pm : qs.Perm (L.map (·.1))) : (qs.map fun q => (q, cur L q)).Perm L := by
  have h1 : L.map (fun x => (x.1, cur L x.1)) = L := (List.map_congr_left fun x hx => by rw [(pk_val nd (q := x.1) (b := x.2) hx).2]; rfl).trans (List.map_id _)
  have h2 := pm.map fun q => (q, cur L q)
  rw [List.map_map] at h2
  have h3 : L.map ((fun q => (q, cur L q)) ∘ fun x => x.1) = L.map (fun x => (x.1, cur L x.1)) := rfl
  rw [h3, h1] at h2
  exact h2

/-- numbers, each with a truth, as the entries of a dict -/
def trKv (L : List Nat) : List (Key × V) := L.map fun d : Nat => ((.inl (d : Int) : Key), V.bl true)
theorem tr_put {L : List Nat} (o : Nat) (nd : L.Nodup) : ∃ L' : List Nat, putK (trKv L) (.inl (o : Int)) (.bl true) = trKv L' ∧ L'.Nodup ∧ (∀ z, z ∈ L' ↔ z ∈ L ∨ z = o) ∧ L'.length ≤ L.length + 1 := by
  by_cases c : o ∈ L
  · refine ⟨L, ?_, nd, fun z => ⟨.inl, fun h => h.elim id fun e => e ▸ c⟩, by omega⟩
    unfold putK
    rw [if_pos (by
      rw [List.any_eq_true]
      exact ⟨_, List.mem_map.mpr ⟨o, c, rfl⟩, by simp⟩)]
    unfold trKv
    rw [List.map_map]
    refine List.map_congr_left fun k hk => ?_
    show (if (Sum.inl (k : Int) : Key) = Sum.inl (o : Int) then ((Sum.inl (k : Int) : Key), V.bl true) else ((Sum.inl (k : Int) : Key), V.bl true)) = _
    split <;> rfl
  · refine ⟨L ++ [o], ?_, ?_, fun z => by rw [List.mem_append, List.mem_singleton], by rw [List.length_append]; simp⟩
    · have hv : valV (trKv L) (.inl (o : Int)) = none := by
        unfold valV trKv
        rw [Option.map_eq_none_iff, List.find?_eq_none]
        intro kv hkv
        obtain ⟨x, hx, rfl⟩ := List.mem_map.mp hkv
        intro e
        have e1 : (Sum.inl (x : Int) : Key) = Sum.inl (o : Int) := of_decide_eq_true e
        have e2 := Sum.inl.inj e1
        exact c (by rw [show o = x by omega]; exact hx)
      rw [putK_new _ hv]
      unfold trKv
      rw [List.map_append]; rfl
    · exact List.nodup_append.mpr ⟨nd, List.pairwise_singleton _ _, fun a ha b hb => by rw [List.mem_singleton.mp hb]; exact fun z => c (by rw [← z]; exact ha)⟩
theorem mkDN {σ : L2.St} {H : Hp} {Q : VK} (h : ∀ p H', H p = none → H' p = some (.dK []) → Same H H' → Q (.ref p) H') : tDNewK σ H Q := fun p hp => h p _ hp upd_same (same_upd hp)

/-- the powers of w below q, each with its place -/
def plL (p : Nat) (w : Int) (q : Nat) : List (Nat × Nat) := (List.range q).map fun j => ((M.pw p w j).toNat, j)
theorem pl_nd {p q N : Nat} {w : Int} (hp : M.Prime p) (o : M.Ord p w N) (hq : q ≤ N) : ((plL p w q).map (·.1)).Nodup := by
  have hp2 := hp.1
  unfold plL
  rw [List.map_map]
  refine List.pairwise_map.mpr (List.Pairwise.imp_of_mem ?_ List.pairwise_lt_range)
  intro i j hi hj hij e
  have h1 := List.mem_range.mp hj
  have r1 := M.pw_range (n := (p : Int)) (by omega) w i
  have r2 := M.pw_range (n := (p : Int)) (by omega) w j
  have e2 : M.pw p w i = M.pw p w j := by
    have e : (M.pw p w i).toNat = (M.pw p w j).toNat := e
    omega
  exact M.pow_apart hp o hij (by omega) (M.al_of_emod e2.symm)
theorem pl_mem {p q j : Nat} {w : Int} (h : j < q) : ((M.pw p w j).toNat, j) ∈ plL p w q := List.mem_map.mpr ⟨j, List.mem_range.mpr h, rfl⟩
theorem pl_more (p k : Nat) (w : Int) : plL p w (k + 1) = plL p w k ++ [((M.pw p w k).toNat, k)] := by unfold plL; rw [List.range_succ, List.map_append]; rfl
theorem plL_len (p k : Nat) (w : Int) : (plL p w k).length = k := by unfold plL; rw [List.length_map, List.length_range]
theorem pl_look {p q j N : Nat} {w : Int} (hp : M.Prime p) (o : M.Ord p w N) (hq : q ≤ N) (h : j < q) : valV (pKv (plL p w q)) (.inl (M.pw p w j)) = some (.int (j : Nat)) := by
  have hp2 := hp.1
  have r1 := M.pw_range (n := (p : Int)) (by omega) w j
  have e : M.pw p w j = ((M.pw p w j).toNat : Int) := by omega
  rw [e]
  exact (pk_val (pl_nd hp o hq) (pl_mem h)).1
/-- places_by(p, w, q): a new dict of the powers of w, each with its place -/
def sp_places_by : Sp := fun vs H Q _ => ∃ (p q N : Nat) (w : Int), vs = [.int p, .int w, .int q] ∧ M.Prime p ∧ p < 2 ^ 200 ∧ w.natAbs < 2 ^ 400 ∧ M.Ord p w N ∧ q ≤ N ∧ q ≤ 1000000 ∧ ∀ D H', H D = none → Same H H' → H' D = some (.dK (pKv (plL p w q))) → Q (.ref D) H'
theorem ok_places_by (T : Txt K mg) : FnOk P w K mg base CX0 1 (He.ga K "places_by") (fd_places_by T) ["p", "w", "q"] sp_places_by := by
  refine (F_places_by T).ok sc_places_by (fun vs H Q E h => ?_) (fun cdv A outer s H vs Q E hr h => ⟨_, PSs.nox (pss_cons (ps_set (i := 3) sc_places_by.nd rfl (Or.inl rfl) pe_dnewK)
      (pss_cons (ps_set (i := 4) sc_places_by.nd rfl (Or.inl rfl) pe_int)
      (pss_cons (ps_for PassesOwn.never rfl (pi_range1 rfl (T.fr (T.c.fact 54 rfl)) (pa_cons (pv 2) pa_nil)) (pg_name (i := 5) sc_places_by.nd rfl (Or.inl rfl)) (pss_cons (ps_dput (hu_of hr) (pv 3) (pv 4) (pv 5) rfl)
      (pss_one (ps_set (i := 4) sc_places_by.nd rfl (Or.inl rfl) (pe_op op_mod (pe_op op_mulW (pv 4) (pv 1)) (pv 0))))))
      (pss_one (ps_ret (pv 3)))))), ?_⟩)
  · obtain ⟨p, q, N, w, rfl, _⟩ := h; rfl
  · obtain ⟨p, q, N, w, rfl, hp, hpb, hw, ho, hqN, hq, k⟩ := h
    have hp2 := hp.1
    walk_at "g"
    refine mkDN fun D H1 nD eD s1 => ?_
    walk_at "g"
    refine mkR1 q (by omega) (by omega) (by omega) ?_
    refine for_range (n := q) (fun i σ H' => Same H H' ∧ H' D = some (.dK (pKv (plL p w i))) ∧ ∃ (h : Int) (v : Option V), σ = [some (.int p), some (.int w), some (.int q), some (.ref D), some (.int h), v] ∧ 0 ≤ h ∧ h < p ∧ (i = 0 → h = 1) ∧ h = M.pw p w i) ⟨s1, eD, 1, none, rfl, by decide, by omega, fun _ => rfl, by unfold M.pw; rw [Int.pow_zero, Int.emod_eq_of_lt (by decide) (by omega)]⟩ ?_ ?_
    · rintro i σ H' hi ⟨s2, e2, h, v, rfl, h0, h1, _, eh⟩
      have hln := plL_len p i w
      walk_at "g"
      refine s_dputI e2 (line2 (by unfold pKv; rw [List.length_map, hln]; omega)) ?_
      walk_at "g"
      try refine s_i (mulW (by omega) (by omega)) ?_
      walk_at "g"
      refine s_i (by omega) ?_
      walk_at "g"
      refine ⟨same_upd' s2 nD, ?_, _, _, rfl, Int.emod_nonneg _ (by omega), Int.emod_lt_of_pos _ (by omega), fun z => by omega, ?_⟩
      · rw [upd_same]
        have ee : h = (h.toNat : Int) := by omega
        rw [pl_more, ← eh]
        have hno : h.toNat ∉ (plL p w i).map (·.1) := fun z => by
          have nd := pl_nd (q := i + 1) hp ho (by omega)
          rw [pl_more, List.map_append] at nd
          exact (List.nodup_append.mp nd).2.2 _ z _ (by rw [← eh]; simp) rfl
        have hp1 := pk_put (L := plL p w i) h.toNat i
        unfold pkPut at hp1
        rw [if_neg hno, ← ee] at hp1
        rw [Int.zero_add, hp1]
      · rw [eh]; exact M.pw_mul p w i
    · rintro σ H' ⟨s2, e2, h, v, rfl, _⟩
      walk_at "g"
      exact k D H' nD s2 e2

/-- place_of(p, w, c, q, many): which power of w a power of it is -/
def sp_place_of (K : PySem.W.Frag) : Sp := fun vs H Q _ => ∃ (p q m P : Nat) (w c : Int), vs = [.int p, .int w, .int c, .int q, .int m] ∧ M.Prime p ∧ p < 2 ^ 100 ∧ w.natAbs < 2 ^ 200 ∧ c.natAbs < 2 ^ 200 ∧ 2 ≤ q ∧ q ≤ 1000000 ∧ 1 ≤ m ∧ m < 2 ^ 50 ∧ q ^ m < 2 ^ 100 ∧ M.Ord p w (q ^ m) ∧ M.al p c (w ^ P) ∧ P < q ^ m ∧ ∀ H', Same H H' → Q (.int P) H'
theorem ok_place_of (T : Txt K mg) : FnOk P w K mg base (L2.CX P w) 8 (He.ga K "place_of") (fd_place_of T) ["p", "w", "c", "q", "many"] (sp_place_of K) := by
  refine (F_place_of T).ok sc_place_of (fun vs H Q E h => ?_) (fun cdv A outer s H vs Q E hr h => ⟨_, (pss_cons (ps_set (i := 5) sc_place_of.nd rfl (Or.inl rfl) (pe_call (ok_taken T) (hr.mono (by decide)) rfl (g_taken T) (kp_taken T) (B_taken T) .nil pass0 (pa_cons (pv 3) (pa_cons (pv 4) pa_nil))))
      (pss_cons (ps_set (i := 6) sc_place_of.nd rfl (Or.inl rfl) (pe_call (ok_places_by T) (hr.mono (by decide)) rfl (g_places_by T) (kp_places_by T) (B_places_by T) .nil pass0 (pa_cons (pv 0) (pa_cons (pe_call (ok_power T) (hr.mono (by decide)) rfl (g_power T) (kp_power T) (B_power T) .nil (passes_call (takes_of rfl rfl rfl rfl) (fun _ _ _ _ h => h)) (pa_cons (pv 0) (pa_cons (pv 1) (pa_cons (pe_op op_fdivW (pv 5) (pv 3)) pa_nil)))) (pa_cons (pv 3) pa_nil)))))
      (pss_cons (ps_set (i := 7) sc_place_of.nd rfl (Or.inl rfl) pe_int)
      (pss_cons (ps_set (i := 8) sc_place_of.nd rfl (Or.inl rfl) pe_int)
      (pss_cons (ps_for (passes_of rfl) rfl (pi_range1 rfl (T.fr (T.c.fact 54 rfl)) (pa_cons (pv 4) pa_nil)) (pg_name (i := 9) sc_place_of.nd rfl (Or.inl rfl)) (pss_cons (ps_set (i := 10) sc_place_of.nd rfl (Or.inl rfl) (pe_op op_mod (pe_op op_mulW (pv 2) (pe_call (ok_power T) (hr.mono (by decide)) rfl (g_power T) (kp_power T) (B_power T) .nil (passes_call (takes_of rfl rfl rfl rfl) (fun _ _ _ _ h => h)) (pa_cons (pv 0) (pa_cons (pv 1) (pa_cons (pe_op op_sub (pv 5) (pv 7)) pa_nil))))) (pv 0)))
      (pss_cons (ps_set (i := 7) sc_place_of.nd rfl (Or.inl rfl) (pe_op op_add (pv 7) (pe_op op_mulW (pv 8) (pe_dget (hu_of hr) (pv 6) (pe_call (ok_power T) (hr.mono (by decide)) rfl (g_power T) (kp_power T) (B_power T) .nil (passes_call (takes_of rfl rfl rfl rfl) (fun _ _ _ _ h => h)) (pa_cons (pv 0) (pa_cons (pv 10) (pa_cons (pe_op op_fdivW (pv 5) (pe_op op_mulW (pv 8) (pv 3))) pa_nil)))) (fun _ _ => rfl)))))
      (pss_one (ps_set (i := 8) sc_place_of.nd rfl (Or.inl rfl) (pe_op op_mulW (pv 8) (pv 3)))))))
      (pss_one (ps_ret (pv 7)))))))), ?_⟩)
  · obtain ⟨p, q, m, P, w, c, rfl, _⟩ := h; rfl
  · obtain ⟨p, q, m, P, w, c, rfl, hp, hpb, hw, hc, q2, q9, m1, m9, hqm, ho, hal, hP, k⟩ := h
    have hp2 := hp.1
    have hq0 : 0 < q ^ m := Nat.pow_pos (by omega)
    have em : q ^ m = q * q ^ (m - 1) := by rw [Nat.mul_comm, ← Nat.pow_succ]; congr 1; omega
    have ed : q ^ m / q = q ^ (m - 1) := by rw [em]; exact Nat.mul_div_cancel_left _ (by omega)
    have hoz : M.Ord p (M.pw p w (q ^ m / q)) q := by
      have h := ho.pw (q ^ m / q)
      have g : Nat.gcd (q ^ m / q) (q ^ m) = q ^ m / q := Nat.gcd_eq_left (Nat.div_dvd_of_dvd ⟨_, em⟩)
      rw [g, Nat.div_div_self ⟨_, em⟩ (by omega)] at h
      exact h
    have hzr := M.pw_range (n := (p : Int)) (by omega) w (q ^ m / q)
    walk_at "g"
    refine ⟨q, m, rfl, by omega, by omega, by omega, ?_⟩
    walk_at "g"
    refine s_i (divW (by omega) (by omega)) ?_
    walk_at "g"
    refine pos_power (m := q ^ m / q) (Int.natCast_ediv _ _).symm (by omega) (by omega) ?_
    walk_at "g"
    refine ⟨p, q, q, _, rfl, hp, by omega, by omega, hoz, Nat.le_refl _, q9, fun D H1 nD s1 eD => ?_⟩
    walk_at "g"
    refine mkR1 m (by omega) (by omega) (by omega) ?_
    refine for_range (n := m) (fun i σ H' => H' = H1 ∧ ∃ (v1 v2 : Option V), σ = [some (.int p), some (.int w), some (.int c), some (.int q), some (.int m), some (.int ((q ^ m : Nat) : Int)), some (.ref D), some (.int ((P % q ^ i : Nat) : Int)), some (.int ((q ^ i : Nat) : Int)), v1, v2]) ⟨rfl, none, none, ?_⟩ ?_ ?_
    · rw [Nat.pow_zero, Nat.mod_one]; rfl
    · rintro i σ H' hi ⟨rfl, v1, v2, rfl⟩
      obtain ⟨d1, d2⟩ := M.digit_step q2 hi ho hal
      have hqi : q ^ i * q ≤ q ^ m := by rw [← Nat.pow_succ]; exact Nat.pow_le_pow_right (by omega) (by omega)
      have hqi0 : 0 < q ^ i := Nat.pow_pos (by omega)
      have hqi1 : q ^ i ≤ q ^ i * q := Nat.le_mul_of_pos_right _ (by omega)
      have hmod := Nat.mod_lt P hqi0
      have hdg := Nat.mod_lt (P / q ^ i) (show 0 < q by omega)
      have e3 : ((q ^ i : Nat) : Int) * (q : Int) = ((q ^ i * q : Nat) : Int) := by push_cast; rfl
      have hrr := M.pw_range (n := (p : Int)) (by omega) w (q ^ m - P % q ^ i)
      walk_at "g"
      refine pos_power (m := q ^ m - P % q ^ i) (by omega) (by omega) (by omega) ?_
      walk_at "g"
      try refine s_i (mulW (by omega) (by omega)) ?_
      walk_at "g"
      refine s_i (by omega) ?_
      walk_at "g"
      try refine s_i (mulW (by omega) (by omega)) ?_
      rw [e3]
      refine s_i (divW (by omega) (by omega)) ?_
      walk_at "g"
      refine pos_power (m := q ^ m / (q ^ i * q)) (Int.natCast_ediv _ _).symm (by omega) (by omega) ?_
      rw [d1]
      refine s_dgetI eD (pl_look hp hoz (Nat.le_refl _) hdg) ?_
      try refine s_i (mulW (by omega) (by omega)) ?_
      walk_at "g"
      try refine s_i (mulW (by omega) (by omega)) ?_
      walk_at "g"
      rw [e3]
      refine ⟨rfl, some (.int (0 + (i : Int))), some (.int (c * M.pw p w (q ^ m - P % q ^ i) % p)), ?_⟩
      rw [← d2, Nat.pow_succ]; push_cast; rfl
    · rintro σ H' ⟨rfl, v1, v2, rfl⟩
      rw [Nat.mod_eq_of_lt hP]
      walk_at "g"
      exact k _ s1

/-- turned(p, root, turn, d): the rests, sorted -/
def sp_turned (K : PySem.W.Frag) : Sp := fun vs H Q _ => ∃ (p d : Nat) (root turn : Int), vs = [.int p, .int root, .int turn, .int d] ∧ 2 ≤ p ∧ p < 2 ^ 200 ∧ 0 ≤ root ∧ root < p ∧ turn.natAbs < 2 ^ 200 ∧ d ≤ 1000000 ∧
  ∀ (ns : List Int) D H', ns.Perm ((List.range d).map fun i => root * turn ^ i % (p : Int)) → ns.Pairwise (· ≤ ·) → H D = none → Same H H' → H' D = some (.lst (ns.map V.int)) → Q (.ref D) H'
theorem turn_mul (p : Nat) (root turn : Int) (i : Nat) : root * turn ^ i % (p : Int) * turn % p = root * turn ^ (i + 1) % p := by
  rw [Int.mul_emod, Int.emod_emod, ← Int.mul_emod, Int.mul_assoc, ← Int.pow_succ]
theorem ok_turned (T : Txt K mg) : FnOk P w K mg base CX0 1 (He.ga K "turned") (fd_turned T) ["p", "root", "turn", "d"] (sp_turned K) := by
  refine (F_turned T).ok sc_turned (fun vs H Q E h => ?_) (fun cdv A outer s H vs Q E hr h => ⟨_, PSs.nox (pss_cons (ps_set (i := 4) sc_turned.nd rfl (Or.inl rfl) (pe_lst pa_nil))
      (pss_cons (ps_for PassesOwn.never rfl (pi_range1 rfl (T.fr (T.c.fact 54 rfl)) (pa_cons (pv 3) pa_nil)) (pg_name (i := 5) sc_turned.nd rfl (Or.inl rfl)) (pss_cons (ps_expr (pe_bm PySem.F.plainAttrs_list PySem.F.slot_list_append PySem.F.type_list_append mt_append (pv 4) (pa_cons (pv 1) pa_nil)))
      (pss_one (ps_set (i := 1) sc_turned.nd rfl (Or.inl rfl) (pe_op op_mod (pe_op op_mulW (pv 1) (pv 2)) (pv 0))))))
      (pss_one (ps_ret (pe_callB cr_sortedI rfl (T.fr (T.c.fact 55 rfl)) boot_sorted (pa_cons (pv 4) pa_nil)))))), ?_⟩)
  · obtain ⟨p, d, root, turn, rfl, _⟩ := h; rfl
  · obtain ⟨p, d, root, turn, rfl, hp2, hpb, r0, r1, ht, hd, k⟩ := h
    walk_at "g"
    refine mkL (by simp) fun D H1 nD eD s1 => ?_
    walk_at "g"
    refine mkR1 d (by omega) (by omega) (by omega) ?_
    refine for_range (n := d) (fun i σ H' => Same H H' ∧ H' D = some (.lst (((List.range i).map fun i => root * turn ^ i % (p : Int)).map V.int)) ∧ ∃ (r : Int) (v : Option V), σ = [some (.int p), some (.int r), some (.int turn), some (.int d), some (.ref D), v] ∧ r = root * turn ^ i % (p : Int)) ⟨s1, eD, root, none, rfl, by rw [Int.pow_zero, Int.mul_one, Int.emod_eq_of_lt r0 r1]⟩ ?_ ?_
    · rintro i σ H' hi ⟨s2, e2, r, v, rfl, er⟩
      have hr0 : 0 ≤ r := by rw [er]; exact Int.emod_nonneg _ (by omega)
      have hr1 : r < p := by rw [er]; exact Int.emod_lt_of_pos _ (by omega)
      walk_at "g"
      refine ⟨s_tyL e2, ?_⟩
      walk_at "g"
      refine s_append e2 (line2 (by rw [List.length_map, List.length_map, List.length_range]; omega)) ?_
      walk_at "g"
      try refine s_i (mulW (by omega) (by omega)) ?_
      walk_at "g"
      refine s_i (by omega) ?_
      walk_at "g"
      refine ⟨same_upd' s2 nD, ?_, _, _, rfl, ?_⟩
      · rw [upd_same, List.range_succ, List.map_append, List.map_append, er]; rfl
      · rw [er]; exact turn_mul p root turn i
    · rintro σ H' ⟨s2, e2, r, v, rfl, er⟩
      walk_at "g"
      refine ⟨D, _, rfl, SqL.of e2, fun ns D2 pm srt nD2 => ?_⟩
      exact k ns D2 _ pm srt (Same.none s2 nD2) (same_upd' s2 (Same.none s2 nD2)) upd_same

/-- a divisor of two numbers, the first -/
theorem inv_call {K : PySem.W.Frag} {H : Hp} {Q : VK} {E : XK} {n a : Nat} (n0 : 0 < n) (nb : n < 2 ^ 200) (g : Nat.gcd a n = 1) (k : ∀ (i : Nat) H', Same H H' → i < n → i * a % n = 1 % n → Q (.int i) H') : sp_inverse K [.int n, .int a] H Q E := by
  have g' : Int.gcd (a : Int) (n : Int) = 1 := g
  refine ⟨n, a, rfl, by omega, by omega, fun _ H' b s b0 b1 hb => ?_, fun z => absurd g' z⟩
  have h := M.inv_nat n0 hb b0
  have e : b = (b.toNat : Int) := by omega
  rw [e]
  exact k b.toNat H' s (by omega) h
/-- root_in(paper, q, many, d, c): a root of order d of c's part -/
def sp_root_in (K : PySem.W.Frag) : Sp := fun vs H Q _ => ∃ (m0 p f : Nat) (t0 u : Addr) (pl : List (Addr × Nat × Nat)) (q m d t : Nat) (c : Int), vs = [.ref t0, .int q, .int m, .int d, .int c] ∧ Pap m0 H t0 p f u pl ∧ p < 2 ^ 60 ∧ (q, m) ∈ facs pl ∧ q ≤ 1000000 ∧ 0 < d ∧ d ∣ p - 1 ∧ d ∣ t ∧ 0 ≤ c ∧ c < p ∧ M.al p c ((f : Int) ^ t) ∧
  ∀ (r : Int) (F : Nat) H', 0 ≤ r → r < p → M.al p (r ^ d) (c ^ F) → F % q ^ m = 1 % q ^ m → (p - 1) / q ^ m ∣ F → Same H H' → Q (.int r) H'
theorem ok_root_in (T : Txt K mg) : FnOk P w K mg base (L2.CX P w) 9 (He.ga K "root_in") (fd_root_in T) ["paper", "q", "many", "d", "c"] (sp_root_in K) := by
  refine (F_root_in T).ok sc_root_in (fun vs H Q E h => ?_) (fun cdv A outer s H vs Q E hr h => ⟨_, (pss_cons (ps_asg (pv 0) (pg_tup rfl (pgs_cons (pg_name (i := 5) sc_root_in.nd rfl (Or.inl rfl)) (pgs_cons (pg_name (i := 6) sc_root_in.nd rfl (Or.inl rfl)) (pgs_cons (pg_name (i := 7) sc_root_in.nd rfl (Or.inl rfl)) pgs_nil)))))
      (pss_cons (ps_set (i := 8) sc_root_in.nd rfl (Or.inl rfl) (pe_call (ok_taken T) (hr.mono (by decide)) rfl (g_taken T) (kp_taken T) (B_taken T) .nil pass0 (pa_cons (pv 1) (pa_cons (pv 2) pa_nil))))
      (pss_cons (ps_set (i := 9) sc_root_in.nd rfl (Or.inl rfl) (pe_op op_fdivW (pe_op op_sub (pv 5) pe_int) (pv 8)))
      (pss_cons (ps_set (i := 10) sc_root_in.nd rfl (Or.inl rfl) (pe_call (ok_power T) (hr.mono (by decide)) rfl (g_power T) (kp_power T) (B_power T) .nil (passes_call (takes_of rfl rfl rfl rfl) (fun _ _ _ _ h => h)) (pa_cons (pv 5) (pa_cons (pv 6) (pa_cons (pv 9) pa_nil)))))
      (pss_cons (ps_set (i := 11) sc_root_in.nd rfl (Or.inl rfl) (pe_call (ok_place_of T) (hr.mono (by decide)) rfl (g_place_of T) (kp_place_of T) (B_place_of T) .nil (passes_call (takes_of rfl rfl rfl rfl) (fun _ _ _ _ h => h)) (pa_cons (pv 5) (pa_cons (pv 10) (pa_cons (pe_call (ok_power T) (hr.mono (by decide)) rfl (g_power T) (kp_power T) (B_power T) .nil (passes_call (takes_of rfl rfl rfl rfl) (fun _ _ _ _ h => h)) (pa_cons (pv 5) (pa_cons (pv 4) (pa_cons (pe_op op_mulW (pv 9) (pe_call (ok_inverse T) (hr.mono (by decide)) rfl (g_inverse T) (kp_inverse T) (B_inverse T) .nil (passes_call (takes_of rfl rfl rfl rfl) (fun _ _ _ _ h => h)) (pa_cons (pv 8) (pa_cons (pv 9) pa_nil)))) pa_nil)))) (pa_cons (pv 1) (pa_cons (pv 2) pa_nil)))))))
      (pss_cons (ps_while (passes_of rfl) (pt_cmpR op_eq (pe_op op_mod (pv 3) (pv 1)) pe_int (nomark _)) (pss_cons (ps_set (i := 3) sc_root_in.nd rfl (Or.inl rfl) (pe_op op_fdivW (pv 3) (pv 1)))
      (pss_one (ps_set (i := 11) sc_root_in.nd rfl (Or.inl rfl) (pe_op op_fdivW (pv 11) (pv 1))))))
      (pss_one (ps_ret (pe_call (ok_power T) (hr.mono (by decide)) rfl (g_power T) (kp_power T) (B_power T) .nil (passes_call (takes_of rfl rfl rfl rfl) (fun _ _ _ _ h => h)) (pa_cons (pv 5) (pa_cons (pv 10) (pa_cons (pe_op op_mulW (pv 11) (pe_call (ok_inverse T) (hr.mono (by decide)) rfl (g_inverse T) (kp_inverse T) (B_inverse T) .nil (passes_call (takes_of rfl rfl rfl rfl) (fun _ _ _ _ h => h)) (pa_cons (pv 8) (pa_cons (pv 3) pa_nil)))) pa_nil)))))))))))), ?_⟩)
  · obtain ⟨m0, p, f, t0, u, pl, q, m, d, t, c, rfl, _⟩ := h; rfl
  · obtain ⟨m0, p, f, t0, u, pl, q, m, d, t, c, rfl, hP, hpb, hqm, hq9, d0, hd, hdt, c0, c1, hc, k⟩ := h
    have hp := hP.hp
    have hp2 := hp.1
    have hl := hP.hl
    obtain ⟨hq, m1⟩ := hl.primes _ hqm
    have hq : M.Prime q := hq
    have m1 : 0 < m := m1
    have q2 := hq.1
    obtain ⟨L, eL, hno, hoth⟩ := M.facs_split hl hqm
    have eL : p - 1 = q ^ m * L := eL
    have hno : ¬ q ∣ L := hno
    have qm0 : 0 < q ^ m := Nat.pow_pos (by omega)
    have L0 : 0 < L := Nat.pos_of_ne_zero fun z => by rw [z] at eL; omega
    have hqmb : q ^ m ≤ p - 1 := by rw [eL]; exact Nat.le_mul_of_pos_right _ L0
    have hLb : L ≤ p - 1 := by rw [eL]; exact Nat.le_mul_of_pos_left _ qm0
    have hm60 : m < 2 ^ 50 := by
      have h1 : m < 2 ^ m := Nat.lt_two_pow_self
      have h2 : 2 ^ m ≤ q ^ m := Nat.pow_le_pow_left q2 m
      rcases Nat.lt_or_ge m 60 with z | z
      · omega
      · have h3 : 2 ^ 60 ≤ 2 ^ m := Nat.pow_le_pow_right (by decide) z
        omega
    have edL : (p - 1) / q ^ m = L := by rw [eL]; exact Nat.mul_div_cancel_left _ qm0
    have ee : (p : Int) - 1 = ((p - 1 : Nat) : Int) := by omega
    have hcop : Nat.gcd L (q ^ m) = 1 := by rw [Nat.gcd_comm]; exact M.coprime_pow hq hno m
    -- the number w
    have how : M.Ord p (M.pw p f L) (q ^ m) := by
      have h := hP.hf.full.pw L
      have g : Nat.gcd L (p - 1) = L := Nat.gcd_eq_left ⟨q ^ m, by rw [eL, Nat.mul_comm]⟩
      rw [g, eL, Nat.mul_div_cancel _ L0] at h
      exact h
    have hwr := M.pw_range (n := (p : Int)) (by omega) f L
    walk_at "g"
    refine s_gtup (SqT.of hP.at_) rfl ?_
    walk_at "g"
    refine ⟨q, m, rfl, by omega, by omega, by omega, ?_⟩
    walk_at "g"
    refine s_i (divW (by omega) (by omega)) ?_
    rw [ee, ← Int.natCast_ediv, edL]
    walk_at "g"
    refine pos_power (m := L) rfl (by omega) (by omega) ?_
    walk_at "g"
    refine inv_call qm0 (by omega) hcop fun i1 H1 s1 i1b hi1 => ?_
    walk_at "g"
    try refine s_i (mulW (by omega) (by omega)) ?_
    walk_at "g"
    rw [show (L : Int) * (i1 : Int) = ((L * i1 : Nat) : Int) by push_cast; rfl]
    refine pos_power (m := L * i1) rfl (by omega) (by omega) ?_
    have hcr := M.pw_range (n := (p : Int)) (by omega) c (L * i1)
    have halP : M.al p (M.pw p c (L * i1)) (M.pw p f L ^ (t * i1 % q ^ m)) := by
      refine M.al_trans (M.al_pw p c _) (M.al_trans (M.al_pow hc _) ?_)
      refine M.al_trans ?_ (M.pow_al how.one (Nat.mod_mod _ _).symm)
      refine M.al_trans ?_ (M.al_symm (M.al_pow (M.al_pw p f L) _))
      rw [← Int.pow_mul, ← Int.pow_mul, show t * (L * i1) = L * (t * i1) by grind]
      exact M.al_refl _ _
    walk_at "g"
    refine ⟨p, q, m, t * i1 % q ^ m, _, _, rfl, hp, by omega, by omega, by omega, q2, hq9, m1, hm60, by omega, how, halP, Nat.mod_lt _ qm0, fun H2 s2 => ?_⟩
    generalize hPP : t * i1 % q ^ m = PP at halP ⊢
    -- so often as q divides d
    have hdv : ∀ i, q ^ i ∣ d → q ^ i ∣ PP := fun i hi => by
      have h1 : q ^ i ∣ q ^ m := by
        have h2 : q ^ i ∣ q ^ m * L := by rw [← eL]; exact Nat.dvd_trans hi hd
        exact Nat.Coprime.dvd_of_dvd_mul_right (Nat.Coprime.pow_left i (hq.coprime hno)) h2
      rw [← hPP]
      exact (Nat.dvd_mod_iff h1).mpr (Nat.dvd_trans (Nat.dvd_trans hi hdt) (Nat.dvd_mul_right _ _))
    walk_at "g"
    refine s_while (fun σ H' => H' = H2 ∧ ∃ (i d' : Nat), σ = [some (.ref t0), some (.int q), some (.int m), some (.int d'), some (.int c), some (.int p), some (.int f), some (.ref u), some (.int ((q ^ m : Nat) : Int)), some (.int L), some (.int (M.pw p f L)), some (.int ((PP / q ^ i : Nat) : Int))] ∧ d = q ^ i * d') (fun σ _ => (iv σ 3).toNat) ⟨rfl, 0, d, by rw [Nat.pow_zero, Nat.div_one]; rfl, by rw [Nat.pow_zero, Nat.one_mul]⟩ ?_
    rintro σ H' ⟨rfl, i, d', rfl, ed⟩
    have d'0 : 0 < d' := Nat.pos_of_ne_zero fun z => by rw [z] at ed; omega
    have hd'b : d' ≤ p - 1 := by
      have h1 : d' ≤ d := by rw [ed]; exact Nat.le_mul_of_pos_left _ (Nat.pow_pos (by omega))
      have := Nat.le_of_dvd (by omega) hd
      omega
    walk_at "g"
    refine s_i (by omega) ?_
    walk_at "g"
    refine s_ite (fun z => ?_) (fun z => ?_)
    · have hqd : q ∣ d' := Int.natCast_dvd_natCast.mp (Int.dvd_of_emod_eq_zero z)
      obtain ⟨d2, e2⟩ := hqd
      have e3 : (d' : Int) / (q : Int) = ((d2 : Nat) : Int) := by rw [← Int.natCast_ediv, e2, Nat.mul_div_cancel_left _ (by omega)]
      have e4 : ((PP / q ^ i : Nat) : Int) / (q : Int) = ((PP / q ^ (i + 1) : Nat) : Int) := by rw [← Int.natCast_ediv, Nat.div_div_eq_div_mul, Nat.pow_succ]
      have hd2 : d2 < d' := by
        have h1 : 2 * d2 ≤ q * d2 := Nat.mul_le_mul_right _ q2
        omega
      walk_at "g"
      refine s_i (divW (by omega) (by omega)) ?_
      walk_at "g"
      refine s_i (divW (by omega) (by omega)) ?_
      walk_at "g"
      refine ⟨⟨rfl, i + 1, d2, ?_, by rw [ed, e2, Nat.pow_succ, Nat.mul_assoc]⟩, ?_⟩
      · rw [e3, e4]; rfl
      · show ((d' : Int) / (q : Int)).toNat < (d' : Int).toNat
        rw [e3]; omega
    · have hqd : ¬ q ∣ d' := fun w => z (Int.emod_eq_zero_of_dvd (Int.natCast_dvd_natCast.mpr w))
      have hcop2 : Nat.gcd d' (q ^ m) = 1 := by rw [Nat.gcd_comm]; exact M.coprime_pow hq hqd m
      have hPb : PP / q ^ i ≤ PP := Nat.div_le_self _ _
      have hPb2 : PP < q ^ m := by rw [← hPP]; exact Nat.mod_lt _ qm0
      have hroot := fun (i2 : Nat) (hi2 : i2 * d' % q ^ m = 1 % q ^ m) => M.part_root (L := 0) (d' := d') how.one rfl (hdv i ⟨d', ed⟩) halP hi2
      generalize PP / q ^ i = X at hPb hroot ⊢
      walk_at "g"
      refine inv_call qm0 (by omega) hcop2 fun i2 H3 s3 i2b hi2 => ?_
      walk_at "g"
      try refine s_i (mulW (by omega) (by omega)) ?_
      walk_at "g"
      rw [show (X : Int) * (i2 : Int) = ((X * i2 : Nat) : Int) by push_cast; rfl]
      refine pos_power (m := X * i2) rfl (by omega) (by omega) ?_
      have hrr := M.pw_range (n := (p : Int)) (by omega) (M.pw p f L) (X * i2)
      refine k _ (L * i1) H3 hrr.1 hrr.2 ?_ ?_ ⟨i1, by rw [edL]⟩ (s1.trans (s2.trans s3))
      · have h1 := hroot i2 hi2
        rw [← ed] at h1
        exact M.al_trans (M.al_pow (M.al_pw p _ _) d) (M.al_trans h1 (M.al_pw p c _))
      · rw [Nat.mul_comm]; exact hi1

/-- one_root(paper, d, c): a root of order d -/
def sp_one_root (K : PySem.W.Frag) : Sp := fun vs H Q _ => ∃ (m0 p f : Nat) (t0 u : Addr) (pl : List (Addr × Nat × Nat)) (d t : Nat) (c : Int), vs = [.ref t0, .int d, .int c] ∧ Pap m0 H t0 p f u pl ∧ p < 2 ^ 60 ∧ 0 < d ∧ d ≤ 1000000 ∧ d ∣ p - 1 ∧ d ∣ t ∧ 0 ≤ c ∧ c < p ∧ M.al p c ((f : Int) ^ t) ∧
  ∀ (r : Int) H', 0 ≤ r → r < p → M.al p (r ^ d) c → Same H H' → Q (.int r) H'
theorem ok_one_root (T : Txt K mg) : FnOk P w K mg base (L2.CX P w) 10 (He.ga K "one_root") (fd_one_root T) ["paper", "d", "c"] (sp_one_root K) := by
  refine (F_one_root T).ok sc_one_root (fun vs H Q E h => ?_) (fun cdv A outer s H vs Q E hr h => ⟨_, (pss_cons (ps_asg (pv 0) (pg_tup rfl (pgs_cons (pg_name (i := 3) sc_one_root.nd rfl (Or.inl rfl)) (pgs_cons (pg_name (i := 4) sc_one_root.nd rfl (Or.inl rfl)) (pgs_cons (pg_name (i := 5) sc_one_root.nd rfl (Or.inl rfl)) pgs_nil)))))
      (pss_cons (ps_set (i := 6) sc_one_root.nd rfl (Or.inl rfl) (pe_op op_sub (pv 3) pe_int))
      (pss_cons (ps_set (i := 7) sc_one_root.nd rfl (Or.inl rfl) pe_int)
      (pss_cons (ps_for (passes_of rfl) rfl (pi_tup (pv 5)) (pg_tup rfl (pgs_cons (pg_name (i := 8) sc_one_root.nd rfl (Or.inl rfl)) (pgs_cons (pg_name (i := 9) sc_one_root.nd rfl (Or.inl rfl)) pgs_nil))) (pss_one (ps_if (pt_cmpR op_eq (pe_op op_mod (pv 1) (pe_ix ix_seq (pv 8) pe_int (fun _ _ => rfl))) pe_int (nomark _)) (pss_cons (ps_set (i := 6) sc_one_root.nd rfl (Or.inl rfl) (pe_op op_fdivW (pv 6) (pe_call (ok_taken T) (hr.mono (by decide)) rfl (g_taken T) (kp_taken T) (B_taken T) .nil pass0 (pa_cons (pe_ix ix_seq (pv 8) pe_int (fun _ _ => rfl)) (pa_cons (pv 9) pa_nil)))))
      (pss_one (ps_set (i := 7) sc_one_root.nd rfl (Or.inl rfl) (pe_op op_mod (pe_op op_mulW (pv 7) (pe_call (ok_root_in T) (hr.mono (by decide)) rfl (g_root_in T) (kp_root_in T) (B_root_in T) .nil (passes_call (takes_of rfl rfl rfl rfl) (fun _ _ _ _ h => h)) (pa_cons (pv 0) (pa_cons (pe_ix ix_seq (pv 8) pe_int (fun _ _ => rfl)) (pa_cons (pv 9) (pa_cons (pv 1) (pa_cons (pv 2) pa_nil))))))) (pv 3))))) pss_nil)))
      (pss_cons (ps_set (i := 10) sc_one_root.nd rfl (Or.inl rfl) (pe_op op_fdivW (pe_op op_sub (pv 3) pe_int) (pv 6)))
      (pss_one (ps_ret (pe_op op_mod (pe_op op_mulW (pv 7) (pe_call (ok_power T) (hr.mono (by decide)) rfl (g_power T) (kp_power T) (B_power T) .nil (passes_call (takes_of rfl rfl rfl rfl) (fun _ _ _ _ h => h)) (pa_cons (pv 3) (pa_cons (pv 2) (pa_cons (pe_op op_mulW (pe_op op_mulW (pv 10) (pe_call (ok_inverse T) (hr.mono (by decide)) rfl (g_inverse T) (kp_inverse T) (B_inverse T) .nil (passes_call (takes_of rfl rfl rfl rfl) (fun _ _ _ _ h => h)) (pa_cons (pv 6) (pa_cons (pv 10) pa_nil)))) (pe_call (ok_inverse T) (hr.mono (by decide)) rfl (g_inverse T) (kp_inverse T) (B_inverse T) .nil (passes_call (takes_of rfl rfl rfl rfl) (fun _ _ _ _ h => h)) (pa_cons (pv 6) (pa_cons (pv 1) pa_nil)))) pa_nil))))) (pv 3))))))))), ?_⟩)
  · obtain ⟨m0, p, f, t0, u, pl, d, t, c, rfl, _⟩ := h; rfl
  · obtain ⟨m0, p, f, t0, u, pl, d, t, c, rfl, hP, hpb, d0, d9, hd, hdt, c0, c1, hc, k⟩ := h
    have hp := hP.hp
    have hp2 := hp.1
    have hl := hP.hl
    have ee : (p : Int) - 1 = ((p - 1 : Nat) : Int) := by omega
    have p10 : 0 < p - 1 := by omega
    obtain ⟨xs, eu, pr⟩ := hP.ps
    walk_at "g"
    refine s_gtup (SqT.of hP.at_) rfl ?_
    walk_at "g"
    refine ⟨⟨_, SqT.of eu⟩, ?_⟩
    refine for_tup (fun i σ H' => Same H H' ∧ ∃ (left : Nat) (root : Int) (v1 v2 : Option V), σ = [some (.ref t0), some (.int d), some (.int c), some (.int p), some (.int f), some (.ref u), some (.int left), some (.int root), v1, v2, none] ∧ 0 ≤ root ∧ root < p ∧ M.OneI p (p - 1) d c (facs pl) i left root)
      ⟨Same.refl _, p - 1, 1, none, none, by rw [← ee]; rfl, by decide, by omega, M.one_start hl⟩ (fun i σ H' _ I => SqT.of (I.1 _ _ eu)) ?_ ?_
    · rintro i x σ H' hi ⟨s1, left, root, v1, v2, rfl, r0, r1, I⟩
      obtain ⟨⟨s, q, b⟩, hab, t2, rfl, ex, hPs⟩ := pget pr hi
      obtain ⟨f', u', e1'⟩ := hPs.first
      have hx := facs_get hab
      have hm := List.mem_of_getElem? hx
      obtain ⟨hq, b1⟩ := hl.primes _ hm
      have hq : M.Prime q := hq
      have b1 : 0 < b := b1
      have q2 := hq.1
      have hqb : q ^ b ≤ p - 1 := Nat.le_of_dvd p10 (by rw [← hl.prod]; exact M.prodL_dvd hm)
      have hqd0 : q ≤ q ^ b := Nat.le_of_dvd (Nat.pow_pos (by omega)) (M.dvd_pow_self q b1)
      have qb0 : 0 < q ^ b := Nat.pow_pos (by omega)
      have hb60 : b < 2 ^ 50 := by
        have h1 : b < 2 ^ b := Nat.lt_two_pow_self
        have h2 : 2 ^ b ≤ q ^ b := Nat.pow_le_pow_left q2 b
        rcases Nat.lt_or_ge b 60 with z | z
        · omega
        · have h3 : 2 ^ 60 ≤ 2 ^ b := Nat.pow_le_pow_right (by decide) z
          omega
      refine s_gtup (SqT.of (s1 _ _ ex)) rfl ?_
      walk_at "g"
      refine s_ixT (SqT.of (s1 _ _ e1')) (atI0 0 rfl rfl) ?_
      walk_at "g"
      refine s_i (by show (0 : Int) < (q : Int); omega) ?_
      walk_at "g"
      refine s_ite (fun z => ?_) (fun z => ?_)
      · have hqd : q ∣ d := Int.natCast_dvd_natCast.mp (Int.dvd_of_emod_eq_zero z)
        have hq9 := Nat.le_of_dvd d0 hqd
        walk_at "g"
        refine s_ixT (SqT.of (s1 _ _ e1')) (atI0 0 rfl rfl) ?_
        walk_at "g"
        refine ⟨q, b, rfl, by omega, by omega, by omega, ?_⟩
        walk_at "g"
        refine s_i (divW (by omega) (by omega)) ?_
        walk_at "g"
        refine s_ixT (SqT.of (s1 _ _ e1')) (atI0 0 rfl rfl) ?_
        walk_at "g"
        refine ⟨m0, p, f, t0, u, pl, q, b, d, t, c, rfl, hP.same s1, hpb, hm, by omega, d0, hd, hdt, c0, c1, hc, fun r F H2 rr0 rr1 hr hF hF2 s2 => ?_⟩
        walk_at "g"
        try refine s_i (mulW (by omega) (by omega)) ?_
        walk_at "g"
        refine s_i (by omega) ?_
        walk_at "g"
        have hmore := M.one_more hl p10 I hx hqd hr hF hF2
        refine ⟨s1.trans s2, left / q ^ b, root * r % p, some (.ref s), some (.int b), ?_, Int.emod_nonneg _ (by omega), Int.emod_lt_of_pos _ (by omega), hmore.1⟩
        rw [Int.natCast_ediv]; rfl
      · have hqd : ¬ q ∣ d := fun w => z (Int.emod_eq_zero_of_dvd (Int.natCast_dvd_natCast.mpr w))
        walk_at "g"
        exact ⟨s1, left, root, _, _, rfl, r0, r1, M.one_skip I hx hqd⟩
    · rintro σ H' ⟨s1, left, root, v1, v2, rfl, r0, r1, I⟩
      have hxl : xs.length = (facs pl).length := by rw [Paired.length pr, facs_len]
      rw [hxl] at I
      obtain ⟨l0, hlN, g1, g2⟩ := M.one_cop hl p10 I
      have hlb := Nat.le_of_dvd p10 hlN
      have hmb := Nat.div_le_self (p - 1) left
      walk_at "g"
      refine s_i (divW (by omega) (by omega)) ?_
      rw [ee, ← Int.natCast_ediv]
      generalize hmn : (p - 1) / left = mine at g1 hmb ⊢
      walk_at "g"
      refine inv_call l0 (by omega) g1 fun i1 H1 s2 i1b hi1 => ?_
      walk_at "g"
      try refine s_i (mulW (by omega) (by omega)) ?_
      rw [show (mine : Int) * (i1 : Int) = ((mine * i1 : Nat) : Int) by push_cast; rfl]
      have hmi : mine * i1 < 2 ^ 120 := by
        have h1 : mine * i1 ≤ 2 ^ 60 * 2 ^ 60 := Nat.mul_le_mul (by omega) (by omega)
        have : (2 : Nat) ^ 60 * 2 ^ 60 = 2 ^ 120 := by decide
        have : mine * i1 < 2 ^ 60 * 2 ^ 60 := by
          refine Nat.lt_of_le_of_lt (Nat.mul_le_mul_right i1 (show mine ≤ 2 ^ 60 by omega)) ?_
          exact Nat.mul_lt_mul_of_pos_left (by omega) (by decide)
        omega
      walk_at "g"
      refine inv_call l0 (by omega) g2 fun i2 H2 s3 i2b hi2 => ?_
      walk_at "g"
      try refine s_i (mulW (by omega) (by omega)) ?_
      rw [show ((mine * i1 : Nat) : Int) * (i2 : Int) = ((mine * i1 * i2 : Nat) : Int) by push_cast; rfl]
      walk_at "g"
      refine pos_power (m := mine * i1 * i2) rfl (by omega) (by omega) ?_
      have hrr := M.pw_range (n := (p : Int)) (by omega) c (mine * i1 * i2)
      walk_at "g"
      try refine s_i (mulW (by omega) (by omega)) ?_
      walk_at "g"
      refine s_i (by omega) ?_
      walk_at "g"
      refine k _ H2 (Int.emod_nonneg _ (by omega)) (Int.emod_lt_of_pos _ (by omega)) ?_ (s1.trans (s2.trans s3))
      have hc1 : M.is1 p c (p - 1) := M.fermat hp fun z => by
        have h1 : (p : Int) ∣ (f : Int) ^ t := by
          have : (f : Int) ^ t = c - (c - (f : Int) ^ t) := by omega
          rw [this]; exact Int.dvd_sub z hc
        exact M.unit_pow hp (hP.hf.full.unit hp) t h1
      have := M.one_end hl p10 I hc1 (by rw [hmn]; exact hi1) hi2
      rwa [hmn] at this

/-- what shows roots -/
def RtAt (H : Hp) (s : Addr) (p k : Nat) (a : Int) (xs : List Int) : Prop :=
  (M.un p a → M.is1 p a ((p - 1) / Nat.gcd k (p - 1)) → ∃ turn : Int, 0 < turn ∧ turn < p ∧ M.Ord p turn (Nat.gcd k (p - 1)) ∧ xs.length = Nat.gcd k (p - 1) ∧ H s = some (.tup [.str "turned", .int (xs.headD 0), .int turn])) ∧
  (M.un p a → ¬ M.is1 p a ((p - 1) / Nat.gcd k (p - 1)) → H s = some (.tup [.str "none", .int ((p - 1) / Nat.gcd k (p - 1) : Nat), .int (M.pw p a ((p - 1) / Nat.gcd k (p - 1)))])) ∧
  (¬ M.un p a → H s = some (.tup [.str "nought"]))
theorem RtAt.same {H H' : Hp} {s : Addr} {p k : Nat} {a : Int} {xs : List Int} (h : RtAt H s p k a xs) (e : Same H H') : RtAt H' s p k a xs := by
  obtain ⟨h1, h2, h3⟩ := h
  refine ⟨fun u o => ?_, fun u o => e _ _ (h2 u o), fun u => e _ _ (h3 u)⟩
  obtain ⟨t, t0, t1, t2, t4, t3⟩ := h1 u o
  exact ⟨t, t0, t1, t2, t4, e _ _ t3⟩
/-- roots(paper, k, a) -/
def sp_roots (K : PySem.W.Frag) : Sp := fun vs H Q E => ∃ (m0 p f : Nat) (t0 u : Addr) (pl : List (Addr × Nat × Nat)) (k : Nat) (a : Int), vs = [.ref t0, .int k, .int a] ∧ Pap m0 H t0 p f u pl ∧ p < 2 ^ 60 ∧ 0 < k ∧ k < 2 ^ 400 ∧
  (M.un p a → M.is1 p a ((p - 1) / Nat.gcd k (p - 1)) → 400 < Nat.gcd k (p - 1) → ∀ (d : Addr) (H' : Hp), H d = none → Same H H' → H' d = some (.xd [("many", .int (Nat.gcd k (p - 1) : Nat))]) → E (.ref (He.ga K "TooMany")) (some d) H') ∧
  (¬ (M.un p a ∧ M.is1 p a ((p - 1) / Nat.gcd k (p - 1)) ∧ 400 < Nat.gcd k (p - 1)) → ∀ (xs : List Int) T D s H', M.IsKR p k a xs → H D = none → H' D = some (.lst (xs.map V.int)) → H T = none → H' T = some (.tup [.ref D, .ref s]) → RtAt H' s p k a xs → D ≠ s → xs.length ≤ 400 → Same H H' → Q (.ref T) H')
theorem ok_roots (T : Txt K mg) : FnOk P w K mg base (L2.CX P w) 11 (He.ga K "roots") (fd_roots T) ["paper", "k", "a"] (sp_roots K) := by
  refine (F_roots T).ok sc_roots (fun vs H Q E h => ?_) (fun cdv A outer s H vs Q E hr h => ⟨_, (pss_cons (ps_asg (pv 0) (pg_tup rfl (pgs_cons (pg_name (i := 3) sc_roots.nd rfl (Or.inl rfl)) (pgs_cons (pg_name (i := 4) sc_roots.nd rfl (Or.inl rfl)) (pgs_cons (pg_name (i := 5) sc_roots.nd rfl (Or.inl rfl)) pgs_nil)))))
      (pss_cons (ps_if (pt_cmpR op_eq (pe_op op_mod (pv 2) (pv 3)) pe_int (nomark _)) (pss_one (ps_ret (pe_tup (pa_cons (pe_lst (pa_cons pe_int pa_nil)) (pa_cons (pe_tup (pa_cons pe_str pa_nil)) pa_nil))))) pss_nil)
      (pss_cons (ps_set (i := 6) sc_roots.nd rfl (Or.inl rfl) (pe_ix ix_seq (pe_call (ok_divisor T) (hr.mono (by decide)) rfl (g_divisor T) (kp_divisor T) (B_divisor T) .nil pass0 (pa_cons (pv 1) (pa_cons (pe_op op_sub (pv 3) pe_int) pa_nil))) pe_int (fun _ _ => rfl)))
      (pss_cons (ps_set (i := 7) sc_roots.nd rfl (Or.inl rfl) (pe_op op_fdivW (pe_op op_sub (pv 3) pe_int) (pv 6)))
      (pss_cons (ps_set (i := 8) sc_roots.nd rfl (Or.inl rfl) (pe_call (ok_power T) (hr.mono (by decide)) rfl (g_power T) (kp_power T) (B_power T) .nil (passes_call (takes_of rfl rfl rfl rfl) (fun _ _ _ _ h => h)) (pa_cons (pv 3) (pa_cons (pv 2) (pa_cons (pv 7) pa_nil)))))
      (pss_cons (ps_if (pt_cmpR op_ne (pv 8) pe_int (nomark _)) (pss_one (ps_ret (pe_tup (pa_cons (pe_lst pa_nil) (pa_cons (pe_tup (pa_cons pe_str (pa_cons (pv 7) (pa_cons (pv 8) pa_nil)))) pa_nil))))) pss_nil)
      (pss_cons (ps_if (pt_cmpR op_gt (pv 6) (pe_glob (v := .int 400) rfl (T.int_ok (T.c.fact 67 rfl)).choose_spec ⟨_, rfl⟩) (nomark _)) (pss_one (ps_raise rfl (takes_of rfl rfl rfl rfl) (pmk_oex (x_TooMany T).oex (x_TooMany T).iC (x_TooMany T).tI (ok_init_TooMany T) (hr.mono (by decide)) (B_init_TooMany T) .nil pass0 rfl (g_TooMany T) (pa_cons (pv 6) pa_nil)))) pss_nil)
      (pss_cons (ps_set (i := 9) sc_roots.nd rfl (Or.inl rfl) (pe_call (ok_power T) (hr.mono (by decide)) rfl (g_power T) (kp_power T) (B_power T) .nil (passes_call (takes_of rfl rfl rfl rfl) (fun _ _ _ _ h => h)) (pa_cons (pv 3) (pa_cons (pv 4) (pa_cons (pv 7) pa_nil)))))
      (pss_cons (ps_set (i := 10) sc_roots.nd rfl (Or.inl rfl) (pe_call (ok_one_root T) (hr.mono (by decide)) rfl (g_one_root T) (kp_one_root T) (B_one_root T) .nil (passes_call (takes_of rfl rfl rfl rfl) (fun _ _ _ _ h => h)) (pa_cons (pv 0) (pa_cons (pv 6) (pa_cons (pe_call (ok_power T) (hr.mono (by decide)) rfl (g_power T) (kp_power T) (B_power T) .nil (passes_call (takes_of rfl rfl rfl rfl) (fun _ _ _ _ h => h)) (pa_cons (pv 3) (pa_cons (pv 2) (pa_cons (pe_call (ok_inverse T) (hr.mono (by decide)) rfl (g_inverse T) (kp_inverse T) (B_inverse T) .nil (passes_call (takes_of rfl rfl rfl rfl) (fun _ _ _ _ h => h)) (pa_cons (pv 7) (pa_cons (pe_op op_fdivW (pv 1) (pv 6)) pa_nil))) pa_nil)))) pa_nil)))))
      (pss_cons (ps_set (i := 11) sc_roots.nd rfl (Or.inl rfl) (pe_call (ok_turned T) (hr.mono (by decide)) rfl (g_turned T) (kp_turned T) (B_turned T) .nil pass0 (pa_cons (pv 3) (pa_cons (pv 10) (pa_cons (pv 9) (pa_cons (pv 6) pa_nil))))))
      (pss_one (ps_ret (pe_tup (pa_cons (pv 11) (pa_cons (pe_tup (pa_cons pe_str (pa_cons (pe_ix ix_seq (pv 11) pe_int (fun _ _ => rfl)) (pa_cons (pv 9) pa_nil)))) pa_nil))))))))))))))), ?_⟩)
  · obtain ⟨m0, p, f, t0, u, pl, k, a, rfl, _⟩ := h; rfl
  · obtain ⟨m0, p, f, t0, u, pl, kk, a, rfl, hP, hpb, k0, kb, kE, k⟩ := h
    have hp := hP.hp
    have hp2 := hp.1
    have ee : (p : Int) - 1 = ((p - 1 : Nat) : Int) := by omega
    have p10 : 0 < p - 1 := by omega
    walk_at "g"
    refine s_gtup (SqT.of hP.at_) rfl ?_
    walk_at "g"
    refine s_i (by omega) ?_
    walk_at "g"
    refine s_ite (fun c => ?_) (fun c => ?_)
    · have hn : ¬ M.un p a := fun z => M.un_iff.mp z c
      walk_at "g"
      refine mkL (by simp) fun D H1 nD eD s1 => ?_
      walk_at "g"
      refine mkT (by simp) fun S H2 nS eS s2 => ?_
      walk_at "g"
      refine mkT (by simp) fun T H3 nT eT s3 => ?_
      refine k (fun z => hn z.1) [0] T D S H3 (M.kr_nought hp k0 (Int.dvd_of_emod_eq_zero c)) nD ((s2.trans s3) _ _ eD) (Same.none (s1.trans s2) nT) eT ⟨fun z => absurd z hn, fun z => absurd z hn, fun _ => s3 _ _ eS⟩ (fun z => by rw [z] at eD; rw [nS] at eD; cases eD) (by simp) (s1.trans (s2.trans s3))
    have hu := M.un_iff.mpr c
    walk_at "g"
    refine ⟨kk, (p : Int) - 1, rfl, by omega, by omega, fun g u' v' T1 I nT1 => ?_⟩
    have S1 : Same H (upd H T1 (.tup [.int g, .int u', .int v'])) := same_upd nT1
    have eT1 : upd H T1 (.tup [.int g, .int u', .int v']) T1 = some (.tup [.int g, .int u', .int v']) := upd_same
    generalize upd H T1 (.tup [.int g, .int u', .int v']) = H1 at S1 eT1 ⊢
    have hg : g = ((Nat.gcd kk (p - 1) : Nat) : Int) := by
      have := I.hg
      rw [ee] at this
      exact this
    clear I
    subst hg
    have g0 : 0 < Nat.gcd kk (p - 1) := Nat.gcd_pos_of_pos_right _ p10
    have gp := Nat.gcd_dvd_right kk (p - 1)
    have gk := Nat.gcd_dvd_left kk (p - 1)
    have gb := Nat.le_of_dvd p10 gp
    have hcopk : Nat.gcd (kk / Nat.gcd kk (p - 1)) ((p - 1) / Nat.gcd kk (p - 1)) = 1 := Nat.gcd_div_gcd_div_gcd_of_pos_left (by omega)
    have ekd : Nat.gcd kk (p - 1) * (kk / Nat.gcd kk (p - 1)) = kk := Nat.mul_div_cancel' gk
    have epd : Nat.gcd kk (p - 1) * ((p - 1) / Nat.gcd kk (p - 1)) = p - 1 := Nat.mul_div_cancel' gp
    have hnone := M.kr_none (p := p) (k := kk) (a := a) hp hu k0
    have hall := fun (root turn : Int) (ns : List Int) => M.kr_all (p := p) (k := kk) (d := Nat.gcd kk (p - 1)) (a := a) (root := root) (turn := turn) (ns := ns) hp hu rfl
    have eb : (p - 1) / Nat.gcd kk (p - 1) ≤ p - 1 := Nat.div_le_self _ _
    have hkb : kk / Nat.gcd kk (p - 1) ≤ kk := Nat.div_le_self _ _
    have e0 : 0 < (p - 1) / Nat.gcd kk (p - 1) := Nat.div_pos gb g0
    have rtN : ∀ H' s, H' s = some (.tup [.str "none", .int ((p - 1) / Nat.gcd kk (p - 1) : Nat), .int (M.pw p a ((p - 1) / Nat.gcd kk (p - 1)))]) → ¬ M.is1 p a ((p - 1) / Nat.gcd kk (p - 1)) → RtAt H' s p kk a [] := fun H' s h n => ⟨fun _ z => absurd z n, fun _ _ => h, fun z => absurd hu z⟩
    have rtT : ∀ H' s x xs (turn : Int), 0 < turn → turn < p → M.Ord p turn (Nat.gcd kk (p - 1)) → H' s = some (.tup [.str "turned", .int x, .int turn]) → M.is1 p a ((p - 1) / Nat.gcd kk (p - 1)) → (x :: xs).length = Nat.gcd kk (p - 1) → RtAt H' s p kk a (x :: xs) := fun H' s x xs turn t0 t1 o h n l => ⟨fun _ _ => ⟨turn, t0, t1, o, l, h⟩, fun _ z => absurd n z, fun z => absurd hu z⟩
    have hot : M.Ord p (M.pw p f ((p - 1) / Nat.gcd kk (p - 1))) (Nat.gcd kk (p - 1)) := by
      have h := hP.hf.full.pw ((p - 1) / Nat.gcd kk (p - 1))
      have g : Nat.gcd ((p - 1) / Nat.gcd kk (p - 1)) (p - 1) = (p - 1) / Nat.gcd kk (p - 1) := Nat.gcd_eq_left (Nat.div_dvd_of_dvd gp)
      rw [g, Nat.div_div_self gp (by omega)] at h
      exact h
    have eid : ((kk : Int) / ((Nat.gcd kk (p - 1) : Nat) : Int)) = ((kk / Nat.gcd kk (p - 1) : Nat) : Int) := (Int.natCast_ediv _ _).symm
    have eie : (((p - 1 : Nat) : Int) / ((Nat.gcd kk (p - 1) : Nat) : Int)) = (((p - 1) / Nat.gcd kk (p - 1) : Nat) : Int) := (Int.natCast_ediv _ _).symm
    generalize Nat.gcd kk (p - 1) = G at kE k hnone hall rtN rtT g0 gp gk gb hcopk ekd epd eb hkb e0 eT1 hot eid eie ⊢
    generalize (p - 1) / G = e at kE k hnone hall rtN rtT hcopk epd eb e0 hot eie
    generalize kk / G = kd at hcopk ekd hkb eid
    obtain ⟨s, _, hs⟩ := M.ord_powers hp hP.hf.full (M.fermat hp hu)
    have hs : M.al p a ((f : Int) ^ s) := hs
    walk_at "g"
    refine s_ixT (SqT.of eT1) (atI0 0 rfl rfl) ?_
    walk_at "g"
    refine s_i (divW (by omega) (by omega)) ?_
    rw [ee, eie]
    walk_at "g"
    refine pos_power (m := e) rfl (by omega) (by omega) ?_
    walk_at "g"
    have h1w := M.pw_one_iff hp2 (a := a) (e := e)
    refine s_iten (fun c2 => ?_) (fun c2 => ?_)
    · have hn : ¬ M.is1 p a e := fun z => c2 (h1w.mpr z)
      walk_at "g"
      refine mkL (by simp) fun D H2 nD eD s2 => ?_
      walk_at "g"
      refine mkT (by simp) fun S H3 nS eS s3 => ?_
      walk_at "g"
      refine mkT (by simp) fun T H4 nT eT s4 => ?_
      refine k (fun z => hn z.2.1) [] T D S H4 (hnone hn) (Same.none S1 nD) ((s3.trans s4) _ _ eD) (Same.none (S1.trans (s2.trans s3)) nT) eT (rtN _ _ (s4 _ _ eS) hn) (fun z => by rw [z] at eD; rw [nS] at eD; cases eD) (by simp) (S1.trans (s2.trans (s3.trans s4)))
    have hy := h1w.mp c2
    walk_at "g"
    refine s_ite (fun c3 => ?_) (fun c3 => ?_)
    · walk_at "g"
      refine s_raise (x_TooMany T).oex (x_TooMany T).noF fun d H2 hd hx hs2 => ?_
      exact kE hu hy (by omega) d H2 (Same.none S1 hd) (S1.trans hs2) hx
    have hkk := k (fun z => by omega)
    walk_at "g"
    refine pos_power (m := e) rfl (by omega) (by omega) ?_
    have htr := M.pw_range (n := (p : Int)) (by omega) f e
    have ht0 : M.pw p f e ≠ 0 := fun z => hot.unit hp (by rw [z]; exact Int.dvd_zero _)
    generalize M.pw p f e = turn at hot htr ht0 ⊢
    walk_at "g"
    refine s_i (divW (by omega) (by omega)) ?_
    rw [eid]
    walk_at "g"
    refine inv_call e0 (by omega) hcopk fun i1 H2 s2 i1b hi1 => ?_
    walk_at "g"
    refine pos_power (m := i1) rfl (by omega) (by omega) ?_
    have hcr := M.pw_range (n := (p : Int)) (by omega) a i1
    have hds : G ∣ s := by
      have h1 : M.al p ((f : Int) ^ (s * e)) 1 := by
        rw [Int.pow_mul]
        exact M.al_trans (M.al_symm (M.al_pow hs e)) hy
      have h2 : p - 1 ∣ s * e := hP.hf.full.dvd hp h1
      rw [← epd] at h2
      exact Nat.dvd_of_mul_dvd_mul_right e0 h2
    walk_at "g"
    refine ⟨m0, p, f, t0, u, pl, G, s * i1, _, rfl, (hP.same S1).same s2, hpb, g0, by omega, gp, Nat.dvd_trans hds (Nat.dvd_mul_right _ _), hcr.1, hcr.2, ?_, fun r H3 r0 r1 hr s3 => ?_⟩
    · refine M.al_trans (M.al_pw p a _) ?_
      rw [Int.pow_mul]
      exact M.al_pow hs i1
    have hrk : M.al p (r ^ kk) a := by
      rw [← ekd, Int.pow_mul]
      refine M.al_trans (M.al_pow (M.al_trans hr (M.al_pw p a _)) kd) ?_
      rw [← Int.pow_mul]
      have := M.pow_al hy hi1
      rwa [Int.pow_one] at this
    walk_at "g"
    refine ⟨p, G, r, turn, rfl, hp2, by omega, r0, r1, by omega, by omega, fun ns D H4 pm srt nD s4 eD => ?_⟩
    have hlen := pm.length_eq
    rw [List.length_map, List.length_range] at hlen
    have hIs := hall r turn ns hrk hot pm srt k0
    cases ns with
    | nil => simp at hlen; omega
    | cons x xs =>
      have S3 := S1.trans (s2.trans s3)
      walk_at "g"
      refine s_ixL (SqL.of eD) (atI0 0 rfl rfl) ?_
      walk_at "g"
      refine mkT (by simp) fun S H5 nS eS s5 => ?_
      walk_at "g"
      refine mkT (by simp) fun T H6 nT eT s6 => ?_
      refine hkk (x :: xs) T D S H6 hIs (Same.none S3 nD) ((s5.trans s6) _ _ eD) (Same.none (S3.trans (s4.trans s5)) nT) eT (rtT _ _ x xs turn (by omega) htr.2 hot (s6 _ _ eS) hy hlen) (fun z => by rw [z] at eD; rw [nS] at eD; cases eD) (by omega) (S3.trans (s4.trans (s5.trans s6)))

/-- joined(one, other) of two places that are alike -/
def sp_joined : Sp := fun vs H Q _ => ∃ (p q : Addr) (m r n s : Int), vs = [.ref p, .ref q] ∧ H p = some (.tup [.int m, .int r]) ∧ H q = some (.tup [.int n, .int s]) ∧ 0 < m ∧ 0 < n ∧ m < 2 ^ 800 ∧ n < 2 ^ 100 ∧
  0 ≤ r ∧ r < 2 ^ 800 ∧ s.natAbs < 2 ^ 800 ∧ M.alike m r n s ∧ ∀ t H' w x, M.Joined m r n s w x → Same H H' → H' t = some (.tup [.int w, .int x]) → Q (.ref t) H'
theorem ok_joined (T : Txt K mg) : FnOk P w K mg base CX0 6 (He.ga K "joined") (fd_joined T) ["one", "other"] sp_joined := by
  refine (F_joined T).ok sc_joined (fun vs H Q E h => ?_) (fun cdv A outer s H vs Q E hr h => ⟨_, PSs.nox (pss_cons (ps_set (i := 2) sc_joined.nd rfl (Or.inl rfl) (pe_ix ix_seq (pe_call (ok_divisor T) (hr.mono (by decide)) rfl (g_divisor T) (kp_divisor T) (B_divisor T) .nil pass0 (pa_cons (pe_ix ix_seq (pv 0) pe_int (fun _ _ => rfl)) (pa_cons (pe_ix ix_seq (pv 1) pe_int (fun _ _ => rfl)) pa_nil))) pe_int (fun _ _ => rfl)))
      (pss_cons (ps_set (i := 3) sc_joined.nd rfl (Or.inl rfl) (pe_op op_fdivW (pe_ix ix_seq (pv 1) pe_int (fun _ _ => rfl)) (pv 2)))
      (pss_cons (ps_set (i := 4) sc_joined.nd rfl (Or.inl rfl) (pe_op op_mod (pe_op op_mulW (pe_op op_fdivW (pe_op op_sub (pe_ix ix_seq (pv 1) pe_int (fun _ _ => rfl)) (pe_ix ix_seq (pv 0) pe_int (fun _ _ => rfl))) (pv 2)) (pe_call (ok_inverse T) (hr.mono (by decide)) rfl (g_inverse T) (kp_inverse T) (B_inverse T) .nil passL (pa_cons (pv 3) (pa_cons (pe_op op_fdivW (pe_ix ix_seq (pv 0) pe_int (fun _ _ => rfl)) (pv 2)) pa_nil)))) (pv 3)))
      (pss_cons (ps_set (i := 5) sc_joined.nd rfl (Or.inl rfl) (pe_op op_mulW (pe_ix ix_seq (pv 0) pe_int (fun _ _ => rfl)) (pv 3)))
      (pss_one (ps_ret (pe_tup (pa_cons (pv 5) (pa_cons (pe_op op_mod (pe_op op_add (pe_ix ix_seq (pv 0) pe_int (fun _ _ => rfl)) (pe_op op_mulW (pe_ix ix_seq (pv 0) pe_int (fun _ _ => rfl)) (pv 4))) (pv 5)) pa_nil))))))))), ?_⟩)
  · obtain ⟨p, q, m, r, n, s, rfl, _⟩ := h; rfl
  · obtain ⟨p, q, m, r, n, s, rfl, hp, hq, m0, n0, m1, n1, r0, r1, s1, al, k⟩ := h
    have gp : 0 < (Int.gcd m n : Nat) := Int.gcd_pos_of_ne_zero_left n (by omega)
    walk_at "g"
    refine s_ixT (SqT.of hp) (atI0 0 rfl rfl) ?_
    walk_at "g"
    refine s_ixT (SqT.of hq) (atI0 0 rfl rfl) ?_
    walk_at "g"
    refine ⟨m, n, rfl, by omega, by omega, fun g u v t I ht => ?_⟩
    have S1 : Same H (upd H t (.tup [.int g, .int u, .int v])) := same_upd ht
    have T1 : upd H t (.tup [.int g, .int u, .int v]) t = some (.tup [.int g, .int u, .int v]) := upd_same
    generalize upd H t (.tup [.int g, .int u, .int v]) = H1 at S1 T1 ⊢
    have hg := I.hg
    walk_at "g"
    refine s_ixT (SqT.of T1) (atI0 0 rfl rfl) ?_
    walk_at "g"
    refine s_ixT (SqT.of (S1 _ _ hq)) (atI0 0 rfl rfl) ?_
    have gl : g ≤ n := by rw [hg]; exact Int.le_of_dvd n0 (Int.gcd_dvd_right ..)
    have gl2 : g ≤ m := by rw [hg]; exact Int.le_of_dvd m0 (Int.gcd_dvd_left ..)
    have g0 : 0 < g := by omega
    walk_at "g"
    refine s_i (divW g0 (by omega)) ?_
    walk_at "g"
    refine s_ixT (SqT.of (S1 _ _ hq)) (atI0 1 rfl rfl) ?_
    walk_at "g"
    refine s_ixT (SqT.of (S1 _ _ hp)) (atI0 1 rfl rfl) ?_
    walk_at "g"
    refine s_i (divW g0 (by omega)) ?_
    walk_at "g"
    refine s_ixT (SqT.of (S1 _ _ hp)) (atI0 0 rfl rfl) ?_
    walk_at "g"
    refine s_i (divW g0 (by omega)) ?_
    have st0 : 0 < n / g := Int.ediv_pos_of_pos_of_dvd n0 (by omega) (by rw [hg]; exact Int.gcd_dvd_right ..)
    have st1 : n / g ≤ n := Int.ediv_le_self _ (by omega)
    have c1 : Int.gcd (m / g) (n / g) = 1 := by rw [hg]; exact Int.gcd_ediv_gcd_ediv_gcd gp
    walk_at "g"
    refine ⟨n / g, m / g, rfl, st0, by omega, fun _ H2 b s2 b0 b1 hb => ?_, fun z => absurd c1 z⟩
    have d1 : ((s - r) / g).natAbs ≤ (s - r).natAbs := Int.natAbs_ediv_le_natAbs _ _
    walk_at "g"
    refine s_i (by omega) ?_
    have S2 := S1.trans s2
    rw [hg] at hb
    have J := M.join_ok m0 n0 al hb
    rw [← hg] at J
    have t0 := Int.emod_nonneg ((s - r) / g * b) (show n / g ≠ 0 by omega)
    have t1 := Int.emod_lt_of_pos ((s - r) / g * b) st0
    have w0 : 0 < m * (n / g) := Int.mul_pos m0 st0
    generalize (s - r) / g * b % (n / g) = T0 at J t0 t1 ⊢
    walk_at "g"
    refine s_ixT (SqT.of (S2 _ _ hp)) (atI0 0 rfl rfl) ?_
    walk_at "g"
    refine s_ixT (SqT.of (S2 _ _ hp)) (atI0 1 rfl rfl) ?_
    walk_at "g"
    refine s_ixT (SqT.of (S2 _ _ hp)) (atI0 0 rfl rfl) ?_
    walk_at "g"
    refine s_i (by omega) ?_
    walk_at "g"
    refine mkT (by simp) fun t2 H3 n3 e3 s3 => ?_
    exact k t2 H3 _ _ J (S2.trans s3) e3

/-- a list of papers -/
def PapsAt (n : Nat) (H : Hp) (D : Addr) (ps : List (Addr × Nat)) : Prop := H D = some (.lst (ps.map fun x => V.ref x.1)) ∧ ∀ x ∈ ps, PaperAt n H x.1 x.2
theorem PapsAt.same {n : Nat} {H H' : Hp} {D : Addr} {ps : List (Addr × Nat)} (h : PapsAt n H D ps) (s : Same H H') : PapsAt n H' D ps := ⟨s _ _ h.1, fun x hx => (h.2 x hx).same s⟩
theorem ps_get {ps : List (Addr × Nat)} {i : Nat} {x : V} (h : (ps.map fun x => V.ref x.1)[i]? = some x) : ∃ t p, ps[i]? = some (t, p) ∧ x = .ref t := by
  rw [List.getElem?_map] at h
  obtain ⟨⟨t, p⟩, h1, rfl⟩ := Option.map_eq_some_iff.mp h
  exact ⟨t, p, h1, rfl⟩

theorem PaperAt.sameB : ∀ {n : Nat} {H H' : Hp} {t s : Addr} {p : Nat}, PaperAt n H t p → StAt H s → SameB s H H' → PaperAt n H' t p
  | 0, _, _, _, _, _, h, _, _ => h.elim
  | n + 1, H, H', t, s, p, ⟨f, u, xs, l, e1, e2, hp, hf, hl, pr⟩, st, sb => by
    have fr : ∀ {r : List V} {b : Addr}, H b = some (.tup r) → H' b = some (.tup r) := fun {r b} e => sb _ _ (fun z => by
      obtain ⟨_, _, e0, _⟩ := st
      rw [z, e0] at e; cases e) e
    exact ⟨f, u, xs, l, fr e1, fr e2, hp, hf, hl, paired_mono (fun _ _ ⟨a, b, e, h1, h2⟩ => ⟨a, b, e, fr h1, h2.sameB st sb⟩) pr⟩
theorem StAt.upd {H : Hp} {s l : Addr} {xs : List V} {o : HO} (h : StAt H s) (hl : H l = some (.lst xs)) : StAt (L2.upd H l o) s := by
  obtain ⟨a, b, e, k⟩ := h
  exact ⟨a, b, by rw [upd_ne (fun z => by rw [z, hl] at e; cases e)]; exact e, k⟩

theorem dp_ints {K : PySem.W.Frag} {H : Hp} {q : Addr} {l : List Int} (h : H q = some (.lst (l.map V.int))) : Dp K H (.ref q) (.list (l.map PyData.int)) := by
  refine .lst (SqL.of h) ?_
  clear h
  induction l with
  | nil => exact .nil
  | cons n l ih => exact .cons (.int _) ih
theorem sh_ints (l : List Int) : SeqAt.shaped (.list (l.map PyData.int)) = true := shapedL fun d hd => by
  obtain ⟨q, _, rfl⟩ := List.mem_map.mp hd
  exact ⟨rfl, Nat.zero_le _⟩
theorem eqv_nil (l : List Int) : PyData.eqv (.list (l.map PyData.int)) (.list []) = decide (l = []) := by
  cases l with
  | nil => simp [PyData.eqv, PyData.eqvAll]
  | cons a l => simp [PyData.eqv, PyData.eqvAll]

theorem s_callSD {sp : Sp} {dvs : List V} {E : L2.St → XK} {tl : L2.TA} {σ : L2.St} {H : Hp} {Q : V → Hp → Prop} (h : tl σ H fun vs H1 => sp (vs ++ dvs) H1 Q (E σ)) : L2.tCallSD sp dvs E tl σ H Q := h

theorem s_enumL {K : PySem.W.Frag} {ta : TA} {σ : L2.St} {H : Hp} {R : It → Hp → Prop} (h : ta σ H fun vs H1 => ∃ a xs, vs = [.ref a] ∧ SqL K H1 a xs ∧ R (Ite K a) H1) : iEnum K ta σ H R := h
theorem TupsIn.tups {H H' : Hp} (s : ∀ b r, H b = some (.tup r) → H' b = some (.tup r)) {xs : List V} {rs : List (List V)} (h : TupsIn H xs rs) : TupsIn H' xs rs := paired_mono (fun _ _ ⟨t, e, h1⟩ => ⟨t, e, s _ _ h1⟩) h
theorem s_extend {l b : Addr} {xs zs : List V} {H : Hp} {Q : VK} (hl : H l = some (.lst xs)) (hb : H b = some (.lst zs)) (hn : xs.length + zs.length ≤ 1000) (h : Q .non (upd H l (.lst (xs ++ zs)))) : rExtend (.ref l) [.ref b] H Q := ⟨l, b, xs, zs, rfl, rfl, hl, hb, Nat.le_of_lt (small1000 hn), h⟩
/-- how many roots there are by a prime -/
def RCnt (p k : Nat) (a : Int) (c : Nat) : Prop := (¬ M.un p a → c = 1) ∧ (M.un p a → M.is1 p a ((p - 1) / Nat.gcd k (p - 1)) → c = Nat.gcd k (p - 1)) ∧ (M.un p a → ¬ M.is1 p a ((p - 1) / Nat.gcd k (p - 1)) → c = 0)
theorem kr_cnt {p k c : Nat} {a : Int} {xs : List Int} (hp : M.Prime p) (hk : 0 < k) (hx : M.IsKR p k a xs) (hc : RCnt p k a c) : xs.length = c := by
  by_cases hu : M.un p a
  · by_cases h1 : M.is1 p a ((p - 1) / Nat.gcd k (p - 1))
    · rw [hc.2.1 hu h1]; exact M.kr_len hp hu hk h1 hx
    · rw [hc.2.2 hu h1, hx.unique (M.kr_none hp hu hk h1)]; rfl
  · rw [hc.1 hu, hx.unique (M.kr_nought hp hk (Classical.byContradiction fun z => hu z))]; rfl
/-- roots_by(paper, k, a) -/
def sp_roots_by : Sp := fun vs H Q _ => ∃ (m p f : Nat) (t u : Addr) (pl : List (Addr × Nat × Nat)) (k : Nat) (a : Int), vs = [.ref t, .int (k : Nat), .int a] ∧ Pap m H t p f u pl ∧ p < 2 ^ 60 ∧ 0 < k ∧ k < 2 ^ 400 ∧
  (∀ (c : Nat) (T W : Addr) H', RCnt p k a c → 0 < c → c ≤ p → H' T = some (.tup [.int (c : Nat), .ref W]) → Same H H' → Q (.ref T) H') ∧
  (M.un p a → ¬ M.is1 p a ((p - 1) / Nat.gcd k (p - 1)) → ∀ (T W : Addr) H', H' T = some (.tup [.int 0, .ref W]) → H' W = some (.tup [.int ((p - 1) / Nat.gcd k (p - 1) : Nat), .int (M.pw p a ((p - 1) / Nat.gcd k (p - 1)))]) → Same H H' → Q (.ref T) H')
theorem ok_roots_by (T : Txt K mg) : FnOk P w K mg base CX0 8 (He.ga K "roots_by") (fd_roots_by T) ["paper", "k", "a"] sp_roots_by := by
  refine (F_roots_by T).ok sc_roots_by (fun vs H Q E h => ?_) (fun cdv A outer s H vs Q E hr h => ⟨_, PSs.nox (pss_cons (ps_set (i := 3) sc_roots_by.nd rfl (Or.inl rfl) (pe_ix ix_seq (pv 0) pe_int (fun _ _ => rfl)))
      (pss_cons (ps_if (pt_cmpR op_eq (pe_op op_mod (pv 2) (pv 3)) pe_int (nomark _)) (pss_one (ps_ret (pe_tup (pa_cons pe_int (pa_cons (pe_tup pa_nil) pa_nil))))) pss_nil)
      (pss_cons (ps_set (i := 4) sc_roots_by.nd rfl (Or.inl rfl) (pe_ix ix_seq (pe_call (ok_divisor T) (hr.mono (by decide)) rfl (g_divisor T) (kp_divisor T) (B_divisor T) .nil pass0 (pa_cons (pv 1) (pa_cons (pe_op op_sub (pv 3) pe_int) pa_nil))) pe_int (fun _ _ => rfl)))
      (pss_cons (ps_set (i := 5) sc_roots_by.nd rfl (Or.inl rfl) (pe_op op_fdivW (pe_op op_sub (pv 3) pe_int) (pv 4)))
      (pss_cons (ps_set (i := 6) sc_roots_by.nd rfl (Or.inl rfl) (pe_call (ok_power T) (hr.mono (by decide)) rfl (g_power T) (kp_power T) (B_power T) .nil passL (pa_cons (pv 3) (pa_cons (pv 2) (pa_cons (pv 5) pa_nil)))))
      (pss_cons (ps_if (pt_cmpR op_ne (pv 6) pe_int (nomark _)) (pss_one (ps_ret (pe_tup (pa_cons pe_int (pa_cons (pe_tup (pa_cons (pv 5) (pa_cons (pv 6) pa_nil))) pa_nil))))) pss_nil)
      (pss_one (ps_ret (pe_tup (pa_cons (pv 4) (pa_cons (pe_tup pa_nil) pa_nil))))))))))), ?_⟩)
  · obtain ⟨m, p, f, t, u, pl, k, a, rfl, _⟩ := h; rfl
  · obtain ⟨m, p, f, t, u, pl, kk, a, rfl, hP, hpb, k0, kb, k1, k2⟩ := h
    have hp := hP.hp
    have hp2 := hp.1
    have ee : (p : Int) - 1 = ((p - 1 : Nat) : Int) := by omega
    have p10 : 0 < p - 1 := by omega
    walk_at "g"
    refine s_ixT (SqT.of hP.at_) (atI0 0 rfl rfl) ?_
    walk_at "g"
    refine s_i (by omega) ?_
    walk_at "g"
    refine s_ite (fun c => ?_) (fun c => ?_)
    · have hn : ¬ M.un p a := fun z => M.un_iff.mp z c
      walk_at "g"
      refine mkT (by simp) fun W H1 nW eW s1 => ?_
      walk_at "g"
      refine mkT (by simp) fun T H2 nT eT s2 => ?_
      walk_at "g"
      exact k1 1 T W H2 ⟨fun _ => rfl, fun z => absurd z hn, fun z => absurd z hn⟩ (by decide) (by omega) eT (s1.trans s2)
    have hu := M.un_iff.mpr c
    walk_at "g"
    refine ⟨kk, (p : Int) - 1, rfl, by omega, by omega, fun g u' v' T1 I nT1 => ?_⟩
    have S1 : Same H (upd H T1 (.tup [.int g, .int u', .int v'])) := same_upd nT1
    have eT1 : upd H T1 (.tup [.int g, .int u', .int v']) T1 = some (.tup [.int g, .int u', .int v']) := upd_same
    generalize upd H T1 (.tup [.int g, .int u', .int v']) = H1 at S1 eT1 ⊢
    have hg : g = ((Nat.gcd kk (p - 1) : Nat) : Int) := by
      have := I.hg
      rw [ee] at this
      exact this
    clear I
    subst hg
    have g0 : 0 < Nat.gcd kk (p - 1) := Nat.gcd_pos_of_pos_right _ p10
    have gb := Nat.le_of_dvd p10 (Nat.gcd_dvd_right kk (p - 1))
    have eb : (p - 1) / Nat.gcd kk (p - 1) ≤ p - 1 := Nat.div_le_self _ _
    have eie : (((p - 1 : Nat) : Int) / ((Nat.gcd kk (p - 1) : Nat) : Int)) = (((p - 1) / Nat.gcd kk (p - 1) : Nat) : Int) := (Int.natCast_ediv _ _).symm
    have c1 : ∀ T W H', M.is1 p a ((p - 1) / Nat.gcd kk (p - 1)) → H' T = some (.tup [.int (Nat.gcd kk (p - 1) : Nat), .ref W]) → Same H H' → _ := fun T W H' h1 => k1 (Nat.gcd kk (p - 1)) T W H' ⟨fun z => absurd hu z, fun _ _ => rfl, fun _ z => absurd h1 z⟩ g0 (by omega)
    clear k1
    generalize Nat.gcd kk (p - 1) = G at k2 c1 g0 gb eb eT1 eie
    generalize (p - 1) / G = e at k2 c1 eb eie
    walk_at "g"
    refine s_ixT (SqT.of eT1) (atI0 0 rfl rfl) ?_
    walk_at "g"
    refine s_i (divW (by omega) (by omega)) ?_
    rw [ee, eie]
    walk_at "g"
    refine pos_power (m := e) rfl (by omega) (by omega) ?_
    walk_at "g"
    have h1w := M.pw_one_iff hp2 (a := a) (e := e)
    refine s_iten (fun c2 => ?_) (fun c2 => ?_)
    · have hn : ¬ M.is1 p a e := fun z => c2 (h1w.mpr z)
      walk_at "g"
      refine mkT (by simp) fun W H2 nW eW s2 => ?_
      walk_at "g"
      refine mkT (by simp) fun T H3 nT eT s3 => ?_
      walk_at "g"
      exact k2 hu hn T W H3 eT (s3 _ _ eW) (S1.trans (s2.trans s3))
    · walk_at "g"
      refine mkT (by simp) fun W H2 nW eW s2 => ?_
      walk_at "g"
      refine mkT (by simp) fun T H3 nT eT s3 => ?_
      walk_at "g"
      exact c1 T W H3 (h1w.mp c2) eT (S1.trans (s2.trans s3))
/-- lists of roots -/
def LsAt (H : Hp) (vs : List V) (ls : List (List Int)) : Prop := Paired (fun v (l : List Int) => ∃ b, v = .ref b ∧ H b = some (.lst (l.map V.int))) vs ls
theorem LsAt.same {H H' : Hp} {vs : List V} {ls : List (List Int)} (h : LsAt H vs ls) (s : Same H H') : LsAt H' vs ls := paired_mono (fun _ _ ⟨b, e, h⟩ => ⟨b, e, s _ _ h⟩) h
theorem unlike_take {ps : List Nat} (h : ps.Nodup) {i p : Nat} (hp : ps[i]? = some p) : ∀ z ∈ ps.take i, z ≠ p := fun z hz e => by
  have h2 : ps.take (i + 1) = ps.take i ++ [p] := take_more hp
  have h3 : (ps.take (i + 1)).Nodup := h.sublist (List.take_sublist _ _)
  rw [h2] at h3
  exact (List.nodup_append.mp h3).2.2 z hz p (by simp) e
def plW (W : Nat) (xs : List Int) : List (List V) := xs.map fun x => [V.int (W : Nat), V.int x]
theorem plW_snoc (W : Nat) (xs : List Int) (x : Int) : plW W (xs ++ [x]) = plW W xs ++ [[V.int (W : Nat), V.int x]] := by unfold plW; rw [List.map_append]; rfl
theorem plW_app (W : Nat) (xs ys : List Int) : plW W (xs ++ ys) = plW W xs ++ plW W ys := by unfold plW; rw [List.map_append]
theorem tups_app {H : Hp} : ∀ {xs ys : List V} {rs ts : List (List V)}, TupsIn H xs rs → TupsIn H ys ts → TupsIn H (xs ++ ys) (rs ++ ts)
  | _, _, _, _, .nil, h => h
  | _, _, _, _, .cons f r, h => .cons f (tups_app r h)
/-- each_with_each(papers, lists) -/
def sp_each_with_each (K : PySem.W.Frag) : Sp := fun vs H Q _ => ∃ (n : Nat) (D O : Addr) (ps : List (Addr × Nat)) (os : List V) (ls : List (List Int)), vs = [.ref D, .ref O] ∧ PapsAt n H D ps ∧ (ps.map (·.2)).Nodup ∧ (∀ x ∈ ps, x.2 ≤ 1000000000) ∧ ps.length ≤ 5 ∧ H O = some (.lst os) ∧ LsAt H os ls ∧ ls.length = ps.length ∧
  (∀ l ∈ ls, 0 < l.length ∧ l.Nodup) ∧ M.prodN (ls.map List.length) ≤ 400 ∧ (∀ (i p : Nat) (l : List Int), (ps.map (·.2))[i]? = some p → ls[i]? = some l → ∀ z ∈ l, 0 ≤ z ∧ z < p) ∧
  ∀ xs F H', xs.Pairwise (· < ·) → M.Mixed (ps.map (·.2)) ls xs → H F = none → H' F = some (.lst (xs.map V.int)) → Same H H' → Q (.ref F) H'
theorem ok_each_with_each (T : Txt K mg) : FnOk P w K mg base CX0 7 (He.ga K "each_with_each") (fd_each_with_each T) ["papers", "lists"] (sp_each_with_each K) := by
  refine (F_each_with_each T).ok sc_each_with_each (fun vs H Q E h => ?_) (fun cdv A outer s H vs Q E hr h => ⟨_, PSs.nox (pss_cons (ps_set (i := 2) sc_each_with_each.nd rfl (Or.inl rfl) (pe_lst (pa_cons (pe_tup (pa_cons pe_int (pa_cons pe_int pa_nil))) pa_nil)))
      (pss_cons (ps_for PassesOwn.never rfl (RZ.pi_zipA rfl (T.fr (T.c.fact 56 rfl)) (pa_cons (pv 0) (pa_cons (pv 1) pa_nil))) (pg_tup rfl (pgs_cons (pg_name (i := 3) sc_each_with_each.nd rfl (Or.inr rfl)) (pgs_cons (pg_name (i := 4) sc_each_with_each.nd rfl (Or.inl rfl)) pgs_nil))) (pss_cons (ps_set (i := 5) sc_each_with_each.nd rfl (Or.inl rfl) (pe_lst pa_nil))
      (pss_cons (ps_for PassesOwn.never rfl (pi_list (pv 4)) (pg_name (i := 6) sc_each_with_each.nd rfl (Or.inr rfl)) (pss_one (ps_expr (pe_bm PySem.F.plainAttrs_list PySem.F.slot_list_extend PySem.F.type_list_extend mt_extend (pv 5) (pa_cons (pe_lc (own := [("place", 7)]) (tt := tYes) rfl sc_each_with_each.nd (pi_list (pv 2)) (blkOk_by (N := N_each_with_each) (sc := defScope s_each_with_each) (by decide +kernel)) (fun _ _ _ _ _ => (pg_name (i := 7) sc_each_with_each.nd rfl (Or.inl rfl))) (fun _ _ _ _ _ => pts_nil) (fun _ _ _ _ _ => (pe_call (ok_joined T) (hr.mono (by decide)) rfl (g_joined T) (kp_joined T) (B_joined T) .nil pass0 (pa_cons (pv 7) (pa_cons (pe_tup (pa_cons (pe_ix (R.ix_seqK K rfl) (pv 3) pe_int (fun _ _ => rfl)) (pa_cons (pv 6) pa_nil))) pa_nil))))) pa_nil)))))
      (pss_one (ps_set (i := 2) sc_each_with_each.nd rfl (Or.inl rfl) (pv 5))))))
      (pss_one (ps_ret (pe_callB cr_sortedI rfl (T.fr (T.c.fact 55 rfl)) boot_sorted (pa_cons (pe_lc (own := [("place", 7)]) (tt := tYes) rfl sc_each_with_each.nd (pi_list (pv 2)) (blkOk_by (N := N_each_with_each) (sc := defScope s_each_with_each) (by decide +kernel)) (fun _ _ _ _ _ => (pg_name (i := 7) sc_each_with_each.nd rfl (Or.inl rfl))) (fun _ _ _ _ _ => pts_nil) (fun _ _ _ _ _ => (pe_ix (R.ix_seqK K rfl) (pv 7) pe_int (fun _ _ => rfl)))) pa_nil)))))), ?_⟩)
  · obtain ⟨n, D, O, ps, os, ls, rfl, _⟩ := h; rfl
  · obtain ⟨n, D, O, ps, os, ls, rfl, hP, hnd, hpb, hpl, eO, hO, hll, hl0, hmany, hin, k⟩ := h
    have hol : os.length = ps.length := by rw [hO.length]; exact hll
    have hpr : ∀ x ∈ ps, M.Prime x.2 := fun x hx => by
      obtain ⟨_, _, _, _, _, hq⟩ := (hP.2 x hx).pap'
      exact hq.hp
    have hpm : ∀ z ∈ ps.map (·.2), M.Prime z ∧ z ≤ 1000000000 := fun z hz => by
      obtain ⟨x, hx, rfl⟩ := List.mem_map.mp hz
      exact ⟨hpr x hx, hpb x hx⟩
    have hW : ∀ i, 0 < M.prodN ((ps.map (·.2)).take i) ∧ M.prodN ((ps.map (·.2)).take i) < 2 ^ 200 := fun i => by
      have h1 := M.prodN_pos (l := (ps.map (·.2)).take i) fun z hz => (hpm z (List.mem_of_mem_take hz)).1.pos
      have h2 := M.prodN_take (l := ps.map (·.2)) (fun z hz => (hpm z hz).1.pos) i
      have h3 := M.prodN_bd (l := ps.map (·.2)) (B := 1000000000) fun z hz => (hpm z hz).2
      rw [List.length_map] at h3
      have h4 : 1000000000 ^ ps.length ≤ 1000000000 ^ 5 := Nat.pow_le_pow_right (by decide) hpl
      have h5 : (1000000000 : Nat) ^ 5 < 2 ^ 200 := by decide
      exact ⟨h1, by omega⟩
    have hlen : ∀ i, M.prodN ((ls.take i).map List.length) ≤ 400 := fun i => by
      rw [List.map_take]
      exact Nat.le_trans (M.prodN_take (fun z hz => by
        obtain ⟨l, hl, rfl⟩ := List.mem_map.mp hz
        exact (hl0 l hl).1) i) hmany
    walk_at "g"
    refine mkT (by simp) fun T0 H1 nT0 eT0 s1 => ?_
    walk_at "g"
    refine mkL (by simp) fun F0 H2 nF0 eF0 s2 => ?_
    walk_at "g"
    have S2 := s1.trans s2
    refine ⟨D, O, _, _, rfl, .inl ⟨SqL.of (S2 _ _ hP.1), SqL.of (S2 _ _ eO), ?_⟩⟩
    refine for_it (walk_zip (xs := ps.map fun x => V.ref x.1) (ys := os) (n := ps.length) (by rw [List.length_map]; omega)) (fun i σ H' => Same H H' ∧ (∃ (F : Addr) (vs : List V) (xs : List Int), H' F = some (.lst vs) ∧ TupsIn H' vs (plW (M.prodN ((ps.map (·.2)).take i)) xs) ∧ M.Mixed ((ps.map (·.2)).take i) (ls.take i) xs ∧ ∃ v3 v4 v5 v6 v7 : Option V, σ = [some (.ref D), some (.ref O), some (.ref F), v3, v4, v5, v6, v7]))
      ⟨S2, F0, _, [0], eF0, .cons ⟨T0, rfl, s2 _ _ eT0⟩ .nil, by rw [List.take_zero, List.take_zero]; exact M.mixed_nil, _, _, _, _, _, rfl⟩ (fun i σ H' _ I => ⟨SqL.of (I.1 _ _ hP.1), SqL.of (I.1 _ _ eO)⟩) ?_ ?_
    · rintro i v σ H3 H4 hi ⟨s3, F, vs, xs, eF, hvs, hmx, v3, v4, v5, v6, v7, rfl⟩ ⟨T, x1, y1, rfl, nT, rfl, hx0, hy⟩
      obtain ⟨t, p, hx, rfl⟩ := ps_get hx0
      have hy : os[i]? = some y1 := hy
      obtain ⟨l, hl, b, rfl, eb⟩ := pget hO hy
      have hpi : (ps.map (·.2))[i]? = some p := by rw [List.getElem?_map, hx]; rfl
      have hp := hpr _ (List.mem_of_getElem? hx)
      have hp9 := hpb _ (List.mem_of_getElem? hx)
      have hp : M.Prime p := hp
      have hp9 : p ≤ 1000000000 := hp9
      have hp0 := hp.pos
      obtain ⟨hw0, hw9⟩ := hW i
      have hw1 := hW (i + 1)
      have eW : M.prodN ((ps.map (·.2)).take (i + 1)) = M.prodN ((ps.map (·.2)).take i) * p := by rw [take_more hpi, M.prodN_snoc]
      have hgc : Nat.gcd (M.prodN ((ps.map (·.2)).take i)) p = 1 := M.prodN_gcd hp fun z hz => ⟨(hpm z (List.mem_of_mem_take hz)).1, unlike_take hnd hpi z hz⟩
      have hlb := hin i p l hpi hl
      have hlnd := (hl0 l (List.mem_of_getElem? hl)).2
      have hcount : xs.length * l.length ≤ 400 := by
        have h1 := hlen (i + 1)
        rw [take_more hl, List.map_append, List.map_cons, List.map_nil, M.prodN_snoc, ← hmx.len] at h1
        exact h1
      have hl1 := (hl0 l (List.mem_of_getElem? hl)).1
      have hxs9 : xs.length ≤ 400 := Nat.le_trans (Nat.le_mul_of_pos_right _ hl1) hcount
      have hx1 : ∀ x ∈ xs, 0 ≤ x ∧ x < (M.prodN ((ps.map (·.2)).take i) : Nat) := fun x hx => ⟨((hmx.iff x).mp hx).1, ((hmx.iff x).mp hx).2.1⟩
      have hmore := fun ys => M.mixed_more (ys := ys) (l := l) (p := p) hmx (by rw [List.length_take, List.length_take, List.length_map]; omega) hw0
      rw [← take_more hpi, ← take_more hl] at hmore
      have hxnd := hmx.nd
      rw [eW]
      rw [eW] at hw1
      clear hmx hW hlen
      generalize M.prodN ((ps.map (·.2)).take i) = W at *
      have s4 : Same H3 (upd H3 T (.tup [.ref t, .ref b])) := same_upd nT
      have eT : upd H3 T (.tup [.ref t, .ref b]) T = some (.tup [.ref t, .ref b]) := upd_same
      generalize upd H3 T (.tup [.ref t, .ref b]) = H4 at s4 eT ⊢
      obtain ⟨f0, u0, e1⟩ := (hP.2 _ (List.mem_of_getElem? hx)).first
      have S4 := s3.trans s4
      refine s_gtup (SqT.of eT) rfl ?_
      walk_at "g"
      refine mkL (by simp) fun R H5 nR eR s5 => ?_
      have S5 := S4.trans s5
      walk_at "g"
      refine ⟨⟨_, SqL.of (S5 _ _ eb)⟩, ?_⟩
      have hvl : vs.length = xs.length := by rw [hvs.length]; unfold plW; rw [List.length_map]
      refine for_list (fun j σ H' => Same H4 H' ∧ (∃ (ws : List V) (ys : List Int), H' R = some (.lst ws) ∧ TupsIn H' ws (plW (W * p) ys) ∧ M.Col W p xs (l.take j) ys) ∧ ∃ v6 v7 : Option V, σ = [some (.ref D), some (.ref O), some (.ref F), some (.ref t), some (.ref b), some (.ref R), v6, v7]) ⟨s5, ⟨[], [], eR, .nil, by rw [List.take_zero]; exact M.col_nil_s _ _ _⟩, _, _, rfl⟩ (fun j σ H' _ I => SqL.of ((S4.trans I.1) _ _ eb)) ?_ ?_
      · rintro j v σ H6 hj ⟨s6, ⟨ws, ys, eR6, hws, hcol⟩, v6, v7, rfl⟩
        rw [List.getElem?_map] at hj
        obtain ⟨sn, hsn, rfl⟩ := Option.map_eq_some_iff.mp hj
        obtain ⟨sn0, sn1⟩ := hlb sn (List.mem_of_getElem? hsn)
        have S6 := S4.trans s6
        have eF6 := (s4.trans s6) _ _ eF
        have hvs6 := hvs.same (s4.trans s6)
        have hjl := (List.getElem?_eq_some_iff.mp hsn).1
        have hsnn : sn ∉ l.take j := fun z => by
          have h3 : (l.take (j + 1)).Nodup := hlnd.sublist (List.take_sublist _ _)
          rw [take_more hsn] at h3
          exact (List.nodup_append.mp h3).2.2 sn z sn (by simp) rfl
        walk_at "g"
        refine ⟨s_tyL eR6, ?_⟩
        walk_at "g"
        refine s_lc ?_
        walk_at "g"
        refine ⟨⟨_, SqL.of eF6⟩, fun C hC => ?_⟩
        refine lc_list (fun m H' => Same H6 H' ∧ ∃ (cs : List V) (ys : List Int), H' C = some (.lst cs) ∧ TupsIn H' cs (plW (W * p) ys) ∧ M.Col W p (xs.take m) [sn] ys) ⟨same_upd hC, [], [], upd_same, .nil, by rw [List.take_zero]; exact M.col_nil_x _ _ _⟩ (fun m H' _ I => SqL.of (I.1 _ _ eF6)) ?_ ?_
        · rintro m v H7 hm ⟨s7, cs, zs, eC, hcs, hcol7⟩
          obtain ⟨r, hr, tv, rfl, etv⟩ := pget hvs6 hm
          unfold plW at hr
          rw [List.getElem?_map] at hr
          obtain ⟨x, hxm, rfl⟩ := Option.map_eq_some_iff.mp hr
          obtain ⟨x0, x1⟩ := hx1 x (List.mem_of_getElem? hxm)
          have hxn : x ∉ xs.take m := fun z => by
            have h3 : (xs.take (m + 1)).Nodup := hxnd.sublist (List.take_sublist _ _)
            rw [take_more hxm] at h3
            exact (List.nodup_append.mp h3).2.2 x z x (by simp) rfl
          have hml := (List.getElem?_eq_some_iff.mp hxm).1
          have hzl : zs.length ≤ 400 := by rw [hcol7.len, List.length_take]; simp; omega
          have hcl : cs.length = zs.length := by rw [hcs.length]; unfold plW; rw [List.length_map]
          walk_at "g"
          refine ⟨rfl, ?_⟩
          walk_at "g"
          refine s_ixT (SqT.of ((S6.trans s7) _ _ e1)) (atI0 0 rfl rfl) ?_
          walk_at "g"
          refine mkT (by simp) fun T8 H8 nT8 eT8 s8 => ?_
          walk_at "g"
          refine ⟨tv, T8, _, _, _, _, rfl, s8 _ _ (s7 _ _ etv), eT8, by omega, by omega, by omega, by omega, x0, by omega, by omega, ?_, fun t9 H9 w y hj9 s9 e9 => ?_⟩
          · show (x - sn) % (Nat.gcd W p : Nat) = 0
            rw [hgc]; omega
          obtain ⟨hw, hcol9⟩ := M.col_one hcol7 hgc x0 x1 sn0 sn1 hxn hj9
          have s89 := s8.trans s9
          have eC9 := s89 _ _ eC
          refine ⟨_, eC9, line2 (by omega), same_upd' (s7.trans s89) hC, _, zs ++ [y], upd_same, ?_, by rw [take_more hxm]; exact hcol9⟩
          have tk : ∀ b' r', H9 b' = some (.tup r') → upd H9 C (.lst (cs ++ [.ref t9])) b' = some (.tup r') := fun b' r' eb => by
            rw [upd_ne (fun z => by rw [z, eC9] at eb; cases eb)]; exact eb
          rw [plW_snoc]
          refine paired_snoc (TupsIn.tups (fun b' r' eb => tk _ _ (s89 _ _ eb)) hcs) ⟨t9, rfl, tk _ _ ?_⟩
          rw [e9, hw]
        rintro H7 ⟨s7, cs, zs, eC, hcs, hcol7⟩
        rw [hvl, List.take_length] at hcol7
        have hcl : cs.length = zs.length := by rw [hcs.length]; unfold plW; rw [List.length_map]
        have hwl : ws.length = ys.length := by rw [hws.length]; unfold plW; rw [List.length_map]
        have eR7 := s7 _ _ eR6
        have hnew := M.col_app hcol hcol7 hsnn
        rw [← take_more hsn] at hnew
        have hnl : ys.length + zs.length ≤ 400 := by
          have h1 := hnew.len
          rw [List.length_append, List.length_take] at h1
          have h2 : xs.length * min (j + 1) l.length ≤ xs.length * l.length := Nat.mul_le_mul_left _ (Nat.min_le_right _ _)
          omega
        walk_at "g"
        refine s_extend eR7 eC (by omega) ?_
        walk_at "g"
        refine ⟨?_, ⟨_, ys ++ zs, upd_same, ?_, hnew⟩, _, _, rfl⟩
        · exact same_upd' (s6.trans s7) nR
        · have tk : ∀ b' r', H7 b' = some (.tup r') → upd H7 R (.lst (ws ++ cs)) b' = some (.tup r') := fun b' r' eb => by
            rw [upd_ne (fun z => by rw [z, eR7] at eb; cases eb)]; exact eb
          rw [plW_app]
          exact tups_app (TupsIn.tups (fun b' r' eb => tk _ _ (s7 _ _ eb)) hws) (TupsIn.tups tk hcs)
      · rintro σ H6 ⟨s6, ⟨ws, ys, eR6, hws, hcol⟩, v6, v7, rfl⟩
        rw [List.length_map, List.take_length] at hcol
        walk_at "g"
        exact ⟨S4.trans s6, R, ws, ys, eR6, hws, hmore ys hcol, _, _, _, _, _, rfl⟩
    · rintro σ H3 ⟨s3, F, vs, xs, eF, hvs, hmx, v3, v4, v5, v6, v7, rfl⟩
      have e0 : (ps.map (·.2)).take ps.length = ps.map (·.2) := by rw [← List.length_map (f := (·.2)) (as := ps), List.take_length]
      rw [e0] at hmx hvs
      rw [← hll, List.take_length] at hmx
      have hxl : xs.length ≤ 400 := by rw [hmx.len]; exact hmany
      have hvl : vs.length = xs.length := by rw [hvs.length]; unfold plW; rw [List.length_map]
      walk_at "g"
      refine s_lc ?_
      walk_at "g"
      refine ⟨⟨_, SqL.of eF⟩, fun C hC => ?_⟩
      refine lc_list (fun m H' => Same H3 H' ∧ H' C = some (.lst ((xs.take m).map V.int))) ⟨same_upd hC, upd_same⟩ (fun m H' _ I => SqL.of (I.1 _ _ eF)) ?_ ?_
      · rintro m v H4 hm ⟨s4, eC⟩
        obtain ⟨r, hr, tv, rfl, etv⟩ := pget hvs hm
        unfold plW at hr
        rw [List.getElem?_map] at hr
        obtain ⟨x, hxm, rfl⟩ := Option.map_eq_some_iff.mp hr
        have hml := (List.getElem?_eq_some_iff.mp hxm).1
        walk_at "g"
        refine ⟨rfl, ?_⟩
        walk_at "g"
        refine s_ixT (SqT.of (s4 _ _ etv)) (atI0 1 rfl rfl) ?_
        refine ⟨_, eC, line2 (by rw [List.length_map, List.length_take]; omega), same_upd' s4 hC, ?_⟩
        rw [upd_same, take_more hxm, List.map_append]; rfl
      rintro H4 ⟨s4, eC⟩
      rw [hvl, List.take_length] at eC
      walk_at "g"
      refine ⟨C, xs, rfl, SqL.of eC, fun ns D2 pm srt nD2 => ?_⟩
      have hns : ns.Nodup := pm.nodup_iff.mpr hmx.nd
      have hst : ns.Pairwise (· < ·) := (srt.and hns).imp fun {a b} z => by have := z.1; have := z.2; omega
      have S4 := s3.trans s4
      exact k ns D2 _ hst ⟨hns, fun y => (pm.mem_iff).trans (hmx.iff y), by rw [pm.length_eq]; exact hmx.len⟩ (Same.none S4 nD2) upd_same (S4.trans (same_upd nD2))
/-- no roots -/
def NoR (p k : Nat) (a : Int) : Prop := M.un p a ∧ ¬ M.is1 p a ((p - 1) / Nat.gcd k (p - 1))
abbrev RRec := Addr × Addr × Addr × List Int
def RRAt (H : Hp) (k : Nat) (a : Int) (x : Addr × Nat) (r : RRec) : Prop := H r.1 = some (.tup [.ref r.2.1, .ref r.2.2.1]) ∧ H r.2.1 = some (.lst (r.2.2.2.map V.int)) ∧ M.IsKR x.2 k a r.2.2.2 ∧ RtAt H r.2.2.1 x.2 k a r.2.2.2
theorem RtAt.tups {H H' : Hp} {s : Addr} {p k : Nat} {a : Int} {xs : List Int} (h : RtAt H s p k a xs) (e : ∀ b r, H b = some (.tup r) → H' b = some (.tup r)) : RtAt H' s p k a xs := by
  obtain ⟨h1, h2, h3⟩ := h
  refine ⟨fun u o => ?_, fun u o => e _ _ (h2 u o), fun u => e _ _ (h3 u)⟩
  obtain ⟨t, t0, t1, t2, t3, t4⟩ := h1 u o
  exact ⟨t, t0, t1, t2, t3, e _ _ t4⟩
theorem RRAt.same {H H' : Hp} {k : Nat} {a : Int} {x : Addr × Nat} {r : RRec} (h : RRAt H k a x r) (e : Same H H') : RRAt H' k a x r := ⟨e _ _ h.1, e _ _ h.2.1, h.2.2.1, h.2.2.2.same e⟩
theorem rr_ls {H : Hp} {k : Nat} {a : Int} : ∀ {ps : List (Addr × Nat)} {rr : List RRec}, Paired (RRAt H k a) ps rr → Paired (fun x l => M.IsKR x.2 k a l) ps (rr.map (·.2.2.2)) ∧ LsAt H (rr.map fun r => V.ref r.2.1) (rr.map (·.2.2.2))
  | _, _, .nil => ⟨.nil, .nil⟩
  | _, _, .cons f r => by
    obtain ⟨h1, h2⟩ := rr_ls r
    exact ⟨.cons f.2.2.1 h1, .cons ⟨_, rfl, f.2.1⟩ h2⟩
theorem kr_prod {k : Nat} {a : Int} (hk : 0 < k) : ∀ {ps : List (Addr × Nat)} {ls : List (List Int)} {cs : List Nat}, (∀ x ∈ ps, M.Prime x.2) → Paired (fun x l => M.IsKR x.2 k a l) ps ls → Paired (fun x c => RCnt x.2 k a c ∧ 0 < c) ps cs → ls.map List.length = cs
  | _, _, _, _, .nil, .nil => rfl
  | x :: ps, _, _, hp, .cons f r, .cons g s => by rw [List.map_cons, kr_cnt (hp x (by simp)) hk f g.1, kr_prod hk (fun y hy => hp y (by simp [hy])) r s]
def RowsR (H : Hp) (k : Nat) (a : Int) (ps : List (Addr × Nat)) (rr : List RRec) : Prop := Paired (fun x (r : RRec) => M.IsKR x.2 k a r.2.2.2 ∧ RtAt H r.2.2.1 x.2 k a r.2.2.2) ps rr
/-- roots_of(papers, k, a) -/
def sp_roots_of (K : PySem.W.Frag) : Sp := fun vs H Q E => ∃ (n : Nat) (D : Addr) (ps : List (Addr × Nat)) (k : Nat) (a : Int), vs = [.ref D, .int (k : Nat), .int a] ∧ PapsAt n H D ps ∧ (ps.map (·.2)).Nodup ∧ (∀ x ∈ ps, x.2 ≤ 1000000000) ∧ ps.length ≤ 5 ∧ 0 < k ∧ k < 2 ^ 400 ∧
  (∀ (i p : Nat) (t : Addr), ps[i]? = some (t, p) → NoR p k a → (∀ (j p' : Nat) (t' : Addr), j < i → ps[j]? = some (t', p') → ¬ NoR p' k a) → ∀ (T L0 S : Addr) H', Same H H' → H L0 = none → H' T = some (.tup [.ref L0, .ref S]) → H' L0 = some (.lst []) → H' S = some (.tup [.str "none", .int (i : Nat), .int ((p - 1) / Nat.gcd k (p - 1) : Nat), .int (M.pw p a ((p - 1) / Nat.gcd k (p - 1)))]) → Q (.ref T) H') ∧
  (∀ cs : List Nat, Paired (fun x c => RCnt x.2 k a c ∧ 0 < c) ps cs →
    (400 < M.prodN cs → ∀ (d : Addr) H', H d = none → Same H H' → H' d = some (.xd [("many", .int (M.prodN cs : Nat))]) → E (.ref (He.ga K "TooMany")) (some d) H') ∧
    (M.prodN cs ≤ 400 → ∀ (xs : List Int) (rr : List RRec) (T F S R : Addr) H', M.Mixed (ps.map (·.2)) (rr.map (·.2.2.2)) xs → xs.Pairwise (· < ·) → xs.length = M.prodN cs → H F = none → Same H H' → H' T = some (.tup [.ref F, .ref S]) → H' F = some (.lst (xs.map V.int)) → H' S = some (.tup [.str "by", .ref R]) → H' R = some (.tup (rr.map fun r => V.ref r.2.2.1)) → RowsR H' k a ps rr → Q (.ref T) H'))
theorem ok_roots_of (T : Txt K mg) : FnOk P w K mg base (L2.CX P w) 12 (He.ga K "roots_of") (fd_roots_of T) ["papers", "k", "a"] (sp_roots_of K) := by
  refine (F_roots_of T).ok sc_roots_of (fun vs H Q E h => ?_) (fun cdv A outer s H vs Q E hr h => ⟨_, (pss_cons (ps_set (i := 3) sc_roots_of.nd rfl (Or.inl rfl) pe_int)
      (pss_cons (ps_for (passes_of rfl) rfl (pi_enum rfl (T.fr (T.c.fact 57 rfl)) (pa_cons (pv 0) pa_nil)) (pg_tup rfl (pgs_cons (pg_name (i := 4) sc_roots_of.nd rfl (Or.inl rfl)) (pgs_cons (pg_name (i := 5) sc_roots_of.nd rfl (Or.inl rfl)) pgs_nil))) (pss_cons (ps_asg (pe_call (ok_roots_by T) (hr.mono (by decide)) rfl (g_roots_by T) (kp_roots_by T) (B_roots_by T) .nil pass0 (pa_cons (pv 5) (pa_cons (pv 1) (pa_cons (pv 2) pa_nil)))) (pg_tup rfl (pgs_cons (pg_name (i := 6) sc_roots_of.nd rfl (Or.inl rfl)) (pgs_cons (pg_name (i := 7) sc_roots_of.nd rfl (Or.inl rfl)) pgs_nil))))
      (pss_cons (ps_if (pt_cmpR op_eq (pv 6) pe_int (nomark _)) (pss_one (ps_ret (pe_tup (pa_cons (pe_lst pa_nil) (pa_cons (pe_op op_catA (pe_tup (pa_cons pe_str (pa_cons (pv 4) pa_nil))) (pv 7)) pa_nil))))) pss_nil)
      (pss_one (ps_set (i := 3) sc_roots_of.nd rfl (Or.inl rfl) (pe_op op_mulW (pv 3) (pv 6)))))))
      (pss_cons (ps_if (pt_cmpR op_gt (pv 3) (pe_glob (v := .int 400) rfl (T.int_ok (T.c.fact 68 rfl)).choose_spec ⟨_, rfl⟩) (nomark _)) (pss_one (ps_raise rfl (takes_of rfl rfl rfl rfl) (pmk_oex (x_TooMany T).oex (x_TooMany T).iC (x_TooMany T).tI (ok_init_TooMany T) (hr.mono (by decide)) (B_init_TooMany T) .nil pass0 rfl (g_TooMany T) (pa_cons (pv 3) pa_nil)))) pss_nil)
      (pss_cons ((ps_setLc (i := 8) (own := [("paper", 5)]) (tt := tYes) rfl sc_roots_of.nd rfl rfl (sw_true rfl rfl rfl rfl) (pi_list (pv 0)) (blkOk_by (N := N_roots_of) (sc := defScope s_roots_of) (by decide +kernel)) (fun _ _ _ _ _ => (pg_name (i := 5) sc_roots_of.nd rfl (Or.inl rfl))) (fun _ _ _ _ _ => pts_nil) (fun _ _ _ _ _ => (pe_call (ok_roots T) (hr.mono (by decide)) rfl (g_roots T) (kp_roots T) (B_roots T) .nil passL (pa_cons (pv 5) (pa_cons (pv 1) (pa_cons (pv 2) pa_nil)))))))
      (pss_cons (ps_set (i := 9) sc_roots_of.nd rfl (Or.inl rfl) (pe_call (ok_each_with_each T) (hr.mono (by decide)) rfl (g_each_with_each T) (kp_each_with_each T) (B_each_with_each T) .nil pass0 (pa_cons (pv 0) (pa_cons (pe_lc (own := [("one", 10)]) (tt := tYes) rfl sc_roots_of.nd (pi_list (pv 8)) (blkOk_by (N := N_roots_of) (sc := defScope s_roots_of) (by decide +kernel)) (fun _ _ _ _ _ => (pg_name (i := 10) sc_roots_of.nd rfl (Or.inl rfl))) (fun _ _ _ _ _ => pts_nil) (fun _ _ _ _ _ => (pe_ix (R.ix_seqK K rfl) (pv 10) pe_int (fun _ _ => rfl)))) pa_nil))))
      (pss_one (ps_ret (pe_tup (pa_cons (pv 9) (pa_cons (pe_tup (pa_cons pe_str (pa_cons (pe_callTy callTup rfl (T.fr (T.c.fact 58 rfl)) boot_tuple (pa_cons (pe_lc (own := [("one", 10)]) (tt := tYes) rfl sc_roots_of.nd (pi_list (pv 8)) (blkOk_by (N := N_roots_of) (sc := defScope s_roots_of) (by decide +kernel)) (fun _ _ _ _ _ => (pg_name (i := 10) sc_roots_of.nd rfl (Or.inl rfl))) (fun _ _ _ _ _ => pts_nil) (fun _ _ _ _ _ => (pe_ix (R.ix_seqK K rfl) (pv 10) pe_int (fun _ _ => rfl)))) pa_nil)) pa_nil))) pa_nil)))))))))), ?_⟩)
  · obtain ⟨n, D, ps, k, a, rfl, _⟩ := h; rfl
  · obtain ⟨n, D, ps, kk, a, rfl, hP, hnd, hpb, hpl, k0, kb, k1, k2⟩ := h
    have hpr : ∀ x ∈ ps, M.Prime x.2 := fun x hx => by
      obtain ⟨_, _, _, _, _, hq⟩ := (hP.2 x hx).pap'
      exact hq.hp
    walk_at "g"
    refine s_enumL ?_
    walk_at "g"
    refine ⟨D, _, rfl, SqL.of hP.1, ?_⟩
    refine for_it walk_enum (fun i σ H' => Same H H' ∧ (∀ (j p' : Nat) (t' : Addr), j < i → ps[j]? = some (t', p') → ¬ NoR p' kk a) ∧ ∃ (cs : List Nat) (v4 v5 v6 v7 v8 v9 v10 : Option V), σ = [some (.ref D), some (.int (kk : Nat)), some (.int a), some (.int (M.prodN cs : Nat)), v4, v5, v6, v7, v8, v9, v10] ∧ Paired (fun x c => RCnt x.2 kk a c ∧ 0 < c ∧ c ≤ 1000000000) (ps.take i) cs)
      ⟨Same.refl _, fun j _ _ z => absurd z (by omega), [], none, none, none, none, none, none, none, rfl, by rw [List.take_zero]; exact .nil⟩ (fun i σ H' _ I => SqL.of (I.1 _ _ hP.1)) ?_ ?_
    · rintro i v σ H1 H2 hi ⟨s1, hno, cs, v4, v5, v6, v7, v8, v9, v10, rfl, hcs⟩ ⟨T, x, y, rfl, nT, rfl, ex, ey⟩
      cases ex
      obtain ⟨t, p, hx, rfl⟩ := ps_get ey
      have s2 : Same H1 (upd H1 T (.tup [.int (i : Nat), .ref t])) := same_upd nT
      have eT : upd H1 T (.tup [.int (i : Nat), .ref t]) T = some (.tup [.int (i : Nat), .ref t]) := upd_same
      generalize upd H1 T (.tup [.int (i : Nat), .ref t]) = H2 at s2 eT ⊢
      have S2 := s1.trans s2
      have hmem := List.mem_of_getElem? hx
      have hil := (List.getElem?_eq_some_iff.mp hx).1
      have hpB : p ≤ 1000000000 := hpb _ hmem
      obtain ⟨m, f, u, pl, _, hPl⟩ := ((hP.2 _ hmem).same S2).pap'
      have hPl : Pap m H2 t p f u pl := hPl
      refine s_gtup (SqT.of eT) rfl ?_
      walk_at "g"
      have hcl : cs.length ≤ 5 := by rw [← hcs.length, List.length_take]; omega
      have hcb := M.prodN_bd (l := cs) (B := 1000000000) fun z hz => by
        obtain ⟨_, _, _, _, h⟩ := paired_mem hcs hz
        exact h
      have hcb2 : 1000000000 ^ cs.length ≤ 1000000000 ^ 5 := Nat.pow_le_pow_right (by decide) hcl
      have hcb3 : (1000000000 : Nat) ^ 5 < 2 ^ 200 := by decide
      have hcb4 : M.prodN cs < 2 ^ 200 := by omega
      refine ⟨m, p, f, t, u, pl, kk, a, rfl, hPl, by omega, k0, kb, fun c T1 W H3 hc c0 cp eT1 s3 => ?_, fun hu h1 T1 W H3 eT1 eW s3 => ?_⟩
      · refine s_gtup (SqT.of eT1) rfl ?_
        walk_at "g"
        refine s_itN (by omega) ?_
        walk_at "g"
        try refine s_i (mulW (by omega) (by omega)) ?_
        walk_at "g"
        have hnr : ¬ NoR p kk a := fun z => by have := hc.2.2 z.1 z.2; omega
        refine ⟨S2.trans s3, fun j p' t' hj h1 => ?_, cs ++ [c], _, _, _, _, _, _, _, by rw [M.prodN_snoc]; push_cast; rfl, ?_⟩
        · rcases Nat.lt_or_ge j i with z | z
          · exact hno j p' t' z h1
          · obtain rfl : j = i := by omega
            rw [hx] at h1
            cases h1
            exact hnr
        · rw [take_more hx]
          exact paired_snoc hcs ⟨hc, c0, by omega⟩
      · refine s_gtup (SqT.of eT1) rfl ?_
        walk_at "g"
        try refine s_itP rfl ?_
        walk_at "g"
        refine mkL (by simp) fun L0 H4 nL0 eL0 s4 => ?_
        walk_at "g"
        refine mkT (by simp) fun T2 H5 nT2 eT2 s5 => ?_
        walk_at "g"
        refine mkCatA eT2 (s5 _ _ (s4 _ _ eW)) (by simp) fun S H6 eS s6 => ?_
        walk_at "g"
        refine mkT (by simp) fun T3 H7 nT3 eT3 s7 => ?_
        walk_at "g"
        have s57 := s5.trans (s6.trans s7)
        have S3 := S2.trans s3
        exact k1 i p t hx ⟨hu, h1⟩ hno T3 L0 S H7 (S3.trans (s4.trans s57)) (Same.none S3 nL0) eT3 (s57 _ _ eL0) (s7 _ _ eS)
    · rintro σ H1 ⟨s1, hno, cs, v4, v5, v6, v7, v8, v9, v10, rfl, hcs⟩
      rw [List.length_map, List.take_length] at hcs
      have hcs' : Paired (fun (x : Addr × Nat) c => RCnt x.2 kk a c ∧ 0 < c) ps cs := paired_mono (fun _ _ z => ⟨z.1, z.2.1⟩) hcs
      obtain ⟨kE, kQ⟩ := k2 cs hcs'
      walk_at "g"
      refine s_ite (fun c => ?_) (fun c => ?_)
      · walk_at "g"
        refine s_raise (x_TooMany T).oex (x_TooMany T).noF fun d H2 hd hx hs => ?_
        exact kE (by omega) d H2 (Same.none s1 hd) (s1.trans hs) hx
      have kQ := kQ (by omega)
      have c4 : M.prodN cs ≤ 400 := by omega
      walk_at "g"
      refine s_lc ?_
      walk_at "g"
      refine ⟨⟨_, SqL.of (s1 _ _ hP.1)⟩, fun C hC => ?_⟩
      refine lc_list (fun i H' => Same H1 H' ∧ ∃ rr : List RRec, H' C = some (.lst (rr.map fun r => V.ref r.1)) ∧ Paired (fun x r => RRAt H' kk a x r ∧ r.2.1 ≠ C) (ps.take i) rr) ⟨same_upd hC, [], upd_same, by rw [List.take_zero]; exact .nil⟩ (fun i H' _ I => SqL.of ((s1.trans I.1) _ _ hP.1)) ?_ ?_
      · rintro i v H2 hi ⟨s2, rr, eC, hrr⟩
        obtain ⟨t, p, hx, rfl⟩ := ps_get hi
        have hmem := List.mem_of_getElem? hx
        have hil := (List.getElem?_eq_some_iff.mp hx).1
        have hpB : p ≤ 1000000000 := hpb _ hmem
        have S2 := s1.trans s2
        obtain ⟨m, f, u, pl, _, hPl⟩ := ((hP.2 _ hmem).same S2).pap'
        have hPl : Pap m H2 t p f u pl := hPl
        obtain ⟨c, hc, hc1, hc0⟩ := pget hcs' hx
        have hc4 : c ≤ 400 := by
          have h1 := M.prodN_dvd (List.mem_of_getElem? hc)
          have h2 := Nat.le_of_dvd (M.prodN_pos fun z hz => by
            obtain ⟨_, _, _, h⟩ := paired_mem hcs' hz
            exact h) h1
          omega
        have hrl : rr.length ≤ 5 := by rw [← hrr.length, List.length_take]; omega
        walk_at "g"
        refine ⟨rfl, ?_⟩
        walk_at "g"
        refine ⟨m, p, f, t, u, pl, kk, a, rfl, hPl, by omega, k0, kb, fun hu h1 hg => ?_, fun _ l T1 Dl s H3 hl nD eD nT eT hR _ _ s3 => ?_⟩
        · exfalso
          have h9 : c = Nat.gcd kk (p - 1) := hc1.2.1 hu h1
          omega
        have eC3 := s3 _ _ eC
        refine ⟨_, eC3, line2 (by rw [List.length_map]; omega), same_upd' (s2.trans s3) hC, rr ++ [(T1, Dl, s, l)], by rw [upd_same, List.map_append]; rfl, ?_⟩
        have nDC : Dl ≠ C := fun z => by rw [z, eC] at nD; cases nD
        have sk : ∀ b' o', b' ≠ C → H3 b' = some o' → upd H3 C (.lst ((rr.map fun r => V.ref r.1) ++ [.ref T1])) b' = some o' := fun b' o' nb eb => by rw [upd_ne nb]; exact eb
        have tk : ∀ b' r', H3 b' = some (.tup r') → upd H3 C (.lst ((rr.map fun r => V.ref r.1) ++ [.ref T1])) b' = some (.tup r') := fun b' r' eb => sk _ _ (fun z => by rw [z, eC3] at eb; cases eb) eb
        rw [take_more hx]
        exact paired_snoc (paired_mono (fun x r ⟨h, hn⟩ => ⟨⟨tk _ _ (s3 _ _ h.1), sk _ _ hn (s3 _ _ h.2.1), h.2.2.1, (h.2.2.2.same s3).tups tk⟩, hn⟩) hrr) ⟨⟨tk _ _ eT, sk _ _ nDC eD, hl, hR.tups tk⟩, nDC⟩
      rintro H2 ⟨s2, rr, eC, hrr⟩
      rw [List.length_map, List.take_length] at hrr
      have hrr : Paired (RRAt H2 kk a) ps rr := paired_mono (fun _ _ z => z.1) hrr
      have S2 := s1.trans s2
      obtain ⟨hls, hos⟩ := rr_ls hrr
      have hrl : rr.length = ps.length := hrr.length.symm
      have hlen := kr_prod k0 hpr hls hcs'
      walk_at "g"
      refine s_lc ?_
      walk_at "g"
      refine ⟨⟨_, SqL.of eC⟩, fun O hO => ?_⟩
      refine lc_list (fun m H' => Same H2 H' ∧ H' O = some (.lst ((rr.take m).map fun r => V.ref r.2.1))) ⟨same_upd hO, upd_same⟩ (fun m H' _ I => SqL.of (I.1 _ _ eC)) ?_ ?_
      · rintro m v H3 hm ⟨s3, eO⟩
        rw [List.getElem?_map] at hm
        obtain ⟨r, hr, rfl⟩ := Option.map_eq_some_iff.mp hm
        obtain ⟨x, hx, hRR⟩ := pget' hrr hr
        have hml := (List.getElem?_eq_some_iff.mp hr).1
        walk_at "g"
        refine ⟨rfl, ?_⟩
        walk_at "g"
        refine s_ixT (SqT.of (s3 _ _ hRR.1)) (atI0 0 rfl rfl) ?_
        refine ⟨_, eO, line2 (by rw [List.length_map, List.length_take]; omega), same_upd' s3 hO, ?_⟩
        rw [upd_same, take_more hr, List.map_append]; rfl
      rintro H3 ⟨s3, eO⟩
      rw [List.length_map, List.take_length] at eO
      have S3 := S2.trans s3
      walk_at "g"
      refine ⟨n, D, O, ps, _, rr.map (·.2.2.2), rfl, hP.same S3, hnd, hpb, hpl, eO, hos.same s3, by rw [List.length_map]; exact hrl, fun l hl => ?_, by rw [hlen]; exact c4, fun i p l hp hl => ?_, fun xs F H4 hxs hmx nF eF s4 => ?_⟩
      · obtain ⟨x, hx, hk⟩ := paired_mem hls hl
        refine ⟨?_, hk.sorted.imp fun {a b} h e => by omega⟩
        have h1 : l.length ∈ (rr.map (·.2.2.2)).map List.length := List.mem_map.mpr ⟨l, hl, rfl⟩
        rw [hlen] at h1
        obtain ⟨_, _, _, h⟩ := paired_mem hcs' h1
        exact h
      · rw [List.getElem?_map] at hp
        obtain ⟨x, hx, rfl⟩ := Option.map_eq_some_iff.mp hp
        obtain ⟨l', hl', hk⟩ := pget hls hx
        rw [hl] at hl'
        cases hl'
        intro z hz
        have := (hk.iff z).mp hz
        exact ⟨this.1, this.2.1⟩
      have S4 := S3.trans s4
      have s34 := s3.trans s4
      walk_at "g"
      refine s_lc ?_
      walk_at "g"
      refine ⟨⟨_, SqL.of (s34 _ _ eC)⟩, fun R0 hR0 => ?_⟩
      refine lc_list (fun m H' => Same H4 H' ∧ H' R0 = some (.lst ((rr.take m).map fun r => V.ref r.2.2.1))) ⟨same_upd hR0, upd_same⟩ (fun m H' _ I => SqL.of (I.1 _ _ (s34 _ _ eC))) ?_ ?_
      · rintro m v H5 hm ⟨s5, eR⟩
        rw [List.getElem?_map] at hm
        obtain ⟨r, hr, rfl⟩ := Option.map_eq_some_iff.mp hm
        obtain ⟨x, hx, hRR⟩ := pget' hrr hr
        have hml := (List.getElem?_eq_some_iff.mp hr).1
        walk_at "g"
        refine ⟨rfl, ?_⟩
        walk_at "g"
        refine s_ixT (SqT.of (s5 _ _ (s34 _ _ hRR.1))) (atI0 1 rfl rfl) ?_
        refine ⟨_, eR, line2 (by rw [List.length_map, List.length_take]; omega), same_upd' s5 hR0, ?_⟩
        rw [upd_same, take_more hr, List.map_append]; rfl
      rintro H5 ⟨s5, eR⟩
      rw [List.length_map, List.take_length] at eR
      walk_at "g"
      refine s_tupL (SqL.of eR) fun R nR => ?_
      have s6 : Same H5 (upd H5 R (.tup (rr.map fun r => V.ref r.2.2.1))) := same_upd nR
      have eRt : upd H5 R (.tup (rr.map fun r => V.ref r.2.2.1)) R = some (.tup (rr.map fun r => V.ref r.2.2.1)) := upd_same
      generalize upd H5 R (.tup (rr.map fun r => V.ref r.2.2.1)) = H6 at s6 eRt ⊢
      walk_at "g"
      refine mkT (by simp) fun S H7 nS eS s7 => ?_
      walk_at "g"
      refine mkT (by simp) fun T H8 nT eT s8 => ?_
      walk_at "g"
      have s58 := s5.trans (s6.trans (s7.trans s8))
      exact kQ xs rr T F S R H8 hmx hxs (by rw [hmx.len, hlen]) (Same.none S3 nF) (S4.trans s58) eT (s58 _ _ eF) (s8 _ _ eS) ((s7.trans s8) _ _ eRt) (paired_mono (fun _ _ h => ⟨h.2.2.1, h.2.2.2.same (s34.trans s58)⟩) hrr)

/-- _law_primes(state): a new list of some primes, rising -/
def sp__law_primes : Sp := fun vs H Q _ => ∃ (s : Addr), vs = [.ref s] ∧ StAt H s ∧ ∀ (L : List Nat) (C : Addr) (H' : Hp), L.Pairwise (· < ·) → (∀ z ∈ L, M.Prime z ∧ z ≤ 999999937) → L.length ≤ 5 → 0 < L.length → H C = none → H' C = some (.lst (nv L)) → StAt H' s → SameB s H H' → Q (.ref C) H'
theorem ok__law_primes (T : Txt K mg) : FnOk P w K mg base CX0 2 (He.ga K "_law_primes") (fd__law_primes T) ["_law_state_here"] sp__law_primes := by
  refine (F__law_primes T).ok sc__law_primes (fun vs H Q E h => ?_) (fun cdv A outer s H vs Q E hr h => ⟨_, PSs.nox (pss_cons (ps_set (i := 1) sc__law_primes.nd rfl (Or.inl rfl) pe_dnewK)
      (pss_cons (ps_set (i := 2) sc__law_primes.nd rfl (Or.inl rfl) (pe_cmpR op_eq (pe_call (ok__law_take T) (hr.mono (by decide)) rfl (g__law_take T) (kp__law_take T) (B__law_take T) .nil pass0 (pa_cons (pv 0) (pa_cons pe_int pa_nil))) pe_int (nomark _)))
      (pss_cons (ps_for PassesOwn.never rfl (pi_range1 rfl (T.fr (T.c.fact 54 rfl)) (pa_cons (pe_op op_add pe_int (pe_call (ok__law_take T) (hr.mono (by decide)) rfl (g__law_take T) (kp__law_take T) (B__law_take T) .nil pass0 (pa_cons (pv 0) (pa_cons pe_int pa_nil)))) pa_nil)) (pg_name (i := 3) sc__law_primes.nd rfl (Or.inl rfl)) (pss_cons (ps_set (i := 4) sc__law_primes.nd rfl (Or.inl rfl) (pe_op op_add pe_int (pe_call (ok__law_take T) (hr.mono (by decide)) rfl (g__law_take T) (kp__law_take T) (B__law_take T) .nil pass0 (pa_cons (pv 0) (pa_cons (pe_ix ix_seq (pe_lst (pa_cons pe_int (pa_cons pe_int pa_nil))) (pe_call (ok__law_take T) (hr.mono (by decide)) rfl (g__law_take T) (kp__law_take T) (B__law_take T) .nil pass0 (pa_cons (pv 0) (pa_cons pe_int pa_nil))) (fun _ _ => rfl)) pa_nil)))))
      (pss_cons (ps_if (PW.pt (pw_and (pt_val (pv 2)) (pw_and1 (pt_cmpR op_eq (pv 3) pe_int (nomark _))))) (pss_one (ps_set (i := 4) sc__law_primes.nd rfl (Or.inl rfl) (pe_op op_add pe_int (pe_call (ok__law_take T) (hr.mono (by decide)) rfl (g__law_take T) (kp__law_take T) (B__law_take T) .nil pass0 (pa_cons (pv 0) (pa_cons pe_int pa_nil)))))) pss_nil)
      (pss_cons (ps_while PassesOwn.never (pt_not (pt_val (pe_call (ok__law_is_prime T) (hr.mono (by decide)) rfl (g__law_is_prime T) (kp__law_is_prime T) (B__law_is_prime T) .nil pass0 (pa_cons (pv 4) pa_nil)))) (pss_one (ps_set (i := 4) sc__law_primes.nd rfl (Or.inl rfl) (pe_op op_add (pv 4) pe_int))))
      (pss_one (ps_dput (hu_of hr) (pv 1) (pv 4) pe_bl rfl))))))
      (pss_one (ps_ret (pe_callB (call_sortedDI rfl) rfl (T.fr (T.c.fact 55 rfl)) boot_sorted (pa_cons (pv 1) pa_nil))))))), ?_⟩)
  · obtain ⟨s, rfl, _⟩ := h; rfl
  · obtain ⟨s, rfl, hst, cont⟩ := h
    have nes : ∀ {l : Addr} {H' : Hp}, H' l = none → StAt H' s → l ≠ s := fun n ⟨_, _, e, _⟩ z => by rw [z, e] at n; cases n
    walk_at "g"
    refine mkDN fun D H0 nD hD s0 => ?_
    have hDs : D ≠ s := nes nD hst
    walk_at "g"
    refine ⟨s, 16, rfl, by decide, by decide, hst.same s0, fun y H1 y0 y1 st1 s1 => ?_⟩
    walk_at "g"
    refine ⟨s, 5, rfl, by decide, by decide, st1, fun c H2 c0 c1 st2 s2 => ?_⟩
    walk_at "g"
    obtain ⟨c, rfl⟩ := Int.eq_ofNat_of_zero_le c0
    refine mkR1 (c + 1) (by omega) (by omega) (by omega) ?_
    refine for_range (n := c + 1) (fun i σ H' => (∃ L : List Nat, H' D = some (.dK (trKv L)) ∧ L.Nodup ∧ (∀ z ∈ L, M.Prime z ∧ z ≤ 999999937) ∧ L.length ≤ i ∧ (0 < i → 0 < L.length)) ∧ StAt H' s ∧ SameB s H H' ∧ ∃ (b : Bool) (v3 v4 : Option V), σ = [some (.ref s), some (.ref D), some (.bl b), v3, v4]) ⟨⟨[], (s1.trans s2) _ _ hDs hD, List.Pairwise.nil, by simp, by simp, fun z => absurd z (by decide)⟩, st2, (SameB.of s0).trans (s1.trans s2), _, _, _, rfl⟩ ?_ ?_
    · rintro i σ H3 hi ⟨⟨L, hD3, nd, hL, hll, hps⟩, st3, S3, b, v3, v4, rfl⟩
      walk_at "g"
      refine mkL (by simp) fun q H4 nq eq s4 => ?_
      have hqs : q ≠ s := nes nq st3
      walk_at "g"
      refine ⟨s, 2, rfl, by decide, by decide, st3.same s4, fun y2 H5 y20 y21 st5 s5 => ?_⟩
      walk_at "g"
      refine s_pickN (P := fun z => 0 < z ∧ z ≤ 999999936) [99, 99998] (s5 _ _ hqs eq) (by simp only [List.length_cons, List.length_nil]; omega) (by decide) fun m hm => ?_
      walk_at "g"
      refine ⟨s, m, rfl, hm.1, by omega, st5, fun z H6 z0 z1 st6 s6 => ?_⟩
      have S6 : SameB s H3 H6 := (SameB.of s4).trans (s5.trans s6)
      walk_at "h"
      refine s_join (fun σ' H' => StAt H' s ∧ SameB s H3 H' ∧ ∃ n : Nat, σ' = [some (.ref s), some (.ref D), some (.bl b), some (.int (0 + (i : Int))), some (.int n)] ∧ 2 ≤ n ∧ n ≤ 999999937) ?_ fun N J => ?_
      · rintro σ' H7 ⟨st7, S7, n, rfl, n2, n9⟩
        walk_at "g"
        refine s_while (fun σ H' => H' = H7 ∧ ∃ n : Nat, σ = [some (.ref s), some (.ref D), some (.bl b), some (.int (0 + (i : Int))), some (.int n)] ∧ 2 ≤ n ∧ n ≤ 999999937) (fun σ _ => 999999938 - (iv σ 4).toNat) ⟨rfl, n, rfl, n2, n9⟩ ?_
        rintro σ H' ⟨rfl, n, rfl, n2, n9⟩
        walk_at "g"
        refine ⟨n, rfl, by omega, fun b' hb => ?_⟩
        walk_at "g"
        cases b' with
        | true =>
          obtain ⟨L', e1, e2, e3, e4⟩ := tr_put n nd
          walk_at "g"
          refine s_dputI (S7 _ _ hDs hD3) (line2 (by unfold trKv; rw [List.length_map]; omega)) ?_
          rw [e1]
          have S8 := (S3.trans S7).updn (o := .dK (trKv L')) nD
          walk_at "g"
          refine ⟨⟨L', upd_same, e2, fun z hz => ?_, by omega, fun _ => List.length_pos_of_mem ((e3 n).mpr (.inr rfl))⟩, ?_, S8, _, _, _, rfl⟩
          · rcases (e3 z).mp hz with h | h
            · exact hL z h
            · rw [h]; exact ⟨hb.mp rfl, n9⟩
          · obtain ⟨x1, x2, x3, x4⟩ := st7
            exact ⟨x1, x2, by rw [upd_ne (Ne.symm hDs)]; exact x3, x4⟩
        | false =>
          have hne : n ≠ 999999937 := fun z => by
            have : M.Prime n := by rw [z]; exact M.big_prime
            exact absurd (hb.mpr this) (by decide)
          walk_at "g"
          refine ⟨⟨rfl, n + 1, by push_cast; rfl, by omega, by omega⟩, ?_⟩
          show 999999938 - ((n : Int) + 1).toNat < 999999938 - (n : Int).toNat
          omega
      · have done : N [some (.ref s), some (.ref D), some (.bl b), some (.int (0 + (i : Int))), some (.int (2 + z))] H6 := by
          refine J _ _ ⟨st6, S6, (2 + z).toNat, by rw [Int.toNat_of_nonneg (by omega)], by omega, by omega⟩
        walk_at "g"
        cases b with
        | true =>
          walk_at "g"
          refine s_ite (fun c => ?_) (fun c => ?_)
          · walk_at "g"
            refine ⟨s, 999999936, rfl, by decide, by decide, st6, fun z2 H7 z20 z21 st7 s7 => ?_⟩
            walk_at "g"
            exact J _ _ ⟨st7, S6.trans s7, (2 + z2).toNat, by rw [Int.toNat_of_nonneg (by omega)]; rfl, by omega, by omega⟩
          · walk_at "g"
            exact done
        | false =>
          walk_at "g"
          exact done
    · rintro σ H3 ⟨⟨L, hD3, nd, hL, hll, hps⟩, st3, S3, b, v3, v4, rfl⟩
      walk_at "g"
      refine ⟨D, _, L.map fun d : Nat => (d : Int), rfl, .inl hD3, by unfold trKv; rw [List.map_map, List.map_map]; rfl, by rw [List.length_map]; omega, fun ys C ypm ysrt nC => ?_⟩
      obtain ⟨ds, rfl, pm, srt⟩ := ints_back ypm ysrt nd
      refine cont ds C _ srt (fun z hz => hL z (pm.mem_iff.mp hz)) (by rw [pm.length_eq]; omega) (by rw [pm.length_eq]; exact hps (by omega)) ?_ upd_same (st3.same (same_upd nC)) (S3.trans (SameB.of (same_upd nC)))
      cases e : H C with
      | none => rfl
      | some o =>
        have hCs : C ≠ s := nes nC st3
        rw [S3 _ _ hCs e] at nC
        cases nC

theorem notR_len {p k : Nat} {a : Int} {xs : List Int} (hp : M.Prime p) (hk : 0 < k) (hx : M.IsKR p k a xs) : (NoR p k a → xs = []) ∧ (¬ NoR p k a → 0 < xs.length) := by
  refine ⟨fun h => hx.unique (M.kr_none hp h.1 hk h.2), fun h => ?_⟩
  by_cases hu : M.un p a
  · by_cases h1 : M.is1 p a ((p - 1) / Nat.gcd k (p - 1))
    · rw [M.kr_len hp hu hk h1 hx]
      exact Nat.gcd_pos_of_pos_left _ hk
    · exact absurd ⟨hu, h1⟩ h
  · rw [hx.unique (M.kr_nought hp hk (Classical.byContradiction fun z => hu z))]
    exact Nat.one_pos
/-- what is told, at F -/
def ToldR (H0 H : Hp) (k : Nat) (a : Int) (ps : List (Addr × Nat)) (F : Addr) : Prop :=
  (∃ (i p : Nat) (t T L0 S : Addr), ps[i]? = some (t, p) ∧ NoR p k a ∧ (∀ (j p' : Nat) (t' : Addr), j < i → ps[j]? = some (t', p') → ¬ NoR p' k a) ∧ H0 L0 = none ∧ H F = some (.lst [.ref T, .non]) ∧ H T = some (.tup [.ref L0, .ref S]) ∧ H L0 = some (.lst []) ∧ H S = some (.tup [.str "none", .int (i : Nat), .int ((p - 1) / Nat.gcd k (p - 1) : Nat), .int (M.pw p a ((p - 1) / Nat.gcd k (p - 1)))])) ∨
  ∃ cs : List Nat, Paired (fun x c => RCnt x.2 k a c ∧ 0 < c) ps cs ∧ ((400 < M.prodN cs ∧ H F = some (.lst [.non, .int (M.prodN cs : Nat)])) ∨
    (M.prodN cs ≤ 400 ∧ ∃ (xs : List Int) (rr : List RRec) (T L0 S R : Addr), M.Mixed (ps.map (·.2)) (rr.map (·.2.2.2)) xs ∧ xs.Pairwise (· < ·) ∧ xs.length = M.prodN cs ∧ H0 L0 = none ∧ H F = some (.lst [.ref T, .non]) ∧ H T = some (.tup [.ref L0, .ref S]) ∧ H L0 = some (.lst (xs.map V.int)) ∧ H S = some (.tup [.str "by", .ref R]) ∧ H R = some (.tup (rr.map fun r => V.ref r.2.2.1)) ∧ RowsR H k a ps rr))
/-- _law_told(papers, k, a): a new list -/
def sp__law_told (K : PySem.W.Frag) : Sp := fun vs H Q _ => ∃ (n : Nat) (D : Addr) (ps : List (Addr × Nat)) (k : Nat) (a : Int), vs = [.ref D, .int (k : Nat), .int a] ∧ PapsAt n H D ps ∧ (ps.map (·.2)).Nodup ∧ (∀ x ∈ ps, x.2 ≤ 1000000000) ∧ ps.length ≤ 5 ∧ 0 < k ∧ k < 2 ^ 400 ∧ ∀ F H', Same H H' → ToldR H H' k a ps F → Q (.ref F) H'
theorem cs_ex {k : Nat} {a : Int} (hk : 0 < k) : ∀ {ps : List (Addr × Nat)}, (∀ x ∈ ps, M.Prime x.2 ∧ ¬ NoR x.2 k a) → ∃ cs : List Nat, Paired (fun (x : Addr × Nat) c => RCnt x.2 k a c ∧ 0 < c) ps cs
  | [], _ => ⟨[], .nil⟩
  | x :: ps, h => by
    obtain ⟨cs, h1⟩ := cs_ex hk (ps := ps) fun y hy => h y (by simp [hy])
    obtain ⟨hp, hn⟩ := h x (by simp)
    by_cases hu : M.un x.2 a
    · by_cases h2 : M.is1 x.2 a ((x.2 - 1) / Nat.gcd k (x.2 - 1))
      · exact ⟨Nat.gcd k (x.2 - 1) :: cs, .cons ⟨⟨fun z => absurd hu z, fun _ _ => rfl, fun _ z => absurd h2 z⟩, Nat.gcd_pos_of_pos_left _ hk⟩ h1⟩
      · exact absurd ⟨hu, h2⟩ hn
    · exact ⟨1 :: cs, .cons ⟨⟨fun _ => rfl, fun z => absurd z hu, fun z => absurd z hu⟩, Nat.one_pos⟩ h1⟩
theorem ok__law_told (T : Txt K mg) : FnOk P w K mg base CX0 13 (He.ga K "_law_told") (fd__law_told T) ["_law_papers", "_law_k", "_law_a"] (sp__law_told K) := by
  refine (F__law_told T).ok sc__law_told (fun vs H Q E h => ?_) (fun cdv A outer s H vs Q E hr h => ⟨_, PSs.nox (pss_cons (ps_set (i := 3) sc__law_told.nd rfl (Or.inl rfl) pe_non)
      (pss_cons (ps_set (i := 4) sc__law_told.nd rfl (Or.inl rfl) pe_non)
      (pss_cons (ps_try_as (i := 5) (Wout := fun _ _ _ _ => False) rfl rfl sc__law_told.nd rfl rfl ⟨rfl, by decide, .inl (g_TooMany T)⟩ takes0 (fun W pn xe tk po => (pss_one (ps_set (i := 3) sc__law_told.nd rfl (Or.inl rfl) (pe_callS (ok_roots_of T) (hr.mono (by decide)) rfl (g_roots_of T) (kp_roots_of T) (B_roots_of T) (fun σ => passAt tk σ) (pa_cons (pv 0) (pa_cons (pv 1) (pa_cons (pv 2) pa_nil))))))) (fun a oe cls d pn hz hf => (pss_one (ps_set (i := 4) sc__law_told.nd rfl (Or.inl rfl) (pe_xf (x_TooMany T).xf (x_TooMany T).noF hz hf (pv 5))))))
      (pss_one (ps_ret (pe_lst (pa_cons (pv 3) (pa_cons (pv 4) pa_nil)))))))), ?_⟩)
  · obtain ⟨n, D, ps, k, a, rfl, _⟩ := h; rfl
  · obtain ⟨n, D, ps, kk, a, rfl, hP, hnd, hpb, hpl, k0, kb, k⟩ := h
    walk_at "g"
    refine ⟨n, D, ps, kk, a, rfl, hP, hnd, hpb, hpl, k0, kb, fun i p t hx hn hb T L0 S H1 s1 nL eT eL eS => ?_, fun cs hcs => ⟨fun h4 d H1 hd s1 hx => ?_, fun h4 xs rr T L0 S R H1 hmx hxs hxl nL s1 eT eL eS eR hR => ?_⟩⟩
    · walk_at "g"
      refine mkL (by simp) fun F H2 nF eF s2 => ?_
      exact k F H2 (s1.trans s2) (.inl ⟨i, p, t, T, L0, S, hx, hn, hb, nL, eF, s2 _ _ eT, s2 _ _ eL, s2 _ _ eS⟩)
    · refine ⟨true, e_TooMany_TooMany T, fun _ a0 ha0 => ?_, fun z => Bool.noConfusion z⟩
      walk_at "g"
      refine s_xf rfl hx ?_
      walk_at "g"
      refine mkL (by simp) fun F H2 nF eF s2 => ?_
      exact k F H2 (s1.trans s2) (.inr ⟨cs, hcs, .inl ⟨h4, eF⟩⟩)
    · walk_at "g"
      refine mkL (by simp) fun F H2 nF eF s2 => ?_
      exact k F H2 (s1.trans s2) (.inr ⟨cs, hcs, .inr ⟨h4, xs, rr, T, L0, S, R, hmx, hxs, hxl, nL, eF, s2 _ _ eT, s2 _ _ eL, s2 _ _ eS, s2 _ _ eR, paired_mono (fun _ _ z => ⟨z.1, z.2.same s2⟩) hR⟩⟩)

theorem PapsAt.prime {n : Nat} {H : Hp} {D : Addr} {ps : List (Addr × Nat)} (h : PapsAt n H D ps) : ∀ x ∈ ps, M.Prime x.2 := fun x hx => by
  obtain ⟨_, _, _, _, _, hq⟩ := (h.2 x hx).pap'
  exact hq.hp
/-- _law_due(papers, k, a) -/
def sp__law_due : Sp := fun vs H Q _ => ∃ (n : Nat) (D : Addr) (ps : List (Addr × Nat)) (k : Nat) (a : Int), vs = [.ref D, .int (k : Nat), .int a] ∧ PapsAt n H D ps ∧ (∀ x ∈ ps, x.2 ≤ 1000000000) ∧ ps.length ≤ 5 ∧ 0 < k ∧
  (∀ (i p : Nat) (t : Addr), ps[i]? = some (t, p) → NoR p k a → (∀ (j p' : Nat) (t' : Addr), j < i → ps[j]? = some (t', p') → ¬ NoR p' k a) → ∀ (S : Addr) H', Same H H' → H' S = some (.tup [.str "none", .int (i : Nat), .int ((p - 1) / Nat.gcd k (p - 1) : Nat), .int (M.pw p a ((p - 1) / Nat.gcd k (p - 1)))]) → Q (.ref S) H') ∧
  (∀ cs : List Nat, Paired (fun x c => RCnt x.2 k a c ∧ 0 < c) ps cs → Q (.int (M.prodN cs : Nat)) H)
theorem ok__law_due (T : Txt K mg) : FnOk P w K mg base CX0 2 (He.ga K "_law_due") (fd__law_due T) ["_law_papers", "_law_k", "_law_a"] sp__law_due := by
  refine (F__law_due T).ok sc__law_due (fun vs H Q E h => ?_) (fun cdv A outer s H vs Q E hr h => ⟨_, PSs.nox (pss_cons (ps_set (i := 3) sc__law_due.nd rfl (Or.inl rfl) pe_int)
      (pss_cons (ps_for PassesOwn.never rfl (pi_range1 rfl (T.fr (T.c.fact 54 rfl)) (pa_cons (pe_callB callLen rfl (T.fr (T.c.fact 62 rfl)) boot_len (pa_cons (pv 0) pa_nil)) pa_nil)) (pg_name (i := 4) sc__law_due.nd rfl (Or.inl rfl)) (pss_cons (ps_set (i := 5) sc__law_due.nd rfl (Or.inl rfl) (pe_ix ix_seq (pe_ix ix_seq (pv 0) (pv 4) (fun _ _ => rfl)) pe_int (fun _ _ => rfl)))
      (pss_cons (ps_set (i := 6) sc__law_due.nd rfl (Or.inl rfl) (pe_call (ok__law_common T) (hr.mono (by decide)) rfl (g__law_common T) (kp__law_common T) (B__law_common T) .nil pass0 (pa_cons (pv 1) (pa_cons (pe_op op_sub (pv 5) pe_int) pa_nil))))
      (pss_cons (ps_set (i := 7) sc__law_due.nd rfl (Or.inl rfl) (pe_op op_fdivW (pe_op op_sub (pv 5) pe_int) (pv 6)))
      (pss_one (ps_if (pt_cmpR op_ne (pe_op op_mod (pv 2) (pv 5)) pe_int (nomark _)) (pss_cons (ps_set (i := 3) sc__law_due.nd rfl (Or.inl rfl) (pe_op op_mulW (pv 3) (pv 6)))
      (pss_one (ps_if (pt_cmpR op_ne (pe_call (ok__law_power T) (hr.mono (by decide)) rfl (g__law_power T) (kp__law_power T) (B__law_power T) .nil pass0 (pa_cons (pv 5) (pa_cons (pv 2) (pa_cons (pv 7) pa_nil)))) pe_int (nomark _)) (pss_one (ps_ret (pe_tup (pa_cons pe_str (pa_cons (pv 4) (pa_cons (pv 7) (pa_cons (pe_call (ok__law_power T) (hr.mono (by decide)) rfl (g__law_power T) (kp__law_power T) (B__law_power T) .nil pass0 (pa_cons (pv 5) (pa_cons (pv 2) (pa_cons (pv 7) pa_nil)))) pa_nil))))))) pss_nil))) pss_nil))))))
      (pss_one (ps_ret (pv 3))))), ?_⟩)
  · obtain ⟨n, D, ps, k, a, rfl, _⟩ := h; rfl
  · obtain ⟨n, D, ps, kk, a, rfl, hP, hpb, hpl, k0, kA, kB⟩ := h
    have hpr := hP.prime
    walk_at "g"
    refine s_lenL (SqL.of hP.1) ?_
    rw [List.length_map]
    walk_at "g"
    refine mkR1 ps.length (by omega) (by omega) (by omega) ?_
    refine for_range (n := ps.length) (fun i σ H' => H' = H ∧ (∀ (j p' : Nat) (t' : Addr), j < i → ps[j]? = some (t', p') → ¬ NoR p' kk a) ∧ ∃ (cs : List Nat) (v4 v5 v6 v7 : Option V), σ = [some (.ref D), some (.int (kk : Nat)), some (.int a), some (.int (M.prodN cs : Nat)), v4, v5, v6, v7] ∧ Paired (fun x c => RCnt x.2 kk a c ∧ 0 < c ∧ c ≤ 1000000000) (ps.take i) cs) ⟨rfl, fun j _ _ z => absurd z (by omega), [], none, none, none, none, rfl, by rw [List.take_zero]; exact .nil⟩ ?_ ?_
    · rintro i σ H' hi ⟨rfl, hno, cs, v4, v5, v6, v7, rfl, hcs⟩
      obtain ⟨⟨t, p⟩, hx⟩ : ∃ x, ps[i]? = some x := ⟨_, List.getElem?_eq_getElem hi⟩
      have hmem := List.mem_of_getElem? hx
      have hpB : p ≤ 1000000000 := hpb _ hmem
      have hp : M.Prime p := hpr _ hmem
      have hp2 := hp.1
      obtain ⟨f, u, et⟩ := (hP.2 _ hmem).first
      have hcl : cs.length ≤ 5 := by rw [← hcs.length, List.length_take]; omega
      have hcb := M.prodN_bd (l := cs) (B := 1000000000) fun z hz => by
        obtain ⟨_, _, _, _, h⟩ := paired_mem hcs hz
        exact h
      have hcb2 : 1000000000 ^ cs.length ≤ 1000000000 ^ 5 := Nat.pow_le_pow_right (by decide) hcl
      have hcb3 : (1000000000 : Nat) ^ 5 < 2 ^ 200 := by decide
      have hcb4 : M.prodN cs < 2 ^ 200 := by omega
      have g0 := Nat.gcd_pos_of_pos_left (p - 1) k0
      have g1 : Nat.gcd kk (p - 1) ≤ p - 1 := Nat.gcd_le_right _ (by omega)
      have next : ∀ c, RCnt p kk a c → 0 < c → c ≤ 1000000000 → (∀ (j p' : Nat) (t' : Addr), j < i + 1 → ps[j]? = some (t', p') → ¬ NoR p' kk a) ∧ Paired (fun (x : Addr × Nat) c => RCnt x.2 kk a c ∧ 0 < c ∧ c ≤ 1000000000) (ps.take (i + 1)) (cs ++ [c]) := fun c hc c0 cb => by
        refine ⟨fun j p' t' hj h1 => ?_, ?_⟩
        · rcases Nat.lt_or_ge j i with z | z
          · exact hno j p' t' z h1
          · obtain rfl : j = i := by omega
            rw [hx] at h1
            cases h1
            exact fun z => by have := hc.2.2 z.1 z.2; omega
        · rw [take_more hx]
          exact paired_snoc hcs ⟨hc, c0, cb⟩
      rw [Int.zero_add]
      walk_at "g"
      refine s_ixL (SqL.of hP.1) (atI0 i rfl (by rw [List.getElem?_map, hx]; rfl)) ?_
      walk_at "g"
      refine s_ixT (SqT.of et) (atI0 0 rfl rfl) ?_
      walk_at "g"
      rw [show ((p : Nat) : Int) - 1 = ((p - 1 : Nat) : Int) by omega]
      refine ⟨kk, p - 1, rfl, ?_⟩
      walk_at "g"
      rw [show ((p : Nat) : Int) - 1 = ((p - 1 : Nat) : Int) by omega]
      refine s_i (divW (by omega) (by omega)) ?_
      rw [← Int.natCast_ediv]
      have he : (p - 1) / Nat.gcd kk (p - 1) ≤ p - 1 := Nat.div_le_self _ _
      walk_at "g"
      refine s_i (by omega) ?_
      walk_at "g"
      refine s_iten (fun c => ?_) (fun c => ?_)
      · have hu : M.un p a := M.un_iff.mpr c
        walk_at "g"
        try refine s_i (mulW (by omega) (by omega)) ?_
        walk_at "g"
        refine ⟨(p : Int), a, (p - 1) / Nat.gcd kk (p - 1), rfl, by omega, by omega, ?_⟩
        walk_at "g"
        refine s_iten (fun c1 => ?_) (fun c1 => ?_)
        · have h1 : ¬ M.is1 p a ((p - 1) / Nat.gcd kk (p - 1)) := fun z => c1 ((M.pw_one_iff hp2).mpr z)
          walk_at "g"
          refine ⟨(p : Int), a, (p - 1) / Nat.gcd kk (p - 1), rfl, by omega, by omega, ?_⟩
          walk_at "g"
          refine mkT (by simp) fun S H1 nS eS s1 => ?_
          exact kA i p t hx ⟨hu, h1⟩ hno S H1 s1 eS
        · have h1 : M.is1 p a ((p - 1) / Nat.gcd kk (p - 1)) := (M.pw_one_iff hp2).mp (by simpa using c1)
          obtain ⟨n1, n2⟩ := next (Nat.gcd kk (p - 1)) ⟨fun z => absurd hu z, fun _ _ => rfl, fun _ z => absurd h1 z⟩ g0 (by omega)
          walk_at "g"
          exact ⟨rfl, n1, cs ++ [Nat.gcd kk (p - 1)], _, _, _, _, by rw [M.prodN_snoc]; push_cast; rfl, n2⟩
      · have hu : ¬ M.un p a := fun z => M.un_iff.mp z (by simpa using c)
        obtain ⟨n1, n2⟩ := next 1 ⟨fun _ => rfl, fun z => absurd z hu, fun z => absurd z hu⟩ Nat.one_pos (by omega)
        walk_at "g"
        exact ⟨rfl, n1, cs ++ [1], _, _, _, _, by rw [M.prodN_snoc, Nat.mul_one]; rfl, n2⟩
    · rintro σ H' ⟨rfl, hno, cs, v4, v5, v6, v7, rfl, hcs⟩
      rw [List.take_length] at hcs
      walk_at "g"
      exact kB cs (paired_mono (fun _ _ z => ⟨z.1, z.2.1⟩) hcs)

theorem rt_bd {xs : List Int} (h : xs.length ≤ 1999) (hb : ∀ x ∈ xs, x.natAbs < 2 ^ 300) : Bd 1 (.list (xs.map .int)) := .lst (by rw [List.length_map]; exact h) fun d hd => by
  obtain ⟨z, hz, rfl⟩ := List.mem_map.mp hd
  exact .int (hb z hz)
theorem rt_bdT {d1 d2 d3 : PyData} (h1 : Bd 1 d1) (h2 : Bd 1 d2) (h3 : Bd 1 d3) : Bd 2 (.tuple [d1, d2, d3]) := .tup (by simp) fun d hd => by
  simp only [List.mem_cons, List.not_mem_nil, or_false] at hd
  rcases hd with z | z | z <;> subst z <;> assumption
/-- what shows roots, as a datum -/
theorem RtAt.data {H : Hp} {s : Addr} {p k : Nat} {a : Int} {xs : List Int} (hp : M.Prime p) (hpb : p < 2 ^ 200) (hI : M.IsKR p k a xs) (hg : M.un p a → M.is1 p a ((p - 1) / Nat.gcd k (p - 1)) → Nat.gcd k (p - 1) ≤ 400) (h : RtAt H s p k a xs) : ∃ d, Tu H (.ref s) d ∧ Bd 2 d ∧ IsRt p k a (.tuple [.list (xs.map .int), d]) := by
  have hp2 := hp.1
  obtain ⟨h1, h2, h3⟩ := h
  by_cases hu : M.un p a
  · by_cases hy : M.is1 p a ((p - 1) / Nat.gcd k (p - 1))
    · obtain ⟨turn, t0, t1, t2, t3, t4⟩ := h1 hu hy
      refine ⟨.tuple [.str "turned", .int (xs.headD 0), .int turn], .tup t4 (.cons (.str _) (.cons (.int _) (.cons (.int _) .nil))), rt_bdT (.str _ (by decide +kernel)) (.int ?_) (.int (by omega)), xs, _, hI, rfl, .inr (.inr ⟨hu, hy, hg hu hy, t3, turn, t0, t1, t2, rfl⟩)⟩
      cases xs with
      | nil => simp
      | cons x xs =>
        have := (hI.iff x).mp (by simp)
        show x.natAbs < _
        omega
    · have t4 := h2 hu hy
      have hr := M.pw_range (n := (p : Int)) (by omega) a ((p - 1) / Nat.gcd k (p - 1))
      have hb : (p - 1) / Nat.gcd k (p - 1) ≤ p - 1 := Nat.div_le_self _ _
      exact ⟨.tuple [.str "none", .int ((p - 1) / Nat.gcd k (p - 1) : Nat), .int (M.pw p a ((p - 1) / Nat.gcd k (p - 1)))], .tup t4 (.cons (.str _) (.cons (.int _) (.cons (.int _) .nil))), rt_bdT (.str _ (by decide +kernel)) (.int (by rw [Int.natAbs_natCast]; omega)) (.int (by omega)), xs, _, hI, rfl, .inr (.inl ⟨hu, hy, rfl⟩)⟩
  · refine ⟨.tuple [.str "nought"], .tup (h3 hu) (.cons (.str _) .nil), .tup (by simp) fun d hd => ?_, xs, _, hI, rfl, .inl ⟨hu, rfl⟩⟩
    rw [List.mem_singleton.mp hd]; exact .str _ (by decide +kernel)

/-- a paper in the heap, as a datum -/
theorem PaperAt.data : ∀ {n : Nat} {H : Hp} {t : Addr} {p : Nat}, PaperAt n H t p → p < 2 ^ 200 → ∃ d, Tu H (.ref t) d ∧ Bd (3 * n) d ∧ IsPap d ∧ pOf d = p
  | 0, _, _, _, h, _ => h.elim
  | n + 1, H, t, p, ⟨f, u, xs, l, e1, e2, hp, hf, hl, pr⟩, hb => by
    have p2 := hp.1
    have key : ∀ (l : List (Nat × Nat)) (xs : List V), (∀ x ∈ l, x.1 < 2 ^ 200 ∧ x.2 < 2 ^ 60 ∧ 0 < x.2) → Paired (fun x r => ∃ a s, x = V.ref a ∧ H a = some (.tup [.ref s, .int (r.2 : Nat)]) ∧ PaperAt n H s r.1) xs l →
        ∃ ds, DaL (fun _ => False) H xs ds ∧ (∀ d ∈ ds, Bd (3 * n + 1) d) ∧ facD ds = l ∧ (∀ d ∈ ds, IsPap (papOf d)) ∧ ∀ d ∈ ds, ∃ pap b, 1 ≤ b ∧ d = .tuple [pap, .int (b : Nat)] := by
      intro l xs hl pr
      induction pr with
      | nil => exact ⟨[], .nil, by simp, rfl, by simp, by simp⟩
      | @cons x r xs l f pr ih =>
        obtain ⟨ds, h1, h2, h3, h4, h5⟩ := ih fun x hx => hl x (by simp [hx])
        obtain ⟨a, s, rfl, ha, hs⟩ := f
        obtain ⟨b1, b2, b3⟩ := hl r (by simp)
        obtain ⟨d, g1, g2, g3, g4⟩ := PaperAt.data hs b1
        refine ⟨.tuple [d, .int (r.2 : Nat)] :: ds, .cons (.tup ha (.cons g1 (.cons (.int _) .nil))) h1, fun e he => ?_, ?_, fun e he => ?_, fun e he => ?_⟩
        · rcases List.mem_cons.mp he with z | z
          · subst z
            refine .tup (by simp) fun y hy => ?_
            rcases List.mem_cons.mp hy with z | z
            · subst z; exact g2
            · rw [List.mem_singleton.mp z]; exact .int (by omega)
          · exact h2 e z
        · show (pOf d, ((r.2 : Nat) : Int).toNat) :: facD ds = r :: l
          rw [h3, g4]; rfl
        · rcases List.mem_cons.mp he with z | z
          · subst z; exact g3
          · exact h4 e z
        · rcases List.mem_cons.mp he with z | z
          · subst z; exact ⟨d, r.2, b3, rfl⟩
          · exact h5 e z
    obtain ⟨ds, h1, h2, h3, h4, h5⟩ := key l xs (fun x hx => by
      have q1 := hl.primes x hx
      have q2 := Nat.le_of_dvd (by omega) (M.fac_dvd hl hx)
      exact ⟨by omega, fac_many hl (by omega) hx (by omega), q1.2⟩) pr
    have hlen : ds.length ≤ 999 := by
      obtain ⟨d, hd⟩ := M.Fac.of hl (by omega)
      have := fac_len hd (by omega)
      rw [← h3] at this
      unfold facD at this
      rw [List.length_map] at this
      omega
    have hf0 := hf.f0
    have hf1 := hf.f1
    refine ⟨.tuple [.int (p : Nat), .int (f : Nat), .tuple ds], .tup e1 (.cons (.int _) (.cons (.int _) (.cons (.tup e2 h1) .nil))), .tup (by simp) fun y hy => ?_, ?_, rfl⟩
    · simp only [List.mem_cons, List.not_mem_nil, or_false] at hy
      rcases hy with z | z | z <;> subst z
      · exact .int (by omega)
      · exact .int (by omega)
      · exact .tup hlen h2
    · have ho := hf.full
      have un := M.un_small (p := p) (a := (f : Int)) (by omega) (by omega)
      refine .mk p f ds hp.1 (by omega) (by omega) h4 h5 (by rw [h3]; exact hl.sorted) (by rw [h3]; exact hl.prod) ((M.pw_one_iff hp.1).mpr (M.fermat hp un)) fun d hd => ?_
      exact (M.full_iff hp un hl).mp ho (qOf d, bOf d) (by rw [← h3]; exact facD_mem hd)
theorem Pap.data {n : Nat} {H : Hp} {t : Addr} {p f : Nat} {u : Addr} {pl : List (Addr × Nat × Nat)} (h : Pap n H t p f u pl) (hb : p < 2 ^ 200) : ∃ d, Tu H (.ref t) d ∧ Bd (3 * n + 3) d ∧ IsPap d ∧ pOf d = p := h.paper.data hb

/-- a paper of a prime to 10 ** 9 is no deeper than 21 -/
theorem PaperAt.shrink : ∀ (m : Nat) {n : Nat} {H : Hp} {t : Addr} {p : Nat}, PaperAt n H t p → ¬ M.Chain (m + 1) p → PaperAt m H t p
  | _, 0, _, _, _, h, _ => h.elim
  | 0, n + 1, H, t, p, ⟨f, u, xs, l, e1, e2, hp, hf, hl, pr⟩, hc => absurd ⟨hp, .inl rfl⟩ hc
  | m + 1, n + 1, H, t, p, ⟨f, u, xs, l, e1, e2, hp, hf, hl, pr⟩, hc => by
    refine ⟨f, u, xs, l, e1, e2, hp, hf, hl, ?_⟩
    have key : ∀ (xs : List V) (l' : List (Nat × Nat)), (∀ x ∈ l', x ∈ l) → Paired (fun x r => ∃ a s, x = V.ref a ∧ H a = some (.tup [.ref s, .int (r.2 : Nat)]) ∧ PaperAt n H s r.1) xs l' → Paired (fun x r => ∃ a s, x = V.ref a ∧ H a = some (.tup [.ref s, .int (r.2 : Nat)]) ∧ PaperAt m H s r.1) xs l' := by
      intro xs l' hl' pr
      induction pr with
      | nil => exact .nil
      | cons f _ ih =>
        obtain ⟨a, s, e, h1, h2⟩ := f
        refine .cons ⟨a, s, e, h1, PaperAt.shrink m h2 fun c => hc ⟨hp, .inr ⟨_, M.fac_dvd hl (hl' _ (by simp)), c⟩⟩⟩ (ih fun x hx => hl' x (by simp [hx]))
    exact key xs l (fun _ h => h) pr
theorem PaperAt.to21 {n : Nat} {H : Hp} {t : Addr} {p : Nat} (h : PaperAt n H t p) (hp : p ≤ 1000000000) : PaperAt 21 H t p := h.shrink 21 (M.chain22 hp)

theorem paps_data {n : Nat} {H : Hp} : ∀ {ps : List (Addr × Nat)}, (∀ x ∈ ps, PaperAt n H x.1 x.2 ∧ x.2 ≤ 1000000000) → ∃ ds, DaL (fun _ => True) H (ps.map fun x => V.ref x.1) ds ∧ (∀ d ∈ ds, IsPap d ∧ Bd 135 d ∧ pOf d ≤ 1000000000) ∧ ds.map pOf = ps.map (·.2)
  | [], _ => ⟨[], .nil, by simp, rfl⟩
  | x :: ps, h => by
    obtain ⟨ds, h1, h2, h3⟩ := paps_data (ps := ps) fun y hy => h y (by simp [hy])
    obtain ⟨hp, hb⟩ := h x (by simp)
    obtain ⟨d, g1, g2, g3, g4⟩ := (hp.to21 hb).data (by omega)
    refine ⟨d :: ds, .cons (g1.mono fun _ z => z.elim) h1, fun e he => ?_, by rw [List.map_cons, List.map_cons, h3, g4]⟩
    rcases List.mem_cons.mp he with z | z
    · subst z; exact ⟨g3, g2.mono (by decide), by rw [g4]; exact hb⟩
    · exact h2 e z
theorem pOf_get {ds : List PyData} {ps : List (Addr × Nat)} (h : ds.map pOf = ps.map (·.2)) {i : Nat} {x : Addr × Nat} (hx : ps[i]? = some x) : ∃ d, ds[i]? = some d ∧ pOf d = x.2 := by
  have h1 : (ds.map pOf)[i]? = some x.2 := by rw [h, List.getElem?_map, hx]; rfl
  rw [List.getElem?_map] at h1
  obtain ⟨d, hd, e⟩ := Option.map_eq_some_iff.mp h1
  exact ⟨d, hd, e⟩
theorem ps_of {ds : List PyData} {ps : List (Addr × Nat)} (h : ds.map pOf = ps.map (·.2)) {i : Nat} {d : PyData} (hd : ds[i]? = some d) : ∃ x, ps[i]? = some x ∧ pOf d = x.2 := by
  have h1 : (ps.map (·.2))[i]? = some (pOf d) := by rw [← h, List.getElem?_map, hd]; rfl
  rw [List.getElem?_map] at h1
  obtain ⟨x, hx, e⟩ := Option.map_eq_some_iff.mp h1
  exact ⟨x, hx, e.symm⟩
/-- none by some prime -/
theorem shows_none {ds : List PyData} {ps : List (Addr × Nat)} {k i p : Nat} {t : Addr} {a : Int} (hds : ds.map pOf = ps.map (·.2)) (hx : ps[i]? = some (t, p)) (hp : M.Prime p) (hk : 0 < k) (hn : NoR p k a) : ShowsRD ds k a (.tuple [.list [], .tuple [.str "none", .int (i : Nat), .int ((p - 1) / Nat.gcd k (p - 1) : Nat), .int (M.pw p a ((p - 1) / Nat.gcd k (p - 1)))]]) := by
  obtain ⟨d, hd, e⟩ := pOf_get hds hx
  have e : pOf d = p := e
  refine .inl ⟨i, d, _, _, hd, rfl, [], _, ?_, rfl, .inr (.inl ?_)⟩
  · rw [e]; exact M.kr_none hp hn.1 hk hn.2
  · rw [e]; exact ⟨hn.1, hn.2, rfl⟩
theorem not_none0 {ds : List PyData} {k : Nat} {a : Int} {i e r : PyData} : ¬ ShowsRD ds k a (.tuple [.list [.int 0], .tuple [.str "none", i, e, r]]) := by
  rintro (⟨_, _, _, _, _, z, _⟩ | ⟨_, _, z, _⟩)
  · simp only [PyData.tuple.injEq, List.cons.injEq, PyData.list.injEq] at z
    exact absurd z.1 (by simp)
  · simp only [PyData.tuple.injEq, List.cons.injEq, PyData.str.injEq] at z
    exact absurd z.2.1.1 (by decide +kernel)
theorem not_many {ds : List PyData} {k : Nat} {a : Int} {xs : List Int} {rows : PyData} (h : 400 < xs.length) : ¬ ShowsRD ds k a (.tuple [.list (xs.map .int), .tuple [.str "by", rows]]) := by
  rintro (⟨_, _, _, _, _, z, _⟩ | ⟨_, _, z, ns, _, _, e, _, h4, _⟩)
  · simp only [PyData.tuple.injEq, List.cons.injEq, PyData.str.injEq] at z
    exact absurd z.2.1.1 (by decide +kernel)
  · simp only [PyData.tuple.injEq, List.cons.injEq] at z
    rw [← z.1] at e
    have := map_int_inj.mp (PyData.list.inj e)
    subst this
    omega
theorem rows_data {H : Hp} {k : Nat} {a : Int} : ∀ {ps : List (Addr × Nat)} {rr : List RRec} {cs : List Nat}, (∀ x ∈ ps, M.Prime x.2 ∧ x.2 ≤ 1000000000) → RowsR H k a ps rr → Paired (fun (x : Addr × Nat) c => RCnt x.2 k a c ∧ 0 < c ∧ c ≤ 400) ps cs → ∃ es, DaL (fun _ => True) H (rr.map fun r => V.ref r.2.2.1) es ∧ (∀ e ∈ es, Bd 2 e) ∧ es.length = ps.length ∧ ∀ (i : Nat) (x : Addr × Nat) (r : RRec) (e : PyData), ps[i]? = some x → rr[i]? = some r → es[i]? = some e → IsRt x.2 k a (.tuple [.list (r.2.2.2.map .int), e])
  | _, _, _, _, .nil, _ => ⟨[], .nil, by simp, rfl, fun i x r e h => by simp at h⟩
  | x :: ps, r :: rr, _, hp, .cons h h', .cons c c' => by
    obtain ⟨es, h1, h2, h3, h4⟩ := rows_data (fun y hy => hp y (by simp [hy])) h' c'
    obtain ⟨p1, p2⟩ := hp x (by simp)
    obtain ⟨d, g1, g2, g3⟩ := RtAt.data p1 (by omega) h.1 (fun hu hy => by have := c.1.2.1 hu hy; have := c.2.2; omega) h.2
    refine ⟨d :: es, .cons (g1.mono fun _ z => z.elim) h1, fun e he => ?_, by simp [h3], fun i y s e a1 a2 a3 => ?_⟩
    · rcases List.mem_cons.mp he with z | z
      · subst z; exact g2
      · exact h2 e z
    · cases i with
      | zero =>
        simp only [List.getElem?_cons_zero, Option.some.injEq] at a1 a2 a3
        subst a1 a2 a3
        exact g3
      | succ i =>
        simp only [List.getElem?_cons_succ] at a1 a2 a3
        exact h4 i y s e a1 a2 a3
theorem kr_ok {k : Nat} {a : Int} {ps : List (Addr × Nat)} {rr : List RRec} (hK : Paired (fun (x : Addr × Nat) (r : RRec) => M.IsKR x.2 k a r.2.2.2) ps rr) : ∀ (i p : Nat) (l : List Int), (ps.map (·.2))[i]? = some p → (rr.map (·.2.2.2))[i]? = some l → M.IsKR p k a l := fun i p l h1 h2 => by
  rw [List.getElem?_map] at h1 h2
  obtain ⟨x, hx, rfl⟩ := Option.map_eq_some_iff.mp h1
  obtain ⟨r, hr, rfl⟩ := Option.map_eq_some_iff.mp h2
  obtain ⟨r', hr', h⟩ := pget hK hx
  rw [hr] at hr'
  cases hr'
  exact h
/-- the rests of all roots by one prime are the roots by it -/
theorem rests_are {k : Nat} {a : Int} {ps : List (Addr × Nat)} {rr : List RRec} {xs : List Int} (hpr : ∀ x ∈ ps, M.Prime x.2) (hsr : (ps.map (·.2)).Pairwise (· < ·)) (hK : Paired (fun (x : Addr × Nat) (r : RRec) => M.IsKR x.2 k a r.2.2.2) ps rr) (hne : ∀ r ∈ rr, r.2.2.2 ≠ []) (hmx : M.Mixed (ps.map (·.2)) (rr.map (·.2.2.2)) xs) {i p : Nat} {l : List Int} (h1 : (ps.map (·.2))[i]? = some p) (h2 : (rr.map (·.2.2.2))[i]? = some l) (z : Int) : z ∈ l ↔ ∃ n ∈ xs, n % (p : Int) = z := by
  have hok : ∀ (i p : Nat) (l : List Int), (ps.map (·.2))[i]? = some p → (rr.map (·.2.2.2))[i]? = some l → l.Nodup ∧ ∀ s ∈ l, 0 ≤ s ∧ s < p := fun i p l h1 h2 => by
    have h := kr_ok hK i p l h1 h2
    exact ⟨h.sorted.imp fun h => by omega, fun s hs => ⟨((h.iff s).mp hs).1, ((h.iff s).mp hs).2.1⟩⟩
  constructor
  · intro hz
    exact M.mixed_hit hmx (by rw [List.length_map, List.length_map]; exact hK.length.symm) hsr (fun p hp => by obtain ⟨x, hx, rfl⟩ := List.mem_map.mp hp; exact hpr x hx) hok (fun l hl => by obtain ⟨r, hr, rfl⟩ := List.mem_map.mp hl; exact hne r hr) h1 h2 hz
  · rintro ⟨n, hn, rfl⟩
    exact ((hmx.iff n).mp hn).2.2 i p l h1 h2
theorem each_told {ds : List PyData} {ps : List (Addr × Nat)} {k : Nat} {a : Int} {rr : List RRec} {es : List PyData} {xs : List Int} (hds : ds.map pOf = ps.map (·.2)) (hpr : ∀ x ∈ ps, M.Prime x.2) (hsr : (ps.map (·.2)).Pairwise (· < ·)) (hK : Paired (fun (x : Addr × Nat) (r : RRec) => M.IsKR x.2 k a r.2.2.2) ps rr) (hne : ∀ r ∈ rr, r.2.2.2 ≠ []) (hel : es.length = ps.length) (hes : ∀ (i : Nat) (x : Addr × Nat) (r : RRec) (e : PyData), ps[i]? = some x → rr[i]? = some r → es[i]? = some e → IsRt x.2 k a (.tuple [.list (r.2.2.2.map .int), e])) (hmx : M.Mixed (ps.map (·.2)) (rr.map (·.2.2.2)) xs) (srt : xs.Pairwise (· < ·)) (h4 : xs.length ≤ 400) : EachD ds k a (.list (xs.map .int)) (.tuple es) := by
  have hdl : ds.length = ps.length := by have := congrArg List.length hds; rwa [List.length_map, List.length_map] at this
  refine ⟨xs, rr.map (·.2.2.2), es, rfl, fun z => ?_, h4, srt, fun n hn => ?_, rfl, by omega, by rw [List.length_map, ← hK.length, hdl], fun i d rs e h1 h2 h3 => ?_, hmx.len⟩
  · have h1 := hmx.len
    have h2 : 0 < M.prodN ((rr.map (·.2.2.2)).map List.length) := M.prodN_pos fun n hn => by
      obtain ⟨l, hl, rfl⟩ := List.mem_map.mp hn
      obtain ⟨r, hr, rfl⟩ := List.mem_map.mp hl
      exact List.length_pos_iff.mpr (hne r hr)
    rw [z, List.length_nil] at h1
    omega
  · rw [hds]
    exact ⟨((hmx.iff n).mp hn).1, ((hmx.iff n).mp hn).2.1⟩
  · obtain ⟨x, hx, ex⟩ := ps_of hds h1
    have g1 : (ps.map (·.2))[i]? = some x.2 := by rw [List.getElem?_map, hx]; rfl
    have hk := kr_ok hK i _ rs g1 h2
    refine ⟨hk.sorted, fun z => ?_, ?_⟩
    · rw [ex]; exact rests_are hpr hsr hK hne hmx g1 h2 z
    · rw [List.getElem?_map] at h2
      obtain ⟨r, hr, rfl⟩ := Option.map_eq_some_iff.mp h2
      rw [ex]; exact hes i x r e hx hr h3
theorem each_only {ds : List PyData} {ps : List (Addr × Nat)} {k : Nat} {a : Int} {rr : List RRec} {dr : PyData} {xs ns : List Int} (hds : ds.map pOf = ps.map (·.2)) (hK : Paired (fun (x : Addr × Nat) (r : RRec) => M.IsKR x.2 k a r.2.2.2) ps rr) (hmx : M.Mixed (ps.map (·.2)) (rr.map (·.2.2.2)) xs) (srt : xs.Pairwise (· < ·)) (h : EachD ds k a (.list (ns.map .int)) dr) : ns = xs := by
  have hdl : ds.length = ps.length := by have := congrArg List.length hds; rwa [List.length_map, List.length_map] at this
  have hrr : rr.length = ps.length := hK.length.symm
  obtain ⟨ns', rl, es, z1, _, _, hsr, hrg, rfl, hle, hrl, hr, hlen⟩ := h
  have e0 := map_int_inj.mp (PyData.list.inj z1)
  subst e0
  have e1 : rl = rr.map (·.2.2.2) := List.ext_getElem? fun i => by
    rcases Nat.lt_or_ge i ds.length with c | c
    · obtain ⟨d, hd⟩ : ∃ d, ds[i]? = some d := ⟨_, List.getElem?_eq_getElem c⟩
      obtain ⟨rs, h1⟩ : ∃ r, rl[i]? = some r := ⟨_, List.getElem?_eq_getElem (by omega)⟩
      obtain ⟨r, h2⟩ : ∃ r, rr[i]? = some r := ⟨_, List.getElem?_eq_getElem (by omega)⟩
      obtain ⟨e, h3⟩ : ∃ e, es[i]? = some e := ⟨_, List.getElem?_eq_getElem (by omega)⟩
      obtain ⟨_, _, rs', s, hk, z, _⟩ := hr i d rs e hd h1 h3
      simp only [PyData.tuple.injEq, List.cons.injEq] at z
      have e2 := map_int_inj.mp (PyData.list.inj z.1)
      subst e2
      obtain ⟨x, hx, ex⟩ := ps_of hds hd
      have hk2 := kr_ok hK i x.2 r.2.2.2 (by rw [List.getElem?_map, hx]; rfl) (by rw [List.getElem?_map, h2]; rfl)
      rw [ex] at hk
      rw [h1, List.getElem?_map, h2, hk.unique hk2]; rfl
    · rw [List.getElem?_eq_none (by omega), List.getElem?_eq_none (by rw [List.length_map]; omega)]
  rw [e1] at hlen
  have hl2 : ns.length = xs.length := by rw [hlen, hmx.len]
  refine (M.sub_of_sorted hsr srt fun n hn => (hmx.iff n).mpr ⟨(hrg n hn).1, by rw [← hds]; exact (hrg n hn).2, fun i p l h1 h2 => ?_⟩).eq_of_length hl2
  have c : i < ds.length := by
    have := (List.getElem?_eq_some_iff.mp h1).1
    rw [List.length_map] at this
    omega
  obtain ⟨d, hd⟩ : ∃ d, ds[i]? = some d := ⟨_, List.getElem?_eq_getElem c⟩
  obtain ⟨e, h3⟩ : ∃ e, es[i]? = some e := ⟨_, List.getElem?_eq_getElem (by omega)⟩
  obtain ⟨_, hm, _⟩ := hr i d l e hd (by rw [e1]; exact h2) h3
  obtain ⟨x, hx, ex⟩ := ps_of hds hd
  rw [List.getElem?_map, hx] at h1
  cases h1
  exact (hm _).mpr ⟨n, hn, by rw [ex]⟩
/-- the call of shows_roots_of -/
theorem call_shows {n : Nat} {H : Hp} {D : Addr} {ps : List (Addr × Nat)} {vt : V} {dt : PyData} {k : Nat} {a : Int} {Q : VK} {E : XK} (b : Bool) (hP : PapsAt n H D ps) (hpb : ∀ x ∈ ps, x.2 ≤ 1000000000) (hl0 : 0 < ps.length) (hl5 : ps.length ≤ 5) (hsr : (ps.map (·.2)).Pairwise (· < ·)) (hdt : Da H vt dt) (hbt : Bd 60 dt) (k0 : 0 < k) (kb : k < 2 ^ 900) (hb : ∀ ds, ds.map pOf = ps.map (·.2) → (b = true ↔ ShowsRD ds k a dt)) (hq : ∀ H', Same H H' → Q (.bl b) H') : sp_shows_roots_of [.ref D, .int (k : Nat), .int a, vt] H Q E := by
  obtain ⟨ds, h1, h2, h3⟩ := paps_data (H := H) (n := n) (ps := ps) fun x hx => ⟨hP.2 x hx, hpb x hx⟩
  have hdl : ds.length = ps.length := by have := congrArg List.length h3; rwa [List.length_map, List.length_map] at this
  have hpD : PapsD (.list ds) := ⟨ds, rfl, by omega, by omega, fun e he => (h2 e he).1, by rw [h3]; exact hsr⟩
  refine ⟨.ref D, vt, .list ds, dt, k, a, rfl, .lst hP.1 h1 trivial, .lst (by omega) fun d hd => (h2 d hd).2.1, fun _ ds' e d hd => by cases e; exact (h2 d hd).2.2, hdt, hbt, k0, kb, fun o H' ho s => ?_⟩
  have : o = b := by
    have h4 : (o = true) ↔ (b = true) := by
      rw [hb ds h3, ho]
      exact ⟨fun ⟨_, ds', e, z⟩ => by cases e; exact z, fun z => ⟨hpD, ds, rfl, z⟩⟩
    cases o <;> cases b <;> simp_all
  rw [this]
  exact hq H' s

theorem eqv_ints : ∀ l m : List Int, PyData.eqvAll (l.map PyData.int) (m.map PyData.int) = decide (l = m)
  | [], [] => by simp [PyData.eqvAll]
  | [], _ :: _ => by simp [PyData.eqvAll]
  | _ :: _, [] => by simp [PyData.eqvAll]
  | a :: l, b :: m => by
    rw [List.map_cons, List.map_cons]
    simp only [PyData.eqvAll, PyData.eqv, eqv_ints l m]
    by_cases h1 : a = b <;> by_cases h2 : l = m <;> simp [h1, h2]
theorem eqv_lst (l m : List Int) : PyData.eqv (.list (l.map PyData.int)) (.list (m.map PyData.int)) = decide (l = m) := by
  rw [← eqv_ints]; simp [PyData.eqv]
theorem nought_sh : SeqAt.shaped (.tuple [.str "nought"]) = true := shapedT fun d hd => by
  simp only [List.mem_cons, List.not_mem_nil, or_false] at hd
  rcases hd with rfl
  exact ⟨by first | (simp [PyData.canLay0]; done) | (simp [PyData.canLay0]; decide +kernel), by simp [PyData.depth]⟩
theorem turned_sh (z : Int) : SeqAt.shaped (.tuple [.str "turned", .int z]) = true := shapedT fun d hd => by
  simp only [List.mem_cons, List.not_mem_nil, or_false] at hd
  rcases hd with rfl | rfl
  · exact ⟨by first | (simp [PyData.canLay0]; done) | (simp [PyData.canLay0]; decide +kernel), by simp [PyData.depth]⟩
  · exact ⟨by simp [PyData.canLay0], by simp [PyData.depth]⟩
/-- _law_is_row(paper, d, a, rests, row) -/
def sp__law_is_row : Sp := fun vs H Q _ => ∃ (n p k : Nat) (t b s : Addr) (a : Int) (l : List Int), vs = [.ref t, .int (Nat.gcd k (p - 1) : Nat), .int a, .ref b, .ref s] ∧ PaperAt n H t p ∧ M.Prime p ∧ p ≤ 1000000000 ∧ 0 < k ∧ H b = some (.lst (l.map V.int)) ∧ l.length ≤ 400 ∧ M.IsKR p k a l ∧ ¬ NoR p k a ∧ RtAt H s p k a l ∧ ∀ H', Same H H' → Q (.bl true) H'
theorem ok__law_is_row (T : Txt K mg) : FnOk P w K mg base CX0 2 (He.ga K "_law_is_row") (fd__law_is_row T) ["_law_paper_here", "_law_d", "_law_a", "_law_rests", "_law_row"] sp__law_is_row := by
  refine (F__law_is_row T).ok sc__law_is_row (fun vs H Q E h => ?_) (fun cdv A outer s H vs Q E hr h => ⟨_, PSs.nox (pss_cons (ps_set (i := 5) sc__law_is_row.nd rfl (Or.inr rfl) (pe_ix ix_seq (pv 0) pe_int (fun _ _ => rfl)))
      (pss_cons (ps_if (pt_cmpR op_eq (pe_op op_mod (pv 2) (pv 5)) pe_int (nomark _)) (pss_one (ps_ret (pe_and (pe_cmpR (op_eqD hr.units) (pv 3) (pe_lst (pa_cons pe_int pa_nil)) (nomark _)) (pe_one (pe_cmpR (op_eqD hr.units) (pv 4) (pe_tup (pa_cons pe_str pa_nil)) (nomark _)))))) pss_nil)
      (pss_cons (ps_if (PW.pt (pw_or (pt_not (pt_val (pe_callB call_isi rfl (T.fr (T.c.fact 59 rfl)) boot_isinstance (pa_cons (pv 4) (pa_cons (pe_bltn (v := .ty "tuple") rfl (T.fr (T.c.fact 58 rfl)) boot_tuple rfl) pa_nil))))) (pw_or (pt_cmpR op_ne (pe_callB callLen rfl (T.fr (T.c.fact 62 rfl)) boot_len (pa_cons (pv 4) pa_nil)) pe_int (nomark _)) (pw_or (pt_cmpR (op_neD hr.units) (pe_slice sl_tupA (pv 4) po_none (po_some pe_int)) (pe_tup (pa_cons pe_str (pa_cons (pe_ix ix_seq (pv 3) pe_int (fun _ _ => rfl)) pa_nil))) (nomark _)) (pw_or1 (pt_val (pe_callB call_isi rfl (T.fr (T.c.fact 59 rfl)) boot_isinstance (pa_cons (pe_ix ix_seq (pv 4) pe_int (fun _ _ => rfl)) (pa_cons (pe_bltn (v := .ty "bool") rfl (T.fr (T.c.fact 61 rfl)) boot_bool rfl) pa_nil))))))))) (pss_one (ps_ret pe_bl)) pss_nil)
      (pss_cons (ps_if (PW.pt (pw_or (pt_cmpR op_ne (pe_callB callLen rfl (T.fr (T.c.fact 62 rfl)) boot_len (pa_cons (pv 3) pa_nil)) (pv 1) (nomark _)) (pw_or (pt_not (pt_val (pe_callB call_isi rfl (T.fr (T.c.fact 59 rfl)) boot_isinstance (pa_cons (pe_ix ix_seq (pv 4) pe_int (fun _ _ => rfl)) (pa_cons (pe_bltn (v := .ty "int") rfl (T.fr (T.c.fact 60 rfl)) boot_int rfl) pa_nil))))) (pw_or (pt_cmpR op_lt (pe_ix ix_seq (pv 4) pe_int (fun _ _ => rfl)) pe_int (nomark _)) (pw_or (pt_cmpR op_ge (pe_ix ix_seq (pv 4) pe_int (fun _ _ => rfl)) (pv 5) (nomark _)) (pw_or1 (pt_cmpR op_ne (pe_call (ok__law_power T) (hr.mono (by decide)) rfl (g__law_power T) (kp__law_power T) (B__law_power T) .nil pass0 (pa_cons (pv 5) (pa_cons (pe_ix ix_seq (pv 4) pe_int (fun _ _ => rfl)) (pa_cons (pv 1) pa_nil)))) pe_int (nomark _)))))))) (pss_one (ps_ret pe_bl)) pss_nil)
      (pss_one (ps_ret (pe_cmpR op_notIn_seq pe_int (pe_lc (own := [("_law_q", 6), ("_law_many", 7)]) (tt := tYes) (g := gTup K 2 (gCons (gName 6) (gCons (gName 7) gNil))) rfl sc__law_is_row.nd (pi_list (pe_call (ok__law_parted T) (hr.mono (by decide)) rfl (g__law_parted T) (kp__law_parted T) (B__law_parted T) .nil pass0 (pa_cons (pv 1) pa_nil))) (blkOk_by (N := N__law_is_row) (sc := defScope s__law_is_row) (by decide +kernel)) (fun _ _ _ _ _ => (pg_tup rfl (pgs_cons (pg_name (i := 6) sc__law_is_row.nd rfl (Or.inl rfl)) (pgs_cons (pg_name (i := 7) sc__law_is_row.nd rfl (Or.inl rfl)) pgs_nil)))) (fun _ _ _ _ _ => pts_nil) (fun _ _ _ _ _ => (pe_call (ok__law_power T) (hr.mono (by decide)) rfl (g__law_power T) (kp__law_power T) (B__law_power T) .nil pass0 (pa_cons (pv 5) (pa_cons (pe_ix (R.ix_seqK K rfl) (pv 4) pe_int (fun _ _ => rfl)) (pa_cons (pe_op op_fdivW (pv 1) (pv 6)) pa_nil)))))) rfl))))))), ?_⟩)
  · obtain ⟨n, p, k, t, b, s, a, l, rfl, _⟩ := h; rfl
  · obtain ⟨n, p, kk, t, b, s, a, l, rfl, hP, hp, hpb, k0, eb, hll, hK, hn, hR, k⟩ := h
    have hp2 := hp.1
    obtain ⟨f, u, et⟩ := hP.first
    walk_at "g"
    refine s_ixT (SqT.of et) (atI0 0 rfl rfl) ?_
    walk_at "g"
    refine s_i (by omega) ?_
    walk_at "g"
    refine s_ite (fun c => ?_) (fun c => ?_)
    · have hu : ¬ M.un p a := fun z => M.un_iff.mp z c
      have hl : l = [0] := hK.unique (M.kr_nought hp k0 (Classical.byContradiction fun z => hu z))
      walk_at "g"
      refine mkL (by simp) fun W H1 nW eW s1 => ?_
      refine s_eqD (.list (l.map PyData.int)) (.list ([0].map PyData.int)) (dp_ints (s1 _ _ eb)) (dp_ints (l := [0]) eW) (sh_ints _) (sh_ints _) ?_
      rw [eqv_lst]
      walk_at "g"
      refine s_itP hl ?_
      walk_at "g"
      refine mkT (by simp) fun W2 H2 nW2 eW2 s2 => ?_
      refine s_eqD (.tuple [.str "nought"]) (.tuple [.str "nought"]) (.tup (SqT.of ((s1.trans s2) _ _ (hR.2.2 hu))) (.cons (.str _) .nil)) (.tup (SqT.of eW2) (.cons (.str _) .nil)) nought_sh nought_sh ?_
      rw [eqv_shaped nought_sh]
      exact k H2 (s1.trans s2)
    · have hu : M.un p a := M.un_iff.mpr c
      have h1 : M.is1 p a ((p - 1) / Nat.gcd kk (p - 1)) := Classical.byContradiction fun z => hn ⟨hu, z⟩
      obtain ⟨turn, t0, t1, ot, hl, et1⟩ := hR.1 hu h1
      have g0 := Nat.gcd_pos_of_pos_left (p - 1) k0
      obtain ⟨z, l', rfl⟩ : ∃ z l', l = z :: l' := by
        cases l with
        | nil => simp at hl; omega
        | cons z l' => exact ⟨z, l', rfl⟩
      have et1 : H s = some (.tup [.str "turned", .int z, .int turn]) := et1
      walk_at "g"
      refine s_isi (.tup et1) kb_tt ?_
      walk_at "g"
      refine s_lenT (SqT.of et1) ?_
      walk_at "g"
      try refine s_itnP rfl ?_
      walk_at "g"
      refine mkSlA (SqT.of et1) et1 fun W1 H1 eW1 s1 => ?_
      walk_at "g"
      refine s_ixL (SqL.of (s1 _ _ eb)) (atI0 0 rfl rfl) ?_
      walk_at "g"
      refine mkT (by simp) fun W2 H2 nW2 eW2 s2 => ?_
      have eW1' : H2 W1 = some (.tup [.str "turned", .int z]) := s2 _ _ eW1
      have S2 := s1.trans s2
      refine s_neD (.tuple [.str "turned", .int z]) (.tuple [.str "turned", .int z]) (.tup (SqT.of eW1') (.cons (.str _) (.cons (.int _) .nil))) (.tup (SqT.of eW2) (.cons (.str _) (.cons (.int _) .nil))) (turned_sh z) (turned_sh z) ?_
      rw [eqv_shaped (turned_sh z)]
      have et2 := S2 _ _ et1
      walk_at "g"
      refine s_ixT (SqT.of et2) (atI0 2 rfl rfl) ?_
      walk_at "g"
      refine s_lenL (SqL.of (S2 _ _ eb)) ?_
      rw [List.length_map]
      walk_at "g"
      try refine s_itnP (by omega) ?_
      walk_at "g"
      refine s_ixT (SqT.of et2) (atI0 2 rfl rfl) ?_
      walk_at "g"
      refine s_ixT (SqT.of et2) (atI0 2 rfl rfl) ?_
      walk_at "g"
      refine s_itN (by omega) ?_
      walk_at "g"
      refine s_ixT (SqT.of et2) (atI0 2 rfl rfl) ?_
      walk_at "g"
      refine s_itN (by omega) ?_
      walk_at "g"
      refine s_ixT (SqT.of et2) (atI0 2 rfl rfl) ?_
      walk_at "g"
      refine ⟨(p : Int), turn, Nat.gcd kk (p - 1), rfl, by omega, by omega, ?_⟩
      rw [(M.pw_one_iff hp2).mpr ot.one]
      walk_at "g"
      refine s_lc ?_
      walk_at "g"
      refine ⟨Nat.gcd kk (p - 1), rfl, g0, by have : (z :: l').length ≤ 400 := hll; omega, fun q H3 xs fl hfl nq s3 hq ht => ?_⟩
      have hd4 : Nat.gcd kk (p - 1) ≤ 400 := by have : (z :: l').length ≤ 400 := hll; omega
      have hxl : xs.length = fl.length := by rw [ht.length, List.length_map]
      have hfll : fl.length ≤ 200 := by
        obtain ⟨d, hd⟩ := M.Fac.of hfl (by omega)
        exact fac_len hd (by omega)
      have et3 := s3 _ _ et2
      refine ⟨q, rfl, ⟨_, SqL.of hq⟩, fun D hD => ?_⟩
      refine lc_list (fun i H4 => Same H3 H4 ∧ H4 D = some (.lst ((fl.take i).map fun x => V.int (M.pw p turn (Nat.gcd kk (p - 1) / x.1))))) ⟨same_upd hD, upd_same⟩ (fun i H4 _ I => SqL.of (I.1 _ _ hq)) ?_ ?_
      · rintro i x H4 hi ⟨s4, hD4⟩
        have hil : i < xs.length := (List.getElem?_eq_some_iff.mp hi).1
        obtain ⟨y, hy, tt, rfl, ett⟩ := pget ht hi
        rw [List.getElem?_map] at hy
        obtain ⟨⟨q1, b1⟩, hab, rfl⟩ := Option.map_eq_some_iff.mp hy
        have ha := (hfl.primes _ (List.mem_of_getElem? hab)).1.pos
        have had := Nat.le_of_dvd g0 (M.fac_dvd hfl (List.mem_of_getElem? hab))
        refine s_gtup (SqT.of (s4 _ _ ett)) rfl ?_
        walk_at "g"
        refine ⟨rfl, ?_⟩
        walk_at "g"
        refine s_ixT (SqT.of (s4 _ _ et3)) (atI0 2 rfl rfl) ?_
        walk_at "g"
        refine s_i (divW (by show (0 : Int) < (q1 : Int); omega) (by show (q1 : Int).natAbs < _; omega)) ?_
        walk_at "g"
        refine ⟨(p : Int), turn, Nat.gcd kk (p - 1) / q1, by rw [Int.natCast_ediv]; rfl, by omega, by omega, ?_⟩
        refine ⟨_, hD4, line2 (by rw [List.length_map, List.length_take]; omega), same_upd' s4 hD, ?_⟩
        rw [upd_same, take_more hab, List.map_append]; rfl
      · rintro H4 ⟨s4, hD4⟩
        rw [hxl, List.take_length] at hD4
        have hD5 : H4 D = some (.lst ((fl.map fun x => M.pw p turn (Nat.gcd kk (p - 1) / x.1)).map V.int)) := by rw [hD4, List.map_map]; rfl
        refine s_notInL hD5 ?_
        have no1 : (1 : Int) ∉ fl.map fun x => M.pw p turn (Nat.gcd kk (p - 1) / x.1) := fun h => by
          obtain ⟨x, hx, e⟩ := List.mem_map.mp h
          have q2 := (hfl.primes x hx).1.1
          have q3 := Nat.le_of_dvd g0 (M.fac_dvd hfl hx)
          have h4 := ot.least _ (Nat.div_pos q3 (by omega)) ((M.pw_one_iff hp2).mp e)
          have h5 := Nat.div_lt_self g0 (show 1 < x.1 by omega)
          omega
        rw [decide_eq_false no1]
        exact k H4 (S2.trans (s3.trans s4))

theorem nodvd_all {z : Int} : ∀ {L : List Nat}, (∀ p ∈ L, M.Prime p) → L.Nodup → (∀ p ∈ L, (p : Int) ∣ z) → ((M.prodN L : Nat) : Int) ∣ z
  | [], _, _, _ => by show ((1 : Nat) : Int) ∣ z; exact Int.one_dvd z
  | p :: L, hp, nd, h => by
    have nd' := List.nodup_cons.mp nd
    have h1 := nodvd_all (fun q hq => hp q (by simp [hq])) nd'.2 fun q hq => h q (by simp [hq])
    have h2 := h p (by simp)
    have hg : Nat.gcd (M.prodN L) p = 1 := M.prodN_gcd (hp p (by simp)) fun q hq => ⟨hp q (by simp [hq]), fun e => nd'.1 (by rw [← e]; exact hq)⟩
    rw [M.prodN_cons]
    rw [Int.ofNat_dvd_left] at h1 h2 ⊢
    exact Nat.Coprime.mul_dvd_of_dvd_of_dvd (by rw [Nat.coprime_comm]; exact hg) h2 h1
/-- the power of a number told -/
theorem told_pow {k : Nat} {a : Int} {ps : List (Addr × Nat)} {rr : List RRec} {xs : List Int} {x : Int} (hpr : ∀ x ∈ ps, M.Prime x.2) (hsr : (ps.map (·.2)).Pairwise (· < ·)) (hK : Paired (fun (x : Addr × Nat) (r : RRec) => M.IsKR x.2 k a r.2.2.2) ps rr) (hmx : M.Mixed (ps.map (·.2)) (rr.map (·.2.2.2)) xs) (hx : x ∈ xs) : M.pw (M.prodN (ps.map (·.2)) : Nat) x k = a % (M.prodN (ps.map (·.2)) : Nat) := by
  have h1 := (hmx.iff x).mp hx
  unfold M.pw
  refine Int.emod_eq_emod_iff_emod_sub_eq_zero.mpr (Int.emod_eq_zero_of_dvd (nodvd_all (fun p hp => by obtain ⟨y, hy, rfl⟩ := List.mem_map.mp hp; exact hpr y hy) (hsr.imp fun h => by omega) fun p hp => ?_))
  obtain ⟨i, hi⟩ := List.getElem?_of_mem hp
  have hil : i < rr.length := by
    have := (List.getElem?_eq_some_iff.mp hi).1
    rw [List.length_map] at this
    rw [← hK.length]; exact this
  obtain ⟨r, hr⟩ : ∃ r, rr[i]? = some r := ⟨_, List.getElem?_eq_getElem hil⟩
  have h2 : (rr.map (·.2.2.2))[i]? = some r.2.2.2 := by rw [List.getElem?_map, hr]; rfl
  have h3 := ((kr_ok hK i p _ hi h2).iff _).mp (h1.2.2 i p _ hi h2)
  have h4 : M.al p (x ^ k) ((x % (p : Int)) ^ k) := M.al_pow (M.al_of_emod (by rw [Int.emod_emod])) k
  exact M.al_trans h4 h3.2.2
/-- _law_are_all(papers, k, a, many, told) -/
def sp__law_are_all (K : PySem.W.Frag) : Sp := fun vs H Q _ => ∃ (n : Nat) (D T L0 S R : Addr) (ps : List (Addr × Nat)) (rr : List RRec) (xs : List Int) (k : Nat) (a : Int), vs = [.ref D, .int (k : Nat), .int a, .int (xs.length : Nat), .ref T] ∧ PapsAt n H D ps ∧ (∀ x ∈ ps, x.2 ≤ 1000000000) ∧ ps.length ≤ 5 ∧ (ps.map (·.2)).Pairwise (· < ·) ∧ 0 < k ∧ H T = some (.tup [.ref L0, .ref S]) ∧ H L0 = some (.lst (xs.map V.int)) ∧ H S = some (.tup [.str "by", .ref R]) ∧ H R = some (.tup (rr.map fun r => V.ref r.2.2.1)) ∧ M.Mixed (ps.map (·.2)) (rr.map (·.2.2.2)) xs ∧ xs.Pairwise (· < ·) ∧ xs.length ≤ 400 ∧ (∀ r ∈ rr, r.2.2.2 ≠ []) ∧ RowsR H k a ps rr ∧ (∀ x ∈ ps, ¬ NoR x.2 k a) ∧ ∀ H', Same H H' → Q (.bl true) H'
theorem ok__law_are_all (T : Txt K mg) : FnOk P w K mg base CX0 3 (He.ga K "_law_are_all") (fd__law_are_all T) ["_law_papers", "_law_k", "_law_a", "_law_many", "_law_told_here"] (sp__law_are_all K) := by
  refine (F__law_are_all T).ok sc__law_are_all (fun vs H Q E h => ?_) (fun cdv A outer s H vs Q E hr h => ⟨_, PSs.nox (pss_cons (ps_asg (pv 4) (pg_tup rfl (pgs_cons (pg_name (i := 5) sc__law_are_all.nd rfl (Or.inl rfl)) (pgs_cons (pg_name (i := 6) sc__law_are_all.nd rfl (Or.inl rfl)) pgs_nil))))
      (pss_cons (ps_set (i := 7) sc__law_are_all.nd rfl (Or.inl rfl) pe_int)
      (pss_cons (ps_for PassesOwn.never rfl (pi_list (pv 0)) (pg_name (i := 8) sc__law_are_all.nd rfl (Or.inr rfl)) (pss_one (ps_set (i := 7) sc__law_are_all.nd rfl (Or.inl rfl) (pe_op op_mulW (pv 7) (pe_ix ix_seq (pv 8) pe_int (fun _ _ => rfl))))))
      (pss_cons (ps_if (PW.pt (pw_or (pt_not (pt_val (pe_callB call_isi rfl (T.fr (T.c.fact 59 rfl)) boot_isinstance (pa_cons (pv 5) (pa_cons (pe_bltn (v := .ty "list") rfl (T.fr (T.c.fact 65 rfl)) boot_list rfl) pa_nil))))) (pw_or (pt_cmpR op_ne (pe_callB callLen rfl (T.fr (T.c.fact 62 rfl)) boot_len (pa_cons (pv 5) pa_nil)) (pv 3) (nomark _)) (pw_or1 (pt_cmpR (op_neD hr.units) (pv 5) (pe_callB (R.cr_sortedAny rfl) rfl (T.fr (T.c.fact 55 rfl)) boot_sorted (pa_cons (pe_callTy (R.cr_setL rfl) rfl (T.fr (T.c.fact 66 rfl)) PyProof.Rows.boot_set (pa_cons (pv 5) pa_nil)) pa_nil)) (nomark _)))))) (pss_one (ps_ret pe_bl)) pss_nil)
      (pss_cons (ps_for PassesOwn.never rfl (pi_list (pv 5)) (pg_name (i := 9) sc__law_are_all.nd rfl (Or.inl rfl)) (pss_one (ps_if (PW.pt (pw_or (pt_not (pt_val (pe_callB call_isi rfl (T.fr (T.c.fact 59 rfl)) boot_isinstance (pa_cons (pv 9) (pa_cons (pe_bltn (v := .ty "int") rfl (T.fr (T.c.fact 60 rfl)) boot_int rfl) pa_nil))))) (pw_or (pt_val (pe_callB call_isi rfl (T.fr (T.c.fact 59 rfl)) boot_isinstance (pa_cons (pv 9) (pa_cons (pe_bltn (v := .ty "bool") rfl (T.fr (T.c.fact 61 rfl)) boot_bool rfl) pa_nil)))) (pw_or (pt_cmpR op_lt (pv 9) pe_int (nomark _)) (pw_or (pt_cmpR op_ge (pv 9) (pv 7) (nomark _)) (pw_or1 (pt_cmpR op_ne (pe_call (ok__law_power T) (hr.mono (by decide)) rfl (g__law_power T) (kp__law_power T) (B__law_power T) .nil pass0 (pa_cons (pv 7) (pa_cons (pv 9) (pa_cons (pv 1) pa_nil)))) (pe_op op_mod (pv 2) (pv 7)) (nomark _)))))))) (pss_one (ps_ret pe_bl)) pss_nil)))
      (pss_cons (ps_if (PW.pt (pw_or (pt_not (pt_val (pe_callB call_isi rfl (T.fr (T.c.fact 59 rfl)) boot_isinstance (pa_cons (pv 6) (pa_cons (pe_bltn (v := .ty "tuple") rfl (T.fr (T.c.fact 58 rfl)) boot_tuple rfl) pa_nil))))) (pw_or (pt_cmpR op_ne (pe_callB callLen rfl (T.fr (T.c.fact 62 rfl)) boot_len (pa_cons (pv 6) pa_nil)) pe_int (nomark _)) (pw_or (pt_cmpR (op_neD hr.units) (pe_ix ix_seq (pv 6) pe_int (fun _ _ => rfl)) pe_str (nomark _)) (pw_or1 (pt_cmpR op_ne (pe_callB callLen rfl (T.fr (T.c.fact 62 rfl)) boot_len (pa_cons (pe_ix ix_seq (pv 6) pe_int (fun _ _ => rfl)) pa_nil)) (pe_callB callLen rfl (T.fr (T.c.fact 62 rfl)) boot_len (pa_cons (pv 0) pa_nil)) (nomark _))))))) (pss_one (ps_ret pe_bl)) pss_nil)
      (pss_cons (ps_for PassesOwn.never rfl (RZM.pi_zipM rfl (T.fr (T.c.fact 56 rfl)) (pa_cons (pv 0) (pa_cons (pe_ix ix_seq (pv 6) pe_int (fun _ _ => rfl)) pa_nil))) (pg_tup rfl (pgs_cons (pg_name (i := 8) sc__law_are_all.nd rfl (Or.inr rfl)) (pgs_cons (pg_name (i := 10) sc__law_are_all.nd rfl (Or.inl rfl)) pgs_nil))) (pss_cons (ps_set (i := 11) sc__law_are_all.nd rfl (Or.inl rfl) (pe_callB (R.cr_sortedAny rfl) rfl (T.fr (T.c.fact 55 rfl)) boot_sorted (pa_cons (pe_callTy (R.cr_setL rfl) rfl (T.fr (T.c.fact 66 rfl)) PyProof.Rows.boot_set (pa_cons (pe_lc (own := [("_law_x", 9)]) (tt := tYes) rfl sc__law_are_all.nd (pi_list (pv 5)) (blkOk_by (N := N__law_are_all) (sc := defScope s__law_are_all) (by decide +kernel)) (fun _ _ _ _ _ => (pg_name (i := 9) sc__law_are_all.nd rfl (Or.inl rfl))) (fun _ _ _ _ _ => pts_nil) (fun _ _ _ _ _ => (pe_op op_mod (pv 9) (pe_ix (R.ix_seqK K rfl) (pv 8) pe_int (fun _ _ => rfl))))) pa_nil)) pa_nil)))
      (pss_one (ps_if (pt_not (pt_val (pe_call (ok__law_is_row T) (hr.mono (by decide)) rfl (g__law_is_row T) (kp__law_is_row T) (B__law_is_row T) .nil pass0 (pa_cons (pv 8) (pa_cons (pe_call (ok__law_common T) (hr.mono (by decide)) rfl (g__law_common T) (kp__law_common T) (B__law_common T) .nil pass0 (pa_cons (pv 1) (pa_cons (pe_op op_sub (pe_ix ix_seq (pv 8) pe_int (fun _ _ => rfl)) pe_int) pa_nil))) (pa_cons (pv 2) (pa_cons (pv 11) (pa_cons (pv 10) pa_nil)))))))) (pss_one (ps_ret pe_bl)) pss_nil))))
      (pss_one (ps_ret pe_bl))))))))), ?_⟩)
  · obtain ⟨n, D, T, L0, S, R, ps, rr, xs, k, a, rfl, _⟩ := h; rfl
  · obtain ⟨n, D, T, L0, S, R, ps, rr, xs, kk, a, rfl, hP, hpb, hpl, hsr, k0, eT, eL, eS, eR, hmx, srt, hx4, hne, hR, hno, k⟩ := h
    have hpr := hP.prime
    have hK : Paired (fun (x : Addr × Nat) (r : RRec) => M.IsKR x.2 kk a r.2.2.2) ps rr := paired_mono (fun _ _ z => z.1) hR
    have hrl : rr.length = ps.length := hR.length.symm
    have hW0 : ∀ z ∈ ps.map (·.2), 0 < z := fun z hz => by
      obtain ⟨x, hx, rfl⟩ := List.mem_map.mp hz
      have := (hpr x hx).1
      omega
    have hWb : M.prodN (ps.map (·.2)) ≤ 1000000000 ^ 5 := by
      have h1 := M.prodN_bd (l := ps.map (·.2)) (B := 1000000000) fun z hz => by
        obtain ⟨x, hx, rfl⟩ := List.mem_map.mp hz
        exact hpb x hx
      exact Nat.le_trans h1 (Nat.pow_le_pow_right (by decide) (by rw [List.length_map]; exact hpl))
    have hW5 : (1000000000 : Nat) ^ 5 < 2 ^ 200 := by decide
    walk_at "g"
    refine s_gtup (SqT.of eT) rfl ?_
    walk_at "g"
    refine ⟨⟨_, SqL.of hP.1⟩, ?_⟩
    refine for_list (fun i σ H' => H' = H ∧ ∃ v8 v9 v10 v11 : Option V, σ = [some (.ref D), some (.int (kk : Nat)), some (.int a), some (.int (xs.length : Nat)), some (.ref T), some (.ref L0), some (.ref S), some (.int (M.prodN ((ps.map (·.2)).take i) : Nat)), v8, v9, v10, v11]) ⟨rfl, none, none, none, none, by rw [List.take_zero]; rfl⟩ (fun i σ H' _ I => by rw [I.1]; exact SqL.of hP.1) ?_ ?_
    · rintro i v σ H' hi ⟨rfl, v8, v9, v10, v11, rfl⟩
      obtain ⟨t, p, hx, rfl⟩ := ps_get hi
      have hmem := List.mem_of_getElem? hx
      have hpB : p ≤ 1000000000 := hpb _ hmem
      obtain ⟨f, u, et⟩ := (hP.2 _ hmem).first
      have et : H' t = some (.tup [.int (p : Nat), .int (f : Nat), .ref u]) := et
      have h2 := M.prodN_take hW0 i
      have hpi : (ps.map (·.2))[i]? = some p := by rw [List.getElem?_map, hx]; rfl
      walk_at "g"
      refine s_ixT (SqT.of et) (atI0 0 rfl rfl) ?_
      walk_at "g"
      try refine s_i (mulW (by omega) (by omega)) ?_
      walk_at "g"
      exact ⟨rfl, _, _, _, _, by rw [take_more hpi, M.prodN_snoc]; push_cast; rfl⟩
    rintro σ H' ⟨rfl, v8, v9, v10, v11, rfl⟩
    rw [List.length_map, List.take_of_length_le (l := ps.map (·.2)) (by rw [List.length_map]; exact Nat.le_refl _)]
    have hWp := M.prodN_pos hW0
    generalize hW : M.prodN (ps.map (·.2)) = W at hWb hWp ⊢
    walk_at "g"
    refine s_isi (.lst eL) kb_ll ?_
    walk_at "g"
    refine s_lenL (SqL.of eL) ?_
    rw [List.length_map]
    walk_at "g"
    try refine s_itnP rfl ?_
    walk_at "g"
    refine s_setAny (SqL.of eL) (by omega) fun S1 m1 H1 nS1 hm1 eS1 s1 => ?_
    walk_at "g"
    refine s_sortedAny eS1 hm1 fun ys R1 H2 ysrt hym nR1 eR1 s2 => ?_
    have eyx : ys = xs := M.sorted_ext ysrt srt hym
    subst eyx
    have S2 := s1.trans s2
    refine s_neD _ _ (dp_ints (S2 _ _ eL)) (dp_ints eR1) (sh_ints _) (sh_ints _) ?_
    rw [eqv_shaped (sh_ints _)]
    walk_at "g"
    refine ⟨⟨_, SqL.of (S2 _ _ eL)⟩, ?_⟩
    have eq0 : ∀ x ∈ ys, 0 ≤ x ∧ x < (W : Nat) ∧ M.pw (W : Nat) x kk = a % (W : Nat) := fun x hx => by
      have h1 := (hmx.iff x).mp hx
      have h2 := told_pow hpr hsr hK hmx hx
      rw [hW] at h1 h2
      exact ⟨h1.1, h1.2.1, h2⟩
    refine for_list (fun i σ H3 => H3 = H2 ∧ ∃ v8 v9 v10 v11 : Option V, σ = [some (.ref D), some (.int (kk : Nat)), some (.int a), some (.int (ys.length : Nat)), some (.ref T), some (.ref L0), some (.ref S), some (.int (W : Nat)), v8, v9, v10, v11]) ⟨rfl, _, _, _, _, rfl⟩ (fun i σ H' _ I => by rw [I.1]; exact SqL.of (S2 _ _ eL)) ?_ ?_
    · rintro i v σ H3 hi ⟨rfl, v8, v9, v10, v11, rfl⟩
      rw [List.getElem?_map] at hi
      obtain ⟨x, hx, rfl⟩ := Option.map_eq_some_iff.mp hi
      obtain ⟨x0, x1, xp⟩ := eq0 x (List.mem_of_getElem? hx)
      walk_at "g"
      refine s_itN (by omega) ?_
      walk_at "g"
      refine s_itN (by omega) ?_
      walk_at "g"
      refine ⟨((W : Nat) : Int), x, kk, rfl, by omega, by omega, ?_⟩
      walk_at "g"
      refine s_i (by omega) ?_
      walk_at "g"
      refine s_itnP xp ?_
      walk_at "g"
      exact ⟨rfl, _, _, _, _, rfl⟩
    rintro σ H3 ⟨rfl, v8, v9, v10, v11, rfl⟩
    walk_at "g"
    refine s_isi (.tup (S2 _ _ eS)) kb_tt ?_
    walk_at "g"
    refine s_lenT (SqT.of (S2 _ _ eS)) ?_
    walk_at "g"
    try refine s_itnP rfl ?_
    walk_at "g"
    refine s_ixT (SqT.of (S2 _ _ eS)) (atI0 0 rfl rfl) ?_
    walk_at "g"
    refine s_neD (.str "by") (.str "by") (.str _) (.str _) (by decide +kernel) (by decide +kernel) ?_
    rw [eqv_shaped (by decide +kernel)]
    walk_at "g"
    refine s_ixT (SqT.of (S2 _ _ eS)) (atI0 1 rfl rfl) ?_
    walk_at "g"
    refine s_lenT (SqT.of (S2 _ _ eR)) ?_
    walk_at "g"
    refine s_lenL (SqL.of (S2 _ _ hP.1)) ?_
    rw [List.length_map, List.length_map, hrl]
    walk_at "g"
    try refine s_itnP rfl ?_
    walk_at "g"
    refine s_zipM ?_
    walk_at "g"
    refine s_ixT (SqT.of (S2 _ _ eS)) (atI0 1 rfl rfl) ?_
    walk_at "g"
    refine ⟨D, R, _, _, rfl, SqL.of (S2 _ _ hP.1), SqT.of (S2 _ _ eR), ?_⟩
    have hl2 : min (ps.map fun x => V.ref x.1).length (rr.map fun r => V.ref r.2.2.1).length = ps.length := by rw [List.length_map, List.length_map]; omega
    refine for_it (walk_zipM hl2.symm) (fun i σ H4 => Same H3 H4 ∧ ∃ v8 v9 v10 v11 : Option V, σ = [some (.ref D), some (.int (kk : Nat)), some (.int a), some (.int (ys.length : Nat)), some (.ref T), some (.ref L0), some (.ref S), some (.int (W : Nat)), v8, v9, v10, v11]) ⟨Same.refl _, _, _, _, _, rfl⟩ (fun i σ H' _ I => ⟨SqL.of (I.1 _ _ (S2 _ _ hP.1)), SqT.of (I.1 _ _ (S2 _ _ eR))⟩) ?_ ?_
    · rintro i v σ H4 H5 hi ⟨s4, v8, v9, v10, v11, rfl⟩ ⟨tt, x1, y1, rfl, ntt, rfl, hx0, hy0⟩
      obtain ⟨t, p, hx, rfl⟩ := ps_get hx0
      have hy0 : (rr.map fun r => V.ref r.2.2.1)[i]? = some y1 := hy0
      rw [List.getElem?_map] at hy0
      obtain ⟨r, hr, rfl⟩ := Option.map_eq_some_iff.mp hy0
      have s5 : Same H4 (upd H4 tt (.tup [.ref t, .ref r.2.2.1])) := same_upd ntt
      have ett : upd H4 tt (.tup [.ref t, .ref r.2.2.1]) tt = some (.tup [.ref t, .ref r.2.2.1]) := upd_same
      generalize upd H4 tt (.tup [.ref t, .ref r.2.2.1]) = H5 at s5 ett ⊢
      have S5 := S2.trans (s4.trans s5)
      have hmem := List.mem_of_getElem? hx
      have hpB : p ≤ 1000000000 := hpb _ hmem
      have hp : M.Prime p := hpr _ hmem
      have hp2 := hp.1
      obtain ⟨f, u, et⟩ := (hP.2 _ hmem).first
      have et : H' t = some (.tup [.int (p : Nat), .int (f : Nat), .ref u]) := et
      have hpi : (ps.map (·.2))[i]? = some p := by rw [List.getElem?_map, hx]; rfl
      have hri : (rr.map (·.2.2.2))[i]? = some r.2.2.2 := by rw [List.getElem?_map, hr]; rfl
      obtain ⟨r', hr', hKr, hRt⟩ := pget hR hx
      rw [hr] at hr'
      cases hr'
      have hrlen : r.2.2.2.length ≤ 400 := by
        have h1 : r.2.2.2.length ∣ M.prodN ((rr.map (·.2.2.2)).map List.length) := M.prodN_dvd (List.mem_map.mpr ⟨_, List.mem_of_getElem? hri, rfl⟩)
        rw [← hmx.len] at h1
        refine Nat.le_trans (Nat.le_of_dvd ?_ h1) hx4
        rw [hmx.len]
        refine M.prodN_pos fun z hz => ?_
        obtain ⟨l, hl, rfl⟩ := List.mem_map.mp hz
        obtain ⟨r2, hr2, rfl⟩ := List.mem_map.mp hl
        exact List.length_pos_iff.mpr (hne r2 hr2)
      refine s_gtup (SqT.of ett) rfl ?_
      walk_at "g"
      refine s_lc ?_
      walk_at "g"
      refine ⟨⟨_, SqL.of (S5 _ _ eL)⟩, fun F hF => ?_⟩
      refine lc_list (fun j H6 => Same H5 H6 ∧ H6 F = some (.lst (((ys.take j).map fun n => n % (p : Int)).map V.int))) ⟨same_upd hF, upd_same⟩ (fun j H6 _ I => SqL.of (I.1 _ _ (S5 _ _ eL))) ?_ ?_
      · rintro j v H6 hj ⟨s6, eF⟩
        rw [List.getElem?_map] at hj
        obtain ⟨n1, hn, rfl⟩ := Option.map_eq_some_iff.mp hj
        have hil := (List.getElem?_eq_some_iff.mp hn).1
        walk_at "g"
        refine ⟨rfl, ?_⟩
        walk_at "g"
        refine s_ixT (SqT.of ((S5.trans s6) _ _ et)) (atI0 0 rfl rfl) ?_
        walk_at "g"
        refine s_i (by omega) ?_
        refine ⟨_, eF, line2 (by rw [List.length_map, List.length_map, List.length_take]; omega), same_upd' s6 hF, ?_⟩
        rw [upd_same, take_more hn, List.map_append, List.map_append]; rfl
      rintro H6 ⟨s6, eF⟩
      rw [List.length_map, List.take_length] at eF
      walk_at "g"
      refine s_setAny (SqL.of eF) (by rw [List.length_map]; omega) fun S3 m3 H7 nS3 hm3 eS3 s7 => ?_
      walk_at "g"
      refine s_sortedAny eS3 hm3 fun zs R3 H8 zsrt hzm nR3 eR3 s8 => ?_
      have ezl : zs = r.2.2.2 := M.sorted_ext zsrt hKr.sorted fun z => by
        rw [hzm, rests_are hpr hsr hK hne hmx hpi hri z, List.mem_map]
      rw [ezl] at eR3
      have S8 := S5.trans (s6.trans (s7.trans s8))
      walk_at "g"
      refine s_ixT (SqT.of (S8 _ _ et)) (atI0 0 rfl rfl) ?_
      walk_at "g"
      refine ⟨kk, p - 1, by rw [show ((p : Nat) : Int) - 1 = ((p - 1 : Nat) : Int) by omega]; rfl, ?_⟩
      walk_at "g"
      refine ⟨n, p, kk, t, R3, r.2.2.1, a, r.2.2.2, rfl, (hP.2 _ hmem).same S8, hp, hpB, k0, eR3, hrlen, hKr, hno _ hmem, hRt.same S8, fun H9 s9 => ?_⟩
      walk_at "g"
      exact ⟨s4.trans (s5.trans (s6.trans (s7.trans (s8.trans s9)))), _, _, _, _, rfl⟩
    · rintro σ H4 ⟨s4, v8, v9, v10, v11, rfl⟩
      walk_at "g"
      exact k H4 (S2.trans s4)

theorem s_extend2 {l b : Addr} {xs zs : List V} {H : Hp} {Q : VK} (hl : H l = some (.lst xs)) (hb : H b = some (.lst zs)) (hn : xs.length + zs.length ≤ 2000000) (h : Q .non (upd H l (.lst (xs ++ zs)))) : rExtend (.ref l) [.ref b] H Q := ⟨l, b, xs, zs, rfl, rfl, hl, hb, Nat.le_of_lt (line2 hn), h⟩
/-- the roots by a prime, gone through -/
def goneR (p k : Nat) (a : Int) (m : Nat) : List Int := ((List.range m).filter fun x : Nat => decide (M.pw p (x : Int) k = a % (p : Int))).map fun x : Nat => (x : Int)
theorem gone_kr {p k : Nat} {a : Int} : M.IsKR p k a (goneR p k a p) := by
  refine ⟨?_, fun y => ?_⟩
  · unfold goneR
    rw [List.pairwise_map]
    exact (List.pairwise_lt_range.filter _).imp fun {a b} h => by omega
  · unfold goneR
    rw [List.mem_map]
    constructor
    · rintro ⟨x, hx, rfl⟩
      obtain ⟨h1, h2⟩ := List.mem_filter.mp hx
      have h1 := List.mem_range.mp h1
      exact ⟨by omega, by omega, M.al_of_emod (of_decide_eq_true h2)⟩
    · rintro ⟨y0, y1, h⟩
      obtain ⟨x, rfl⟩ := Int.eq_ofNat_of_zero_le y0
      exact ⟨x, List.mem_filter.mpr ⟨List.mem_range.mpr (by omega), decide_eq_true (M.al_emod h)⟩, rfl⟩
/-- _law_by_one(paper, k, a): a new tuple -/
def sp__law_by_one : Sp := fun vs H Q _ => ∃ (n p k : Nat) (t : Addr) (a : Int), vs = [.ref t, .int (k : Nat), .int a] ∧ PaperAt n H t p ∧ M.Prime p ∧ p ≤ 102 ∧ 0 < k ∧ ¬ NoR p k a ∧ ∀ (U R S : Addr) (l : List Int) (d : PyData) (H' : Hp), Same H H' → H' U = some (.tup [.ref R, .ref S]) → H' R = some (.lst (l.map V.int)) → M.IsKR p k a l → Tu H' (.ref S) d → Bd 2 d → Q (.ref U) H'
theorem ok__law_by_one (T : Txt K mg) : FnOk P w K mg base CX0 2 (He.ga K "_law_by_one") (fd__law_by_one T) ["_law_paper_here", "_law_k", "_law_a"] sp__law_by_one := by
  refine (F__law_by_one T).ok sc__law_by_one (fun vs H Q E h => ?_) (fun cdv A outer s H vs Q E hr h => ⟨_, PSs.nox (pss_cons (ps_asg (pv 0) (pg_tup rfl (pgs_cons (pg_name (i := 3) sc__law_by_one.nd rfl (Or.inr rfl)) (pgs_cons (pg_name (i := 4) sc__law_by_one.nd rfl (Or.inl rfl)) (pgs_cons (pg_name (i := 5) sc__law_by_one.nd rfl (Or.inl rfl)) pgs_nil)))))
      (pss_cons ((ps_setLc (i := 6) (own := [("_law_x", 7)]) rfl sc__law_by_one.nd rfl rfl (sw_true rfl rfl rfl rfl) (pi_range1 rfl (T.fr (T.c.fact 54 rfl)) (pa_cons (pv 3) pa_nil)) (blkOk_by (N := N__law_by_one) (sc := defScope s__law_by_one) (by decide +kernel)) (fun _ _ _ _ _ => (pg_name (i := 7) sc__law_by_one.nd rfl (Or.inl rfl))) (fun _ _ _ _ _ => (pts_one (pt_cmpR op_eq (pe_call (ok__law_power T) (hr.mono (by decide)) rfl (g__law_power T) (kp__law_power T) (B__law_power T) .nil pass0 (pa_cons (pv 3) (pa_cons (pv 7) (pa_cons (pv 1) pa_nil)))) (pe_op op_mod (pv 2) (pv 3)) (nomark _)))) (fun _ _ _ _ _ => (pv 7))))
      (pss_cons (ps_if (pt_cmpR op_eq (pe_op op_mod (pv 2) (pv 3)) pe_int (nomark _)) (pss_one (ps_ret (pe_tup (pa_cons (pv 6) (pa_cons (pe_tup (pa_cons pe_str pa_nil)) pa_nil))))) pss_nil)
      (pss_one (ps_ret (pe_tup (pa_cons (pv 6) (pa_cons (pe_tup (pa_cons pe_str (pa_cons (pe_ix ix_seq (pv 6) pe_int (fun _ _ => rfl)) (pa_cons (pe_call (ok__law_power T) (hr.mono (by decide)) rfl (g__law_power T) (kp__law_power T) (B__law_power T) .nil pass0 (pa_cons (pv 3) (pa_cons (pv 4) (pa_cons (pe_op op_fdivW (pe_op op_sub (pv 3) pe_int) (pe_call (ok__law_common T) (hr.mono (by decide)) rfl (g__law_common T) (kp__law_common T) (B__law_common T) .nil pass0 (pa_cons (pv 1) (pa_cons (pe_op op_sub (pv 3) pe_int) pa_nil)))) pa_nil)))) pa_nil)))) pa_nil)))))))), ?_⟩)
  · obtain ⟨n, p, k, t, a, rfl, _⟩ := h; rfl
  · obtain ⟨n, p, kk, t, a, rfl, hP, hp, hpb, k0, hno, k⟩ := h
    have hp2 := hp.1
    obtain ⟨f, u, et⟩ := hP.first
    walk_at "g"
    refine s_gtup (SqT.of et) rfl ?_
    walk_at "g"
    refine s_lc ?_
    walk_at "g"
    refine mkR1 p (by omega) (by omega) (by omega) ?_
    intro F hF
    refine lc_range (n := p) (fun j H' => Same H H' ∧ H' F = some (.lst ((goneR p kk a j).map V.int))) ⟨same_upd hF, upd_same⟩ ?_ ?_
    · rintro j H2 hj ⟨s2, eF⟩
      have hgl : (goneR p kk a j).length ≤ j := by
        unfold goneR
        rw [List.length_map]
        refine Nat.le_trans (List.length_filter_le _ _) ?_
        rw [List.length_range]
        exact Nat.le_refl _
      rw [Int.zero_add]
      walk_at "g"
      refine ⟨rfl, ?_⟩
      walk_at "g"
      refine ⟨(p : Int), (j : Int), kk, rfl, by omega, by omega, ?_⟩
      walk_at "g"
      refine s_i (by omega) ?_
      walk_at "g"
      refine s_ite (fun c => ?_) (fun c => ?_)
      · walk_at "g"
        refine ⟨_, eF, line2 (by rw [List.length_map]; omega), same_upd' s2 hF, ?_⟩
        rw [upd_same]
        unfold goneR
        rw [List.range_succ, List.filter_append, List.filter_cons_of_pos (by exact decide_eq_true c), List.filter_nil, List.map_append, List.map_append]; rfl
      · refine ⟨s2, ?_⟩
        rw [eF]
        unfold goneR
        rw [List.range_succ, List.filter_append, List.filter_cons_of_neg (by rw [decide_eq_false c]; exact Bool.false_ne_true), List.filter_nil, List.append_nil]
    rintro H2 ⟨s2, eF⟩
    have hK : M.IsKR p kk a (goneR p kk a p) := gone_kr
    have hpos := (notR_len hp k0 hK).2 hno
    generalize goneR p kk a p = l at eF hK hpos
    walk_at "g"
    refine s_i (by omega) ?_
    walk_at "g"
    refine s_ite (fun c => ?_) (fun c => ?_)
    · walk_at "g"
      refine mkT (by simp) fun S H3 nS eS s3 => ?_
      walk_at "g"
      refine mkT (by simp) fun U H4 nU eU s4 => ?_
      exact k U F S l (.tuple [.str "nought"]) H4 (s2.trans (s3.trans s4)) eU ((s3.trans s4) _ _ eF) hK (.tup (s4 _ _ eS) (.cons (.str _) .nil)) (.tup (by simp) fun d hd => by rw [List.mem_singleton.mp hd]; exact .str _ (by decide +kernel))
    · obtain ⟨z, l', rfl⟩ : ∃ z l', l = z :: l' := by
        cases l with
        | nil => simp at hpos
        | cons z l' => exact ⟨z, l', rfl⟩
      have hz := (hK.iff z).mp (by simp)
      have g0 := Nat.gcd_pos_of_pos_left (p - 1) k0
      walk_at "g"
      refine s_ixL (SqL.of eF) (atI0 0 rfl rfl) ?_
      walk_at "g"
      refine ⟨kk, p - 1, by rw [show ((p : Nat) : Int) - 1 = ((p - 1 : Nat) : Int) by omega]; rfl, ?_⟩
      have hgb : Nat.gcd kk (p - 1) ≤ p - 1 := Nat.gcd_le_right _ (by omega)
      walk_at "g"
      refine s_i (divW (by omega) (by omega)) ?_
      walk_at "g"
      refine ⟨(p : Int), (f : Int), (p - 1) / Nat.gcd kk (p - 1), by rw [show ((p : Nat) : Int) - 1 = ((p - 1 : Nat) : Int) by omega, ← Int.natCast_ediv]; rfl, by omega, by omega, ?_⟩
      have hr := M.pw_range (n := (p : Int)) (by omega) (f : Int) ((p - 1) / Nat.gcd kk (p - 1))
      generalize M.pw (p : Int) (f : Int) ((p - 1) / Nat.gcd kk (p - 1)) = w at hr ⊢
      walk_at "g"
      refine mkT (by simp) fun S H3 nS eS s3 => ?_
      walk_at "g"
      refine mkT (by simp) fun U H4 nU eU s4 => ?_
      exact k U F S (z :: l') (.tuple [.str "turned", .int z, .int w]) H4 (s2.trans (s3.trans s4)) eU ((s3.trans s4) _ _ eF) hK (.tup (s4 _ _ eS) (.cons (.str _) (.cons (.int _) (.cons (.int _) .nil)))) (rt_bdT (.str _ (by decide +kernel)) (.int (by omega)) (.int (by omega)))

theorem dal_snoc {F : Addr → Prop} {H : Hp} {v : V} {d : PyData} (hd : DaF F H v d) : ∀ {vs : List V} {ds : List PyData}, DaL F H vs ds → DaL F H (vs ++ [v]) (ds ++ [d])
  | _, _, .nil => .cons hd .nil
  | _, _, .cons h t => .cons h (dal_snoc hd t)
theorem step_bd {W p : Nat} {n q : Int} (n0 : 0 ≤ n) (n1 : n < W) (q0 : 0 ≤ q) (q1 : q < p) : 0 ≤ n + W * q ∧ n + W * q < (W * p : Nat) := by
  obtain ⟨q, rfl⟩ := Int.eq_ofNat_of_zero_le q0
  have h1 : W * (q + 1) ≤ W * p := Nat.mul_le_mul_left W (by omega)
  rw [Nat.mul_succ] at h1
  rw [← Int.natCast_mul]
  omega
/-- _law_every(papers, k, a): a new tuple -/
def sp__law_every (K : PySem.W.Frag) : Sp := fun vs H Q _ => ∃ (n : Nat) (D : Addr) (ps : List (Addr × Nat)) (cs : List Nat) (k : Nat) (a : Int), vs = [.ref D, .int (k : Nat), .int a] ∧ PapsAt n H D ps ∧ (∀ x ∈ ps, x.2 ≤ 102) ∧ ps.length ≤ 5 ∧ 0 < k ∧ Paired (fun x c => RCnt x.2 k a c ∧ 0 < c) ps cs ∧ M.prodN cs < 1600 ∧
  ∀ (U : Addr) (xs : List Int) (ds : List PyData) (H' : Hp), Same H H' → Da H' (.ref U) (.tuple [.list (xs.map .int), .tuple [.str "by", .tuple ds]]) → Bd 60 (.tuple [.list (xs.map .int), .tuple [.str "by", .tuple ds]]) → xs.length = M.prodN cs → Q (.ref U) H'
theorem ok__law_every (T : Txt K mg) : FnOk P w K mg base CX0 3 (He.ga K "_law_every") (fd__law_every T) ["_law_papers", "_law_k", "_law_a"] (sp__law_every K) := by
  refine (F__law_every T).ok sc__law_every (fun vs H Q E h => ?_) (fun cdv A outer s H vs Q E hr h => ⟨_, PSs.nox (pss_cons (ps_set (i := 3) sc__law_every.nd rfl (Or.inl rfl) (pe_lst (pa_cons pe_int pa_nil)))
      (pss_cons (ps_set (i := 4) sc__law_every.nd rfl (Or.inl rfl) (pe_lst pa_nil))
      (pss_cons (ps_set (i := 5) sc__law_every.nd rfl (Or.inr rfl) pe_int)
      (pss_cons (ps_for PassesOwn.never rfl (pi_list (pv 0)) (pg_name (i := 6) sc__law_every.nd rfl (Or.inl rfl)) (pss_cons (ps_set (i := 7) sc__law_every.nd rfl (Or.inr rfl) (pe_ix ix_seq (pv 6) pe_int (fun _ _ => rfl)))
      (pss_cons (ps_asg (pe_call (ok__law_by_one T) (hr.mono (by decide)) rfl (g__law_by_one T) (kp__law_by_one T) (B__law_by_one T) .nil pass0 (pa_cons (pv 6) (pa_cons (pv 1) (pa_cons (pv 2) pa_nil)))) (pg_tup rfl (pgs_cons (pg_name (i := 8) sc__law_every.nd rfl (Or.inl rfl)) (pgs_cons (pg_name (i := 9) sc__law_every.nd rfl (Or.inl rfl)) pgs_nil))))
      (pss_cons (ps_set (i := 10) sc__law_every.nd rfl (Or.inr rfl) (pe_call (ok__law_power T) (hr.mono (by decide)) rfl (g__law_power T) (kp__law_power T) (B__law_power T) .nil pass0 (pa_cons (pv 7) (pa_cons (pv 5) (pa_cons (pe_op op_sub (pv 7) pe_int) pa_nil)))))
      (pss_cons (ps_set (i := 11) sc__law_every.nd rfl (Or.inl rfl) (pe_lst pa_nil))
      (pss_cons (ps_for PassesOwn.never rfl (pi_list (pv 3)) (pg_name (i := 12) sc__law_every.nd rfl (Or.inr rfl)) (pss_one (ps_expr (pe_bm PySem.F.plainAttrs_list PySem.F.slot_list_extend PySem.F.type_list_extend mt_extend (pv 11) (pa_cons (pe_lc (own := [("_law_rest", 13)]) (tt := tYes) rfl sc__law_every.nd (pi_list (pv 8)) (blkOk_by (N := N__law_every) (sc := defScope s__law_every) (by decide +kernel)) (fun _ _ _ _ _ => (pg_name (i := 13) sc__law_every.nd rfl (Or.inl rfl))) (fun _ _ _ _ _ => pts_nil) (fun _ _ _ _ _ => (pe_op op_add (pv 12) (pe_op op_mulW (pv 5) (pe_op op_mod (pe_op op_mulW (pe_op op_sub (pv 13) (pv 12)) (pv 10)) (pv 7)))))) pa_nil)))))
      (pss_cons (ps_set (i := 3) sc__law_every.nd rfl (Or.inl rfl) (pv 11))
      (pss_cons (ps_expr (pe_bm PySem.F.plainAttrs_list PySem.F.slot_list_append PySem.F.type_list_append mt_append (pv 4) (pa_cons (pv 9) pa_nil)))
      (pss_one (ps_set (i := 5) sc__law_every.nd rfl (Or.inr rfl) (pe_op op_mulW (pv 5) (pv 7))))))))))))
      (pss_one (ps_ret (pe_tup (pa_cons (pe_callB cr_sortedI rfl (T.fr (T.c.fact 55 rfl)) boot_sorted (pa_cons (pv 3) pa_nil)) (pa_cons (pe_tup (pa_cons pe_str (pa_cons (pe_callTy callTup rfl (T.fr (T.c.fact 58 rfl)) boot_tuple (pa_cons (pv 4) pa_nil)) pa_nil))) pa_nil))))))))), ?_⟩)
  · obtain ⟨n, D, ps, cs, k, a, rfl, _⟩ := h; rfl
  · obtain ⟨n, D, ps, cs, kk, a, rfl, hP, hpb, hpl, k0, hcs, hcb, k⟩ := h
    have hpr := hP.prime
    have hcl : cs.length = ps.length := hcs.length.symm
    have hc0 : ∀ c ∈ cs, 0 < c := fun c hc => by
      obtain ⟨_, _, _, h⟩ := paired_mem hcs hc
      exact h
    have hck : ∀ i, M.prodN (cs.take i) < 1600 := fun i => Nat.lt_of_le_of_lt (M.prodN_take hc0 i) hcb
    have hW0 : ∀ z ∈ ps.map (·.2), 0 < z := fun z hz => by
      obtain ⟨x, hx, rfl⟩ := List.mem_map.mp hz
      have := (hpr x hx).1
      omega
    have hWb : ∀ i, M.prodN ((ps.map (·.2)).take i) ≤ 102 ^ 5 := fun i => by
      have h1 := M.prodN_bd (l := ps.map (·.2)) (B := 102) fun z hz => by
        obtain ⟨x, hx, rfl⟩ := List.mem_map.mp hz
        exact hpb x hx
      exact Nat.le_trans (M.prodN_take hW0 i) (Nat.le_trans h1 (Nat.pow_le_pow_right (by decide) (by rw [List.length_map]; exact hpl)))
    have hW5 : (102 : Nat) ^ 5 = 11040808032 := by decide
    walk_at "g"
    refine mkL (by simp) fun A0 H1 nA0 eA0 s1 => ?_
    walk_at "g"
    refine mkL (by simp) fun B H2 nB eB s2 => ?_
    have nBH : H B = none := Same.none s1 nB
    walk_at "g"
    refine ⟨⟨_, SqL.of ((s1.trans s2) _ _ hP.1)⟩, ?_⟩
    refine for_list (fun i σ H' => Same H H' ∧ ∃ (A : Addr) (ns : List Int) (vs : List V) (ds : List PyData) (v6 v7 v8 v9 v10 v11 v12 v13 : Option V), σ = [some (.ref D), some (.int (kk : Nat)), some (.int a), some (.ref A), some (.ref B), some (.int (M.prodN ((ps.map (·.2)).take i) : Nat)), v6, v7, v8, v9, v10, v11, v12, v13] ∧ A ≠ B ∧ H' A = some (.lst (ns.map V.int)) ∧ H' B = some (.lst vs) ∧ DaL (fun _ => False) H' vs ds ∧ (∀ d ∈ ds, Bd 2 d) ∧ vs.length = i ∧ ns.length = M.prodN (cs.take i) ∧ ∀ z ∈ ns, 0 ≤ z ∧ z < (M.prodN ((ps.map (·.2)).take i) : Nat)) ⟨s1.trans s2, A0, [0], [], [], none, none, none, none, none, none, none, none, by rw [List.take_zero]; rfl, (fun z => by rw [z, nB] at eA0; cases eA0), s2 _ _ eA0, eB, .nil, by simp, rfl, by rw [List.take_zero]; rfl, fun z hz => by rw [List.take_zero, List.mem_singleton.mp hz]; decide⟩ (fun i σ H' _ I => SqL.of (I.1 _ _ hP.1)) ?_ ?_
    · rintro i v σ H3 hi ⟨s3, A, ns, vs, ds, v6, v7, v8, v9, v10, v11, v12, v13, rfl, hAB, eA, eB3, hds, hdb, hvl, hnl, hnb⟩
      obtain ⟨t, p, hx, rfl⟩ := ps_get hi
      have hmem := List.mem_of_getElem? hx
      have hil := (List.getElem?_eq_some_iff.mp hx).1
      have hpB : p ≤ 102 := hpb _ hmem
      have hp : M.Prime p := hpr _ hmem
      have hp2 := hp.1
      obtain ⟨f, u, et⟩ := (hP.2 _ hmem).first
      have et : H t = some (.tup [.int (p : Nat), .int (f : Nat), .ref u]) := et
      have hpi : (ps.map (·.2))[i]? = some p := by rw [List.getElem?_map, hx]; rfl
      obtain ⟨c, hci, hc, hcp⟩ := pget hcs hx
      have hc : RCnt p kk a c := hc
      have hno : ¬ NoR p kk a := fun z => by have := hc.2.2 z.1 z.2; omega
      have hb0 := hWb i
      have hb1 := hWb (i + 1)
      have hw0 := M.prodN_pos (l := (ps.map (·.2)).take i) fun z hz => hW0 z (List.mem_of_mem_take hz)
      have hk1 := hck (i + 1)
      rw [take_more hpi, M.prodN_snoc] at hb1
      rw [take_more hci, M.prodN_snoc] at hk1
      have e5 : M.prodN ((ps.map (·.2)).take (i + 1)) = M.prodN ((ps.map (·.2)).take i) * p := by rw [take_more hpi, M.prodN_snoc]
      have e6 : M.prodN (cs.take (i + 1)) = M.prodN (cs.take i) * c := by rw [take_more hci, M.prodN_snoc]
      rw [e5, e6]
      generalize M.prodN ((ps.map (·.2)).take i) = W at hb0 hb1 hw0 hnb ⊢
      generalize M.prodN (cs.take i) = C at hk1 hnl ⊢
      walk_at "g"
      refine s_ixT (SqT.of (s3 _ _ et)) (atI0 0 rfl rfl) ?_
      walk_at "g"
      refine ⟨n, p, kk, t, a, rfl, (hP.2 _ hmem).same s3, hp, hpB, k0, hno, fun U R S l d H4 s4 eU eR hK hd hdb2 => ?_⟩
      have hll : l.length = c := kr_cnt hp k0 hK hc
      have hlb : ∀ z ∈ l, 0 ≤ z ∧ z < (p : Int) := fun z hz => ⟨((hK.iff z).mp hz).1, ((hK.iff z).mp hz).2.1⟩
      refine s_gtup (SqT.of eU) rfl ?_
      walk_at "g"
      refine ⟨(p : Int), (W : Int), p - 2, by rw [show ((p : Nat) : Int) - 2 = ((p - 2 : Nat) : Int) by omega]; rfl, by omega, by omega, ?_⟩
      have hbk := M.pw_range (n := (p : Int)) (by omega) (W : Int) (p - 2)
      generalize M.pw (p : Int) (W : Int) (p - 2) = back at hbk ⊢
      walk_at "g"
      refine mkL (by simp) fun E H5 nE eE s5 => ?_
      have eA5 := (s4.trans s5) _ _ eA
      have hEH : H E = none := Same.none (s3.trans s4) nE
      have hEB : E ≠ B := fun z => by rw [z, s4 _ _ eB3] at nE; cases nE
      walk_at "g"
      refine ⟨⟨_, SqL.of eA5⟩, ?_⟩
      refine for_list (fun j σ H' => Same H4 H' ∧ ∃ (zs : List Int) (v12 v13 : Option V), σ = [some (.ref D), some (.int (kk : Nat)), some (.int a), some (.ref A), some (.ref B), some (.int (W : Nat)), some (.ref t), some (.int (p : Nat)), some (.ref R), some (.ref S), some (.int back), some (.ref E), v12, v13] ∧ H' E = some (.lst (zs.map V.int)) ∧ zs.length = j * c ∧ ∀ z ∈ zs, 0 ≤ z ∧ z < (W * p : Nat)) ⟨s5, [], _, _, rfl, eE, by rw [Nat.zero_mul]; rfl, by simp⟩ (fun j σ H' _ I => SqL.of (I.1 _ _ (s4 _ _ eA))) ?_ ?_
      · rintro j v σ H6 hj ⟨s6, zs, w12, w13, rfl, eE6, hzl, hzb⟩
        rw [List.getElem?_map] at hj
        obtain ⟨x, hx1, rfl⟩ := Option.map_eq_some_iff.mp hj
        obtain ⟨x0, x1⟩ := hnb x (List.mem_of_getElem? hx1)
        have hjl := (List.getElem?_eq_some_iff.mp hx1).1
        have hj1 : j * c + c ≤ C * c := by
          rw [← Nat.succ_mul]
          exact Nat.mul_le_mul_right c (by omega)
        walk_at "g"
        refine ⟨s_tyL eE6, ?_⟩
        walk_at "g"
        refine s_lc ?_
        walk_at "g"
        refine ⟨⟨_, SqL.of (s6 _ _ eR)⟩, fun F hF => ?_⟩
        have hFE : F ≠ E := fun z => by rw [z, eE6] at hF; cases hF
        refine lc_list (fun m H' => Same H6 H' ∧ ∃ ws : List Int, H' F = some (.lst (ws.map V.int)) ∧ ws.length = m ∧ ∀ z ∈ ws, 0 ≤ z ∧ z < (W * p : Nat)) ⟨same_upd hF, [], upd_same, rfl, by simp⟩ (fun m H' _ I => SqL.of (I.1 _ _ (s6 _ _ eR))) ?_ ?_
        · rintro m v H7 hm ⟨s7, ws, eF, hwl, hwb⟩
          rw [List.getElem?_map] at hm
          obtain ⟨r, hr, rfl⟩ := Option.map_eq_some_iff.mp hm
          obtain ⟨r0, r1⟩ := hlb r (List.mem_of_getElem? hr)
          have hml := (List.getElem?_eq_some_iff.mp hr).1
          walk_at "g"
          refine ⟨rfl, ?_⟩
          walk_at "g"
          refine s_i (by omega) ?_
          have q0 := Int.emod_nonneg ((r - x) * back) (show (p : Int) ≠ 0 by omega)
          have q1 := Int.emod_lt_of_pos ((r - x) * back) (show (0 : Int) < (p : Int) by omega)
          generalize (r - x) * back % (p : Int) = q at q0 q1 ⊢
          refine s_i (mulW (by omega) (by omega)) ?_
          obtain ⟨y0, y1⟩ := step_bd x0 x1 q0 q1
          refine s_i0 ?_
          refine ⟨_, eF, line2 (by rw [List.length_map]; omega), same_upd' s7 hF, ws ++ [x + (W : Int) * q], by rw [upd_same, List.map_append]; rfl, by rw [List.length_append, hwl]; rfl, fun z hz => ?_⟩
          rcases List.mem_append.mp hz with h | h
          · exact hwb z h
          · rw [List.mem_singleton.mp h]; exact ⟨y0, y1⟩
        rintro H7 ⟨s7, ws, eF, hwl, hwb⟩
        rw [List.length_map] at hwl
        walk_at "g"
        refine s_extend2 (s7 _ _ eE6) eF (by rw [List.length_map, List.length_map]; omega) ?_
        walk_at "g"
        refine ⟨same_upd' (s6.trans s7) nE, zs ++ ws, _, _, rfl, by rw [upd_same, List.map_append], by rw [List.length_append, hzl, hwl, hll, Nat.succ_mul], fun z hz => ?_⟩
        rcases List.mem_append.mp hz with h | h
        · exact hzb z h
        · exact hwb z h
      · rintro σ H6 ⟨s6, zs, w12, w13, rfl, eE6, hzl, hzb⟩
        rw [List.length_map, hnl] at hzl
        have eB6 := s6 _ _ (s4 _ _ eB3)
        walk_at "g"
        refine ⟨s_tyL eB6, ?_⟩
        walk_at "g"
        refine s_append eB6 (line2 (by omega)) ?_
        walk_at "g"
        try refine s_i (mulW (by omega) (by omega)) ?_
        walk_at "g"
        refine ⟨same_upd' (s3.trans (s4.trans s6)) nBH, E, zs, vs ++ [.ref S], ds ++ [d], _, _, _, _, _, _, _, _, by push_cast; rfl, hEB, by rw [upd_ne hEB]; exact eE6, upd_same, dal_snoc ((hd.same s6).upd eB6 (fun z => z)) ((hds.same (s4.trans s6)).upd eB6 (fun z => z)), fun y hy => ?_, by rw [List.length_append, hvl]; rfl, hzl, hzb⟩
        rcases List.mem_append.mp hy with h | h
        · exact hdb y h
        · rw [List.mem_singleton.mp h]; exact hdb2
    · rintro σ H3 ⟨s3, A, ns, vs, ds, v6, v7, v8, v9, v10, v11, v12, v13, rfl, hAB, eA, eB3, hds, hdb, hvl, hnl, hnb⟩
      have hbW := hWb ps.length
      rw [List.length_map] at hnl hnb hvl ⊢
      rw [← hcl, List.take_length] at hnl
      walk_at "g"
      refine ⟨A, ns, rfl, SqL.of eA, fun xs G pm srt nG => ?_⟩
      have s4 : Same H3 (upd H3 G (.lst (xs.map V.int))) := same_upd nG
      have eG : upd H3 G (.lst (xs.map V.int)) G = some (.lst (xs.map V.int)) := upd_same
      generalize upd H3 G (.lst (xs.map V.int)) = H4 at s4 eG ⊢
      walk_at "g"
      refine s_tupL (SqL.of (s4 _ _ eB3)) fun R nR => ?_
      have s5 : Same H4 (upd H4 R (.tup vs)) := same_upd nR
      have eR : upd H4 R (.tup vs) R = some (.tup vs) := upd_same
      generalize upd H4 R (.tup vs) = H5 at s5 eR ⊢
      walk_at "g"
      refine mkT (by simp) fun S H6 nS eS s6 => ?_
      walk_at "g"
      refine mkT (by simp) fun U H7 nU eU s7 => ?_
      have hdl := hds.len
      have s37 := s4.trans (s5.trans (s6.trans s7))
      refine k U xs ds H7 (s3.trans s37) (.tup eU (.cons (.lst ((s5.trans (s6.trans s7)) _ _ eG) (dal_ints xs) trivial) (.cons (.tup (s7 _ _ eS) (.cons (.str _) (.cons (.tup ((s6.trans s7) _ _ eR) ((hds.same s37).mono fun _ z => z.elim)) .nil))) .nil))) (.tup (by simp) fun y hy => ?_) (by rw [pm.length_eq]; exact hnl)
      simp only [List.mem_cons, List.not_mem_nil, or_false] at hy
      rcases hy with z | z <;> subst z
      · refine .lst (by rw [List.length_map, pm.length_eq]; omega) fun y hy => ?_
        obtain ⟨z, hz, rfl⟩ := List.mem_map.mp hy
        have := hnb z (pm.mem_iff.mp hz)
        exact .int (by omega)
      · refine .tup (by simp) fun y hy => ?_
        simp only [List.mem_cons, List.not_mem_nil, or_false] at hy
        rcases hy with z | z <;> subst z
        · exact .str _ (by decide +kernel)
        · exact .tup (by omega) fun y hy => (hdb y hy).mono (by decide)

theorem s_isBl {H : Hp} {Q : VK} {a b : Bool} (h : Q (.bl (decide (a = b))) H) : L2.rIsB (.bl a) (.bl b) H Q := ⟨a, b, rfl, rfl, h⟩

theorem s_notBl {H : Hp} {Q : VK} {a b : Bool} (h : Q (.bl (!decide (a = b))) H) : L2.rNotB (.bl a) (.bl b) H Q := ⟨a, b, rfl, rfl, h⟩

theorem cut_take (xs : List V) (k : Nat) (h : k ≤ xs.length) : cutV xs none (some (k : Int)) = xs.take k := by
  unfold cutV
  rw [HT.sIx_none, HT.sIx_nat, List.drop_zero, Nat.sub_zero, Nat.min_eq_left h]
theorem cut_drop (xs : List V) (k : Nat) (h : k ≤ xs.length) : cutV xs (some (k : Int)) none = xs.drop k := by
  unfold cutV
  rw [HT.sIx_none, HT.sIx_nat, Nat.min_eq_left h]
  exact List.take_of_length_le (by rw [List.length_drop]; exact Nat.le_refl _)
theorem PapsAt.list {n : Nat} {H H' : Hp} {D E : Addr} {ps : List (Addr × Nat)} (h : PapsAt n H D ps) (s : Same H H') (e : H' E = some (.lst (ps.map fun x => V.ref x.1))) : PapsAt n H' E ps := ⟨e, fun x hx => (h.2 x hx).same s⟩
theorem last_max {ps : List (Addr × Nat)} {x : Addr × Nat} (hs : (ps.map (·.2)).Pairwise (· < ·)) (hx : ps.getLast? = some x) : ∀ y ∈ ps, y.2 ≤ x.2 := fun y hy => by
  obtain ⟨l, rfl⟩ : ∃ l, ps = l ++ [x] := List.getLast?_eq_some_iff.mp hx
  rw [List.map_append] at hs
  rcases List.mem_append.mp hy with z | z
  · have := (List.pairwise_append.mp hs).2.2 y.2 (List.mem_map.mpr ⟨y, z, rfl⟩) x.2 (by simp)
    omega
  · rw [List.mem_singleton.mp z]; exact Nat.le_refl _
theorem many_sh (z : Int) : SeqAt.shaped (.list [.none, .int z]) = true := shapedL fun d hd => by
  simp only [List.mem_cons, List.not_mem_nil, or_false] at hd
  rcases hd with rfl | rfl <;> exact ⟨by simp [PyData.canLay0], by simp [PyData.depth]⟩
/-- _law_too_many(papers, k, a, due, told) -/
def sp__law_too_many (K : PySem.W.Frag) : Sp := fun vs H Q _ => ∃ (n : Nat) (D F : Addr) (ps : List (Addr × Nat)) (cs : List Nat) (k : Nat) (a : Int), vs = [.ref D, .int (k : Nat), .int a, .int (M.prodN cs : Nat), .ref F] ∧ PapsAt n H D ps ∧ (∀ x ∈ ps, x.2 ≤ 1000000000) ∧ 0 < ps.length ∧ ps.length ≤ 5 ∧ (ps.map (·.2)).Pairwise (· < ·) ∧ 0 < k ∧ k < 2 ^ 400 ∧ Paired (fun x c => RCnt x.2 k a c ∧ 0 < c) ps cs ∧ 400 < M.prodN cs ∧ H F = some (.lst [.non, .int (M.prodN cs : Nat)]) ∧ ∀ H', Same H H' → Q (.bl true) H'
theorem ok__law_too_many (T : Txt K mg) : FnOk P w K mg base CX0 149 (He.ga K "_law_too_many") (fd__law_too_many T) ["_law_papers", "_law_k", "_law_a", "_law_due_here", "_law_told_here"] (sp__law_too_many K) := by
  refine (F__law_too_many T).ok sc__law_too_many (fun vs H Q E h => ?_) (fun cdv A outer s H vs Q E hr h => ⟨_, PSs.nox (pss_cons (ps_if (PW.pt (pw_and (pt_cmpR op_lt (pe_ix ix_seq (pe_ix ix_seq (pv 0) (pe_un un_neg pe_int) (fun _ _ => rfl)) pe_int (fun _ _ => rfl)) pe_int (nomark _)) (pw_and1 (pt_cmpR op_lt (pv 3) pe_int (nomark _))))) (pss_one (ps_if (pt_cmpR op_notBl (pe_call (ok_shows_roots_of T) (hr.mono (by decide)) rfl (g_shows_roots_of T) (kp_shows_roots_of T) (B_shows_roots_of T) .nil pass0 (pa_cons (pe_callTy callLst rfl (T.fr (T.c.fact 65 rfl)) boot_list (pa_cons (pv 0) pa_nil)) (pa_cons (pv 1) (pa_cons (pv 2) (pa_cons (pe_call (ok__law_every T) (hr.mono (by decide)) rfl (g__law_every T) (kp__law_every T) (B__law_every T) .nil pass0 (pa_cons (pv 0) (pa_cons (pv 1) (pa_cons (pv 2) pa_nil)))) pa_nil))))) pe_bl (nomark _)) (pss_one (ps_ret pe_bl)) pss_nil)) pss_nil)
      (pss_one (ps_ret (pe_cmpR (op_eqD hr.units) (pv 4) (pe_lst (pa_cons pe_non (pa_cons (pv 3) pa_nil))) (nomark _))))), ?_⟩)
  · obtain ⟨n, D, F, ps, cs, k, a, rfl, _⟩ := h; rfl
  · obtain ⟨n, D, F, ps, cs, kk, a, rfl, hP, hpb, hpl0, hpl, hsr, k0, kb, hcs, h4, eF, k⟩ := h
    obtain ⟨⟨t, p⟩, hx⟩ : ∃ x, ps.getLast? = some x := by
      cases e : ps.getLast? with
      | none =>
        rw [List.getLast?_eq_none_iff] at e
        rw [e] at hpl0
        exact absurd hpl0 (by simp)
      | some x => exact ⟨x, rfl⟩
    have hmem : (t, p) ∈ ps := List.mem_of_getLast? hx
    have hmax := last_max hsr hx
    obtain ⟨f, u, et⟩ := (hP.2 _ hmem).first
    have et : H t = some (.tup [.int (p : Nat), .int (f : Nat), .ref u]) := et
    walk_at "g"
    refine s_ixL (SqL.of hP.1) (atI_neg1 (by rw [List.getLast?_map, hx]; rfl)) ?_
    walk_at "g"
    refine s_ixT (SqT.of et) (atI0 0 rfl rfl) ?_
    walk_at "g"
    have last : ∀ (H1 : Hp), Same H H1 → ∀ W H2, H2 W = some (.lst [.non, .int (M.prodN cs : Nat)]) → Same H1 H2 → rEqD K (.ref F) (.ref W) H2 Q := fun H1 s1 W H2 eW s2 => by
      refine s_eqD (.list [.none, .int (M.prodN cs : Nat)]) (.list [.none, .int (M.prodN cs : Nat)]) (.lst (SqL.of ((s1.trans s2) _ _ eF)) (.cons .non (.cons (.int _) .nil))) (.lst (SqL.of eW) (.cons .non (.cons (.int _) .nil))) (many_sh _) (many_sh _) ?_
      rw [eqv_shaped (many_sh _)]
      exact k H2 (s1.trans s2)
    refine s_ite (fun c1 => ?_) (fun c1 => ?_)
    · walk_at "g"
      refine s_ite (fun c2 => ?_) (fun c2 => ?_)
      · walk_at "g"
        refine s_lstL (SqL.of hP.1) fun l nl => ?_
        have s1 : Same H (upd H l (.lst (ps.map fun x => V.ref x.1))) := same_upd nl
        have el : upd H l (.lst (ps.map fun x => V.ref x.1)) l = some (.lst (ps.map fun x => V.ref x.1)) := upd_same
        generalize upd H l (.lst (ps.map fun x => V.ref x.1)) = H1 at s1 el ⊢
        walk_at "g"
        refine ⟨n, D, ps, cs, kk, a, rfl, hP.same s1, fun x hx => ?_, hpl, k0, hcs, by omega, fun U xs ds H2 s2 hU hbU hxl => ?_⟩
        · have := hmax x hx
          have : p < 102 := by omega
          omega
        walk_at "g"
        refine call_shows false (hP.list (s1.trans s2) (s2 _ _ el)) hpb hpl0 hpl hsr hU hbU k0 (by omega) (fun ds' _ => ⟨fun z => (nomatch z), fun z => absurd z (not_many (by omega))⟩) fun H3 s3 => ?_
        walk_at "g"
        refine s_notBl ?_
        walk_at "g"
        refine mkL (by simp) fun W H4 nW eW s4 => ?_
        exact last H3 (s1.trans (s2.trans s3)) W H4 eW s4
      · walk_at "g"
        refine mkL (by simp) fun W H4 nW eW s4 => ?_
        exact last H (Same.refl _) W H4 eW s4
    · walk_at "g"
      refine mkL (by simp) fun W H4 nW eW s4 => ?_
      exact last H (Same.refl _) W H4 eW s4

theorem cs_unique {k : Nat} {a : Int} : ∀ {ps : List (Addr × Nat)} {cs ds : List Nat}, Paired (fun (x : Addr × Nat) c => RCnt x.2 k a c ∧ 0 < c) ps cs → Paired (fun (x : Addr × Nat) c => RCnt x.2 k a c ∧ 0 < c) ps ds → cs = ds
  | _, _, _, .nil, .nil => rfl
  | x :: _, c :: _, d :: _, .cons h h', .cons g g' => by
    have e : c = d := by
      by_cases hu : M.un x.2 a
      · by_cases h1 : M.is1 x.2 a ((x.2 - 1) / Nat.gcd k (x.2 - 1))
        · rw [h.1.2.1 hu h1, g.1.2.1 hu h1]
        · rw [h.1.2.2 hu h1, g.1.2.2 hu h1]
      · rw [h.1.1 hu, g.1.1 hu]
    rw [e, cs_unique h' g']
theorem cs_some {k : Nat} {a : Int} {ps : List (Addr × Nat)} {cs : List Nat} (h : Paired (fun (x : Addr × Nat) c => RCnt x.2 k a c ∧ 0 < c) ps cs) : ∀ x ∈ ps, ¬ NoR x.2 k a := fun x hx z => by
  obtain ⟨j, hj⟩ := List.getElem?_of_mem hx
  obtain ⟨c, _, hc, hc0⟩ := pget h hj
  have := hc.2.2 z.1 z.2
  omega
theorem cs_le {k : Nat} {a : Int} {B : Nat} : ∀ {ps : List (Addr × Nat)} {cs : List Nat}, Paired (fun (x : Addr × Nat) c => RCnt x.2 k a c ∧ 0 < c) ps cs → (∀ c ∈ cs, c ≤ B) → Paired (fun (x : Addr × Nat) c => RCnt x.2 k a c ∧ 0 < c ∧ c ≤ B) ps cs
  | _, _, .nil, _ => .nil
  | _, _, .cons h h', hb => .cons ⟨h.1, h.2, hb _ (by simp)⟩ (cs_le h' fun c hc => hb c (by simp [hc]))
theorem by_bd {l : List Int} {es : List PyData} (h1 : l.length ≤ 1999) (h2 : ∀ z ∈ l, z.natAbs < 2 ^ 300) (h3 : es.length ≤ 5) (h4 : ∀ e ∈ es, Bd 2 e) : Bd 60 (.tuple [.list (l.map .int), .tuple [.str "by", .tuple es]]) := .tup (by simp) fun d hd => by
  simp only [List.mem_cons, List.not_mem_nil, or_false] at hd
  rcases hd with z | z <;> subst z
  · exact (rt_bd h1 h2).mono (by decide)
  · refine .tup (by simp) fun d hd => ?_
    simp only [List.mem_cons, List.not_mem_nil, or_false] at hd
    rcases hd with z | z <;> subst z
    · exact .str _ (by decide +kernel)
    · exact .tup (by omega) fun d hd => (h4 d hd).mono (by decide)
theorem by_da {H : Hp} {T L0 S R : Addr} {l : List Int} {vs : List V} {es : List PyData} (eT : H T = some (.tup [.ref L0, .ref S])) (eL : H L0 = some (.lst (l.map V.int))) (eS : H S = some (.tup [.str "by", .ref R])) (eR : H R = some (.tup vs)) (h : DaL (fun _ => True) H vs es) : Da H (.ref T) (.tuple [.list (l.map .int), .tuple [.str "by", .tuple es]]) :=
  .tup eT (.cons (.lst eL (dal_ints l) trivial) (.cons (.tup eS (.cons (.str _) (.cons (.tup eR h) .nil))) .nil))
theorem by_inv {ds : List PyData} {k : Nat} {a : Int} {f rows : PyData} (h : ShowsRD ds k a (.tuple [f, .tuple [.str "by", rows]])) : EachD ds k a f rows := by
  rcases h with ⟨i, d, e, r, _, z, _⟩ | ⟨f', rows', z, h⟩
  · simp only [PyData.tuple.injEq, List.cons.injEq, PyData.str.injEq] at z
    exact absurd z.2.1.1 (by decide +kernel)
  · simp only [PyData.tuple.injEq, List.cons.injEq, and_true, true_and] at z
    obtain ⟨rfl, rfl⟩ := z
    exact h
/-- _law_right(papers, k, a, state) -/
def sp__law_right (K : PySem.W.Frag) : Sp := fun vs H Q _ => ∃ (n : Nat) (D s : Addr) (ps : List (Addr × Nat)) (k : Nat) (a : Int), vs = [.ref D, .int (k : Nat), .int a, .ref s] ∧ PapsAt n H D ps ∧ (∀ x ∈ ps, x.2 ≤ 1000000000) ∧ 0 < ps.length ∧ ps.length ≤ 5 ∧ (ps.map (·.2)).Pairwise (· < ·) ∧ 0 < k ∧ k < 2 ^ 400 ∧ StAt H s ∧ ∀ H', SameB s H H' → Q (.bl true) H'
theorem ok__law_right (T : Txt K mg) : FnOk P w K mg base CX0 150 (He.ga K "_law_right") (fd__law_right T) ["_law_papers", "_law_k", "_law_a", "_law_state_here"] (sp__law_right K) := by
  refine (F__law_right T).ok sc__law_right (fun vs H Q E h => ?_) (fun cdv A outer s H vs Q E hr h => ⟨_, PSs.nox (pss_cons (ps_set (i := 4) sc__law_right.nd rfl (Or.inl rfl) (pe_call (ok__law_due T) (hr.mono (by decide)) rfl (g__law_due T) (kp__law_due T) (B__law_due T) .nil pass0 (pa_cons (pv 0) (pa_cons (pv 1) (pa_cons (pv 2) pa_nil)))))
      (pss_cons (ps_set (i := 5) sc__law_right.nd rfl (Or.inl rfl) (pe_call (ok__law_told T) (hr.mono (by decide)) rfl (g__law_told T) (kp__law_told T) (B__law_told T) .nil pass0 (pa_cons (pv 0) (pa_cons (pv 1) (pa_cons (pv 2) pa_nil)))))
      (pss_cons (ps_if (PW.pt (pw_and (pt_not (pt_val (pe_callB call_isi rfl (T.fr (T.c.fact 59 rfl)) boot_isinstance (pa_cons (pv 4) (pa_cons (pe_bltn (v := .ty "tuple") rfl (T.fr (T.c.fact 58 rfl)) boot_tuple rfl) pa_nil))))) (pw_and1 (pt_cmpR op_gt (pv 4) pe_int (nomark _))))) (pss_one (ps_ret (pe_call (ok__law_too_many T) (hr.mono (by decide)) rfl (g__law_too_many T) (kp__law_too_many T) (B__law_too_many T) .nil pass0 (pa_cons (pv 0) (pa_cons (pv 1) (pa_cons (pv 2) (pa_cons (pv 4) (pa_cons (pv 5) pa_nil)))))))) pss_nil)
      (pss_cons (ps_if (PW.pt (pw_or (pt_cmpR op_notN1 (pe_ix ix_seq (pv 5) pe_int (fun _ _ => rfl)) pe_non (nomark _)) (pw_or (pt_not (pt_val (pe_callB call_isi rfl (T.fr (T.c.fact 59 rfl)) boot_isinstance (pa_cons (pe_ix ix_seq (pv 5) pe_int (fun _ _ => rfl)) (pa_cons (pe_bltn (v := .ty "tuple") rfl (T.fr (T.c.fact 58 rfl)) boot_tuple rfl) pa_nil))))) (pw_or1 (pt_cmpR op_ne (pe_callB callLen rfl (T.fr (T.c.fact 62 rfl)) boot_len (pa_cons (pe_ix ix_seq (pv 5) pe_int (fun _ _ => rfl)) pa_nil)) pe_int (nomark _)))))) (pss_one (ps_ret pe_bl)) pss_nil)
      (pss_cons (ps_if (pt_cmpR op_notBl (pe_call (ok_shows_roots_of T) (hr.mono (by decide)) rfl (g_shows_roots_of T) (kp_shows_roots_of T) (B_shows_roots_of T) .nil pass0 (pa_cons (pe_callTy callLst rfl (T.fr (T.c.fact 65 rfl)) boot_list (pa_cons (pv 0) pa_nil)) (pa_cons (pv 1) (pa_cons (pv 2) (pa_cons (pe_ix ix_seq (pv 5) pe_int (fun _ _ => rfl)) pa_nil))))) pe_bl (nomark _)) (pss_one (ps_ret pe_bl)) pss_nil)
      (pss_cons (ps_if (pt_val (pe_callB call_isi rfl (T.fr (T.c.fact 59 rfl)) boot_isinstance (pa_cons (pv 4) (pa_cons (pe_bltn (v := .ty "tuple") rfl (T.fr (T.c.fact 58 rfl)) boot_tuple rfl) pa_nil)))) (pss_one (ps_ret (pe_and (pe_cmpR (op_eqD hr.units) (pe_ix ix_seq (pv 5) pe_int (fun _ _ => rfl)) (pe_tup (pa_cons (pe_lst pa_nil) (pa_cons (pv 4) pa_nil))) (nomark _)) (pe_one (pe_cmpR op_isBl (pe_call (ok_shows_roots_of T) (hr.mono (by decide)) rfl (g_shows_roots_of T) (kp_shows_roots_of T) (B_shows_roots_of T) .nil pass0 (pa_cons (pe_callTy callLst rfl (T.fr (T.c.fact 65 rfl)) boot_list (pa_cons (pv 0) pa_nil)) (pa_cons (pv 1) (pa_cons (pv 2) (pa_cons (pe_tup (pa_cons (pe_lst (pa_cons pe_int pa_nil)) (pa_cons (pv 4) pa_nil))) pa_nil))))) pe_bl (nomark _)))))) pss_nil)
      (pss_cons (ps_if (pt_not (pt_val (pe_call (ok__law_are_all T) (hr.mono (by decide)) rfl (g__law_are_all T) (kp__law_are_all T) (B__law_are_all T) .nil pass0 (pa_cons (pv 0) (pa_cons (pv 1) (pa_cons (pv 2) (pa_cons (pv 4) (pa_cons (pe_ix ix_seq (pv 5) pe_int (fun _ _ => rfl)) pa_nil)))))))) (pss_one (ps_ret pe_bl)) pss_nil)
      (pss_cons (ps_set (i := 6) sc__law_right.nd rfl (Or.inl rfl) (pe_ix ix_seq (pe_ix ix_seq (pv 5) pe_int (fun _ _ => rfl)) pe_int (fun _ _ => rfl)))
      (pss_cons (ps_set (i := 7) sc__law_right.nd rfl (Or.inl rfl) (pe_call (ok__law_take T) (hr.mono (by decide)) rfl (g__law_take T) (kp__law_take T) (B__law_take T) .nil pass0 (pa_cons (pv 3) (pa_cons (pe_callB callLen rfl (T.fr (T.c.fact 62 rfl)) boot_len (pa_cons (pv 6) pa_nil)) pa_nil))))
      (pss_cons (ps_set (i := 8) sc__law_right.nd rfl (Or.inl rfl) (pe_tup (pa_cons (pe_op op_cat (pe_slice sl_list (pv 6) po_none (po_some (pv 7))) (pe_slice sl_list (pv 6) (po_some (pe_op op_add (pv 7) pe_int)) po_none)) (pa_cons (pe_ix ix_seq (pe_ix ix_seq (pv 5) pe_int (fun _ _ => rfl)) pe_int (fun _ _ => rfl)) pa_nil))))
      (pss_cons (ps_set (i := 9) sc__law_right.nd rfl (Or.inl rfl) (pe_tup (pa_cons (pe_op op_cat (pe_op op_cat (pe_slice sl_list (pv 6) po_none (po_some (pv 7))) (pe_lst (pa_cons (pe_op op_add (pe_ix ix_seq (pv 6) (pv 7) (fun _ _ => rfl)) pe_int) pa_nil))) (pe_slice sl_list (pv 6) (po_some (pe_op op_add (pv 7) pe_int)) po_none)) (pa_cons (pe_ix ix_seq (pe_ix ix_seq (pv 5) pe_int (fun _ _ => rfl)) pe_int (fun _ _ => rfl)) pa_nil))))
      (pss_one (ps_ret (pe_and (pe_cmpR op_isBl (pe_call (ok_shows_roots_of T) (hr.mono (by decide)) rfl (g_shows_roots_of T) (kp_shows_roots_of T) (B_shows_roots_of T) .nil pass0 (pa_cons (pe_callTy callLst rfl (T.fr (T.c.fact 65 rfl)) boot_list (pa_cons (pv 0) pa_nil)) (pa_cons (pv 1) (pa_cons (pv 2) (pa_cons (pv 8) pa_nil))))) pe_bl (nomark _)) (pe_one (pe_cmpR op_isBl (pe_call (ok_shows_roots_of T) (hr.mono (by decide)) rfl (g_shows_roots_of T) (kp_shows_roots_of T) (B_shows_roots_of T) .nil pass0 (pa_cons (pe_callTy callLst rfl (T.fr (T.c.fact 65 rfl)) boot_list (pa_cons (pv 0) pa_nil)) (pa_cons (pv 1) (pa_cons (pv 2) (pa_cons (pv 9) pa_nil))))) pe_bl (nomark _))))))))))))))))), ?_⟩)
  · obtain ⟨n, D, s, ps, k, a, rfl, _⟩ := h; rfl
  · obtain ⟨n, D, s, ps, kk, a, rfl, hP, hpb, hpl0, hpl, hsr, k0, kb, hst, k⟩ := h
    have hpr := hP.prime
    have hnd : (ps.map (·.2)).Nodup := hsr.imp fun h => by omega
    walk_at "g"
    refine ⟨n, D, ps, kk, a, rfl, hP, hpb, hpl, k0, fun i p t hx hn hb S H1 s1 eS => ?_, fun cs hcs => ?_⟩
    · have hmem := List.mem_of_getElem? hx
      have hp : M.Prime p := hpr _ hmem
      have hp2 := hp.1
      have hpB : p ≤ 1000000000 := hpb _ hmem
      have hil := (List.getElem?_eq_some_iff.mp hx).1
      walk_at "g"
      refine ⟨n, D, ps, kk, a, rfl, hP.same s1, hnd, hpb, hpl, k0, kb, fun F H2 s2 hT => ?_⟩
      have S2 := s1.trans s2
      have hT2 : ∃ (T L0 S' : Addr), H2 F = some (.lst [.ref T, .non]) ∧ H2 T = some (.tup [.ref L0, .ref S']) ∧ H2 L0 = some (.lst []) ∧ H2 S' = some (.tup [.str "none", .int (i : Nat), .int ((p - 1) / Nat.gcd kk (p - 1) : Nat), .int (M.pw p a ((p - 1) / Nat.gcd kk (p - 1)))]) := by
        rcases hT with ⟨i', p', t', T, L0, S', hx', hn', hb', _, eF, eT, eL, eS'⟩ | ⟨cs, hcs, _⟩
        · have e : i = i' := by
            rcases Nat.lt_trichotomy i i' with z | z | z
            · exact absurd hn (hb' i p t z hx)
            · exact z
            · exact absurd hn' (hb i' p' t' z hx')
          subst e
          rw [hx] at hx'
          cases hx'
          exact ⟨T, L0, S', eF, eT, eL, eS'⟩
        · exact absurd hn (cs_some hcs _ hmem)
      obtain ⟨T, L0, S', eF, eT, eL, eS'⟩ := hT2
      have hnone : ∀ ds : List PyData, ds.map pOf = ps.map (·.2) → ShowsRD ds kk a (.tuple [.list [], .tuple [.str "none", .int (i : Nat), .int ((p - 1) / Nat.gcd kk (p - 1) : Nat), .int (M.pw p a ((p - 1) / Nat.gcd kk (p - 1)))]]) := fun ds hds => shows_none hds hx hp k0 hn
      have heb : (p - 1) / Nat.gcd kk (p - 1) ≤ p - 1 := Nat.div_le_self _ _
      have hwr := M.pw_range (n := (p : Int)) (by omega) a ((p - 1) / Nat.gcd kk (p - 1))
      generalize (p - 1) / Nat.gcd kk (p - 1) = e at heb hwr eS eS' hnone
      generalize M.pw (p : Int) a e = w at hwr eS eS' hnone
      have bS : Bd 2 (.tuple [.str "none", .int (i : Nat), .int (e : Nat), .int w]) := .tup (by simp) fun d hd => by
        simp only [List.mem_cons, List.not_mem_nil, or_false] at hd
        rcases hd with z | z | z | z <;> subst z
        · exact .str _ (by decide +kernel)
        · exact .int (by omega)
        · exact .int (by omega)
        · exact .int (by omega)
      have bT : ∀ l : List PyData, l.length ≤ 1 → (∀ d ∈ l, Bd 1 d) → Bd 3 (.tuple [.list l, .tuple [.str "none", .int (i : Nat), .int (e : Nat), .int w]]) := fun l h1 h2 => .tup (by simp) fun d hd => by
        simp only [List.mem_cons, List.not_mem_nil, or_false] at hd
        rcases hd with z | z <;> subst z
        · exact .lst (by omega) h2
        · exact bS
      have dS : ∀ {H' : Hp} {q : Addr}, H' q = some (.tup [.str "none", .int (i : Nat), .int (e : Nat), .int w]) → Da H' (.ref q) (.tuple [.str "none", .int (i : Nat), .int (e : Nat), .int w]) := fun h => .tup h (.cons (.str _) (.cons (.int _) (.cons (.int _) (.cons (.int _) .nil))))
      walk_at "g"
      refine s_isi (.tup (s2 _ _ eS)) kb_tt ?_
      walk_at "g"
      refine s_ixL (SqL.of eF) (atI0 1 rfl rfl) ?_
      walk_at "g"
      refine s_ixL (SqL.of eF) (atI0 0 rfl rfl) ?_
      walk_at "g"
      refine s_isi (.tup eT) kb_tt ?_
      walk_at "g"
      refine s_ixL (SqL.of eF) (atI0 0 rfl rfl) ?_
      walk_at "g"
      refine s_lenT (SqT.of eT) ?_
      walk_at "g"
      try refine s_itnP rfl ?_
      walk_at "g"
      refine s_lstL (SqL.of (S2 _ _ hP.1)) fun l nl => ?_
      have s3 : Same H2 (upd H2 l (.lst (ps.map fun x => V.ref x.1))) := same_upd nl
      have el : upd H2 l (.lst (ps.map fun x => V.ref x.1)) l = some (.lst (ps.map fun x => V.ref x.1)) := upd_same
      generalize upd H2 l (.lst (ps.map fun x => V.ref x.1)) = H3 at s3 el ⊢
      walk_at "g"
      refine s_ixL (SqL.of (s3 _ _ eF)) (atI0 0 rfl rfl) ?_
      walk_at "g"
      refine call_shows true (hP.list (S2.trans s3) el) hpb hpl0 hpl hsr (.tup (s3 _ _ eT) (.cons (.lst (s3 _ _ eL) .nil trivial) (.cons (dS (s3 _ _ eS')) .nil))) ((bT [] (by simp) (by simp)).mono (by decide)) k0 (by omega) (fun ds hds => ⟨fun _ => hnone ds hds, fun _ => rfl⟩) fun H4 s4 => ?_
      have s34 := s3.trans s4
      walk_at "g"
      refine s_notBl ?_
      walk_at "g"
      refine s_isi (.tup ((s2.trans s34) _ _ eS)) kb_tt ?_
      walk_at "g"
      refine s_ixL (SqL.of (s34 _ _ eF)) (atI0 0 rfl rfl) ?_
      walk_at "g"
      refine mkL (by simp) fun W H5 nW eW s5 => ?_
      walk_at "g"
      refine mkT (by simp) fun W2 H6 nW2 eW2 s6 => ?_
      have s36 := s34.trans (s5.trans s6)
      have hsh := (bT [] (by simp) (by simp)).shaped (by decide)
      refine s_eqD (.tuple [.list [], .tuple [.str "none", .int (i : Nat), .int (e : Nat), .int w]]) (.tuple [.list [], .tuple [.str "none", .int (i : Nat), .int (e : Nat), .int w]]) ((DaF.tup (F := fun _ => True) (s36 _ _ eT) (.cons (.lst (s36 _ _ eL) .nil trivial) (.cons (dS (s36 _ _ eS')) .nil))).dp K) ((DaF.tup (F := fun _ => True) eW2 (.cons (.lst (s6 _ _ eW) .nil trivial) (.cons (dS ((s2.trans s36) _ _ eS)) .nil))).dp K) hsh hsh ?_
      rw [eqv_shaped hsh]
      walk_at "g"
      refine s_lstL (SqL.of ((S2.trans s36) _ _ hP.1)) fun l2 nl2 => ?_
      have s7 : Same H6 (upd H6 l2 (.lst (ps.map fun x => V.ref x.1))) := same_upd nl2
      have el2 : upd H6 l2 (.lst (ps.map fun x => V.ref x.1)) l2 = some (.lst (ps.map fun x => V.ref x.1)) := upd_same
      generalize upd H6 l2 (.lst (ps.map fun x => V.ref x.1)) = H7 at s7 el2 ⊢
      walk_at "g"
      refine mkL (by simp) fun X H8 nX eX s8 => ?_
      walk_at "g"
      refine mkT (by simp) fun X2 H9 nX2 eX2 s9 => ?_
      have s79 := s7.trans (s8.trans s9)
      have S9 := S2.trans (s36.trans s79)
      walk_at "g"
      refine call_shows false (hP.list S9 ((s8.trans s9) _ _ el2)) hpb hpl0 hpl hsr (.tup eX2 (.cons (.lst (s9 _ _ eX) (.cons (.int 0) .nil) trivial) (.cons (dS ((s2.trans (s36.trans s79)) _ _ eS)) .nil))) ((bT [.int 0] (by simp) (fun d hd => by rw [List.mem_singleton.mp hd]; exact .int (by decide))).mono (by decide)) k0 (by omega) (fun ds hds => ⟨fun z => (nomatch z), fun z => absurd z not_none0⟩) fun H10 s10 => ?_
      walk_at "g"
      refine s_isBl ?_
      walk_at "g"
      exact k H10 (SameB.of (S9.trans s10))
    · have hno := cs_some hcs
      walk_at "g"
      refine ⟨n, D, ps, kk, a, rfl, hP, hnd, hpb, hpl, k0, kb, fun F H2 s2 hT => ?_⟩
      have hT2 : (400 < M.prodN cs ∧ H2 F = some (.lst [.non, .int (M.prodN cs : Nat)])) ∨
          (M.prodN cs ≤ 400 ∧ ∃ (xs : List Int) (rr : List RRec) (T L0 S R : Addr), M.Mixed (ps.map (·.2)) (rr.map (·.2.2.2)) xs ∧ xs.Pairwise (· < ·) ∧ xs.length = M.prodN cs ∧ H2 F = some (.lst [.ref T, .non]) ∧ H2 T = some (.tup [.ref L0, .ref S]) ∧ H2 L0 = some (.lst (xs.map V.int)) ∧ H2 S = some (.tup [.str "by", .ref R]) ∧ H2 R = some (.tup (rr.map fun r => V.ref r.2.2.1)) ∧ RowsR H2 kk a ps rr) := by
        rcases hT with ⟨i', p', t', _, _, _, hx', hn', _⟩ | ⟨cs', hcs', h⟩
        · exact absurd hn' (hno _ (List.mem_of_getElem? hx'))
        · obtain rfl := cs_unique hcs' hcs
          rcases h with h | ⟨h1, xs, rr, T, L0, S, R, h2, h3, h4, _, h5⟩
          · exact .inl h
          · exact .inr ⟨h1, xs, rr, T, L0, S, R, h2, h3, h4, h5⟩
      clear hT
      rcases hT2 with ⟨h4, eF⟩ | ⟨h4, xs, rr, T, L0, S, R, hmx, srt, hxl, eF, eT, eL, eS, eR, hR⟩
      · walk_at "g"
        refine s_isi (.int _) kb_it ?_
        walk_at "g"
        refine s_itP (by omega) ?_
        walk_at "g"
        refine ⟨n, D, F, ps, cs, kk, a, rfl, hP.same s2, hpb, hpl0, hpl, hsr, k0, kb, hcs, h4, eF, fun H3 s3 => ?_⟩
        exact k H3 (SameB.of (s2.trans s3))
      · have hc0 : ∀ c ∈ cs, 0 < c := fun c hc => by
          obtain ⟨_, _, _, h⟩ := paired_mem hcs hc
          exact h
        have hcs4 := cs_le (B := 400) hcs fun c hc => Nat.le_trans (Nat.le_of_dvd (M.prodN_pos hc0) (M.prodN_dvd hc)) h4
        have hK : Paired (fun (x : Addr × Nat) (r : RRec) => M.IsKR x.2 kk a r.2.2.2) ps rr := paired_mono (fun _ _ z => z.1) hR
        have hne : ∀ r ∈ rr, r.2.2.2 ≠ [] := fun r hr => by
          obtain ⟨x, hx, hk⟩ := paired_mem hK hr
          exact List.length_pos_iff.mp ((notR_len (hpr x hx) k0 hk).2 (hno x hx))
        have hx4 : xs.length ≤ 400 := by omega
        have hx0 : 0 < xs.length := by rw [hxl]; exact M.prodN_pos hc0
        have hWb : M.prodN (ps.map (·.2)) ≤ 1000000000 ^ 5 := by
          have h1 := M.prodN_bd (l := ps.map (·.2)) (B := 1000000000) fun z hz => by
            obtain ⟨x, hx, rfl⟩ := List.mem_map.mp hz
            exact hpb x hx
          exact Nat.le_trans h1 (Nat.pow_le_pow_right (by decide) (by rw [List.length_map]; exact hpl))
        have hW5 : (1000000000 : Nat) ^ 5 < 2 ^ 200 := by decide
        have hxb : ∀ z ∈ xs, 0 ≤ z ∧ z < 2 ^ 200 := fun z hz => by
          have := (hmx.iff z).mp hz
          exact ⟨this.1, by have := this.2.1; omega⟩
        have hpp : ∀ x ∈ ps, M.Prime x.2 ∧ x.2 ≤ 1000000000 := fun x hx => ⟨hpr x hx, hpb x hx⟩
        obtain ⟨es, hes, heb, hel, het⟩ := rows_data hpp hR hcs4
        rw [← hxl]
        walk_at "g"
        refine s_isi (.int _) kb_it ?_
        walk_at "g"
        refine s_itN (by omega) ?_
        walk_at "g"
        refine s_ixL (SqL.of eF) (atI0 1 rfl rfl) ?_
        walk_at "g"
        refine s_ixL (SqL.of eF) (atI0 0 rfl rfl) ?_
        walk_at "g"
        refine s_isi (.tup eT) kb_tt ?_
        walk_at "g"
        refine s_ixL (SqL.of eF) (atI0 0 rfl rfl) ?_
        walk_at "g"
        refine s_lenT (SqT.of eT) ?_
        walk_at "g"
        try refine s_itnP rfl ?_
        walk_at "g"
        refine s_lstL (SqL.of (s2 _ _ hP.1)) fun l nl => ?_
        have s3 : Same H2 (upd H2 l (.lst (ps.map fun x => V.ref x.1))) := same_upd nl
        have el : upd H2 l (.lst (ps.map fun x => V.ref x.1)) l = some (.lst (ps.map fun x => V.ref x.1)) := upd_same
        generalize upd H2 l (.lst (ps.map fun x => V.ref x.1)) = H3 at s3 el ⊢
        walk_at "g"
        refine s_ixL (SqL.of (s3 _ _ eF)) (atI0 0 rfl rfl) ?_
        walk_at "g"
        refine call_shows true (hP.list (s2.trans s3) el) hpb hpl0 hpl hsr (by_da (s3 _ _ eT) (s3 _ _ eL) (s3 _ _ eS) (s3 _ _ eR) (hes.same s3)) (by_bd (by omega) (fun z hz => by have := hxb z hz; omega) (by omega) heb) k0 (by omega) (fun ds hds => ⟨fun _ => .inr ⟨_, _, rfl, each_told hds hpr hsr hK hne hel het hmx srt hx4⟩, fun _ => rfl⟩) fun H4 s4 => ?_
        have s34 := s3.trans s4
        have S4 := s2.trans s34
        walk_at "g"
        refine s_notBl ?_
        walk_at "g"
        refine s_isi (.int _) kb_it ?_
        walk_at "g"
        refine s_ixL (SqL.of (s34 _ _ eF)) (atI0 0 rfl rfl) ?_
        walk_at "g"
        refine ⟨n, D, T, L0, S, R, ps, rr, xs, kk, a, rfl, hP.same S4, hpb, hpl, hsr, k0, s34 _ _ eT, s34 _ _ eL, s34 _ _ eS, s34 _ _ eR, hmx, srt, hx4, hne, paired_mono (fun _ _ z => ⟨z.1, z.2.same s34⟩) hR, hno, fun H5 s5 => ?_⟩
        have s25 := s34.trans s5
        have S5 := s2.trans s25
        walk_at "g"
        refine s_ixL (SqL.of (s25 _ _ eF)) (atI0 0 rfl rfl) ?_
        walk_at "g"
        refine s_ixT (SqT.of (s25 _ _ eT)) (atI0 0 rfl rfl) ?_
        walk_at "g"
        refine s_lenL (SqL.of (s25 _ _ eL)) ?_
        rw [List.length_map]
        walk_at "g"
        refine ⟨s, xs.length, rfl, by omega, by omega, hst.same S5, fun y H6 y0 y1 st6 s6 => ?_⟩
        obtain ⟨j, rfl⟩ := Int.eq_ofNat_of_zero_le y0
        have hj : j < xs.length := by omega
        have nel : ∀ {H' : Hp} {l : Addr} {zs : List V}, StAt H' s → H' l = some (.lst zs) → l ≠ s := fun ⟨_, _, e, _⟩ h z => by rw [z, e] at h; cases h
        have net : ∀ {H' : Hp} {l : Addr} {zs : List V}, StAt H' s → H' l = some (.tup zs) → l ≠ s := fun ⟨_, _, e, _⟩ h z => by rw [z, e] at h; cases h
        have st5 := hst.same S5
        have fr : ∀ (b : Addr) (r : List V), H2 b = some (.tup r) → H6 b = some (.tup r) := fun b r h => s6 _ _ (net st5 (s25 _ _ h)) (s25 _ _ h)
        have eF6 := s6 _ _ (nel st5 (s25 _ _ eF)) (s25 _ _ eF)
        have eL6 := s6 _ _ (nel st5 (s25 _ _ eL)) (s25 _ _ eL)
        have eT6 := fr _ _ eT
        have eS6 := fr _ _ eS
        have eR6 := fr _ _ eR
        have hP6 : PapsAt n H6 D ps := ⟨s6 _ _ (nel st5 (S5 _ _ hP.1)) (S5 _ _ hP.1), fun x hx => ((hP.2 x hx).same S5).sameB st5 s6⟩
        have hR6 : RowsR H6 kk a ps rr := paired_mono (fun _ _ z => ⟨z.1, RtAt.tups z.2 fr⟩) hR
        have S6 : SameB s H H6 := (SameB.of S5).trans s6
        clear hes heb hel het
        obtain ⟨es, hes, heb, hel, het⟩ := rows_data hpp hR6 hcs4
        clear eF eT eL eS eR hR s25 s34 s2 s3 s4 s5
        walk_at "g"
        have ecu : ∀ H', Same H6 H' → True := fun _ _ => trivial
        have c1 : cutV (xs.map V.int) none (some (j : Int)) = (xs.take j).map V.int := by rw [cut_take _ _ (by rw [List.length_map]; omega), List.map_take]
        have c2 : cutV (xs.map V.int) (some ((j : Int) + 1)) none = (xs.drop (j + 1)).map V.int := by
          rw [show ((j : Int) + 1) = ((j + 1 : Nat) : Int) by push_cast; rfl, cut_drop _ _ (by rw [List.length_map]; omega), List.map_drop]
        have htl : (xs.take j).length = j := by rw [List.length_take]; omega
        have hdl : (xs.drop (j + 1)).length = xs.length - (j + 1) := List.length_drop
        have tb : ∀ z ∈ xs.take j, z.natAbs < 2 ^ 300 := fun z hz => by have := hxb z (List.mem_of_mem_take hz); omega
        have db : ∀ z ∈ xs.drop (j + 1), z.natAbs < 2 ^ 300 := fun z hz => by have := hxb z (List.mem_of_mem_drop hz); omega
        have hxj : xs[j]? = some xs[j] := List.getElem?_eq_getElem hj
        have xjb := hxb xs[j] (List.getElem_mem hj)
        generalize hv : xs[j] = v at hxj xjb
        refine mkSl (SqL.of eL6) fun l1 H7 n1 e1 s7 => ?_
        rw [c1] at e1
        walk_at "g"
        refine mkSl (SqL.of (s7 _ _ eL6)) fun l2 H8 n2 e2 s8 => ?_
        rw [c2] at e2
        walk_at "g"
        refine mkCat (s8 _ _ e1) e2 (by rw [List.length_map, List.length_map]; omega) fun l3 H9 n3 e3 s9 => ?_
        rw [← List.map_append] at e3
        have s69 := s7.trans (s8.trans s9)
        walk_at "g"
        refine s_ixL (SqL.of (s69 _ _ eF6)) (atI0 0 rfl rfl) ?_
        walk_at "g"
        refine s_ixT (SqT.of (s69 _ _ eT6)) (atI0 1 rfl rfl) ?_
        walk_at "g"
        refine mkT (by simp) fun T1 H10 nT1 eT1 s10 => ?_
        have s6a := s69.trans s10
        walk_at "g"
        refine mkSl (SqL.of (s6a _ _ eL6)) fun l4 H11 n4 e4 s11 => ?_
        rw [c1] at e4
        walk_at "g"
        refine s_ixL (SqL.of ((s6a.trans s11) _ _ eL6)) (atI0 j rfl (by rw [List.getElem?_map, hxj]; rfl)) ?_
        walk_at "g"
        refine mkL (by simp) fun l5 H12 n5 e5 s12 => ?_
        walk_at "g"
        refine mkCat (s12 _ _ e4) (zs := [v + 1].map V.int) e5 (by rw [List.length_map, List.length_map]; simp only [List.length_cons, List.length_nil]; omega) fun l6 H13 n6 e6 s13 => ?_
        rw [← List.map_append] at e6
        have s6d := s6a.trans (s11.trans (s12.trans s13))
        walk_at "g"
        refine mkSl (SqL.of (s6d _ _ eL6)) fun l7 H14 n7 e7 s14 => ?_
        rw [c2] at e7
        walk_at "g"
        refine mkCat (s14 _ _ e6) e7 (by rw [List.length_map, List.length_map, List.length_append]; simp only [List.length_cons, List.length_nil]; omega) fun l8 H15 n8 e8 s15 => ?_
        rw [← List.map_append] at e8
        have s6f := s6d.trans (s14.trans s15)
        walk_at "g"
        refine s_ixL (SqL.of (s6f _ _ eF6)) (atI0 0 rfl rfl) ?_
        walk_at "g"
        refine s_ixT (SqT.of (s6f _ _ eT6)) (atI0 1 rfl rfl) ?_
        walk_at "g"
        refine mkT (by simp) fun T2 H16 nT2 eT2 s16 => ?_
        have s6g := s6f.trans s16
        have sTf : Same H9 H16 := s10.trans (s11.trans (s12.trans (s13.trans (s14.trans (s15.trans s16)))))
        walk_at "g"
        refine s_lstL (SqL.of (s6g _ _ hP6.1)) fun m1 nm1 => ?_
        have s17 : Same H16 (upd H16 m1 (.lst (ps.map fun x => V.ref x.1))) := same_upd nm1
        have em1 : upd H16 m1 (.lst (ps.map fun x => V.ref x.1)) m1 = some (.lst (ps.map fun x => V.ref x.1)) := upd_same
        generalize upd H16 m1 (.lst (ps.map fun x => V.ref x.1)) = H17 at s17 em1 ⊢
        have s6h := s6g.trans s17
        walk_at "g"
        refine call_shows false (hP6.list s6h em1) hpb hpl0 hpl hsr (by_da ((s11.trans (s12.trans (s13.trans (s14.trans (s15.trans (s16.trans s17)))))) _ _ eT1) ((sTf.trans s17) _ _ e3) (s6h _ _ eS6) (s6h _ _ eR6) (hes.same s6h)) (by_bd (by rw [List.length_append]; omega) (fun z hz => (List.mem_append.mp hz).elim (tb z) (db z)) (by omega) heb) k0 (by omega) (fun ds hds => ⟨fun z => (nomatch z), fun z => by
          have h1 := congrArg List.length (each_only hds hK hmx srt (by_inv z))
          rw [List.length_append] at h1
          omega⟩) fun H18 s18 => ?_
        walk_at "g"
        refine s_isBl ?_
        walk_at "g"
        have s6i := s6h.trans s18
        refine s_lstL (SqL.of (s6i _ _ hP6.1)) fun m2 nm2 => ?_
        have s19 : Same H18 (upd H18 m2 (.lst (ps.map fun x => V.ref x.1))) := same_upd nm2
        have em2 : upd H18 m2 (.lst (ps.map fun x => V.ref x.1)) m2 = some (.lst (ps.map fun x => V.ref x.1)) := upd_same
        generalize upd H18 m2 (.lst (ps.map fun x => V.ref x.1)) = H19 at s19 em2 ⊢
        have s6j := s6i.trans s19
        have sg := s17.trans (s18.trans s19)
        walk_at "g"
        refine call_shows false (hP6.list s6j em2) hpb hpl0 hpl hsr (by_da (sg _ _ eT2) ((s16.trans sg) _ _ e8) (s6j _ _ eS6) (s6j _ _ eR6) (hes.same s6j)) (by_bd (by rw [List.length_append, List.length_append]; simp only [List.length_cons, List.length_nil]; omega) (fun z hz => by
          rcases List.mem_append.mp hz with h | h
          · rcases List.mem_append.mp h with h | h
            · exact tb z h
            · rw [List.mem_singleton.mp h]; omega
          · exact db z h) (by omega) heb) k0 (by omega) (fun ds hds => ⟨fun z => (nomatch z), fun z => by
          have h1 := each_only hds hK hmx srt (by_inv z)
          have h2 : (xs.take j ++ [v + 1] ++ xs.drop (j + 1))[j]? = some (v + 1) := by
            rw [List.append_assoc, List.getElem?_append_right (by omega), htl, Nat.sub_self]; rfl
          rw [h1, hxj] at h2
          have := Option.some.inj h2
          omega⟩) fun H20 s20 => ?_
        walk_at "g"
        refine s_isBl ?_
        walk_at "g"
        exact k H20 (S6.trans (SameB.of (s6j.trans s20)))

/-- _law_asked(papers, k, state): a whole number -/
def sp__law_asked : Sp := fun vs H Q _ => ∃ (n : Nat) (D s : Addr) (ps : List (Addr × Nat)) (k : Nat), vs = [.ref D, .int (k : Nat), .ref s] ∧ PapsAt n H D ps ∧ (∀ x ∈ ps, x.2 ≤ 1000000000) ∧ 0 < ps.length ∧ ps.length ≤ 5 ∧ StAt H s ∧ ∀ (a : Int) H', StAt H' s → SameB s H H' → Q (.int a) H'
theorem ok__law_asked (T : Txt K mg) : FnOk P w K mg base CX0 3 (He.ga K "_law_asked") (fd__law_asked T) ["_law_papers", "_law_k", "_law_state_here"] sp__law_asked := by
  refine (F__law_asked T).ok sc__law_asked (fun vs H Q E h => ?_) (fun cdv A outer s H vs Q E hr h => ⟨_, PSs.nox (pss_cons (ps_set (i := 3) sc__law_asked.nd rfl (Or.inl rfl) pe_int)
      (pss_cons (ps_for PassesOwn.never rfl (pi_list (pv 0)) (pg_name (i := 4) sc__law_asked.nd rfl (Or.inl rfl)) (pss_one (ps_set (i := 3) sc__law_asked.nd rfl (Or.inl rfl) (pe_op op_mulW (pv 3) (pe_ix ix_seq (pv 4) pe_int (fun _ _ => rfl))))))
      (pss_cons (ps_set (i := 5) sc__law_asked.nd rfl (Or.inl rfl) (pe_call (ok__law_number T) (hr.mono (by decide)) rfl (g__law_number T) (kp__law_number T) (B__law_number T) .nil pass0 (pa_cons (pv 2) pa_nil)))
      (pss_cons (ps_set (i := 6) sc__law_asked.nd rfl (Or.inl rfl) (pe_call (ok__law_take T) (hr.mono (by decide)) rfl (g__law_take T) (kp__law_take T) (B__law_take T) .nil pass0 (pa_cons (pv 2) (pa_cons pe_int pa_nil))))
      (pss_cons (ps_if (pt_cmpR op_lt (pv 6) pe_int (nomark _)) (pss_one (ps_set (i := 5) sc__law_asked.nd rfl (Or.inl rfl) (pe_op op_add (pe_call (ok__law_power T) (hr.mono (by decide)) rfl (g__law_power T) (kp__law_power T) (B__law_power T) .nil pass0 (pa_cons (pv 3) (pa_cons (pv 5) (pa_cons (pv 1) pa_nil)))) (pe_op op_mulW (pv 3) (pe_op op_sub (pe_call (ok__law_take T) (hr.mono (by decide)) rfl (g__law_take T) (kp__law_take T) (B__law_take T) .nil pass0 (pa_cons (pv 2) (pa_cons pe_int pa_nil))) pe_int))))) pss_nil)
      (pss_cons (ps_if (pt_cmpR op_eq (pv 6) pe_int (nomark _)) (pss_one (ps_set (i := 5) sc__law_asked.nd rfl (Or.inl rfl) (pe_call (ok__law_power T) (hr.mono (by decide)) rfl (g__law_power T) (kp__law_power T) (B__law_power T) .nil pass0 (pa_cons (pv 3) (pa_cons (pe_op op_mulW (pv 5) (pe_ix ix_seq (pe_ix ix_seq (pv 0) (pe_call (ok__law_take T) (hr.mono (by decide)) rfl (g__law_take T) (kp__law_take T) (B__law_take T) .nil pass0 (pa_cons (pv 2) (pa_cons (pe_callB callLen rfl (T.fr (T.c.fact 62 rfl)) boot_len (pa_cons (pv 0) pa_nil)) pa_nil))) (fun _ _ => rfl)) pe_int (fun _ _ => rfl))) (pa_cons (pv 1) pa_nil)))))) pss_nil)
      (pss_one (ps_ret (pv 5))))))))), ?_⟩)
  · obtain ⟨n, D, s, ps, k, rfl, _⟩ := h; rfl
  · obtain ⟨n, D, s, ps, kk, rfl, hP, hpb, hpl0, hpl, hst, k⟩ := h
    have hpr := hP.prime
    have hW0 : ∀ z ∈ ps.map (·.2), 0 < z := fun z hz => by
      obtain ⟨x, hx, rfl⟩ := List.mem_map.mp hz
      have := (hpr x hx).1
      omega
    have hWb : M.prodN (ps.map (·.2)) ≤ 1000000000 ^ 5 := by
      have h1 := M.prodN_bd (l := ps.map (·.2)) (B := 1000000000) fun z hz => by
        obtain ⟨x, hx, rfl⟩ := List.mem_map.mp hz
        exact hpb x hx
      exact Nat.le_trans h1 (Nat.pow_le_pow_right (by decide) (by rw [List.length_map]; exact hpl))
    have hW5 : (1000000000 : Nat) ^ 5 < 2 ^ 200 := by decide
    walk_at "g"
    refine ⟨⟨_, SqL.of hP.1⟩, ?_⟩
    refine for_list (fun i σ H' => H' = H ∧ ∃ v4 v5 v6 : Option V, σ = [some (.ref D), some (.int (kk : Nat)), some (.ref s), some (.int (M.prodN ((ps.map (·.2)).take i) : Nat)), v4, v5, v6]) ⟨rfl, none, none, none, by rw [List.take_zero]; rfl⟩ (fun i σ H' _ I => by rw [I.1]; exact SqL.of hP.1) ?_ ?_
    · rintro i v σ H' hi ⟨rfl, v4, v5, v6, rfl⟩
      obtain ⟨t, p, hx, rfl⟩ := ps_get hi
      have hmem := List.mem_of_getElem? hx
      have hpB : p ≤ 1000000000 := hpb _ hmem
      obtain ⟨f, u, et⟩ := (hP.2 _ hmem).first
      have et : H' t = some (.tup [.int (p : Nat), .int (f : Nat), .ref u]) := et
      have h2 := M.prodN_take hW0 i
      have hpi : (ps.map (·.2))[i]? = some p := by rw [List.getElem?_map, hx]; rfl
      walk_at "g"
      refine s_ixT (SqT.of et) (atI0 0 rfl rfl) ?_
      walk_at "g"
      try refine s_i (mulW (by omega) (by omega)) ?_
      walk_at "g"
      exact ⟨rfl, _, _, _, by rw [take_more hpi, M.prodN_snoc]; push_cast; rfl⟩
    rintro σ H' ⟨rfl, v4, v5, v6, rfl⟩
    rw [List.length_map, List.take_of_length_le (l := ps.map (·.2)) (by rw [List.length_map]; exact Nat.le_refl _)]
    have hWp := M.prodN_pos hW0
    generalize M.prodN (ps.map (·.2)) = W at hWb hWp ⊢
    walk_at "g"
    refine ⟨s, rfl, hst, fun a1 H1 ha1 st1 s1 => ?_⟩
    walk_at "g"
    refine ⟨s, 4, rfl, by decide, by decide, st1, fun y H2 y0 y1 st2 s2 => ?_⟩
    have S2 := s1.trans s2
    have net : ∀ {H' : Hp} {l : Addr} {zs : List V}, StAt H' s → H' l = some (.tup zs) → l ≠ s := fun ⟨_, _, e, _⟩ h z => by rw [z, e] at h; cases h
    have nel : ∀ {H' : Hp} {l : Addr} {zs : List V}, StAt H' s → H' l = some (.lst zs) → l ≠ s := fun ⟨_, _, e, _⟩ h z => by rw [z, e] at h; cases h
    walk_at "g"
    refine s_ite (fun c1 => ?_) (fun c1 => ?_)
    · walk_at "g"
      refine ⟨((W : Nat) : Int), a1, kk, rfl, by omega, by omega, ?_⟩
      have hr := M.pw_range (n := ((W : Nat) : Int)) (by omega) a1 kk
      generalize M.pw ((W : Nat) : Int) a1 kk = r at hr ⊢
      walk_at "g"
      refine ⟨s, 2001, rfl, by decide, by decide, st2, fun z H3 z0 z1 st3 s3 => ?_⟩
      walk_at "g"
      try refine s_i (mulW (by omega) (by omega)) ?_
      walk_at "g"
      refine s_itN (by omega) ?_
      walk_at "g"
      exact k _ H3 st3 (S2.trans s3)
    · walk_at "g"
      refine s_ite (fun c2 => ?_) (fun c2 => ?_)
      · walk_at "g"
        refine s_lenL (SqL.of (S2 _ _ (nel hst hP.1) hP.1)) ?_
        rw [List.length_map]
        walk_at "g"
        refine ⟨s, ps.length, rfl, by omega, by omega, st2, fun z H3 z0 z1 st3 s3 => ?_⟩
        obtain ⟨j, rfl⟩ := Int.eq_ofNat_of_zero_le z0
        obtain ⟨⟨t, p⟩, hx⟩ : ∃ x, ps[j]? = some x := ⟨_, List.getElem?_eq_getElem (by omega)⟩
        have hmem := List.mem_of_getElem? hx
        have hpB : p ≤ 1000000000 := hpb _ hmem
        obtain ⟨f, u, et⟩ := (hP.2 _ hmem).first
        have et : H' t = some (.tup [.int (p : Nat), .int (f : Nat), .ref u]) := et
        have S3 := S2.trans s3
        walk_at "g"
        refine s_ixL (SqL.of (S3 _ _ (nel hst hP.1) hP.1)) (atI0 j rfl (by rw [List.getElem?_map, hx]; rfl)) ?_
        walk_at "g"
        refine s_ixT (SqT.of (S3 _ _ (net hst et) et)) (atI0 0 rfl rfl) ?_
        walk_at "g"
        try refine s_i (mulW (by omega) (by omega)) ?_
        walk_at "g"
        refine ⟨((W : Nat) : Int), a1 * (p : Int), kk, rfl, by omega, by omega, ?_⟩
        walk_at "g"
        exact k _ H3 st3 S3
      · walk_at "g"
        exact k _ H2 st2 S2

/-- the law -/
def sp_law (K : PySem.W.Frag) : Sp := fun vs H Q _ => ∃ (a : Addr) (ns : List Int), vs = [.ref a] ∧ ns.length ≤ 63 ∧ SqL K H a (ns.map V.int) ∧ ∀ H', Q (.bl true) H'
theorem ok_law (T : Txt K mg) : FnOk P w K mg base CX0 151 (He.ga K "law") (fd_law T) ["_law_script"] (sp_law K) := by
  refine (F_law T).ok sc_law (fun vs H Q E h => ?_) (fun cdv A outer s H vs Q E hr h => ⟨_, PSs.nox (pss_cons (ps_set (i := 1) sc_law.nd rfl (Or.inl rfl) (pe_cmpR op_eq (pe_op op_mod (pe_call (ok__law_cell_at T) (hr.mono (by decide)) rfl (g__law_cell_at T) (kp__law_cell_at T) (B__law_cell_at T) .nil pass0 (pa_cons (pv 0) (pa_cons pe_int pa_nil))) pe_int) pe_int (nomark _)))
      (pss_cons ((ps_setLc (i := 2) (own := [("_law_p", 6)]) (tt := tYes) rfl sc_law.nd rfl rfl (sw_true rfl rfl rfl rfl) (pi_list (pe_call (ok__law_primes T) (hr.mono (by decide)) rfl (g__law_primes T) (kp__law_primes T) (B__law_primes T) .nil pass0 (pa_cons (pe_call (ok__law_state T) (hr.mono (by decide)) rfl (g__law_state T) (kp__law_state T) (B__law_state T) .nil pass0 (pa_cons (pe_call (ok__law_cell_at T) (hr.mono (by decide)) rfl (g__law_cell_at T) (kp__law_cell_at T) (B__law_cell_at T) .nil pass0 (pa_cons (pv 0) (pa_cons pe_int pa_nil))) (pa_cons (pv 1) pa_nil))) pa_nil))) (blkOk_by (N := N_law) (sc := defScope s_law) (by decide +kernel)) (fun _ _ _ _ _ => (pg_name (i := 6) sc_law.nd rfl (Or.inl rfl))) (fun _ _ _ _ _ => pts_nil) (fun _ _ _ _ _ => (pe_call (ok__law_paper T) (hr.mono (by decide)) rfl (g__law_paper T) (kp__law_paper T) (B__law_paper T) .nil pass0 (pa_cons (pv 6) pa_nil)))))
      (pss_cons (ps_for PassesOwn.never rfl (pi_list (pe_op op_cat (pe_slice sl_list (pv 0) (po_some pe_int) (po_some pe_int)) (pe_lst (pa_cons pe_int pa_nil)))) (pg_name (i := 3) sc_law.nd rfl (Or.inl rfl)) (pss_cons (ps_set (i := 4) sc_law.nd rfl (Or.inl rfl) (pe_call (ok__law_state T) (hr.mono (by decide)) rfl (g__law_state T) (kp__law_state T) (B__law_state T) .nil pass0 (pa_cons (pv 3) (pa_cons (pv 1) pa_nil))))
      (pss_cons (ps_set (i := 5) sc_law.nd rfl (Or.inl rfl) (pe_op op_add pe_int (pe_call (ok__law_take T) (hr.mono (by decide)) rfl (g__law_take T) (kp__law_take T) (B__law_take T) .nil pass0 (pa_cons (pv 4) (pa_cons (pe_ix ix_seq (pe_lst (pa_cons pe_int (pa_cons pe_int (pa_cons (pe_op op_pow pe_int pe_int) pa_nil)))) (pe_call (ok__law_take T) (hr.mono (by decide)) rfl (g__law_take T) (kp__law_take T) (B__law_take T) .nil pass0 (pa_cons (pv 4) (pa_cons pe_int pa_nil))) (fun _ _ => rfl)) pa_nil)))))
      (pss_one (ps_if (pt_not (pt_val (pe_call (ok__law_right T) (hr.mono (by decide)) rfl (g__law_right T) (kp__law_right T) (B__law_right T) .nil pass0 (pa_cons (pv 2) (pa_cons (pv 5) (pa_cons (pe_call (ok__law_asked T) (hr.mono (by decide)) rfl (g__law_asked T) (kp__law_asked T) (B__law_asked T) .nil pass0 (pa_cons (pv 2) (pa_cons (pv 5) (pa_cons (pv 4) pa_nil)))) (pa_cons (pv 4) pa_nil))))))) (pss_one (ps_ret pe_bl)) pss_nil)))))
      (pss_one (ps_ret pe_bl))))), ?_⟩)
  · obtain ⟨a, ns, rfl, _⟩ := h; rfl
  · obtain ⟨a, ns, rfl, hlen, hS, k⟩ := h
    walk_at "g"
    refine ⟨a, ns, 1, rfl, hS, fun z1 => ?_⟩
    walk_at "g"
    refine s_lc ?_
    walk_at "g"
    refine ⟨a, ns, 0, rfl, hS, fun z0 => ?_⟩
    walk_at "g"
    refine ⟨z0, _, rfl, fun s0 Hs0 nst0 ss0 sts0 => ?_⟩
    walk_at "g"
    refine ⟨s0, rfl, sts0, fun L C H1 srt hL hLl hL0 nC eC st1 s1 => ?_⟩
    walk_at "g"
    refine ⟨⟨_, SqL.of eC⟩, fun F hF => ?_⟩
    refine lc_list (fun i H' => Same H1 H' ∧ ∃ ps : List (Addr × Nat), H' F = some (.lst (ps.map fun x => V.ref x.1)) ∧ ps.map (·.2) = L.take i ∧ ∀ x ∈ ps, PaperAt 39 H' x.1 x.2) ⟨same_upd hF, [], upd_same, rfl, by simp⟩ (fun i H2 _ I => SqL.of (I.1 _ _ eC)) ?_ ?_
    · rintro i x H7 hi ⟨s7, ps, hF2, hps, hpp⟩
      obtain ⟨q, hq, rfl⟩ := nv_get hi
      have hqm := hL q (List.mem_of_getElem? hq)
      have hil := (List.getElem?_eq_some_iff.mp hq).1
      have hpl : ps.length = i := by
        have := congrArg List.length hps
        rw [List.length_map, List.length_take] at this
        omega
      walk_at "g"
      refine ⟨rfl, ?_⟩
      walk_at "g"
      refine ⟨q, rfl, hqm.1, by omega, by omega, fun t H8 ht s8 => ?_⟩
      refine ⟨_, s8 _ _ hF2, line2 (by rw [List.length_map]; omega), same_upd' (s7.trans s8) hF, ps ++ [(t, q)], ?_, ?_, fun x hx => ?_⟩
      · rw [upd_same, List.map_append]; rfl
      · rw [List.map_append, hps, take_more hq]; rfl
      · rcases List.mem_append.mp hx with z | z
        · exact ((hpp x z).same s8).upd (s8 _ _ hF2)
        · rw [List.mem_singleton.mp z]
          exact ht.upd (s8 _ _ hF2)
    rintro H2 ⟨s2, ps, hF2, hps, hpp⟩
    rw [nv_len, List.take_length] at hps
    have hpl : ps.length = L.length := by
      have := congrArg List.length hps
      rwa [List.length_map] at this
    have hpb : ∀ x ∈ ps, x.2 ≤ 1000000000 := fun x hx => by
      have h1 : x.2 ∈ L := by rw [← hps]; exact List.mem_map.mpr ⟨x, hx, rfl⟩
      have := (hL _ h1).2
      omega
    have hsr : (ps.map (·.2)).Pairwise (· < ·) := by rw [hps]; exact srt
    have S2 : Same H H2 := (SameB.same nst0 s1 ss0).trans s2
    have hS2 := S2.seq hS
    walk_at "g"
    refine mkSl hS2 fun l H3 hl hL3 s3 => ?_
    walk_at "g"
    refine mkL (by simp) fun l2 H4 hl2 hL4 s4 => ?_
    have zl := cutV_length (ns.map V.int) (some 2) (some 8)
    rw [List.length_map] at zl
    refine mkCat (s4 _ _ hL3) hL4 (by simp; omega) fun l3 H5 n5 e5 s5 => ?_
    have S5 := s3.trans (s4.trans s5)
    have hP5 : PapsAt 39 H5 F ps := ⟨S5 _ _ hF2, fun x hx => (hpp x hx).same S5⟩
    walk_at "g"
    refine ⟨⟨_, SqL.of e5⟩, ?_⟩
    refine for_list (fun i σ H' => Same H5 H' ∧ ∃ v3 v4 v5 v6 : Option V, σ = [some (.ref a), some (.bl (decide (z1 % 2 = 0))), some (.ref F), v3, v4, v5, v6]) ⟨Same.refl _, _, _, _, _, rfl⟩ (fun i σ H' _ I => SqL.of (I.1 _ _ e5)) ?_ ?_
    · rintro i x σ H6 hi ⟨s6, v3, v4, v5, v6, rfl⟩
      have hc : ∃ c, x = V.int c := by
        rcases List.mem_append.mp (get_mem hi) with z | z
        · obtain ⟨c, e, _⟩ := of_mem_ints (cutV_mem z)
          exact ⟨c, e⟩
        · exact ⟨0, by simpa using z⟩
      obtain ⟨c, rfl⟩ := hc
      have nes : ∀ {l s : Addr} {H' : Hp}, H' l = none → StAt H' s → l ≠ s := fun n ⟨_, _, e, _⟩ z => by rw [z, e] at n; cases n
      walk_at "g"
      refine ⟨c, _, rfl, fun s Hs nst ss sts => ?_⟩
      walk_at "g"
      refine mkL (by simp) fun q H7 nq eq s7 => ?_
      have hqs : q ≠ s := nes nq sts
      walk_at "g"
      refine ⟨s, 3, rfl, by decide, by decide, sts.same s7, fun y H8 y0 y1 st8 s8 => ?_⟩
      walk_at "g"
      refine s_pickN (P := fun z => 0 < z ∧ z ≤ 1000000000) [12, 1000, 1000000000] (s8 _ _ hqs eq) (by simp only [List.length_cons, List.length_nil]; omega) (by decide) fun m hm => ?_
      walk_at "g"
      refine ⟨s, m, rfl, hm.1, by omega, st8, fun z H9 z0 z1' st9 s9 => ?_⟩
      obtain ⟨z, rfl⟩ := Int.eq_ofNat_of_zero_le z0
      have sb9 : SameB s Hs H9 := (SameB.of s7).trans (s8.trans s9)
      have hPs : ∀ H', SameB s Hs H' → PapsAt 39 H' F ps := fun H' sb => by
        have hPHs := hP5.same (s6.trans ss)
        exact ⟨sb _ _ (fun z => by obtain ⟨_, _, e, _⟩ := sts; have h := hPHs.1; rw [z, e] at h; cases h) hPHs.1, fun x hx => (hPHs.2 x hx).sameB sts sb⟩
      walk_at "g"
      refine ⟨39, F, s, ps, 1 + z, by push_cast; rfl, hPs _ sb9, hpb, by omega, by omega, st9, fun a1 H10 st10 s10 => ?_⟩
      have sb10 := sb9.trans s10
      walk_at "g"
      refine ⟨39, F, s, ps, 1 + z, a1, by push_cast; rfl, hPs _ sb10, hpb, by omega, by omega, hsr, by omega, by omega, st10, fun H11 s11 => ?_⟩
      walk_at "g"
      exact ⟨s6.trans (SameB.same nst (sb10.trans s11) ss), _, _, _, _, rfl⟩
    · rintro σ H6 ⟨s6, v3, v4, v5, v6, rfl⟩
      walk_at "g"
      exact k H6
theorem law_end {K : PySem.W.Frag} {H : Hp} {a : Addr} {ns : List Int} (hl : ns.length ≤ 63) (hb : ∀ z ∈ ns, Builtin.Int.intBits z ≤ 1048576) (hS : SqL K H a (ns.map V.int)) : sp_law K [.ref a] H (fun v _ => v = .bl true) fun _ _ _ => False :=
  ⟨a, ns, rfl, hl, hS, fun _ => rfl⟩

theorem facts {h : Heap} {f : Addr} (X : K.In h) (G : h.Ns mainGlobals mg) (hfa : mg ("law" : Str) = some (.ref f)) (c : Told fa fn K) :
    ∃ fd : FuncData, (∀ (s : Shared) (v : Value), BindsTo s fd ⟨[v], []⟩ [("_law_script", v)]) ∧ ∀ base : Heap, K.In base → base.Ns mainGlobals mg → FnOk P w K mg base CX0 151 f fd ["_law_script"] (sp_law K) := by
  have T : Txt K mg := ⟨c, fun z => He.glo_ok X G z, fun z => He.free_ok X G z, fun z => He.int_ok X G z⟩
  have e := hfa.symm.trans (g_law T)
  cases e
  have b := FunD.bindsA (ps := ["_law_script"]) (F_law T) fun _ _ _ _ _ _ us hl => match us, hl with | [_], _ => rfl
  exact ⟨fd_law T, fun s v => b s [v] rfl, fun base _ _ => ok_law T⟩
end
end C
open PySem PySem.W PySem.Calls PyProof.Rows
set_option maxRecDepth 100000 in
set_option maxHeartbeats 0 in
theorem PySem.Challenge.cw_rootprime_k69_whole_roots_by_great_prime_holds : PySem.Challenge.rw_rootprime_k69_whole_roots_by_great_prime.Holds := by
  w_on; o_law
  refine HandSHeadRun.head_any (r := OpenLaw.row PySem.Challenge.rw_rootprime_k69_whole_roots_by_great_prime) (q := view (OpenLaw.row PySem.Challenge.rw_rootprime_k69_whole_roots_by_great_prime).prog [69]) (H := C.hk) (ob := C.ob) (M := 5800) (loose := ("taken" :: "divisor" :: "inverse" :: "power" :: "places_by" :: "place_of" :: "root_in" :: "one_root" :: "turned" :: "roots" :: "joined" :: "roots_by" :: "each_with_each" :: "roots_of" :: "is_whole" :: "is_row_of" :: "are_papers" :: "comes_to" :: "is_parting_paper" :: "is_prime_paper" :: "is_order" :: "are_wholes" :: "shows_turned" :: "shows_roots" :: "are_primes" :: "is_named" :: "is_below" :: "are_rising" :: "rests_by" :: "are_each_with_each" :: "shows_roots_of" :: "_law_cell_at" :: "_law_state" :: "_law_take" :: "_law_number" :: "_law_power" :: "_law_parted" :: "_law_paper" :: "_law_is_prime" :: "_law_primes" :: "_law_common" :: "_law_asked" :: "_law_due" :: "_law_told" :: "_law_is_row" :: "_law_are_all" :: "_law_by_one" :: "_law_every" :: "_law_too_many" :: "_law_right" :: "PrimeError" :: "NoInverse" :: "TooMany" :: "MOST_ROOTS_roots" :: "MOST_ROOTS_manyprimes" :: "MOST_ROOTS_upchecks" :: "MOST_PRIMES" :: "MOST_TOLD" :: [])) (d := HandSHeadRun.topDef (OpenLaw.row PySem.Challenge.rw_rootprime_k69_whole_roots_by_great_prime).prog 69) (kwd := []) C.ob_eq
    (by kernel_rfl) (fun s => by kernel_rfl) C.run (by kernel_rfl) (by kernel_rfl) (by kernel_rfl) (by rfl) (by first | assumption | decide +kernel) (by decide +kernel) ⟨rfl, rfl, rfl, rfl, rfl, by decide +kernel⟩ ?hw ?hc
  case hw => w_witness2
  case hc =>
    refine R.walk_ofEB (l := PySem.Challenge.rw_rootprime_k69_whole_roots_by_great_prime) (n := 63) (k := 151) (prm := "_law_script") (CX := fun w => L2.CX0) rfl (by decide) (by kernel_rfl) ⟨rfl, by decide, by decide⟩ ?F (fun _ _ _ _ _ z => z)
    intro w mg fa h Y G hmg0
    obtain ⟨K, KX, c⟩ := Y
    have hmg : mg ("law" : PySem.Str) = some (.ref fa) := by
      have e : (HandSHeadRun.topDef (OpenLaw.row PySem.Challenge.rw_rootprime_k69_whole_roots_by_great_prime).prog 69).name = ("law" : PySem.Str) := by kernel_rfl
      rw [← e]
      exact hmg0
    obtain ⟨fd, hb, hF⟩ := C.facts (P := (PySem.Challenge.rw_rootprime_k69_whole_roots_by_great_prime).prog) (w := w) KX G hmg c
    exact ⟨K, fd, (C.sp_law K), KX, hb, fun H a ns hl hbits hO hS => C.law_end hl hbits hS, hF⟩

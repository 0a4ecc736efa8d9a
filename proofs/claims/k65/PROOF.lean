import PyProof.Rows.All
import Wide.All
import OpenK.AllK
import Wide.FinOn
import HandS.ForMost
import HandS.ForExc
import HandS.Wide
import HandS.IsInst
import HandS.Style
import HandS.Flow
import HandS.Conv
import HandS.Defaults
import HandS.Head0
import HandS.Head1
import HandS.Head2
import HandS.HeadEnd
import HandS.HeadHook1
import HandS.HeadHook2
import HandS.EndBits
import HandS.ExcInit
import HandS.ExcField
import HandS.ExcOwn
import HandS.ExcIs
import HandS.TryOnly
import HandS.WordsExc
import HandS.ClsMeth
import HandS.HeadNt
import HandS.Steps
import HandS.Zip
import HandS.Walk
import HandS.Small
import HandS.NoneIn
import HandS.TryMany
import HandS.TupAny
import HandS.SortInts
import HandS.SetKeys
import HandS.Iter
import PyProof.DictMoreH
import HandS.DictTup
import HandS.TupLen
import HandS.Strs
import HandS.HotCalls
import HandS.CallSlots
import KE.GoesMore
import KE.DataFind
import HandS.SetFor
import KE.KDictZip
import PySem.Challenge.RW_rootprime_k65_whole_apart_and_together_a

set_option Elab.async false
set_option linter.all false
set_option maxRecDepth 100000
set_option maxHeartbeats 4000000
set_option exponentiation.threshold 5000

namespace R
open PySem PySem.Spec PyProof.Rows L2
/-! steps of a reading -/
section
variable {t u : TS} {D : Ends} {σ : L2.St} {H : Hp} {Q : VK} {te ta tb : TE} {g : TG} {i j : Nat} {v x y : V} {r : R2} {c c' : TT} {tl : TA} {QL : List V → Hp → Prop} {QB : Bool → Hp → Prop} {QS : L2.St → Hp → Prop} {a b : Int} {C : Int → Int → Prop} {f : Int → Int → V}
theorem s_seq (h : t { D with nx := u D } σ H) : tSeq t u D σ H := h
theorem s_asg (h : te σ H fun x H1 => g x σ H1 D.nx) : tAsg te g D σ H := h
theorem s_drop (h : te σ H fun _ H1 => D.nx σ H1) : tDrop te D σ H := h
theorem s_ret (h : te σ H D.rt) : tRet te D σ H := h
theorem s_next (h : D.nx σ H) : tNext D σ H := h
theorem s_if (h : c σ H fun b H1 => if b = true then t D σ H1 else u D σ H1) : tIfS c t u D σ H := h
theorem s_gname (h : QS (σ.set i (some v)) H) : gName i v σ H QS := h
theorem s_var (e : σ[i]? = some (some v)) (h : Q v H) : tVar i σ H Q := ⟨v, e, h⟩
theorem s_c (h : Q v H) : tC v σ H Q := h
theorem s_op (h : ta σ H fun x H1 => tb σ H1 fun y H2 => r x y H2 Q) : tOp r ta tb σ H Q := h
theorem s_un {r : V → Hp → VK → Prop} (h : ta σ H fun x H1 => r x H1 Q) : tUn r ta σ H Q := h
theorem s_i0 (h : Q (f a b) H) : rI0 f (.int a) (.int b) H Q := ⟨a, b, rfl, rfl, h⟩
theorem s_i (hc : C a b) (h : Q (f a b) H) : rI C f (.int a) (.int b) H Q := ⟨a, b, rfl, rfl, hc, h⟩
theorem s_u {f : Int → V} (h : Q (f a) H) : rU f (.int a) H Q := ⟨a, rfl, h⟩
theorem s_cons (h : te σ H fun x H1 => tl σ H1 fun xs H2 => QL (x :: xs) H2) : tCons te tl σ H QL := h
theorem s_nil (h : QL [] H) : tNil σ H QL := h
theorem s_test (h : ta σ H fun x H' => ∃ k, x = .bl k ∧ QB k H') : tTest ta σ H QB := h
theorem s_tB (h : ta σ H fun x H' => ∃ k, x = .bl k ∧ QB k H') : tB ta σ H QB := h
theorem s_bl {k : Bool} {P : Bool → Prop} (h : P k) : ∃ k', V.bl k = .bl k' ∧ P k' := ⟨k, rfl, h⟩
theorem s_andc (h : c σ H fun b H1 => if b = true then c' σ H1 QB else QB false H1) : tAnd c c' σ H QB := h
theorem s_orc (h : c σ H fun b H1 => if b = true then QB true H1 else c' σ H1 QB) : tOr c c' σ H QB := h
theorem s_notc (h : c σ H fun b H1 => QB (!b) H1) : tNot c σ H QB := h
theorem s_andv (h : ta σ H fun x H1 => ∃ c, x = .bl c ∧ if c = true then tb σ H1 Q else Q (.bl false) H1) : tAndV ta tb σ H Q := h
theorem s_orv (h : ta σ H fun x H1 => ∃ c, x = .bl c ∧ if c = true then Q (.bl true) H1 else tb σ H1 Q) : tOrV ta tb σ H Q := h
theorem s_notv (h : ta σ H fun x H1 => ∃ c, x = .bl c ∧ Q (.bl (!c)) H1) : tNotV ta σ H Q := h
theorem s_ifx {t : TT} (h : t σ H fun c H1 => if c = true then ta σ H1 Q else tb σ H1 Q) : tIf t ta tb σ H Q := h
theorem s_eqI (h : Q (.bl (decide (a = b))) H) : rEq (.int a) (.int b) H Q := ⟨rfl, by
  have e : decide (V.int a = V.int b) = decide (a = b) := by simp
  rw [e]; exact h⟩
theorem s_neI (h : Q (.bl (!decide (a = b))) H) : rNe (.int a) (.int b) H Q := ⟨rfl, by
  have e : decide (V.int a = V.int b) = decide (a = b) := by simp
  rw [e]; exact h⟩
theorem s_eqS {a b : Str} (h : Q (.bl (decide (a = b))) H) : rEq (.str a) (.str b) H Q := ⟨rfl, by
  have e : decide (V.str a = V.str b) = decide (a = b) := by simp
  rw [e]; exact h⟩
theorem s_neS {a b : Str} (h : Q (.bl (!decide (a = b))) H) : rNe (.str a) (.str b) H Q := ⟨rfl, by
  have e : decide (V.str a = V.str b) = decide (a = b) := by simp
  rw [e]; exact h⟩
theorem s_eqB {a b : Bool} (h : Q (.bl (decide (a = b))) H) : rEq (.bl a) (.bl b) H Q := ⟨rfl, by
  have e : decide (V.bl a = V.bl b) = decide (a = b) := by simp
  rw [e]; exact h⟩
theorem s_neB {a b : Bool} (h : Q (.bl (!decide (a = b))) H) : rNe (.bl a) (.bl b) H Q := ⟨rfl, by
  have e : decide (V.bl a = V.bl b) = decide (a = b) := by simp
  rw [e]; exact h⟩
def MkT (Q : VK) (xs : List V) (H : Hp) : Prop := xs.length ≤ sizeLine ∧ ∀ p, H p = none → Q (.ref p) (upd H p (.tup xs))
def MkL (Q : VK) (xs : List V) (H : Hp) : Prop := xs.length ≤ sizeLine ∧ ∀ p, H p = none → Q (.ref p) (upd H p (.lst xs))
theorem s_tup (h : tl σ H fun xs H1 => MkT Q xs H1) : tTup tl σ H Q := h
theorem s_lst (h : tl σ H fun xs H1 => MkL Q xs H1) : tLst tl σ H Q := h
theorem len_le {α : Type} {xs : List α} (h : xs.length ≤ 1000) : xs.length ≤ sizeLine := Nat.le_of_lt (small1000 h)
theorem s_par (h : tl σ H fun vs H1 => ∃ v w, vs = [v, w] ∧ D.nx ((σ.set i (some v)).set j (some w)) H1) : tPar i j tl D σ H := h
theorem s_par_ {P : V → V → Prop} (h : P x y) : ∃ v w, [x, y] = [v, w] ∧ P v w := ⟨x, y, rfl, h⟩
theorem s_par3 {l : Nat} (h : tl σ H fun vs H1 => ∃ u v w, vs = [u, v, w] ∧ D.nx (((σ.set i (some u)).set j (some v)).set l (some w)) H1) : tPar3 i j l tl D σ H := h
theorem s_par3_ {z : V} {P : V → V → V → Prop} (h : P x y z) : ∃ u v w, [x, y, z] = [u, v, w] ∧ P u v w := ⟨x, y, z, rfl, h⟩
theorem s_cb {r : List V → Hp → VK → Prop} (h : tl σ H fun vs H1 => r vs H1 Q) : tCB r tl σ H Q := h
theorem s_call {sp : Sp} {dvs : List V} {E : XK} (h : tl σ H fun vs H1 => sp (vs ++ dvs) H1 Q E) : tCall sp dvs E tl σ H Q := h
theorem s_callS {sp : Sp} {E : L2.St → XK} (h : tl σ H fun vs H1 => sp vs H1 Q (E σ)) : tCallS sp E tl σ H Q := h
theorem s_chain {r' : R2} {tc : TE} (h : ta σ H fun x H1 => tb σ H1 fun y H2 => r x y H2 fun z H3 => ∃ k, z = .bl k ∧ (if k = true then tc σ H3 fun w' H4 => r' y w' H4 Q else Q (.bl false) H3)) : tChain r r' ta tb tc σ H Q := h
theorem s_iteT {A B : Prop} (h : A) : if true = true then A else B := by rw [if_pos rfl]; exact h
theorem s_iteF {A B : Prop} (h : B) : if false = true then A else B := by rw [if_neg Bool.false_ne_true]; exact h
theorem s_iteNT {A B : Prop} (h : B) : if (!true) = true then A else B := h
theorem s_iteNF {A B : Prop} (h : A) : if (!false) = true then A else B := h
theorem s_ite {A B p : Prop} [Decidable p] (h1 : p → A) (h2 : ¬p → B) : if decide p = true then A else B := by
  by_cases h : p
  · rw [decide_eq_true h, if_pos rfl]; exact h1 h
  · rw [decide_eq_false h, if_neg Bool.false_ne_true]; exact h2 h
theorem s_iten {A B p : Prop} [Decidable p] (h1 : ¬p → A) (h2 : p → B) : if (!decide p) = true then A else B := by
  by_cases h : p
  · rw [decide_eq_true h]; exact s_iteF (h2 h)
  · rw [decide_eq_false h]; exact s_iteT (h1 h)
theorem s_iteb {A B : Prop} {b : Bool} (h1 : b = true → A) (h2 : b = false → B) : if b = true then A else B := by
  cases b
  · exact s_iteF (h2 rfl)
  · exact s_iteT (h1 rfl)
theorem s_itP {A B p : Prop} [Decidable p] (hp : p) (h : A) : if decide p = true then A else B := s_ite (fun _ => h) fun n => absurd hp n
theorem s_itN {A B p : Prop} [Decidable p] (hp : ¬p) (h : B) : if decide p = true then A else B := s_ite (fun n => absurd n hp) fun _ => h
theorem s_itnP {A B p : Prop} [Decidable p] (hp : p) (h : B) : if (!decide p) = true then A else B := s_iten (fun n => absurd hp n) fun _ => h
theorem s_itnN {A B p : Prop} [Decidable p] (hp : ¬p) (h : A) : if (!decide p) = true then A else B := s_iten (fun _ => h) fun n => absurd n hp
theorem s_btT {p : Prop} [Decidable p] {P : Bool → Prop} (hp : p) (h : P true) : P (decide p) := by rw [decide_eq_true hp]; exact h
theorem s_btF {p : Prop} [Decidable p] {P : Bool → Prop} (hp : ¬p) (h : P false) : P (decide p) := by rw [decide_eq_false hp]; exact h
theorem s_ixL {K : PySem.W.Frag} {p : Addr} {xs : List V} {n : Int} (h1 : SqL K H p xs) (h2 : atI xs n = some v) (h : Q v H) : rIx K (.ref p) (.int n) H Q := .inl ⟨p, xs, n, v, rfl, rfl, h1, h2, h⟩
theorem s_ixT {K : PySem.W.Frag} {p : Addr} {xs : List V} {n : Int} (h1 : SqT K H p xs) (h2 : atI xs n = some v) (h : Q v H) : rIx K (.ref p) (.int n) H Q := .inr (.inl ⟨p, xs, n, v, rfl, rfl, h1, h2, h⟩)
theorem s_isi {K : PySem.W.Frag} {a b : String} {bb : Bool} (ht : TyOf K H x (.type a)) (hk : kitB a b = some bb) (h : Q (.bl bb) H) : rIsi K [x, .ty b] H Q := ⟨x, .ty b, .type a, .type b, bb, rfl, .ty b, .base ht, kit_ty hk, h⟩
theorem kb_ii : kitB "int" "int" = some true := by decide +kernel
theorem kb_ib : kitB "int" "bool" = some false := by decide +kernel
theorem kb_bi : kitB "bool" "int" = some true := by decide +kernel
theorem kb_bb : kitB "bool" "bool" = some true := by decide +kernel
theorem kb_tt : kitB "tuple" "tuple" = some true := by decide +kernel
theorem kb_ll : kitB "list" "list" = some true := by decide +kernel
theorem kb_ti : kitB "tuple" "int" = some false := by decide +kernel
theorem kb_tl : kitB "tuple" "list" = some false := by decide +kernel
theorem kb_lt : kitB "list" "tuple" = some false := by decide +kernel
theorem kb_li : kitB "list" "int" = some false := by decide +kernel
theorem kb_ni : kitB "NoneType" "int" = some false := by decide +kernel
theorem s_isi_ii {K : PySem.W.Frag} (h : Q (.bl true) H) : rIsi K [.int a, .ty "int"] H Q := s_isi (.int a) kb_ii h
theorem s_isi_ib {K : PySem.W.Frag} (h : Q (.bl false) H) : rIsi K [.int a, .ty "bool"] H Q := s_isi (.int a) kb_ib h
theorem s_p10 {n : Nat} (h : Q (.int (10 ^ n)) H) (hn : n ≤ 1000 := by decide) : rI CPow (fun i j => V.int (i ^ j.toNat)) (.int 10) (.int (n : Int)) H Q :=
  ⟨10, n, rfl, rfl, ⟨by omega, by omega, by decide⟩, h⟩
theorem s_pow {e : Int} {n : Nat} (he : e = n) (hn : n ≤ 1000) (ha : a.natAbs < 2 ^ 64) (h : Q (.int (a ^ n)) H) : rI CPow (fun i j => V.int (i ^ j.toNat)) (.int a) (.int e) H Q :=
  ⟨a, e, rfl, rfl, ⟨by omega, by omega, ha⟩, by subst he; exact h⟩
theorem s_p10_4 (h : Q (.int (10 ^ 4)) H) : rI CPow (fun i j => V.int (i ^ j.toNat)) (.int 10) (.int 4) H Q := s_p10 (n := 4) h
theorem s_p10_5 (h : Q (.int (10 ^ 5)) H) : rI CPow (fun i j => V.int (i ^ j.toNat)) (.int 10) (.int 5) H Q := s_p10 (n := 5) h
theorem s_p10_6 (h : Q (.int (10 ^ 6)) H) : rI CPow (fun i j => V.int (i ^ j.toNat)) (.int 10) (.int 6) H Q := s_p10 (n := 6) h
theorem s_p10_8 (h : Q (.int (10 ^ 8)) H) : rI CPow (fun i j => V.int (i ^ j.toNat)) (.int 10) (.int 8) H Q := s_p10 (n := 8) h
theorem s_p10_9 (h : Q (.int (10 ^ 9)) H) : rI CPow (fun i j => V.int (i ^ j.toNat)) (.int 10) (.int 9) H Q := s_p10 (n := 9) h
theorem s_p10_12 (h : Q (.int (10 ^ 12)) H) : rI CPow (fun i j => V.int (i ^ j.toNat)) (.int 10) (.int 12) H Q := s_p10 (n := 12) h
theorem s_p10_18 (h : Q (.int (10 ^ 18)) H) : rI CPow (fun i j => V.int (i ^ j.toNat)) (.int 10) (.int 18) H Q := s_p10 (n := 18) h
theorem s_p10_29 (h : Q (.int (10 ^ 29)) H) : rI CPow (fun i j => V.int (i ^ j.toNat)) (.int 10) (.int 29) H Q := s_p10 (n := 29) h
theorem s_p10_30 (h : Q (.int (10 ^ 30)) H) : rI CPow (fun i j => V.int (i ^ j.toNat)) (.int 10) (.int 30) H Q := s_p10 (n := 30) h
theorem s_p10_39 (h : Q (.int (10 ^ 39)) H) : rI CPow (fun i j => V.int (i ^ j.toNat)) (.int 10) (.int 39) H Q := s_p10 (n := 39) h
theorem s_p10_40 (h : Q (.int (10 ^ 40)) H) : rI CPow (fun i j => V.int (i ^ j.toNat)) (.int 10) (.int 40) H Q := s_p10 (n := 40) h
theorem s_p10_49 (h : Q (.int (10 ^ 49)) H) : rI CPow (fun i j => V.int (i ^ j.toNat)) (.int 10) (.int 49) H Q := s_p10 (n := 49) h
theorem s_p10_50 (h : Q (.int (10 ^ 50)) H) : rI CPow (fun i j => V.int (i ^ j.toNat)) (.int 10) (.int 50) H Q := s_p10 (n := 50) h
theorem s_p10_51 (h : Q (.int (10 ^ 51)) H) : rI CPow (fun i j => V.int (i ^ j.toNat)) (.int 10) (.int 51) H Q := s_p10 (n := 51) h
theorem s_p10_58 (h : Q (.int (10 ^ 58)) H) : rI CPow (fun i j => V.int (i ^ j.toNat)) (.int 10) (.int 58) H Q := s_p10 (n := 58) h
theorem s_p10_59 (h : Q (.int (10 ^ 59)) H) : rI CPow (fun i j => V.int (i ^ j.toNat)) (.int 10) (.int 59) H Q := s_p10 (n := 59) h
theorem s_p10_60 (h : Q (.int (10 ^ 60)) H) : rI CPow (fun i j => V.int (i ^ j.toNat)) (.int 10) (.int 60) H Q := s_p10 (n := 60) h
theorem s_pow7 (ha : a.natAbs < 2 ^ 64) (h : Q (.int (a ^ 7)) H) : rI CPow (fun i j => V.int (i ^ j.toNat)) (.int a) (.int 7) H Q := s_pow (n := 7) rfl (by decide) ha h
theorem s_pickN {K : PySem.W.Frag} {p : Addr} {n : Int} {P : Int → Prop} (ns : List Int) (hp : H p = some (.lst (ns.map V.int))) (hn : 0 ≤ n ∧ n < ns.length) (ha : ∀ z ∈ ns, P z) (h : ∀ z, P z → Q (.int z) H) : rIx K (.ref p) (.int n) H Q := by
  obtain ⟨k, rfl⟩ := Int.eq_ofNat_of_zero_le hn.1
  have hk : k < ns.length := by omega
  exact s_ixL (SqL.of hp) (atI_nat (j := k) (v := .int ns[k]) (by rw [List.getElem?_map, List.getElem?_eq_getElem hk]; rfl)) (h _ (ha _ (List.getElem_mem hk)))
theorem s_pick2 {K : PySem.W.Frag} {p : Addr} {n : Int} {P : Int → Prop} (hp : H p = some (.lst [.int a, .int b])) (hn : 0 ≤ n ∧ n < 2) (ha : P a) (hb : P b) (h : ∀ z, P z → Q (.int z) H) : rIx K (.ref p) (.int n) H Q := by
  have e : n = 0 ∨ n = 1 := by omega
  rcases e with rfl | rfl
  · exact s_ixL (SqL.of hp) (atI_nat (j := 0) rfl) (h a ha)
  · exact s_ixL (SqL.of hp) (atI_nat (j := 1) rfl) (h b hb)
theorem s_andJ {b c : Bool} (hc : ∀ Q' : VK, Q' (.bl c) H → tb σ H Q') (h : Q (.bl (b && c)) H) : if b = true then tb σ H Q else Q (.bl false) H := by
  cases b
  · exact s_iteF h
  · exact s_iteT (hc _ h)
theorem s_orJ {b c : Bool} (hc : ∀ Q' : VK, Q' (.bl c) H → tb σ H Q') (h : Q (.bl (b || c)) H) : if b = true then Q (.bl true) H else tb σ H Q := by
  cases b
  · exact s_iteF (hc _ h)
  · exact s_iteT h
theorem s_blT {p : Prop} [Decidable p] (hp : p) (h : Q (.bl true) H) : Q (.bl (decide p)) H := by rw [decide_eq_true hp]; exact h
theorem s_blF {p : Prop} [Decidable p] (hp : ¬p) (h : Q (.bl false) H) : Q (.bl (decide p)) H := by rw [decide_eq_false hp]; exact h
theorem s_sl {r : V → Option Int → Option Int → Hp → VK → Prop} {tlo thi : TO} (h : te σ H fun x H1 => tlo σ H1 fun l H2 => thi σ H2 fun u H3 => r x l u H3 Q) : L2.tSl r te tlo thi σ H Q := h
theorem s_nopart {QO : Option Int → Hp → Prop} (h : QO none H) : tNoPart σ H QO := h
theorem s_part {QO : Option Int → Hp → Prop} (h : te σ H fun x H1 => ∃ i, x = .int i ∧ QO (some i) H1) : tPart te σ H QO := h
theorem s_int_ {P : Int → Prop} (h : P a) : ∃ i, V.int a = .int i ∧ P i := ⟨a, rfl, h⟩
theorem s_slL {K : PySem.W.Frag} {p : Addr} {xs : List V} {lo hi : Option Int} (hs : SqL K H p xs) (h : ∀ l, H l = none → Q (.ref l) (upd H l (.lst (cutV xs lo hi)))) : rSlL K (.ref p) lo hi H Q := ⟨p, xs, rfl, hs, h⟩
theorem s_for {wi : TI} {tb : TS} (h : wi σ H fun J H1 => ∃ W : Nat → Nat → L2.St → Hp → Prop, (∃ m, W 0 m σ H1) ∧ ∀ i m σ H, W i m σ H →
  (J.stop i H ∧ D.nx σ H) ∨ (J.go i H ∧ ∃ N : L2.St → Hp → Prop, (∀ σ' H', N σ' H' → ∃ m', m' < m ∧ W (i + 1) m' σ' H') ∧ ∀ x H', J.yld i H x H' → g x σ H' fun σ2 H2 => tb { D with nx := N, ct := N, bk := D.nx } σ2 H2)) : tFor wi g tb D σ H := h
theorem s_ilist {K : PySem.W.Frag} {RI : It → Hp → Prop} (h : te σ H fun x H1 => ∃ a, x = .ref a ∧ (∃ xs, SqL K H1 a xs) ∧ RI (Itl K a) H1) : iList K te σ H RI := h
theorem s_itup {K : PySem.W.Frag} {RI : It → Hp → Prop} (h : te σ H fun x H1 => ∃ a, x = .ref a ∧ (∃ xs, SqT K H1 a xs) ∧ RI (Itt K a) H1) : iTup K te σ H RI := h
theorem s_ref_ {p : Addr} {P : Addr → Prop} (h : P p) : ∃ i, V.ref p = .ref i ∧ P i := ⟨p, rfl, h⟩
theorem s_join (P : L2.St → Hp → Prop) (h1 : ∀ σ' H', P σ' H' → D.nx σ' H') (h2 : ∀ N : L2.St → Hp → Prop, (∀ σ' H', P σ' H' → N σ' H') → tIfS c t u { D with nx := N } σ H) : tIfS c t u D σ H := h2 D.nx h1
theorem s_yes (h : QB true H) : tYes σ H QB := h
theorem s_gtup {K : PySem.W.Frag} {n : Nat} {t : TGs} {p : Addr} {xs : List V} (h1 : SqT K H p xs) (h2 : xs.length = n) (h : t xs σ H QS) : gTup K n t (.ref p) σ H QS := ⟨p, xs, rfl, h1, h2, h⟩
theorem s_gcons {t : TG} {u : TGs} {r : List V} (h : t v σ H fun σ' H' => u r σ' H' QS) : gCons t u (v :: r) σ H QS := ⟨v, r, rfl, h⟩
theorem s_gnil (h : QS σ H) : gNil [] σ H QS := ⟨rfl, h⟩
theorem s_append {p : Addr} {xs : List V} (hp : H p = some (.lst xs)) (hl : xs.length < sizeLine) (h : Q .non (upd H p (.lst (xs ++ [x])))) : rAppend (.ref p) [x] H Q := ⟨p, xs, x, rfl, rfl, hp, hl, h⟩
theorem s_tyL {K : PySem.W.Frag} {p : Addr} {xs : List V} (hp : H p = some (.lst xs)) : tyV K "list" (.ref p) H := Or.inl ⟨rfl, _, Or.inl (Or.inl hp)⟩
theorem s_bm {K : PySem.W.Frag} {T : String} {r : V → List V → Hp → VK → Prop} (h : ta σ H fun x H1 => tyV K T x H1 ∧ tl σ H1 fun xs H2 => r x xs H2 Q) : tBM K T r ta tl σ H Q := h
end
/-! rules by name -/
def rAbs : List V → Hp → VK → Prop := fun xs H Q => ∃ i, xs = [.int i] ∧ Q (.int (if i < 0 then -i else i)) H
def rMax2 : List V → Hp → VK → Prop := fun xs H Q => ∃ i j, xs = [.int i, .int j] ∧ Q (.int (if j > i then j else i)) H
def rMin2 : List V → Hp → VK → Prop := fun xs H Q => ∃ i j, xs = [.int i, .int j] ∧ Q (.int (if j < i then j else i)) H
def rLenS (K : PySem.W.Frag) : List V → Hp → VK → Prop := fun xs H Q => ∃ p ys, xs = [.ref p] ∧ (SqL K H p ys ∨ SqT K H p ys) ∧ Q (.int ys.length) H
def rTupOf (K : PySem.W.Frag) : List V → Hp → VK → Prop := fun xs H Q => ∃ p ys, xs = [.ref p] ∧ ((SqL K H p ys ∧ ∀ l, H l = none → Q (.ref l) (upd H l (.tup ys))) ∨ (SqT K H p ys ∧ Q (.ref p) H))
def rLstOf (K : PySem.W.Frag) : List V → Hp → VK → Prop := fun xs H Q => ∃ p ys, xs = [.ref p] ∧ (SqL K H p ys ∨ SqT K H p ys) ∧ ∀ l, H l = none → Q (.ref l) (upd H l (.lst ys))
def rInt1 : List V → Hp → VK → Prop := fun xs H Q => (∃ i, xs = [.int i] ∧ Q (.int i) H) ∨ ∃ k, xs = [.bl k] ∧ Q (.int (if k then 1 else 0)) H
def rIns : V → List V → Hp → VK → Prop := fun x vs H Q => ∃ (l : Addr) (xs : List V) (i : Int) (y : V), x = .ref l ∧ vs = [.int i, y] ∧ H l = some (.lst xs) ∧ xs.length < sizeLine ∧ 0 ≤ i ∧ i < 2 ^ 63 ∧ Q .non (upd H l (.lst (xs.take i.toNat ++ [y] ++ xs.drop i.toNat)))
section
variable {X : Cx}
theorem mtIns : MtR X "list.insert" rIns := mt_insert
theorem callInt1 : CallR X (.type "int") rInt1 := call_int1
theorem callAbs : CallR X (.builtin "abs") rAbs := call_abs
theorem callMax2 (hc : X.calm = true) : CallR X (.builtin "max") rMax2 := call_max2 hc
theorem callMin2 (hc : X.calm = true) : CallR X (.builtin "min") rMin2 := call_min2 hc
theorem callLen : CallR X (.builtin "len") (rLenS X.K) := call_len_seq
theorem callTup : CallR X (.type "tuple") (rTupOf X.K) := call_tuple_of
theorem callLst : CallR X (.type "list") (rLstOf X.K) := call_list_of
end
section
variable {H : Hp} {Q : VK} {a b : Int} {K : PySem.W.Frag} {p : Addr} {xs : List V}
theorem s_intB {k : Bool} (h : Q (.int (if k then 1 else 0)) H) : rInt1 [.bl k] H Q := .inr ⟨k, rfl, h⟩
theorem s_abs (h : Q (.int (if a < 0 then -a else a)) H) : rAbs [.int a] H Q := ⟨a, rfl, h⟩
theorem s_max (h : Q (.int (if b > a then b else a)) H) : rMax2 [.int a, .int b] H Q := ⟨a, b, rfl, h⟩
theorem s_min (h : Q (.int (if b < a then b else a)) H) : rMin2 [.int a, .int b] H Q := ⟨a, b, rfl, h⟩
theorem s_ins0 {y : V} (hp : H p = some (.lst xs)) (hl : xs.length < sizeLine) (h : Q .non (upd H p (.lst (y :: xs)))) : rIns (.ref p) [.int 0, y] H Q := ⟨p, xs, 0, y, rfl, rfl, hp, hl, by decide, by decide, h⟩
theorem s_lenL (hs : SqL K H p xs) (h : Q (.int xs.length) H) : rLenS K [.ref p] H Q := ⟨p, xs, rfl, .inl hs, h⟩
theorem s_lenT (hs : SqT K H p xs) (h : Q (.int xs.length) H) : rLenS K [.ref p] H Q := ⟨p, xs, rfl, .inr hs, h⟩
theorem s_tupL (hs : SqL K H p xs) (h : ∀ l, H l = none → Q (.ref l) (upd H l (.tup xs))) : rTupOf K [.ref p] H Q := ⟨p, xs, rfl, .inl ⟨hs, h⟩⟩
theorem s_lstL (hs : SqL K H p xs) (h : ∀ l, H l = none → Q (.ref l) (upd H l (.lst xs))) : rLstOf K [.ref p] H Q := ⟨p, xs, rfl, .inl hs, h⟩
theorem s_lstT (hs : SqT K H p xs) (h : ∀ l, H l = none → Q (.ref l) (upd H l (.lst xs))) : rLstOf K [.ref p] H Q := ⟨p, xs, rfl, .inr hs, h⟩
end
/-! heaps -/
theorem same_upd {H : Hp} {p : Addr} {o : HO} (h : H p = none) : Same H (upd H p o) := fun b u e => by rw [upd_ne (ne_of_none e h)]; exact e
theorem same_upd' {H H' : Hp} {p : Addr} {o : HO} (s : Same H H') (h : H p = none) : Same H (upd H' p o) := fun b u e => by rw [upd_ne (ne_of_none e h)]; exact s b u e
theorem same_new {H H' : Hp} {p : Addr} {o : HO} (s : Same H H') (h : H' p = none) : Same H (upd H' p o) := s.trans (same_upd h)
theorem Same.none {H H' : Hp} (s : Same H H') {p : Addr} (h : H' p = none) : H p = none := s.free h
theorem atI0 {α : Type} {xs : List α} {v : α} {n : Int} (k : Nat) (hn : n = k) (h : xs[k]? = some v) : atI xs n = some v := by subst hn; exact atI_nat h
theorem cutV_mem {xs : List V} {lo hi : Option Int} {x : V} (h : x ∈ cutV xs lo hi) : x ∈ xs := List.mem_of_mem_drop (List.mem_of_mem_take h)
theorem get_mem {xs : List V} {i : Nat} {x : V} (h : xs[i]? = some x) : x ∈ xs := List.mem_of_getElem? h
theorem of_mem_ints {ns : List Int} {x : V} (h : x ∈ ns.map V.int) : ∃ c, x = .int c ∧ c ∈ ns := by
  obtain ⟨c, h1, h2⟩ := List.mem_map.mp h
  exact ⟨c, h2.symm, h1⟩
section
variable {H : Hp} {Q : VK} {K : PySem.W.Frag} {p : Addr} {xs : List V}
theorem mkT (hl : xs.length ≤ 1000) (h : ∀ p H', H p = none → H' p = some (.tup xs) → Same H H' → Q (.ref p) H') : MkT Q xs H := ⟨len_le hl, fun p hp => h p _ hp upd_same (same_upd hp)⟩
theorem mkL (hl : xs.length ≤ 1000) (h : ∀ p H', H p = none → H' p = some (.lst xs) → Same H H' → Q (.ref p) H') : MkL Q xs H := ⟨len_le hl, fun p hp => h p _ hp upd_same (same_upd hp)⟩
theorem mkCat {q : Addr} {zs : List V} (h1 : H p = some (.lst xs)) (h2 : H q = some (.lst zs)) (hl : xs.length + zs.length ≤ 1000) (h : ∀ l H', H l = none → H' l = some (.lst (xs ++ zs)) → Same H H' → Q (.ref l) H') : rCat (.ref p) (.ref q) H Q := ⟨p, q, xs, zs, rfl, rfl, h1, h2, Nat.le_trans hl (Nat.le_of_lt (small1000 (Nat.le_refl _))), fun l hl => h l _ hl upd_same (same_upd hl)⟩
theorem mkSlT {lo hi : Option Int} (hs : SqT K H p xs) (hn : ¬ (HT.sIx xs.length 0 lo = 0 ∧ HT.sIx xs.length xs.length hi = xs.length)) (h : ∀ l H', H l = none → H' l = some (.tup (cutV xs lo hi)) → Same H H' → Q (.ref l) H') : rSlT K (.ref p) lo hi H Q := ⟨p, xs, rfl, hs, hn, fun l hl => h l _ hl upd_same (same_upd hl)⟩
theorem mkSl {lo hi : Option Int} (hs : SqL K H p xs) (h : ∀ l H', H l = none → H' l = some (.lst (cutV xs lo hi)) → Same H H' → Q (.ref l) H') : rSlL K (.ref p) lo hi H Q := s_slL hs fun l hl => h l _ hl upd_same (same_upd hl)
end
theorem s_eqD {K : PySem.W.Frag} {H : Hp} {Q : VK} {x y : V} (d e : PyData) (hd : Dp K H x d) (he : Dp K H y e) (h1 : SeqAt.shaped d = true) (h2 : SeqAt.shaped e = true) (h : Q (.bl (PyData.eqv d e)) H) : rEqD K x y H Q := ⟨d, e, hd, he, h1, h2, h⟩
theorem s_neD {K : PySem.W.Frag} {H : Hp} {Q : VK} {x y : V} (d e : PyData) (hd : Dp K H x d) (he : Dp K H y e) (h1 : SeqAt.shaped d = true) (h2 : SeqAt.shaped e = true) (h : Q (.bl (!PyData.eqv d e)) H) : rNeD K x y H Q := ⟨d, e, hd, he, h1, h2, h⟩
theorem dp_tup1 {K : PySem.W.Frag} {H : Hp} {p : Addr} {a : Int} (h : H p = some (.tup [.int a])) : Dp K H (.ref p) (.tuple [.int a]) := .tup (SqT.of h) (.cons (.int a) .nil)
theorem dp_tup2 {K : PySem.W.Frag} {H : Hp} {p : Addr} {a b : Int} (h : H p = some (.tup [.int a, .int b])) : Dp K H (.ref p) (.tuple [.int a, .int b]) := .tup (SqT.of h) (.cons (.int a) (.cons (.int b) .nil))
theorem atI_neg1 {α : Type} {xs : List α} {v : α} (h : xs.getLast? = some v) : atI xs (-1) = some v := by
  rcases List.eq_nil_or_concat xs with e | ⟨ys, y, e⟩
  · subst e; simp at h
  · rw [List.concat_eq_append] at e
    subst e
    rw [List.getLast?_concat] at h
    cases h
    exact atI_last ys v
/-! all stands but what lies at one place -/
def SameB (p : Addr) (H H' : Hp) : Prop := ∀ b o, b ≠ p → H b = some o → H' b = some o
theorem SameB.refl (p : Addr) (H : Hp) : SameB p H H := fun _ _ _ h => h
theorem SameB.trans {p : Addr} {H H1 H2 : Hp} (a : SameB p H H1) (b : SameB p H1 H2) : SameB p H H2 := fun c o n h => b c o n (a c o n h)
theorem SameB.of {p : Addr} {H H1 : Hp} (a : Same H H1) : SameB p H H1 := fun c o _ h => a c o h
theorem SameB.put {p : Addr} {H : Hp} {o : HO} : SameB p H (upd H p o) := fun c u n h => by rw [upd_ne n]; exact h
theorem SameB.same {p : Addr} {H H1 H2 : Hp} (n : H p = none) (a : SameB p H1 H2) (s : Same H H1) : Same H H2 := fun c o h => a c o (ne_of_none h n) (s c o h)
theorem SameB.updn {p l : Addr} {H H' : Hp} {o : HO} (h : SameB p H H') (n : H l = none) : SameB p H (upd H' l o) := fun b u hb e => by rw [upd_ne (ne_of_none e n)]; exact h b u hb e
theorem ixN_nat {n d : Nat} (h : d < n) : ixN n (d : Int) = some d := by
  unfold ixN
  rw [if_pos (by omega), if_pos (by omega)]; simp
/-! ranges -/
section
variable {H : Hp} {σ : L2.St} {ta : TA} {RI : It → Hp → Prop}
def RngQ1 (RI : It → Hp → Prop) (vs : List V) (H : Hp) : Prop := ∃ j : Int, vs = [.int j] ∧ -(2 ^ 62) ≤ j ∧ j < 2 ^ 62 ∧ RI (Itr 0 j.toNat) H
def RngQ2 (RI : It → Hp → Prop) (vs : List V) (H : Hp) : Prop := ∃ i j : Int, vs = [.int i, .int j] ∧ (-(2 ^ 62) ≤ i ∧ i < 2 ^ 62 ∧ -(2 ^ 62) ≤ j ∧ j < 2 ^ 62) ∧ RI (Itr i (j - i).toNat) H
theorem s_rng1 (h : ta σ H fun vs H1 => RngQ1 RI vs H1) : iRng1 ta σ H RI := h
theorem s_rng2 (h : ta σ H fun vs H1 => RngQ2 RI vs H1) : iRng2 ta σ H RI := h
theorem mkR1 {j : Int} (n : Nat) (e : j.toNat = n) (h1 : -(2 ^ 62) ≤ j) (h2 : j < 2 ^ 62) (h : RI (Itr 0 n) H) : RngQ1 RI [.int j] H := ⟨j, rfl, h1, h2, by rw [e]; exact h⟩
theorem mkR2 {i j : Int} (n : Nat) (e : (j - i).toNat = n) (h1 : -(2 ^ 62) ≤ i ∧ i < 2 ^ 62 ∧ -(2 ^ 62) ≤ j ∧ j < 2 ^ 62) (h : RI (Itr i n) H) : RngQ2 RI [.int i, .int j] H := ⟨i, j, rfl, h1, by rw [e]; exact h⟩
end
section
variable {to ti : TE} {t : TSet} {v : V} {σ : L2.St} {H : Hp} {QS : L2.St → Hp → Prop} {p : Addr} {xs : List V} {k : Int} {QH : Hp → Prop}
theorem s_gsub (h : to σ H fun o H1 => ti σ H1 fun i H2 => t o i v H2 fun H3 => QS σ H3) : gSub to ti t v σ H QS := h
theorem s_setL (j : Nat) (hp : H p = some (.lst xs)) (hj : ixN xs.length k = some j) (h : QH (upd H p (.lst (xs.set j v)))) : rSetL (.ref p) (.int k) v H QH := ⟨p, xs, k, j, rfl, rfl, hp, hj, h⟩
end
/-! dicts -/
section
variable {H : Hp} {Q : VK} {p : Addr} {kvs : List (Key × V)} {k : Key} {v : V} {td ty tv : TE} {σ : L2.St} {D : Ends}
def DGetQ (Q : VK) (x y : V) (H : Hp) : Prop := ∃ a v, x = .ref a ∧ DGet H a y (some v) ∧ Q v H
theorem s_dget (h : td σ H fun x H1 => ty σ H1 fun y H2 => DGetQ Q x y H2) : tDGet td ty σ H Q := h
theorem s_dgetS {x : Str} (hd : H p = some (.dK kvs)) (hv : valV kvs (.inr x) = some v) (h : Q v H) : DGetQ Q (.ref p) (.str x) H := ⟨p, v, rfl, by rw [← hv]; exact DGet.k (k := .inr x) hd, h⟩
theorem s_dgetI {i : Int} (hd : H p = some (.dK kvs)) (hv : valV kvs (.inl i) = some v) (h : Q v H) : DGetQ Q (.ref p) (.int i) H := ⟨p, v, rfl, by rw [← hv]; exact DGet.k (k := .inl i) hd, h⟩
def DispQ (Q : VK) (p : Addr) (ps : List (V × V)) (H2 : Hp) : Prop := H2 p = some (.dK []) ∧ ∃ kvs : List (Key × V), ps = kvs.map (fun kv => (kV kv.1, kv.2)) ∧ kvs.length ≤ 15 ∧ Q (.ref p) (upd H2 p (.dK (mergeK [] kvs)))
theorem s_disp {trs : List (TE × TE)} (h : ∀ p H1, H p = none → H1 p = some (.dK []) → Same H H1 → tPairs trs σ H1 fun ps H2 => DispQ Q p ps H2) : tDisp trs σ H Q := fun p hp => h p _ hp upd_same (same_upd hp)
theorem s_pn {QP : List (V × V) → Hp → Prop} (h : QP [] H) : tPairs [] σ H QP := h
theorem s_pc {tk : TE} {r : List (TE × TE)} {QP : List (V × V) → Hp → Prop} (h : tk σ H fun x H1 => tv σ H1 fun y H2 => tPairs r σ H2 fun ps H3 => QP ((x, y) :: ps) H3) : tPairs ((tk, tv) :: r) σ H QP := h
theorem mkDisp {ps : List (V × V)} (kvs : List (Key × V)) (hd : H p = some (.dK [])) (e : ps = kvs.map (fun kv => (kV kv.1, kv.2))) (hl : kvs.length ≤ 15) (h : ∀ H', H' p = some (.dK (mergeK [] kvs)) → (∀ H0, H0 p = none → Same H0 H → Same H0 H') → Q (.ref p) H') : DispQ Q p ps H :=
  ⟨hd, kvs, e, hl, h _ upd_same fun H0 n s => same_upd' s n⟩
def DPutQ (P : Hp → Prop) (x y v : V) (H3 : Hp) : Prop := ∃ a H4, x = .ref a ∧ DPut H3 a y v H4 ∧ P H4
theorem s_dput (h : tv σ H fun v H1 => td σ H1 fun x H2 => ty σ H2 fun y H3 => DPutQ (D.nx σ) x y v H3) : sDPut td ty tv D σ H := h
theorem s_dputS {P : Hp → Prop} {x : Str} (hd : H p = some (.dK kvs)) (hl : kvs.length < sizeLine) (h : P (upd H p (.dK (putK kvs (.inr x) v)))) : DPutQ P (.ref p) (.str x) v H := ⟨p, _, rfl, DPut.k (k := .inr x) hd hl, h⟩
theorem s_dputI {P : Hp → Prop} {i : Int} (hd : H p = some (.dK kvs)) (hl : kvs.length < sizeLine) (h : P (upd H p (.dK (putK kvs (.inl i) v)))) : DPutQ P (.ref p) (.int i) v H := ⟨p, _, rfl, DPut.k (k := .inl i) hd hl, h⟩
end
mutual
theorem eqv_refl : ∀ d : PyData, PyData.canLay0 d = true → PyData.eqv d d = true
  | .none, _ => by simp [PyData.eqv]
  | .bool b, _ => by simp [PyData.eqv]
  | .int i, _ => by simp [PyData.eqv]
  | .str x, _ => by simp [PyData.eqv]
  | .list xs, h => by simp only [PyData.eqv]; exact eqv_refls xs (by simpa [PyData.canLay0] using h)
  | .tuple xs, h => by simp only [PyData.eqv]; exact eqv_refls xs (by simpa [PyData.canLay0] using h)
  | .dict _, h => by simp [PyData.canLay0] at h
theorem eqv_refls : ∀ ds : List PyData, PyData.canLayAll0 ds = true → PyData.eqvAll ds ds = true
  | [], _ => by simp [PyData.eqvAll]
  | d :: ds, h => by
    simp only [PyData.canLayAll0, Bool.and_eq_true] at h
    simp only [PyData.eqvAll, Bool.and_eq_true]
    exact ⟨eqv_refl d h.1, eqv_refls ds h.2⟩
end
theorem layAll {ds : List PyData} (h : ∀ d ∈ ds, PyData.canLay0 d = true) : PyData.canLayAll0 ds = true := by
  induction ds with
  | nil => simp [PyData.canLayAll0]
  | cons d ds ih =>
    simp only [PyData.canLayAll0, Bool.and_eq_true]
    exact ⟨h d (by simp), ih fun e he => h e (by simp [he])⟩
theorem depAll {ds : List PyData} {n : Nat} (h : ∀ d ∈ ds, PyData.depth d ≤ n) : PyData.depthAll ds ≤ n := by
  induction ds with
  | nil => simp [PyData.depthAll]
  | cons d ds ih =>
    simp only [PyData.depthAll]
    exact Nat.max_le.mpr ⟨h d (by simp), ih fun e he => h e (by simp [he])⟩
theorem shapedL {ds : List PyData} (h : ∀ d ∈ ds, PyData.canLay0 d = true ∧ PyData.depth d ≤ 63) : SeqAt.shaped (.list ds) = true := by
  unfold SeqAt.shaped
  simp only [PyData.canLay0, PyData.depth, Bool.and_eq_true]
  exact ⟨layAll fun d hd => (h d hd).1, decide_eq_true (Nat.succ_le_succ (depAll fun d hd => (h d hd).2))⟩
theorem shapedT {ds : List PyData} (h : ∀ d ∈ ds, PyData.canLay0 d = true ∧ PyData.depth d ≤ 63) : SeqAt.shaped (.tuple ds) = true := by
  unfold SeqAt.shaped
  simp only [PyData.canLay0, PyData.depth, Bool.and_eq_true]
  exact ⟨layAll fun d hd => (h d hd).1, decide_eq_true (Nat.succ_le_succ (depAll fun d hd => (h d hd).2))⟩
theorem eqv_shaped {d : PyData} (h : SeqAt.shaped d = true) : PyData.eqv d d = true := eqv_refl d (SeqAt.canLay_of_shaped h)
theorem in_ints (a : Int) (ns : List Int) : inV (.int a) (ns.map V.int) = decide (a ∈ ns) := by
  unfold inV
  induction ns with
  | nil => simp
  | cons n ns ih =>
    rw [List.map_cons, List.any_cons, ih]
    simp only [eqV, List.mem_cons]
    by_cases h : a = n
    · subst h; simp
    · simp [h, Ne.symm h]
theorem flat_ints (ns : List Int) : (ns.map V.int).all flatV = true := by simp [flatV]
theorem s_inL {K : PySem.W.Frag} {H : Hp} {Q : VK} {p : Addr} {a : Int} {ns : List Int} (hp : H p = some (.lst (ns.map V.int))) (h : Q (.bl (decide (a ∈ ns))) H) : rIn K false (.int a) (.ref p) H Q :=
  ⟨p, ns.map V.int, rfl, .inl (SqL.of hp), rfl, flat_ints ns, by rw [if_neg Bool.false_ne_true, in_ints]; exact h⟩
theorem s_notInL {K : PySem.W.Frag} {H : Hp} {Q : VK} {p : Addr} {a : Int} {ns : List Int} (hp : H p = some (.lst (ns.map V.int))) (h : Q (.bl (!decide (a ∈ ns))) H) : rIn K true (.int a) (.ref p) H Q :=
  ⟨p, ns.map V.int, rfl, .inl (SqL.of hp), rfl, flat_ints ns, by rw [if_pos rfl, in_ints]; exact h⟩
theorem paired_mono {α β : Type} {F G : α → β → Prop} (h : ∀ a b, F a b → G a b) : ∀ {xs : List α} {ys : List β}, Paired F xs ys → Paired G xs ys
  | _, _, .nil => .nil
  | _, _, .cons f r => .cons (h _ _ f) (paired_mono h r)
theorem paired_take {α β : Type} {F : α → β → Prop} : ∀ {xs : List α} {ys : List β} (n : Nat), Paired F xs ys → Paired F (xs.take n) (ys.take n)
  | _, _, 0, _ => by simp; exact .nil
  | _, _, _ + 1, .nil => .nil
  | _, _, n + 1, .cons f r => .cons f (paired_take n r)
theorem s_isiT2 {K : PySem.W.Frag} {H : Hp} {Q : VK} {x : V} {tp : Addr} {a b1 b2 : String} {r1 r2 : Bool} (ht : H tp = some (.tup [.ty b1, .ty b2])) (tx : TyOf K H x (.type a)) (k1 : kitB a b1 = some r1) (k2 : kitB a b2 = some r2) (h : Q (.bl (r1 || r2)) H) : rIsiT K [x, .ref tp] H Q :=
  ⟨x, tp, [.ty b1, .ty b2], .type a, [.type b1, .type b2], r1 || r2, rfl, ht, .cons (.ty b1) (.cons (.ty b2) .nil), .base tx,
    kitAny_cons (kit_ty k1) (fun e => kitAny_cons (kit_ty k2) (fun e2 => by rw [e, e2]; exact kitAny_nil) (fun e2 => by rw [e2]; simp)) (fun e => by rw [e]; rfl), h⟩
theorem s_isiT2F {K : PySem.W.Frag} {H : Hp} {Q : VK} {x : V} {tp : Addr} {a b1 b2 : String} (ht : H tp = some (.tup [.ty b1, .ty b2])) (tx : TyOf K H x (.type a)) (k1 : kitB a b1 = some false) (k2 : kitB a b2 = some false) (h : Q (.bl false) H) : rIsiT K [x, .ref tp] H Q := s_isiT2 ht tx k1 k2 h
theorem kb_nl : kitB "NoneType" "list" = some false := by decide +kernel
theorem kb_nt : kitB "NoneType" "tuple" = some false := by decide +kernel
theorem kb_nb : kitB "NoneType" "bool" = some false := by decide +kernel
theorem kb_il : kitB "int" "list" = some false := by decide +kernel
theorem kb_it : kitB "int" "tuple" = some false := by decide +kernel
theorem kb_bl : kitB "bool" "list" = some false := by decide +kernel
theorem kb_bt : kitB "bool" "tuple" = some false := by decide +kernel
theorem lookup1 {f : Str} {v : V} : List.lookup f [(f, v)] = some v := by simp [List.lookup]
theorem s_xf {a C d : Addr} {f : Str} {v : V} {i : Nat} {σ : L2.St} {H : Hp} {Q : VK} (e : σ[i]? = some (some (.ref a))) (hx : H d = some (.xd [(f, v)])) (h : Q v H) : tXf a (.ref C) (some d) C f (tVar i) σ H Q := ⟨_, e, rfl, rfl, d, _, v, rfl, hx, lookup1, h⟩
/-- a list (or tuple) of tuples -/
abbrev TupsIn (H : Hp) : List V → List (List V) → Prop := Paired fun (x : V) (r : List V) => ∃ t, x = .ref t ∧ H t = some (.tup r)
theorem TupsIn.same {H H' : Hp} (s : Same H H') : ∀ {xs : List V} {rs : List (List V)}, TupsIn H xs rs → TupsIn H' xs rs
  | _, _, .nil => .nil
  | _, _, .cons ⟨t, e, h⟩ r => .cons ⟨t, e, s _ _ h⟩ (TupsIn.same s r)
theorem TupsIn.upd {H : Hp} {p : Addr} {o : HO} {zs : List V} (hp : H p = some (.lst zs)) : ∀ {xs : List V} {rs : List (List V)}, TupsIn H xs rs → TupsIn (L2.upd H p o) xs rs
  | _, _, .nil => .nil
  | _, _, .cons ⟨t, e, h⟩ r => .cons ⟨t, e, by rw [upd_ne (fun z => by rw [z, hp] at h; cases h)]; exact h⟩ (TupsIn.upd hp r)
theorem paired_snoc {α β : Type} {F : α → β → Prop} {x : α} {y : β} : ∀ {xs : List α} {ys : List β}, Paired F xs ys → F x y → Paired F (xs ++ [x]) (ys ++ [y])
  | _, _, .nil, f => .cons f .nil
  | _, _, .cons a r, f => .cons a (paired_snoc r f)
theorem paired_set {α β : Type} {F : α → β → Prop} {x : α} {y : β} : ∀ {xs : List α} {ys : List β} (j : Nat), Paired F xs ys → F x y → Paired F (xs.set j x) (ys.set j y)
  | _, _, _, .nil, _ => .nil
  | _, _, 0, .cons _ r, f => .cons f r
  | _, _, j + 1, .cons a r, f => .cons a (paired_set j r f)
theorem TupsIn.app {H H1 : Hp} {l t : Addr} {xs r : List V} {rs : List (List V)} (hl : H l = some (.lst xs)) (ht : TupsIn H xs rs) (s : Same H H1) (nt : H t = none) (et : H1 t = some (.tup r)) :
    TupsIn (L2.upd H1 l (.lst (xs ++ [.ref t]))) (xs ++ [.ref t]) (rs ++ [r]) :=
  paired_snoc (TupsIn.upd (s _ _ hl) (ht.same s)) ⟨t, rfl, by rw [upd_ne (ne_of_none hl nt).symm]; exact et⟩
theorem TupsIn.put {H H1 : Hp} {l t : Addr} {xs r : List V} {rs : List (List V)} (j : Nat) (hl : H l = some (.lst xs)) (ht : TupsIn H xs rs) (s : Same H H1) (nt : H t = none) (et : H1 t = some (.tup r)) :
    TupsIn (L2.upd H1 l (.lst (xs.set j (.ref t)))) (xs.set j (.ref t)) (rs.set j r) :=
  paired_set j (TupsIn.upd (s _ _ hl) (ht.same s)) ⟨t, rfl, by rw [upd_ne (ne_of_none hl nt).symm]; exact et⟩
theorem take_more {α : Type} {xs : List α} {i : Nat} {x : α} (h : xs[i]? = some x) : xs.take (i + 1) = xs.take i ++ [x] := by
  rw [List.take_succ, h]; rfl
theorem pget {α β : Type} {F : α → β → Prop} : ∀ {xs : List α} {ys : List β} {i : Nat} {x : α}, Paired F xs ys → xs[i]? = some x → ∃ y, ys[i]? = some y ∧ F x y
  | _, _, _, _, .nil, e => by simp at e
  | _, _, 0, _, .cons f _, e => by simp at e; subst e; exact ⟨_, rfl, f⟩
  | _, _, i + 1, x, .cons _ r, e => by
    obtain ⟨y, h1, h2⟩ := pget (i := i) r (by simpa using e)
    exact ⟨y, by simpa using h1, h2⟩
theorem pget' {α β : Type} {F : α → β → Prop} : ∀ {xs : List α} {ys : List β} {i : Nat} {y : β}, Paired F xs ys → ys[i]? = some y → ∃ x, xs[i]? = some x ∧ F x y
  | _, _, _, _, .nil, e => by simp at e
  | _, _, 0, _, .cons f _, e => by simp at e; subst e; exact ⟨_, rfl, f⟩
  | _, _, i + 1, x, .cons _ r, e => by
    obtain ⟨y, h1, h2⟩ := pget' (i := i) r (by simpa using e)
    exact ⟨y, by simpa using h1, h2⟩
theorem s_isN {H : Hp} {Q : VK} (h : Q (.bl true) H) : L2.rIsN .non .non H Q := ⟨rfl, by rw [decide_eq_true rfl]; exact h⟩
theorem s_isNi {H : Hp} {Q : VK} {i : Int} (h : Q (.bl false) H) : L2.rIsN (.int i) .non H Q := ⟨rfl, by rw [decide_eq_false (by intro z; cases z)]; exact h⟩
def RgQ (Q : VK) (x y : V) (H : Hp) : Prop := ∃ i j, x = .int i ∧ y = .int j ∧ RgOk i j ∧ ∀ q, H q = none → Q (.ref q) (upd H q (.lst (rgV i j)))
theorem s_bm0 {K : PySem.W.Frag} {T : String} {r : V → List V → Hp → VK → Prop} {ta : TE} {σ : L2.St} {H : Hp} {Q : VK} (h : ta σ H fun x H1 => tyV K T x H1 ∧ r x [] H1 Q) : tBM0 K T r ta σ H Q := h
theorem s_lrg2 {ta tb : TE} {σ : L2.St} {H : Hp} {Q : VK} (h : ta σ H fun x H1 => tb σ H1 fun y H2 => RgQ Q x y H2) : tLstRg (tRg2 ta tb) σ H Q := h
theorem s_lc {wi : TI} {g : TG} {tt : TT} {te : TE} {vs : List Nat} {σ : L2.St} {H : Hp} {Q : VK} (h : wi σ H fun J H1 => tLc (fun _ _ R => R J H1) g tt te vs σ H1 Q) : tLc wi g tt te vs σ H Q := h
theorem call_isiK (K : PySem.W.Frag) {X : Cx} (h : X.K = K) : CallR X (.builtin "isinstance") (rIsi K) := h ▸ call_isi
theorem ix_seqK (K : PySem.W.Frag) {X : Cx} (h : X.K = K) : IxR X (rIx K) := h ▸ ix_seq
theorem s_isNb {H : Hp} {Q : VK} {i : Bool} (h : Q (.bl false) H) : L2.rIsN (.bl i) .non H Q := ⟨rfl, by rw [decide_eq_false (by intro z; cases z)]; exact h⟩
theorem s_isNr {H : Hp} {Q : VK} {i : Addr} (h : Q (.bl false) H) : L2.rIsN (.ref i) .non H Q := ⟨rfl, by rw [decide_eq_false (by intro z; cases z)]; exact h⟩
theorem s_notN {H : Hp} {Q : VK} (h : Q (.bl false) H) : L2.rNotN .non .non H Q := ⟨rfl, by rw [decide_eq_true rfl]; exact h⟩
theorem s_notNi {H : Hp} {Q : VK} {i : Int} (h : Q (.bl true) H) : L2.rNotN (.int i) .non H Q := ⟨rfl, by rw [decide_eq_false (by intro z; cases z)]; exact h⟩
theorem s_notNr {H : Hp} {Q : VK} {i : Addr} (h : Q (.bl true) H) : L2.rNotN (.ref i) .non H Q := ⟨rfl, by rw [decide_eq_false (by intro z; cases z)]; exact h⟩
theorem fn_or {P : Program} {w : World} {K : PySem.W.Frag} {mg : Str → Option Value} {base : Heap} {CX : CXT} {k : Nat} {f : Addr} {fd : FuncData} {ps : List Str} {sp sp1 sp2 : Sp} (F1 : FnOk P w K mg base CX k f fd ps sp1) (F2 : FnOk P w K mg base CX k f fd ps sp2)
    (h : ∀ vs H Q E, sp vs H Q E → sp1 vs H Q E ∨ sp2 vs H Q E) : FnOk P w K mg base CX k f fd ps sp :=
  ⟨fun vs H Q E q => (h vs H Q E q).elim (F1.len vs H Q E) (F2.len vs H Q E), fun A outer s H args us vs Q E hr he hb hv hs => (h vs H Q E hs).elim (F1.run A outer s H args us vs Q E hr he hb hv) (F2.run A outer s H args us vs Q E hr he hb hv)⟩
/-! loops -/
section
variable {c : TT} {tb : TS} {D : Ends} {σ : L2.St} {H : Hp}
/-- the int in a slot -/
def iv (σ : L2.St) (i : Nat) : Int := match σ[i]? with
  | some (some (V.int r)) => r
  | _ => 0
def WW (Pv : L2.St → Hp → Prop) (μ : L2.St → Hp → Nat) : Nat → L2.St → Hp → Prop := fun m σ H => m = μ σ H ∧ Pv σ H
theorem s_while (Pv : L2.St → Hp → Prop) (μ : L2.St → Hp → Nat) (h0 : Pv σ H)
    (hs : ∀ σ H, Pv σ H → c σ H fun b H1 => if b = true then ∃ N : L2.St → Hp → Prop, (∀ σ' H', N σ' H' → ∃ m', m' < μ σ H ∧ WW Pv μ m' σ' H') ∧ tb { D with nx := N, ct := N, bk := D.nx } σ H1 else D.nx σ H1) : tWhile c tb D σ H :=
  ⟨WW Pv μ, ⟨_, rfl, h0⟩, fun m σ H ⟨e, p⟩ => by subst e; exact hs σ H p⟩
theorem s_turn {Pv : L2.St → Hp → Prop} {μ : L2.St → Hp → Nat} {m : Nat} (h : tb { D with nx := fun σ' H' => Pv σ' H' ∧ μ σ' H' < m, ct := fun σ' H' => Pv σ' H' ∧ μ σ' H' < m, bk := D.nx } σ H) :
    ∃ N : L2.St → Hp → Prop, (∀ σ' H', N σ' H' → ∃ m', m' < m ∧ WW Pv μ m' σ' H') ∧ tb { D with nx := N, ct := N, bk := D.nx } σ H := ⟨_, fun σ' H' p => ⟨_, p.2, rfl, p.1⟩, h⟩
end
/-! numbers -/
def CDivF (_ j : Int) : Prop := j ≠ 0 ∧ j.natAbs.log2 < 9000
section
variable {X : Cx}
theorem op_divF : OpR X (binaryOp .FloorDiv) (rI CDivF fun i j => .int (i.fdiv j)) := opI fun _ _ _ _ _ _ _ hc q => floordiv_int hc.1 q (.inl (PyProof.noPylong_of_log2 hc.2))
end
theorem divW {a j : Int} (h : 0 < j) (h2 : j.natAbs < 2 ^ 2000) : CDivW a j := wide_div h h2 (by decide) (by decide)
theorem divF {a j : Int} (h : j ≠ 0) (h2 : j.natAbs < 2 ^ 2000) : CDivF a j := ⟨h, Nat.lt_of_lt_of_le (PySem.Flt.log2_lt_of (by decide) h2) (by decide)⟩
theorem mulW {a b : Int} (h1 : a.natAbs < 2 ^ 2000) (h2 : b.natAbs < 2 ^ 2000) : CMulW a b := wide_mul h1 h2 (by decide) (by decide) (by decide)
/-- a law over a head by facts: its last step, the script's sizes told -/
theorem walk_ofEB {l : PySem.W.OpenLaw} {n k : Nat} {qv : Program} {ls : List Str} {XP : (Str → Option Value) → Heap → Prop} {YP : World → Heap → Prop} {dr : DefRec} {CX : World → CXT} {prm : Str}
    (hmost : l.most = some n) (hline : n ≤ sizeLine) (hnod : dr.params.defaults = []) (room : Room k callerA)
    (F : ∀ (w : World) (mg : Str → Option Value) (fa : Addr) (hp : Heap), YP w hp → hp.Ns mainGlobals mg → mg dr.name = some (.ref fa) →
      ∃ (Kf : PySem.W.Frag) (fdt : FuncData) (sp : Sp), Kf.In hp ∧ (∀ (s : Shared) (u : Value), BindsTo s fdt ⟨[u], []⟩ [(prm, u)]) ∧
        (∀ (H : Hp) (a : Addr) (ns : List Int), ns.length ≤ n → (∀ z ∈ ns, Builtin.Int.intBits z ≤ 1048576) → Only H → SqL Kf H a (ns.map V.int) → sp [.ref a] H (fun v _ => v = .bl true) fun _ _ _ => False) ∧
        ∀ base : Heap, Kf.In base → base.Ns mainGlobals mg → FnOk l.prog w Kf mg base (CX w) k fa fdt [prm] sp)
    (none_out : ∀ (w : World) (H : Hp) (s : Shared) (e : Value) (s' : Shared), CX w [] H s (fun _ _ _ => False) e s' → False) :
    PySem.W.WalkO qv ls XP YP l.row.toRowW dr [] (fun f vs => PySem.call f vs) := by
  refine Att.attach_callB hmost hnod fun w s₀ s₁ mg _ fa _ _ _ _ a _ ns G Y _ _ _ gN ob1 xis len bits run => ?_
  obtain ⟨Kf, fdt, sp, kin, bnd, last, fok⟩ := F w mg fa _ Y G.T.g gN
  exact law_call kin G.T.g G.T.b G.T.builtins G.T.nolimit run ob1 xis (Nat.le_trans len hline) room fok bnd (fun H only sq => last H a ns len bits only sq) fun H e s' => none_out w H s₁ e s'
theorem cx0_no {P : Program} (w : World) (H : Hp) (s : Shared) (e : Value) (s' : Shared) (h : CX0 [] H s (fun _ _ _ => False) e s') : False := h
/-! what the head tells: facts as tests of the written part, defs at any address -/
abbrev FB := PySem.W.Frag → Bool
def toldR (fb : List FB) (fn : List He5.DefA) (K : PySem.W.Frag) : He.AlD := ((fb.all fun t => t K) && (fn.all fun e => e.ok K), fn.map fun e => He5.fnA K (e.at_ K))
def dueR (fn : List He5.DefA) : He.AlD := (true, fn.map He5.DefA.val)
def Told (fb : List FB) (fn : List He5.DefA) (K : PySem.W.Frag) : Prop := toldR fb fn K = dueR fn
def toldG (n : Nat) (fb : List FB) (fn : List He5.DefA) (g : Addr → Option Obj) : He.AlD := toldR fb fn (He.frG g (He5.asA g n))
def hookR (n : Nat) (fb : List FB) (fn : List He5.DefA) : PySem.W.Hook where
  α := He.AlD
  obs := fun st => toldG n fb fn st.heap.get?
  val := fun _ => dueR fn
  says := fun _ hp => ∃ Kf : PySem.W.Frag, Kf.In hp ∧ Told fb fn Kf
  of := fun _ _ eq => ⟨_, He.frG_in, eq⟩
  keeps := fun _ _ _ ⟨Kf, hin, tl⟩ kp => ⟨Kf, PySem.W.Frag.In.keeps hin kp, tl⟩
theorem toldG_eq {n : Nat} {fb : List FB} {fn : List He5.DefA} {g : Addr → Option Obj} {st : Shared} (h : ∀ a, g a = st.heap.get? a) : toldG n fb fn g = (hookR n fb fn).obs st := by
  have eg : g = st.heap.get? := funext h
  rw [eg] <;> rfl
theorem Told.fact {fb : List FB} {fn : List He5.DefA} {K : PySem.W.Frag} (tl : Told fb fn K) (i : Nat) {t : FB} (h : fb[i]? = some t := by rfl) : t K = true := by
  have e0 : ((fb.all fun t => t K) && (fn.all fun e => e.ok K)) = true := congrArg Prod.fst tl
  exact List.all_eq_true.mp (Bool.and_eq_true_iff.mp e0).1 t (List.mem_of_getElem? h)
theorem Told.dfn {fb : List FB} {fn : List He5.DefA} {K : PySem.W.Frag} (tl : Told fb fn K) (i : Nat) {e : He5.DefA} (h : fn[i]? = some e := by rfl) : ∃ fd, FunD K e.name e.qual e.params e.body e.scope (e.dvs K) (e.kws K) (e.at_ K) fd := by
  have e0 : ((fb.all fun t => t K) && (fn.all fun e => e.ok K)) = true := congrArg Prod.fst tl
  have e1 : fn.map (fun e => He5.fnA K (e.at_ K)) = fn.map He5.DefA.val := congrArg Prod.snd tl
  have e2 := congrArg (fun l => l[i]?) e1
  simp only [List.getElem?_map, h, Option.map_some] at e2
  exact He5.DefA.funD (Option.some.inj e2) (List.all_eq_true.mp (Bool.and_eq_true_iff.mp e0).2 e (List.mem_of_getElem? h))
/-! own exception classes whose __init__ calls their base's and keeps one field -/
def oexB (C : Addr) : FB := fun K => (match K.lookup C with
  | some ⟨.type tn, _, .cls cd, sl⟩ => (match cd.mro, sl.toList with
    | .ref C' :: bm, [_, _, _, _, some (.builtin n), _] => decide (tn = "type") && (C' == C && (decide (n = "ValueError.__new__") && (!cd.hasDel && (cd.hasDict && PySem.HandSPX.refsVE bm))))
    | _, _ => false)
  | _ => false) && (decide (PySem.W.findIn K (.ref C) "__setattr__" = some (some (.builtin "object.__setattr__"))) && (decide (PySem.W.subIn K (.ref C) (.type "BaseException") = some true) && (decide (PySem.W.typeIn K (.ref C) = some (.type "type")) && PySem.W.keepIn K (.ref C))))
theorem oex_of {K : PySem.W.Frag} {C : Addr} (h : oexB C K = true) : OexC K C := by
  unfold oexB at h
  simp only [Bool.and_eq_true, decide_eq_true_eq] at h
  obtain ⟨h1, h2, h3, h4, h5⟩ := h
  refine ⟨?_, h2, h3, h4, h5⟩
  split at h1
  · rename_i tn dd cd sl ho
    split at h1
    · rename_i C' bm k0 k1 k2 k3 n k5 hm hs
      simp only [Bool.and_eq_true, beq_iff_eq, Bool.not_eq_true', decide_eq_true_eq] at h1
      obtain ⟨rfl, rfl, rfl, hdel, hdct, hr⟩ := h1
      obtain ⟨nm, bs, mro, ns, qn, hd, sn, sub, ab, col, del⟩ := cd
      dsimp only at hm hdel hdct
      subst hm hdel hdct
      have hsl : sl = #[k0, k1, k2, k3, some (.builtin "ValueError.__new__"), k5] := by
        obtain ⟨l⟩ := sl
        simp only at hs
        rw [hs]
      subst hsl
      exact ⟨nm, qn, ns, bs, bm, sn, sub, ab, col, dd, k0, k1, k2, k3, k5, ho, hr⟩
    · cases h1
  · cases h1
/-- the base P, whose __init__ is called through it -/
def baseB (C : Addr) : FB := fun K => PySem.W.readsIn K C (.type "type") && (decide (PySem.W.specialIn K (.ref C) "__getattribute__" = some (some (.builtin "type.__getattribute__"))) && (match PySem.W.findCls K (.ref C) (.type "type") "__init__" with
  | some (.val (.builtin n)) => decide (n = "ValueError.__init__")
  | _ => false))
structure BaseC (K : PySem.W.Frag) (C : Addr) : Prop where
  rd : PySem.W.readsIn K C (.type "type") = true
  ga : PySem.W.specialIn K (.ref C) "__getattribute__" = some (some (.builtin "type.__getattribute__"))
  at_ : PySem.W.findCls K (.ref C) (.type "type") "__init__" = some (.val (.builtin "ValueError.__init__"))
theorem base_of {K : PySem.W.Frag} {C : Addr} (h : baseB C K = true) : BaseC K C := by
  unfold baseB at h
  simp only [Bool.and_eq_true, decide_eq_true_eq] at h
  obtain ⟨h1, h2, h3⟩ := h
  refine ⟨h1, h2, ?_⟩
  split at h3
  · rename_i n e
    rw [e, of_decide_eq_true h3]
  · cases h3
section
variable {X : Cx} {e : Expr} {es : List Expr} {ta : TA} {p1 p2 pos : Pos}
/-- P.__init__(self, ..) -/
theorem pe_cinit {x : Str} {C : Addr} {pl : Sem Bool} (hg : Gl X x) (hm : X.mg x = some (.ref C)) (r : BaseC X.K C) (ha : PA X (e :: es) ta) (hdb : (x == ("__debug__" : Str)) = false := by decide)
    (hc : eval (.Call (.Attribute (.Name x p1) "__init__" p2) (e :: es) [] pos) X.env = (do
      let ov ← eval (.Name x p1) X.env
      standAt p2.atName
      let (f, fst) ← holding [ov] (getMethod ov "__init__" pl)
      callWith pos f fst (backTo pos (starEach (e :: es) X.env)) (backToKw pos (keywordEach [] X.env))) := by rfl)
    (he : starEach (e :: es) X.env = (false, eval e X.env) :: starEach es X.env := by rfl) (hpl : (backTo pos (starEach es X.env)).any (·.1) = false := by rfl) :
    PE X (.Call (.Attribute (.Name x p1) "__init__" p2) (e :: es) [] pos) (tVeI X.K ta) := by
  refine ⟨fun pins s σ H Q I h => ?_⟩
  refine PySem.W.methodCall_KW (ld_glob I hg hm ?_ hdb) hc
  refine PySem.W.method_cls I.kIn r.ga (PySem.W.cls_value I.kIn r.rd r.at_ (by decide +kernel) ?_)
  show wpAny _ _ (callWith pos (Value.builtin "ValueError.__init__") [] (backTo pos (starEach (e :: es) X.env)) []) _ _ _
  refine PyProof.Rows.callWith_method1 (thn (ha.run pos pins _ σ H _ (I.tok _) h) fun us s1 ⟨vs, H1, I1, r1, a, C, ws, ev, hl, T, ea, q⟩ => ?_) he hpl
  subst ev
  cases r1 with
  | @cons _ u0 _ ur ra rw' =>
    obtain rfl : u0 = Value.ref a := ra
    have hlen : ur.length ≤ sizeLine := by rw [← Paired.length rw']; exact len_le hl
    exact oinit_ok T I1 ea hlen fun s' J => ⟨.non, H1, J, rfl, q⟩
end
/-! isinstance of a caught own error, with or without a dict of its own -/
structure IsX (K : PySem.W.Frag) (D : Addr) : Prop where
  ga : PySem.W.findIn K (.ref D) "__getattribute__" = some (some (.builtin "BaseException.__getattribute__"))
  gg : PySem.W.findIn K (.ref D) "__getattr__" = some none
  sub : PySem.W.subIn K (.ref D) (.type "BaseException") = some true
  dct : PySem.W.hasDictIn K D = true
  cl : PySem.W.findIn K (.ref D) "__class__" = some (some (.builtin "object.__class__"))
  gt : PySem.W.specialIn K (.builtin "object.__class__") "__get__" = some (some (.builtin "getset_descriptor.__get__"))
  tk : PySem.W.takesIn K (.builtin "object.__class__") = some true
  mro : PySem.W.mroIn K D (.type "object") = some true
def isxB (x : Str) : FB := fun K => decide (PySem.W.findIn K (.ref (He.ga K x)) "__getattribute__" = some (some (.builtin "BaseException.__getattribute__"))) && (decide (PySem.W.findIn K (.ref (He.ga K x)) "__getattr__" = some none) &&
  (decide (PySem.W.subIn K (.ref (He.ga K x)) (.type "BaseException") = some true) && (PySem.W.hasDictIn K (He.ga K x) && (decide (PySem.W.findIn K (.ref (He.ga K x)) "__class__" = some (some (.builtin "object.__class__"))) &&
  (decide (PySem.W.specialIn K (.builtin "object.__class__") "__get__" = some (some (.builtin "getset_descriptor.__get__"))) && (decide (PySem.W.takesIn K (.builtin "object.__class__") = some true) && decide (PySem.W.mroIn K (He.ga K x) (.type "object") = some true)))))))
theorem isx_of {K : PySem.W.Frag} {x : Str} (h : isxB x K = true) : IsX K (He.ga K x) := by
  unfold isxB at h
  simp only [Bool.and_eq_true, decide_eq_true_eq] at h
  obtain ⟨h1, h2, h3, h4, h5, h6, h7, h8⟩ := h
  exact ⟨h1, h2, h3, h4, h5, h6, h7, h8⟩
end R
namespace PySem.W
open PySem PySem.Spec PySem.Calls PyProof.Rows
section
variable {prog : Program} {w : World} {A : Around} {E : Value → Shared → Prop} {s : Shared} {K : Frag} {x D : Addr} {ox : Obj} {od : Option Obj}
theorem r_findcls (T : R.IsX K D) : findObj K D od "__class__" = some (.bind (.builtin "getset_descriptor.__get__") (.builtin "object.__class__")) := by
  obtain ⟨cd, e1, _⟩ := any_some T.dct
  unfold findObj
  simp [e1, T.cl, T.gt, T.tk]
theorem r_readcls {Q : Option Value → Shared → Prop} (T : R.IsX K D) (X : K.In s.heap) (I : InstAt s.heap x ox D od) (h : Q (some (.ref D)) { s with toks := s.toks + 1 }) : wpAny (model prog w) A (getAttr? (.ref x) "__class__") Q E s := by
  obtain ⟨hp, gn, dr, tk, os⟩ := s
  have l0 := I.type (M := model prog w)
  have l1 := looks_findIn (M := model prog w) X T.ga
  have l2 := looks_findIn (M := model prog w) X T.gg
  have l3 := looks_find (M := model prog w) X I (r_findcls (od := od) T)
  have lsub : Looks (model prog w) hp (isInstance (.ref x) (.type "BaseException")) true := l0.andThen (looks_subIn X T.sub)
  have n1 : (Value.builtin "BaseException.__getattribute__" == Value.builtin "object.__getattribute__") = false := by decide +kernel
  have n2 : (onTheHeap (Value.ref D) && Value.builtin "BaseException.__getattribute__" == Value.builtin "object.__getattribute__") = false := by rw [n1]; rfl
  have n3 : (false && onTheHeap (Value.builtin "BaseException.__getattribute__")) = false := rfl
  unfold getAttr? getAttrBy? getAttrBy
  refine wpAny_bind (wpAny_mkText (wpAny_bind (wpAny_attempt (wpAny_holding (wpAny_bind (l0.at (wpAny_bind (l1.at ?_))))))))
  show wpAny _ _ (if (onTheHeap (Value.ref D) && Value.builtin "BaseException.__getattribute__" == Value.builtin "object.__getattribute__") = true then _ else _) _ _ _
  rw [n2, if_neg Bool.false_ne_true]
  unfold getAttrByItsOwn hookBefore
  refine wpAny_bind ?_
  rw [if_pos (show onTheHeap (Value.ref D) = true from rfl)]
  refine l2.at ?_
  refine wpAny_bind (wpAny_attempt (wpAny_holding ?_))
  unfold callGetattribute
  rw [n3, if_neg Bool.false_ne_true]
  unfold boundAndCalled
  rw [PySem.F.excAttr_ValueError.ga.bind (.ref x)]
  refine wpAny_bind (wpAny_pure ?_)
  show wpAny _ _ (call (.builtin "BaseException.__getattribute__") [.ref x, .str "__class__" tk]) _ _ _
  refine wpAny_call (codeAny_call_builtin PySem.F.excAttr_ValueError.ga.plain PySem.F.entry_bexc_ga ?_)
  refine @check_slot (model prog w) _ _ ⟨hp, gn, dr, tk + 1, os⟩ "BaseException.__getattribute__" "BaseException" "__getattribute__" (.ref x) [.str "__class__" tk] [] _ (by decide +kernel) (by decide +kernel) lsub (PySem.F.args_bexc_ga (.ref x) (.str "__class__" tk)) ?_
  unfold Builtin.«object.__getattribute__»
  refine wpAny_bind (wpAny_of_eq (a := ((Value.ref x : Value), [Value.str "__class__" tk])) (by first | rfl | (simp only [slotArgs]; rfl)) ?_)
  refine wpAny_bind (wpAny_pure (wpAny_bind (l0.at (wpAny_bind (l3.at ?_)))))
  show wpAny _ _ (holding [Value.builtin "object.__class__"] (call (.builtin "getset_descriptor.__get__") [.builtin "object.__class__", .ref x, .ref D]) >>= ret) _ _ _
  refine wpAny_bind (wpAny_holding (wpAny_call (class_get (s := ⟨hp, gn, dr, tk + 1, os⟩) (ox := ox) (od := od) X I T.mro ?_)))
  refine wpAny_pure ?_
  show wpAny _ _ (handedOut (.ref D)) _ _ _
  rw [handedOut_of (v := .ref D) rfl]
  first
    | exact wpAny_pure (wpAny_pure h)
    | exact wpAny_pure h
    | exact wpAny_pure (wpAny_bind (wpAny_pure (wpAny_pure h)))
theorem r_kit (T : R.IsX K D) : KitX K (.ref x) (.ref D) (fun hp => InstAt hp x ox D od) where
  ty := fun _ _ _ I => I.type
  it := fun _ _ X _ => by
    obtain ⟨cd, e1, _⟩ := any_some T.dct
    unfold clsIn at e1
    split at e1
    · rename_i _ _ _ _ at_
      intro A' Q' E' s' k q
      unfold isType loadHead
      exact wpAny_bind (wpAny_loadPart (k _ _ (X _ _ at_)) (wpAny_pure q))
    · cases e1
  ne := fun hp tp dd its n sl X at_tp => by
    obtain ⟨cd, e1, _⟩ := any_some T.dct
    refine Bool.eq_false_iff.mpr fun q => ?_
    obtain rfl : D = tp := Value.ref.inj (beq_iff_eq.mp q)
    unfold clsIn at e1
    split at e1
    · rename_i _ _ _ _ at_
      exact nomatch (X _ _ at_).symm.trans at_tp
    · cases e1
  ca := fun X I k => r_readcls T X I k
end
end PySem.W
namespace R
open PySem PySem.Spec PyProof.Rows L2
theorem callIsX {X : Cx} {a D : Addr} {oe : Obj} {d : Option Addr} {pn : List (Addr × Obj)} (T : IsX X.K D) (hz : Zc (.ref D) d oe) (hf : ∃ vs, oe.data = .fields vs) :
    CallR (X.suite a ((a, oe) :: pn)) (.builtin "isinstance") (fun xs H Q => ∃ fs, (∀ dd, d = some dd → H dd = some (.xd fs)) ∧ rIsE X.K D a xs H Q) := by
  intro pins s σ H xs us Q I r h
  obtain ⟨fs, hdd, c, cv, b, rfl, hcv, e, q⟩ := h
  cases r with
  | cons rx rr =>
    cases rr with
    | cons rt rr =>
      cases rr
      cases rx
      have ec := hcv _ rt
      subst ec
      obtain ⟨hget, _⟩ := I.pin (a, oe) (List.mem_append.mpr (.inl List.mem_cons_self))
      obtain ⟨vs, hv⟩ := hf
      have J : ∃ od, PySem.W.InstAt s.heap a oe D od := by
        obtain ⟨oc, dd, oda, osl⟩ := oe
        obtain ⟨h1, h2⟩ := hz
        dsimp only at h1 h2 hv
        subst h1 h2 hv
        cases dd with
        | none => exact ⟨none, hget, rfl, rfl, trivial⟩
        | some dx =>
          obtain ⟨mA, hns, _⟩ : ObjOk X.prog X.w H s.heap dx (.xd fs) := I.hok dx _ (hdd dx rfl)
          obtain ⟨o, _, _, ho, _⟩ := hns
          exact ⟨some o, hget, rfl, rfl, ho⟩
      obtain ⟨od, J⟩ := J
      exact PySem.W.kia_one (PySem.W.r_kit T) I.kIn J e (fun z => nomatch z) fun tk => ⟨.bl b, H, I.kept (t' := tk) fun _ _ z => z, rfl, q⟩
/-- isinstance(e, C), e the error that the suite holds: what is asked -/
def rIsXd (K : PySem.W.Frag) (D a : Addr) (d : Option Addr) : List V → Hp → VK → Prop := fun xs H Q => ∃ fs, (∀ dd, d = some dd → H dd = some (.xd fs)) ∧ rIsE K D a xs H Q
/-- what such a class is, its __init__ at fI, its field f -/
structure XIn (K : PySem.W.Frag) (C fI : Addr) (f : Str) : Prop where
  oex : OexC K C
  iC : PySem.W.findIn K (.ref C) "__init__" = some (some (.ref fI))
  tI : PySem.W.typeIn K (.ref fI) = some (.type "function")
  noF : PySem.W.findIn K (.ref C) f = some none
  xf : XfC K C
def xinB (x f : Str) : FB := fun K => oexB (He.ga K x) K && (decide (PySem.W.findIn K (.ref (He.ga K x)) "__init__" = some (some (.ref (He.ma K (He.ga K x) "__init__")))) && (decide (PySem.W.typeIn K (.ref (He.ma K (He.ga K x) "__init__")) = some (.type "function")) &&
  (decide (PySem.W.findIn K (.ref (He.ga K x)) f = some none) && xfB K (He.ga K x))))
theorem xin_of {K : PySem.W.Frag} {x f : Str} (h : xinB x f K = true) : XIn K (He.ga K x) (He.ma K (He.ga K x) "__init__") f := by
  unfold xinB at h
  simp only [Bool.and_eq_true, decide_eq_true_eq] at h
  obtain ⟨h1, h2, h3, h4, h5⟩ := h
  exact ⟨oex_of h1, h2, h3, h4, xfB_ok h5⟩
/-- __init__(self, v) of a class at C: the field is kept -/
def sp_init (K : PySem.W.Frag) (C : Addr) (f : Str) : Sp := fun vs H Q _ => ∃ (a : Addr) (v : V), vs = [.ref a, v] ∧ OexC K C ∧ PySem.W.findIn K (.ref C) f = some none ∧ H a = some (exo a C none) ∧
  ∀ dx, H dx = none → dx ≠ a → Q .non (upd (upd H dx (exd dx [(f, v)])) a (exo a C (some dx)))
theorem rd_init {K : PySem.W.Frag} {C : Addr} {f m : Str} {vs : List V} {H : Hp} {Q : VK} {E : XK} (h : sp_init K C f vs H Q E) :
    tSeq (tDrop (tVeI K (tCons (tVar 0) (tCons (tC (.str m)) tNil)))) (tOst K f (tVar 0) (tVar 1)) { nx := fun _ H' => Q .non H', rt := Q } (L2.start ["self", f] vs) H := by
  obtain ⟨a, v, rfl, T, hn, ha, k⟩ := h
  exact ⟨_, rfl, a, C, [.str m], rfl, by simp, T, ha, _, rfl, _, rfl, a, C, rfl, T, hn, .inl ⟨ha, fun dx h1 h2 => k dx h1 h2⟩⟩
section
variable {ta : TA} {σ : L2.St} {H : Hp} {QX : XK}
def RzP (C : Addr) (sp : Sp) (QX : XK) (vs : List V) (H1 : Hp) : Prop := vs.length ≤ 1000 ∧ ∀ a, H1 a = none → sp (.ref a :: (vs ++ [])) (upd H1 a (exo a C none))
  (fun v H2 => v = .non ∧ ∃ (d : Addr) (fs : List (Str × V)), H2 a = some (exo a C (some d)) ∧ H2 d = some (exd d fs) ∧ H1 d = none ∧ QX (.ref C) (some d) (upd (del H2 a) d (.xd fs))) (fun _ _ _ => False)
theorem s_mko {C : Addr} {sp : Sp} (h : ta σ H fun vs H1 => RzP C sp QX vs H1) : tMkO C sp [] ta σ H QX := h
theorem s_raise {K : PySem.W.Frag} {C : Addr} {f : Str} {v : V} (T : OexC K C) (hn : PySem.W.findIn K (.ref C) f = some none) (k : ∀ d H', H d = none → H' d = some (.xd [(f, v)]) → Same H H' → QX (.ref C) (some d) H') : RzP C (sp_init K C f) QX [v] H := by
  refine ⟨by simp, fun a ha => ⟨a, v, rfl, T, hn, upd_same, fun dx hdx hne => ⟨rfl, dx, [(f, v)], upd_same, ?_, ?_, ?_⟩⟩⟩
  · rw [upd_ne hne, upd_same]
  · rw [upd_ne hne] at hdx; exact hdx
  · rw [upd_ne hne] at hdx
    refine k dx _ hdx upd_same fun b o e => ?_
    have n1 : b ≠ dx := ne_of_none e hdx
    have n2 : b ≠ a := ne_of_none e ha
    rw [upd_ne n1, del_ne n2, upd_ne n2, upd_ne n1, upd_ne n2]
    exact e
end
/-! own exceptions without fields; isinstance of a caught error of any own class -/
section
variable {X : Cx} {C : Addr} {bmB : List Value} {B newId initId : String}
/-- X() -/
theorem pmk_own0 {x : Str} {p pos : Pos} (F : ExcBaseFacts B newId initId bmB) (q : PySem.W.excIn X.K C bmB newId = true) (gC : X.mg x = some (.ref C)) (kC : PySem.W.keepIn X.K (.ref C) = true) (r : Raises X (.ref C)) (hg : Gl X x)
    (hdb : (x == ("__debug__" : Str)) = false := by decide) : PMk X (.Call (.Name x p) [] [] pos) (fun _ H Q => Q (.ref C) none H) := by
  intro pins s σ H Q I h
  refine wpAny_Call_Name_kw (ld_glob I hg gC ?_ hdb)
  refine PySem.W.callWith_K0 I.kIn kC ?_
  obtain ⟨bm, N, nm, qn, bs, hdct, sn, sub, ab, col, dd, k0, k1, k2, k3, k5, mN, hC, hN, hni, T⟩ := exc_obj I.kIn q
  refine wpAny_call_exc_subT F T hC hN hni (fun h' e hm => ?_) (Nat.zero_le _)
  exact mk_of I hm r h (I.hok.gone hm.new)
end
def tRz (C : Addr) : L2.St → Hp → XK → Prop := fun _ H Q => Q (.ref C) none H
theorem s_rz {C : Addr} {σ : L2.St} {H : Hp} {Q : XK} (h : Q (.ref C) none H) : tRz C σ H Q := h
/-- a class without fields, raised -/
structure Exc0 (K : PySem.W.Frag) (C : Addr) : Prop where
  ex : PySem.W.excIn K C He.veBase "ValueError.__new__" = true
  kp : PySem.W.keepIn K (.ref C) = true
  sb : PySem.W.subIn K (.ref C) (.type "BaseException") = some true
  ty : PySem.W.typeIn K (.ref C) = some (.type "type")
theorem exc0_of {K : PySem.W.Frag} {x : Str} (c : (He.Fa.exc x).ok K = true) : Exc0 K (He.ga K x) := by
  obtain ⟨h1, h2, h3, h4⟩ := He.exc_ok c
  exact ⟨h1, h2, h3, h4⟩
theorem pmk_z {X : Cx} {C : Addr} {x : Str} {p pos : Pos} (F : Exc0 X.K C) (gC : X.mg x = some (.ref C)) (hg : Gl X x) (hdb : (x == ("__debug__" : Str)) = false := by decide) : PMk X (.Call (.Name x p) [] [] pos) (tRz C) :=
  pmk_own0 PySem.F.excBase_ValueError F.ex gC F.kp (raises_own F.sb F.ty) hg hdb
theorem pmk_zs {X : Cx} {C : Addr} {x m : Str} {j : Nat} {p p2 pos : Pos} (F : Exc0 X.K C) (gC : X.mg x = some (.ref C)) (hg : Gl X x) (hdb : (x == ("__debug__" : Str)) = false := by decide) : PMk X (.Call (.Name x p) [.Constant (.str m) j p2] [] pos) (tRz C) :=
  L2.pmk_own PySem.F.excBase_ValueError F.ex gC F.kp (raises_own F.sb F.ty) hg hdb
def kitcB (x y : Str) (b : Bool) : FB := fun K => decide (PySem.W.kitOne K (.ref (He.ga K x)) (.ref (He.ga K y)) = some b)
def kittB (x : Str) (y : String) (b : Bool) : FB := fun K => decide (PySem.W.kitOne K (.ref (He.ga K x)) (.type y) = some b)
theorem kitc_of {K : PySem.W.Frag} {x y : Str} {b : Bool} (h : kitcB x y b K = true) : PySem.W.kitOne K (.ref (He.ga K x)) (.ref (He.ga K y)) = some b := of_decide_eq_true h
theorem kitt_of {K : PySem.W.Frag} {x : Str} {y : String} {b : Bool} (h : kittB x y b K = true) : PySem.W.kitOne K (.ref (He.ga K x)) (.type y) = some b := of_decide_eq_true h
/-- isinstance(e, c) in an except suite, the class of e told in the reading -/
def rIsA (K : PySem.W.Frag) (cls : Value) (d : Option Addr) (a : Addr) : List V → Hp → VK → Prop := fun xs H Q => ∃ D, cls = .ref D ∧ IsX K D ∧ ∃ fs, (∀ dd, d = some dd → H dd = some (.xd fs)) ∧
  ∃ (c : V) (cv : Value) (b : Bool), xs = [.ref a, c] ∧ ClsV c cv ∧ PySem.W.kitOne K (.ref D) cv = some b ∧ Q (.bl b) H
def rIsAT (K : PySem.W.Frag) (cls : Value) (d : Option Addr) (a : Addr) : List V → Hp → VK → Prop := fun xs H Q => ∃ D, cls = .ref D ∧ IsX K D ∧ ∃ fs, (∀ dd, d = some dd → H dd = some (.xd fs)) ∧
  ∃ (tp : Addr) (cs : List V) (us : List Value) (b : Bool), xs = [.ref a, .ref tp] ∧ H tp = some (.tup cs) ∧ Paired ClsV cs us ∧ PySem.W.kitAny K (.ref D) us = some b ∧ Q (.bl b) H
section
variable {X : Cx} {a : Addr} {cls : Value} {oe : Obj} {d : Option Addr} {pn : List (Addr × Obj)}
theorem inst_of {D : Addr} {pins : List (Addr × Obj)} {σ : L2.St} {H : Hp} {s : Shared} {fs : List (Str × V)} (I : Inv (X.suite a ((a, oe) :: pn)) pins σ H s) (hz : Zc (.ref D) d oe) (hf : ∃ vs, oe.data = .fields vs) (hdd : ∀ dd, d = some dd → H dd = some (.xd fs)) : ∃ od, PySem.W.InstAt s.heap a oe D od := by
  obtain ⟨hget, _⟩ := I.pin (a, oe) (List.mem_append.mpr (.inl List.mem_cons_self))
  obtain ⟨vs, hv⟩ := hf
  obtain ⟨oc, dd, oda, osl⟩ := oe
  obtain ⟨h1, h2⟩ := hz
  dsimp only at h1 h2 hv
  subst h1 h2 hv
  cases dd with
  | none => exact ⟨none, hget, rfl, rfl, trivial⟩
  | some dx =>
    obtain ⟨mA, hns, _⟩ : ObjOk X.prog X.w H s.heap dx (.xd fs) := I.hok dx _ (hdd dx rfl)
    obtain ⟨o, _, _, ho, _⟩ := hns
    exact ⟨some o, hget, rfl, rfl, ho⟩
theorem callIsA (hz : Zc cls d oe) (hf : ∃ vs, oe.data = .fields vs) : CallR (X.suite a ((a, oe) :: pn)) (.builtin "isinstance") (rIsA X.K cls d a) := by
  intro pins s σ H xs us Q I r h
  obtain ⟨D, rfl, T, fs, hdd, c, cv, b, rfl, hcv, e, q⟩ := h
  obtain ⟨u1, u2, rfl, r1, r2⟩ := vals2 r
  cases (show u1 = Value.ref a from r1)
  have ec := hcv.eq r2
  subst ec
  obtain ⟨od, J⟩ := inst_of I hz hf hdd
  exact PySem.W.kia_one (PySem.W.r_kit T) I.kIn J e (fun z => nomatch z) fun tk => ⟨.bl b, H, I.kept (t' := tk) fun _ _ z => z, rfl, q⟩
theorem callIsAT (hz : Zc cls d oe) (hf : ∃ vs, oe.data = .fields vs) : CallR (X.suite a ((a, oe) :: pn)) (.builtin "isinstance") (rIsAT X.K cls d a) := by
  intro pins s σ H xs us Q I r h
  obtain ⟨D, rfl, T, fs, hdd, tp, cs, ws, b, rfl, hT, k, e, q⟩ := h
  obtain ⟨u1, u2, rfl, r1, r2⟩ := vals2 r
  cases (show u1 = Value.ref a from r1)
  cases (show u2 = Value.ref tp from r2)
  obtain ⟨od, J⟩ := inst_of I hz hf hdd
  obtain ⟨_, its, rv, o, h1, h2, n, h3⟩ := (show ObjOk X.prog X.w H s.heap tp (.tup cs) from I.hok tp _ hT)
  have e3 := ClsV.all k rv
  subst e3
  obtain ⟨oc, od', dt, sl⟩ := o
  simp only at h2 h3
  subst h2 h3
  exact PySem.W.kia_tup (PySem.W.r_kit T) I.kIn J h1 e (fun z => nomatch z) fun tk => ⟨.bl b, H, I.kept (t' := tk) fun _ _ z => z, rfl, q⟩
end
section
variable {K : PySem.W.Frag} {a D : Addr} {d : Option Addr} {H : Hp} {Q : VK} {fs : List (Str × V)} {b b1 b2 : Bool}
theorem s_isA {c : V} {cv : Value} (T : IsX K D) (hd : ∀ dd, d = some dd → H dd = some (.xd fs)) (hc : ClsV c cv) (e : PySem.W.kitOne K (.ref D) cv = some b) (h : Q (.bl b) H) : rIsA K (.ref D) d a [.ref a, c] H Q := ⟨D, rfl, T, fs, hd, c, cv, b, rfl, hc, e, h⟩
theorem s_isA0 {c : V} {cv : Value} (T : IsX K D) (hc : ClsV c cv) (e : PySem.W.kitOne K (.ref D) cv = some b) (h : Q (.bl b) H) : rIsA K (.ref D) none a [.ref a, c] H Q := s_isA (fs := []) T (fun _ z => nomatch z) hc e h
theorem s_isAT2 {tp : Addr} {c1 c2 : V} {v1 v2 : Value} (T : IsX K D) (hd : ∀ dd, d = some dd → H dd = some (.xd fs)) (ht : H tp = some (.tup [c1, c2])) (h1 : ClsV c1 v1) (h2 : ClsV c2 v2) (e1 : PySem.W.kitOne K (.ref D) v1 = some b1) (e2 : PySem.W.kitOne K (.ref D) v2 = some b2)
    (h : Q (.bl (b1 || b2)) H) : rIsAT K (.ref D) d a [.ref a, .ref tp] H Q :=
  ⟨D, rfl, T, fs, hd, tp, _, [v1, v2], b1 || b2, rfl, ht, .cons h1 (.cons h2 .nil), kitAny_cons e1 (fun q => kitAny_cons e2 (fun q2 => by rw [q, q2]; exact kitAny_nil) (fun q2 => by rw [q2]; simp)) (fun q => by rw [q]; rfl), h⟩
theorem s_isAT20 {tp : Addr} {c1 c2 : V} {v1 v2 : Value} (T : IsX K D) (ht : H tp = some (.tup [c1, c2])) (h1 : ClsV c1 v1) (h2 : ClsV c2 v2) (e1 : PySem.W.kitOne K (.ref D) v1 = some b1) (e2 : PySem.W.kitOne K (.ref D) v2 = some b2)
    (h : Q (.bl (b1 || b2)) H) : rIsAT K (.ref D) none a [.ref a, .ref tp] H Q := s_isAT2 (fs := []) T (fun _ z => nomatch z) ht h1 h2 e1 e2 h
end
/-! zip of two tuples, walked -/
theorem walk_zipT {K : PySem.W.Frag} {a b : Addr} {xs ys : List V} {n : Nat} (hn : n = min xs.length ys.length) : Walk (RZ.ItzT K a b) n (fun H => SqT K H a xs ∧ SqT K H b ys) (YPair (fun i => xs[i]?) (fun i => ys[i]?)) := by
  subst hn
  refine ⟨fun i _ hi q => ?_, fun _ q => ⟨xs, ys, q.1, q.2, by omega⟩, fun i H v H' _ q y => ?_⟩
  · have h1 : i < xs.length := by omega
    have h2 : i < ys.length := by omega
    exact ⟨xs, ys, xs[i], ys[i], q.1, q.2, by simp [h1], by simp [h2]⟩
  · obtain ⟨T, x, z, h1, h2, h3, h4, h5⟩ := y
    exact ⟨T, x, z, h1, h2, h3, h4 xs q.1, h5 ys q.2⟩
def ZipQ (K : PySem.W.Frag) (R : It → Hp → Prop) (vs : List V) (H1 : Hp) : Prop := ∃ a b xs ys, vs = [.ref a, .ref b] ∧ ((SqL K H1 a xs ∧ SqL K H1 b ys ∧ R (Itz K a b) H1) ∨ (SqT K H1 a xs ∧ SqT K H1 b ys ∧ R (RZ.ItzT K a b) H1))
theorem s_izip {K : PySem.W.Frag} {ta : TA} {σ : L2.St} {H : Hp} {R : It → Hp → Prop} (h : ta σ H fun vs H1 => ZipQ K R vs H1) : RZ.iZipA K ta σ H R := h
theorem s_gunl {K : PySem.W.Frag} {n : Nat} {t : TGs} {p : Addr} {xs : List V} {σ : L2.St} {H : Hp} {QS : L2.St → Hp → Prop} (h1 : SqL K H p xs) (h2 : xs.length = n) (h : t xs σ H QS) : L2.gUnl K n t (.ref p) σ H QS := ⟨p, xs, rfl, h1, h2, h⟩
/-! dicts with tuple keys: pop of a key that is there; fields; makings -/
def rPop1T : V → List V → Hp → VK → Prop := fun x xs H Q => ∃ (a : Addr) (kvs : List (List L2.Key × V)) (k : List L2.Key) (b : Addr) (v : V), x = .ref a ∧ xs = [.ref b] ∧ H a = some (.dT kvs) ∧ H b = some (.tup (k.map kV)) ∧ valV kvs k = some v ∧ Q v (upd H a (.dT (dropK kvs k)))
theorem mt_pop1T {X : Cx} (hu : X.A.units + 1 < cLine) : MtR X "dict.pop" rPop1T := by
  intro pins s σ H x xs v us Q I rx rxs h
  obtain ⟨a, kvs, k, b, v0, rfl, rfl, ha, hb, ev, q⟩ := h
  cases rx
  obtain ⟨u1, rfl, r1⟩ := vals1 rxs
  cases r1
  obtain ⟨z, hd, xs', rel, dd⟩ := dt_of I.hok ha
  have hz : xs'.length ≤ sizeLine := by rw [← Paired.length rel]; exact z
  have r := rel.val k
  rw [ev] at r
  obtain ⟨p, hp, rv⟩ : ∃ p, atKey xs' k = some p ∧ RelV v0 p.2 := by
    cases e : atKey xs' k with
    | none => rw [e] at r; exact r.elim
    | some p => rw [e] at r; exact ⟨p, rfl, r⟩
  refine call_pop_heap (knd := tupleKind (mixKind X.prog X.w)) (k := k) (more := []) (.inl rfl) (PySem.F.args_dict_pop_2 _ _) (tupleKind_room_in1 hu) (key_of I.hok hb) hd dd hp (fun h' dd' hs => ?_) hz
  obtain ⟨o, es, ep, hq, h2, h3, h4, _, h5⟩ := dd'
  have rel' : KT (upd H a (.dT (dropK kvs k))) (dropK kvs k) (withoutH xs' k) := (L2.DX.KT_drop k rel).keeps fun c ys ec => by rw [upd_ne (ne_of ec ha fun z => nomatch z)]; exact ec
  have I2 := d_write (t' := s.toks + (tupleKind (mixKind X.prog X.w)).draws k) (ob := .dT (dropK kvs k)) I (by rw [ha]; exact True.intro) hs ⟨o, hq⟩ (show ObjOk X.prog X.w (upd H a (.dT (dropK kvs k))) h' a (.dT (dropK kvs k)) from ⟨Nat.le_trans (dropK_le kvs k) z, hd, _, rel', o, es, ep, hq, h2, h3, h4, h5⟩)
  exact ⟨v0, _, I2, rv, q⟩
section
variable {K : PySem.W.Frag} {te tv : TE} {ta : TA} {f m : Str} {σ : L2.St} {H : Hp} {Q : VK} {D : Ends} {a C dx : Addr} {fs : List (Str × V)} {v y : V} {sp : Sp} {E : XK}
def FldQ (K : PySem.W.Frag) (f : Str) (Q : VK) (x : V) (H1 : Hp) : Prop := ∃ a C dx fs v, x = .ref a ∧ H1 a = some (.ins C dx fs) ∧ Cls K C ∧ NoAttr K C f ∧ fs.lookup f = some v ∧ Q v H1
theorem s_fld (h : te σ H fun x H1 => FldQ K f Q x H1) : tFld K te f σ H Q := h
theorem mkFld (ha : H a = some (.ins C dx fs)) (c : Cls K C) (n : NoAttr K C f) (l : fs.lookup f = some v) (h : Q v H) : FldQ K f Q (.ref a) H := ⟨a, C, dx, fs, v, rfl, ha, c, n, l, h⟩
def SFldQ (K : PySem.W.Frag) (f : Str) (P : Hp → Prop) (y x : V) (H2 : Hp) : Prop := ∃ a C dx fs, x = .ref a ∧ H2 a = some (.ins C dx fs) ∧ Cls K C ∧ NoAttr K C f ∧ fs.length < 1000 ∧ P (upd H2 a (.ins C dx (putF f y fs)))
theorem s_sfld (h : tv σ H fun y H1 => te σ H1 fun x H2 => SFldQ K f (D.nx σ) y x H2) : sFld K te tv f D σ H := h
theorem mkSFld {P : Hp → Prop} (ha : H a = some (.ins C dx fs)) (c : Cls K C) (n : NoAttr K C f) (l : fs.length < 1000) (h : P (upd H a (.ins C dx (putF f y fs)))) : SFldQ K f P y (.ref a) H := ⟨a, C, dx, fs, rfl, ha, c, n, l, h⟩
def MethQ (C : Addr) (m : Str) (sp : Sp) (E : XK) (ta : TA) (σ : L2.St) (Q : VK) (x : V) (H1 : Hp) : Prop := ∃ a dx fs, x = .ref a ∧ H1 a = some (.ins C dx fs) ∧ fs.lookup m = none ∧ ta σ H1 fun vs H2 => sp (x :: (vs ++ [])) H2 Q E
theorem s_meth (h : te σ H fun x H1 => MethQ C m sp E ta σ Q x H1) : tMeth C m sp [] E te ta σ H Q := h
theorem mkMeth (ha : H a = some (.ins C dx fs)) (l : fs.lookup m = none) (h : ta σ H fun vs H2 => sp (.ref a :: (vs ++ [])) H2 Q E) : MethQ C m sp E ta σ Q (.ref a) H := ⟨a, dx, fs, rfl, ha, l, h⟩
def MakeQ (C : Addr) (sp : Sp) (E : XK) (Q : VK) (vs : List V) (H1 : Hp) : Prop := ∀ x dx, H1 x = none → H1 dx = none → dx ≠ x → sp (.ref x :: (vs ++ [])) (upd (upd H1 dx (.own x)) x (.ins C dx [])) (fun v H2 => v = .non ∧ Q (.ref x) H2) E
theorem s_make (h : ta σ H fun vs H1 => MakeQ C sp E Q vs H1) : tMake C sp [] E ta σ H Q := h
theorem s_dnewT (h : ∀ p H', H p = none → H' p = some (.dT []) → Same H H' → Q (.ref p) H') : tDNewT σ H Q := fun p hp => h p _ hp upd_same (same_upd hp)
theorem s_lenD {kvs : List (L2.Key × V)} (hd : H a = some (.dK kvs)) (h : Q (.int kvs.length) H) : ∃ a' kvs', [V.ref a] = [V.ref a'] ∧ H a' = some (.dK kvs') ∧ Q (.int kvs'.length) H := ⟨a, kvs, rfl, hd, h⟩
def DInQ (Q : VK) (y x : V) (H2 : Hp) : Prop := ∃ a o, x = .ref a ∧ DGet H2 a y o ∧ Q (.bl o.isSome) H2
theorem s_din {ty td : TE} (h : ty σ H fun y H1 => td σ H1 fun x H2 => DInQ Q y x H2) : tDIn ty td σ H Q := h
def DNotInQ (Q : VK) (y x : V) (H2 : Hp) : Prop := ∃ a o, x = .ref a ∧ DGet H2 a y o ∧ Q (.bl (!o.isSome)) H2
theorem s_dnotin {ty td : TE} (h : ty σ H fun y H1 => td σ H1 fun x H2 => DNotInQ Q y x H2) : tDNotIn ty td σ H Q := h
end
end R
/-! the walk of a reading, as far as nothing is asked -/
local macro_rules | `(tactic| walk_at "g1") => `(tactic| first
  | with_reducible refine R.s_seq ?_
  | with_reducible refine R.s_asg ?_
  | ((with_reducible apply R.s_var); focus rfl)
  | with_reducible refine R.s_gname ?_
  | with_reducible refine R.s_op ?_
  | with_reducible refine R.s_c ?_
  | with_reducible refine R.s_cons ?_
  | with_reducible refine R.s_nil ?_
  | with_reducible refine R.s_i0 ?_
  | with_reducible refine R.s_p10_60 ?_
  | with_reducible refine R.s_p10_18 ?_
  | with_reducible refine R.s_p10_8 ?_
  | with_reducible refine R.s_p10_9 ?_
  | with_reducible refine R.s_p10_59 ?_
  | with_reducible refine R.s_p10_6 ?_
  | with_reducible refine R.s_p10_5 ?_
  | with_reducible refine R.s_p10_4 ?_
  | with_reducible refine R.s_p10_12 ?_
  | with_reducible refine R.s_p10_29 ?_
  | with_reducible refine R.s_p10_30 ?_
  | with_reducible refine R.s_p10_39 ?_
  | with_reducible refine R.s_p10_40 ?_
  | with_reducible refine R.s_p10_49 ?_
  | with_reducible refine R.s_p10_50 ?_
  | with_reducible refine R.s_p10_51 ?_
  | with_reducible refine R.s_p10_58 ?_
  | ((with_reducible refine R.s_pow7 ?_ ?_); focus omega)
  | ((with_reducible refine R.s_i ?_ ?_); focus (first | decide | exact R.mulW (by omega) (by omega) | exact R.divW (by decide) (by decide)))
  | with_reducible refine R.s_test ?_
  | with_reducible refine R.s_bl ?_
  | with_reducible refine R.s_ret ?_
  | with_reducible refine R.s_next ?_
  | with_reducible refine R.s_drop ?_
  | with_reducible refine R.s_un ?_
  | with_reducible refine R.s_u ?_
  | with_reducible refine R.s_tB ?_
  | with_reducible refine R.s_andc ?_
  | with_reducible refine R.s_orc ?_
  | with_reducible refine R.s_notc ?_
  | with_reducible refine R.s_andv ?_
  | with_reducible refine R.s_orv ?_
  | with_reducible refine R.s_notv ?_
  | with_reducible refine R.s_ifx ?_
  | with_reducible refine R.s_eqI ?_
  | with_reducible refine R.s_neI ?_
  | with_reducible refine R.s_eqB ?_
  | with_reducible refine R.s_eqS ?_
  | with_reducible refine R.s_neS ?_
  | with_reducible refine R.s_neB ?_
  | with_reducible refine R.s_tup ?_
  | with_reducible refine R.s_lst ?_
  | with_reducible refine R.s_par ?_
  | with_reducible refine R.s_par_ ?_
  | with_reducible refine R.s_par3 ?_
  | with_reducible refine R.s_par3_ ?_
  | with_reducible refine R.s_cb ?_
  | with_reducible refine R.s_call ?_
  | with_reducible refine R.s_turn ?_
  | with_reducible refine R.s_isi_ii ?_
  | with_reducible refine R.s_isi_ib ?_
  | with_reducible refine R.s_bm ?_
  | with_reducible refine R.s_intB ?_
  | with_reducible refine R.s_rng1 ?_
  | with_reducible refine R.s_rng2 ?_
  | with_reducible refine R.s_dget ?_
  | with_reducible refine R.s_gsub ?_
  | with_reducible refine R.s_pc ?_
  | with_reducible refine R.s_pn ?_
  | with_reducible refine R.s_dput ?_
  | with_reducible refine R.s_isN ?_
  | with_reducible refine R.s_isNi ?_
  | with_reducible refine R.s_isNr ?_
  | with_reducible refine R.s_isNb ?_
  | with_reducible refine R.s_bm0 ?_
  | with_reducible refine R.s_lrg2 ?_
  | with_reducible refine R.s_notN ?_
  | with_reducible refine R.s_notNi ?_
  | with_reducible refine R.s_notNr ?_
  | with_reducible refine R.s_chain ?_
  | with_reducible refine R.s_callS ?_
  | with_reducible refine R.s_mko ?_
  | with_reducible refine R.s_rz ?_
  | with_reducible refine R.s_izip ?_
  | with_reducible refine R.s_sl ?_
  | with_reducible refine R.s_nopart ?_
  | with_reducible refine R.s_part ?_
  | with_reducible refine R.s_int_ ?_
  | with_reducible refine R.s_ilist ?_
  | with_reducible refine R.s_itup ?_
  | with_reducible refine R.s_ref_ ?_
  | with_reducible refine R.s_for ?_
  | with_reducible refine R.s_yes ?_
  | with_reducible refine R.s_gcons ?_
  | with_reducible refine R.s_gnil ?_
  | with_reducible refine R.s_abs ?_
  | with_reducible refine R.s_max ?_
  | with_reducible refine R.s_min ?_
  | with_reducible refine R.s_iteT ?_
  | with_reducible refine R.s_iteF ?_
  | with_reducible refine R.s_iteNT ?_
  | with_reducible refine R.s_iteNF ?_
  | ((with_reducible refine R.s_itnP ?_ ?_); focus (with_reducible rfl))
  | ((with_reducible refine R.s_itP ?_ ?_); focus (with_reducible rfl)))
local macro_rules | `(tactic| walk_at "g") => `(tactic| repeat (first | walk_at "g1" | with_reducible refine R.s_if ?_))
local macro_rules | `(tactic| walk_at "h") => `(tactic| repeat (walk_at "g1"))
local macro_rules | `(tactic| walk_at "g2") => `(tactic| first
  | with_reducible refine R.s_fld ?_
  | with_reducible refine R.s_sfld ?_
  | with_reducible refine R.s_meth ?_
  | with_reducible refine R.s_make ?_
  | with_reducible refine R.s_din ?_
  | with_reducible refine R.s_dnotin ?_)
local macro_rules | `(tactic| walk_at "G") => `(tactic| repeat (first | walk_at "g1" | walk_at "g2" | with_reducible refine R.s_if ?_))
local macro_rules | `(tactic| walk_at "J") => `(tactic| repeat (first | walk_at "g1" | walk_at "g2"))

/-! list(zip(a, b)) of two lists -/
namespace R
open PySem PySem.Spec PyProof.Rows L2 PySem.W
section
variable {X : Cx} {pins : List (Addr × Obj)} {σ : L2.St} {S z TI TO i1 i2 l1 l2 : Addr} {xs ys : List V} {A : Around}
theorem sq_keep {K : PySem.W.Frag} {H : Hp} {a S : Addr} {xs : List V} {o : HO} (h : SqL K H a xs) (n : a ≠ S) : SqL K (upd H S o) a xs := by
  rcases h with (h | ⟨od, h⟩) | h
  · exact .inl (.inl (by rw [upd_ne n]; exact h))
  · exact .inl (.inr ⟨od, by rw [upd_ne n]; exact h⟩)
  · exact .inr h
/-- how the zip stands at a turn -/
def ZpSt (h : Heap) (S z TI TO i1 i2 l1 l2 : Addr) (k : Nat) : Prop := IsPair h TI (.ref i1) (.ref i2) ∧ h.IsListIter i1 l1 k ∧ h.IsListIter i2 l2 k ∧ (∃ o, h.get? TO = some o) ∧
  ((IsZip h z TI TO .none ∧ ∃ a b, IsPair h TO a b) ∨ ∃ T f oT, IsZipHeld h z TI TO T f ∧ h.get? T = some oT ∧ T ≠ z ∧ T ≠ i1 ∧ T ≠ i2 ∧ T ≠ S)
theorem ZpSt.keep {h h' : Heap} {k : Nat} (st : ZpSt h S z TI TO i1 i2 l1 l2 k) (hS : S ∉ [z, TI, TO, i1, i2]) (kp : ∀ b o, b ≠ S → h.get? b = some o → h'.get? b = some o) : ZpSt h' S z TI TO i1 i2 l1 l2 k := by
  obtain ⟨a1, a2, a3, ⟨oO, aO⟩, a4⟩ := st
  have ne : ∀ {c}, c ∈ [z, TI, TO, i1, i2] → c ≠ S := fun hc e => hS (e ▸ hc)
  refine ⟨kp _ _ (ne (by simp)) a1, a2.at fun o e => kp _ o (ne (by simp)) e, a3.at fun o e => kp _ o (ne (by simp)) e, ⟨oO, kp _ _ (ne (by simp)) aO⟩, ?_⟩
  rcases a4 with ⟨b1, a, b, b2⟩ | ⟨T, f, oT, b1, b2, r1, r2, r3, r4⟩
  · exact .inl ⟨kp _ _ (ne (by simp)) b1, a, b, kp _ _ (ne (by simp)) b2⟩
  · exact .inr ⟨T, f, oT, kp _ _ (ne (by simp)) b1, kp _ _ r4 b2, r1, r2, r3, r4⟩
def prV (xs ys : List V) : List (List V) := List.zipWith (fun x y => [x, y]) xs ys
theorem prV_get {xs ys : List V} {i : Nat} {x y : V} (h1 : xs[i]? = some x) (h2 : ys[i]? = some y) : (prV xs ys)[i]? = some [x, y] := by
  unfold prV
  rw [List.getElem?_zipWith, h1, h2]
theorem prV_len (xs ys : List V) : (prV xs ys).length = min xs.length ys.length := by unfold prV; rw [List.length_zipWith]
/-- one turn of the zip -/
theorem zp_next (D : ZipApart z TI TO i1 i2 l1 l2) (hS : S ∉ [z, TI, TO, i1, i2]) {k : Nat} {s : Shared} {H : Hp} (I : Inv X pins σ H s) (st : ZpSt s.heap S z TI TO i1 i2 l1 l2 k) (hf : ∀ b ∈ [z, TI, TO, i1, i2], FpOk X pins H b) (hSl : ∃ zs, H S = some (.lst zs))
    (q1 : SqL X.K H l1 xs) (q2 : SqL X.K H l2 ys) {x y : V} (hx : xs[k]? = some x) (hy : ys[k]? = some y) {Q : Option Value → Shared → Prop} {E : Value → Shared → Prop}
    (h : ∀ T h', H T = none → T ∉ [z, TI, TO, i1, i2] → Inv X pins σ (upd H T (.tup [x, y])) { s with heap := h' } → ZpSt h' S z TI TO i1 i2 l1 l2 (k + 1) → (∀ b ∈ [z, TI, TO, i1, i2], FpOk X pins (upd H T (.tup [x, y])) b) → Q (some (.ref T)) { s with heap := h' }) :
    wpAny (model X.prog X.w) A (pyNext (.ref z)) Q E s := by
  obtain ⟨its, rv, p, _⟩ := I.list q1
  obtain ⟨its2, rv2, p2, _⟩ := I.list q2
  obtain ⟨u, hu, ru⟩ := rv.get hx
  obtain ⟨u2, hu2, ru2⟩ := rv2.get hy
  have hu' : its.toArray[k]? = some u := by simpa using hu
  have hu2' : its2.toArray[k]? = some u2 := by simpa using hu2
  obtain ⟨a1, a2, a3, ⟨oO, aO⟩, a4⟩ := st
  have tol : TO < s.heap.objs.size := Heap.lt_size aO
  have til : TI < s.heap.objs.size := Heap.lt_size a1
  have hn : H s.heap.objs.size = none := I.hok.fresh (Nat.le_refl _)
  obtain ⟨zs, hSl⟩ := hSl
  obtain ⟨_, itS, nS, _, _, eS⟩ := I.lstM hSl
  have hSs : s.heap.objs.size ≠ S := Nat.ne_of_gt (Heap.lt_size eS)
  have zl : z < s.heap.objs.size := by
    rcases a4 with ⟨b1, _⟩ | ⟨_, _, _, b1, _⟩ <;> exact Heap.lt_size b1
  have i1l : i1 < s.heap.objs.size := by obtain ⟨_, e, _⟩ := a2; exact Heap.lt_size e
  have i2l : i2 < s.heap.objs.size := by obtain ⟨_, e, _⟩ := a3; exact Heap.lt_size e
  have go : ∀ h', (∀ c o, c ≠ z → c ≠ TO → c ≠ i1 → c ≠ i2 → s.heap.get? c = some o → h'.get? c = some o) → IsPair h' s.heap.objs.size u u2 → ZpSt h' S z TI TO i1 i2 l1 l2 (k + 1) → s.heap.objs.size ∉ [z, TI, TO, i1, i2] → Q (some (.ref s.heap.objs.size)) { s with heap := h' } := fun h' hk hT st' nT => by
    have new : ObjOk X.prog X.w (upd H s.heap.objs.size (.tup [x, y])) h' s.heap.objs.size (.tup [x, y]) := ⟨by show 2 ≤ sizeLine; decide, [u, u2], .cons ru (.cons ru2 .nil), ⟨_, hT, rfl, _, rfl⟩⟩
    have I1 : Inv X pins σ (upd H s.heap.objs.size (.tup [x, y])) { s with heap := h' } :=
      I.turnedNew (t' := s.toks) (ch := [z, TI, TO, i1, i2]) (fun c o hb q => hk c o (fun e => hb (by simp [e])) (fun e => hb (by simp [e])) (fun e => hb (by simp [e])) (fun e => hb (by simp [e])) q) hf (Nat.le_refl _) new
    refine h _ h' hn nT I1 st' fun b hb => ?_
    obtain ⟨f0, f1⟩ := hf b hb
    exact ⟨by rw [upd_ne (fun e => nT (by rw [← e]; exact hb))]; exact f0, f1⟩
  rcases a4 with ⟨b1, a, b, b2⟩ | ⟨T, f, oT, b1, b2, r1, r2, r3, r4⟩
  · refine wpAny_pyNext_zip_item D b1 a1 b2 a2 a3 p.isList p2.isList hu' hu2' fun h' c1 c2 c3 c4 c5 c6 hk => ?_
    refine go h' hk c5 ⟨hk _ _ D.TIz D.TITO D.TIi1 D.TIi2 a1, c3, c4, ⟨_, c2⟩, .inr ⟨s.heap.objs.size, false, _, c1, c5, Nat.ne_of_gt zl, Nat.ne_of_gt i1l, Nat.ne_of_gt i2l, hSs⟩⟩ fun hm => ?_
    simp only [List.mem_cons, List.not_mem_nil, or_false] at hm
    rcases hm with e | e | e | e | e
    · exact Nat.ne_of_gt zl e
    · exact Nat.ne_of_gt til e
    · exact Nat.ne_of_gt tol e
    · exact Nat.ne_of_gt i1l e
    · exact Nat.ne_of_gt i2l e
  · refine wpAny_pyNext_zip_item_held D b1 b2 a1 a2 a3 p.isList p2.isList hu' hu2' fun h' c1 c3 c4 c5 c6 hk => ?_
    refine go h' (fun c o e1 e2 e3 e4 q => hk c o e1 e3 e4 q) c5 ⟨hk _ _ D.TIz D.TIi1 D.TIi2 a1, c3, c4, ⟨oO, hk _ _ D.TOz D.TOi1 D.TOi2 aO⟩, .inr ⟨T, true, oT, c1, hk _ _ r1 r2 r3 b2, r1, r2, r3, r4⟩⟩ fun hm => ?_
    simp only [List.mem_cons, List.not_mem_nil, or_false] at hm
    rcases hm with e | e | e | e | e
    · exact Nat.ne_of_gt zl e
    · exact Nat.ne_of_gt til e
    · exact Nat.ne_of_gt tol e
    · exact Nat.ne_of_gt i1l e
    · exact Nat.ne_of_gt i2l e
theorem zp_end (D : ZipApart z TI TO i1 i2 l1 l2) (hh : A.handled = none) {k : Nat} {s : Shared} {H : Hp} (I : Inv X pins σ H s) (st : ZpSt s.heap S z TI TO i1 i2 l1 l2 k) (hf : ∀ b ∈ [z, TI, TO, i1, i2], FpOk X pins H b)
    (q1 : SqL X.K H l1 xs) (q2 : SqL X.K H l2 ys) (hk : k = min xs.length ys.length) {Q : Option Value → Shared → Prop} {E : Value → Shared → Prop} (h : ∀ h', Inv X pins σ H { s with heap := h' } → Q none { s with heap := h' }) :
    wpAny (model X.prog X.w) A (pyNext (.ref z)) Q E s := by
  obtain ⟨its, rv, p, _⟩ := I.list q1
  obtain ⟨its2, rv2, p2, _⟩ := I.list q2
  have z1 := rv.length
  have z2 := rv2.length
  have hend : its.toArray[k]? = none ∨ its2.toArray[k]? = none := by
    rcases Nat.le_total xs.length ys.length with c | c
    · exact .inl (by simp; omega)
    · exact .inr (by simp; omega)
  obtain ⟨a1, a2, a3, ⟨oO, aO⟩, a4⟩ := st
  have go : ∀ h', (∀ c o, c ≠ z → c ≠ TO → c ≠ i1 → c ≠ i2 → s.heap.get? c = some o → h'.get? c = some o) → Q none { s with heap := h' } := fun h' hk => by
    refine h h' (I.turnedL (t' := s.toks) (ch := [z, TI, TO, i1, i2]) (fun c o hb q => ?_) hf)
    exact hk c o (fun e => hb (by simp [e])) (fun e => hb (by simp [e])) (fun e => hb (by simp [e])) (fun e => hb (by simp [e])) q
  rcases a4 with ⟨b1, a, b, b2⟩ | ⟨T, f, oT, b1, b2, r1, r2, r3, r4⟩
  · exact wpAny_pyNext_zip_end hh D b1 a1 b2 a2 a3 p.isList p2.isList hend fun h' hk => go h' hk
  · exact wpAny_pyNext_zip_end_held hh D b1 b2 a1 a2 a3 p.isList p2.isList hend fun h' hk => go h' fun c o e1 _ e3 e4 q => hk c o e1 e3 e4 q
/-- the list is filled -/
theorem zp_fill (D : ZipApart z TI TO i1 i2 l1 l2) (hS : S ∉ [z, TI, TO, i1, i2]) (hl1 : l1 ≠ S) (hl2 : l2 ≠ S) (hh : A.handled = none) (few : xs.length ≤ 1000) {H0 : Hp} {R : Result → Shared → Prop}
    (hR : ∀ H' s' ts, Inv X pins σ H' s' → H' S = some (.lst ts) → TupsIn H' ts (prV xs ys) → SameB S H0 H' → R (.ok (.ret .none)) s') :
    ∀ (m k : Nat) (s : Shared) (H : Hp) (ts : List V), k + m = min xs.length ys.length → Inv X pins σ H s → ZpSt s.heap S z TI TO i1 i2 l1 l2 k → (∀ b ∈ [z, TI, TO, i1, i2], FpOk X pins H b) → SqL X.K H l1 xs → SqL X.K H l2 ys → H S = some (.lst ts) → TupsIn H ts ((prV xs ys).take k) → SameB S H0 H →
      codeAny (model X.prog X.w) A (.builtin "list.extend.loop" ⟨[.ref S, .ref z, .none], []⟩) R s := by
  intro m
  induction m with
  | zero =>
    intro k s' H ts hk I st hf q1 q2 hl ht sb
    refine codeAny_builtin F.entry_extend_loop ?_
    rw [Around.under_plainId F.plain_extend_loop _]
    show wpAny _ A.in1 (pyNext (.ref z) >>= _) _ _ s'
    refine wpAny_bind (zp_end (A := A.in1) D (by simp [hh]) I st hf q1 q2 (by omega) fun h' I1 => ?_)
    refine wpAny_pure (hR H _ ts I1 hl ?_ sb)
    rw [List.take_of_length_le (by rw [prV_len]; omega)] at ht
    exact ht
  | succ m ih =>
    intro k s' H ts hk I st hf q1 q2 hl ht sb
    have hlt : k < xs.length := by omega
    have hlt2 : k < ys.length := by omega
    refine codeAny_builtin F.entry_extend_loop ?_
    rw [Around.under_plainId F.plain_extend_loop _]
    show wpAny _ A.in1 (pyNext (.ref z) >>= _) _ _ s'
    refine wpAny_bind (zp_next (A := A.in1) D hS I st hf ⟨_, hl⟩ q1 q2 (List.getElem?_eq_getElem hlt) (List.getElem?_eq_getElem hlt2) fun T h' nT nm I1 st1 hf1 => ?_)
    have hTS : S ≠ T := fun e => by rw [e, nT] at hl; cases hl
    have hl1' : (upd H T (.tup [xs[k], ys[k]])) S = some (.lst ts) := by rw [upd_ne hTS]; exact hl
    obtain ⟨zle, its, n, rv, hlen, eS⟩ := I1.lstM hl1'
    have htl : ts.length = k := by rw [ht.length, List.length_take, prV_len]; omega
    show wpAny _ A.in1 (updateSeq S (·.push (.ref T)) >>= _) _ _ _
    refine wpAny_bind ?_
    have hk9 : its.length < sizeLine := by rw [← hlen, htl]; exact small1000 (by omega)
    have I2 := I1.lset (f := (·.push (.ref T))) (its' := its ++ [.ref T]) (ys := ts ++ [.ref T]) (t' := s'.toks) hl1' eS (by simp) (rv.append (.cons (show RelV (.ref T) (.ref T) from rfl) .nil)) (by rw [List.length_append]; show ts.length + 1 ≤ _; rw [hlen]; omega)
    refine wpAny_updateSeq eS rfl (wpAny_pure ⟨plainId_quiet F.plain_extend_loop _, ?_⟩) (by rw [List.size_toArray]; omega) (by show (its.toArray.push _).size ≤ _; rw [Array.size_push, List.size_toArray]; omega)
    have nS : ∀ {b : Addr} {o : HO}, (upd H T (.tup [xs[k], ys[k]])) b = some o → b ≠ S → (upd (upd H T (.tup [xs[k], ys[k]])) S (.lst (ts ++ [.ref T]))) b = some o := fun e n => by rw [upd_ne n]; exact e
    have s1 : Same H (upd H T (.tup [xs[k], ys[k]])) := same_upd nT
    refine ih (k + 1) _ _ (ts ++ [V.ref T]) (by omega) I2 (st1.keep hS fun b o hb q => (Heap.get?_update_other _ _ (Ne.symm hb)).trans q) (fun b hb => ?_) ?_ ?_ upd_same ?_ ?_
    · obtain ⟨f0, f1⟩ := hf1 b hb
      exact ⟨by rw [upd_ne (fun e => hS (by rw [← e]; exact hb))]; exact f0, f1⟩
    · exact sq_keep (s1.seq q1) hl1
    · exact sq_keep (s1.seq q2) hl2
    · have hg := prV_get (xs := xs) (ys := ys) (List.getElem?_eq_getElem hlt) (List.getElem?_eq_getElem hlt2)
      rw [take_more hg]
      exact TupsIn.app hl ht s1 nT upd_same
    · exact fun b o n e => by
        rw [upd_ne n]
        exact s1 _ _ (sb b o n e)
/-- list(zip(a, b)) in a reading -/
def LZQ (K : PySem.W.Frag) (Q : VK) (vs : List V) (H : Hp) : Prop := ∃ (a b : Addr) (xs ys : List V), vs = [.ref a, .ref b] ∧ SqL K H a xs ∧ SqL K H b ys ∧ xs.length ≤ 1000 ∧ ∀ p H' ts, H p = none → H' p = some (.lst ts) → TupsIn H' ts (prV xs ys) → Same H H' → Q (.ref p) H'
def tLstZip (K : PySem.W.Frag) (ta : TA) : TE := fun σ H Q => ta σ H fun vs H1 => LZQ K Q vs H1
theorem s_lstZip {K : PySem.W.Frag} {ta : TA} {H : Hp} {σ : L2.St} {Q : VK} (h : ta σ H fun vs H1 => LZQ K Q vs H1) : tLstZip K ta σ H Q := h
theorem zip_no_len : typeLookup (.type "zip") "__len__" = pure none := am_miss_of_fast (by decide +kernel)
theorem zip_no_hint : typeLookup (.type "zip") "__length_hint__" = pure none := am_miss_of_fast (by decide +kernel)
theorem sq_lt {H : Hp} {s : Shared} {a : Addr} {ys : List V} (I : Inv X pins σ H s) (h : SqL X.K H a ys) : a < s.heap.objs.size := by
  obtain ⟨its, _, p, _⟩ := I.list h
  exact p.lt
theorem pe_listZip {e1 e2 : Expr} {ta : TA} {p p2 pos pos2 : Pos} (hc : X.calm = true) (hg : Gl X "list") (hm : X.mg "list" = none) (hg2 : Gl X "zip") (hm2 : X.mg "zip" = none) (ha : PA X [e1, e2] ta)
    (na : starEach [.Call (.Name "zip" p2) [e1, e2] [] pos2] X.env = (false, eval (.Call (.Name "zip" p2) [e1, e2] [] pos2) X.env) :: starEach [] X.env := by rfl)
    (hs : starEach [e1, e2] X.env = (false, eval e1 X.env) :: starEach [e2] X.env := by rfl) (hpl : (backTo pos2 (starEach [e2] X.env)).any (·.1) = false := by rfl) :
    PE X (.Call (.Name "list" p) [.Call (.Name "zip" p2) [e1, e2] [] pos2] [] pos) (tLstZip X.K ta) := by
  refine ⟨fun pins s σ H Q I h => ?_⟩
  refine Call_ (ld_blt I hg hm boot_list (PyProof.Rows.callWith_type1 (args_cons ?_ na) na))
  refine Call_ (ld_blt I hg2 hm2 PyProof.Rows.boot_zip (PyProof.Rows.callWith_type1 (thn (ha.run pos2 pins s σ H _ I h) fun us s1 ⟨vs, H1, I1, r1, q1⟩ => ?_) hs hpl))
  obtain ⟨a, b, xs, ys, rfl, hqx, hqy, few, q⟩ := q1
  obtain ⟨u1, u2, rfl, r1, r2⟩ := vals2 r1
  cases (show u1 = Value.ref a from r1)
  cases (show u2 = Value.ref b from r2)
  obtain ⟨its, rv, p1, _⟩ := I1.list hqx
  obtain ⟨its2, rv2, p2, _⟩ := I1.list hqy
  refine call_zip_2 p1.isList p2.isList fun h' hz hTI hTO h1 h2 hsz hk => args_nil ?_
  have I2 : Inv X pins σ H1 { s1 with heap := h' } := I1.kept (t' := s1.toks) hk
  generalize hn : s1.heap.objs.size = n at *
  have D : ZipApart (n + 4) (n + 2) (n + 3) n (n + 1) a b := PySem.W.ktu_apart n a b (by rw [← hn]; exact p1.lt) (by rw [← hn]; exact p2.lt)
  have fresh5 : ∀ c ∈ [n + 4, n + 2, n + 3, n, n + 1], FpOk X pins H1 c := fun c hcm => by
    have hle : s1.heap.objs.size ≤ c := by
      simp only [List.mem_cons, List.not_mem_nil, or_false] at hcm
      omega
    exact I1.fpOk hle (I1.hok.fresh hle)
  have nS : H1 h'.objs.size = none := I2.hok.fresh (Nat.le_refl _)
  refine callType_codes (Q₁ := fun obj s₁ => obj = .ref h'.objs.size ∧ s₁ = { s1 with heap := h'.push { cls := .type "list", data := .seq #[] } }) F.called_list (F.typeCall_list_1 _) F.entry_list_init (code_list_new _ ⟨rfl, rfl⟩) fun obj s₁ hq => ?_
  obtain ⟨rfl, rfl⟩ := hq
  have hS : (h'.push { cls := .type "list", data := .seq #[] }).get? h'.objs.size = some { cls := .type "list", data := .seq #[] } := Heap.get?_push_size _ rfl
  refine ⟨⟨_, hS, rfl⟩, F.args_list_init_2 _ _, ?_⟩
  have I3 : Inv X pins σ (upd H1 h'.objs.size (.lst [])) { s1 with heap := h'.push { cls := .type "list", data := .seq #[] } } := I2.lnew (its := []) .nil (Nat.zero_le _)
  generalize hSd : h'.objs.size = S at *
  have hnS : S = n + 5 := hsz
  have up : ∀ b o, h'.get? b = some o → (h'.push { cls := .type "list", data := .seq #[] }).get? b = some o := fun b o e => Heap.get?_push_of_some _ e
  generalize h'.push { cls := .type "list", data := .seq #[] } = g at *
  -- what the making does first
  show wpAny _ X.A.in1.in1 (do let old ← Builtin.List.listItems (.ref S); Builtin.List.listUpdate (.ref S) (fun _ => #[]); letGo old.toList.reverse; Builtin.List.listExtendWith (.ref S) (.ref (n + 4)) .none) _ _ _
  refine wpAny_bind ?_
  unfold Builtin.List.listItems
  refine wpAny_bind (wpAny_seqItems hS rfl (wpAny_pure ?_))
  refine wpAny_bind ?_
  have g2 := Heap.get?_update_self (Obj.mapSeq (fun _ => (#[] : Array Value))) hS rfl
  refine wpAny_updateSeq hS rfl ?_
  refine wpAny_bind (wpAny_letGo ?_)
  have J1 := I3.lset (f := fun _ => #[]) (its' := []) (ys := []) (t' := s1.toks) upd_same hS (by simp) .nil (Nat.zero_le _)
  have old : ∀ (h : Heap) (f : Obj → Obj) (b : Addr) (o : Obj), b ≠ S → h.get? b = some o → (h.update S f).get? b = some o := fun h f b o hb e => (Heap.get?_update_other _ _ (Ne.symm hb)).trans e
  have sz : ∀ {b : Addr}, b < S → b ≠ S := fun h => Nat.ne_of_lt h
  have hzS : n + 4 ≠ S := by rw [hnS]; exact Nat.ne_of_lt (by omega)
  have hz2 : IsZip (g.update S (Obj.mapSeq fun _ => #[])) (n + 4) (n + 2) (n + 3) .none := old _ _ _ _ hzS (up _ _ hz)
  unfold Builtin.List.listExtendWith
  refine wpAny_bind (wpAny_typeOf (T := "zip") (s := { s1 with heap := _ }) ⟨_, hz2, rfl⟩ ?_)
  have b1 : Builtin.List.listSameRef (.ref S) (.ref (n + 4)) = false := by simp [Builtin.List.listSameRef, hzS.symm]
  have b2 : (Value.type "zip" == Value.type "list") = false := by decide
  have b3 : (Value.type "zip" == Value.type "tuple") = false := by decide
  simp only [b1, b2, b3, Bool.or_false, Bool.false_eq_true, if_false]
  refine wpAny_bind (wpAny_pyIter_zip (s := { s1 with heap := _ }) hz2 ?_)
  refine wpAny_bind (wpAny_holding ?_)
  unfold Builtin.List.listLengthHint
  refine wpAny_bind (wpAny_specialOf (T := "zip") (s := { s1 with heap := _ }) ⟨_, hz2, rfl⟩ zip_no_len ?_)
  show wpAny _ X.A.in1.in1 (specialOf (Value.ref (n + 4)) (Str.ofString "__length_hint__") >>= _) _ _ _
  refine wpAny_bind (wpAny_specialOf (T := "zip") (s := { s1 with heap := _ }) ⟨_, hz2, rfl⟩ zip_no_hint ?_)
  refine wpAny_pure ?_
  show wpAny _ X.A.in1.in1 (rule "list.extend.makes-room" >>= fun _ => Builtin.List.listTouch (.ref S) >>= fun _ => again (.builtin "list.extend.loop" ⟨[.ref S, .ref (n + 4), .none], []⟩)) _ _ _
  refine wpAny_bind (wpAny_rule ?_)
  refine wpAny_bind ?_
  show wpAny _ X.A.in1.in1 (updateSeq S (·.push .none) >>= fun _ => updateSeq S (·.pop)) _ _ _
  refine wpAny_bind (wpAny_updateSeq g2 rfl ?_)
  obtain ⟨_, its5, n5, r5, l5, e5⟩ := J1.lstM upd_same
  cases r5
  have J2 := J1.lset (f := (·.push .none)) (its' := [.none]) (ys := [.non]) (t' := s1.toks) upd_same e5 (by simp) (.cons (show RelV .non .none from rfl) .nil) (by show 1 ≤ sizeLine; decide)
  have g3 := Heap.get?_update_self (Obj.mapSeq (·.push Value.none)) g2 rfl
  refine wpAny_updateSeq (hz := by seq_fits) g3 rfl ?_
  obtain ⟨_, its6, n6, r6, l6, e6⟩ := J2.lstM upd_same
  obtain ⟨u6, rfl, r6'⟩ := vals1 r6
  have J3 := J2.lset (f := (·.pop)) (its' := []) (ys := []) (t' := s1.toks) upd_same e6 (by simp) .nil (Nat.zero_le _)
  have eH : upd (upd (upd (upd H1 S (.lst [])) S (.lst [])) S (.lst [.non])) S (.lst []) = upd H1 S (.lst []) := by
    funext b
    by_cases hb : b = S
    · subst hb; simp only [upd_same]
    · simp only [upd_ne hb]
  rw [eH] at J3
  refine wpAny_pure ⟨plainId_quiet F.plain_extend_loop _, ?_⟩
  have neS : ∀ {c : Addr}, c ∈ [n + 4, n + 2, n + 3, n, n + 1] → c ≠ S := fun {c} hcm => by
    have h4 : ∀ j : Nat, j < 5 → n + j ≠ S := fun j hj => by rw [hnS]; exact Nat.ne_of_lt (Nat.add_lt_add_left hj n)
    simp only [List.mem_cons, List.not_mem_nil, or_false] at hcm
    rcases hcm with e | e | e | e | e
    · rw [e]; exact h4 4 (by decide)
    · rw [e]; exact h4 2 (by decide)
    · rw [e]; exact h4 3 (by decide)
    · rw [e]; exact h4 0 (by decide)
    · rw [e]; exact h4 1 (by decide)
  have k4 : ∀ b o, b ≠ S → h'.get? b = some o → (((g.update S (Obj.mapSeq fun _ => #[])).update S (Obj.mapSeq (·.push Value.none))).update S (Obj.mapSeq (·.pop))).get? b = some o := fun b o hb e => old _ _ b o hb (old _ _ b o hb (old _ _ b o hb (up _ _ e)))
  refine zp_fill (X := X) (pins := pins) (σ := σ) (xs := xs) (ys := ys) (H0 := H1) D (fun hm => neS hm rfl) ?_ ?_ (I1.ok.hd hc |> fun e => by simp [e]) few (fun H' s' ts J e t sb => ⟨rfl, .ref S, H', J, rfl, q S H' ts nS e t (SameB.same nS sb (Same.refl _))⟩) (min xs.length ys.length) 0 _ _ [] (by omega) J3 ⟨k4 _ _ (neS (by simp)) hTI, h1.at fun o e => k4 _ o (neS (by simp)) e, h2.at fun o e => k4 _ o (neS (by simp)) e, ⟨_, k4 _ _ (neS (by simp)) hTO⟩, .inl ⟨k4 _ _ (neS (by simp)) hz, _, _, k4 _ _ (neS (by simp)) hTO⟩⟩ (fun b hb => ?_) (sq_keep hqx ?_) (sq_keep hqy ?_) upd_same .nil (fun b o hb e => by rw [upd_ne hb]; exact e)
  · exact fun e => by have h := p1.lt; rw [hn, e, hnS] at h; exact absurd h (Nat.not_lt.mpr (Nat.le_add_right n 5))
  · exact fun e => by have h := p2.lt; rw [hn, e, hnS] at h; exact absurd h (Nat.not_lt.mpr (Nat.le_add_right n 5))
  · obtain ⟨f0, f1⟩ := fresh5 b hb
    exact ⟨by rw [upd_ne (neS hb)]; exact f0, f1⟩
  · exact fun e => by have h := p1.lt; rw [hn, e, hnS] at h; exact absurd h (Nat.not_lt.mpr (Nat.le_add_right n 5))
  · exact fun e => by have h := p2.lt; rw [hn, e, hnS] at h; exact absurd h (Nat.not_lt.mpr (Nat.le_add_right n 5))
end
end R

/-! the divisor of two numbers: what the loop keeps -/
namespace M
/-- what is told of a and b -/
structure DivOk (a b g u v : Int) : Prop where
  hg : g = (Int.gcd a b : Nat)
  eq : u * a + v * b = g
  hu : u.natAbs ≤ max 1 b.natAbs
  hv : v.natAbs ≤ max 1 a.natAbs
/-- behind the first turn: s the sign of g and rest, t that of u -/
structure DivIn (a b g u v r x y s t : Int) (G R U X q : Nat) : Prop where
  hs : s = 1 ∨ s = -1
  ht : t = 1 ∨ t = -1
  hg : g = s * G
  hr : r = s * R
  hu : u = t * U
  hx : x = -(t * X)
  lt : R < G
  px : 0 < X
  det : X * G + U * R = b.natAbs
  gcd : Nat.gcd G R = Int.gcd a b
  e1 : u * a + v * b = g
  e2 : x * a + y * b = r
  last : (U = 0 ∧ v = 1 ∧ g = b) ∨ (0 < U ∧ U * (q * G + R) ≤ b.natAbs ∧ G < q * G + R)
def DivSt (a b g u v r x y : Int) : Prop :=
  (g = a ∧ u = 1 ∧ v = 0 ∧ r = b ∧ x = 0 ∧ y = 1) ∨ (b ≠ 0 ∧ ∃ s t G R U X q, DivIn a b g u v r x y s t G R U X q)
theorem nabs_sign {s : Int} (hs : s = 1 ∨ s = -1) (n : Nat) : (s * (n : Int)).natAbs = n := by
  rcases hs with rfl | rfl <;> omega
theorem fdiv_sign {s : Int} (hs : s = 1 ∨ s = -1) (G R : Nat) : (s * (G : Int)).fdiv (s * R) = ((G / R : Nat) : Int) := by
  rcases hs with rfl | rfl
  · rw [Int.one_mul, Int.one_mul]; exact (Int.ofNat_fdiv G R).symm
  · rw [Int.neg_one_mul, Int.neg_one_mul, Int.neg_fdiv_neg]; exact (Int.ofNat_fdiv G R).symm
theorem fdiv_le (g r : Int) : (g.fdiv r).natAbs ≤ g.natAbs := by
  rcases Int.lt_trichotomy r 0 with h | h | h
  · have e : g.fdiv r = (-g).fdiv (-r) := (Int.neg_fdiv_neg g r).symm
    rw [e, Int.fdiv_eq_ediv_of_nonneg _ (by omega)]
    have := Int.natAbs_ediv_le_natAbs (-g) (-r)
    omega
  · subst h; simp
  · rw [Int.fdiv_eq_ediv_of_nonneg _ (by omega)]
    exact Int.natAbs_ediv_le_natAbs g r
theorem gcd_sub (a b q : Int) : Int.gcd b (a - q * b) = Int.gcd a b := by
  rw [Int.gcd_sub_mul_right_right]
  exact Int.gcd_comm _ _
theorem fmod_sign (a : Int) {b : Int} (hb : b ≠ 0) : ∃ s R, (s = 1 ∨ s = -1) ∧ b = s * (b.natAbs : Int) ∧ a - a.fdiv b * b = s * ((R : Nat) : Int) ∧ R < b.natAbs := by
  have e : a - a.fdiv b * b = a.fmod b := by rw [Int.fmod_def, Int.mul_comm]
  by_cases h : 0 < b
  · have h1 := Int.fmod_lt_of_pos a h
    have h2 := Int.fmod_nonneg_of_pos a h
    exact ⟨1, (a.fmod b).toNat, .inl rfl, by omega, by rw [e]; omega, by omega⟩
  · have h0 : 0 < -b := by omega
    have e2 : a.fmod b = -((-a).fmod (-b)) := by rw [Int.neg_fmod_neg]; omega
    have h1 := Int.fmod_lt_of_pos (-a) h0
    have h2 := Int.fmod_nonneg_of_pos (-a) h0
    exact ⟨-1, ((-a).fmod (-b)).toNat, .inr rfl, by omega, by rw [e, e2]; omega, by omega⟩
theorem gcd_signs {s : Int} (hs : s = 1 ∨ s = -1) (G R : Nat) : Int.gcd (s * (G : Int)) (s * R) = Nat.gcd G R := by
  unfold Int.gcd
  rw [nabs_sign hs, nabs_sign hs]
theorem div_step {a b g u v r x y : Int} (h : DivSt a b g u v r x y) (hr : r ≠ 0) :
    DivSt a b r x y (g - g.fdiv r * r) (u - g.fdiv r * x) (v - g.fdiv r * y) ∧ (g - g.fdiv r * r).natAbs < r.natAbs := by
  rcases h with ⟨rfl, rfl, rfl, rfl, rfl, rfl⟩ | ⟨hb, s, t, G, R, U, X, q, I⟩
  · obtain ⟨s, R, hs, e1, e2, lt⟩ := fmod_sign g hr
    refine ⟨.inr ⟨hr, s, -1, r.natAbs, R, 0, 1, 0, ⟨hs, .inr rfl, e1, e2, by omega, by omega, lt, by omega, by omega, ?_, by omega, ?_, .inl ⟨rfl, rfl, rfl⟩⟩⟩, ?_⟩
    · have h1 := gcd_sub g r (g.fdiv r)
      rw [e2] at h1
      conv at h1 => lhs; arg 1; rw [e1]
      rw [gcd_signs hs] at h1
      exact h1
    · grind
    · rw [e2, nabs_sign hs]; exact lt
  · obtain ⟨hs, ht, hg, hr', hu, hx, lt, px, det, gcd, e1, e2, last⟩ := I
    have hR : 0 < R := by
      rcases Nat.eq_zero_or_pos R with z | z
      · subst z; rw [hr'] at hr; exact absurd (by simp) hr
      · exact z
    have ed : g.fdiv r = ((G / R : Nat) : Int) := by rw [hg, hr']; exact fdiv_sign hs G R
    have dm := Nat.div_add_mod G R
    have ml := Nat.mod_lt G hR
    have hq : 0 < G / R := Nat.div_pos (Nat.le_of_lt lt) hR
    generalize hQ : G / R = Q at *
    generalize hS : G % R = S at *
    have er : g - (Q : Int) * r = s * (S : Int) := by
      have : (G : Int) = R * Q + S := by rw [← dm]; push_cast; rfl
      rw [hg, hr', this]; grind
    rw [ed]
    refine ⟨.inr ⟨hb, s, -t, R, S, X, U + Q * X, Q, ⟨hs, by omega, hr', er, by rw [hx]; grind, ?_, ml, Nat.add_pos_right _ (Nat.mul_pos hq px), ?_, ?_, e2, by grind, .inr ⟨px, ?_, ?_⟩⟩⟩, ?_⟩
    · rw [hu, hx]; push_cast; grind
    · rw [← det, ← dm]; grind
    · rw [← gcd, ← hS, Nat.gcd_comm G R, Nat.gcd_rec R G, Nat.gcd_comm]
    · rw [← det]
      have : Q * R + S = G := by rw [Nat.mul_comm]; exact dm
      rw [this]; omega
    · have : Q * R + S = G := by rw [Nat.mul_comm]; exact dm
      omega
    · rw [er, hr', nabs_sign hs, nabs_sign hs]; exact ml
/-- the sizes in the loop -/
theorem div_sizes {a b g u v r x y : Int} (h : DivSt a b g u v r x y) : x.natAbs ≤ max 1 b.natAbs ∧ u.natAbs ≤ max 1 b.natAbs ∧ y.natAbs ≤ 1 + a.natAbs ∧ v.natAbs ≤ 1 + a.natAbs ∧ g.natAbs ≤ max a.natAbs b.natAbs ∧ r.natAbs ≤ b.natAbs := by
  rcases h with ⟨rfl, rfl, rfl, rfl, rfl, rfl⟩ | ⟨hb, s, t, G, R, U, X, q, I⟩
  · omega
  · obtain ⟨hs, ht, hg, hr', hu, hx, lt, px, det, gcd, e1, e2, last⟩ := I
    have ex : x.natAbs = X := by rw [hx, Int.natAbs_neg]; exact nabs_sign ht X
    have eu : u.natAbs = U := by rw [hu]; exact nabs_sign ht U
    have eg : g.natAbs = G := by rw [hg]; exact nabs_sign hs G
    have er : r.natAbs = R := by rw [hr']; exact nabs_sign hs R
    have hG : 0 < G := by omega
    have hX : X ≤ X * G := Nat.le_mul_of_pos_right X hG
    have hB : 0 < b.natAbs := by omega
    -- v b = g - u a
    have k : ∀ (z w c : Int), z * a + w * b = c → z.natAbs ≤ b.natAbs → c.natAbs ≤ b.natAbs → w.natAbs ≤ 1 + a.natAbs := fun z w c e hz hc => by
      have e' : w * b = c - z * a := by omega
      have e3 : (w * b).natAbs ≤ c.natAbs + (z * a).natAbs := by rw [e']; omega
      rw [Int.natAbs_mul, Int.natAbs_mul] at e3
      have e4 : z.natAbs * a.natAbs ≤ b.natAbs * a.natAbs := Nat.mul_le_mul_right _ hz
      have e5 : w.natAbs * b.natAbs ≤ (1 + a.natAbs) * b.natAbs := by
        have : (1 + a.natAbs) * b.natAbs = b.natAbs + b.natAbs * a.natAbs := by grind
        omega
      exact Nat.le_of_mul_le_mul_right e5 hB
    have hXb : X ≤ b.natAbs := by omega
    have hGb : g.natAbs ≤ b.natAbs ∧ U ≤ b.natAbs := by
      rcases last with ⟨h1, h2, h3⟩ | ⟨hU, h1, h2⟩
      · rw [h3]; omega
      · have hX1 : G ≤ X * G := Nat.le_mul_of_pos_left G px
        have : U ≤ U * (q * G + R) := Nat.le_mul_of_pos_right U (by omega)
        omega
    have hRb : r.natAbs ≤ b.natAbs := by omega
    have k1 := k u v g e1 (by omega) hGb.1
    have k2 := k x y r e2 (by omega) hRb
    omega
theorem div_half {a b g u v : Int} (e1 : u * a + v * b = g) (hb : 0 < b.natAbs) (h1 : 2 * g.natAbs ≤ b.natAbs) (h2 : 2 * u.natAbs ≤ b.natAbs) : 2 * v.natAbs ≤ 1 + a.natAbs := by
  have e' : v * b = g - u * a := by omega
  have e3 : (v * b).natAbs ≤ g.natAbs + (u * a).natAbs := by rw [e']; omega
  rw [Int.natAbs_mul, Int.natAbs_mul] at e3
  have e4 : 2 * u.natAbs * a.natAbs ≤ b.natAbs * a.natAbs := Nat.mul_le_mul_right _ h2
  have x0 : 2 * u.natAbs * a.natAbs = 2 * (u.natAbs * a.natAbs) := Nat.mul_assoc _ _ _
  have x1 : (1 + a.natAbs) * b.natAbs = b.natAbs + b.natAbs * a.natAbs := by rw [Nat.add_mul, Nat.one_mul, Nat.mul_comm a.natAbs]
  have x2 : (2 * v.natAbs) * b.natAbs = 2 * (v.natAbs * b.natAbs) := Nat.mul_assoc _ _ _
  have e6 : (2 * v.natAbs) * b.natAbs ≤ (1 + a.natAbs) * b.natAbs := by omega
  exact Nat.le_of_mul_le_mul_right e6 hb
theorem div_end {a b g u v r x y : Int} (h : DivSt a b g u v r x y) (hr : r = 0) : Int.gcd a b = g.natAbs ∧ u * a + v * b = g ∧ u.natAbs ≤ max 1 b.natAbs ∧ v.natAbs ≤ max 1 a.natAbs := by
  rcases h with ⟨rfl, rfl, rfl, rfl, rfl, rfl⟩ | ⟨hb, s, t, G, R, U, X, q, I⟩
  · subst hr
    refine ⟨by simp, by omega, by omega, by omega⟩
  · have hsz := div_sizes (.inr ⟨hb, s, t, G, R, U, X, q, I⟩)
    obtain ⟨hs, ht, hg, hr', hu, hx, lt, px, det, gcd, e1, e2, last⟩ := I
    have er : r.natAbs = R := by rw [hr']; exact nabs_sign hs R
    have hR : R = 0 := by omega
    subst hR
    have eg : g.natAbs = G := by rw [hg]; exact nabs_sign hs G
    have eu : u.natAbs = U := by rw [hu]; exact nabs_sign ht U
    refine ⟨by rw [← gcd, eg]; simp, e1, hsz.2.1, ?_⟩
    rcases last with ⟨h1, h2, h3⟩ | ⟨hU, h1, h2⟩
    · rw [h2]; omega
    · have hq : 2 ≤ q := by
        rcases Nat.lt_or_ge q 2 with z | z
        · have : q = 0 ∨ q = 1 := by omega
          rcases this with rfl | rfl <;> omega
        · exact z
      have h3 : 2 * G ≤ q * G := Nat.mul_le_mul_right G hq
      have h4 : U * (2 * G) ≤ b.natAbs := Nat.le_trans (Nat.mul_le_mul_left U (by omega)) h1
      have z1 : 2 * G ≤ U * (2 * G) := Nat.le_mul_of_pos_left _ hU
      have z2 : U * (2 * G) = 2 * U * G := by grind
      have z3 : 2 * U ≤ 2 * U * G := Nat.le_mul_of_pos_right _ (by omega)
      have z4 := div_half e1 (by omega) (by omega) (by omega)
      have ha : a.natAbs = 0 → v.natAbs ≤ 1 := by omega
      omega
theorem div_told {a b g u v r x y : Int} (h : DivSt a b g u v r x y) (hr : r = 0) : (g < 0 → DivOk a b (-g) (-u) (-v)) ∧ (¬ g < 0 → DivOk a b g u v) := by
  obtain ⟨k1, k2, k3, k4⟩ := div_end h hr
  refine ⟨fun z => ⟨by omega, ?_, by omega, by omega⟩, fun z => ⟨by omega, k2, k3, k4⟩⟩
  rw [← k2, Int.neg_mul, Int.neg_mul]; omega
end M

/-! powers by n -/
namespace M
/-- the rest of a power -/
def pw (n a : Int) (e : Nat) : Int := a ^ e % n
theorem pw_range {n : Int} (hn : 0 < n) (a : Int) (e : Nat) : 0 ≤ pw n a e ∧ pw n a e < n := ⟨Int.emod_nonneg _ (by omega), Int.emod_lt_of_pos _ hn⟩
theorem pow_emod (a n : Int) (e : Nat) : (a % n) ^ e % n = a ^ e % n := by
  induction e with
  | zero => rw [Int.pow_zero, Int.pow_zero]
  | succ e ih => rw [Int.pow_succ, Int.pow_succ, Int.mul_emod, ih, Int.emod_emod_of_dvd _ (Int.dvd_refl n), ← Int.mul_emod]
theorem pw_mod (n a : Int) (e : Nat) : pw n (a % n) e = pw n a e := pow_emod a n e
/-- what the loop keeps: found * base ^ e -/
theorem pw_turn {n f b : Int} {e : Nat} {r : Int} (h : f * b ^ e % n = r) :
    (e % 2 = 1 → (f * b % n) * (b * b % n) ^ (e / 2) % n = r) ∧ (e % 2 ≠ 1 → f * (b * b % n) ^ (e / 2) % n = r) := by
  have sq : (b * b) ^ (e / 2) = b ^ (2 * (e / 2)) := by rw [Int.pow_mul, Int.pow_succ, Int.pow_succ, Int.pow_zero, Int.one_mul]
  constructor
  · intro ho
    have ee : e = 2 * (e / 2) + 1 := by omega
    rw [Int.mul_emod, Int.emod_emod_of_dvd _ (Int.dvd_refl n), pow_emod, ← Int.mul_emod, sq, ← h]
    conv => rhs; rw [ee, Int.pow_succ]
    congr 1
    grind
  · intro ho
    have ee : e = 2 * (e / 2) := by omega
    rw [Int.mul_emod, pow_emod, ← Int.mul_emod, sq, ← ee, h]
theorem pw_end {n f : Int} (h0 : 0 ≤ f) (h1 : f < n) {b r : Int} (h : f * b ^ 0 % n = r) : f = r := by
  rw [← h, Int.pow_zero, Int.mul_one, Int.emod_eq_of_lt h0 h1]
theorem pw_one {n a : Int} {e : Nat} : 1 % n * (a % n) ^ e % n = pw n a e := by
  rw [Int.mul_emod, Int.emod_emod_of_dvd _ (Int.dvd_refl n), pow_emod, ← Int.mul_emod, Int.one_mul]; rfl
theorem pw_mul (n a : Int) (e : Nat) : pw n a e * a % n = pw n a (e + 1) := by
  unfold pw
  rw [Int.mul_emod, Int.emod_emod_of_dvd _ (Int.dvd_refl n), ← Int.mul_emod, Int.pow_succ]
theorem pw_zero (n a : Int) : pw n a 0 = 1 % n := by unfold pw; rw [Int.pow_zero]
theorem gcd_mod (a n : Int) : Int.gcd (a % n) n = Int.gcd a n := by
  have e : a % n = a - n * (a / n) := by have := Int.emod_add_mul_ediv a n; omega
  rw [e, Int.gcd_comm, Int.gcd_sub_mul_left_right, Int.gcd_comm]
theorem inv_of {n a g u v : Int} (hn : 0 < n) (h : DivOk (a % n) n g u v) (hg : Int.gcd a n = 1) : (u % n * a - 1) % n = 0 := by
  have e := h.eq
  have hg' : g = 1 := by rw [h.hg, gcd_mod, hg]; rfl
  refine Int.emod_eq_zero_of_dvd ?_
  have e1 : a % n = a - n * (a / n) := by have := Int.emod_add_mul_ediv a n; omega
  have e2 : u % n = u - n * (u / n) := by have := Int.emod_add_mul_ediv u n; omega
  refine ⟨-(v) + u * (a / n) - (u / n) * a, ?_⟩
  rw [hg', e1] at e
  rw [e2]
  grind
theorem gcd_pos {a n : Int} (hn : 0 < n) : 0 < Int.gcd a n := Int.gcd_pos_of_ne_zero_right a (by omega)
/-- numbers with the same product by n -/
theorem inv_unit {n a b : Int} (h : (b * a - 1) % n = 0) : b * a % n = 1 % n := by
  have := Int.emod_emod_of_dvd (b * a) (Int.dvd_refl n)
  exact Int.emod_eq_emod_iff_emod_sub_eq_zero.mpr h
theorem inv_pow {n a b : Int} (h : (b * a - 1) % n = 0) (e : Nat) : (pw n b e * pw n a e - 1) % n = 0 := by
  have e1 : b * a % n = 1 % n := inv_unit h
  refine Int.emod_eq_emod_iff_emod_sub_eq_zero.mp ?_
  unfold pw
  rw [← Int.mul_emod, ← Int.mul_pow, ← pow_emod, e1, pow_emod, Int.one_pow]
theorem back_ok {n a b : Int} (hn : 0 < n) (h : (b * a - 1) % n = 0) (e : Nat) : (pw n b (e + 1) * pw n a e * a - 1) % n = 0 := by
  have k := inv_pow h (e + 1)
  rw [← pw_mul n a e] at k
  refine Int.emod_eq_emod_iff_emod_sub_eq_zero.mp ?_
  rw [← Int.emod_eq_emod_iff_emod_sub_eq_zero.mpr k, Int.mul_assoc, Int.mul_emod]
  conv => rhs; rw [Int.mul_emod, Int.emod_emod_of_dvd _ (Int.dvd_refl n)]
theorem gcd_abs (a : Int) {n : Int} (hn : 0 < n) : Nat.gcd n.natAbs (a.natAbs % n.natAbs) = Int.gcd a n := by
  rw [Nat.gcd_comm, ← Nat.gcd_rec, Nat.gcd_comm]; rfl
theorem pw_add (n a : Int) (e f : Nat) : pw n a (e + f) = pw n a e * pw n a f % n := by
  unfold pw
  rw [← Int.mul_emod, Int.pow_add]
theorem pw_pw (n a : Int) (e f : Nat) : pw n a (e * f) = pw n (pw n a e) f := by
  unfold pw
  rw [pow_emod, ← Int.pow_mul]
theorem pw_prod (n a b : Int) (e : Nat) : pw n (a * b) e = pw n a e * pw n b e % n := by
  unfold pw
  rw [← Int.mul_emod, Int.mul_pow]
theorem pw_congr {n a b : Int} (h : a % n = b % n) (e : Nat) : pw n a e = pw n b e := by rw [← pw_mod n a, ← pw_mod n b, h]
theorem inv_unique {n a b c : Int} (b0 : 0 ≤ b) (b1 : b < n) (c0 : 0 ≤ c) (c1 : c < n) (hb : (b * a - 1) % n = 0) (hc : (c * a - 1) % n = 0) : b = c := by
  have h1 : (b - c) % n = 0 := by
    obtain ⟨x, hx⟩ := Int.dvd_of_emod_eq_zero hb
    obtain ⟨y, hy⟩ := Int.dvd_of_emod_eq_zero hc
    refine Int.emod_eq_zero_of_dvd ⟨c * x - b * y, ?_⟩
    have e : b - c = c * (b * a - 1) - b * (c * a - 1) := by grind
    rw [e, hx, hy]; grind
  have h2 := Int.emod_eq_emod_iff_emod_sub_eq_zero.mpr h1
  rw [Int.emod_eq_of_lt b0 b1, Int.emod_eq_of_lt c0 c1] at h2
  exact h2
theorem emod_one_of {n x : Int} (h : (x - 1) % n = 0) : x % n = 1 % n := Int.emod_eq_emod_iff_emod_sub_eq_zero.mpr h
end M

/-! places put together -/
namespace M
theorem snoc_ind {α : Type} {motive : List α → Prop} (l : List α) (nil : motive []) (append_singleton : ∀ (l : List α) (a : α), motive l → motive (l ++ [a])) : motive l := by
  have h : ∀ r : List α, motive r.reverse := fun r => by
    induction r with
    | nil => exact nil
    | cons a r ih => rw [List.reverse_cons]; exact append_singleton _ _ ih
  have := h l.reverse
  rwa [List.reverse_reverse] at this
/-- alike by the greatest number that divides both moduli -/
def alike (m r n s : Int) : Prop := (r - s) % (Int.gcd m n : Nat) = 0
instance (m r n s : Int) : Decidable (alike m r n s) := by unfold alike; exact inferInstance
/-- G divides lcm a b: then it divides what gcd G a and gcd G b both divide -/
theorem dvd_of_parts {G a b y : Nat} (h : G ∣ Nat.lcm a b) (h1 : Nat.gcd G a ∣ y) (h2 : Nat.gcd G b ∣ y) : G ∣ y := by
  rcases Nat.eq_zero_or_pos G with z | hG
  · subst z
    have hl : Nat.lcm a b = 0 := Nat.eq_zero_of_zero_dvd h
    have : a = 0 ∨ b = 0 := by
      rcases Nat.eq_zero_or_pos a with q | q
      · exact .inl q
      · rcases Nat.eq_zero_or_pos b with q2 | q2
        · exact .inr q2
        · exact absurd hl (Nat.ne_of_gt (Nat.lcm_pos q q2))
    rcases this with rfl | rfl
    · simpa using h1
    · simpa using h2
  · have key : G ∣ Nat.lcm (Nat.gcd G a) (Nat.gcd G b) := by
      -- gcd G a * gcd G b = G * gcd G (gcd a b)
      have e1 : Nat.gcd (Nat.gcd G a) (Nat.gcd G b) = Nat.gcd G (Nat.gcd a b) := by
        apply Nat.dvd_antisymm
        · refine Nat.dvd_gcd (Nat.dvd_trans (Nat.gcd_dvd_left _ _) (Nat.gcd_dvd_left _ _)) (Nat.dvd_gcd ?_ ?_)
          · exact Nat.dvd_trans (Nat.gcd_dvd_left _ _) (Nat.gcd_dvd_right _ _)
          · exact Nat.dvd_trans (Nat.gcd_dvd_right _ _) (Nat.gcd_dvd_right _ _)
        · refine Nat.dvd_gcd (Nat.dvd_gcd (Nat.gcd_dvd_left _ _) ?_) (Nat.dvd_gcd (Nat.gcd_dvd_left _ _) ?_)
          · exact Nat.dvd_trans (Nat.gcd_dvd_right _ _) (Nat.gcd_dvd_left _ _)
          · exact Nat.dvd_trans (Nat.gcd_dvd_right _ _) (Nat.gcd_dvd_right _ _)
      have e2 : G * Nat.gcd G (Nat.gcd a b) ∣ Nat.gcd G a * Nat.gcd G b := by
        have l1 : G * Nat.gcd G (Nat.gcd a b) = Nat.gcd (G * G) (Nat.gcd (G * a) (G * b)) := by rw [Nat.gcd_mul_left, Nat.gcd_mul_left]
        have l2 : Nat.gcd G a * Nat.gcd G b = Nat.gcd (Nat.gcd (G * G) (G * b)) (Nat.gcd (a * G) (a * b)) := by rw [Nat.gcd_mul_left, Nat.gcd_mul_left, Nat.gcd_mul_right]
        rw [l1, l2]
        refine Nat.dvd_gcd (Nat.dvd_gcd ?_ ?_) (Nat.dvd_gcd ?_ ?_)
        · exact Nat.gcd_dvd_left _ _
        · exact Nat.dvd_trans (Nat.gcd_dvd_right _ _) (Nat.gcd_dvd_right _ _)
        · exact Nat.dvd_trans (Nat.gcd_dvd_right _ _) (by rw [Nat.mul_comm a G]; exact Nat.gcd_dvd_left _ _)
        · have e3 : a * b = Nat.gcd a b * Nat.lcm a b := (Nat.gcd_mul_lcm a b).symm
          rw [e3, Nat.mul_comm (Nat.gcd a b)]
          have e5 : Nat.gcd (G * G) (Nat.gcd (G * a) (G * b)) ∣ G * Nat.gcd a b := by
            refine Nat.dvd_trans (Nat.gcd_dvd_right _ _) ?_
            rw [Nat.gcd_mul_left]
            exact Nat.dvd_refl _
          exact Nat.dvd_trans e5 (Nat.mul_dvd_mul_right h _)
      have gp : 0 < Nat.gcd G (Nat.gcd a b) := Nat.gcd_pos_of_pos_left _ hG
      have e4 : Nat.gcd (Nat.gcd G a) (Nat.gcd G b) * Nat.lcm (Nat.gcd G a) (Nat.gcd G b) = Nat.gcd G a * Nat.gcd G b := Nat.gcd_mul_lcm _ _
      rw [e1] at e4
      rw [← e4, Nat.mul_comm G] at e2
      exact Nat.dvd_of_mul_dvd_mul_left gp e2
    exact Nat.dvd_trans key (Nat.lcm_dvd h1 h2)
/-- the join of two places -/
structure Joined (m r n s w x : Int) : Prop where
  hw : w = (Nat.lcm m.natAbs n.natAbs : Nat)
  x0 : 0 ≤ x
  x1 : x < w
  e1 : (x - r) % m = 0
  e2 : (x - s) % n = 0
theorem lcm_step {m n : Int} (hm : 0 < m) (hn : 0 < n) : m * (n / (Int.gcd m n : Nat)) = (Nat.lcm m.natAbs n.natAbs : Nat) := by
  obtain ⟨a, rfl⟩ := Int.eq_ofNat_of_zero_le (Int.le_of_lt hm)
  obtain ⟨b, rfl⟩ := Int.eq_ofNat_of_zero_le (Int.le_of_lt hn)
  show (a : Int) * ((b : Int) / ((Nat.gcd a b : Nat) : Int)) = ((Nat.lcm a b : Nat) : Int)
  rw [← Int.natCast_ediv, ← Int.natCast_mul]
  congr 1
  unfold Nat.lcm
  exact (Nat.mul_div_assoc a (Nat.gcd_dvd_right a b)).symm
theorem join_ok {m r n s i : Int} (hm : 0 < m) (hn : 0 < n) (ha : alike m r n s) (hi : (i * (m / (Int.gcd m n : Nat)) - 1) % (n / (Int.gcd m n : Nat)) = 0) :
    Joined m r n s (m * (n / (Int.gcd m n : Nat))) ((r + m * ((s - r) / (Int.gcd m n : Nat) * i % (n / (Int.gcd m n : Nat)))) % (m * (n / (Int.gcd m n : Nat)))) := by
  have gp : 0 < (Int.gcd m n : Nat) := Int.gcd_pos_of_ne_zero_left n (by omega)
  have gd1 : ((Int.gcd m n : Nat) : Int) ∣ m := Int.gcd_dvd_left ..
  have gd2 : ((Int.gcd m n : Nat) : Int) ∣ n := Int.gcd_dvd_right ..
  have ha' : ((Int.gcd m n : Nat) : Int) ∣ s - r := by
    have : ((Int.gcd m n : Nat) : Int) ∣ r - s := Int.dvd_of_emod_eq_zero ha
    have e : s - r = -(r - s) := by omega
    rw [e]; exact (Int.dvd_neg).mpr this
  have hl := lcm_step hm hn
  generalize ((Int.gcd m n : Nat) : Int) = g at *
  obtain ⟨a, rfl⟩ := gd1
  obtain ⟨b, rfl⟩ := gd2
  obtain ⟨c, hc⟩ := ha'
  have g0 : g ≠ 0 := by
    intro z; subst z; simp at hm
  rw [Int.mul_ediv_cancel_left _ g0] at hi hl ⊢
  rw [Int.mul_ediv_cancel_left _ g0] at hi
  rw [hc, Int.mul_ediv_cancel_left _ g0]
  have hw : 0 < g * a * b := by
    have hb : 0 < b * g := by rw [Int.mul_comm]; exact hn
    rw [hl]
    exact Int.natCast_pos.mpr (Nat.lcm_pos (by omega) (by omega))
  have hwne : g * a * b ≠ 0 := by omega
  refine ⟨hl, Int.emod_nonneg _ hwne, Int.emod_lt_of_pos _ hw, ?_, ?_⟩
  · -- by m
    refine Int.emod_eq_zero_of_dvd ?_
    have e := Int.emod_add_mul_ediv (r + g * a * (c * i % b)) (g * a * b)
    refine ⟨(c * i % b) - b * ((r + g * a * (c * i % b)) / (g * a * b)), ?_⟩
    grind
  · refine Int.emod_eq_zero_of_dvd ?_
    have e := Int.emod_add_mul_ediv (r + g * a * (c * i % b)) (g * a * b)
    have e2 := Int.emod_add_mul_ediv (c * i) b
    obtain ⟨k, hk⟩ := Int.dvd_of_emod_eq_zero hi
    -- a (c i - b q) = c + b (c k - a q)
    refine ⟨c * k - a * (c * i / b) - a * ((r + g * a * (c * i % b)) / (g * a * b)), ?_⟩
    generalize (r + g * a * (c * i % b)) / (g * a * b) = Q at *
    generalize (r + g * a * (c * i % b)) % (g * a * b) = X at *
    generalize c * i % b = T at *
    generalize c * i / b = Q2 at *
    have e3 : g * b * (c * k - a * Q2 - a * Q) = g * (c * (b * k)) - g * a * (b * Q2) - g * a * b * Q := by grind
    rw [e3, ← hk]
    grind
/-- the least number that all moduli divide -/
def lcmL (pl : List (Int × Int)) : Nat := pl.foldl (fun w q => Nat.lcm w q.1.natAbs) 1
theorem lcmL_snoc (pl : List (Int × Int)) (q : Int × Int) : lcmL (pl ++ [q]) = Nat.lcm (lcmL pl) q.1.natAbs := by unfold lcmL; rw [List.foldl_append]; rfl
theorem dvd_of_all (y : Nat) : ∀ (pl : List (Int × Int)) (G : Nat), G ∣ lcmL pl → (∀ q ∈ pl, Nat.gcd G q.1.natAbs ∣ y) → G ∣ y := by
  intro pl
  induction pl using snoc_ind with
  | nil => intro G h _; exact Nat.dvd_trans h (Nat.one_dvd y)
  | append_singleton pl q ih =>
    intro G h hq
    rw [lcmL_snoc] at h
    refine dvd_of_parts h (ih _ (Nat.gcd_dvd_right _ _) fun p hp => ?_) (hq q (by simp))
    refine Nat.dvd_trans (Nat.dvd_gcd ?_ (Nat.gcd_dvd_right _ _)) (hq p (by simp [hp]))
    exact Nat.dvd_trans (Nat.gcd_dvd_left _ _) (Nat.gcd_dvd_left _ _)
/-- places put together so far -/
structure Put (pl : List (Int × Int)) (w x : Int) : Prop where
  hw : w = (lcmL pl : Nat)
  x0 : 0 ≤ x
  x1 : x < w
  at_ : ∀ q ∈ pl, (x - q.2) % q.1 = 0
theorem put_nil : Put [] 1 0 := ⟨rfl, by decide, by decide, by simp⟩
theorem put_pos {pl : List (Int × Int)} {w x : Int} (h : Put pl w x) : 0 < w := by have := h.x0; have := h.x1; omega
theorem put_alike {pl : List (Int × Int)} {w x n s : Int} (h : Put pl w x) (ha : ∀ q ∈ pl, alike q.1 q.2 n s) : alike w x n s := by
  have key : Int.gcd w n ∣ (x - s).natAbs := by
    refine dvd_of_all _ pl _ ?_ fun q hq => ?_
    · have e : w.natAbs = lcmL pl := by have := h.hw; omega
      rw [← e]; exact Nat.gcd_dvd_left _ _
    · have d1 : Nat.gcd (Int.gcd w n) q.1.natAbs ∣ q.1.natAbs := Nat.gcd_dvd_right _ _
      have d2 : Nat.gcd (Int.gcd w n) q.1.natAbs ∣ Int.gcd q.1 n := Nat.dvd_gcd d1 (Nat.dvd_trans (Nat.gcd_dvd_left _ _) (Nat.gcd_dvd_right _ _))
      have z1 : ((Nat.gcd (Int.gcd w n) q.1.natAbs : Nat) : Int) ∣ x - q.2 := Int.dvd_trans (Int.ofNat_dvd_left.mpr d1) (Int.dvd_of_emod_eq_zero (h.at_ q hq))
      have z2 : ((Nat.gcd (Int.gcd w n) q.1.natAbs : Nat) : Int) ∣ q.2 - s := Int.dvd_trans (Int.natCast_dvd_natCast.mpr d2) (Int.dvd_of_emod_eq_zero (ha q hq))
      have z3 := Int.dvd_add z1 z2
      rw [show x - q.2 + (q.2 - s) = x - s by omega] at z3
      exact Int.ofNat_dvd_left.mp z3
  exact Int.emod_eq_zero_of_dvd (Int.ofNat_dvd_left.mpr key)
theorem put_more {pl : List (Int × Int)} {w x n s w' x' : Int} (h : Put pl w x) (j : Joined w x n s w' x') : Put (pl ++ [(n, s)]) w' x' := by
  refine ⟨?_, j.x0, j.x1, fun q hq => ?_⟩
  · rw [j.hw, lcmL_snoc]
    have e : w.natAbs = lcmL pl := by have := h.hw; omega
    rw [e]
  · rcases List.mem_append.mp hq with z | z
    · have hd : q.1 ∣ w := by
        -- each modulus divides the whole
        have hh := h.hw
        have : ∀ (l : List (Int × Int)) (p : Int × Int), p ∈ l → p.1.natAbs ∣ lcmL l := by
          intro l
          induction l using snoc_ind with
          | nil => intro p hp; simp at hp
          | append_singleton l r ih =>
            intro p hp
            rw [lcmL_snoc]
            rcases List.mem_append.mp hp with u | u
            · exact Nat.dvd_trans (ih p u) (Nat.dvd_lcm_left _ _)
            · rw [List.mem_singleton.mp u]; exact Nat.dvd_lcm_right _ _
        rw [hh]
        exact Int.ofNat_dvd_right.mpr (this pl q z)
      have e1 : w ∣ x' - x := Int.dvd_of_emod_eq_zero j.e1
      have e2 : q.1 ∣ x - q.2 := Int.dvd_of_emod_eq_zero (h.at_ q z)
      have e3 := Int.dvd_add (Int.dvd_trans hd e1) e2
      rw [show x' - x + (x - q.2) = x' - q.2 by omega] at e3
      exact Int.emod_eq_zero_of_dvd e3
    · rw [List.mem_singleton.mp z]; exact j.e2
/-- no two of them are apart -/
def allAlike (pl : List (Int × Int)) : Prop := ∀ (i j : Nat) (p q : Int × Int), i < j → pl[i]? = some p → pl[j]? = some q → alike p.1 p.2 q.1 q.2
def alikeBefore (pl : List (Int × Int)) (i j : Nat) : Prop := ∀ (i' j' : Nat) (p q : Int × Int), i' < j' → (i' < i ∨ i' = i ∧ j' < j) → pl[i']? = some p → pl[j']? = some q → alike p.1 p.2 q.1 q.2
def firstApart (pl : List (Int × Int)) (i j : Nat) : Prop := i < j ∧ (∃ p q, pl[i]? = some p ∧ pl[j]? = some q ∧ ¬alike p.1 p.2 q.1 q.2) ∧ alikeBefore pl i j
theorem before_row {pl : List (Int × Int)} {i : Nat} (h : alikeBefore pl i pl.length) : alikeBefore pl (i + 1) (i + 2) := fun i' j' p q l o hp hq => by
  have hj : j' < pl.length := (List.getElem?_eq_some_iff.mp hq).1
  refine h i' j' p q l ?_ hp hq
  omega
theorem before_one {pl : List (Int × Int)} {i j : Nat} {p q : Int × Int} (h : alikeBefore pl i j) (hp : pl[i]? = some p) (hq : pl[j]? = some q) (ha : alike p.1 p.2 q.1 q.2) : alikeBefore pl i (j + 1) := fun i' j' p' q' l o hp' hq' => by
  by_cases e : i' = i ∧ j' = j
  · obtain ⟨rfl, rfl⟩ := e
    rw [hp] at hp'; rw [hq] at hq'
    cases hp'; cases hq'; exact ha
  · exact h i' j' p' q' l (by omega) hp' hq'
theorem before_zero (pl : List (Int × Int)) : alikeBefore pl 0 1 := fun i' j' p q l o hp hq => by omega
theorem before_all {pl : List (Int × Int)} {j : Nat} (h : alikeBefore pl pl.length j) : allAlike pl := fun i' j' p q l hp hq => by
  have hj : i' < pl.length := (List.getElem?_eq_some_iff.mp hp).1
  exact h i' j' p q l (.inl hj) hp hq
theorem put_le {pl : List (Int × Int)} {w x : Int} (h : Put pl w x) (hm : ∀ q ∈ pl, 0 < q.1 ∧ q.1 < 2 ^ 60) (hl : pl.length ≤ 12) : w < 2 ^ 721 := by
  have key : ∀ l : List (Int × Int), (∀ q ∈ l, 0 < q.1 ∧ q.1 < 2 ^ 60) → lcmL l ≤ 2 ^ (60 * l.length) := fun l => by
    refine snoc_ind (motive := fun l => (∀ q ∈ l, 0 < q.1 ∧ q.1 < 2 ^ 60) → lcmL l ≤ 2 ^ (60 * l.length)) l (fun _ => by decide) (fun l q ih hq => ?_)
    rw [lcmL_snoc, List.length_append]
    have h1 := ih fun p hp => hq p (by simp [hp])
    have h2 := hq q (by simp)
    have h3 : Nat.lcm (lcmL l) q.1.natAbs ≤ lcmL l * q.1.natAbs := Nat.div_le_self _ _
    have h4 : lcmL l * q.1.natAbs ≤ 2 ^ (60 * l.length) * 2 ^ 60 := Nat.mul_le_mul h1 (by omega)
    rw [← Nat.pow_add] at h4
    exact Nat.le_trans h3 h4
  have h1 := key pl hm
  have h2 : 2 ^ (60 * pl.length) ≤ 2 ^ 720 := Nat.pow_le_pow_right (by decide) (by omega)
  have h3 := h.hw
  have h4 : lcmL pl ≤ 2 ^ 720 := Nat.le_trans h1 h2
  have h5 : (2 : Nat) ^ 720 < 2 ^ 721 := Nat.pow_lt_pow_right (by decide) (by decide)
  have h6 : ((lcmL pl : Nat) : Int) < ((2 ^ 721 : Nat) : Int) := Int.ofNat_lt.mpr (Nat.lt_of_le_of_lt h4 h5)
  rw [h3]
  exact_mod_cast h6
theorem put_two {c d : Nat} {r s w x : Int} (h : Put [((c : Int), r), ((d : Int), s)] w x) : w = (c : Int) / ((Nat.gcd c d : Nat) : Int) * d := by
  rw [h.hw, ← Int.natCast_ediv, ← Int.natCast_mul]
  congr 1
  show Nat.lcm (Nat.lcm 1 c) d = _
  rw [Nat.lcm_one_left]
  unfold Nat.lcm
  rw [Nat.mul_comm c d, Nat.mul_div_assoc d (Nat.gcd_dvd_left c d), Nat.mul_comm]
theorem put_unique {pl : List (Int × Int)} {w x w' x' : Int} (h : Put pl w x) (h' : Put pl w' x') : w = w' ∧ x = x' := by
  have ew : w = w' := by rw [h.hw, h'.hw]
  refine ⟨ew, ?_⟩
  have key : ∀ (y : Int) (l : List (Int × Int)), (∀ q ∈ l, q.1 ∣ y) → ((lcmL l : Nat) : Int) ∣ y := fun y l => by
    refine snoc_ind (motive := fun l => (∀ q ∈ l, q.1 ∣ y) → ((lcmL l : Nat) : Int) ∣ y) l (fun _ => Int.one_dvd _) (fun l q ih hq => ?_)
    rw [lcmL_snoc]
    have h1 := ih fun p hp => hq p (by simp [hp])
    have h2 := hq q (by simp)
    exact Int.ofNat_dvd_left.mpr (Nat.lcm_dvd (Int.ofNat_dvd_left.mp h1) (Int.natAbs_dvd_natAbs.mpr h2))
  have d := key (x - x') pl fun q hq => by
    have d1 := Int.dvd_of_emod_eq_zero (h.at_ q hq)
    have d2 := Int.dvd_of_emod_eq_zero (h'.at_ q hq)
    have d3 := Int.dvd_sub d1 d2
    rw [show x - q.2 - (x' - q.2) = x - x' by omega] at d3
    exact d3
  rw [← h.hw] at d
  have z := Int.emod_eq_emod_iff_emod_sub_eq_zero.mpr (Int.emod_eq_zero_of_dvd d)
  have a0 := h.x0
  have a1 := h.x1
  have b0 := h'.x0
  have b1 := h'.x1
  rw [Int.emod_eq_of_lt a0 a1, Int.emod_eq_of_lt b0 (by omega)] at z
  exact z
theorem lcm_lt (pl : List (Int × Int)) (hm : ∀ q ∈ pl, 0 < q.1 ∧ q.1 < 2 ^ 60) (hl : pl.length ≤ 12) : lcmL pl < 2 ^ 721 := by
  have key : ∀ l : List (Int × Int), (∀ q ∈ l, 0 < q.1 ∧ q.1 < 2 ^ 60) → lcmL l ≤ 2 ^ (60 * l.length) := fun l => by
    refine snoc_ind (motive := fun l => (∀ q ∈ l, 0 < q.1 ∧ q.1 < 2 ^ 60) → lcmL l ≤ 2 ^ (60 * l.length)) l (fun _ => by decide) (fun l q ih hq => ?_)
    rw [lcmL_snoc, List.length_append]
    have h1 := ih fun p hp => hq p (by simp [hp])
    have h2 := hq q (by simp)
    have h3 : Nat.lcm (lcmL l) q.1.natAbs ≤ lcmL l * q.1.natAbs := Nat.div_le_self _ _
    have h4 : lcmL l * q.1.natAbs ≤ 2 ^ (60 * l.length) * 2 ^ 60 := Nat.mul_le_mul h1 (by omega)
    rw [← Nat.pow_add] at h4
    exact Nat.le_trans h3 h4
  have h1 := key pl hm
  have h2 : 2 ^ (60 * pl.length) ≤ 2 ^ 720 := Nat.pow_le_pow_right (by decide) (by omega)
  have h5 : (2 : Nat) ^ 720 < 2 ^ 721 := Nat.pow_lt_pow_right (by decide) (by decide)
  exact Nat.lt_of_le_of_lt (Nat.le_trans h1 h2) h5
theorem lcm_pos (pl : List (Int × Int)) (hm : ∀ q ∈ pl, 0 < q.1) : 0 < lcmL pl := by
  refine snoc_ind (motive := fun l => (∀ q ∈ l, 0 < q.1) → 0 < lcmL l) pl (fun _ => by decide) (fun l q ih hq => ?_) hm
  rw [lcmL_snoc]
  have := hq q (by simp)
  exact Nat.lcm_pos (ih fun p hp => hq p (by simp [hp])) (by omega)
theorem first_unique {pl : List (Int × Int)} {i j i' j' : Nat} (h : firstApart pl i j) (h' : firstApart pl i' j') : i = i' ∧ j = j' := by
  obtain ⟨l, ⟨p, q, hp, hq, z⟩, b⟩ := h
  obtain ⟨l', ⟨p', q', hp', hq', z'⟩, b'⟩ := h'
  by_cases c : i < i' ∨ i = i' ∧ j < j'
  · exact absurd (b' i j p q l c hp hq) z
  · by_cases c' : i' < i ∨ i' = i ∧ j' < j
    · exact absurd (b i' j' p' q' l' c' hp' hq') z'
    · omega
end M

namespace M
theorem lcmL_iff (e : Nat) (pl : List (Int × Int)) : lcmL pl ∣ e ↔ ∀ q ∈ pl, q.1.natAbs ∣ e := by
  induction pl using snoc_ind with
  | nil => exact ⟨fun _ q h => absurd h (by simp), fun _ => Nat.one_dvd e⟩
  | append_singleton pl q ih =>
    rw [lcmL_snoc, Nat.lcm_dvd_iff, ih]
    constructor
    · rintro ⟨h1, h2⟩ p hp
      rcases List.mem_append.mp hp with z | z
      · exact h1 p z
      · rw [List.mem_singleton.mp z]; exact h2
    · intro h
      exact ⟨fun p hp => h p (List.mem_append.mpr (.inl hp)), h q (by simp)⟩
theorem lcmL_rev (pl : List (Int × Int)) : lcmL pl.reverse = lcmL pl :=
  Nat.dvd_antisymm ((lcmL_iff _ _).mpr fun q hq => (lcmL_iff _ _).mp (Nat.dvd_refl _) q (List.mem_reverse.mp hq)) ((lcmL_iff _ _).mpr fun q hq => (lcmL_iff _ _).mp (Nat.dvd_refl _) q (List.mem_reverse.mpr hq))
def plN (N : Int) (ms : List Int) : List (Int × Int) := ms.map fun m => (m, N % m)
theorem plN_dvd {N : Int} {ms : List Int} {m : Int} (h0 : ∀ m ∈ ms, 0 < m) (hm : m ∈ ms) : m ∣ ((lcmL (plN N ms) : Nat) : Int) := by
  have h1 := (lcmL_iff _ (plN N ms)).mp (Nat.dvd_refl _) (m, N % m) (List.mem_map.mpr ⟨m, hm, rfl⟩)
  have h2 := h0 m hm
  have e : (m.natAbs : Int) = m := by omega
  rw [← e]
  exact Int.ofNat_dvd.mpr h1
theorem plN_all (N : Int) (ms : List Int) : allAlike (plN N ms) := fun i j p q hij hp hq => by
  unfold plN at hp hq
  rw [List.getElem?_map] at hp hq
  obtain ⟨m, _, rfl⟩ := Option.map_eq_some_iff.mp hp
  obtain ⟨n, _, rfl⟩ := Option.map_eq_some_iff.mp hq
  show (N % m - N % n) % (Int.gcd m n : Nat) = 0
  have d1 : ((Int.gcd m n : Nat) : Int) ∣ m := Int.gcd_dvd_left ..
  have d2 : ((Int.gcd m n : Nat) : Int) ∣ n := Int.gcd_dvd_right ..
  have e1 := Int.emod_emod_of_dvd N d1
  have e2 := Int.emod_emod_of_dvd N d2
  rw [Int.sub_emod, e1, e2, Int.sub_self, Int.zero_emod]
theorem plN_put {N : Int} {ms : List Int} (h0 : ∀ m ∈ ms, 0 < m) : Put (plN N ms) (lcmL (plN N ms) : Nat) (N % (lcmL (plN N ms) : Nat)) := by
  have L0 : 0 < lcmL (plN N ms) := lcm_pos _ fun q hq => by
    obtain ⟨m, hm, rfl⟩ := List.mem_map.mp hq
    exact h0 m hm
  refine ⟨rfl, Int.emod_nonneg _ (by omega), Int.emod_lt_of_pos _ (by omega), fun q hq => ?_⟩
  obtain ⟨m, hm, rfl⟩ := List.mem_map.mp hq
  show (N % _ - N % m) % m = 0
  rw [Int.sub_emod, Int.emod_emod_of_dvd N (plN_dvd h0 hm), Int.emod_emod_of_dvd N (Int.dvd_refl m), Int.sub_self, Int.zero_emod]
theorem plN_rev (N : Int) (ms : List Int) : plN N ms.reverse = (plN N ms).reverse := by unfold plN; rw [List.map_reverse]
theorem plN_mod {N : Int} {ms : List Int} (h0 : ∀ m ∈ ms, 0 < m) : (ms.map fun m => N % (lcmL (plN N ms) : Nat) % m) = ms.map fun m => N % m := List.map_congr_left fun m hm => Int.emod_emod_of_dvd N (plN_dvd h0 hm)
end M

namespace C
open PySem PySem.Spec PyProof.Rows L2 R

def top (i : Nat) : Stmt := PySem.Challenge.pw_rootprime_k65_whole_apart_and_together_a.main.body.getD i (.Pass ⟨0, 0, 0, 0⟩)
abbrev FnP (K : PySem.W.Frag) (x : Str) (st : Stmt) (f : Addr) (fd : FuncData) : Prop := FunD K x x (defArgs st) (defBody st) (defScope st) [] [] f fd
abbrev s_divisor : Stmt := top 4
abbrev N_divisor : List Str := ["a", "b", "g", "u", "v", "rest", "x", "y", "times"]
theorem sc_divisor : FnScope N_divisor ["a", "b"] (defScope s_divisor) := ⟨rfl, rfl, rfl, by decide +kernel, rfl, by decide +kernel, by decide +kernel⟩
abbrev s_inverse : Stmt := top 5
abbrev N_inverse : List Str := ["n", "a", "g", "u", "v"]
theorem sc_inverse : FnScope N_inverse ["n", "a"] (defScope s_inverse) := ⟨rfl, rfl, rfl, by decide +kernel, rfl, by decide +kernel, by decide +kernel⟩
abbrev s_can_join : Stmt := top 7
abbrev N_can_join : List Str := ["one", "other", "g"]
theorem sc_can_join : FnScope N_can_join ["one", "other"] (defScope s_can_join) := ⟨rfl, rfl, rfl, by decide +kernel, rfl, by decide +kernel, by decide +kernel⟩
abbrev s_first_apart : Stmt := top 8
abbrev N_first_apart : List Str := ["places", "i", "j"]
theorem sc_first_apart : FnScope N_first_apart ["places"] (defScope s_first_apart) := ⟨rfl, rfl, rfl, by decide +kernel, rfl, by decide +kernel, by decide +kernel⟩
abbrev s_joined : Stmt := top 9
abbrev N_joined : List Str := ["one", "other", "g", "step", "times", "whole"]
theorem sc_joined : FnScope N_joined ["one", "other"] (defScope s_joined) := ⟨rfl, rfl, rfl, by decide +kernel, rfl, by decide +kernel, by decide +kernel⟩
abbrev s_put_together : Stmt := top 10
abbrev N_put_together : List Str := ["places", "two", "found", "place"]
theorem sc_put_together : FnScope N_put_together ["places"] (defScope s_put_together) := ⟨rfl, rfl, rfl, by decide +kernel, rfl, by decide +kernel, by decide +kernel⟩
abbrev s_taken_apart : Stmt := top 11
abbrev N_taken_apart : List Str := ["number", "moduli", "modulus"]
theorem sc_taken_apart : FnScope N_taken_apart ["number", "moduli"] (defScope s_taken_apart) := ⟨rfl, rfl, rfl, by decide +kernel, rfl, by decide +kernel, by decide +kernel⟩
abbrev s__law_cell_at : Stmt := top 13
abbrev N__law_cell_at : List Str := ["_law_script", "_law_k"]
theorem sc__law_cell_at : FnScope N__law_cell_at ["_law_script", "_law_k"] (defScope s__law_cell_at) := ⟨rfl, rfl, rfl, by decide +kernel, rfl, by decide +kernel, by decide +kernel⟩
abbrev s__law_state : Stmt := top 14
abbrev N__law_state : List Str := ["_law_cell", "_law_free"]
theorem sc__law_state : FnScope N__law_state ["_law_cell", "_law_free"] (defScope s__law_state) := ⟨rfl, rfl, rfl, by decide +kernel, rfl, by decide +kernel, by decide +kernel⟩
abbrev s__law_take : Stmt := top 15
abbrev N__law_take : List Str := ["_law_state_here", "_law_many", "_law_found"]
theorem sc__law_take : FnScope N__law_take ["_law_state_here", "_law_many"] (defScope s__law_take) := ⟨rfl, rfl, rfl, by decide +kernel, rfl, by decide +kernel, by decide +kernel⟩
abbrev s__law_number : Stmt := top 16
abbrev N__law_number : List Str := ["_law_state_here", "_law_way", "_law_found", "_law_k"]
theorem sc__law_number : FnScope N__law_number ["_law_state_here"] (defScope s__law_number) := ⟨rfl, rfl, rfl, by decide +kernel, rfl, by decide +kernel, by decide +kernel⟩
abbrev s__law_modulus : Stmt := top 17
abbrev N__law_modulus : List Str := ["_law_state_here", "_law_way"]
theorem sc__law_modulus : FnScope N__law_modulus ["_law_state_here"] (defScope s__law_modulus) := ⟨rfl, rfl, rfl, by decide +kernel, rfl, by decide +kernel, by decide +kernel⟩
abbrev s__law_common : Stmt := top 18
abbrev N__law_common : List Str := ["_law_one", "_law_other"]
theorem sc__law_common : FnScope N__law_common ["_law_one", "_law_other"] (defScope s__law_common) := ⟨rfl, rfl, rfl, by decide +kernel, rfl, by decide +kernel, by decide +kernel⟩
abbrev s__law_are_rests : Stmt := top 19
abbrev N__law_are_rests : List Str := ["_law_number_here", "_law_moduli", "_law_found", "_law_modulus_here", "_law_rest"]
theorem sc__law_are_rests : FnScope N__law_are_rests ["_law_number_here", "_law_moduli", "_law_found"] (defScope s__law_are_rests) := ⟨rfl, rfl, rfl, by decide +kernel, rfl, by decide +kernel, by decide +kernel⟩
abbrev s__law_right : Stmt := top 20
abbrev N__law_right : List Str := ["_law_state_here", "_law_number_here", "_law_moduli", "_law_whole", "_law_modulus_here", "_law_handed", "_law_rests", "_law_places", "_law_again", "_law_k"]
theorem sc__law_right : FnScope N__law_right ["_law_state_here"] (defScope s__law_right) := ⟨rfl, rfl, rfl, by decide +kernel, rfl, by decide +kernel, by decide +kernel⟩
abbrev s_law : Stmt := top 21
abbrev N_law : List Str := ["_law_script", "_law_cell"]
theorem sc_law : FnScope N_law ["_law_script"] (defScope s_law) := ⟨rfl, rfl, rfl, by decide +kernel, rfl, by decide +kernel, by decide +kernel⟩
abbrev s_init_NoInverse : Stmt := inClass (top 2) 0
theorem sc_init_NoInverse : FnScope ["self", "divisor"] ["self", "divisor"] (defScope s_init_NoInverse) := ⟨rfl, rfl, rfl, by decide +kernel, rfl, by decide +kernel, by decide +kernel⟩
def fn : List He5.DefA := [⟨fun K => He.ga K "divisor", "divisor", "divisor", defArgs s_divisor, defBody s_divisor, defScope s_divisor, [], []⟩,
  ⟨fun K => He.ga K "inverse", "inverse", "inverse", defArgs s_inverse, defBody s_inverse, defScope s_inverse, [], []⟩,
  ⟨fun K => He.ga K "can_join", "can_join", "can_join", defArgs s_can_join, defBody s_can_join, defScope s_can_join, [], []⟩,
  ⟨fun K => He.ga K "first_apart", "first_apart", "first_apart", defArgs s_first_apart, defBody s_first_apart, defScope s_first_apart, [], []⟩,
  ⟨fun K => He.ga K "joined", "joined", "joined", defArgs s_joined, defBody s_joined, defScope s_joined, [], []⟩,
  ⟨fun K => He.ga K "put_together", "put_together", "put_together", defArgs s_put_together, defBody s_put_together, defScope s_put_together, [], []⟩,
  ⟨fun K => He.ga K "taken_apart", "taken_apart", "taken_apart", defArgs s_taken_apart, defBody s_taken_apart, defScope s_taken_apart, [], []⟩,
  ⟨fun K => He.ga K "_law_cell_at", "_law_cell_at", "_law_cell_at", defArgs s__law_cell_at, defBody s__law_cell_at, defScope s__law_cell_at, [], []⟩,
  ⟨fun K => He.ga K "_law_state", "_law_state", "_law_state", defArgs s__law_state, defBody s__law_state, defScope s__law_state, [], []⟩,
  ⟨fun K => He.ga K "_law_take", "_law_take", "_law_take", defArgs s__law_take, defBody s__law_take, defScope s__law_take, [], []⟩,
  ⟨fun K => He.ga K "_law_number", "_law_number", "_law_number", defArgs s__law_number, defBody s__law_number, defScope s__law_number, [], []⟩,
  ⟨fun K => He.ga K "_law_modulus", "_law_modulus", "_law_modulus", defArgs s__law_modulus, defBody s__law_modulus, defScope s__law_modulus, [], []⟩,
  ⟨fun K => He.ga K "_law_common", "_law_common", "_law_common", defArgs s__law_common, defBody s__law_common, defScope s__law_common, [], []⟩,
  ⟨fun K => He.ga K "_law_are_rests", "_law_are_rests", "_law_are_rests", defArgs s__law_are_rests, defBody s__law_are_rests, defScope s__law_are_rests, [], []⟩,
  ⟨fun K => He.ga K "_law_right", "_law_right", "_law_right", defArgs s__law_right, defBody s__law_right, defScope s__law_right, [], []⟩,
  ⟨fun K => He.ga K "law", "law", "law", defArgs s_law, defBody s_law, defScope s_law, [], []⟩,
  ⟨fun K => He.ma K (He.ga K "NoInverse") "__init__", "__init__", "NoInverse.__init__", defArgs s_init_NoInverse, defBody s_init_NoInverse, defScope s_init_NoInverse, [], []⟩]
def fa : List FB := [fun K => (He.Fa.glo "divisor").ok K, fun K => (He.Fa.glo "inverse").ok K, fun K => (He.Fa.glo "can_join").ok K, fun K => (He.Fa.glo "first_apart").ok K, fun K => (He.Fa.glo "joined").ok K, fun K => (He.Fa.glo "put_together").ok K, fun K => (He.Fa.glo "taken_apart").ok K, fun K => (He.Fa.glo "_law_cell_at").ok K, fun K => (He.Fa.glo "_law_state").ok K, fun K => (He.Fa.glo "_law_take").ok K, fun K => (He.Fa.glo "_law_number").ok K, fun K => (He.Fa.glo "_law_modulus").ok K, fun K => (He.Fa.glo "_law_common").ok K, fun K => (He.Fa.glo "_law_are_rests").ok K, fun K => (He.Fa.glo "_law_right").ok K, fun K => (He.Fa.glo "law").ok K, fun K => (He.Fa.glo "PrimeError").ok K, fun K => (He.Fa.glo "NoInverse").ok K, fun K => (He.Fa.free "range").ok K, fun K => (He.Fa.free "len").ok K, fun K => (He.Fa.free "zip").ok K, fun K => (He.Fa.free "isinstance").ok K, fun K => (He.Fa.free "list").ok K, fun K => (He.Fa.free "bool").ok K, fun K => (He.Fa.free "int").ok K, fun K => xinB "NoInverse" "divisor" K, fun K => baseB (He.ga K "PrimeError") K, fun K => (He.Fa.exc "PrimeError").ok K]
structure Txt (K : PySem.W.Frag) (mg : Str → Option Value) : Prop where
  c : Told fa fn K
  gl : ∀ {x : Str}, (He.Fa.glo x).ok K = true → mg x = some (.ref (He.ga K x))
  fr : ∀ {x : Str}, (He.Fa.free x).ok K = true → mg x = none
  int_ok : ∀ {x : Str} {i : Int}, (He.Fa.int x i).ok K = true → ∃ t, mg x = some (.int i t)
section
variable {P : Program} {w : World} {K : PySem.W.Frag} {mg : Str → Option Value} {base : Heap}
theorem F0_divisor (T : Txt K mg) : ∃ fd, FnP K "divisor" s_divisor (He.ga K "divisor") fd := T.c.dfn 0 rfl
noncomputable def fd_divisor (T : Txt K mg) : FuncData := (F0_divisor T).choose
theorem F_divisor (T : Txt K mg) : FnP K "divisor" s_divisor (He.ga K "divisor") (fd_divisor T) := (F0_divisor T).choose_spec
theorem g_divisor (T : Txt K mg) : mg "divisor" = some (.ref (He.ga K "divisor")) := T.gl (T.c.fact 0 rfl)
theorem kp_divisor (T : Txt K mg) : PySem.W.keepIn K (.ref (He.ga K "divisor")) = true := (F_divisor T).kp
theorem B_divisor (T : Txt K mg) : Binds K (fd_divisor T) ["a", "b"] [] := (F_divisor T).bindsN fun _ _ _ _ _ _ us hl => match us, hl with | [_, _], _ => rfl
theorem F0_inverse (T : Txt K mg) : ∃ fd, FnP K "inverse" s_inverse (He.ga K "inverse") fd := T.c.dfn 1 rfl
noncomputable def fd_inverse (T : Txt K mg) : FuncData := (F0_inverse T).choose
theorem F_inverse (T : Txt K mg) : FnP K "inverse" s_inverse (He.ga K "inverse") (fd_inverse T) := (F0_inverse T).choose_spec
theorem g_inverse (T : Txt K mg) : mg "inverse" = some (.ref (He.ga K "inverse")) := T.gl (T.c.fact 1 rfl)
theorem kp_inverse (T : Txt K mg) : PySem.W.keepIn K (.ref (He.ga K "inverse")) = true := (F_inverse T).kp
theorem B_inverse (T : Txt K mg) : Binds K (fd_inverse T) ["n", "a"] [] := (F_inverse T).bindsN fun _ _ _ _ _ _ us hl => match us, hl with | [_, _], _ => rfl
theorem F0_can_join (T : Txt K mg) : ∃ fd, FnP K "can_join" s_can_join (He.ga K "can_join") fd := T.c.dfn 2 rfl
noncomputable def fd_can_join (T : Txt K mg) : FuncData := (F0_can_join T).choose
theorem F_can_join (T : Txt K mg) : FnP K "can_join" s_can_join (He.ga K "can_join") (fd_can_join T) := (F0_can_join T).choose_spec
theorem g_can_join (T : Txt K mg) : mg "can_join" = some (.ref (He.ga K "can_join")) := T.gl (T.c.fact 2 rfl)
theorem kp_can_join (T : Txt K mg) : PySem.W.keepIn K (.ref (He.ga K "can_join")) = true := (F_can_join T).kp
theorem B_can_join (T : Txt K mg) : Binds K (fd_can_join T) ["one", "other"] [] := (F_can_join T).bindsN fun _ _ _ _ _ _ us hl => match us, hl with | [_, _], _ => rfl
theorem F0_first_apart (T : Txt K mg) : ∃ fd, FnP K "first_apart" s_first_apart (He.ga K "first_apart") fd := T.c.dfn 3 rfl
noncomputable def fd_first_apart (T : Txt K mg) : FuncData := (F0_first_apart T).choose
theorem F_first_apart (T : Txt K mg) : FnP K "first_apart" s_first_apart (He.ga K "first_apart") (fd_first_apart T) := (F0_first_apart T).choose_spec
theorem g_first_apart (T : Txt K mg) : mg "first_apart" = some (.ref (He.ga K "first_apart")) := T.gl (T.c.fact 3 rfl)
theorem kp_first_apart (T : Txt K mg) : PySem.W.keepIn K (.ref (He.ga K "first_apart")) = true := (F_first_apart T).kp
theorem B_first_apart (T : Txt K mg) : Binds K (fd_first_apart T) ["places"] [] := (F_first_apart T).bindsN fun _ _ _ _ _ _ us hl => match us, hl with | [_], _ => rfl
theorem F0_joined (T : Txt K mg) : ∃ fd, FnP K "joined" s_joined (He.ga K "joined") fd := T.c.dfn 4 rfl
noncomputable def fd_joined (T : Txt K mg) : FuncData := (F0_joined T).choose
theorem F_joined (T : Txt K mg) : FnP K "joined" s_joined (He.ga K "joined") (fd_joined T) := (F0_joined T).choose_spec
theorem g_joined (T : Txt K mg) : mg "joined" = some (.ref (He.ga K "joined")) := T.gl (T.c.fact 4 rfl)
theorem kp_joined (T : Txt K mg) : PySem.W.keepIn K (.ref (He.ga K "joined")) = true := (F_joined T).kp
theorem B_joined (T : Txt K mg) : Binds K (fd_joined T) ["one", "other"] [] := (F_joined T).bindsN fun _ _ _ _ _ _ us hl => match us, hl with | [_, _], _ => rfl
theorem F0_put_together (T : Txt K mg) : ∃ fd, FnP K "put_together" s_put_together (He.ga K "put_together") fd := T.c.dfn 5 rfl
noncomputable def fd_put_together (T : Txt K mg) : FuncData := (F0_put_together T).choose
theorem F_put_together (T : Txt K mg) : FnP K "put_together" s_put_together (He.ga K "put_together") (fd_put_together T) := (F0_put_together T).choose_spec
theorem g_put_together (T : Txt K mg) : mg "put_together" = some (.ref (He.ga K "put_together")) := T.gl (T.c.fact 5 rfl)
theorem kp_put_together (T : Txt K mg) : PySem.W.keepIn K (.ref (He.ga K "put_together")) = true := (F_put_together T).kp
theorem B_put_together (T : Txt K mg) : Binds K (fd_put_together T) ["places"] [] := (F_put_together T).bindsN fun _ _ _ _ _ _ us hl => match us, hl with | [_], _ => rfl
theorem F0_taken_apart (T : Txt K mg) : ∃ fd, FnP K "taken_apart" s_taken_apart (He.ga K "taken_apart") fd := T.c.dfn 6 rfl
noncomputable def fd_taken_apart (T : Txt K mg) : FuncData := (F0_taken_apart T).choose
theorem F_taken_apart (T : Txt K mg) : FnP K "taken_apart" s_taken_apart (He.ga K "taken_apart") (fd_taken_apart T) := (F0_taken_apart T).choose_spec
theorem g_taken_apart (T : Txt K mg) : mg "taken_apart" = some (.ref (He.ga K "taken_apart")) := T.gl (T.c.fact 6 rfl)
theorem kp_taken_apart (T : Txt K mg) : PySem.W.keepIn K (.ref (He.ga K "taken_apart")) = true := (F_taken_apart T).kp
theorem B_taken_apart (T : Txt K mg) : Binds K (fd_taken_apart T) ["number", "moduli"] [] := (F_taken_apart T).bindsN fun _ _ _ _ _ _ us hl => match us, hl with | [_, _], _ => rfl
theorem F0__law_cell_at (T : Txt K mg) : ∃ fd, FnP K "_law_cell_at" s__law_cell_at (He.ga K "_law_cell_at") fd := T.c.dfn 7 rfl
noncomputable def fd__law_cell_at (T : Txt K mg) : FuncData := (F0__law_cell_at T).choose
theorem F__law_cell_at (T : Txt K mg) : FnP K "_law_cell_at" s__law_cell_at (He.ga K "_law_cell_at") (fd__law_cell_at T) := (F0__law_cell_at T).choose_spec
theorem g__law_cell_at (T : Txt K mg) : mg "_law_cell_at" = some (.ref (He.ga K "_law_cell_at")) := T.gl (T.c.fact 7 rfl)
theorem kp__law_cell_at (T : Txt K mg) : PySem.W.keepIn K (.ref (He.ga K "_law_cell_at")) = true := (F__law_cell_at T).kp
theorem B__law_cell_at (T : Txt K mg) : Binds K (fd__law_cell_at T) ["_law_script", "_law_k"] [] := (F__law_cell_at T).bindsN fun _ _ _ _ _ _ us hl => match us, hl with | [_, _], _ => rfl
theorem F0__law_state (T : Txt K mg) : ∃ fd, FnP K "_law_state" s__law_state (He.ga K "_law_state") fd := T.c.dfn 8 rfl
noncomputable def fd__law_state (T : Txt K mg) : FuncData := (F0__law_state T).choose
theorem F__law_state (T : Txt K mg) : FnP K "_law_state" s__law_state (He.ga K "_law_state") (fd__law_state T) := (F0__law_state T).choose_spec
theorem g__law_state (T : Txt K mg) : mg "_law_state" = some (.ref (He.ga K "_law_state")) := T.gl (T.c.fact 8 rfl)
theorem kp__law_state (T : Txt K mg) : PySem.W.keepIn K (.ref (He.ga K "_law_state")) = true := (F__law_state T).kp
theorem B__law_state (T : Txt K mg) : Binds K (fd__law_state T) ["_law_cell", "_law_free"] [] := (F__law_state T).bindsN fun _ _ _ _ _ _ us hl => match us, hl with | [_, _], _ => rfl
theorem F0__law_take (T : Txt K mg) : ∃ fd, FnP K "_law_take" s__law_take (He.ga K "_law_take") fd := T.c.dfn 9 rfl
noncomputable def fd__law_take (T : Txt K mg) : FuncData := (F0__law_take T).choose
theorem F__law_take (T : Txt K mg) : FnP K "_law_take" s__law_take (He.ga K "_law_take") (fd__law_take T) := (F0__law_take T).choose_spec
theorem g__law_take (T : Txt K mg) : mg "_law_take" = some (.ref (He.ga K "_law_take")) := T.gl (T.c.fact 9 rfl)
theorem kp__law_take (T : Txt K mg) : PySem.W.keepIn K (.ref (He.ga K "_law_take")) = true := (F__law_take T).kp
theorem B__law_take (T : Txt K mg) : Binds K (fd__law_take T) ["_law_state_here", "_law_many"] [] := (F__law_take T).bindsN fun _ _ _ _ _ _ us hl => match us, hl with | [_, _], _ => rfl
theorem F0__law_number (T : Txt K mg) : ∃ fd, FnP K "_law_number" s__law_number (He.ga K "_law_number") fd := T.c.dfn 10 rfl
noncomputable def fd__law_number (T : Txt K mg) : FuncData := (F0__law_number T).choose
theorem F__law_number (T : Txt K mg) : FnP K "_law_number" s__law_number (He.ga K "_law_number") (fd__law_number T) := (F0__law_number T).choose_spec
theorem g__law_number (T : Txt K mg) : mg "_law_number" = some (.ref (He.ga K "_law_number")) := T.gl (T.c.fact 10 rfl)
theorem kp__law_number (T : Txt K mg) : PySem.W.keepIn K (.ref (He.ga K "_law_number")) = true := (F__law_number T).kp
theorem B__law_number (T : Txt K mg) : Binds K (fd__law_number T) ["_law_state_here"] [] := (F__law_number T).bindsN fun _ _ _ _ _ _ us hl => match us, hl with | [_], _ => rfl
theorem F0__law_modulus (T : Txt K mg) : ∃ fd, FnP K "_law_modulus" s__law_modulus (He.ga K "_law_modulus") fd := T.c.dfn 11 rfl
noncomputable def fd__law_modulus (T : Txt K mg) : FuncData := (F0__law_modulus T).choose
theorem F__law_modulus (T : Txt K mg) : FnP K "_law_modulus" s__law_modulus (He.ga K "_law_modulus") (fd__law_modulus T) := (F0__law_modulus T).choose_spec
theorem g__law_modulus (T : Txt K mg) : mg "_law_modulus" = some (.ref (He.ga K "_law_modulus")) := T.gl (T.c.fact 11 rfl)
theorem kp__law_modulus (T : Txt K mg) : PySem.W.keepIn K (.ref (He.ga K "_law_modulus")) = true := (F__law_modulus T).kp
theorem B__law_modulus (T : Txt K mg) : Binds K (fd__law_modulus T) ["_law_state_here"] [] := (F__law_modulus T).bindsN fun _ _ _ _ _ _ us hl => match us, hl with | [_], _ => rfl
theorem F0__law_common (T : Txt K mg) : ∃ fd, FnP K "_law_common" s__law_common (He.ga K "_law_common") fd := T.c.dfn 12 rfl
noncomputable def fd__law_common (T : Txt K mg) : FuncData := (F0__law_common T).choose
theorem F__law_common (T : Txt K mg) : FnP K "_law_common" s__law_common (He.ga K "_law_common") (fd__law_common T) := (F0__law_common T).choose_spec
theorem g__law_common (T : Txt K mg) : mg "_law_common" = some (.ref (He.ga K "_law_common")) := T.gl (T.c.fact 12 rfl)
theorem kp__law_common (T : Txt K mg) : PySem.W.keepIn K (.ref (He.ga K "_law_common")) = true := (F__law_common T).kp
theorem B__law_common (T : Txt K mg) : Binds K (fd__law_common T) ["_law_one", "_law_other"] [] := (F__law_common T).bindsN fun _ _ _ _ _ _ us hl => match us, hl with | [_, _], _ => rfl
theorem F0__law_are_rests (T : Txt K mg) : ∃ fd, FnP K "_law_are_rests" s__law_are_rests (He.ga K "_law_are_rests") fd := T.c.dfn 13 rfl
noncomputable def fd__law_are_rests (T : Txt K mg) : FuncData := (F0__law_are_rests T).choose
theorem F__law_are_rests (T : Txt K mg) : FnP K "_law_are_rests" s__law_are_rests (He.ga K "_law_are_rests") (fd__law_are_rests T) := (F0__law_are_rests T).choose_spec
theorem g__law_are_rests (T : Txt K mg) : mg "_law_are_rests" = some (.ref (He.ga K "_law_are_rests")) := T.gl (T.c.fact 13 rfl)
theorem kp__law_are_rests (T : Txt K mg) : PySem.W.keepIn K (.ref (He.ga K "_law_are_rests")) = true := (F__law_are_rests T).kp
theorem B__law_are_rests (T : Txt K mg) : Binds K (fd__law_are_rests T) ["_law_number_here", "_law_moduli", "_law_found"] [] := (F__law_are_rests T).bindsN fun _ _ _ _ _ _ us hl => match us, hl with | [_, _, _], _ => rfl
theorem F0__law_right (T : Txt K mg) : ∃ fd, FnP K "_law_right" s__law_right (He.ga K "_law_right") fd := T.c.dfn 14 rfl
noncomputable def fd__law_right (T : Txt K mg) : FuncData := (F0__law_right T).choose
theorem F__law_right (T : Txt K mg) : FnP K "_law_right" s__law_right (He.ga K "_law_right") (fd__law_right T) := (F0__law_right T).choose_spec
theorem g__law_right (T : Txt K mg) : mg "_law_right" = some (.ref (He.ga K "_law_right")) := T.gl (T.c.fact 14 rfl)
theorem kp__law_right (T : Txt K mg) : PySem.W.keepIn K (.ref (He.ga K "_law_right")) = true := (F__law_right T).kp
theorem B__law_right (T : Txt K mg) : Binds K (fd__law_right T) ["_law_state_here"] [] := (F__law_right T).bindsN fun _ _ _ _ _ _ us hl => match us, hl with | [_], _ => rfl
theorem F0_law (T : Txt K mg) : ∃ fd, FnP K "law" s_law (He.ga K "law") fd := T.c.dfn 15 rfl
noncomputable def fd_law (T : Txt K mg) : FuncData := (F0_law T).choose
theorem F_law (T : Txt K mg) : FnP K "law" s_law (He.ga K "law") (fd_law T) := (F0_law T).choose_spec
theorem g_law (T : Txt K mg) : mg "law" = some (.ref (He.ga K "law")) := T.gl (T.c.fact 15 rfl)
theorem kp_law (T : Txt K mg) : PySem.W.keepIn K (.ref (He.ga K "law")) = true := (F_law T).kp
theorem B_law (T : Txt K mg) : Binds K (fd_law T) ["_law_script"] [] := (F_law T).bindsN fun _ _ _ _ _ _ us hl => match us, hl with | [_], _ => rfl
theorem g_PrimeError (T : Txt K mg) : mg "PrimeError" = some (.ref (He.ga K "PrimeError")) := T.gl (T.c.fact 16 rfl)
theorem g_NoInverse (T : Txt K mg) : mg "NoInverse" = some (.ref (He.ga K "NoInverse")) := T.gl (T.c.fact 17 rfl)
theorem x_NoInverse (T : Txt K mg) : XIn K (He.ga K "NoInverse") (He.ma K (He.ga K "NoInverse") "__init__") "divisor" := xin_of (T.c.fact 25 rfl)
theorem F0_init_NoInverse (T : Txt K mg) : ∃ fd, FunD K "__init__" "NoInverse.__init__" (defArgs s_init_NoInverse) (defBody s_init_NoInverse) (defScope s_init_NoInverse) [] [] (He.ma K (He.ga K "NoInverse") "__init__") fd := T.c.dfn 16 rfl
noncomputable def fd_init_NoInverse (T : Txt K mg) : FuncData := (F0_init_NoInverse T).choose
theorem F_init_NoInverse (T : Txt K mg) : FunD K "__init__" "NoInverse.__init__" (defArgs s_init_NoInverse) (defBody s_init_NoInverse) (defScope s_init_NoInverse) [] [] (He.ma K (He.ga K "NoInverse") "__init__") (fd_init_NoInverse T) := (F0_init_NoInverse T).choose_spec
theorem B_init_NoInverse (T : Txt K mg) : Binds K (fd_init_NoInverse T) ["self", "divisor"] [] := (F_init_NoInverse T).bindsN fun _ _ _ _ _ _ us hl => match us, hl with | [_, _], _ => rfl
theorem ok_init_NoInverse (T : Txt K mg) : FnOk P w K mg base CX0 1 (He.ma K (He.ga K "NoInverse") "__init__") (fd_init_NoInverse T) ["self", "divisor"] (sp_init K (He.ga K "NoInverse") "divisor") := by
  refine (F_init_NoInverse T).ok sc_init_NoInverse (fun vs H Q E h => ?_) (fun cdv A outer s H vs Q E hr h => ⟨_, PSs.nox (pss_cons (ps_expr (pe_cinit rfl (g_PrimeError T) (base_of (T.c.fact (t := fun K => baseB (He.ga K "PrimeError") K) 26 rfl)) (pa_cons (pv 0) (pa_cons pe_str pa_nil)))) (pss_one (ps_ost (pv 0) (pv 1)))), ?_⟩)
  · obtain ⟨_, _, rfl, _⟩ := h; rfl
  · exact rd_init h
theorem z_PrimeError (T : Txt K mg) : Exc0 K (He.ga K "PrimeError") := exc0_of (T.c.fact 27 rfl)
/-- divisor(a, b): a new tuple (g, u, v) -/
def sp_divisor : Sp := fun vs H Q _ => ∃ a b : Int, vs = [.int a, .int b] ∧ a.natAbs < 2 ^ 900 ∧ b.natAbs < 2 ^ 900 ∧
  ∀ g u v p, M.DivOk a b g u v → H p = none → Q (.ref p) (upd H p (.tup [.int g, .int u, .int v]))
theorem ok_divisor (T : Txt K mg) : FnOk P w K mg base CX0 1 (He.ga K "divisor") (fd_divisor T) ["a", "b"] sp_divisor := by
  refine (F_divisor T).ok sc_divisor (fun vs H Q E h => ?_) (fun cdv A outer s H vs Q E hr h => ⟨_, PSs.nox (pss_cons (ps_par3 (i := 2) (j := 3) (l := 4) rfl sc_divisor.nd rfl rfl rfl (by decide) (by decide) (by decide) rfl rfl rfl (pa_cons (pv 0) (pa_cons pe_int (pa_cons pe_int pa_nil))) rfl)
      (pss_cons (ps_par3 (i := 5) (j := 6) (l := 7) rfl sc_divisor.nd rfl rfl rfl (by decide) (by decide) (by decide) rfl rfl rfl (pa_cons (pv 1) (pa_cons pe_int (pa_cons pe_int pa_nil))) rfl)
      (pss_cons (ps_while PassesOwn.never (pt_cmpR op_ne (pv 5) pe_int (nomark _)) (pss_cons (ps_set (i := 8) sc_divisor.nd rfl (Or.inl rfl) (pe_op op_divF (pv 2) (pv 5)))
      (pss_cons (ps_par (i := 2) (j := 5) rfl sc_divisor.nd rfl rfl (by decide) rfl rfl (pa_cons (pv 5) (pa_cons (pe_op op_sub (pv 2) (pe_op op_mulW (pv 8) (pv 5))) pa_nil)) rfl)
      (pss_cons (ps_par (i := 3) (j := 6) rfl sc_divisor.nd rfl rfl (by decide) rfl rfl (pa_cons (pv 6) (pa_cons (pe_op op_sub (pv 3) (pe_op op_mulW (pv 8) (pv 6))) pa_nil)) rfl)
      (pss_one (ps_par (i := 4) (j := 7) rfl sc_divisor.nd rfl rfl (by decide) rfl rfl (pa_cons (pv 7) (pa_cons (pe_op op_sub (pv 4) (pe_op op_mulW (pv 8) (pv 7))) pa_nil)) rfl))))))
      (pss_cons (ps_if (pt_cmpR op_lt (pv 2) pe_int (nomark _)) (pss_one (ps_ret (pe_tup (pa_cons (pe_un un_neg (pv 2)) (pa_cons (pe_un un_neg (pv 3)) (pa_cons (pe_un un_neg (pv 4)) pa_nil)))))) pss_nil)
      (pss_one (ps_ret (pe_tup (pa_cons (pv 2) (pa_cons (pv 3) (pa_cons (pv 4) pa_nil)))))))))), ?_⟩)
  · obtain ⟨a, b, rfl, _⟩ := h; rfl
  · obtain ⟨a, b, rfl, ha, hb, k⟩ := h
    walk_at "g"
    refine s_while (fun σ H' => H' = H ∧ ∃ (g u v r x y : Int) (t : Option V), σ = [some (.int a), some (.int b), some (.int g), some (.int u), some (.int v), some (.int r), some (.int x), some (.int y), t] ∧ M.DivSt a b g u v r x y)
      (fun σ _ => (iv σ 5).natAbs) ⟨rfl, a, 1, 0, b, 0, 1, none, rfl, .inl ⟨rfl, rfl, rfl, rfl, rfl, rfl⟩⟩ ?_
    · rintro σ H' ⟨rfl, g, u, v, r, x, y, t, rfl, I⟩
      walk_at "g"
      refine s_iten (fun hr => ?_) (fun hr => ?_)
      · have Z := M.div_sizes I
        have hd : r ≠ 0 := hr
        have st := M.div_step I hd
        have hf : (g.fdiv r).natAbs ≤ g.natAbs := M.fdiv_le g r
        walk_at "g"
        refine s_i (divF hd (by omega)) ?_
        walk_at "g"
        exact ⟨⟨rfl, _, _, _, _, _, _, _, rfl, st.1⟩, st.2⟩
      · walk_at "g"
        have T := M.div_told I hr
        refine s_ite (fun hg => ?_) (fun hg => ?_)
        · walk_at "g"
          exact ⟨len_le (by simp), fun p hp => k _ _ _ p (T.1 hg) hp⟩
        · walk_at "g"
          exact ⟨len_le (by simp), fun p hp => k _ _ _ p (T.2 hg) hp⟩

/-- inverse(n, a): the number that, times a, is 1 by n; else NoInverse(the divisor) -/
def sp_inverse (K : PySem.W.Frag) : Sp := fun vs H Q E => ∃ n a : Int, vs = [.int n, .int a] ∧ 0 < n ∧ n.natAbs < 2 ^ 900 ∧
  (Int.gcd a n = 1 → ∀ (H' : Hp) (b : Int), Same H H' → 0 ≤ b → b < n → (b * a - 1) % n = 0 → Q (.int b) H') ∧
  (Int.gcd a n ≠ 1 → ∀ (d : Addr) (H' : Hp), H d = none → Same H H' → H' d = some (.xd [("divisor", .int (Int.gcd a n))]) → E (.ref (He.ga K "NoInverse")) (some d) H')
theorem ok_inverse (T : Txt K mg) : FnOk P w K mg base (L2.CX P w) 5 (He.ga K "inverse") (fd_inverse T) ["n", "a"] (sp_inverse K) := by
  refine (F_inverse T).ok sc_inverse (fun vs H Q E h => ?_) (fun cdv A outer s H vs Q E hr h => ⟨_, (pss_cons (ps_asg (pe_call (ok_divisor T) (hr.mono (by decide)) rfl (g_divisor T) (kp_divisor T) (B_divisor T) .nil pass0 (pa_cons (pe_op op_mod (pv 1) (pv 0)) (pa_cons (pv 0) pa_nil))) (pg_tup rfl (pgs_cons (pg_name (i := 2) sc_inverse.nd rfl (Or.inl rfl)) (pgs_cons (pg_name (i := 3) sc_inverse.nd rfl (Or.inl rfl)) (pgs_cons (pg_name (i := 4) sc_inverse.nd rfl (Or.inl rfl)) pgs_nil)))))
      (pss_cons (ps_if (pt_cmpR op_gt (pv 2) pe_int (nomark _)) (pss_one (ps_raise rfl (takes_of rfl rfl rfl rfl) (pmk_oex (x_NoInverse T).oex (x_NoInverse T).iC (x_NoInverse T).tI (ok_init_NoInverse T) (hr.mono (by decide)) (B_init_NoInverse T) .nil pass0 rfl (g_NoInverse T) (pa_cons (pv 2) pa_nil)))) pss_nil)
      (pss_one (ps_ret (pe_op op_mod (pv 3) (pv 0)))))), ?_⟩)
  · obtain ⟨n, a, rfl, _⟩ := h; rfl
  · obtain ⟨n, a, rfl, h0, hn, k1, k2⟩ := h
    have ha0 := Int.emod_nonneg a (show n ≠ 0 by omega)
    have ha1 := Int.emod_lt_of_pos a h0
    have gp := M.gcd_pos (a := a) h0
    walk_at "g"
    refine s_i (by omega) ?_
    walk_at "g"
    refine ⟨a % n, n, rfl, by omega, hn, fun g u v p I hp => ?_⟩
    have S1 : Same H (upd H p (.tup [.int g, .int u, .int v])) := same_upd hp
    have T1 : upd H p (.tup [.int g, .int u, .int v]) p = some (.tup [.int g, .int u, .int v]) := upd_same
    generalize upd H p (.tup [.int g, .int u, .int v]) = H1 at S1 T1 ⊢
    have hg := I.hg
    rw [M.gcd_mod] at hg
    walk_at "g"
    refine s_gtup (SqT.of T1) rfl ?_
    walk_at "g"
    refine s_ite (fun c => ?_) (fun c => ?_)
    · walk_at "g"
      refine s_raise (x_NoInverse T).oex (x_NoInverse T).noF fun d H' hd hx hs => ?_
      rw [hg] at hx
      exact k2 (by omega) d H' (S1.free hd) (S1.trans hs) hx
    · walk_at "g"
      refine s_i (by omega) ?_
      have g1 : Int.gcd a n = 1 := by omega
      exact k1 g1 H1 _ S1 (Int.emod_nonneg _ (by omega)) (Int.emod_lt_of_pos _ h0) (M.inv_of h0 I g1)

/-- can_join(one, other): whether two places are alike by what divides both moduli -/
def sp_can_join : Sp := fun vs H Q _ => ∃ (p q : Addr) (m r n s : Int), vs = [.ref p, .ref q] ∧ H p = some (.tup [.int m, .int r]) ∧ H q = some (.tup [.int n, .int s]) ∧ 0 < m ∧ 0 < n ∧ m < 2 ^ 900 ∧ n < 2 ^ 900 ∧
  ∀ H', Same H H' → Q (.bl (decide (M.alike m r n s))) H'
theorem ok_can_join (T : Txt K mg) : FnOk P w K mg base CX0 2 (He.ga K "can_join") (fd_can_join T) ["one", "other"] sp_can_join := by
  refine (F_can_join T).ok sc_can_join (fun vs H Q E h => ?_) (fun cdv A outer s H vs Q E hr h => ⟨_, PSs.nox (pss_cons (ps_set (i := 2) sc_can_join.nd rfl (Or.inl rfl) (pe_ix ix_seq (pe_call (ok_divisor T) (hr.mono (by decide)) rfl (g_divisor T) (kp_divisor T) (B_divisor T) .nil pass0 (pa_cons (pe_ix ix_seq (pv 0) pe_int (fun _ _ => rfl)) (pa_cons (pe_ix ix_seq (pv 1) pe_int (fun _ _ => rfl)) pa_nil))) pe_int (fun _ _ => rfl)))
      (pss_one (ps_ret (pe_cmpR op_eq (pe_op op_mod (pe_op op_sub (pe_ix ix_seq (pv 0) pe_int (fun _ _ => rfl)) (pe_ix ix_seq (pv 1) pe_int (fun _ _ => rfl))) (pv 2)) pe_int (nomark _))))), ?_⟩)
  · obtain ⟨p, q, m, r, n, s, rfl, _⟩ := h; rfl
  · obtain ⟨p, q, m, r, n, s, rfl, hp, hq, m0, n0, m1, n1, k⟩ := h
    walk_at "g"
    refine s_ixT (SqT.of hp) (atI0 0 rfl rfl) ?_
    walk_at "g"
    refine s_ixT (SqT.of hq) (atI0 0 rfl rfl) ?_
    walk_at "g"
    refine ⟨m, n, rfl, by omega, by omega, fun g u v t I ht => ?_⟩
    have S1 : Same H (upd H t (.tup [.int g, .int u, .int v])) := same_upd ht
    have T1 : upd H t (.tup [.int g, .int u, .int v]) t = some (.tup [.int g, .int u, .int v]) := upd_same
    generalize upd H t (.tup [.int g, .int u, .int v]) = H1 at S1 T1 ⊢
    walk_at "g"
    refine s_ixT (SqT.of T1) (atI0 0 rfl rfl) ?_
    walk_at "g"
    refine s_ixT (SqT.of (S1 _ _ hp)) (atI0 1 rfl rfl) ?_
    walk_at "g"
    refine s_ixT (SqT.of (S1 _ _ hq)) (atI0 1 rfl rfl) ?_
    have gp : 0 < (Int.gcd m n : Nat) := Int.gcd_pos_of_ne_zero_left n (by omega)
    rw [I.hg]
    walk_at "g"
    refine s_i (by omega) ?_
    walk_at "g"
    exact k _ S1
/-- places: a list of tuples, moduli from 1 on -/
def PlacesAt (K : PySem.W.Frag) (H : Hp) (a : Addr) (pl : List (Int × Int)) : Prop := ∃ xs : List V, H a = some (.lst xs) ∧ TupsIn H xs (pl.map fun q => [V.int q.1, V.int q.2])
theorem PlacesAt.same {K : PySem.W.Frag} {H H' : Hp} {a : Addr} {pl : List (Int × Int)} (h : PlacesAt K H a pl) (s : Same H H') : PlacesAt K H' a pl := by
  obtain ⟨xs, h1, h2⟩ := h
  exact ⟨xs, s _ _ h1, h2.same s⟩
theorem PlacesAt.get {K : PySem.W.Frag} {H : Hp} {xs : List V} {pl : List (Int × Int)} (h : TupsIn H xs (pl.map fun q => [V.int q.1, V.int q.2])) {i : Nat} {q : Int × Int} (hq : pl[i]? = some q) : ∃ t, xs[i]? = some (.ref t) ∧ H t = some (.tup [.int q.1, .int q.2]) := by
  have z : (pl.map fun q => [V.int q.1, V.int q.2])[i]? = some [V.int q.1, V.int q.2] := by rw [List.getElem?_map, hq]; rfl
  obtain ⟨x, h1, t, h2, h3⟩ := pget' h z
  exact ⟨t, by rw [h1, h2], h3⟩
theorem dp_places {K : PySem.W.Frag} {H : Hp} {a : Addr} {pl : List (Int × Int)} (h : PlacesAt K H a pl) : Dp K H (.ref a) (.list (pl.map fun q => .tuple [.int q.1, .int q.2])) := by
  obtain ⟨xs, hx, ht⟩ := h
  refine .lst (SqL.of hx) ?_
  clear hx
  induction pl generalizing xs with
  | nil => cases ht; exact .nil
  | cons q pl ih =>
    cases ht with
    | cons f r =>
      obtain ⟨t, rfl, e⟩ := f
      exact .cons (dp_tup2 e) (ih _ r)
theorem sh_places (pl : List (Int × Int)) : SeqAt.shaped (.list (pl.map fun q => PyData.tuple [.int q.1, .int q.2])) = true := shapedL fun d hd => by
  obtain ⟨q, _, rfl⟩ := List.mem_map.mp hd
  exact ⟨rfl, by show 1 ≤ 63; decide⟩
/-- first_apart(places): None, or the first two that are apart -/
def sp_first_apart (K : PySem.W.Frag) : Sp := fun vs H Q _ => ∃ (a : Addr) (pl : List (Int × Int)), vs = [.ref a] ∧ PlacesAt K H a pl ∧ pl.length ≤ 1000 ∧ (∀ q ∈ pl, 0 < q.1 ∧ q.1 < 2 ^ 900) ∧
  (M.allAlike pl → ∀ H', Same H H' → Q .non H') ∧
  (∀ i j : Nat, M.firstApart pl i j → ∀ p H', Same H H' → H' p = some (.tup [.int i, .int j]) → Q (.ref p) H')
theorem ok_first_apart (T : Txt K mg) : FnOk P w K mg base CX0 3 (He.ga K "first_apart") (fd_first_apart T) ["places"] (sp_first_apart K) := by
  refine (F_first_apart T).ok sc_first_apart (fun vs H Q E h => ?_) (fun cdv A outer s H vs Q E hr h => ⟨_, PSs.nox (pss_cons (ps_for PassesOwn.never rfl (pi_range1 rfl (T.fr (T.c.fact 18 rfl)) (pa_cons (pe_callB callLen rfl (T.fr (T.c.fact 19 rfl)) boot_len (pa_cons (pv 0) pa_nil)) pa_nil)) (pg_name (i := 1) sc_first_apart.nd rfl (Or.inl rfl)) (pss_one (ps_for PassesOwn.never rfl (pi_range2 rfl (T.fr (T.c.fact 18 rfl)) (pa_cons (pe_op op_add (pv 1) pe_int) (pa_cons (pe_callB callLen rfl (T.fr (T.c.fact 19 rfl)) boot_len (pa_cons (pv 0) pa_nil)) pa_nil))) (pg_name (i := 2) sc_first_apart.nd rfl (Or.inl rfl)) (pss_one (ps_if (pt_not (pt_val (pe_call (ok_can_join T) (hr.mono (by decide)) rfl (g_can_join T) (kp_can_join T) (B_can_join T) .nil pass0 (pa_cons (pe_ix ix_seq (pv 0) (pv 1) (fun _ _ => rfl)) (pa_cons (pe_ix ix_seq (pv 0) (pv 2) (fun _ _ => rfl)) pa_nil))))) (pss_one (ps_ret (pe_tup (pa_cons (pv 1) (pa_cons (pv 2) pa_nil))))) pss_nil)))))
      (pss_one (ps_ret pe_non))), ?_⟩)
  · obtain ⟨a, pl, rfl, _⟩ := h; rfl
  · obtain ⟨a, pl, rfl, hP, hl, hm, k1, k2⟩ := h
    obtain ⟨xs, hx, ht⟩ := hP
    have hxl : xs.length = pl.length := by rw [ht.length, List.length_map]
    walk_at "g"
    refine s_lenL (SqL.of hx) ?_
    walk_at "g"
    refine mkR1 pl.length (by omega) (by omega) (by omega) ?_
    refine for_range (n := pl.length) (fun i σ H' => Same H H' ∧ (∃ u v : Option V, σ = [some (.ref a), u, v]) ∧ M.alikeBefore pl i (i + 1)) ⟨Same.refl _, ⟨none, none, rfl⟩, M.before_zero pl⟩ ?_ ?_
    · rintro i σ H' hi ⟨hs, ⟨u, v, rfl⟩, al⟩
      have hx' := hs _ _ hx
      walk_at "g"
      refine s_lenL (SqL.of hx') ?_
      walk_at "g"
      refine mkR2 (pl.length - (i + 1)) (by omega) (by omega) ?_
      refine for_range (n := pl.length - (i + 1)) (fun d σ H' => Same H H' ∧ (∃ v : Option V, σ = [some (.ref a), some (.int (0 + (i : Int))), v]) ∧ M.alikeBefore pl i (i + 1 + d)) ⟨hs, ⟨_, rfl⟩, al⟩ ?_ ?_
      · rintro d σ H' hd ⟨hs, ⟨v, rfl⟩, al⟩
        have hx' := hs _ _ hx
        have ht' := ht.same hs
        obtain ⟨q1, hq1⟩ : ∃ q, pl[i]? = some q := ⟨_, List.getElem?_eq_getElem hi⟩
        obtain ⟨q2, hq2⟩ : ∃ q, pl[i + 1 + d]? = some q := ⟨_, List.getElem?_eq_getElem (by omega)⟩
        obtain ⟨t1, x1, e1⟩ := PlacesAt.get (K := K) ht' hq1
        obtain ⟨t2, x2, e2⟩ := PlacesAt.get (K := K) ht' hq2
        have m1 := hm q1 (List.mem_of_getElem? hq1)
        have m2 := hm q2 (List.mem_of_getElem? hq2)
        walk_at "g"
        refine s_ixL (SqL.of hx') (atI0 i (by omega) x1) ?_
        walk_at "g"
        refine s_ixL (SqL.of hx') (atI0 (i + 1 + d) (by omega) x2) ?_
        walk_at "g"
        refine ⟨t1, t2, _, _, _, _, rfl, e1, e2, m1.1, m2.1, m1.2, m2.2, fun H1 s1 => ?_⟩
        walk_at "g"
        refine s_iten (fun c => ?_) (fun c => ?_)
        · walk_at "g"
          refine mkT (by simp) fun p H2 np ep s2 => ?_
          refine k2 i (i + 1 + d) ⟨by omega, ⟨q1, q2, hq1, hq2, c⟩, al⟩ p H2 (hs.trans (s1.trans s2)) ?_
          rw [ep]
          have z1 : 0 + (i : Int) = (i : Int) := by omega
          have z2 : 0 + (i : Int) + 1 + (d : Int) = ((i + 1 + d : Nat) : Int) := by omega
          rw [z2, z1]
        · walk_at "g"
          exact ⟨hs.trans s1, ⟨_, rfl⟩, M.before_one al hq1 hq2 c⟩
      · rintro σ H' ⟨hs, ⟨v, rfl⟩, al⟩
        have e : i + 1 + (pl.length - (i + 1)) = pl.length := by omega
        rw [e] at al
        exact ⟨hs, ⟨_, _, rfl⟩, M.before_row al⟩
    · rintro σ H' ⟨hs, ⟨u, v, rfl⟩, al⟩
      walk_at "g"
      exact k1 (M.before_all al) H' hs
/-- joined(one, other) of two places that are alike -/
def sp_joined : Sp := fun vs H Q _ => ∃ (p q : Addr) (m r n s : Int), vs = [.ref p, .ref q] ∧ H p = some (.tup [.int m, .int r]) ∧ H q = some (.tup [.int n, .int s]) ∧ 0 < m ∧ 0 < n ∧ m < 2 ^ 800 ∧ n < 2 ^ 100 ∧
  0 ≤ r ∧ r < 2 ^ 800 ∧ s.natAbs < 2 ^ 800 ∧ M.alike m r n s ∧ ∀ t H' w x, M.Joined m r n s w x → Same H H' → H' t = some (.tup [.int w, .int x]) → Q (.ref t) H'
theorem ok_joined (T : Txt K mg) : FnOk P w K mg base CX0 6 (He.ga K "joined") (fd_joined T) ["one", "other"] sp_joined := by
  refine (F_joined T).ok sc_joined (fun vs H Q E h => ?_) (fun cdv A outer s H vs Q E hr h => ⟨_, PSs.nox (pss_cons (ps_set (i := 2) sc_joined.nd rfl (Or.inl rfl) (pe_ix ix_seq (pe_call (ok_divisor T) (hr.mono (by decide)) rfl (g_divisor T) (kp_divisor T) (B_divisor T) .nil pass0 (pa_cons (pe_ix ix_seq (pv 0) pe_int (fun _ _ => rfl)) (pa_cons (pe_ix ix_seq (pv 1) pe_int (fun _ _ => rfl)) pa_nil))) pe_int (fun _ _ => rfl)))
      (pss_cons (ps_set (i := 3) sc_joined.nd rfl (Or.inl rfl) (pe_op op_fdivW (pe_ix ix_seq (pv 1) pe_int (fun _ _ => rfl)) (pv 2)))
      (pss_cons (ps_set (i := 4) sc_joined.nd rfl (Or.inl rfl) (pe_op op_mod (pe_op op_mulW (pe_op op_fdivW (pe_op op_sub (pe_ix ix_seq (pv 1) pe_int (fun _ _ => rfl)) (pe_ix ix_seq (pv 0) pe_int (fun _ _ => rfl))) (pv 2)) (pe_call (ok_inverse T) (hr.mono (by decide)) rfl (g_inverse T) (kp_inverse T) (B_inverse T) .nil passL (pa_cons (pv 3) (pa_cons (pe_op op_fdivW (pe_ix ix_seq (pv 0) pe_int (fun _ _ => rfl)) (pv 2)) pa_nil)))) (pv 3)))
      (pss_cons (ps_set (i := 5) sc_joined.nd rfl (Or.inl rfl) (pe_op op_mulW (pe_ix ix_seq (pv 0) pe_int (fun _ _ => rfl)) (pv 3)))
      (pss_one (ps_ret (pe_tup (pa_cons (pv 5) (pa_cons (pe_op op_mod (pe_op op_add (pe_ix ix_seq (pv 0) pe_int (fun _ _ => rfl)) (pe_op op_mulW (pe_ix ix_seq (pv 0) pe_int (fun _ _ => rfl)) (pv 4))) (pv 5)) pa_nil))))))))), ?_⟩)
  · obtain ⟨p, q, m, r, n, s, rfl, _⟩ := h; rfl
  · obtain ⟨p, q, m, r, n, s, rfl, hp, hq, m0, n0, m1, n1, r0, r1, s1, al, k⟩ := h
    have gp : 0 < (Int.gcd m n : Nat) := Int.gcd_pos_of_ne_zero_left n (by omega)
    walk_at "g"
    refine s_ixT (SqT.of hp) (atI0 0 rfl rfl) ?_
    walk_at "g"
    refine s_ixT (SqT.of hq) (atI0 0 rfl rfl) ?_
    walk_at "g"
    refine ⟨m, n, rfl, by omega, by omega, fun g u v t I ht => ?_⟩
    have S1 : Same H (upd H t (.tup [.int g, .int u, .int v])) := same_upd ht
    have T1 : upd H t (.tup [.int g, .int u, .int v]) t = some (.tup [.int g, .int u, .int v]) := upd_same
    generalize upd H t (.tup [.int g, .int u, .int v]) = H1 at S1 T1 ⊢
    have hg := I.hg
    walk_at "g"
    refine s_ixT (SqT.of T1) (atI0 0 rfl rfl) ?_
    walk_at "g"
    refine s_ixT (SqT.of (S1 _ _ hq)) (atI0 0 rfl rfl) ?_
    have gl : g ≤ n := by rw [hg]; exact Int.le_of_dvd n0 (Int.gcd_dvd_right ..)
    have gl2 : g ≤ m := by rw [hg]; exact Int.le_of_dvd m0 (Int.gcd_dvd_left ..)
    have g0 : 0 < g := by omega
    walk_at "g"
    refine s_i (divW g0 (by omega)) ?_
    walk_at "g"
    refine s_ixT (SqT.of (S1 _ _ hq)) (atI0 1 rfl rfl) ?_
    walk_at "g"
    refine s_ixT (SqT.of (S1 _ _ hp)) (atI0 1 rfl rfl) ?_
    walk_at "g"
    refine s_i (divW g0 (by omega)) ?_
    walk_at "g"
    refine s_ixT (SqT.of (S1 _ _ hp)) (atI0 0 rfl rfl) ?_
    walk_at "g"
    refine s_i (divW g0 (by omega)) ?_
    have st0 : 0 < n / g := Int.ediv_pos_of_pos_of_dvd n0 (by omega) (by rw [hg]; exact Int.gcd_dvd_right ..)
    have st1 : n / g ≤ n := Int.ediv_le_self _ (by omega)
    have c1 : Int.gcd (m / g) (n / g) = 1 := by rw [hg]; exact Int.gcd_ediv_gcd_ediv_gcd gp
    walk_at "g"
    refine ⟨n / g, m / g, rfl, st0, by omega, fun _ H2 b s2 b0 b1 hb => ?_, fun z => absurd c1 z⟩
    have d1 : ((s - r) / g).natAbs ≤ (s - r).natAbs := Int.natAbs_ediv_le_natAbs _ _
    walk_at "g"
    refine s_i (by omega) ?_
    have S2 := S1.trans s2
    rw [hg] at hb
    have J := M.join_ok m0 n0 al hb
    rw [← hg] at J
    have t0 := Int.emod_nonneg ((s - r) / g * b) (show n / g ≠ 0 by omega)
    have t1 := Int.emod_lt_of_pos ((s - r) / g * b) st0
    have w0 : 0 < m * (n / g) := Int.mul_pos m0 st0
    generalize (s - r) / g * b % (n / g) = T0 at J t0 t1 ⊢
    walk_at "g"
    refine s_ixT (SqT.of (S2 _ _ hp)) (atI0 0 rfl rfl) ?_
    walk_at "g"
    refine s_ixT (SqT.of (S2 _ _ hp)) (atI0 1 rfl rfl) ?_
    walk_at "g"
    refine s_ixT (SqT.of (S2 _ _ hp)) (atI0 0 rfl rfl) ?_
    walk_at "g"
    refine s_i (by omega) ?_
    walk_at "g"
    refine mkT (by simp) fun t2 H3 n3 e3 s3 => ?_
    exact k t2 H3 _ _ J (S2.trans s3) e3
/-- put_together(places) -/
def sp_put_together (K : PySem.W.Frag) : Sp := fun vs H Q _ => ∃ (a : Addr) (pl : List (Int × Int)), vs = [.ref a] ∧ PlacesAt K H a pl ∧ pl.length ≤ 12 ∧ (∀ q ∈ pl, 0 < q.1 ∧ q.1 < 2 ^ 60 ∧ q.2.natAbs < 2 ^ 800) ∧
  (M.allAlike pl → ∀ p H' w x, M.Put pl w x → Same H H' → H' p = some (.tup [.int w, .int x]) → Q (.ref p) H') ∧
  (∀ i j : Nat, M.firstApart pl i j → ∀ p H', Same H H' → H' p = some (.tup [.str "apart", .int i, .int j]) → Q (.ref p) H')
theorem ok_put_together (T : Txt K mg) : FnOk P w K mg base CX0 7 (He.ga K "put_together") (fd_put_together T) ["places"] (sp_put_together K) := by
  refine (F_put_together T).ok sc_put_together (fun vs H Q E h => ?_) (fun cdv A outer s H vs Q E hr h => ⟨_, PSs.nox (pss_cons (ps_set (i := 1) sc_put_together.nd rfl (Or.inl rfl) (pe_call (ok_first_apart T) (hr.mono (by decide)) rfl (g_first_apart T) (kp_first_apart T) (B_first_apart T) .nil pass0 (pa_cons (pv 0) pa_nil)))
      (pss_cons (ps_if (pt_cmpR op_notN1 (pv 1) pe_non (nomark _)) (pss_one (ps_ret (pe_tup (pa_cons pe_str (pa_cons (pe_ix ix_seq (pv 1) pe_int (fun _ _ => rfl)) (pa_cons (pe_ix ix_seq (pv 1) pe_int (fun _ _ => rfl)) pa_nil)))))) pss_nil)
      (pss_cons (ps_set (i := 2) sc_put_together.nd rfl (Or.inl rfl) (pe_tup (pa_cons pe_int (pa_cons pe_int pa_nil))))
      (pss_cons (ps_for PassesOwn.never rfl (pi_list (pv 0)) (pg_name (i := 3) sc_put_together.nd rfl (Or.inl rfl)) (pss_one (ps_set (i := 2) sc_put_together.nd rfl (Or.inl rfl) (pe_call (ok_joined T) (hr.mono (by decide)) rfl (g_joined T) (kp_joined T) (B_joined T) .nil pass0 (pa_cons (pv 2) (pa_cons (pv 3) pa_nil))))))
      (pss_one (ps_ret (pv 2))))))), ?_⟩)
  · obtain ⟨a, pl, rfl, _⟩ := h; rfl
  · obtain ⟨a, pl, rfl, hP, hl, hm, k1, k2⟩ := h
    walk_at "g"
    refine ⟨a, pl, rfl, hP, by omega, fun q hq => ⟨(hm q hq).1, by have := (hm q hq).2.1; omega⟩, fun al H1 s1 => ?_, fun i j fa p H1 s1 e1 => ?_⟩
    · walk_at "g"
      refine mkT (by simp) fun p0 H2 n0 e0 s2 => ?_
      walk_at "g"
      obtain ⟨xs, hx, ht⟩ := hP
      have hxl : xs.length = pl.length := by rw [ht.length, List.length_map]
      have S2 := s1.trans s2
      refine ⟨⟨_, SqL.of (S2 _ _ hx)⟩, ?_⟩
      refine for_list (fun i σ H' => Same H H' ∧ ∃ (v : Option V) (t : Addr) (w x : Int), σ = [some (.ref a), some .non, some (.ref t), v] ∧ H' t = some (.tup [.int w, .int x]) ∧ M.Put (pl.take i) w x)
        ⟨S2, none, p0, 1, 0, rfl, e0, M.put_nil⟩ (fun i σ H' _ I => SqL.of (I.1 _ _ hx)) ?_ ?_
      · rintro i x0 σ H' hi ⟨hs, v, t, w, x, rfl, ht0, put⟩
        have hil : i < xs.length := (List.getElem?_eq_some_iff.mp hi).1
        obtain ⟨q, hq⟩ : ∃ q, pl[i]? = some q := ⟨_, List.getElem?_eq_getElem (by omega)⟩
        obtain ⟨t1, x1, e1⟩ := PlacesAt.get (K := K) (ht.same hs) hq
        rw [hi] at x1
        cases x1
        have mq := hm q (List.mem_of_getElem? hq)
        have wp := M.put_pos put
        have wl := M.put_le put (fun p hp => ⟨(hm p (List.mem_of_mem_take hp)).1, (hm p (List.mem_of_mem_take hp)).2.1⟩) (by rw [List.length_take]; omega)
        have x0' := put.x0
        have x1' := put.x1
        have al' : M.alike w x q.1 q.2 := M.put_alike put fun p hp => by
          obtain ⟨j, hj⟩ := List.getElem?_of_mem hp
          have hji : j < i := by have := (List.getElem?_eq_some_iff.mp hj).1; rw [List.length_take] at this; omega
          rw [List.getElem?_take_of_lt hji] at hj
          exact al j i p q hji hj hq
        walk_at "g"
        refine ⟨t, t1, w, x, q.1, q.2, rfl, ht0, e1, wp, mq.1, by omega, by omega, x0', by omega, mq.2.2, al', fun t2 H3 w' x' jn s3 e3 => ?_⟩
        walk_at "g"
        refine ⟨hs.trans s3, _, t2, w', x', rfl, e3, ?_⟩
        rw [take_more hq]
        exact M.put_more put jn
      · rintro σ H' ⟨hs, v, t, w, x, rfl, ht0, put⟩
        rw [hxl, List.take_length] at put
        walk_at "g"
        exact k1 al t H' w x put hs ht0
    · walk_at "g"
      refine s_ixT (SqT.of e1) (atI0 0 rfl rfl) ?_
      walk_at "g"
      refine s_ixT (SqT.of e1) (atI0 1 rfl rfl) ?_
      walk_at "g"
      refine mkT (by simp) fun p2 H2 n2 e2 s2 => ?_
      exact k2 i j fa p2 H2 (s1.trans s2) e2

/-- _law_cell_at(script, k): a cell, or 0 -/
def sp__law_cell_at (K : PySem.W.Frag) : Sp := fun vs H Q _ => ∃ (a : Addr) (ns : List Int) (k : Nat), vs = [.ref a, .int k] ∧ SqL K H a (ns.map V.int) ∧ ∀ z : Int, Q (.int z) H
theorem ok__law_cell_at (T : Txt K mg) : FnOk P w K mg base CX0 1 (He.ga K "_law_cell_at") (fd__law_cell_at T) ["_law_script", "_law_k"] (sp__law_cell_at K) := by
  refine (F__law_cell_at T).ok sc__law_cell_at (fun vs H Q E h => ?_) (fun cdv A outer s H vs Q E hr h => ⟨_, PSs.nox (pss_cons (ps_if (pt_cmpR op_lt (pv 1) (pe_callB callLen rfl (T.fr (T.c.fact 19 rfl)) boot_len (pa_cons (pv 0) pa_nil)) (nomark _)) (pss_one (ps_ret (pe_ix ix_seq (pv 0) (pv 1) (fun _ _ => rfl)))) pss_nil)
      (pss_one (ps_ret pe_int))), ?_⟩)
  · obtain ⟨a, ns, k, rfl, _⟩ := h; rfl
  · obtain ⟨a, ns, k, rfl, hS, q⟩ := h
    walk_at "g"
    refine s_lenL hS ?_
    walk_at "g"
    refine s_ite (fun c => ?_) (fun c => ?_)
    · rw [List.length_map] at c
      obtain ⟨z, hz⟩ : ∃ z, ns[k]? = some z := ⟨_, List.getElem?_eq_getElem (show k < ns.length by omega)⟩
      walk_at "g"
      refine s_ixL hS (atI0 k rfl (v := .int z) (by rw [List.getElem?_map, hz]; rfl)) ?_
      exact q _
    · walk_at "g"
      exact q 0

/-- the state of a law's draws: a dict of what is left and whether it is free -/
def StAt (H : Hp) (p : Addr) : Prop := ∃ (l : Int) (f : Bool), H p = some (.dK [(.inr "left", .int l), (.inr "free", .bl f)]) ∧ (f = false → 0 ≤ l ∧ l < 2147483647)
theorem StAt.same {H H' : Hp} {p : Addr} (h : StAt H p) (s : Same H H') : StAt H' p := by
  obtain ⟨l, f, e, k⟩ := h
  exact ⟨l, f, s _ _ e, k⟩
theorem tups_b {H H' : Hp} {p : Addr} (h : StAt H p) (s : ∀ b o, b ≠ p → H b = some o → H' b = some o) {xs : List V} {rs : List (List V)} (ht : TupsIn H xs rs) : TupsIn H' xs rs := by
  induction ht with
  | nil => exact .nil
  | cons f _ ih =>
    obtain ⟨t, e, ht⟩ := f
    refine .cons ⟨t, e, s _ _ (fun z => ?_) ht⟩ ih
    obtain ⟨_, _, e2, _⟩ := h
    rw [z, e2] at ht; cases ht
/-- _law_state(cell, free): a new state -/
def sp__law_state : Sp := fun vs H Q _ => ∃ (c : Int) (f : Bool), vs = [.int c, .bl f] ∧ ∀ p H', H p = none → Same H H' → StAt H' p → Q (.ref p) H'
theorem ok__law_state (T : Txt K mg) : FnOk P w K mg base CX0 1 (He.ga K "_law_state") (fd__law_state T) ["_law_cell", "_law_free"] sp__law_state := by
  refine (F__law_state T).ok sc__law_state (fun vs H Q E h => ?_) (fun cdv A outer s H vs Q E hr h => ⟨_, PSs.nox (pss_cons (ps_if (pt_val (pv 1)) (pss_one (ps_ret (pe_disp (pps_cons pe_str (pv 0) (pps_cons pe_str pe_bl pps_nil)) rfl rfl (by simp) (by decide)))) pss_nil)
      (pss_one (ps_ret (pe_disp (pps_cons pe_str (pe_op op_add pe_int (pe_op op_mod (pv 0) pe_int)) (pps_cons pe_str pe_bl pps_nil)) rfl rfl (by simp) (by decide))))), ?_⟩)
  · obtain ⟨c, f, rfl, _⟩ := h; rfl
  · obtain ⟨c, f, rfl, k⟩ := h
    walk_at "g"
    refine s_iteb (fun e => ?_) (fun e => ?_)
    · walk_at "g"
      refine s_disp fun p H1 np hd s1 => ?_
      walk_at "g"
      refine mkDisp [(.inr "left", .int c), (.inr "free", .bl true)] hd rfl (by simp) fun H2 e2 s2 => ?_
      exact k p H2 np (s2 H np s1) ⟨c, true, e2, fun z => nomatch z⟩
    · walk_at "g"
      refine s_disp fun p H1 np hd s1 => ?_
      walk_at "g"
      refine mkDisp [(.inr "left", .int (1 + c % 2147483646)), (.inr "free", .bl false)] hd rfl (by simp) fun H2 e2 s2 => ?_
      exact k p H2 np (s2 H np s1) ⟨1 + c % 2147483646, false, e2, fun _ => by omega⟩

/-- _law_take(state, many): a number from 0 to below many -/
def sp__law_take : Sp := fun vs H Q _ => ∃ (p : Addr) (m : Int), vs = [.ref p, .int m] ∧ 0 < m ∧ m < 2 ^ 900 ∧ StAt H p ∧ ∀ (z : Int) H', 0 ≤ z → z < m → StAt H' p → SameB p H H' → Q (.int z) H'
theorem ok__law_take (T : Txt K mg) : FnOk P w K mg base CX0 1 (He.ga K "_law_take") (fd__law_take T) ["_law_state_here", "_law_many"] sp__law_take := by
  refine (F__law_take T).ok sc__law_take (fun vs H Q E h => ?_) (fun cdv A outer s H vs Q E hr h => ⟨_, PSs.nox (pss_cons (ps_if (pt_val (pe_dget (hu_of hr) (pv 0) pe_str (fun _ _ => rfl))) (pss_cons (ps_set (i := 2) sc__law_take.nd rfl (Or.inl rfl) (pe_op op_mod (pe_dget (hu_of hr) (pv 0) pe_str (fun _ _ => rfl)) (pv 1)))
      (pss_cons (ps_dput (hu_of hr) (pv 0) pe_str (pe_op op_fdivW (pe_dget (hu_of hr) (pv 0) pe_str (fun _ _ => rfl)) (pv 1)) rfl)
      (pss_one (ps_ret (pv 2))))) pss_nil)
      (pss_cons (ps_dput (hu_of hr) (pv 0) pe_str (pe_op op_mod (pe_op op_mulW (pe_dget (hu_of hr) (pv 0) pe_str (fun _ _ => rfl)) pe_int) pe_int) rfl)
      (pss_one (ps_ret (pe_op op_mod (pe_op op_fdivW (pe_op op_mod (pe_op op_mulW (pe_dget (hu_of hr) (pv 0) pe_str (fun _ _ => rfl)) pe_int) pe_int) pe_int) (pv 1)))))), ?_⟩)
  · obtain ⟨p, m, rfl, _⟩ := h; rfl
  · obtain ⟨p, m, rfl, m0, m1, ⟨l, f, hd, hf⟩, k⟩ := h
    have hl : ([(.inr "left", .int l), (.inr "free", .bl f)] : List (Key × V)).length < sizeLine := by exact small1000 (by simp)
    have v1 : valV ([(.inr "left", .int l), (.inr "free", .bl f)] : List (Key × V)) (.inr "left") = some (.int l) := by rfl
    have v2 : valV ([(.inr "left", .int l), (.inr "free", .bl f)] : List (Key × V)) (.inr "free") = some (.bl f) := by rfl
    have pk : ∀ x : Int, putK ([(.inr "left", .int l), (.inr "free", .bl f)] : List (Key × V)) (.inr "left") (.int x) = [(.inr "left", .int x), (.inr "free", .bl f)] := fun x => by rfl
    walk_at "g"
    refine s_dgetS hd v2 ?_
    walk_at "g"
    cases f with
    | true =>
      walk_at "g"
      refine s_dgetS hd v1 ?_
      walk_at "g"
      refine s_i (by omega) ?_
      walk_at "g"
      refine s_dgetS hd v1 ?_
      walk_at "g"
      refine s_i (divW m0 (by omega)) ?_
      walk_at "g"
      refine s_dputS hd hl ?_
      walk_at "g"
      rw [pk]
      exact k _ _ (Int.emod_nonneg _ (by omega)) (Int.emod_lt_of_pos _ m0) ⟨_, true, upd_same, fun z => nomatch z⟩ SameB.put
    | false =>
      have hb := hf rfl
      walk_at "g"
      refine s_dgetS hd v1 ?_
      walk_at "g"
      refine s_dputS hd hl ?_
      walk_at "g"
      rw [pk]
      have e : upd H p (.dK [(.inr "left", .int (l * 48271 % 2147483647)), (.inr "free", .bl false)]) p = some (.dK [(.inr "left", .int (l * 48271 % 2147483647)), (.inr "free", .bl false)]) := upd_same
      refine s_dgetS e (by rfl) ?_
      have b0 : 0 ≤ l * 48271 % 2147483647 := by omega
      have b1 : l * 48271 % 2147483647 < 2147483647 := by omega
      walk_at "g"
      refine s_i (by omega) ?_
      walk_at "g"
      exact k _ _ (Int.emod_nonneg _ (by omega)) (Int.emod_lt_of_pos _ m0) ⟨_, false, upd_same, fun _ => ⟨b0, b1⟩⟩ SameB.put

/-- _law_number(state): a number of at most fifty-six figures, of either sign -/
def sp__law_number : Sp := fun vs H Q _ => ∃ (p : Addr), vs = [.ref p] ∧ StAt H p ∧ ∀ (z : Int) H', z.natAbs < 10 ^ 57 → StAt H' p → SameB p H H' → Q (.int z) H'
theorem ok__law_number (T : Txt K mg) : FnOk P w K mg base CX0 2 (He.ga K "_law_number") (fd__law_number T) ["_law_state_here"] sp__law_number := by
  refine (F__law_number T).ok sc__law_number (fun vs H Q E h => ?_) (fun cdv A outer s H vs Q E hr h => ⟨_, PSs.nox (pss_cons (ps_set (i := 1) sc__law_number.nd rfl (Or.inl rfl) (pe_call (ok__law_take T) (hr.mono (by decide)) rfl (g__law_take T) (kp__law_take T) (B__law_take T) .nil pass0 (pa_cons (pv 0) (pa_cons pe_int pa_nil))))
      (pss_cons (ps_if (pt_cmpR op_eq (pv 1) pe_int (nomark _)) (pss_one (ps_ret (pe_op op_sub (pe_call (ok__law_take T) (hr.mono (by decide)) rfl (g__law_take T) (kp__law_take T) (B__law_take T) .nil pass0 (pa_cons (pv 0) (pa_cons pe_int pa_nil))) pe_int))) pss_nil)
      (pss_cons (ps_if (pt_cmpR op_eq (pv 1) pe_int (nomark _)) (pss_one (ps_ret (pe_op op_sub (pe_call (ok__law_take T) (hr.mono (by decide)) rfl (g__law_take T) (kp__law_take T) (B__law_take T) .nil pass0 (pa_cons (pv 0) (pa_cons (pe_op op_mulW pe_int (pe_op op_pow pe_int pe_int)) pa_nil))) (pe_op op_pow pe_int pe_int)))) pss_nil)
      (pss_cons (ps_set (i := 2) sc__law_number.nd rfl (Or.inl rfl) pe_int)
      (pss_cons (ps_for PassesOwn.never rfl (pi_range1 rfl (T.fr (T.c.fact 18 rfl)) (pa_cons pe_int pa_nil)) (pg_name (i := 3) sc__law_number.nd rfl (Or.inl rfl)) (pss_one (ps_set (i := 2) sc__law_number.nd rfl (Or.inl rfl) (pe_op op_add (pe_op op_mulW (pv 2) (pe_op op_pow pe_int pe_int)) (pe_call (ok__law_take T) (hr.mono (by decide)) rfl (g__law_take T) (kp__law_take T) (B__law_take T) .nil pass0 (pa_cons (pv 0) (pa_cons (pe_op op_pow pe_int pe_int) pa_nil)))))))
      (pss_one (ps_ret (pe_op op_mulW (pv 2) (pe_op op_sub (pe_op op_mulW pe_int (pe_call (ok__law_take T) (hr.mono (by decide)) rfl (g__law_take T) (kp__law_take T) (B__law_take T) .nil pass0 (pa_cons (pv 0) (pa_cons pe_int pa_nil)))) pe_int))))))))), ?_⟩)
  · obtain ⟨p, rfl, _⟩ := h; rfl
  · obtain ⟨p, rfl, hst, k⟩ := h
    walk_at "g"
    refine ⟨p, 4, rfl, by decide, by decide, hst, fun w H1 w0 w1 st1 s1 => ?_⟩
    walk_at "g"
    refine s_ite (fun _ => ?_) (fun _ => ?_)
    · walk_at "g"
      refine ⟨p, 21, rfl, by decide, by decide, st1, fun z H2 z0 z1 st2 s2 => ?_⟩
      walk_at "g"
      exact k _ H2 (by omega) st2 (s1.trans s2)
    walk_at "g"
    refine s_ite (fun _ => ?_) (fun _ => ?_)
    · walk_at "g"
      refine ⟨p, _, rfl, by decide, by decide, st1, fun z H2 z0 z1 st2 s2 => ?_⟩
      walk_at "g"
      exact k _ H2 (by omega) st2 (s1.trans s2)
    walk_at "g"
    refine mkR1 7 rfl (by decide) (by decide) ?_
    refine for_range (n := 7) (fun i σ H' => SameB p H H' ∧ StAt H' p ∧ ∃ (f : Int) (v : Option V), σ = [some (.ref p), some (.int w), some (.int f), v] ∧ 0 ≤ f ∧ f < 10 ^ (8 * i)) ⟨s1, st1, 0, none, rfl, by decide, by decide⟩ ?_ ?_
    · rintro i σ H' hi ⟨hs, st, f, v, rfl, f0, f1⟩
      have f2 : f < 10 ^ 56 := Int.lt_of_lt_of_le f1 (by
        have : i = 0 ∨ i = 1 ∨ i = 2 ∨ i = 3 ∨ i = 4 ∨ i = 5 ∨ i = 6 := by omega
        rcases this with rfl | rfl | rfl | rfl | rfl | rfl | rfl <;> decide)
      walk_at "g"
      refine ⟨p, _, rfl, by decide, by decide, st, fun z H2 z0 z1 st2 s2 => ?_⟩
      walk_at "g"
      refine ⟨hs.trans s2, st2, _, _, rfl, by omega, ?_⟩
      have e : (10 : Int) ^ (8 * (i + 1)) = 10 ^ (8 * i) * 10 ^ 8 := by rw [← Int.pow_add]; congr 1
      rw [e]
      generalize (10 : Int) ^ (8 * i) = M at f1 ⊢
      omega
    · rintro σ H' ⟨hs, st, f, v, rfl, f0, f1⟩
      have f2 : f < 10 ^ 56 := f1
      walk_at "g"
      refine ⟨p, 2, rfl, by decide, by decide, st, fun z H2 z0 z1 st2 s2 => ?_⟩
      walk_at "g"
      have e : z = 0 ∨ z = 1 := by omega
      refine k _ H2 ?_ st2 (hs.trans s2)
      rcases e with rfl | rfl <;> omega

/-- _law_modulus(state): a number from 1 to 10 ** 16 -/
def sp__law_modulus : Sp := fun vs H Q _ => ∃ (p : Addr), vs = [.ref p] ∧ StAt H p ∧ ∀ (z : Int) H', 0 < z → z ≤ 10 ^ 16 → StAt H' p → SameB p H H' → Q (.int z) H'
theorem ok__law_modulus (T : Txt K mg) : FnOk P w K mg base CX0 2 (He.ga K "_law_modulus") (fd__law_modulus T) ["_law_state_here"] sp__law_modulus := by
  refine (F__law_modulus T).ok sc__law_modulus (fun vs H Q E h => ?_) (fun cdv A outer s H vs Q E hr h => ⟨_, PSs.nox (pss_cons (ps_set (i := 1) sc__law_modulus.nd rfl (Or.inl rfl) (pe_call (ok__law_take T) (hr.mono (by decide)) rfl (g__law_take T) (kp__law_take T) (B__law_take T) .nil pass0 (pa_cons (pv 0) (pa_cons pe_int pa_nil))))
      (pss_cons (ps_if (pt_cmpR op_lt (pv 1) pe_int (nomark _)) (pss_one (ps_ret (pe_op op_add pe_int (pe_call (ok__law_take T) (hr.mono (by decide)) rfl (g__law_take T) (kp__law_take T) (B__law_take T) .nil pass0 (pa_cons (pv 0) (pa_cons (pe_ix ix_seq (pe_lst (pa_cons pe_int (pa_cons pe_int (pa_cons pe_int pa_nil)))) (pv 1) (fun _ _ => rfl)) pa_nil)))))) pss_nil)
      (pss_one (ps_ret (pe_op op_add (pe_op op_add pe_int (pe_op op_mulW (pe_call (ok__law_take T) (hr.mono (by decide)) rfl (g__law_take T) (kp__law_take T) (B__law_take T) .nil pass0 (pa_cons (pv 0) (pa_cons (pe_op op_pow pe_int pe_int) pa_nil))) (pe_op op_pow pe_int pe_int))) (pe_call (ok__law_take T) (hr.mono (by decide)) rfl (g__law_take T) (kp__law_take T) (B__law_take T) .nil pass0 (pa_cons (pv 0) (pa_cons (pe_op op_pow pe_int pe_int) pa_nil)))))))), ?_⟩)
  · obtain ⟨p, rfl, _⟩ := h; rfl
  · obtain ⟨p, rfl, hst, k⟩ := h
    walk_at "g"
    refine ⟨p, 4, rfl, by decide, by decide, hst, fun w H1 w0 w1 st1 s1 => ?_⟩
    walk_at "g"
    refine s_ite (fun c => ?_) (fun _ => ?_)
    · walk_at "g"
      refine mkL (by simp) fun q H2 nq eq s2 => ?_
      walk_at "g"
      refine s_pickN (P := fun z => 0 < z ∧ z ≤ 1000) [12, 60, 1000] eq (by simp; omega) (by decide) fun m hm => ?_
      walk_at "g"
      refine ⟨p, m, rfl, by omega, by omega, st1.same s2, fun z H3 z0 z1 st3 s3 => ?_⟩
      walk_at "g"
      exact k _ H3 (by omega) (by omega) st3 (s1.trans ((SameB.of s2).trans s3))
    · walk_at "g"
      refine ⟨p, _, rfl, by decide, by decide, st1, fun z H3 z0 z1 st3 s3 => ?_⟩
      walk_at "g"
      refine ⟨p, _, rfl, by decide, by decide, st3, fun y H4 y0 y1 st4 s4 => ?_⟩
      walk_at "g"
      exact k _ H4 (by omega) (by omega) st4 (s1.trans (s3.trans s4))

/-- _law_common of two numbers from 0 on: their greatest divisor -/
def sp__law_common : Sp := fun vs H Q _ => ∃ a b : Nat, vs = [.int a, .int b] ∧ Q (.int (Nat.gcd a b)) H
theorem ok__law_common (T : Txt K mg) : FnOk P w K mg base CX0 1 (He.ga K "_law_common") (fd__law_common T) ["_law_one", "_law_other"] sp__law_common := by
  refine (F__law_common T).ok sc__law_common (fun vs H Q E h => ?_) (fun cdv A outer s H vs Q E hr h => ⟨_, PSs.nox (pss_cons (ps_while PassesOwn.never (pt_cmpR op_ne (pv 1) pe_int (nomark _)) (pss_one (ps_par (i := 0) (j := 1) rfl sc__law_common.nd rfl rfl (by decide) rfl rfl (pa_cons (pv 1) (pa_cons (pe_op op_mod (pv 0) (pv 1)) pa_nil)) rfl)))
      (pss_one (ps_ret (pv 0)))), ?_⟩)
  · obtain ⟨a, b, rfl, _⟩ := h; rfl
  · obtain ⟨a, b, rfl, k⟩ := h
    walk_at "g"
    refine s_while (fun σ H' => H' = H ∧ ∃ c d : Nat, σ = [some (.int c), some (.int d)] ∧ Nat.gcd c d = Nat.gcd a b) (fun σ _ => (iv σ 1).natAbs) ⟨rfl, a, b, rfl, rfl⟩ ?_
    rintro σ H' ⟨rfl, c, d, rfl, e⟩
    walk_at "g"
    refine s_iten (fun hd => ?_) (fun hd => ?_)
    · walk_at "g"
      refine s_i (by omega) ?_
      walk_at "g"
      have dp : 0 < d := by omega
      have ml := Nat.mod_lt c dp
      refine ⟨⟨rfl, d, c % d, rfl, ?_⟩, ?_⟩
      · rw [Nat.gcd_comm, ← Nat.gcd_rec, Nat.gcd_comm]; exact e
      · show ((c : Int) % d).natAbs < (d : Int).natAbs
        omega
    · have z : d = 0 := by omega
      subst z
      walk_at "g"
      rw [Nat.gcd_zero_right] at e
      rw [e]
      exact k

/-- numbers as values -/
def nv (l : List Nat) : List V := (l.map fun d : Nat => (d : Int)).map V.int
theorem ints_back {L : List Nat} {ns : List Int} (pm : ns.Perm (L.map fun d : Nat => (d : Int))) (srt : ns.Pairwise (· ≤ ·)) (nd : L.Pairwise (· ≠ ·)) : ∃ ds : List Nat, ns = ds.map (fun d : Nat => (d : Int)) ∧ ds.Perm L ∧ ds.Pairwise (· < ·) := by
  have h1 : ns = (ns.map Int.toNat).map (fun d : Nat => (d : Int)) := by
    rw [List.map_map]
    refine ((List.map_congr_left fun z hz => ?_).trans (List.map_id _)).symm
    obtain ⟨d, _, rfl⟩ := List.mem_map.mp (pm.mem_iff.mp hz)
    rfl
  have h2 : (ns.map Int.toNat).Perm L := by
    have h := pm.map Int.toNat
    rw [List.map_map] at h
    have e : L.map (Int.toNat ∘ fun d : Nat => (d : Int)) = L := (List.map_congr_left fun z _ => rfl).trans (List.map_id _)
    rw [e] at h
    exact h
  refine ⟨_, h1, h2, ?_⟩
  have h3 : (ns.map Int.toNat).Nodup := h2.nodup_iff.mpr nd
  rw [h1, List.pairwise_map] at srt
  exact (srt.and h3).imp fun z => by have := z.1; have := z.2; omega
theorem nv_app (l m : List Nat) : nv (l ++ m) = nv l ++ nv m := by simp [nv]
theorem nv_len (l : List Nat) : (nv l).length = l.length := by simp [nv]
theorem nv_get {l : List Nat} {i : Nat} {x : V} (h : (nv l)[i]? = some x) : ∃ d, l[i]? = some d ∧ x = .int (d : Nat) := by
  unfold nv at h
  rw [List.getElem?_map, List.getElem?_map] at h
  obtain ⟨z, h1, rfl⟩ := Option.map_eq_some_iff.mp h
  obtain ⟨d, h2, rfl⟩ := Option.map_eq_some_iff.mp h1
  exact ⟨d, h2, rfl⟩
theorem line2 {n : Nat} (h : n ≤ 2000000) : n < sizeLine := by rw [sizeLine_eq]; omega

theorem dp_ints {K : PySem.W.Frag} {H : Hp} {q : Addr} {l : List Int} (h : H q = some (.lst (l.map V.int))) : Dp K H (.ref q) (.list (l.map PyData.int)) := by
  refine .lst (SqL.of h) ?_
  clear h
  induction l with
  | nil => exact .nil
  | cons n l ih => exact .cons (.int _) ih
theorem sh_ints (l : List Int) : SeqAt.shaped (.list (l.map PyData.int)) = true := shapedL fun d hd => by
  obtain ⟨q, _, rfl⟩ := List.mem_map.mp hd
  exact ⟨rfl, Nat.zero_le _⟩
theorem eqv_nil (l : List Int) : PyData.eqv (.list (l.map PyData.int)) (.list []) = decide (l = []) := by
  cases l with
  | nil => simp [PyData.eqv, PyData.eqvAll]
  | cons a l => simp [PyData.eqv, PyData.eqvAll]

/-- the rests of a number -/
def restsV (N : Int) (ms : List Int) : List V := (ms.map fun m => N % m).map V.int
/-- taken_apart(number, moduli): a new list -/
def sp_taken_apart : Sp := fun vs H Q _ => ∃ (N : Int) (a : Addr) (ms : List Int), vs = [.int N, .ref a] ∧ H a = some (.lst (ms.map V.int)) ∧ ms.length ≤ 12 ∧ (∀ m ∈ ms, 0 < m) ∧ ∀ F H', H F = none → H' F = some (.lst (restsV N ms)) → Same H H' → Q (.ref F) H'
theorem ok_taken_apart (T : Txt K mg) : FnOk P w K mg base CX0 1 (He.ga K "taken_apart") (fd_taken_apart T) ["number", "moduli"] sp_taken_apart := by
  refine (F_taken_apart T).ok sc_taken_apart (fun vs H Q E h => ?_) (fun cdv A outer s H vs Q E hr h => ⟨_, PSs.nox (pss_one (ps_ret (pe_lc (own := [("modulus", 2)]) (tt := tYes) rfl sc_taken_apart.nd (pi_list (pv 1)) (blkOk_by (N := N_taken_apart) (sc := defScope s_taken_apart) (by decide +kernel)) (fun _ _ _ _ _ => (pg_name (i := 2) sc_taken_apart.nd rfl (Or.inl rfl))) (fun _ _ _ _ _ => pts_nil) (fun _ _ _ _ _ => (pe_op op_mod (pv 0) (pv 2)))))), ?_⟩)
  · obtain ⟨N, a, ms, rfl, _⟩ := h; rfl
  · obtain ⟨N, a, ms, rfl, ha, hl, hm, k⟩ := h
    walk_at "g"
    refine s_lc ?_
    walk_at "g"
    refine ⟨⟨_, SqL.of ha⟩, fun D hD => ?_⟩
    refine lc_list (fun i H' => Same H H' ∧ H' D = some (.lst (restsV N (ms.take i)))) ⟨same_upd hD, upd_same⟩ (fun i H' _ I => SqL.of (I.1 _ _ ha)) ?_ ?_
    · rintro i x H1 hi ⟨s1, eD⟩
      rw [List.getElem?_map] at hi
      obtain ⟨m, hmi, rfl⟩ := Option.map_eq_some_iff.mp hi
      have m0 := hm _ (List.mem_of_getElem? hmi)
      have hil := (List.getElem?_eq_some_iff.mp hmi).1
      walk_at "g"
      refine ⟨rfl, ?_⟩
      walk_at "g"
      refine s_i m0 ?_
      refine ⟨_, eD, line2 (by unfold restsV; rw [List.length_map, List.length_map, List.length_take]; omega), same_upd' s1 hD, ?_⟩
      unfold restsV
      rw [upd_same, take_more hmi, List.map_append, List.map_append]; rfl
    · rintro H1 ⟨s1, eD⟩
      rw [List.length_map, List.take_length] at eD
      exact k D H1 hD eD s1
/-- _law_are_rests(number, moduli, found) -/
def sp__law_are_rests : Sp := fun vs H Q _ => ∃ (N : Int) (a f : Addr) (ms : List Int), vs = [.int N, .ref a, .ref f] ∧ H a = some (.lst (ms.map V.int)) ∧ H f = some (.lst (restsV N ms)) ∧ ms.length ≤ 12 ∧ (∀ m ∈ ms, 0 < m) ∧ ∀ H', Same H H' → Q (.bl true) H'
theorem ok__law_are_rests (T : Txt K mg) : FnOk P w K mg base CX0 1 (He.ga K "_law_are_rests") (fd__law_are_rests T) ["_law_number_here", "_law_moduli", "_law_found"] sp__law_are_rests := by
  refine (F__law_are_rests T).ok sc__law_are_rests (fun vs H Q E h => ?_) (fun cdv A outer s H vs Q E hr h => ⟨_, PSs.nox (pss_cons (ps_if (PW.pt (pw_or (pt_not (pt_val (pe_callB call_isi rfl (T.fr (T.c.fact 21 rfl)) boot_isinstance (pa_cons (pv 2) (pa_cons (pe_bltn (v := .ty "list") rfl (T.fr (T.c.fact 22 rfl)) boot_list rfl) pa_nil))))) (pw_or1 (pt_cmpR op_ne (pe_callB callLen rfl (T.fr (T.c.fact 19 rfl)) boot_len (pa_cons (pv 2) pa_nil)) (pe_callB callLen rfl (T.fr (T.c.fact 19 rfl)) boot_len (pa_cons (pv 1) pa_nil)) (nomark _))))) (pss_one (ps_ret pe_bl)) pss_nil)
      (pss_cons (ps_for PassesOwn.never rfl (RZ.pi_zipA rfl (T.fr (T.c.fact 20 rfl)) (pa_cons (pv 1) (pa_cons (pv 2) pa_nil))) (pg_tup rfl (pgs_cons (pg_name (i := 3) sc__law_are_rests.nd rfl (Or.inl rfl)) (pgs_cons (pg_name (i := 4) sc__law_are_rests.nd rfl (Or.inl rfl)) pgs_nil))) (pss_cons (ps_if (PW.pt (pw_or (pt_not (pt_val (pe_callB call_isi rfl (T.fr (T.c.fact 21 rfl)) boot_isinstance (pa_cons (pv 4) (pa_cons (pe_bltn (v := .ty "int") rfl (T.fr (T.c.fact 24 rfl)) boot_int rfl) pa_nil))))) (pw_or (pt_val (pe_callB call_isi rfl (T.fr (T.c.fact 21 rfl)) boot_isinstance (pa_cons (pv 4) (pa_cons (pe_bltn (v := .ty "bool") rfl (T.fr (T.c.fact 23 rfl)) boot_bool rfl) pa_nil)))) (pw_or (pt_cmpR op_lt (pv 4) pe_int (nomark _)) (pw_or1 (pt_cmpR op_ge (pv 4) (pv 3) (nomark _))))))) (pss_one (ps_ret pe_bl)) pss_nil)
      (pss_one (ps_if (pt_cmpR op_ne (pe_op op_mod (pe_op op_sub (pv 0) (pv 4)) (pv 3)) pe_int (nomark _)) (pss_one (ps_ret pe_bl)) pss_nil))))
      (pss_one (ps_ret pe_bl)))), ?_⟩)
  · obtain ⟨N, a, f, ms, rfl, _⟩ := h; rfl
  · obtain ⟨N, a, f, ms, rfl, ha, hf, hl, hm, k⟩ := h
    have hfl : (restsV N ms).length = ms.length := by unfold restsV; rw [List.length_map, List.length_map]
    walk_at "g"
    refine s_isi (.lst hf) kb_ll ?_
    walk_at "g"
    refine s_lenL (SqL.of hf) ?_
    rw [hfl]
    walk_at "g"
    refine s_lenL (SqL.of ha) ?_
    rw [List.length_map]
    walk_at "g"
    refine ⟨a, f, _, _, rfl, .inl ⟨SqL.of ha, SqL.of hf, ?_⟩⟩
    refine RZ.for_zipL (by rw [hfl, List.length_map]) (fun i σ H' => Same H H' ∧ ∃ v3 v4 : Option V, σ = [some (.int N), some (.ref a), some (.ref f), v3, v4]) ⟨Same.refl _, none, none, rfl⟩ (fun i σ H' I => ⟨SqL.of (I.1 _ _ ha), SqL.of (I.1 _ _ hf)⟩) ?_ ?_
    · rintro i x y T σ H1 hx hy ⟨s1, v3, v4, rfl⟩ nT
      have s2 : Same H1 (upd H1 T (.tup [x, y])) := same_upd nT
      have eT : upd H1 T (.tup [x, y]) T = some (.tup [x, y]) := upd_same
      generalize upd H1 T (.tup [x, y]) = H2 at s2 eT ⊢
      rw [List.getElem?_map] at hx
      obtain ⟨m, hmi, rfl⟩ := Option.map_eq_some_iff.mp hx
      unfold restsV at hy
      rw [List.getElem?_map, List.getElem?_map, hmi] at hy
      obtain rfl : V.int (N % m) = y := Option.some.inj hy
      have m0 := hm _ (List.mem_of_getElem? hmi)
      have r0 := Int.emod_nonneg N (show m ≠ 0 by omega)
      have r1 := Int.emod_lt_of_pos N m0
      refine s_gtup (SqT.of eT) rfl ?_
      walk_at "g"
      refine s_itN (by omega) ?_
      walk_at "g"
      refine s_itN (by omega) ?_
      walk_at "g"
      refine s_i m0 ?_
      have e0 : (N - N % m) % m = 0 := by rw [Int.sub_emod, Int.emod_emod_of_dvd N (Int.dvd_refl m), Int.sub_self, Int.zero_emod]
      walk_at "g"
      refine s_itnP e0 ?_
      walk_at "g"
      exact ⟨s1.trans s2, _, _, rfl⟩
    · rintro σ H1 ⟨s1, v3, v4, rfl⟩
      walk_at "g"
      exact k H1 s1
theorem places_zip {K : PySem.W.Frag} {H : Hp} {p : Addr} {ts : List V} {N : Int} : ∀ {ms : List Int}, H p = some (.lst ts) → TupsIn H ts (prV (ms.map V.int) (restsV N ms)) → PlacesAt K H p (M.plN N ms) := fun {ms} h1 h2 => by
  refine ⟨ts, h1, ?_⟩
  have e : prV (ms.map V.int) (restsV N ms) = (M.plN N ms).map fun q => [V.int q.1, V.int q.2] := by
    unfold prV restsV M.plN
    clear h2
    induction ms with
    | nil => rfl
    | cons m ms ih => simp only [List.map_cons, List.zipWith_cons_cons] at ih ⊢; rw [ih]
  rw [← e]; exact h2
theorem paired_rev {α β : Type} {F : α → β → Prop} {xs : List α} {ys : List β} (h : Paired F xs ys) : Paired F xs.reverse ys.reverse := by
  induction h with
  | nil => exact .nil
  | cons f _ ih =>
    rw [List.reverse_cons, List.reverse_cons]
    exact paired_snoc ih f
theorem s_revL {K : PySem.W.Frag} {te : TE} {σ : L2.St} {H : Hp} {Q : VK} (h : te σ H fun x H1 => ∃ a xs, x = .ref a ∧ SqL K H1 a xs ∧ ∀ p, H1 p = none → Q (.ref p) (upd H1 p (.lst xs.reverse))) : tRevL K te σ H Q := h
/-- _law_right(state) -/
def sp__law_right (K : PySem.W.Frag) : Sp := fun vs H Q _ => ∃ s : Addr, vs = [.ref s] ∧ StAt H s ∧ ∀ H', StAt H' s → SameB s H H' → Q (.bl true) H'
theorem ok__law_right (T : Txt K mg) : FnOk P w K mg base CX0 8 (He.ga K "_law_right") (fd__law_right T) ["_law_state_here"] (sp__law_right K) := by
  refine (F__law_right T).ok sc__law_right (fun vs H Q E h => ?_) (fun cdv A outer s H vs Q E hr h => ⟨_, PSs.nox (pss_cons (ps_set (i := 1) sc__law_right.nd rfl (Or.inl rfl) (pe_call (ok__law_number T) (hr.mono (by decide)) rfl (g__law_number T) (kp__law_number T) (B__law_number T) .nil pass0 (pa_cons (pv 0) pa_nil)))
      (pss_cons ((ps_setLc (i := 2) (own := [("_law_k", 9)]) (tt := tYes) rfl sc__law_right.nd rfl rfl (sw_true rfl rfl rfl rfl) (pi_range1 rfl (T.fr (T.c.fact 18 rfl)) (pa_cons (pe_op op_add pe_int (pe_call (ok__law_take T) (hr.mono (by decide)) rfl (g__law_take T) (kp__law_take T) (B__law_take T) .nil pass0 (pa_cons (pv 0) (pa_cons pe_int pa_nil)))) pa_nil)) (blkOk_by (N := N__law_right) (sc := defScope s__law_right) (by decide +kernel)) (fun _ _ _ _ _ => (pg_name (i := 9) sc__law_right.nd rfl (Or.inl rfl))) (fun _ _ _ _ _ => pts_nil) (fun _ _ _ _ _ => (pe_call (ok__law_modulus T) (hr.mono (by decide)) rfl (g__law_modulus T) (kp__law_modulus T) (B__law_modulus T) .nil pass0 (pa_cons (pv 0) pa_nil)))))
      (pss_cons (ps_set (i := 3) sc__law_right.nd rfl (Or.inl rfl) pe_int)
      (pss_cons (ps_for PassesOwn.never rfl (pi_list (pv 2)) (pg_name (i := 4) sc__law_right.nd rfl (Or.inl rfl)) (pss_one (ps_set (i := 3) sc__law_right.nd rfl (Or.inl rfl) (pe_op op_mulW (pe_op op_fdivW (pv 3) (pe_call (ok__law_common T) (hr.mono (by decide)) rfl (g__law_common T) (kp__law_common T) (B__law_common T) .nil pass0 (pa_cons (pv 3) (pa_cons (pv 4) pa_nil)))) (pv 4)))))
      (pss_cons (ps_set (i := 5) sc__law_right.nd rfl (Or.inl rfl) (pe_callTy callLst rfl (T.fr (T.c.fact 22 rfl)) boot_list (pa_cons (pv 2) pa_nil)))
      (pss_cons (ps_set (i := 6) sc__law_right.nd rfl (Or.inl rfl) (pe_call (ok_taken_apart T) (hr.mono (by decide)) rfl (g_taken_apart T) (kp_taken_apart T) (B_taken_apart T) .nil pass0 (pa_cons (pv 1) (pa_cons (pv 5) pa_nil))))
      (pss_cons (ps_if (PW.pt (pw_or (pt_not (pt_val (pe_call (ok__law_are_rests T) (hr.mono (by decide)) rfl (g__law_are_rests T) (kp__law_are_rests T) (B__law_are_rests T) .nil pass0 (pa_cons (pv 1) (pa_cons (pv 2) (pa_cons (pv 6) pa_nil)))))) (pw_or1 (pt_cmpR (op_neD hr.units) (pv 5) (pv 2) (nomark _))))) (pss_one (ps_ret pe_bl)) pss_nil)
      (pss_cons (ps_set (i := 7) sc__law_right.nd rfl (Or.inl rfl) (pe_listZip rfl rfl (T.fr (T.c.fact 22 rfl)) rfl (T.fr (T.c.fact 20 rfl)) (pa_cons (pv 2) (pa_cons (pv 6) pa_nil))))
      (pss_cons (ps_if (PW.pt (pw_or (pt_cmpR (op_neD hr.units) (pe_call (ok_put_together T) (hr.mono (by decide)) rfl (g_put_together T) (kp_put_together T) (B_put_together T) .nil pass0 (pa_cons (pv 7) pa_nil)) (pe_tup (pa_cons (pv 3) (pa_cons (pe_op op_mod (pv 1) (pv 3)) pa_nil))) (nomark _)) (pw_or1 (pt_cmpR (op_neD hr.units) (pe_call (ok_put_together T) (hr.mono (by decide)) rfl (g_put_together T) (kp_put_together T) (B_put_together T) .nil pass0 (pa_cons (pe_revL (pv 7)) pa_nil)) (pe_tup (pa_cons (pv 3) (pa_cons (pe_op op_mod (pv 1) (pv 3)) pa_nil))) (nomark _))))) (pss_one (ps_ret pe_bl)) pss_nil)
      (pss_cons (ps_set (i := 8) sc__law_right.nd rfl (Or.inl rfl) (pe_call (ok_taken_apart T) (hr.mono (by decide)) rfl (g_taken_apart T) (kp_taken_apart T) (B_taken_apart T) .nil pass0 (pa_cons (pe_op op_mod (pv 1) (pv 3)) (pa_cons (pv 5) pa_nil))))
      (pss_cons (ps_if (pt_cmpR (op_neD hr.units) (pv 8) (pv 6) (nomark _)) (pss_one (ps_ret pe_bl)) pss_nil)
      (pss_cons (ps_expr (pe_bm PySem.F.plainAttrs_list PySem.F.slot_list_append PySem.F.type_list_append mt_append (pv 6) (pa_cons pe_int pa_nil)))
      (pss_cons (ps_expr (pe_bm PySem.F.plainAttrs_list PySem.F.slot_list_append PySem.F.type_list_append mt_append (pv 5) (pa_cons pe_int pa_nil)))
      (pss_one (ps_ret (pe_and (pe_call (ok__law_are_rests T) (hr.mono (by decide)) rfl (g__law_are_rests T) (kp__law_are_rests T) (B__law_are_rests T) .nil pass0 (pa_cons (pv 1) (pa_cons (pv 2) (pa_cons (pv 8) pa_nil)))) (pe_one (pe_call (ok__law_are_rests T) (hr.mono (by decide)) rfl (g__law_are_rests T) (kp__law_are_rests T) (B__law_are_rests T) .nil pass0 (pa_cons (pv 1) (pa_cons (pv 2) (pa_cons (pe_call (ok_taken_apart T) (hr.mono (by decide)) rfl (g_taken_apart T) (kp_taken_apart T) (B_taken_apart T) .nil pass0 (pa_cons (pv 1) (pa_cons (pv 2) pa_nil))) pa_nil))))))))))))))))))))), ?_⟩)
  · obtain ⟨s, rfl, _⟩ := h; rfl
  · obtain ⟨s, rfl, hst, k⟩ := h
    have nes : ∀ {l : Addr} {H' : Hp}, H' l = none → StAt H' s → l ≠ s := fun n ⟨_, _, e, _⟩ z => by rw [z, e] at n; cases n
    walk_at "g"
    refine ⟨s, rfl, hst, fun N H1 hN st1 s1 => ?_⟩
    walk_at "g"
    refine s_lc ?_
    walk_at "g"
    refine ⟨s, 12, rfl, by decide, by decide, st1, fun y H2 y0 y1 st2 s2 => ?_⟩
    walk_at "g"
    obtain ⟨n, hn⟩ : ∃ n : Nat, 1 + y = (n : Int) := ⟨(1 + y).toNat, by omega⟩
    rw [hn]
    have n1 : 1 ≤ n ∧ n ≤ 12 := by omega
    refine mkR1 n (by omega) (by omega) (by omega) ?_
    refine fun F hF => ?_
    have hFs : F ≠ s := nes hF st2
    refine lc_range (n := n) (fun i H' => StAt H' s ∧ SameB s H2 H' ∧ ∃ ms : List Int, H' F = some (.lst (ms.map V.int)) ∧ ms.length = i ∧ ∀ m ∈ ms, 0 < m ∧ m ≤ 10 ^ 16) ⟨?_, SameB.of (same_upd hF), [], upd_same, rfl, by simp⟩ ?_ ?_
    · obtain ⟨x1, x2, x3, x4⟩ := st2
      exact ⟨x1, x2, by rw [upd_ne (Ne.symm hFs)]; exact x3, x4⟩
    · rintro i H3 hi ⟨st3, s3, ms, eF, hml, hm⟩
      walk_at "g"
      refine ⟨rfl, ?_⟩
      walk_at "g"
      refine ⟨s, rfl, st3, fun m H4 m0 m1 st4 s4 => ?_⟩
      have eF4 := s4 _ _ hFs eF
      refine ⟨_, eF4, line2 (by rw [List.length_map]; omega), ?_, ?_, ms ++ [m], by rw [upd_same, List.map_append]; rfl, by rw [List.length_append, hml]; rfl, fun z hz => ?_⟩
      · obtain ⟨x1, x2, x3, x4⟩ := st4
        exact ⟨x1, x2, by rw [upd_ne (Ne.symm hFs)]; exact x3, x4⟩
      · exact fun b o hb e => by
          rw [upd_ne (ne_of_none e hF)]
          exact s4 _ _ hb (s3 _ _ hb e)
      · rcases List.mem_append.mp hz with w | w
        · exact hm z w
        · rw [List.mem_singleton.mp w]; exact ⟨m0, m1⟩
    rintro H3 ⟨st3, s3, ms, eF, hml, hm⟩
    have hl12 : ms.length ≤ 12 := by omega
    have hm0 : ∀ m ∈ ms, 0 < m := fun m h => (hm m h).1
    have S3 : SameB s H H3 := s1.trans (s2.trans s3)
    have hpl : ∀ q ∈ M.plN N ms, 0 < q.1 ∧ q.1 < 2 ^ 60 := fun q hq => by
      obtain ⟨m, h1, rfl⟩ := List.mem_map.mp hq
      obtain ⟨h2, h3⟩ := hm m h1
      show 0 < m ∧ m < 2 ^ 60
      omega
    have hpl2 : ∀ q ∈ M.plN N ms, 0 < q.1 ∧ q.1 < 2 ^ 60 ∧ q.2.natAbs < 2 ^ 800 := fun q hq => by
      obtain ⟨m, h1, rfl⟩ := List.mem_map.mp hq
      obtain ⟨h2, h3⟩ := hm m h1
      have r0 := Int.emod_nonneg N (show m ≠ 0 by omega)
      have r1 := Int.emod_lt_of_pos N h2
      show 0 < m ∧ m < 2 ^ 60 ∧ (N % m).natAbs < 2 ^ 800
      omega
    have plen : (M.plN N ms).length = ms.length := List.length_map ..
    have Lb := M.lcm_lt (M.plN N ms) hpl (by omega)
    have Lp := M.lcm_pos (M.plN N ms) fun q hq => (hpl q hq).1
    have hput := M.plN_put (N := N) hm0
    walk_at "g"
    refine ⟨⟨_, SqL.of eF⟩, ?_⟩
    refine for_list (fun i σ H' => H' = H3 ∧ ∃ v4 v5 v6 v7 v8 v9 : Option V, σ = [some (.ref s), some (.int N), some (.ref F), some (.int (M.lcmL ((M.plN N ms).take i) : Nat)), v4, v5, v6, v7, v8, v9]) ⟨rfl, none, none, none, none, none, none, rfl⟩ (fun i σ H' _ I => by rw [I.1]; exact SqL.of eF) ?_ ?_
    · rintro i x σ H' hi ⟨rfl, v4, v5, v6, v7, v8, v9, rfl⟩
      rw [List.getElem?_map] at hi
      obtain ⟨m, hmi, rfl⟩ := Option.map_eq_some_iff.mp hi
      obtain ⟨m0, m1⟩ := hm _ (List.mem_of_getElem? hmi)
      obtain ⟨c, rfl⟩ := Int.eq_ofNat_of_zero_le (Int.le_of_lt m0)
      have hq : (M.plN N ms)[i]? = some ((c : Int), N % (c : Int)) := by unfold M.plN; rw [List.getElem?_map, hmi]; rfl
      have W0 := M.lcm_pos ((M.plN N ms).take i) fun z hz => (hpl z (List.mem_of_mem_take hz)).1
      have Wl := M.lcm_lt ((M.plN N ms).take i) (fun z hz => hpl z (List.mem_of_mem_take hz)) (by rw [List.length_take]; omega)
      walk_at "g"
      refine ⟨M.lcmL ((M.plN N ms).take i), c, rfl, ?_⟩
      have el : ((M.lcmL ((M.plN N ms).take i) / Nat.gcd (M.lcmL ((M.plN N ms).take i)) c : Nat) : Int) * (c : Int) = ((M.lcmL ((M.plN N ms).take (i + 1)) : Nat) : Int) := by
        rw [take_more hq, M.lcmL_snoc, ← Int.natCast_mul]
        congr 1
        show M.lcmL ((M.plN N ms).take i) / Nat.gcd (M.lcmL ((M.plN N ms).take i)) c * c = Nat.lcm (M.lcmL ((M.plN N ms).take i)) c
        unfold Nat.lcm
        rw [Nat.div_mul_right_comm (Nat.gcd_dvd_left _ _)]
      have hgp : 0 < Nat.gcd (M.lcmL ((M.plN N ms).take i)) c := Nat.gcd_pos_of_pos_left _ W0
      have hgl : Nat.gcd (M.lcmL ((M.plN N ms).take i)) c ≤ c := Nat.gcd_le_right _ (by omega)
      walk_at "g"
      refine s_i (divW (by omega) (by omega)) ?_
      rw [← Int.natCast_ediv]
      have hq' : M.lcmL ((M.plN N ms).take i) / Nat.gcd (M.lcmL ((M.plN N ms).take i)) c ≤ M.lcmL ((M.plN N ms).take i) := Nat.div_le_self _ _
      generalize M.lcmL ((M.plN N ms).take i) / Nat.gcd (M.lcmL ((M.plN N ms).take i)) c = tq at hq' el ⊢
      walk_at "g"
      try refine s_i (mulW (by omega) (by omega)) ?_
      rw [el]
      walk_at "g"
      exact ⟨rfl, _, _, _, _, _, _, rfl⟩
    · rintro σ H' ⟨rfl, v4, v5, v6, v7, v8, v9, rfl⟩
      rw [List.length_map, ← plen, List.take_length]
      generalize hLd : M.lcmL (M.plN N ms) = L at *
      walk_at "g"
      refine s_lstL (SqL.of eF) fun G nG => ?_
      have sG : Same H' (upd H' G (.lst (ms.map V.int))) := same_upd nG
      have eG : upd H' G (.lst (ms.map V.int)) G = some (.lst (ms.map V.int)) := upd_same
      generalize upd H' G (.lst (ms.map V.int)) = H4 at sG eG ⊢
      have eF4 := sG _ _ eF
      have nGF : G ≠ F := fun z => by rw [z, eF] at nG; cases nG
      walk_at "g"
      refine ⟨N, G, ms, rfl, eG, hl12, hm0, fun R H5 nR eR s5 => ?_⟩
      have nRG : R ≠ G := fun z => by rw [z, eG] at nR; cases nR
      have nRF : R ≠ F := fun z => by rw [z, eF4] at nR; cases nR
      walk_at "g"
      refine ⟨N, F, R, ms, rfl, s5 _ _ eF4, eR, hl12, hm0, fun H6 s6 => ?_⟩
      have S46 := s5.trans s6
      walk_at "g"
      refine s_neD _ _ (dp_ints (S46 _ _ eG)) (dp_ints (S46 _ _ eF4)) (sh_ints _) (sh_ints _) ?_
      rw [eqv_shaped (sh_ints _)]
      walk_at "g"
      refine s_lstZip ?_
      walk_at "g"
      refine ⟨F, R, _, _, rfl, SqL.of (S46 _ _ eF4), SqL.of (s6 _ _ eR), by rw [List.length_map]; omega, fun P H7 ts nP eP hts s7 => ?_⟩
      have hPl : PlacesAt K H7 P (M.plN N ms) := places_zip eP hts
      have tl : ts.length = ms.length := by rw [hts.length, prV_len]; unfold restsV; rw [List.length_map, List.length_map, List.length_map]; omega
      walk_at "g"
      refine ⟨P, M.plN N ms, rfl, hPl, by omega, hpl2, fun _ T1 H8 w x hp' s8 e8 => ?_, fun i j hfa => absurd (M.plN_all N ms) fun h => by
        obtain ⟨h1, ⟨p1, p2, h2, h3, h4⟩, _⟩ := hfa
        exact h4 (h i j p1 p2 h1 h2 h3)⟩
      obtain ⟨rfl, rfl⟩ := M.put_unique hp' hput
      walk_at "g"
      refine s_i (by omega) ?_
      walk_at "g"
      refine mkT (by simp) fun T2 H9 nT2 eT2 s9 => ?_
      refine s_neD _ _ (dp_tup2 (s9 _ _ e8)) (dp_tup2 eT2) (by rfl) (by rfl) ?_
      rw [show PyData.eqv (.tuple [.int (L : Nat), .int (N % (L : Nat))]) (.tuple [.int (L : Nat), .int (N % (L : Nat))]) = true by simp [PyData.eqv, PyData.eqvAll]]
      walk_at "g"
      refine s_revL ?_
      walk_at "g"
      have S79 := s8.trans s9
      refine ⟨P, ts, rfl, SqL.of (S79 _ _ eP), fun U nU => ?_⟩
      have sU : Same H9 (upd H9 U (.lst ts.reverse)) := same_upd nU
      have eU : upd H9 U (.lst ts.reverse) U = some (.lst ts.reverse) := upd_same
      generalize upd H9 U (.lst ts.reverse) = H10 at sU eU ⊢
      have hPr : PlacesAt K H10 U (M.plN N ms.reverse) := by
        obtain ⟨ts', e1, e2⟩ := hPl
        rw [eP] at e1; cases e1
        refine ⟨ts.reverse, eU, ?_⟩
        rw [M.plN_rev, List.map_reverse]
        exact paired_rev (e2.same (S79.trans sU))
      have hputr := M.plN_put (N := N) (ms := ms.reverse) fun m h => hm0 m (List.mem_reverse.mp h)
      rw [M.plN_rev, M.lcmL_rev, hLd, ← M.plN_rev] at hputr
      walk_at "g"
      refine ⟨U, M.plN N ms.reverse, rfl, hPr, by rw [M.plN_rev, List.length_reverse]; omega, fun q hq => hpl2 q (by rw [M.plN_rev] at hq; exact List.mem_reverse.mp hq), fun _ T3 H11 w x hp3 s11 e11 => ?_, fun i j hfa => absurd (M.plN_all N ms.reverse) fun h => by
        obtain ⟨h1, ⟨p1, p2, h2, h3, h4⟩, _⟩ := hfa
        exact h4 (h i j p1 p2 h1 h2 h3)⟩
      obtain ⟨rfl, rfl⟩ := M.put_unique hp3 hputr
      walk_at "g"
      refine s_i (by omega) ?_
      walk_at "g"
      refine mkT (by simp) fun T4 H12 nT4 eT4 s12 => ?_
      refine s_neD _ _ (dp_tup2 (s12 _ _ e11)) (dp_tup2 eT4) (by rfl) (by rfl) ?_
      rw [show PyData.eqv (.tuple [.int (L : Nat), .int (N % (L : Nat))]) (.tuple [.int (L : Nat), .int (N % (L : Nat))]) = true by simp [PyData.eqv, PyData.eqvAll]]
      walk_at "g"
      refine s_i (by omega) ?_
      have S612 : Same H5 H12 := s6.trans (s7.trans (S79.trans (sU.trans (s11.trans s12))))
      walk_at "g"
      refine ⟨N % (L : Nat), G, ms, rfl, (s5.trans S612) _ _ eG, hl12, hm0, fun A H13 nA eA s13 => ?_⟩
      have eAr : restsV (N % (L : Nat)) ms = restsV N ms := by
        have e := M.plN_mod (N := N) hm0
        rw [hLd] at e
        unfold restsV
        rw [e]
      rw [eAr] at eA
      have eR12 := S612 _ _ eR
      have nAR : A ≠ R := fun z => by rw [z, eR12] at nA; cases nA
      have nAG : A ≠ G := fun z => by rw [z, (s5.trans S612) _ _ eG] at nA; cases nA
      have eR13 := s13 _ _ eR12
      walk_at "g"
      refine s_neD _ _ (dp_ints eA) (dp_ints eR13) (sh_ints _) (sh_ints _) ?_
      rw [eqv_shaped (sh_ints _)]
      walk_at "g"
      refine ⟨s_tyL eR13, ?_⟩
      walk_at "g"
      refine s_append eR13 (line2 (by unfold restsV; rw [List.length_map, List.length_map]; omega)) ?_
      have s14 : SameB R H13 (upd H13 R (.lst (restsV N ms ++ [.int 0]))) := SameB.put
      generalize upd H13 R (.lst (restsV N ms ++ [.int 0])) = H14 at s14 ⊢
      have S513 : Same H5 H13 := S612.trans s13
      have eG14 := s14 _ _ nRG.symm (S513 _ _ (s5 _ _ eG))
      walk_at "g"
      refine ⟨s_tyL eG14, ?_⟩
      walk_at "g"
      refine s_append eG14 (line2 (by rw [List.length_map]; omega)) ?_
      have s15 : SameB G H14 (upd H14 G (.lst (ms.map V.int ++ [.int 7]))) := SameB.put
      generalize upd H14 G (.lst (ms.map V.int ++ [.int 7])) = H15 at s15 ⊢
      have eA15 := s15 _ _ nAG (s14 _ _ nAR eA)
      have eF15 := s15 _ _ nGF.symm (s14 _ _ nRF.symm (S513 _ _ (s5 _ _ eF4)))
      walk_at "g"
      refine ⟨N, F, A, ms, rfl, eF15, eA15, hl12, hm0, fun H16 s16 => ?_⟩
      walk_at "g"
      refine ⟨N, F, ms, rfl, s16 _ _ eF15, hl12, hm0, fun B H17 nB eB s17 => ?_⟩
      walk_at "g"
      refine ⟨N, F, B, ms, rfl, s17 _ _ (s16 _ _ eF15), eB, hl12, hm0, fun H18 s18 => ?_⟩
      walk_at "g"
      have hFin : ∀ b o, b ≠ s → H b = some o → H18 b = some o := fun b o hb eb => by
        have e3 := S3 _ _ hb eb
        have hbG : b ≠ G := ne_of_none e3 nG
        have e4 := sG _ _ e3
        have hbR : b ≠ R := ne_of_none e4 nR
        exact s18 _ _ (s17 _ _ (s16 _ _ (s15 _ _ hbG (s14 _ _ hbR (S513 _ _ (s5 _ _ e4))))))
      refine k H18 ?_ hFin
      obtain ⟨x1, x2, x3, x4⟩ := st3
      have hsG : s ≠ G := ne_of_none x3 nG
      have hsR : s ≠ R := ne_of_none (sG _ _ x3) nR
      exact ⟨x1, x2, s18 _ _ (s17 _ _ (s16 _ _ (s15 _ _ hsG (s14 _ _ hsR (S513 _ _ (s5 _ _ (sG _ _ x3))))))), x4⟩
/-- the law -/
def sp_law (K : PySem.W.Frag) : Sp := fun vs H Q _ => ∃ (a : Addr) (ns : List Int), vs = [.ref a] ∧ ns.length ≤ 63 ∧ SqL K H a (ns.map V.int) ∧ ∀ H', Q (.bl true) H'
theorem ok_law (T : Txt K mg) : FnOk P w K mg base CX0 9 (He.ga K "law") (fd_law T) ["_law_script"] (sp_law K) := by
  refine (F_law T).ok sc_law (fun vs H Q E h => ?_) (fun cdv A outer s H vs Q E hr h => ⟨_, PSs.nox (pss_cons (ps_for PassesOwn.never rfl (pi_list (pe_op op_cat (pe_slice sl_list (pv 0) (po_some pe_int) (po_some pe_int)) (pe_lst (pa_cons pe_int pa_nil)))) (pg_name (i := 1) sc_law.nd rfl (Or.inl rfl)) (pss_one (ps_if (pt_not (pt_val (pe_call (ok__law_right T) (hr.mono (by decide)) rfl (g__law_right T) (kp__law_right T) (B__law_right T) .nil pass0 (pa_cons (pe_call (ok__law_state T) (hr.mono (by decide)) rfl (g__law_state T) (kp__law_state T) (B__law_state T) .nil pass0 (pa_cons (pv 1) (pa_cons (pe_cmpR op_eq (pe_op op_mod (pe_call (ok__law_cell_at T) (hr.mono (by decide)) rfl (g__law_cell_at T) (kp__law_cell_at T) (B__law_cell_at T) .nil pass0 (pa_cons (pv 0) (pa_cons pe_int pa_nil))) pe_int) pe_int (nomark _)) pa_nil))) pa_nil)))) (pss_one (ps_ret pe_bl)) pss_nil)))
      (pss_one (ps_ret pe_bl))), ?_⟩)
  · obtain ⟨a, ns, rfl, _⟩ := h; rfl
  · obtain ⟨a, ns, rfl, hlen, hS, k⟩ := h
    walk_at "g"
    refine mkSl hS fun l H0 hl hL s0 => ?_
    walk_at "g"
    refine mkL (by simp) fun l2 H1 hl2 hL2 s1 => ?_
    have zl := cutV_length (ns.map V.int) (some 1) (some 63)
    rw [List.length_map] at zl
    refine mkCat (s1 _ _ hL) hL2 (by simp; omega) fun l3 H2 n3 e3 s2 => ?_
    walk_at "g"
    refine ⟨⟨_, SqL.of e3⟩, ?_⟩
    have S2 : Same H H2 := s0.trans (s1.trans s2)
    refine for_list (fun i σ H' => Same H2 H' ∧ ∃ r1 : Option V, σ = [some (.ref a), r1]) ⟨Same.refl _, _, rfl⟩ (fun i σ H' _ I => SqL.of (I.1 _ _ e3)) ?_ ?_
    · rintro i x σ H' hi ⟨hs, r1, rfl⟩
      have hc : ∃ c, x = V.int c := by
        rcases List.mem_append.mp (get_mem hi) with z | z
        · obtain ⟨c, e, _⟩ := of_mem_ints (cutV_mem z)
          exact ⟨c, e⟩
        · exact ⟨0, by simpa using z⟩
      obtain ⟨c, rfl⟩ := hc
      walk_at "g"
      refine ⟨a, ns, 0, rfl, (S2.trans hs).seq hS, fun z => ?_⟩
      walk_at "g"
      refine ⟨c, decide (z % 2 = 0), rfl, fun p H3 np s3 st3 => ?_⟩
      walk_at "g"
      refine ⟨p, rfl, st3, fun H4 st4 s4 => ?_⟩
      walk_at "g"
      exact ⟨hs.trans (s4.same np s3), _, rfl⟩
    · rintro σ H' ⟨hs, r1, rfl⟩
      walk_at "g"
      exact k H'
theorem law_end {K : PySem.W.Frag} {H : Hp} {a : Addr} {ns : List Int} (hl : ns.length ≤ 63) (hb : ∀ z ∈ ns, Builtin.Int.intBits z ≤ 1048576) (hS : SqL K H a (ns.map V.int)) : sp_law K [.ref a] H (fun v _ => v = .bl true) fun _ _ _ => False :=
  ⟨a, ns, rfl, hl, hS, fun _ => rfl⟩

theorem facts {h : Heap} {f : Addr} (X : K.In h) (G : h.Ns mainGlobals mg) (hfa : mg ("law" : Str) = some (.ref f)) (c : Told fa fn K) :
    ∃ fd : FuncData, (∀ (s : Shared) (v : Value), BindsTo s fd ⟨[v], []⟩ [("_law_script", v)]) ∧ ∀ base : Heap, K.In base → base.Ns mainGlobals mg → FnOk P w K mg base CX0 9 f fd ["_law_script"] (sp_law K) := by
  have T : Txt K mg := ⟨c, fun z => He.glo_ok X G z, fun z => He.free_ok X G z, fun z => He.int_ok X G z⟩
  have e := hfa.symm.trans (g_law T)
  cases e
  have b := FunD.bindsA (ps := ["_law_script"]) (F_law T) fun _ _ _ _ _ _ us hl => match us, hl with | [_], _ => rfl
  exact ⟨fd_law T, fun s v => b s [v] rfl, fun base _ _ => ok_law T⟩
end
abbrev RR : PySem.W.OpenRow := PySem.W.OpenLaw.row PySem.Challenge.rw_rootprime_k65_whole_apart_and_together_a
abbrev hk : PySem.W.Hook := hookR 5 fa fn
def ob (s : PySem.W.SharedT) : He.AlD := toldG 5 fa fn (HandSHeadRun.getT s)
theorem ob_eq (s : PySem.W.SharedT) : ob s = hk.obs s.abs := toldG_eq (HandSHeadRun.getT_eq s)
theorem run (w : World) : HandSHeadRun.RunEq RR (PySem.W.view RR.prog [21]) hk ob 2190 ["divisor", "inverse", "can_join", "first_apart", "joined", "put_together", "taken_apart", "_law_cell_at", "_law_state", "_law_take", "_law_number", "_law_modulus", "_law_common", "_law_are_rests", "_law_right", "PrimeError", "NoInverse"] w := by
  intro os
  kernel_rfl
end C
open PySem PySem.W PySem.Calls PyProof.Rows
set_option maxRecDepth 100000 in
set_option maxHeartbeats 0 in
theorem PySem.Challenge.cw_rootprime_k65_whole_apart_and_together_a_holds : PySem.Challenge.rw_rootprime_k65_whole_apart_and_together_a.Holds := by
  w_on; o_law
  refine HandSHeadRun.head_any (r := OpenLaw.row PySem.Challenge.rw_rootprime_k65_whole_apart_and_together_a) (q := view (OpenLaw.row PySem.Challenge.rw_rootprime_k65_whole_apart_and_together_a).prog [21]) (H := C.hk) (ob := C.ob) (M := 2190) (loose := ["divisor", "inverse", "can_join", "first_apart", "joined", "put_together", "taken_apart", "_law_cell_at", "_law_state", "_law_take", "_law_number", "_law_modulus", "_law_common", "_law_are_rests", "_law_right", "PrimeError", "NoInverse"]) (d := HandSHeadRun.topDef (OpenLaw.row PySem.Challenge.rw_rootprime_k65_whole_apart_and_together_a).prog 21) (kwd := []) C.ob_eq
    (by kernel_rfl) (fun s => by kernel_rfl) C.run (by kernel_rfl) (by kernel_rfl) (by kernel_rfl) (by rfl) (by first | assumption | decide +kernel) (by decide +kernel) ⟨rfl, rfl, rfl, rfl, rfl, by decide +kernel⟩ ?hw ?hc
  case hw => w_witness2
  case hc =>
    refine R.walk_ofEB (l := PySem.Challenge.rw_rootprime_k65_whole_apart_and_together_a) (n := 63) (k := 9) (prm := "_law_script") (CX := fun w => L2.CX0) rfl (by decide) (by kernel_rfl) ⟨rfl, by decide, by decide⟩ ?F (fun _ _ _ _ _ z => z)
    intro w mg fa h Y G hmg0
    obtain ⟨K, KX, c⟩ := Y
    have hmg : mg ("law" : PySem.Str) = some (.ref fa) := by
      have e : (HandSHeadRun.topDef (OpenLaw.row PySem.Challenge.rw_rootprime_k65_whole_apart_and_together_a).prog 21).name = ("law" : PySem.Str) := by kernel_rfl
      rw [← e]
      exact hmg0
    obtain ⟨fd, hb, hF⟩ := C.facts (P := (PySem.Challenge.rw_rootprime_k65_whole_apart_and_together_a).prog) (w := w) KX G hmg c
    exact ⟨K, fd, (C.sp_law K), KX, hb, fun H a ns hl hbits hO hS => C.law_end hl hbits hS, hF⟩

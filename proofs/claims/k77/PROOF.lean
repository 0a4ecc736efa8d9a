import PyProof.Rows.All
import Wide.All
import OpenK.AllK
import Wide.FinOn
import HandS.ForMost
import HandS.ForExc
import HandS.Wide
import HandS.IsInst
import HandS.Style
import HandS.Flow
import HandS.Conv
import HandS.Defaults
import HandS.Head0
import HandS.Head1
import HandS.Head2
import HandS.HeadEnd
import HandS.HeadHook1
import HandS.HeadHook2
import HandS.EndBits
import HandS.ExcInit
import HandS.ExcField
import HandS.ExcOwn
import HandS.ExcIs
import HandS.TryOnly
import HandS.WordsExc
import HandS.ClsMeth
import HandS.HeadNt
import HandS.Steps
import HandS.Zip
import HandS.Walk
import HandS.Small
import HandS.NoneIn
import HandS.TryMany
import HandS.TupAny
import HandS.SortInts
import HandS.SetKeys
import HandS.Iter
import PyProof.DictMoreH
import HandS.DictTup
import HandS.TupLen
import HandS.Strs
import HandS.HotCalls
import HandS.CallSlots
import KE.GoesMore
import KE.DataFind
import HandS.SetFor
import HandS.Sort
import KE.KDictList
import PySem.Challenge.RW_rootprime_k77_tables_of_powers

set_option Elab.async false
set_option linter.all false
set_option maxRecDepth 100000
set_option maxHeartbeats 4000000
set_option exponentiation.threshold 5000

namespace R
open PySem PySem.Spec PyProof.Rows L2
/-! steps of a reading -/
section
variable {t u : TS} {D : Ends} {σ : L2.St} {H : Hp} {Q : VK} {te ta tb : TE} {g : TG} {i j : Nat} {v x y : V} {r : R2} {c c' : TT} {tl : TA} {QL : List V → Hp → Prop} {QB : Bool → Hp → Prop} {QS : L2.St → Hp → Prop} {a b : Int} {C : Int → Int → Prop} {f : Int → Int → V}
theorem s_seq (h : t { D with nx := u D } σ H) : tSeq t u D σ H := h
theorem s_asg (h : te σ H fun x H1 => g x σ H1 D.nx) : tAsg te g D σ H := h
theorem s_drop (h : te σ H fun _ H1 => D.nx σ H1) : tDrop te D σ H := h
theorem s_ret (h : te σ H D.rt) : tRet te D σ H := h
theorem s_next (h : D.nx σ H) : tNext D σ H := h
theorem s_if (h : c σ H fun b H1 => if b = true then t D σ H1 else u D σ H1) : tIfS c t u D σ H := h
theorem s_gname (h : QS (σ.set i (some v)) H) : gName i v σ H QS := h
theorem s_var (e : σ[i]? = some (some v)) (h : Q v H) : tVar i σ H Q := ⟨v, e, h⟩
theorem s_c (h : Q v H) : tC v σ H Q := h
theorem s_op (h : ta σ H fun x H1 => tb σ H1 fun y H2 => r x y H2 Q) : tOp r ta tb σ H Q := h
theorem s_un {r : V → Hp → VK → Prop} (h : ta σ H fun x H1 => r x H1 Q) : tUn r ta σ H Q := h
theorem s_i0 (h : Q (f a b) H) : rI0 f (.int a) (.int b) H Q := ⟨a, b, rfl, rfl, h⟩
theorem s_i (hc : C a b) (h : Q (f a b) H) : rI C f (.int a) (.int b) H Q := ⟨a, b, rfl, rfl, hc, h⟩
theorem s_u {f : Int → V} (h : Q (f a) H) : rU f (.int a) H Q := ⟨a, rfl, h⟩
theorem s_cons (h : te σ H fun x H1 => tl σ H1 fun xs H2 => QL (x :: xs) H2) : tCons te tl σ H QL := h
theorem s_nil (h : QL [] H) : tNil σ H QL := h
theorem s_test (h : ta σ H fun x H' => ∃ k, x = .bl k ∧ QB k H') : tTest ta σ H QB := h
theorem s_tB (h : ta σ H fun x H' => ∃ k, x = .bl k ∧ QB k H') : tB ta σ H QB := h
theorem s_bl {k : Bool} {P : Bool → Prop} (h : P k) : ∃ k', V.bl k = .bl k' ∧ P k' := ⟨k, rfl, h⟩
theorem s_andc (h : c σ H fun b H1 => if b = true then c' σ H1 QB else QB false H1) : tAnd c c' σ H QB := h
theorem s_orc (h : c σ H fun b H1 => if b = true then QB true H1 else c' σ H1 QB) : tOr c c' σ H QB := h
theorem s_notc (h : c σ H fun b H1 => QB (!b) H1) : tNot c σ H QB := h
theorem s_andv (h : ta σ H fun x H1 => ∃ c, x = .bl c ∧ if c = true then tb σ H1 Q else Q (.bl false) H1) : tAndV ta tb σ H Q := h
theorem s_orv (h : ta σ H fun x H1 => ∃ c, x = .bl c ∧ if c = true then Q (.bl true) H1 else tb σ H1 Q) : tOrV ta tb σ H Q := h
theorem s_notv (h : ta σ H fun x H1 => ∃ c, x = .bl c ∧ Q (.bl (!c)) H1) : tNotV ta σ H Q := h
theorem s_ifx {t : TT} (h : t σ H fun c H1 => if c = true then ta σ H1 Q else tb σ H1 Q) : tIf t ta tb σ H Q := h
theorem s_eqI (h : Q (.bl (decide (a = b))) H) : rEq (.int a) (.int b) H Q := ⟨rfl, by
  have e : decide (V.int a = V.int b) = decide (a = b) := by simp
  rw [e]; exact h⟩
theorem s_neI (h : Q (.bl (!decide (a = b))) H) : rNe (.int a) (.int b) H Q := ⟨rfl, by
  have e : decide (V.int a = V.int b) = decide (a = b) := by simp
  rw [e]; exact h⟩
theorem s_eqS {a b : Str} (h : Q (.bl (decide (a = b))) H) : rEq (.str a) (.str b) H Q := ⟨rfl, by
  have e : decide (V.str a = V.str b) = decide (a = b) := by simp
  rw [e]; exact h⟩
theorem s_neS {a b : Str} (h : Q (.bl (!decide (a = b))) H) : rNe (.str a) (.str b) H Q := ⟨rfl, by
  have e : decide (V.str a = V.str b) = decide (a = b) := by simp
  rw [e]; exact h⟩
theorem s_eqB {a b : Bool} (h : Q (.bl (decide (a = b))) H) : rEq (.bl a) (.bl b) H Q := ⟨rfl, by
  have e : decide (V.bl a = V.bl b) = decide (a = b) := by simp
  rw [e]; exact h⟩
theorem s_neB {a b : Bool} (h : Q (.bl (!decide (a = b))) H) : rNe (.bl a) (.bl b) H Q := ⟨rfl, by
  have e : decide (V.bl a = V.bl b) = decide (a = b) := by simp
  rw [e]; exact h⟩
def MkT (Q : VK) (xs : List V) (H : Hp) : Prop := xs.length ≤ sizeLine ∧ ∀ p, H p = none → Q (.ref p) (upd H p (.tup xs))
def MkL (Q : VK) (xs : List V) (H : Hp) : Prop := xs.length ≤ sizeLine ∧ ∀ p, H p = none → Q (.ref p) (upd H p (.lst xs))
theorem s_tup (h : tl σ H fun xs H1 => MkT Q xs H1) : tTup tl σ H Q := h
theorem s_lst (h : tl σ H fun xs H1 => MkL Q xs H1) : tLst tl σ H Q := h
theorem len_le {α : Type} {xs : List α} (h : xs.length ≤ 1000) : xs.length ≤ sizeLine := Nat.le_of_lt (small1000 h)
theorem s_par (h : tl σ H fun vs H1 => ∃ v w, vs = [v, w] ∧ D.nx ((σ.set i (some v)).set j (some w)) H1) : tPar i j tl D σ H := h
theorem s_par_ {P : V → V → Prop} (h : P x y) : ∃ v w, [x, y] = [v, w] ∧ P v w := ⟨x, y, rfl, h⟩
theorem s_par3 {l : Nat} (h : tl σ H fun vs H1 => ∃ u v w, vs = [u, v, w] ∧ D.nx (((σ.set i (some u)).set j (some v)).set l (some w)) H1) : tPar3 i j l tl D σ H := h
theorem s_par3_ {z : V} {P : V → V → V → Prop} (h : P x y z) : ∃ u v w, [x, y, z] = [u, v, w] ∧ P u v w := ⟨x, y, z, rfl, h⟩
theorem s_cb {r : List V → Hp → VK → Prop} (h : tl σ H fun vs H1 => r vs H1 Q) : tCB r tl σ H Q := h
theorem s_call {sp : Sp} {dvs : List V} {E : XK} (h : tl σ H fun vs H1 => sp (vs ++ dvs) H1 Q E) : tCall sp dvs E tl σ H Q := h
theorem s_callS {sp : Sp} {E : L2.St → XK} (h : tl σ H fun vs H1 => sp vs H1 Q (E σ)) : tCallS sp E tl σ H Q := h
theorem s_chain {r' : R2} {tc : TE} (h : ta σ H fun x H1 => tb σ H1 fun y H2 => r x y H2 fun z H3 => ∃ k, z = .bl k ∧ (if k = true then tc σ H3 fun w' H4 => r' y w' H4 Q else Q (.bl false) H3)) : tChain r r' ta tb tc σ H Q := h
theorem s_iteT {A B : Prop} (h : A) : if true = true then A else B := by rw [if_pos rfl]; exact h
theorem s_iteF {A B : Prop} (h : B) : if false = true then A else B := by rw [if_neg Bool.false_ne_true]; exact h
theorem s_iteNT {A B : Prop} (h : B) : if (!true) = true then A else B := h
theorem s_iteNF {A B : Prop} (h : A) : if (!false) = true then A else B := h
theorem s_ite {A B p : Prop} [Decidable p] (h1 : p → A) (h2 : ¬p → B) : if decide p = true then A else B := by
  by_cases h : p
  · rw [decide_eq_true h, if_pos rfl]; exact h1 h
  · rw [decide_eq_false h, if_neg Bool.false_ne_true]; exact h2 h
theorem s_iten {A B p : Prop} [Decidable p] (h1 : ¬p → A) (h2 : p → B) : if (!decide p) = true then A else B := by
  by_cases h : p
  · rw [decide_eq_true h]; exact s_iteF (h2 h)
  · rw [decide_eq_false h]; exact s_iteT (h1 h)
theorem s_iteb {A B : Prop} {b : Bool} (h1 : b = true → A) (h2 : b = false → B) : if b = true then A else B := by
  cases b
  · exact s_iteF (h2 rfl)
  · exact s_iteT (h1 rfl)
theorem s_itP {A B p : Prop} [Decidable p] (hp : p) (h : A) : if decide p = true then A else B := s_ite (fun _ => h) fun n => absurd hp n
theorem s_itN {A B p : Prop} [Decidable p] (hp : ¬p) (h : B) : if decide p = true then A else B := s_ite (fun n => absurd n hp) fun _ => h
theorem s_itnP {A B p : Prop} [Decidable p] (hp : p) (h : B) : if (!decide p) = true then A else B := s_iten (fun n => absurd hp n) fun _ => h
theorem s_itnN {A B p : Prop} [Decidable p] (hp : ¬p) (h : A) : if (!decide p) = true then A else B := s_iten (fun _ => h) fun n => absurd n hp
theorem s_btT {p : Prop} [Decidable p] {P : Bool → Prop} (hp : p) (h : P true) : P (decide p) := by rw [decide_eq_true hp]; exact h
theorem s_btF {p : Prop} [Decidable p] {P : Bool → Prop} (hp : ¬p) (h : P false) : P (decide p) := by rw [decide_eq_false hp]; exact h
theorem s_ixL {K : PySem.W.Frag} {p : Addr} {xs : List V} {n : Int} (h1 : SqL K H p xs) (h2 : atI xs n = some v) (h : Q v H) : rIx K (.ref p) (.int n) H Q := .inl ⟨p, xs, n, v, rfl, rfl, h1, h2, h⟩
theorem s_ixT {K : PySem.W.Frag} {p : Addr} {xs : List V} {n : Int} (h1 : SqT K H p xs) (h2 : atI xs n = some v) (h : Q v H) : rIx K (.ref p) (.int n) H Q := .inr (.inl ⟨p, xs, n, v, rfl, rfl, h1, h2, h⟩)
theorem s_isi {K : PySem.W.Frag} {a b : String} {bb : Bool} (ht : TyOf K H x (.type a)) (hk : kitB a b = some bb) (h : Q (.bl bb) H) : rIsi K [x, .ty b] H Q := ⟨x, .ty b, .type a, .type b, bb, rfl, .ty b, .base ht, kit_ty hk, h⟩
theorem kb_ii : kitB "int" "int" = some true := by decide +kernel
theorem kb_ib : kitB "int" "bool" = some false := by decide +kernel
theorem kb_bi : kitB "bool" "int" = some true := by decide +kernel
theorem kb_bb : kitB "bool" "bool" = some true := by decide +kernel
theorem kb_tt : kitB "tuple" "tuple" = some true := by decide +kernel
theorem kb_ll : kitB "list" "list" = some true := by decide +kernel
theorem kb_ti : kitB "tuple" "int" = some false := by decide +kernel
theorem kb_tl : kitB "tuple" "list" = some false := by decide +kernel
theorem kb_lt : kitB "list" "tuple" = some false := by decide +kernel
theorem kb_li : kitB "list" "int" = some false := by decide +kernel
theorem kb_ni : kitB "NoneType" "int" = some false := by decide +kernel
theorem s_isi_ii {K : PySem.W.Frag} (h : Q (.bl true) H) : rIsi K [.int a, .ty "int"] H Q := s_isi (.int a) kb_ii h
theorem s_isi_ib {K : PySem.W.Frag} (h : Q (.bl false) H) : rIsi K [.int a, .ty "bool"] H Q := s_isi (.int a) kb_ib h
theorem s_p10 {n : Nat} (h : Q (.int (10 ^ n)) H) (hn : n ≤ 1000 := by decide) : rI CPow (fun i j => V.int (i ^ j.toNat)) (.int 10) (.int (n : Int)) H Q :=
  ⟨10, n, rfl, rfl, ⟨by omega, by omega, by decide⟩, h⟩
theorem s_pow {e : Int} {n : Nat} (he : e = n) (hn : n ≤ 1000) (ha : a.natAbs < 2 ^ 64) (h : Q (.int (a ^ n)) H) : rI CPow (fun i j => V.int (i ^ j.toNat)) (.int a) (.int e) H Q :=
  ⟨a, e, rfl, rfl, ⟨by omega, by omega, ha⟩, by subst he; exact h⟩
theorem s_p10_4 (h : Q (.int (10 ^ 4)) H) : rI CPow (fun i j => V.int (i ^ j.toNat)) (.int 10) (.int 4) H Q := s_p10 (n := 4) h
theorem s_p10_5 (h : Q (.int (10 ^ 5)) H) : rI CPow (fun i j => V.int (i ^ j.toNat)) (.int 10) (.int 5) H Q := s_p10 (n := 5) h
theorem s_p10_6 (h : Q (.int (10 ^ 6)) H) : rI CPow (fun i j => V.int (i ^ j.toNat)) (.int 10) (.int 6) H Q := s_p10 (n := 6) h
theorem s_p10_8 (h : Q (.int (10 ^ 8)) H) : rI CPow (fun i j => V.int (i ^ j.toNat)) (.int 10) (.int 8) H Q := s_p10 (n := 8) h
theorem s_p10_9 (h : Q (.int (10 ^ 9)) H) : rI CPow (fun i j => V.int (i ^ j.toNat)) (.int 10) (.int 9) H Q := s_p10 (n := 9) h
theorem s_p10_12 (h : Q (.int (10 ^ 12)) H) : rI CPow (fun i j => V.int (i ^ j.toNat)) (.int 10) (.int 12) H Q := s_p10 (n := 12) h
theorem s_p10_18 (h : Q (.int (10 ^ 18)) H) : rI CPow (fun i j => V.int (i ^ j.toNat)) (.int 10) (.int 18) H Q := s_p10 (n := 18) h
theorem s_p10_29 (h : Q (.int (10 ^ 29)) H) : rI CPow (fun i j => V.int (i ^ j.toNat)) (.int 10) (.int 29) H Q := s_p10 (n := 29) h
theorem s_p10_30 (h : Q (.int (10 ^ 30)) H) : rI CPow (fun i j => V.int (i ^ j.toNat)) (.int 10) (.int 30) H Q := s_p10 (n := 30) h
theorem s_p10_39 (h : Q (.int (10 ^ 39)) H) : rI CPow (fun i j => V.int (i ^ j.toNat)) (.int 10) (.int 39) H Q := s_p10 (n := 39) h
theorem s_p10_40 (h : Q (.int (10 ^ 40)) H) : rI CPow (fun i j => V.int (i ^ j.toNat)) (.int 10) (.int 40) H Q := s_p10 (n := 40) h
theorem s_p10_49 (h : Q (.int (10 ^ 49)) H) : rI CPow (fun i j => V.int (i ^ j.toNat)) (.int 10) (.int 49) H Q := s_p10 (n := 49) h
theorem s_p10_50 (h : Q (.int (10 ^ 50)) H) : rI CPow (fun i j => V.int (i ^ j.toNat)) (.int 10) (.int 50) H Q := s_p10 (n := 50) h
theorem s_p10_51 (h : Q (.int (10 ^ 51)) H) : rI CPow (fun i j => V.int (i ^ j.toNat)) (.int 10) (.int 51) H Q := s_p10 (n := 51) h
theorem s_p10_58 (h : Q (.int (10 ^ 58)) H) : rI CPow (fun i j => V.int (i ^ j.toNat)) (.int 10) (.int 58) H Q := s_p10 (n := 58) h
theorem s_p10_59 (h : Q (.int (10 ^ 59)) H) : rI CPow (fun i j => V.int (i ^ j.toNat)) (.int 10) (.int 59) H Q := s_p10 (n := 59) h
theorem s_p10_60 (h : Q (.int (10 ^ 60)) H) : rI CPow (fun i j => V.int (i ^ j.toNat)) (.int 10) (.int 60) H Q := s_p10 (n := 60) h
theorem s_pow7 (ha : a.natAbs < 2 ^ 64) (h : Q (.int (a ^ 7)) H) : rI CPow (fun i j => V.int (i ^ j.toNat)) (.int a) (.int 7) H Q := s_pow (n := 7) rfl (by decide) ha h
theorem s_pickN {K : PySem.W.Frag} {p : Addr} {n : Int} {P : Int → Prop} (ns : List Int) (hp : H p = some (.lst (ns.map V.int))) (hn : 0 ≤ n ∧ n < ns.length) (ha : ∀ z ∈ ns, P z) (h : ∀ z, P z → Q (.int z) H) : rIx K (.ref p) (.int n) H Q := by
  obtain ⟨k, rfl⟩ := Int.eq_ofNat_of_zero_le hn.1
  have hk : k < ns.length := by omega
  exact s_ixL (SqL.of hp) (atI_nat (j := k) (v := .int ns[k]) (by rw [List.getElem?_map, List.getElem?_eq_getElem hk]; rfl)) (h _ (ha _ (List.getElem_mem hk)))
theorem s_pick2 {K : PySem.W.Frag} {p : Addr} {n : Int} {P : Int → Prop} (hp : H p = some (.lst [.int a, .int b])) (hn : 0 ≤ n ∧ n < 2) (ha : P a) (hb : P b) (h : ∀ z, P z → Q (.int z) H) : rIx K (.ref p) (.int n) H Q := by
  have e : n = 0 ∨ n = 1 := by omega
  rcases e with rfl | rfl
  · exact s_ixL (SqL.of hp) (atI_nat (j := 0) rfl) (h a ha)
  · exact s_ixL (SqL.of hp) (atI_nat (j := 1) rfl) (h b hb)
theorem s_andJ {b c : Bool} (hc : ∀ Q' : VK, Q' (.bl c) H → tb σ H Q') (h : Q (.bl (b && c)) H) : if b = true then tb σ H Q else Q (.bl false) H := by
  cases b
  · exact s_iteF h
  · exact s_iteT (hc _ h)
theorem s_orJ {b c : Bool} (hc : ∀ Q' : VK, Q' (.bl c) H → tb σ H Q') (h : Q (.bl (b || c)) H) : if b = true then Q (.bl true) H else tb σ H Q := by
  cases b
  · exact s_iteF (hc _ h)
  · exact s_iteT h
theorem s_blT {p : Prop} [Decidable p] (hp : p) (h : Q (.bl true) H) : Q (.bl (decide p)) H := by rw [decide_eq_true hp]; exact h
theorem s_blF {p : Prop} [Decidable p] (hp : ¬p) (h : Q (.bl false) H) : Q (.bl (decide p)) H := by rw [decide_eq_false hp]; exact h
theorem s_sl {r : V → Option Int → Option Int → Hp → VK → Prop} {tlo thi : TO} (h : te σ H fun x H1 => tlo σ H1 fun l H2 => thi σ H2 fun u H3 => r x l u H3 Q) : L2.tSl r te tlo thi σ H Q := h
theorem s_nopart {QO : Option Int → Hp → Prop} (h : QO none H) : tNoPart σ H QO := h
theorem s_part {QO : Option Int → Hp → Prop} (h : te σ H fun x H1 => ∃ i, x = .int i ∧ QO (some i) H1) : tPart te σ H QO := h
theorem s_int_ {P : Int → Prop} (h : P a) : ∃ i, V.int a = .int i ∧ P i := ⟨a, rfl, h⟩
theorem s_slL {K : PySem.W.Frag} {p : Addr} {xs : List V} {lo hi : Option Int} (hs : SqL K H p xs) (h : ∀ l, H l = none → Q (.ref l) (upd H l (.lst (cutV xs lo hi)))) : rSlL K (.ref p) lo hi H Q := ⟨p, xs, rfl, hs, h⟩
theorem s_for {wi : TI} {tb : TS} (h : wi σ H fun J H1 => ∃ W : Nat → Nat → L2.St → Hp → Prop, (∃ m, W 0 m σ H1) ∧ ∀ i m σ H, W i m σ H →
  (J.stop i H ∧ D.nx σ H) ∨ (J.go i H ∧ ∃ N : L2.St → Hp → Prop, (∀ σ' H', N σ' H' → ∃ m', m' < m ∧ W (i + 1) m' σ' H') ∧ ∀ x H', J.yld i H x H' → g x σ H' fun σ2 H2 => tb { D with nx := N, ct := N, bk := D.nx } σ2 H2)) : tFor wi g tb D σ H := h
theorem s_ilist {K : PySem.W.Frag} {RI : It → Hp → Prop} (h : te σ H fun x H1 => ∃ a, x = .ref a ∧ (∃ xs, SqL K H1 a xs) ∧ RI (Itl K a) H1) : iList K te σ H RI := h
theorem s_itup {K : PySem.W.Frag} {RI : It → Hp → Prop} (h : te σ H fun x H1 => ∃ a, x = .ref a ∧ (∃ xs, SqT K H1 a xs) ∧ RI (Itt K a) H1) : iTup K te σ H RI := h
theorem s_ref_ {p : Addr} {P : Addr → Prop} (h : P p) : ∃ i, V.ref p = .ref i ∧ P i := ⟨p, rfl, h⟩
theorem s_join (P : L2.St → Hp → Prop) (h1 : ∀ σ' H', P σ' H' → D.nx σ' H') (h2 : ∀ N : L2.St → Hp → Prop, (∀ σ' H', P σ' H' → N σ' H') → tIfS c t u { D with nx := N } σ H) : tIfS c t u D σ H := h2 D.nx h1
theorem s_yes (h : QB true H) : tYes σ H QB := h
theorem s_gtup {K : PySem.W.Frag} {n : Nat} {t : TGs} {p : Addr} {xs : List V} (h1 : SqT K H p xs) (h2 : xs.length = n) (h : t xs σ H QS) : gTup K n t (.ref p) σ H QS := ⟨p, xs, rfl, h1, h2, h⟩
theorem s_gcons {t : TG} {u : TGs} {r : List V} (h : t v σ H fun σ' H' => u r σ' H' QS) : gCons t u (v :: r) σ H QS := ⟨v, r, rfl, h⟩
theorem s_gnil (h : QS σ H) : gNil [] σ H QS := ⟨rfl, h⟩
theorem s_append {p : Addr} {xs : List V} (hp : H p = some (.lst xs)) (hl : xs.length < sizeLine) (h : Q .non (upd H p (.lst (xs ++ [x])))) : rAppend (.ref p) [x] H Q := ⟨p, xs, x, rfl, rfl, hp, hl, h⟩
theorem s_tyL {K : PySem.W.Frag} {p : Addr} {xs : List V} (hp : H p = some (.lst xs)) : tyV K "list" (.ref p) H := Or.inl ⟨rfl, _, Or.inl (Or.inl hp)⟩
theorem s_bm {K : PySem.W.Frag} {T : String} {r : V → List V → Hp → VK → Prop} (h : ta σ H fun x H1 => tyV K T x H1 ∧ tl σ H1 fun xs H2 => r x xs H2 Q) : tBM K T r ta tl σ H Q := h
end
/-! rules by name -/
def rAbs : List V → Hp → VK → Prop := fun xs H Q => ∃ i, xs = [.int i] ∧ Q (.int (if i < 0 then -i else i)) H
def rMax2 : List V → Hp → VK → Prop := fun xs H Q => ∃ i j, xs = [.int i, .int j] ∧ Q (.int (if j > i then j else i)) H
def rMin2 : List V → Hp → VK → Prop := fun xs H Q => ∃ i j, xs = [.int i, .int j] ∧ Q (.int (if j < i then j else i)) H
def rLenS (K : PySem.W.Frag) : List V → Hp → VK → Prop := fun xs H Q => ∃ p ys, xs = [.ref p] ∧ (SqL K H p ys ∨ SqT K H p ys) ∧ Q (.int ys.length) H
def rTupOf (K : PySem.W.Frag) : List V → Hp → VK → Prop := fun xs H Q => ∃ p ys, xs = [.ref p] ∧ ((SqL K H p ys ∧ ∀ l, H l = none → Q (.ref l) (upd H l (.tup ys))) ∨ (SqT K H p ys ∧ Q (.ref p) H))
def rLstOf (K : PySem.W.Frag) : List V → Hp → VK → Prop := fun xs H Q => ∃ p ys, xs = [.ref p] ∧ (SqL K H p ys ∨ SqT K H p ys) ∧ ∀ l, H l = none → Q (.ref l) (upd H l (.lst ys))
def rInt1 : List V → Hp → VK → Prop := fun xs H Q => (∃ i, xs = [.int i] ∧ Q (.int i) H) ∨ ∃ k, xs = [.bl k] ∧ Q (.int (if k then 1 else 0)) H
def rIns : V → List V → Hp → VK → Prop := fun x vs H Q => ∃ (l : Addr) (xs : List V) (i : Int) (y : V), x = .ref l ∧ vs = [.int i, y] ∧ H l = some (.lst xs) ∧ xs.length < sizeLine ∧ 0 ≤ i ∧ i < 2 ^ 63 ∧ Q .non (upd H l (.lst (xs.take i.toNat ++ [y] ++ xs.drop i.toNat)))
section
variable {X : Cx}
theorem mtIns : MtR X "list.insert" rIns := mt_insert
theorem callInt1 : CallR X (.type "int") rInt1 := call_int1
theorem callAbs : CallR X (.builtin "abs") rAbs := call_abs
theorem callMax2 (hc : X.calm = true) : CallR X (.builtin "max") rMax2 := call_max2 hc
theorem callMin2 (hc : X.calm = true) : CallR X (.builtin "min") rMin2 := call_min2 hc
theorem callLen : CallR X (.builtin "len") (rLenS X.K) := call_len_seq
theorem callTup : CallR X (.type "tuple") (rTupOf X.K) := call_tuple_of
theorem callLst : CallR X (.type "list") (rLstOf X.K) := call_list_of
end
section
variable {H : Hp} {Q : VK} {a b : Int} {K : PySem.W.Frag} {p : Addr} {xs : List V}
theorem s_intB {k : Bool} (h : Q (.int (if k then 1 else 0)) H) : rInt1 [.bl k] H Q := .inr ⟨k, rfl, h⟩
theorem s_abs (h : Q (.int (if a < 0 then -a else a)) H) : rAbs [.int a] H Q := ⟨a, rfl, h⟩
theorem s_max (h : Q (.int (if b > a then b else a)) H) : rMax2 [.int a, .int b] H Q := ⟨a, b, rfl, h⟩
theorem s_min (h : Q (.int (if b < a then b else a)) H) : rMin2 [.int a, .int b] H Q := ⟨a, b, rfl, h⟩
theorem s_ins0 {y : V} (hp : H p = some (.lst xs)) (hl : xs.length < sizeLine) (h : Q .non (upd H p (.lst (y :: xs)))) : rIns (.ref p) [.int 0, y] H Q := ⟨p, xs, 0, y, rfl, rfl, hp, hl, by decide, by decide, h⟩
theorem s_lenL (hs : SqL K H p xs) (h : Q (.int xs.length) H) : rLenS K [.ref p] H Q := ⟨p, xs, rfl, .inl hs, h⟩
theorem s_lenT (hs : SqT K H p xs) (h : Q (.int xs.length) H) : rLenS K [.ref p] H Q := ⟨p, xs, rfl, .inr hs, h⟩
theorem s_tupL (hs : SqL K H p xs) (h : ∀ l, H l = none → Q (.ref l) (upd H l (.tup xs))) : rTupOf K [.ref p] H Q := ⟨p, xs, rfl, .inl ⟨hs, h⟩⟩
theorem s_lstL (hs : SqL K H p xs) (h : ∀ l, H l = none → Q (.ref l) (upd H l (.lst xs))) : rLstOf K [.ref p] H Q := ⟨p, xs, rfl, .inl hs, h⟩
theorem s_lstT (hs : SqT K H p xs) (h : ∀ l, H l = none → Q (.ref l) (upd H l (.lst xs))) : rLstOf K [.ref p] H Q := ⟨p, xs, rfl, .inr hs, h⟩
end
/-! heaps -/
theorem same_upd {H : Hp} {p : Addr} {o : HO} (h : H p = none) : Same H (upd H p o) := fun b u e => by rw [upd_ne (ne_of_none e h)]; exact e
theorem same_upd' {H H' : Hp} {p : Addr} {o : HO} (s : Same H H') (h : H p = none) : Same H (upd H' p o) := fun b u e => by rw [upd_ne (ne_of_none e h)]; exact s b u e
theorem same_new {H H' : Hp} {p : Addr} {o : HO} (s : Same H H') (h : H' p = none) : Same H (upd H' p o) := s.trans (same_upd h)
theorem Same.none {H H' : Hp} (s : Same H H') {p : Addr} (h : H' p = none) : H p = none := s.free h
theorem atI0 {α : Type} {xs : List α} {v : α} {n : Int} (k : Nat) (hn : n = k) (h : xs[k]? = some v) : atI xs n = some v := by subst hn; exact atI_nat h
theorem cutV_mem {xs : List V} {lo hi : Option Int} {x : V} (h : x ∈ cutV xs lo hi) : x ∈ xs := List.mem_of_mem_drop (List.mem_of_mem_take h)
theorem get_mem {xs : List V} {i : Nat} {x : V} (h : xs[i]? = some x) : x ∈ xs := List.mem_of_getElem? h
theorem of_mem_ints {ns : List Int} {x : V} (h : x ∈ ns.map V.int) : ∃ c, x = .int c ∧ c ∈ ns := by
  obtain ⟨c, h1, h2⟩ := List.mem_map.mp h
  exact ⟨c, h2.symm, h1⟩
section
variable {H : Hp} {Q : VK} {K : PySem.W.Frag} {p : Addr} {xs : List V}
theorem mkT (hl : xs.length ≤ 1000) (h : ∀ p H', H p = none → H' p = some (.tup xs) → Same H H' → Q (.ref p) H') : MkT Q xs H := ⟨len_le hl, fun p hp => h p _ hp upd_same (same_upd hp)⟩
theorem mkL (hl : xs.length ≤ 1000) (h : ∀ p H', H p = none → H' p = some (.lst xs) → Same H H' → Q (.ref p) H') : MkL Q xs H := ⟨len_le hl, fun p hp => h p _ hp upd_same (same_upd hp)⟩
theorem mkCat {q : Addr} {zs : List V} (h1 : H p = some (.lst xs)) (h2 : H q = some (.lst zs)) (hl : xs.length + zs.length ≤ 1000) (h : ∀ l H', H l = none → H' l = some (.lst (xs ++ zs)) → Same H H' → Q (.ref l) H') : rCat (.ref p) (.ref q) H Q := ⟨p, q, xs, zs, rfl, rfl, h1, h2, Nat.le_trans hl (Nat.le_of_lt (small1000 (Nat.le_refl _))), fun l hl => h l _ hl upd_same (same_upd hl)⟩
theorem mkSlT {lo hi : Option Int} (hs : SqT K H p xs) (hn : ¬ (HT.sIx xs.length 0 lo = 0 ∧ HT.sIx xs.length xs.length hi = xs.length)) (h : ∀ l H', H l = none → H' l = some (.tup (cutV xs lo hi)) → Same H H' → Q (.ref l) H') : rSlT K (.ref p) lo hi H Q := ⟨p, xs, rfl, hs, hn, fun l hl => h l _ hl upd_same (same_upd hl)⟩
theorem mkSl {lo hi : Option Int} (hs : SqL K H p xs) (h : ∀ l H', H l = none → H' l = some (.lst (cutV xs lo hi)) → Same H H' → Q (.ref l) H') : rSlL K (.ref p) lo hi H Q := s_slL hs fun l hl => h l _ hl upd_same (same_upd hl)
end
theorem s_eqD {K : PySem.W.Frag} {H : Hp} {Q : VK} {x y : V} (d e : PyData) (hd : Dp K H x d) (he : Dp K H y e) (h1 : SeqAt.shaped d = true) (h2 : SeqAt.shaped e = true) (h : Q (.bl (PyData.eqv d e)) H) : rEqD K x y H Q := ⟨d, e, hd, he, h1, h2, h⟩
theorem s_neD {K : PySem.W.Frag} {H : Hp} {Q : VK} {x y : V} (d e : PyData) (hd : Dp K H x d) (he : Dp K H y e) (h1 : SeqAt.shaped d = true) (h2 : SeqAt.shaped e = true) (h : Q (.bl (!PyData.eqv d e)) H) : rNeD K x y H Q := ⟨d, e, hd, he, h1, h2, h⟩
theorem dp_tup1 {K : PySem.W.Frag} {H : Hp} {p : Addr} {a : Int} (h : H p = some (.tup [.int a])) : Dp K H (.ref p) (.tuple [.int a]) := .tup (SqT.of h) (.cons (.int a) .nil)
theorem dp_tup2 {K : PySem.W.Frag} {H : Hp} {p : Addr} {a b : Int} (h : H p = some (.tup [.int a, .int b])) : Dp K H (.ref p) (.tuple [.int a, .int b]) := .tup (SqT.of h) (.cons (.int a) (.cons (.int b) .nil))
theorem atI_neg1 {α : Type} {xs : List α} {v : α} (h : xs.getLast? = some v) : atI xs (-1) = some v := by
  rcases List.eq_nil_or_concat xs with e | ⟨ys, y, e⟩
  · subst e; simp at h
  · rw [List.concat_eq_append] at e
    subst e
    rw [List.getLast?_concat] at h
    cases h
    exact atI_last ys v
/-! all stands but what lies at one place -/
def SameB (p : Addr) (H H' : Hp) : Prop := ∀ b o, b ≠ p → H b = some o → H' b = some o
theorem SameB.refl (p : Addr) (H : Hp) : SameB p H H := fun _ _ _ h => h
theorem SameB.trans {p : Addr} {H H1 H2 : Hp} (a : SameB p H H1) (b : SameB p H1 H2) : SameB p H H2 := fun c o n h => b c o n (a c o n h)
theorem SameB.of {p : Addr} {H H1 : Hp} (a : Same H H1) : SameB p H H1 := fun c o _ h => a c o h
theorem SameB.put {p : Addr} {H : Hp} {o : HO} : SameB p H (upd H p o) := fun c u n h => by rw [upd_ne n]; exact h
theorem SameB.same {p : Addr} {H H1 H2 : Hp} (n : H p = none) (a : SameB p H1 H2) (s : Same H H1) : Same H H2 := fun c o h => a c o (ne_of_none h n) (s c o h)
theorem SameB.updn {p l : Addr} {H H' : Hp} {o : HO} (h : SameB p H H') (n : H l = none) : SameB p H (upd H' l o) := fun b u hb e => by rw [upd_ne (ne_of_none e n)]; exact h b u hb e
theorem ixN_nat {n d : Nat} (h : d < n) : ixN n (d : Int) = some d := by
  unfold ixN
  rw [if_pos (by omega), if_pos (by omega)]; simp
/-! ranges -/
section
variable {H : Hp} {σ : L2.St} {ta : TA} {RI : It → Hp → Prop}
def RngQ1 (RI : It → Hp → Prop) (vs : List V) (H : Hp) : Prop := ∃ j : Int, vs = [.int j] ∧ -(2 ^ 62) ≤ j ∧ j < 2 ^ 62 ∧ RI (Itr 0 j.toNat) H
def RngQ2 (RI : It → Hp → Prop) (vs : List V) (H : Hp) : Prop := ∃ i j : Int, vs = [.int i, .int j] ∧ (-(2 ^ 62) ≤ i ∧ i < 2 ^ 62 ∧ -(2 ^ 62) ≤ j ∧ j < 2 ^ 62) ∧ RI (Itr i (j - i).toNat) H
theorem s_rng1 (h : ta σ H fun vs H1 => RngQ1 RI vs H1) : iRng1 ta σ H RI := h
theorem s_rng2 (h : ta σ H fun vs H1 => RngQ2 RI vs H1) : iRng2 ta σ H RI := h
theorem mkR1 {j : Int} (n : Nat) (e : j.toNat = n) (h1 : -(2 ^ 62) ≤ j) (h2 : j < 2 ^ 62) (h : RI (Itr 0 n) H) : RngQ1 RI [.int j] H := ⟨j, rfl, h1, h2, by rw [e]; exact h⟩
theorem mkR2 {i j : Int} (n : Nat) (e : (j - i).toNat = n) (h1 : -(2 ^ 62) ≤ i ∧ i < 2 ^ 62 ∧ -(2 ^ 62) ≤ j ∧ j < 2 ^ 62) (h : RI (Itr i n) H) : RngQ2 RI [.int i, .int j] H := ⟨i, j, rfl, h1, by rw [e]; exact h⟩
end
section
variable {to ti : TE} {t : TSet} {v : V} {σ : L2.St} {H : Hp} {QS : L2.St → Hp → Prop} {p : Addr} {xs : List V} {k : Int} {QH : Hp → Prop}
theorem s_gsub (h : to σ H fun o H1 => ti σ H1 fun i H2 => t o i v H2 fun H3 => QS σ H3) : gSub to ti t v σ H QS := h
theorem s_setL (j : Nat) (hp : H p = some (.lst xs)) (hj : ixN xs.length k = some j) (h : QH (upd H p (.lst (xs.set j v)))) : rSetL (.ref p) (.int k) v H QH := ⟨p, xs, k, j, rfl, rfl, hp, hj, h⟩
end
/-! dicts -/
section
variable {H : Hp} {Q : VK} {p : Addr} {kvs : List (Key × V)} {k : Key} {v : V} {td ty tv : TE} {σ : L2.St} {D : Ends}
def DGetQ (Q : VK) (x y : V) (H : Hp) : Prop := ∃ a v, x = .ref a ∧ DGet H a y (some v) ∧ Q v H
theorem s_dget (h : td σ H fun x H1 => ty σ H1 fun y H2 => DGetQ Q x y H2) : tDGet td ty σ H Q := h
theorem s_dgetS {x : Str} (hd : H p = some (.dK kvs)) (hv : valV kvs (.inr x) = some v) (h : Q v H) : DGetQ Q (.ref p) (.str x) H := ⟨p, v, rfl, by rw [← hv]; exact DGet.k (k := .inr x) hd, h⟩
theorem s_dgetI {i : Int} (hd : H p = some (.dK kvs)) (hv : valV kvs (.inl i) = some v) (h : Q v H) : DGetQ Q (.ref p) (.int i) H := ⟨p, v, rfl, by rw [← hv]; exact DGet.k (k := .inl i) hd, h⟩
def DispQ (Q : VK) (p : Addr) (ps : List (V × V)) (H2 : Hp) : Prop := H2 p = some (.dK []) ∧ ∃ kvs : List (Key × V), ps = kvs.map (fun kv => (kV kv.1, kv.2)) ∧ kvs.length ≤ 15 ∧ Q (.ref p) (upd H2 p (.dK (mergeK [] kvs)))
theorem s_disp {trs : List (TE × TE)} (h : ∀ p H1, H p = none → H1 p = some (.dK []) → Same H H1 → tPairs trs σ H1 fun ps H2 => DispQ Q p ps H2) : tDisp trs σ H Q := fun p hp => h p _ hp upd_same (same_upd hp)
theorem s_pn {QP : List (V × V) → Hp → Prop} (h : QP [] H) : tPairs [] σ H QP := h
theorem s_pc {tk : TE} {r : List (TE × TE)} {QP : List (V × V) → Hp → Prop} (h : tk σ H fun x H1 => tv σ H1 fun y H2 => tPairs r σ H2 fun ps H3 => QP ((x, y) :: ps) H3) : tPairs ((tk, tv) :: r) σ H QP := h
theorem mkDisp {ps : List (V × V)} (kvs : List (Key × V)) (hd : H p = some (.dK [])) (e : ps = kvs.map (fun kv => (kV kv.1, kv.2))) (hl : kvs.length ≤ 15) (h : ∀ H', H' p = some (.dK (mergeK [] kvs)) → (∀ H0, H0 p = none → Same H0 H → Same H0 H') → Q (.ref p) H') : DispQ Q p ps H :=
  ⟨hd, kvs, e, hl, h _ upd_same fun H0 n s => same_upd' s n⟩
def DPutQ (P : Hp → Prop) (x y v : V) (H3 : Hp) : Prop := ∃ a H4, x = .ref a ∧ DPut H3 a y v H4 ∧ P H4
theorem s_dput (h : tv σ H fun v H1 => td σ H1 fun x H2 => ty σ H2 fun y H3 => DPutQ (D.nx σ) x y v H3) : sDPut td ty tv D σ H := h
theorem s_dputS {P : Hp → Prop} {x : Str} (hd : H p = some (.dK kvs)) (hl : kvs.length < sizeLine) (h : P (upd H p (.dK (putK kvs (.inr x) v)))) : DPutQ P (.ref p) (.str x) v H := ⟨p, _, rfl, DPut.k (k := .inr x) hd hl, h⟩
theorem s_dputI {P : Hp → Prop} {i : Int} (hd : H p = some (.dK kvs)) (hl : kvs.length < sizeLine) (h : P (upd H p (.dK (putK kvs (.inl i) v)))) : DPutQ P (.ref p) (.int i) v H := ⟨p, _, rfl, DPut.k (k := .inl i) hd hl, h⟩
end
mutual
theorem eqv_refl : ∀ d : PyData, PyData.canLay0 d = true → PyData.eqv d d = true
  | .none, _ => by simp [PyData.eqv]
  | .bool b, _ => by simp [PyData.eqv]
  | .int i, _ => by simp [PyData.eqv]
  | .str x, _ => by simp [PyData.eqv]
  | .list xs, h => by simp only [PyData.eqv]; exact eqv_refls xs (by simpa [PyData.canLay0] using h)
  | .tuple xs, h => by simp only [PyData.eqv]; exact eqv_refls xs (by simpa [PyData.canLay0] using h)
  | .dict _, h => by simp [PyData.canLay0] at h
theorem eqv_refls : ∀ ds : List PyData, PyData.canLayAll0 ds = true → PyData.eqvAll ds ds = true
  | [], _ => by simp [PyData.eqvAll]
  | d :: ds, h => by
    simp only [PyData.canLayAll0, Bool.and_eq_true] at h
    simp only [PyData.eqvAll, Bool.and_eq_true]
    exact ⟨eqv_refl d h.1, eqv_refls ds h.2⟩
end
theorem layAll {ds : List PyData} (h : ∀ d ∈ ds, PyData.canLay0 d = true) : PyData.canLayAll0 ds = true := by
  induction ds with
  | nil => simp [PyData.canLayAll0]
  | cons d ds ih =>
    simp only [PyData.canLayAll0, Bool.and_eq_true]
    exact ⟨h d (by simp), ih fun e he => h e (by simp [he])⟩
theorem depAll {ds : List PyData} {n : Nat} (h : ∀ d ∈ ds, PyData.depth d ≤ n) : PyData.depthAll ds ≤ n := by
  induction ds with
  | nil => simp [PyData.depthAll]
  | cons d ds ih =>
    simp only [PyData.depthAll]
    exact Nat.max_le.mpr ⟨h d (by simp), ih fun e he => h e (by simp [he])⟩
theorem shapedL {ds : List PyData} (h : ∀ d ∈ ds, PyData.canLay0 d = true ∧ PyData.depth d ≤ 63) : SeqAt.shaped (.list ds) = true := by
  unfold SeqAt.shaped
  simp only [PyData.canLay0, PyData.depth, Bool.and_eq_true]
  exact ⟨layAll fun d hd => (h d hd).1, decide_eq_true (Nat.succ_le_succ (depAll fun d hd => (h d hd).2))⟩
theorem shapedT {ds : List PyData} (h : ∀ d ∈ ds, PyData.canLay0 d = true ∧ PyData.depth d ≤ 63) : SeqAt.shaped (.tuple ds) = true := by
  unfold SeqAt.shaped
  simp only [PyData.canLay0, PyData.depth, Bool.and_eq_true]
  exact ⟨layAll fun d hd => (h d hd).1, decide_eq_true (Nat.succ_le_succ (depAll fun d hd => (h d hd).2))⟩
theorem eqv_shaped {d : PyData} (h : SeqAt.shaped d = true) : PyData.eqv d d = true := eqv_refl d (SeqAt.canLay_of_shaped h)
theorem in_ints (a : Int) (ns : List Int) : inV (.int a) (ns.map V.int) = decide (a ∈ ns) := by
  unfold inV
  induction ns with
  | nil => simp
  | cons n ns ih =>
    rw [List.map_cons, List.any_cons, ih]
    simp only [eqV, List.mem_cons]
    by_cases h : a = n
    · subst h; simp
    · simp [h, Ne.symm h]
theorem flat_ints (ns : List Int) : (ns.map V.int).all flatV = true := by simp [flatV]
theorem s_inL {K : PySem.W.Frag} {H : Hp} {Q : VK} {p : Addr} {a : Int} {ns : List Int} (hp : H p = some (.lst (ns.map V.int))) (h : Q (.bl (decide (a ∈ ns))) H) : rIn K false (.int a) (.ref p) H Q :=
  ⟨p, ns.map V.int, rfl, .inl (SqL.of hp), rfl, flat_ints ns, by rw [if_neg Bool.false_ne_true, in_ints]; exact h⟩
theorem s_notInL {K : PySem.W.Frag} {H : Hp} {Q : VK} {p : Addr} {a : Int} {ns : List Int} (hp : H p = some (.lst (ns.map V.int))) (h : Q (.bl (!decide (a ∈ ns))) H) : rIn K true (.int a) (.ref p) H Q :=
  ⟨p, ns.map V.int, rfl, .inl (SqL.of hp), rfl, flat_ints ns, by rw [if_pos rfl, in_ints]; exact h⟩
theorem paired_mono {α β : Type} {F G : α → β → Prop} (h : ∀ a b, F a b → G a b) : ∀ {xs : List α} {ys : List β}, Paired F xs ys → Paired G xs ys
  | _, _, .nil => .nil
  | _, _, .cons f r => .cons (h _ _ f) (paired_mono h r)
theorem paired_take {α β : Type} {F : α → β → Prop} : ∀ {xs : List α} {ys : List β} (n : Nat), Paired F xs ys → Paired F (xs.take n) (ys.take n)
  | _, _, 0, _ => by simp; exact .nil
  | _, _, _ + 1, .nil => .nil
  | _, _, n + 1, .cons f r => .cons f (paired_take n r)
theorem s_isiT2 {K : PySem.W.Frag} {H : Hp} {Q : VK} {x : V} {tp : Addr} {a b1 b2 : String} {r1 r2 : Bool} (ht : H tp = some (.tup [.ty b1, .ty b2])) (tx : TyOf K H x (.type a)) (k1 : kitB a b1 = some r1) (k2 : kitB a b2 = some r2) (h : Q (.bl (r1 || r2)) H) : rIsiT K [x, .ref tp] H Q :=
  ⟨x, tp, [.ty b1, .ty b2], .type a, [.type b1, .type b2], r1 || r2, rfl, ht, .cons (.ty b1) (.cons (.ty b2) .nil), .base tx,
    kitAny_cons (kit_ty k1) (fun e => kitAny_cons (kit_ty k2) (fun e2 => by rw [e, e2]; exact kitAny_nil) (fun e2 => by rw [e2]; simp)) (fun e => by rw [e]; rfl), h⟩
theorem s_isiT2F {K : PySem.W.Frag} {H : Hp} {Q : VK} {x : V} {tp : Addr} {a b1 b2 : String} (ht : H tp = some (.tup [.ty b1, .ty b2])) (tx : TyOf K H x (.type a)) (k1 : kitB a b1 = some false) (k2 : kitB a b2 = some false) (h : Q (.bl false) H) : rIsiT K [x, .ref tp] H Q := s_isiT2 ht tx k1 k2 h
theorem kb_nl : kitB "NoneType" "list" = some false := by decide +kernel
theorem kb_nt : kitB "NoneType" "tuple" = some false := by decide +kernel
theorem kb_nb : kitB "NoneType" "bool" = some false := by decide +kernel
theorem kb_il : kitB "int" "list" = some false := by decide +kernel
theorem kb_it : kitB "int" "tuple" = some false := by decide +kernel
theorem kb_bl : kitB "bool" "list" = some false := by decide +kernel
theorem kb_bt : kitB "bool" "tuple" = some false := by decide +kernel
theorem lookup1 {f : Str} {v : V} : List.lookup f [(f, v)] = some v := by simp [List.lookup]
theorem s_xf {a C d : Addr} {f : Str} {v : V} {i : Nat} {σ : L2.St} {H : Hp} {Q : VK} (e : σ[i]? = some (some (.ref a))) (hx : H d = some (.xd [(f, v)])) (h : Q v H) : tXf a (.ref C) (some d) C f (tVar i) σ H Q := ⟨_, e, rfl, rfl, d, _, v, rfl, hx, lookup1, h⟩
/-- a list (or tuple) of tuples -/
abbrev TupsIn (H : Hp) : List V → List (List V) → Prop := Paired fun (x : V) (r : List V) => ∃ t, x = .ref t ∧ H t = some (.tup r)
theorem TupsIn.same {H H' : Hp} (s : Same H H') : ∀ {xs : List V} {rs : List (List V)}, TupsIn H xs rs → TupsIn H' xs rs
  | _, _, .nil => .nil
  | _, _, .cons ⟨t, e, h⟩ r => .cons ⟨t, e, s _ _ h⟩ (TupsIn.same s r)
theorem TupsIn.upd {H : Hp} {p : Addr} {o : HO} {zs : List V} (hp : H p = some (.lst zs)) : ∀ {xs : List V} {rs : List (List V)}, TupsIn H xs rs → TupsIn (L2.upd H p o) xs rs
  | _, _, .nil => .nil
  | _, _, .cons ⟨t, e, h⟩ r => .cons ⟨t, e, by rw [upd_ne (fun z => by rw [z, hp] at h; cases h)]; exact h⟩ (TupsIn.upd hp r)
theorem paired_snoc {α β : Type} {F : α → β → Prop} {x : α} {y : β} : ∀ {xs : List α} {ys : List β}, Paired F xs ys → F x y → Paired F (xs ++ [x]) (ys ++ [y])
  | _, _, .nil, f => .cons f .nil
  | _, _, .cons a r, f => .cons a (paired_snoc r f)
theorem paired_set {α β : Type} {F : α → β → Prop} {x : α} {y : β} : ∀ {xs : List α} {ys : List β} (j : Nat), Paired F xs ys → F x y → Paired F (xs.set j x) (ys.set j y)
  | _, _, _, .nil, _ => .nil
  | _, _, 0, .cons _ r, f => .cons f r
  | _, _, j + 1, .cons a r, f => .cons a (paired_set j r f)
theorem TupsIn.app {H H1 : Hp} {l t : Addr} {xs r : List V} {rs : List (List V)} (hl : H l = some (.lst xs)) (ht : TupsIn H xs rs) (s : Same H H1) (nt : H t = none) (et : H1 t = some (.tup r)) :
    TupsIn (L2.upd H1 l (.lst (xs ++ [.ref t]))) (xs ++ [.ref t]) (rs ++ [r]) :=
  paired_snoc (TupsIn.upd (s _ _ hl) (ht.same s)) ⟨t, rfl, by rw [upd_ne (ne_of_none hl nt).symm]; exact et⟩
theorem TupsIn.put {H H1 : Hp} {l t : Addr} {xs r : List V} {rs : List (List V)} (j : Nat) (hl : H l = some (.lst xs)) (ht : TupsIn H xs rs) (s : Same H H1) (nt : H t = none) (et : H1 t = some (.tup r)) :
    TupsIn (L2.upd H1 l (.lst (xs.set j (.ref t)))) (xs.set j (.ref t)) (rs.set j r) :=
  paired_set j (TupsIn.upd (s _ _ hl) (ht.same s)) ⟨t, rfl, by rw [upd_ne (ne_of_none hl nt).symm]; exact et⟩
theorem take_more {α : Type} {xs : List α} {i : Nat} {x : α} (h : xs[i]? = some x) : xs.take (i + 1) = xs.take i ++ [x] := by
  rw [List.take_succ, h]; rfl
theorem pget {α β : Type} {F : α → β → Prop} : ∀ {xs : List α} {ys : List β} {i : Nat} {x : α}, Paired F xs ys → xs[i]? = some x → ∃ y, ys[i]? = some y ∧ F x y
  | _, _, _, _, .nil, e => by simp at e
  | _, _, 0, _, .cons f _, e => by simp at e; subst e; exact ⟨_, rfl, f⟩
  | _, _, i + 1, x, .cons _ r, e => by
    obtain ⟨y, h1, h2⟩ := pget (i := i) r (by simpa using e)
    exact ⟨y, by simpa using h1, h2⟩
theorem pget' {α β : Type} {F : α → β → Prop} : ∀ {xs : List α} {ys : List β} {i : Nat} {y : β}, Paired F xs ys → ys[i]? = some y → ∃ x, xs[i]? = some x ∧ F x y
  | _, _, _, _, .nil, e => by simp at e
  | _, _, 0, _, .cons f _, e => by simp at e; subst e; exact ⟨_, rfl, f⟩
  | _, _, i + 1, x, .cons _ r, e => by
    obtain ⟨y, h1, h2⟩ := pget' (i := i) r (by simpa using e)
    exact ⟨y, by simpa using h1, h2⟩
theorem s_isN {H : Hp} {Q : VK} (h : Q (.bl true) H) : L2.rIsN .non .non H Q := ⟨rfl, by rw [decide_eq_true rfl]; exact h⟩
theorem s_isNi {H : Hp} {Q : VK} {i : Int} (h : Q (.bl false) H) : L2.rIsN (.int i) .non H Q := ⟨rfl, by rw [decide_eq_false (by intro z; cases z)]; exact h⟩
def RgQ (Q : VK) (x y : V) (H : Hp) : Prop := ∃ i j, x = .int i ∧ y = .int j ∧ RgOk i j ∧ ∀ q, H q = none → Q (.ref q) (upd H q (.lst (rgV i j)))
theorem s_bm0 {K : PySem.W.Frag} {T : String} {r : V → List V → Hp → VK → Prop} {ta : TE} {σ : L2.St} {H : Hp} {Q : VK} (h : ta σ H fun x H1 => tyV K T x H1 ∧ r x [] H1 Q) : tBM0 K T r ta σ H Q := h
theorem s_lrg2 {ta tb : TE} {σ : L2.St} {H : Hp} {Q : VK} (h : ta σ H fun x H1 => tb σ H1 fun y H2 => RgQ Q x y H2) : tLstRg (tRg2 ta tb) σ H Q := h
theorem s_lc {wi : TI} {g : TG} {tt : TT} {te : TE} {vs : List Nat} {σ : L2.St} {H : Hp} {Q : VK} (h : wi σ H fun J H1 => tLc (fun _ _ R => R J H1) g tt te vs σ H1 Q) : tLc wi g tt te vs σ H Q := h
theorem call_isiK (K : PySem.W.Frag) {X : Cx} (h : X.K = K) : CallR X (.builtin "isinstance") (rIsi K) := h ▸ call_isi
theorem ix_seqK (K : PySem.W.Frag) {X : Cx} (h : X.K = K) : IxR X (rIx K) := h ▸ ix_seq
theorem s_isNb {H : Hp} {Q : VK} {i : Bool} (h : Q (.bl false) H) : L2.rIsN (.bl i) .non H Q := ⟨rfl, by rw [decide_eq_false (by intro z; cases z)]; exact h⟩
theorem s_isNr {H : Hp} {Q : VK} {i : Addr} (h : Q (.bl false) H) : L2.rIsN (.ref i) .non H Q := ⟨rfl, by rw [decide_eq_false (by intro z; cases z)]; exact h⟩
theorem s_notN {H : Hp} {Q : VK} (h : Q (.bl false) H) : L2.rNotN .non .non H Q := ⟨rfl, by rw [decide_eq_true rfl]; exact h⟩
theorem s_notNi {H : Hp} {Q : VK} {i : Int} (h : Q (.bl true) H) : L2.rNotN (.int i) .non H Q := ⟨rfl, by rw [decide_eq_false (by intro z; cases z)]; exact h⟩
theorem s_notNr {H : Hp} {Q : VK} {i : Addr} (h : Q (.bl true) H) : L2.rNotN (.ref i) .non H Q := ⟨rfl, by rw [decide_eq_false (by intro z; cases z)]; exact h⟩
theorem fn_or {P : Program} {w : World} {K : PySem.W.Frag} {mg : Str → Option Value} {base : Heap} {CX : CXT} {k : Nat} {f : Addr} {fd : FuncData} {ps : List Str} {sp sp1 sp2 : Sp} (F1 : FnOk P w K mg base CX k f fd ps sp1) (F2 : FnOk P w K mg base CX k f fd ps sp2)
    (h : ∀ vs H Q E, sp vs H Q E → sp1 vs H Q E ∨ sp2 vs H Q E) : FnOk P w K mg base CX k f fd ps sp :=
  ⟨fun vs H Q E q => (h vs H Q E q).elim (F1.len vs H Q E) (F2.len vs H Q E), fun A outer s H args us vs Q E hr he hb hv hs => (h vs H Q E hs).elim (F1.run A outer s H args us vs Q E hr he hb hv) (F2.run A outer s H args us vs Q E hr he hb hv)⟩
/-! loops -/
section
variable {c : TT} {tb : TS} {D : Ends} {σ : L2.St} {H : Hp}
/-- the int in a slot -/
def iv (σ : L2.St) (i : Nat) : Int := match σ[i]? with
  | some (some (V.int r)) => r
  | _ => 0
def WW (Pv : L2.St → Hp → Prop) (μ : L2.St → Hp → Nat) : Nat → L2.St → Hp → Prop := fun m σ H => m = μ σ H ∧ Pv σ H
theorem s_while (Pv : L2.St → Hp → Prop) (μ : L2.St → Hp → Nat) (h0 : Pv σ H)
    (hs : ∀ σ H, Pv σ H → c σ H fun b H1 => if b = true then ∃ N : L2.St → Hp → Prop, (∀ σ' H', N σ' H' → ∃ m', m' < μ σ H ∧ WW Pv μ m' σ' H') ∧ tb { D with nx := N, ct := N, bk := D.nx } σ H1 else D.nx σ H1) : tWhile c tb D σ H :=
  ⟨WW Pv μ, ⟨_, rfl, h0⟩, fun m σ H ⟨e, p⟩ => by subst e; exact hs σ H p⟩
theorem s_turn {Pv : L2.St → Hp → Prop} {μ : L2.St → Hp → Nat} {m : Nat} (h : tb { D with nx := fun σ' H' => Pv σ' H' ∧ μ σ' H' < m, ct := fun σ' H' => Pv σ' H' ∧ μ σ' H' < m, bk := D.nx } σ H) :
    ∃ N : L2.St → Hp → Prop, (∀ σ' H', N σ' H' → ∃ m', m' < m ∧ WW Pv μ m' σ' H') ∧ tb { D with nx := N, ct := N, bk := D.nx } σ H := ⟨_, fun σ' H' p => ⟨_, p.2, rfl, p.1⟩, h⟩
end
/-! numbers -/
def CDivF (_ j : Int) : Prop := j ≠ 0 ∧ j.natAbs.log2 < 9000
section
variable {X : Cx}
theorem op_divF : OpR X (binaryOp .FloorDiv) (rI CDivF fun i j => .int (i.fdiv j)) := opI fun _ _ _ _ _ _ _ hc q => floordiv_int hc.1 q (.inl (PyProof.noPylong_of_log2 hc.2))
end
theorem divW {a j : Int} (h : 0 < j) (h2 : j.natAbs < 2 ^ 2000) : CDivW a j := wide_div h h2 (by decide) (by decide)
theorem divF {a j : Int} (h : j ≠ 0) (h2 : j.natAbs < 2 ^ 2000) : CDivF a j := ⟨h, Nat.lt_of_lt_of_le (PySem.Flt.log2_lt_of (by decide) h2) (by decide)⟩
theorem mulW {a b : Int} (h1 : a.natAbs < 2 ^ 2000) (h2 : b.natAbs < 2 ^ 2000) : CMulW a b := wide_mul h1 h2 (by decide) (by decide) (by decide)
/-- a law over a head by facts: its last step, the script's sizes told -/
theorem walk_ofEB {l : PySem.W.OpenLaw} {n k : Nat} {qv : Program} {ls : List Str} {XP : (Str → Option Value) → Heap → Prop} {YP : World → Heap → Prop} {dr : DefRec} {CX : World → CXT} {prm : Str}
    (hmost : l.most = some n) (hline : n ≤ sizeLine) (hnod : dr.params.defaults = []) (room : Room k callerA)
    (F : ∀ (w : World) (mg : Str → Option Value) (fa : Addr) (hp : Heap), YP w hp → hp.Ns mainGlobals mg → mg dr.name = some (.ref fa) →
      ∃ (Kf : PySem.W.Frag) (fdt : FuncData) (sp : Sp), Kf.In hp ∧ (∀ (s : Shared) (u : Value), BindsTo s fdt ⟨[u], []⟩ [(prm, u)]) ∧
        (∀ (H : Hp) (a : Addr) (ns : List Int), ns.length ≤ n → (∀ z ∈ ns, Builtin.Int.intBits z ≤ 1048576) → Only H → SqL Kf H a (ns.map V.int) → sp [.ref a] H (fun v _ => v = .bl true) fun _ _ _ => False) ∧
        ∀ base : Heap, Kf.In base → base.Ns mainGlobals mg → FnOk l.prog w Kf mg base (CX w) k fa fdt [prm] sp)
    (none_out : ∀ (w : World) (H : Hp) (s : Shared) (e : Value) (s' : Shared), CX w [] H s (fun _ _ _ => False) e s' → False) :
    PySem.W.WalkO qv ls XP YP l.row.toRowW dr [] (fun f vs => PySem.call f vs) := by
  refine Att.attach_callB hmost hnod fun w s₀ s₁ mg _ fa _ _ _ _ a _ ns G Y _ _ _ gN ob1 xis len bits run => ?_
  obtain ⟨Kf, fdt, sp, kin, bnd, last, fok⟩ := F w mg fa _ Y G.T.g gN
  exact law_call kin G.T.g G.T.b G.T.builtins G.T.nolimit run ob1 xis (Nat.le_trans len hline) room fok bnd (fun H only sq => last H a ns len bits only sq) fun H e s' => none_out w H s₁ e s'
theorem cx0_no {P : Program} (w : World) (H : Hp) (s : Shared) (e : Value) (s' : Shared) (h : CX0 [] H s (fun _ _ _ => False) e s') : False := h
/-! what the head tells: facts as tests of the written part, defs at any address -/
abbrev FB := PySem.W.Frag → Bool
def toldR (fb : List FB) (fn : List He5.DefA) (K : PySem.W.Frag) : He.AlD := ((fb.all fun t => t K) && (fn.all fun e => e.ok K), fn.map fun e => He5.fnA K (e.at_ K))
def dueR (fn : List He5.DefA) : He.AlD := (true, fn.map He5.DefA.val)
def Told (fb : List FB) (fn : List He5.DefA) (K : PySem.W.Frag) : Prop := toldR fb fn K = dueR fn
def toldG (n : Nat) (fb : List FB) (fn : List He5.DefA) (g : Addr → Option Obj) : He.AlD := toldR fb fn (He.frG g (He5.asA g n))
def hookR (n : Nat) (fb : List FB) (fn : List He5.DefA) : PySem.W.Hook where
  α := He.AlD
  obs := fun st => toldG n fb fn st.heap.get?
  val := fun _ => dueR fn
  says := fun _ hp => ∃ Kf : PySem.W.Frag, Kf.In hp ∧ Told fb fn Kf
  of := fun _ _ eq => ⟨_, He.frG_in, eq⟩
  keeps := fun _ _ _ ⟨Kf, hin, tl⟩ kp => ⟨Kf, PySem.W.Frag.In.keeps hin kp, tl⟩
theorem toldG_eq {n : Nat} {fb : List FB} {fn : List He5.DefA} {g : Addr → Option Obj} {st : Shared} (h : ∀ a, g a = st.heap.get? a) : toldG n fb fn g = (hookR n fb fn).obs st := by
  have eg : g = st.heap.get? := funext h
  rw [eg] <;> rfl
theorem Told.fact {fb : List FB} {fn : List He5.DefA} {K : PySem.W.Frag} (tl : Told fb fn K) (i : Nat) {t : FB} (h : fb[i]? = some t := by rfl) : t K = true := by
  have e0 : ((fb.all fun t => t K) && (fn.all fun e => e.ok K)) = true := congrArg Prod.fst tl
  exact List.all_eq_true.mp (Bool.and_eq_true_iff.mp e0).1 t (List.mem_of_getElem? h)
theorem Told.dfn {fb : List FB} {fn : List He5.DefA} {K : PySem.W.Frag} (tl : Told fb fn K) (i : Nat) {e : He5.DefA} (h : fn[i]? = some e := by rfl) : ∃ fd, FunD K e.name e.qual e.params e.body e.scope (e.dvs K) (e.kws K) (e.at_ K) fd := by
  have e0 : ((fb.all fun t => t K) && (fn.all fun e => e.ok K)) = true := congrArg Prod.fst tl
  have e1 : fn.map (fun e => He5.fnA K (e.at_ K)) = fn.map He5.DefA.val := congrArg Prod.snd tl
  have e2 := congrArg (fun l => l[i]?) e1
  simp only [List.getElem?_map, h, Option.map_some] at e2
  exact He5.DefA.funD (Option.some.inj e2) (List.all_eq_true.mp (Bool.and_eq_true_iff.mp e0).2 e (List.mem_of_getElem? h))
/-! own exception classes whose __init__ calls their base's and keeps one field -/
def oexB (C : Addr) : FB := fun K => (match K.lookup C with
  | some ⟨.type tn, _, .cls cd, sl⟩ => (match cd.mro, sl.toList with
    | .ref C' :: bm, [_, _, _, _, some (.builtin n), _] => decide (tn = "type") && (C' == C && (decide (n = "ValueError.__new__") && (!cd.hasDel && (cd.hasDict && PySem.HandSPX.refsVE bm))))
    | _, _ => false)
  | _ => false) && (decide (PySem.W.findIn K (.ref C) "__setattr__" = some (some (.builtin "object.__setattr__"))) && (decide (PySem.W.subIn K (.ref C) (.type "BaseException") = some true) && (decide (PySem.W.typeIn K (.ref C) = some (.type "type")) && PySem.W.keepIn K (.ref C))))
theorem oex_of {K : PySem.W.Frag} {C : Addr} (h : oexB C K = true) : OexC K C := by
  unfold oexB at h
  simp only [Bool.and_eq_true, decide_eq_true_eq] at h
  obtain ⟨h1, h2, h3, h4, h5⟩ := h
  refine ⟨?_, h2, h3, h4, h5⟩
  split at h1
  · rename_i tn dd cd sl ho
    split at h1
    · rename_i C' bm k0 k1 k2 k3 n k5 hm hs
      simp only [Bool.and_eq_true, beq_iff_eq, Bool.not_eq_true', decide_eq_true_eq] at h1
      obtain ⟨rfl, rfl, rfl, hdel, hdct, hr⟩ := h1
      obtain ⟨nm, bs, mro, ns, qn, hd, sn, sub, ab, col, del⟩ := cd
      dsimp only at hm hdel hdct
      subst hm hdel hdct
      have hsl : sl = #[k0, k1, k2, k3, some (.builtin "ValueError.__new__"), k5] := by
        obtain ⟨l⟩ := sl
        simp only at hs
        rw [hs]
      subst hsl
      exact ⟨nm, qn, ns, bs, bm, sn, sub, ab, col, dd, k0, k1, k2, k3, k5, ho, hr⟩
    · cases h1
  · cases h1
/-- the base P, whose __init__ is called through it -/
def baseB (C : Addr) : FB := fun K => PySem.W.readsIn K C (.type "type") && (decide (PySem.W.specialIn K (.ref C) "__getattribute__" = some (some (.builtin "type.__getattribute__"))) && (match PySem.W.findCls K (.ref C) (.type "type") "__init__" with
  | some (.val (.builtin n)) => decide (n = "ValueError.__init__")
  | _ => false))
structure BaseC (K : PySem.W.Frag) (C : Addr) : Prop where
  rd : PySem.W.readsIn K C (.type "type") = true
  ga : PySem.W.specialIn K (.ref C) "__getattribute__" = some (some (.builtin "type.__getattribute__"))
  at_ : PySem.W.findCls K (.ref C) (.type "type") "__init__" = some (.val (.builtin "ValueError.__init__"))
theorem base_of {K : PySem.W.Frag} {C : Addr} (h : baseB C K = true) : BaseC K C := by
  unfold baseB at h
  simp only [Bool.and_eq_true, decide_eq_true_eq] at h
  obtain ⟨h1, h2, h3⟩ := h
  refine ⟨h1, h2, ?_⟩
  split at h3
  · rename_i n e
    rw [e, of_decide_eq_true h3]
  · cases h3
section
variable {X : Cx} {e : Expr} {es : List Expr} {ta : TA} {p1 p2 pos : Pos}
/-- P.__init__(self, ..) -/
theorem pe_cinit {x : Str} {C : Addr} {pl : Sem Bool} (hg : Gl X x) (hm : X.mg x = some (.ref C)) (r : BaseC X.K C) (ha : PA X (e :: es) ta) (hdb : (x == ("__debug__" : Str)) = false := by decide)
    (hc : eval (.Call (.Attribute (.Name x p1) "__init__" p2) (e :: es) [] pos) X.env = (do
      let ov ← eval (.Name x p1) X.env
      standAt p2.atName
      let (f, fst) ← holding [ov] (getMethod ov "__init__" pl)
      callWith pos f fst (backTo pos (starEach (e :: es) X.env)) (backToKw pos (keywordEach [] X.env))) := by rfl)
    (he : starEach (e :: es) X.env = (false, eval e X.env) :: starEach es X.env := by rfl) (hpl : (backTo pos (starEach es X.env)).any (·.1) = false := by rfl) :
    PE X (.Call (.Attribute (.Name x p1) "__init__" p2) (e :: es) [] pos) (tVeI X.K ta) := by
  refine ⟨fun pins s σ H Q I h => ?_⟩
  refine PySem.W.methodCall_KW (ld_glob I hg hm ?_ hdb) hc
  refine PySem.W.method_cls I.kIn r.ga (PySem.W.cls_value I.kIn r.rd r.at_ (by decide +kernel) ?_)
  show wpAny _ _ (callWith pos (Value.builtin "ValueError.__init__") [] (backTo pos (starEach (e :: es) X.env)) []) _ _ _
  refine PyProof.Rows.callWith_method1 (thn (ha.run pos pins _ σ H _ (I.tok _) h) fun us s1 ⟨vs, H1, I1, r1, a, C, ws, ev, hl, T, ea, q⟩ => ?_) he hpl
  subst ev
  cases r1 with
  | @cons _ u0 _ ur ra rw' =>
    obtain rfl : u0 = Value.ref a := ra
    have hlen : ur.length ≤ sizeLine := by rw [← Paired.length rw']; exact len_le hl
    exact oinit_ok T I1 ea hlen fun s' J => ⟨.non, H1, J, rfl, q⟩
end
/-! isinstance of a caught own error, with or without a dict of its own -/
structure IsX (K : PySem.W.Frag) (D : Addr) : Prop where
  ga : PySem.W.findIn K (.ref D) "__getattribute__" = some (some (.builtin "BaseException.__getattribute__"))
  gg : PySem.W.findIn K (.ref D) "__getattr__" = some none
  sub : PySem.W.subIn K (.ref D) (.type "BaseException") = some true
  dct : PySem.W.hasDictIn K D = true
  cl : PySem.W.findIn K (.ref D) "__class__" = some (some (.builtin "object.__class__"))
  gt : PySem.W.specialIn K (.builtin "object.__class__") "__get__" = some (some (.builtin "getset_descriptor.__get__"))
  tk : PySem.W.takesIn K (.builtin "object.__class__") = some true
  mro : PySem.W.mroIn K D (.type "object") = some true
def isxB (x : Str) : FB := fun K => decide (PySem.W.findIn K (.ref (He.ga K x)) "__getattribute__" = some (some (.builtin "BaseException.__getattribute__"))) && (decide (PySem.W.findIn K (.ref (He.ga K x)) "__getattr__" = some none) &&
  (decide (PySem.W.subIn K (.ref (He.ga K x)) (.type "BaseException") = some true) && (PySem.W.hasDictIn K (He.ga K x) && (decide (PySem.W.findIn K (.ref (He.ga K x)) "__class__" = some (some (.builtin "object.__class__"))) &&
  (decide (PySem.W.specialIn K (.builtin "object.__class__") "__get__" = some (some (.builtin "getset_descriptor.__get__"))) && (decide (PySem.W.takesIn K (.builtin "object.__class__") = some true) && decide (PySem.W.mroIn K (He.ga K x) (.type "object") = some true)))))))
theorem isx_of {K : PySem.W.Frag} {x : Str} (h : isxB x K = true) : IsX K (He.ga K x) := by
  unfold isxB at h
  simp only [Bool.and_eq_true, decide_eq_true_eq] at h
  obtain ⟨h1, h2, h3, h4, h5, h6, h7, h8⟩ := h
  exact ⟨h1, h2, h3, h4, h5, h6, h7, h8⟩
end R
namespace PySem.W
open PySem PySem.Spec PySem.Calls PyProof.Rows
section
variable {prog : Program} {w : World} {A : Around} {E : Value → Shared → Prop} {s : Shared} {K : Frag} {x D : Addr} {ox : Obj} {od : Option Obj}
theorem r_findcls (T : R.IsX K D) : findObj K D od "__class__" = some (.bind (.builtin "getset_descriptor.__get__") (.builtin "object.__class__")) := by
  obtain ⟨cd, e1, _⟩ := any_some T.dct
  unfold findObj
  simp [e1, T.cl, T.gt, T.tk]
theorem r_readcls {Q : Option Value → Shared → Prop} (T : R.IsX K D) (X : K.In s.heap) (I : InstAt s.heap x ox D od) (h : Q (some (.ref D)) { s with toks := s.toks + 1 }) : wpAny (model prog w) A (getAttr? (.ref x) "__class__") Q E s := by
  obtain ⟨hp, gn, dr, tk, os⟩ := s
  have l0 := I.type (M := model prog w)
  have l1 := looks_findIn (M := model prog w) X T.ga
  have l2 := looks_findIn (M := model prog w) X T.gg
  have l3 := looks_find (M := model prog w) X I (r_findcls (od := od) T)
  have lsub : Looks (model prog w) hp (isInstance (.ref x) (.type "BaseException")) true := l0.andThen (looks_subIn X T.sub)
  have n1 : (Value.builtin "BaseException.__getattribute__" == Value.builtin "object.__getattribute__") = false := by decide +kernel
  have n2 : (onTheHeap (Value.ref D) && Value.builtin "BaseException.__getattribute__" == Value.builtin "object.__getattribute__") = false := by rw [n1]; rfl
  have n3 : (false && onTheHeap (Value.builtin "BaseException.__getattribute__")) = false := rfl
  unfold getAttr? getAttrBy? getAttrBy
  refine wpAny_bind (wpAny_mkText (wpAny_bind (wpAny_attempt (wpAny_holding (wpAny_bind (l0.at (wpAny_bind (l1.at ?_))))))))
  show wpAny _ _ (if (onTheHeap (Value.ref D) && Value.builtin "BaseException.__getattribute__" == Value.builtin "object.__getattribute__") = true then _ else _) _ _ _
  rw [n2, if_neg Bool.false_ne_true]
  unfold getAttrByItsOwn hookBefore
  refine wpAny_bind ?_
  rw [if_pos (show onTheHeap (Value.ref D) = true from rfl)]
  refine l2.at ?_
  refine wpAny_bind (wpAny_attempt (wpAny_holding ?_))
  unfold callGetattribute
  rw [n3, if_neg Bool.false_ne_true]
  unfold boundAndCalled
  rw [PySem.F.excAttr_ValueError.ga.bind (.ref x)]
  refine wpAny_bind (wpAny_pure ?_)
  show wpAny _ _ (call (.builtin "BaseException.__getattribute__") [.ref x, .str "__class__" tk]) _ _ _
  refine wpAny_call (codeAny_call_builtin PySem.F.excAttr_ValueError.ga.plain PySem.F.entry_bexc_ga ?_)
  refine @check_slot (model prog w) _ _ ⟨hp, gn, dr, tk + 1, os⟩ "BaseException.__getattribute__" "BaseException" "__getattribute__" (.ref x) [.str "__class__" tk] [] _ (by decide +kernel) (by decide +kernel) lsub (PySem.F.args_bexc_ga (.ref x) (.str "__class__" tk)) ?_
  unfold Builtin.«object.__getattribute__»
  refine wpAny_bind (wpAny_of_eq (a := ((Value.ref x : Value), [Value.str "__class__" tk])) (by first | rfl | (simp only [slotArgs]; rfl)) ?_)
  refine wpAny_bind (wpAny_pure (wpAny_bind (l0.at (wpAny_bind (l3.at ?_)))))
  show wpAny _ _ (holding [Value.builtin "object.__class__"] (call (.builtin "getset_descriptor.__get__") [.builtin "object.__class__", .ref x, .ref D]) >>= ret) _ _ _
  refine wpAny_bind (wpAny_holding (wpAny_call (class_get (s := ⟨hp, gn, dr, tk + 1, os⟩) (ox := ox) (od := od) X I T.mro ?_)))
  refine wpAny_pure ?_
  show wpAny _ _ (handedOut (.ref D)) _ _ _
  rw [handedOut_of (v := .ref D) rfl]
  first
    | exact wpAny_pure (wpAny_pure h)
    | exact wpAny_pure h
    | exact wpAny_pure (wpAny_bind (wpAny_pure (wpAny_pure h)))
theorem r_kit (T : R.IsX K D) : KitX K (.ref x) (.ref D) (fun hp => InstAt hp x ox D od) where
  ty := fun _ _ _ I => I.type
  it := fun _ _ X _ => by
    obtain ⟨cd, e1, _⟩ := any_some T.dct
    unfold clsIn at e1
    split at e1
    · rename_i _ _ _ _ at_
      intro A' Q' E' s' k q
      unfold isType loadHead
      exact wpAny_bind (wpAny_loadPart (k _ _ (X _ _ at_)) (wpAny_pure q))
    · cases e1
  ne := fun hp tp dd its n sl X at_tp => by
    obtain ⟨cd, e1, _⟩ := any_some T.dct
    refine Bool.eq_false_iff.mpr fun q => ?_
    obtain rfl : D = tp := Value.ref.inj (beq_iff_eq.mp q)
    unfold clsIn at e1
    split at e1
    · rename_i _ _ _ _ at_
      exact nomatch (X _ _ at_).symm.trans at_tp
    · cases e1
  ca := fun X I k => r_readcls T X I k
end
end PySem.W
namespace R
open PySem PySem.Spec PyProof.Rows L2
theorem callIsX {X : Cx} {a D : Addr} {oe : Obj} {d : Option Addr} {pn : List (Addr × Obj)} (T : IsX X.K D) (hz : Zc (.ref D) d oe) (hf : ∃ vs, oe.data = .fields vs) :
    CallR (X.suite a ((a, oe) :: pn)) (.builtin "isinstance") (fun xs H Q => ∃ fs, (∀ dd, d = some dd → H dd = some (.xd fs)) ∧ rIsE X.K D a xs H Q) := by
  intro pins s σ H xs us Q I r h
  obtain ⟨fs, hdd, c, cv, b, rfl, hcv, e, q⟩ := h
  cases r with
  | cons rx rr =>
    cases rr with
    | cons rt rr =>
      cases rr
      cases rx
      have ec := hcv _ rt
      subst ec
      obtain ⟨hget, _⟩ := I.pin (a, oe) (List.mem_append.mpr (.inl List.mem_cons_self))
      obtain ⟨vs, hv⟩ := hf
      have J : ∃ od, PySem.W.InstAt s.heap a oe D od := by
        obtain ⟨oc, dd, oda, osl⟩ := oe
        obtain ⟨h1, h2⟩ := hz
        dsimp only at h1 h2 hv
        subst h1 h2 hv
        cases dd with
        | none => exact ⟨none, hget, rfl, rfl, trivial⟩
        | some dx =>
          obtain ⟨mA, hns, _⟩ : ObjOk X.prog X.w H s.heap dx (.xd fs) := I.hok dx _ (hdd dx rfl)
          obtain ⟨o, _, _, ho, _⟩ := hns
          exact ⟨some o, hget, rfl, rfl, ho⟩
      obtain ⟨od, J⟩ := J
      exact PySem.W.kia_one (PySem.W.r_kit T) I.kIn J e (fun z => nomatch z) fun tk => ⟨.bl b, H, I.kept (t' := tk) fun _ _ z => z, rfl, q⟩
/-- isinstance(e, C), e the error that the suite holds: what is asked -/
def rIsXd (K : PySem.W.Frag) (D a : Addr) (d : Option Addr) : List V → Hp → VK → Prop := fun xs H Q => ∃ fs, (∀ dd, d = some dd → H dd = some (.xd fs)) ∧ rIsE K D a xs H Q
/-- what such a class is, its __init__ at fI, its field f -/
structure XIn (K : PySem.W.Frag) (C fI : Addr) (f : Str) : Prop where
  oex : OexC K C
  iC : PySem.W.findIn K (.ref C) "__init__" = some (some (.ref fI))
  tI : PySem.W.typeIn K (.ref fI) = some (.type "function")
  noF : PySem.W.findIn K (.ref C) f = some none
  xf : XfC K C
def xinB (x f : Str) : FB := fun K => oexB (He.ga K x) K && (decide (PySem.W.findIn K (.ref (He.ga K x)) "__init__" = some (some (.ref (He.ma K (He.ga K x) "__init__")))) && (decide (PySem.W.typeIn K (.ref (He.ma K (He.ga K x) "__init__")) = some (.type "function")) &&
  (decide (PySem.W.findIn K (.ref (He.ga K x)) f = some none) && xfB K (He.ga K x))))
theorem xin_of {K : PySem.W.Frag} {x f : Str} (h : xinB x f K = true) : XIn K (He.ga K x) (He.ma K (He.ga K x) "__init__") f := by
  unfold xinB at h
  simp only [Bool.and_eq_true, decide_eq_true_eq] at h
  obtain ⟨h1, h2, h3, h4, h5⟩ := h
  exact ⟨oex_of h1, h2, h3, h4, xfB_ok h5⟩
/-- __init__(self, v) of a class at C: the field is kept -/
def sp_init (K : PySem.W.Frag) (C : Addr) (f : Str) : Sp := fun vs H Q _ => ∃ (a : Addr) (v : V), vs = [.ref a, v] ∧ OexC K C ∧ PySem.W.findIn K (.ref C) f = some none ∧ H a = some (exo a C none) ∧
  ∀ dx, H dx = none → dx ≠ a → Q .non (upd (upd H dx (exd dx [(f, v)])) a (exo a C (some dx)))
theorem rd_init {K : PySem.W.Frag} {C : Addr} {f m : Str} {vs : List V} {H : Hp} {Q : VK} {E : XK} (h : sp_init K C f vs H Q E) :
    tSeq (tDrop (tVeI K (tCons (tVar 0) (tCons (tC (.str m)) tNil)))) (tOst K f (tVar 0) (tVar 1)) { nx := fun _ H' => Q .non H', rt := Q } (L2.start ["self", f] vs) H := by
  obtain ⟨a, v, rfl, T, hn, ha, k⟩ := h
  exact ⟨_, rfl, a, C, [.str m], rfl, by simp, T, ha, _, rfl, _, rfl, a, C, rfl, T, hn, .inl ⟨ha, fun dx h1 h2 => k dx h1 h2⟩⟩
section
variable {ta : TA} {σ : L2.St} {H : Hp} {QX : XK}
def RzP (C : Addr) (sp : Sp) (QX : XK) (vs : List V) (H1 : Hp) : Prop := vs.length ≤ 1000 ∧ ∀ a, H1 a = none → sp (.ref a :: (vs ++ [])) (upd H1 a (exo a C none))
  (fun v H2 => v = .non ∧ ∃ (d : Addr) (fs : List (Str × V)), H2 a = some (exo a C (some d)) ∧ H2 d = some (exd d fs) ∧ H1 d = none ∧ QX (.ref C) (some d) (upd (del H2 a) d (.xd fs))) (fun _ _ _ => False)
theorem s_mko {C : Addr} {sp : Sp} (h : ta σ H fun vs H1 => RzP C sp QX vs H1) : tMkO C sp [] ta σ H QX := h
theorem s_raise {K : PySem.W.Frag} {C : Addr} {f : Str} {v : V} (T : OexC K C) (hn : PySem.W.findIn K (.ref C) f = some none) (k : ∀ d H', H d = none → H' d = some (.xd [(f, v)]) → Same H H' → QX (.ref C) (some d) H') : RzP C (sp_init K C f) QX [v] H := by
  refine ⟨by simp, fun a ha => ⟨a, v, rfl, T, hn, upd_same, fun dx hdx hne => ⟨rfl, dx, [(f, v)], upd_same, ?_, ?_, ?_⟩⟩⟩
  · rw [upd_ne hne, upd_same]
  · rw [upd_ne hne] at hdx; exact hdx
  · rw [upd_ne hne] at hdx
    refine k dx _ hdx upd_same fun b o e => ?_
    have n1 : b ≠ dx := ne_of_none e hdx
    have n2 : b ≠ a := ne_of_none e ha
    rw [upd_ne n1, del_ne n2, upd_ne n2, upd_ne n1, upd_ne n2]
    exact e
end
/-! own exceptions without fields; isinstance of a caught error of any own class -/
section
variable {X : Cx} {C : Addr} {bmB : List Value} {B newId initId : String}
/-- X() -/
theorem pmk_own0 {x : Str} {p pos : Pos} (F : ExcBaseFacts B newId initId bmB) (q : PySem.W.excIn X.K C bmB newId = true) (gC : X.mg x = some (.ref C)) (kC : PySem.W.keepIn X.K (.ref C) = true) (r : Raises X (.ref C)) (hg : Gl X x)
    (hdb : (x == ("__debug__" : Str)) = false := by decide) : PMk X (.Call (.Name x p) [] [] pos) (fun _ H Q => Q (.ref C) none H) := by
  intro pins s σ H Q I h
  refine wpAny_Call_Name_kw (ld_glob I hg gC ?_ hdb)
  refine PySem.W.callWith_K0 I.kIn kC ?_
  obtain ⟨bm, N, nm, qn, bs, hdct, sn, sub, ab, col, dd, k0, k1, k2, k3, k5, mN, hC, hN, hni, T⟩ := exc_obj I.kIn q
  refine wpAny_call_exc_subT F T hC hN hni (fun h' e hm => ?_) (Nat.zero_le _)
  exact mk_of I hm r h (I.hok.gone hm.new)
end
def tRz (C : Addr) : L2.St → Hp → XK → Prop := fun _ H Q => Q (.ref C) none H
theorem s_rz {C : Addr} {σ : L2.St} {H : Hp} {Q : XK} (h : Q (.ref C) none H) : tRz C σ H Q := h
/-- a class without fields, raised -/
structure Exc0 (K : PySem.W.Frag) (C : Addr) : Prop where
  ex : PySem.W.excIn K C He.veBase "ValueError.__new__" = true
  kp : PySem.W.keepIn K (.ref C) = true
  sb : PySem.W.subIn K (.ref C) (.type "BaseException") = some true
  ty : PySem.W.typeIn K (.ref C) = some (.type "type")
theorem exc0_of {K : PySem.W.Frag} {x : Str} (c : (He.Fa.exc x).ok K = true) : Exc0 K (He.ga K x) := by
  obtain ⟨h1, h2, h3, h4⟩ := He.exc_ok c
  exact ⟨h1, h2, h3, h4⟩
theorem pmk_z {X : Cx} {C : Addr} {x : Str} {p pos : Pos} (F : Exc0 X.K C) (gC : X.mg x = some (.ref C)) (hg : Gl X x) (hdb : (x == ("__debug__" : Str)) = false := by decide) : PMk X (.Call (.Name x p) [] [] pos) (tRz C) :=
  pmk_own0 PySem.F.excBase_ValueError F.ex gC F.kp (raises_own F.sb F.ty) hg hdb
theorem pmk_zs {X : Cx} {C : Addr} {x m : Str} {j : Nat} {p p2 pos : Pos} (F : Exc0 X.K C) (gC : X.mg x = some (.ref C)) (hg : Gl X x) (hdb : (x == ("__debug__" : Str)) = false := by decide) : PMk X (.Call (.Name x p) [.Constant (.str m) j p2] [] pos) (tRz C) :=
  L2.pmk_own PySem.F.excBase_ValueError F.ex gC F.kp (raises_own F.sb F.ty) hg hdb
def kitcB (x y : Str) (b : Bool) : FB := fun K => decide (PySem.W.kitOne K (.ref (He.ga K x)) (.ref (He.ga K y)) = some b)
def kittB (x : Str) (y : String) (b : Bool) : FB := fun K => decide (PySem.W.kitOne K (.ref (He.ga K x)) (.type y) = some b)
theorem kitc_of {K : PySem.W.Frag} {x y : Str} {b : Bool} (h : kitcB x y b K = true) : PySem.W.kitOne K (.ref (He.ga K x)) (.ref (He.ga K y)) = some b := of_decide_eq_true h
theorem kitt_of {K : PySem.W.Frag} {x : Str} {y : String} {b : Bool} (h : kittB x y b K = true) : PySem.W.kitOne K (.ref (He.ga K x)) (.type y) = some b := of_decide_eq_true h
/-- isinstance(e, c) in an except suite, the class of e told in the reading -/
def rIsA (K : PySem.W.Frag) (cls : Value) (d : Option Addr) (a : Addr) : List V → Hp → VK → Prop := fun xs H Q => ∃ D, cls = .ref D ∧ IsX K D ∧ ∃ fs, (∀ dd, d = some dd → H dd = some (.xd fs)) ∧
  ∃ (c : V) (cv : Value) (b : Bool), xs = [.ref a, c] ∧ ClsV c cv ∧ PySem.W.kitOne K (.ref D) cv = some b ∧ Q (.bl b) H
def rIsAT (K : PySem.W.Frag) (cls : Value) (d : Option Addr) (a : Addr) : List V → Hp → VK → Prop := fun xs H Q => ∃ D, cls = .ref D ∧ IsX K D ∧ ∃ fs, (∀ dd, d = some dd → H dd = some (.xd fs)) ∧
  ∃ (tp : Addr) (cs : List V) (us : List Value) (b : Bool), xs = [.ref a, .ref tp] ∧ H tp = some (.tup cs) ∧ Paired ClsV cs us ∧ PySem.W.kitAny K (.ref D) us = some b ∧ Q (.bl b) H
section
variable {X : Cx} {a : Addr} {cls : Value} {oe : Obj} {d : Option Addr} {pn : List (Addr × Obj)}
theorem inst_of {D : Addr} {pins : List (Addr × Obj)} {σ : L2.St} {H : Hp} {s : Shared} {fs : List (Str × V)} (I : Inv (X.suite a ((a, oe) :: pn)) pins σ H s) (hz : Zc (.ref D) d oe) (hf : ∃ vs, oe.data = .fields vs) (hdd : ∀ dd, d = some dd → H dd = some (.xd fs)) : ∃ od, PySem.W.InstAt s.heap a oe D od := by
  obtain ⟨hget, _⟩ := I.pin (a, oe) (List.mem_append.mpr (.inl List.mem_cons_self))
  obtain ⟨vs, hv⟩ := hf
  obtain ⟨oc, dd, oda, osl⟩ := oe
  obtain ⟨h1, h2⟩ := hz
  dsimp only at h1 h2 hv
  subst h1 h2 hv
  cases dd with
  | none => exact ⟨none, hget, rfl, rfl, trivial⟩
  | some dx =>
    obtain ⟨mA, hns, _⟩ : ObjOk X.prog X.w H s.heap dx (.xd fs) := I.hok dx _ (hdd dx rfl)
    obtain ⟨o, _, _, ho, _⟩ := hns
    exact ⟨some o, hget, rfl, rfl, ho⟩
theorem callIsA (hz : Zc cls d oe) (hf : ∃ vs, oe.data = .fields vs) : CallR (X.suite a ((a, oe) :: pn)) (.builtin "isinstance") (rIsA X.K cls d a) := by
  intro pins s σ H xs us Q I r h
  obtain ⟨D, rfl, T, fs, hdd, c, cv, b, rfl, hcv, e, q⟩ := h
  obtain ⟨u1, u2, rfl, r1, r2⟩ := vals2 r
  cases (show u1 = Value.ref a from r1)
  have ec := hcv.eq r2
  subst ec
  obtain ⟨od, J⟩ := inst_of I hz hf hdd
  exact PySem.W.kia_one (PySem.W.r_kit T) I.kIn J e (fun z => nomatch z) fun tk => ⟨.bl b, H, I.kept (t' := tk) fun _ _ z => z, rfl, q⟩
theorem callIsAT (hz : Zc cls d oe) (hf : ∃ vs, oe.data = .fields vs) : CallR (X.suite a ((a, oe) :: pn)) (.builtin "isinstance") (rIsAT X.K cls d a) := by
  intro pins s σ H xs us Q I r h
  obtain ⟨D, rfl, T, fs, hdd, tp, cs, ws, b, rfl, hT, k, e, q⟩ := h
  obtain ⟨u1, u2, rfl, r1, r2⟩ := vals2 r
  cases (show u1 = Value.ref a from r1)
  cases (show u2 = Value.ref tp from r2)
  obtain ⟨od, J⟩ := inst_of I hz hf hdd
  obtain ⟨_, its, rv, o, h1, h2, n, h3⟩ := (show ObjOk X.prog X.w H s.heap tp (.tup cs) from I.hok tp _ hT)
  have e3 := ClsV.all k rv
  subst e3
  obtain ⟨oc, od', dt, sl⟩ := o
  simp only at h2 h3
  subst h2 h3
  exact PySem.W.kia_tup (PySem.W.r_kit T) I.kIn J h1 e (fun z => nomatch z) fun tk => ⟨.bl b, H, I.kept (t' := tk) fun _ _ z => z, rfl, q⟩
end
section
variable {K : PySem.W.Frag} {a D : Addr} {d : Option Addr} {H : Hp} {Q : VK} {fs : List (Str × V)} {b b1 b2 : Bool}
theorem s_isA {c : V} {cv : Value} (T : IsX K D) (hd : ∀ dd, d = some dd → H dd = some (.xd fs)) (hc : ClsV c cv) (e : PySem.W.kitOne K (.ref D) cv = some b) (h : Q (.bl b) H) : rIsA K (.ref D) d a [.ref a, c] H Q := ⟨D, rfl, T, fs, hd, c, cv, b, rfl, hc, e, h⟩
theorem s_isA0 {c : V} {cv : Value} (T : IsX K D) (hc : ClsV c cv) (e : PySem.W.kitOne K (.ref D) cv = some b) (h : Q (.bl b) H) : rIsA K (.ref D) none a [.ref a, c] H Q := s_isA (fs := []) T (fun _ z => nomatch z) hc e h
theorem s_isAT2 {tp : Addr} {c1 c2 : V} {v1 v2 : Value} (T : IsX K D) (hd : ∀ dd, d = some dd → H dd = some (.xd fs)) (ht : H tp = some (.tup [c1, c2])) (h1 : ClsV c1 v1) (h2 : ClsV c2 v2) (e1 : PySem.W.kitOne K (.ref D) v1 = some b1) (e2 : PySem.W.kitOne K (.ref D) v2 = some b2)
    (h : Q (.bl (b1 || b2)) H) : rIsAT K (.ref D) d a [.ref a, .ref tp] H Q :=
  ⟨D, rfl, T, fs, hd, tp, _, [v1, v2], b1 || b2, rfl, ht, .cons h1 (.cons h2 .nil), kitAny_cons e1 (fun q => kitAny_cons e2 (fun q2 => by rw [q, q2]; exact kitAny_nil) (fun q2 => by rw [q2]; simp)) (fun q => by rw [q]; rfl), h⟩
theorem s_isAT20 {tp : Addr} {c1 c2 : V} {v1 v2 : Value} (T : IsX K D) (ht : H tp = some (.tup [c1, c2])) (h1 : ClsV c1 v1) (h2 : ClsV c2 v2) (e1 : PySem.W.kitOne K (.ref D) v1 = some b1) (e2 : PySem.W.kitOne K (.ref D) v2 = some b2)
    (h : Q (.bl (b1 || b2)) H) : rIsAT K (.ref D) none a [.ref a, .ref tp] H Q := s_isAT2 (fs := []) T (fun _ z => nomatch z) ht h1 h2 e1 e2 h
end
/-! zip of two tuples, walked -/
theorem walk_zipT {K : PySem.W.Frag} {a b : Addr} {xs ys : List V} {n : Nat} (hn : n = min xs.length ys.length) : Walk (RZ.ItzT K a b) n (fun H => SqT K H a xs ∧ SqT K H b ys) (YPair (fun i => xs[i]?) (fun i => ys[i]?)) := by
  subst hn
  refine ⟨fun i _ hi q => ?_, fun _ q => ⟨xs, ys, q.1, q.2, by omega⟩, fun i H v H' _ q y => ?_⟩
  · have h1 : i < xs.length := by omega
    have h2 : i < ys.length := by omega
    exact ⟨xs, ys, xs[i], ys[i], q.1, q.2, by simp [h1], by simp [h2]⟩
  · obtain ⟨T, x, z, h1, h2, h3, h4, h5⟩ := y
    exact ⟨T, x, z, h1, h2, h3, h4 xs q.1, h5 ys q.2⟩
def ZipQ (K : PySem.W.Frag) (R : It → Hp → Prop) (vs : List V) (H1 : Hp) : Prop := ∃ a b xs ys, vs = [.ref a, .ref b] ∧ ((SqL K H1 a xs ∧ SqL K H1 b ys ∧ R (Itz K a b) H1) ∨ (SqT K H1 a xs ∧ SqT K H1 b ys ∧ R (RZ.ItzT K a b) H1))
theorem s_izip {K : PySem.W.Frag} {ta : TA} {σ : L2.St} {H : Hp} {R : It → Hp → Prop} (h : ta σ H fun vs H1 => ZipQ K R vs H1) : RZ.iZipA K ta σ H R := h
theorem s_gunl {K : PySem.W.Frag} {n : Nat} {t : TGs} {p : Addr} {xs : List V} {σ : L2.St} {H : Hp} {QS : L2.St → Hp → Prop} (h1 : SqL K H p xs) (h2 : xs.length = n) (h : t xs σ H QS) : L2.gUnl K n t (.ref p) σ H QS := ⟨p, xs, rfl, h1, h2, h⟩
/-! dicts with tuple keys: pop of a key that is there; fields; makings -/
def rPop1T : V → List V → Hp → VK → Prop := fun x xs H Q => ∃ (a : Addr) (kvs : List (List L2.Key × V)) (k : List L2.Key) (b : Addr) (v : V), x = .ref a ∧ xs = [.ref b] ∧ H a = some (.dT kvs) ∧ H b = some (.tup (k.map kV)) ∧ valV kvs k = some v ∧ Q v (upd H a (.dT (dropK kvs k)))
theorem mt_pop1T {X : Cx} (hu : X.A.units + 1 < cLine) : MtR X "dict.pop" rPop1T := by
  intro pins s σ H x xs v us Q I rx rxs h
  obtain ⟨a, kvs, k, b, v0, rfl, rfl, ha, hb, ev, q⟩ := h
  cases rx
  obtain ⟨u1, rfl, r1⟩ := vals1 rxs
  cases r1
  obtain ⟨z, hd, xs', rel, dd⟩ := dt_of I.hok ha
  have hz : xs'.length ≤ sizeLine := by rw [← Paired.length rel]; exact z
  have r := rel.val k
  rw [ev] at r
  obtain ⟨p, hp, rv⟩ : ∃ p, atKey xs' k = some p ∧ RelV v0 p.2 := by
    cases e : atKey xs' k with
    | none => rw [e] at r; exact r.elim
    | some p => rw [e] at r; exact ⟨p, rfl, r⟩
  refine call_pop_heap (knd := tupleKind (mixKind X.prog X.w)) (k := k) (more := []) (.inl rfl) (PySem.F.args_dict_pop_2 _ _) (tupleKind_room_in1 hu) (key_of I.hok hb) hd dd hp (fun h' dd' hs => ?_) hz
  obtain ⟨o, es, ep, hq, h2, h3, h4, _, h5⟩ := dd'
  have rel' : KT (upd H a (.dT (dropK kvs k))) (dropK kvs k) (withoutH xs' k) := (L2.DX.KT_drop k rel).keeps fun c ys ec => by rw [upd_ne (ne_of ec ha fun z => nomatch z)]; exact ec
  have I2 := d_write (t' := s.toks + (tupleKind (mixKind X.prog X.w)).draws k) (ob := .dT (dropK kvs k)) I (by rw [ha]; exact True.intro) hs ⟨o, hq⟩ (show ObjOk X.prog X.w (upd H a (.dT (dropK kvs k))) h' a (.dT (dropK kvs k)) from ⟨Nat.le_trans (dropK_le kvs k) z, hd, _, rel', o, es, ep, hq, h2, h3, h4, h5⟩)
  exact ⟨v0, _, I2, rv, q⟩
section
variable {K : PySem.W.Frag} {te tv : TE} {ta : TA} {f m : Str} {σ : L2.St} {H : Hp} {Q : VK} {D : Ends} {a C dx : Addr} {fs : List (Str × V)} {v y : V} {sp : Sp} {E : XK}
def FldQ (K : PySem.W.Frag) (f : Str) (Q : VK) (x : V) (H1 : Hp) : Prop := ∃ a C dx fs v, x = .ref a ∧ H1 a = some (.ins C dx fs) ∧ Cls K C ∧ NoAttr K C f ∧ fs.lookup f = some v ∧ Q v H1
theorem s_fld (h : te σ H fun x H1 => FldQ K f Q x H1) : tFld K te f σ H Q := h
theorem mkFld (ha : H a = some (.ins C dx fs)) (c : Cls K C) (n : NoAttr K C f) (l : fs.lookup f = some v) (h : Q v H) : FldQ K f Q (.ref a) H := ⟨a, C, dx, fs, v, rfl, ha, c, n, l, h⟩
def SFldQ (K : PySem.W.Frag) (f : Str) (P : Hp → Prop) (y x : V) (H2 : Hp) : Prop := ∃ a C dx fs, x = .ref a ∧ H2 a = some (.ins C dx fs) ∧ Cls K C ∧ NoAttr K C f ∧ fs.length < 1000 ∧ P (upd H2 a (.ins C dx (putF f y fs)))
theorem s_sfld (h : tv σ H fun y H1 => te σ H1 fun x H2 => SFldQ K f (D.nx σ) y x H2) : sFld K te tv f D σ H := h
theorem mkSFld {P : Hp → Prop} (ha : H a = some (.ins C dx fs)) (c : Cls K C) (n : NoAttr K C f) (l : fs.length < 1000) (h : P (upd H a (.ins C dx (putF f y fs)))) : SFldQ K f P y (.ref a) H := ⟨a, C, dx, fs, rfl, ha, c, n, l, h⟩
def MethQ (C : Addr) (m : Str) (sp : Sp) (E : XK) (ta : TA) (σ : L2.St) (Q : VK) (x : V) (H1 : Hp) : Prop := ∃ a dx fs, x = .ref a ∧ H1 a = some (.ins C dx fs) ∧ fs.lookup m = none ∧ ta σ H1 fun vs H2 => sp (x :: (vs ++ [])) H2 Q E
theorem s_meth (h : te σ H fun x H1 => MethQ C m sp E ta σ Q x H1) : tMeth C m sp [] E te ta σ H Q := h
theorem mkMeth (ha : H a = some (.ins C dx fs)) (l : fs.lookup m = none) (h : ta σ H fun vs H2 => sp (.ref a :: (vs ++ [])) H2 Q E) : MethQ C m sp E ta σ Q (.ref a) H := ⟨a, dx, fs, rfl, ha, l, h⟩
def MakeQ (C : Addr) (sp : Sp) (E : XK) (Q : VK) (vs : List V) (H1 : Hp) : Prop := ∀ x dx, H1 x = none → H1 dx = none → dx ≠ x → sp (.ref x :: (vs ++ [])) (upd (upd H1 dx (.own x)) x (.ins C dx [])) (fun v H2 => v = .non ∧ Q (.ref x) H2) E
theorem s_make (h : ta σ H fun vs H1 => MakeQ C sp E Q vs H1) : tMake C sp [] E ta σ H Q := h
theorem s_dnewT (h : ∀ p H', H p = none → H' p = some (.dT []) → Same H H' → Q (.ref p) H') : tDNewT σ H Q := fun p hp => h p _ hp upd_same (same_upd hp)
theorem s_lenD {kvs : List (L2.Key × V)} (hd : H a = some (.dK kvs)) (h : Q (.int kvs.length) H) : ∃ a' kvs', [V.ref a] = [V.ref a'] ∧ H a' = some (.dK kvs') ∧ Q (.int kvs'.length) H := ⟨a, kvs, rfl, hd, h⟩
def DInQ (Q : VK) (y x : V) (H2 : Hp) : Prop := ∃ a o, x = .ref a ∧ DGet H2 a y o ∧ Q (.bl o.isSome) H2
theorem s_din {ty td : TE} (h : ty σ H fun y H1 => td σ H1 fun x H2 => DInQ Q y x H2) : tDIn ty td σ H Q := h
def DNotInQ (Q : VK) (y x : V) (H2 : Hp) : Prop := ∃ a o, x = .ref a ∧ DGet H2 a y o ∧ Q (.bl (!o.isSome)) H2
theorem s_dnotin {ty td : TE} (h : ty σ H fun y H1 => td σ H1 fun x H2 => DNotInQ Q y x H2) : tDNotIn ty td σ H Q := h
end
end R
/-! the walk of a reading, as far as nothing is asked -/
local macro_rules | `(tactic| walk_at "g1") => `(tactic| first
  | with_reducible refine R.s_seq ?_
  | with_reducible refine R.s_asg ?_
  | ((with_reducible apply R.s_var); focus rfl)
  | with_reducible refine R.s_gname ?_
  | with_reducible refine R.s_op ?_
  | with_reducible refine R.s_c ?_
  | with_reducible refine R.s_cons ?_
  | with_reducible refine R.s_nil ?_
  | with_reducible refine R.s_i0 ?_
  | with_reducible refine R.s_p10_60 ?_
  | with_reducible refine R.s_p10_18 ?_
  | with_reducible refine R.s_p10_8 ?_
  | with_reducible refine R.s_p10_9 ?_
  | with_reducible refine R.s_p10_59 ?_
  | with_reducible refine R.s_p10_6 ?_
  | with_reducible refine R.s_p10_5 ?_
  | with_reducible refine R.s_p10_4 ?_
  | with_reducible refine R.s_p10_12 ?_
  | with_reducible refine R.s_p10_29 ?_
  | with_reducible refine R.s_p10_30 ?_
  | with_reducible refine R.s_p10_39 ?_
  | with_reducible refine R.s_p10_40 ?_
  | with_reducible refine R.s_p10_49 ?_
  | with_reducible refine R.s_p10_50 ?_
  | with_reducible refine R.s_p10_51 ?_
  | with_reducible refine R.s_p10_58 ?_
  | ((with_reducible refine R.s_pow7 ?_ ?_); focus omega)
  | ((with_reducible refine R.s_i ?_ ?_); focus (first | decide | exact R.mulW (by omega) (by omega) | exact R.divW (by decide) (by decide)))
  | with_reducible refine R.s_test ?_
  | with_reducible refine R.s_bl ?_
  | with_reducible refine R.s_ret ?_
  | with_reducible refine R.s_next ?_
  | with_reducible refine R.s_drop ?_
  | with_reducible refine R.s_un ?_
  | with_reducible refine R.s_u ?_
  | with_reducible refine R.s_tB ?_
  | with_reducible refine R.s_andc ?_
  | with_reducible refine R.s_orc ?_
  | with_reducible refine R.s_notc ?_
  | with_reducible refine R.s_andv ?_
  | with_reducible refine R.s_orv ?_
  | with_reducible refine R.s_notv ?_
  | with_reducible refine R.s_ifx ?_
  | with_reducible refine R.s_eqI ?_
  | with_reducible refine R.s_neI ?_
  | with_reducible refine R.s_eqB ?_
  | with_reducible refine R.s_eqS ?_
  | with_reducible refine R.s_neS ?_
  | with_reducible refine R.s_neB ?_
  | with_reducible refine R.s_tup ?_
  | with_reducible refine R.s_lst ?_
  | with_reducible refine R.s_par ?_
  | with_reducible refine R.s_par_ ?_
  | with_reducible refine R.s_par3 ?_
  | with_reducible refine R.s_par3_ ?_
  | with_reducible refine R.s_cb ?_
  | with_reducible refine R.s_call ?_
  | with_reducible refine R.s_turn ?_
  | with_reducible refine R.s_isi_ii ?_
  | with_reducible refine R.s_isi_ib ?_
  | with_reducible refine R.s_bm ?_
  | with_reducible refine R.s_intB ?_
  | with_reducible refine R.s_rng1 ?_
  | with_reducible refine R.s_rng2 ?_
  | with_reducible refine R.s_dget ?_
  | with_reducible refine R.s_gsub ?_
  | with_reducible refine R.s_pc ?_
  | with_reducible refine R.s_pn ?_
  | with_reducible refine R.s_dput ?_
  | with_reducible refine R.s_isN ?_
  | with_reducible refine R.s_isNi ?_
  | with_reducible refine R.s_isNr ?_
  | with_reducible refine R.s_isNb ?_
  | with_reducible refine R.s_bm0 ?_
  | with_reducible refine R.s_lrg2 ?_
  | with_reducible refine R.s_notN ?_
  | with_reducible refine R.s_notNi ?_
  | with_reducible refine R.s_notNr ?_
  | with_reducible refine R.s_chain ?_
  | with_reducible refine R.s_callS ?_
  | with_reducible refine R.s_mko ?_
  | with_reducible refine R.s_rz ?_
  | with_reducible refine R.s_izip ?_
  | with_reducible refine R.s_sl ?_
  | with_reducible refine R.s_nopart ?_
  | with_reducible refine R.s_part ?_
  | with_reducible refine R.s_int_ ?_
  | with_reducible refine R.s_ilist ?_
  | with_reducible refine R.s_itup ?_
  | with_reducible refine R.s_ref_ ?_
  | with_reducible refine R.s_for ?_
  | with_reducible refine R.s_yes ?_
  | with_reducible refine R.s_gcons ?_
  | with_reducible refine R.s_gnil ?_
  | with_reducible refine R.s_abs ?_
  | with_reducible refine R.s_max ?_
  | with_reducible refine R.s_min ?_
  | with_reducible refine R.s_iteT ?_
  | with_reducible refine R.s_iteF ?_
  | with_reducible refine R.s_iteNT ?_
  | with_reducible refine R.s_iteNF ?_
  | ((with_reducible refine R.s_itnP ?_ ?_); focus (with_reducible rfl))
  | ((with_reducible refine R.s_itP ?_ ?_); focus (with_reducible rfl)))
local macro_rules | `(tactic| walk_at "g") => `(tactic| repeat (first | walk_at "g1" | with_reducible refine R.s_if ?_))
local macro_rules | `(tactic| walk_at "c") => `(tactic| repeat (first
  | with_reducible refine R.s_bl ?_
  | with_reducible refine R.s_test ?_
  | with_reducible refine R.s_iteT ?_
  | with_reducible refine R.s_iteF ?_
  | with_reducible refine R.s_iteNT ?_
  | with_reducible refine R.s_iteNF ?_
  | with_reducible refine R.s_if ?_
  | with_reducible refine R.s_next ?_
  | with_reducible refine R.s_gname ?_
  | with_reducible refine R.s_seq ?_))
local macro_rules | `(tactic| walk_at "h") => `(tactic| repeat (walk_at "g1"))
local macro_rules | `(tactic| walk_at "g2") => `(tactic| first
  | with_reducible refine R.s_fld ?_
  | with_reducible refine R.s_sfld ?_
  | with_reducible refine R.s_meth ?_
  | with_reducible refine R.s_make ?_
  | with_reducible refine R.s_din ?_
  | with_reducible refine R.s_dnotin ?_)
local macro_rules | `(tactic| walk_at "G") => `(tactic| repeat (first | walk_at "g1" | walk_at "g2" | with_reducible refine R.s_if ?_))
local macro_rules | `(tactic| walk_at "J") => `(tactic| repeat (first | walk_at "g1" | walk_at "g2"))

/-! several except clauses, some with a name -/
namespace R
open PySem PySem.Spec PyProof.Rows L2
def asEnds (i : Nat) (D : Ends) : Ends := { nx := fun σ' H' => D.nx (σ'.set i none) H', rt := D.rt, bk := fun σ' H' => D.bk (σ'.set i none) H', ct := fun σ' H' => D.ct (σ'.set i none) H' }
def asTs (i : Nat) (ts : Addr → Value → Option Addr → TS) : Addr → Value → Option Addr → TS := fun a cls d D σ H => ts a cls d (asEnds i D) (σ.set i (some (.ref a))) H
inductive HdsN (X : Cx) : List ExceptHandler → List (Value × (Addr → Value → Option Addr → TS)) → Prop
  | nil : HdsN X [] []
  | bare {x : Str} {c : Value} {ts : Addr → Value → Option Addr → TS} {b₀ : Stmt} {suite : List Stmt} {np pos' : Pos} {hds : List ExceptHandler} {l : List (Value × (Addr → Value → Option Addr → TS))} (hc : Names X x c)
      (hsu : ∀ (a : Addr) (oe : Obj) (cls : Value) (d : Option Addr) (pn : List (Addr × Obj)), Zc cls d oe → (∃ vs, oe.data = .fields vs) → PSs (X.suite a ((a, oe) :: pn)) (b₀ :: suite) (ts a cls d)) (r : HdsN X hds l) :
      HdsN X (.ExceptHandler (some (.Name x np)) none (b₀ :: suite) pos' :: hds) ((c, ts) :: l)
  | named {x n : Str} {i : Nat} {c : Value} {ts : Addr → Value → Option Addr → TS} {b₀ : Stmt} {suite : List Stmt} {np pos' : Pos} {hds : List ExceptHandler} {l : List (Value × (Addr → Value → Option Addr → TS))} (hN : X.N.Nodup) (hi : X.N[i]? = some n) (hln : X.env.kindOf n = some .local) (hc : Names X x c)
      (hsu : ∀ (a : Addr) (oe : Obj) (cls : Value) (d : Option Addr) (pn : List (Addr × Obj)), Zc cls d oe → (∃ vs, oe.data = .fields vs) → PSs (X.suite a ((a, oe) :: pn)) (b₀ :: suite) (ts a cls d)) (r : HdsN X hds l) :
      HdsN X (.ExceptHandler (some (.Name x np)) (some n) (b₀ :: suite) pos' :: hds) ((c, asTs i ts) :: l)
section
variable {X : Cx} {body : List Stmt} {h₀ : ExceptHandler} {hds : List ExceptHandler} {l : List (Value × (Addr → Value → Option Addr → TS))} {pos : Pos} {tb : WX → TS} {Wout : WX}
theorem ps_try_mix (hs : X.stack = X.env :: X.outer) (hf : X.env.frame = some X.env.locals) (tk : Takes X Wout)
    (hb : ∀ (W : WX) (pn : List (Addr × Obj)) (xe : Value → Shared → Prop), Takes (X.tr pn xe) W → PassesOwn (model X.prog X.w) X.A X.env xe → PSs (X.tr pn xe) body (tb W))
    (hh : HdsN X (h₀ :: hds) l) : PS X (.Try body (h₀ :: hds) [] [] pos) (fun D σ H => tb (wMany X.K Wout D l) D σ H) := by
  refine ⟨fun pins s σ H D I h => ?_⟩
  have ok := I.ok
  have hfr : X.A.frames = some (X.env :: X.outer) := by rw [ok.frames, hs]
  refine wpAny_Try_except ?_
  refine wpAny_mono ((hb (wMany X.K Wout D l) (X.pn ++ pins) (fun e s₁ => wpAny (model X.prog X.w) X.A (noteFrame e X.env) (fun _ s₂ => wpAny (model X.prog X.w) X.A (setFlight e none) (fun _ s₃ =>
    wpAny (model X.prog X.w) X.A (handleBy e X.env (h₀ :: hds)) (SP X pins D) X.xe s₃) X.xe s₂) X.xe s₁) (fun u s' xx => ?_) PassesOwn.looking).run [] s σ H D (I.toTry _) h) (fun f s1 hsp => ?_) (fun e s1 he => he)
  · -- the catch
    obtain ⟨a, B, sI, pins', σ', H', cls, d, rfl, J', nb, up, sky, na, os, ag, w⟩ := xx
    have J : Inv X pins σ' H' sI := J'.ofTry ok
    have sky' : Sky B (X.env :: X.outer) a (Zc cls d) X.env.locals s'.heap := by rw [← hs]; exact sky
    show wpAny (model X.prog X.w) X.A (noteFrame (.ref a) X.env) _ _ _
    refine Sky.land Zc.steady hfr hf sky' fun h3 fl3 up3 => ?_
    have J3 : Inv X pins σ' H' { s' with heap := h3 } := J.landed nb fl3.1 (up.trans up3) os ag
    obtain ⟨oe3, vs3, he3, hz3, hd3⟩ := fl3.there
    have notFr : ∀ {h : Heap} {o : Obj} {vs : Array Value}, h.FunFrames B (X.env :: X.outer) → h.get? a = some o → o.data = .fields vs → a ∉ frs (X.env :: X.outer) := fun {h o vs} ff e dd hm => by
      obtain ⟨_, o', e', hnf⟩ := ff.mem hm
      rw [e] at e'; cases e'
      exact hnf _ dd
    have nfr := notFr fl3.2.2.1 he3 hd3
    have nL : a ≠ X.env.locals := fun z => nfr (List.mem_filterMap.mpr ⟨X.env, List.mem_cons_self, by rw [hf, z]⟩)
    have nF : a ∉ X.fs := fun hm => by
      obtain ⟨e, he, q⟩ := List.mem_filterMap.mp hm
      exact nfr (List.mem_filterMap.mpr ⟨e, List.mem_cons_of_mem _ he, q⟩)
    have S3 := J3.suite he3 hd3 na nL nF
    have go : ∀ {hds' : List ExceptHandler} {l' : List (Value × (Addr → Value → Option Addr → TS))}, HdsN X hds' l' → wMany X.K Wout D l' cls d σ' H' →
        wpAny (model X.prog X.w) X.A (handleBy (.ref a) X.env hds') (SP X pins D) X.xe { s' with heap := h3 } := by
      intro hds' l' hk
      induction hk with
      | nil =>
        intro w
        refine wpAny_handleBy_nil ?_
        obtain ⟨k1, k2, k3, oe, vs, T, oT, ts', he, hz, hd, h1, hr⟩ := id fl3
        unfold PySem.passOn
        refine wpAny_bind (wpAny_field he hd h1 ?_)
        rw [if_neg (show ¬ ((Value.ref T == Value.none) = true) from by simp)]
        have fin : wpAny (model X.prog X.w) X.A (setFlight (.ref a) X.env.frame) (fun _ s4 => wpAny (model X.prog X.w) X.A (throw (.ref a) : Sem Flow) (SP X pins D) X.xe s4) X.xe { s' with heap := h3 } := by
          rw [hf]
          refine HandSPX.setFlight_upZ fl3 fun h4 hh4 up4 => wpAny_throw (tk _ _ ?_)
          exact ⟨a, B, sI, pins, σ', H', cls, d, rfl, J, nb, (up.trans up3).trans up4, .inr (.inr (by rw [hs]; exact hh4)), na, os, ag, w⟩
        first
          | exact wpAny_bind (wpAny_pure (wpAny_bind fin))
          | exact wpAny_bind fin
      | @bare x c ts b₀ suite np pos' hds2 l2 hc hsu r ih =>
        intro w
        obtain ⟨b, hb1, hyes, hno⟩ := w
        refine wpAny_handleBy_cons (codeAny_handlers_test ?_) (by intro q; cases q)
        have LT : PySem.W.Looks (model X.prog X.w) h3 (typeOf (.ref a)) cls := fun A Q E s k q => wpAny_typeOf_ref (k _ _ he3) (by rw [hz3.1]; exact q)
        have LM := PySem.W.exm_one (M := model X.prog X.w) (J3.kIn) LT hb1
        have test : ∀ {Q : Value → Shared → Prop} {E : Value → Shared → Prop}, Q c { s' with heap := h3 } → wpAny (model X.prog X.w) (X.A.mark (some (.ref a))) (eval (.Name x np) X.env) Q E { s' with heap := h3 } := fun {Q E} q => by
          obtain ⟨hg, hdbg, hm | ⟨hm, hv, hnn⟩⟩ := hc
          · exact ld_glob (X := X.suite a ((a, oe3) :: (X.pn ++ pins))) S3 hg hm q hdbg
          · exact ld_blt (X := X.suite a ((a, oe3) :: (X.pn ++ pins))) S3 hg hm hv q hnn hdbg
        refine test (LM.here ?_)
        cases b with
        | true =>
          refine codeAny_handlers_suite ?_
          refine HandSPX.lands_againZ fl3 fun h4 fl4 up4 => ?_
          have J4 : Inv X pins σ' H' { s' with heap := h4 } := J.landed nb fl4.1 ((up.trans up3).trans up4) os ag
          obtain ⟨oe4, vs4, he4, hz4, hd4⟩ := fl4.there
          have S4 := J4.suite he4 hd4 na nL nF
          refine wpAny_mono ((hsu a oe4 cls d (X.pn ++ pins) hz4 ⟨_, hd4⟩).run [] _ _ H' _ S4 (hyes rfl a na)) (fun f s6 hsp => ?_) (fun _ _ z => False.elim z)
          cases f with
          | next =>
            obtain ⟨σ6, H6, S6, q6⟩ := hsp
            exact ⟨_, _, S6.unsuite ok, q6⟩
          | brk =>
            obtain ⟨σ6, H6, S6, q6⟩ := hsp
            exact ⟨_, _, S6.unsuite ok, q6⟩
          | cont =>
            obtain ⟨σ6, H6, S6, q6⟩ := hsp
            exact ⟨_, _, S6.unsuite ok, q6⟩
          | ret u =>
            obtain ⟨v6, σ6, H6, S6, r6, q6⟩ := hsp
            exact ⟨_, _, _, S6.unsuite ok, r6, q6⟩
        | false =>
          show wpAny _ X.A (handleBy (.ref a) X.env hds2) _ _ _
          exact ih (hno rfl)
      | @named x n i c ts b₀ suite np pos' hds2 l2 hN hi hln hc hsu r ih =>
        intro w
        obtain ⟨b, hb1, hyes, hno⟩ := w
        refine wpAny_handleBy_cons (codeAny_handlers_test ?_) (by intro q; cases q)
        have LT : PySem.W.Looks (model X.prog X.w) h3 (typeOf (.ref a)) cls := fun A Q E s k q => wpAny_typeOf_ref (k _ _ he3) (by rw [hz3.1]; exact q)
        have LM := PySem.W.exm_one (M := model X.prog X.w) (J3.kIn) LT hb1
        have test : ∀ {Q : Value → Shared → Prop} {E : Value → Shared → Prop}, Q c { s' with heap := h3 } → wpAny (model X.prog X.w) (X.A.mark (some (.ref a))) (eval (.Name x np) X.env) Q E { s' with heap := h3 } := fun {Q E} q => by
          obtain ⟨hg, hdbg, hm | ⟨hm, hv, hnn⟩⟩ := hc
          · exact ld_glob (X := X.suite a ((a, oe3) :: (X.pn ++ pins))) S3 hg hm q hdbg
          · exact ld_blt (X := X.suite a ((a, oe3) :: (X.pn ++ pins))) S3 hg hm hv q hnn hdbg
        refine test (LM.here ?_)
        cases b with
        | true =>
          refine codeAny_handlers_suite_as ?_
          refine HandSPX.lands_againZ fl3 fun h4 fl4 up4 => ?_
          have J4 : Inv X pins σ' H' { s' with heap := h4 } := J.landed nb fl4.1 ((up.trans up3).trans up4) os ag
          obtain ⟨oe4, vs4, he4, hz4, hd4⟩ := fl4.there
          have S4 := J4.suite he4 hd4 na nL nF
          have hloc : Loc X.env.scope n := .inl hln
          refine store_ok (X := X.suite a ((a, oe4) :: (X.pn ++ pins))) (v := .ref a) S4 hN hi hloc rfl (fun s5 S5 => ?_) (.inr hln)
          refine wpAny_mono ((hsu a oe4 cls d (X.pn ++ pins) hz4 ⟨_, hd4⟩).run [] s5 _ H' _ S5 (hyes rfl a na)) (fun f s6 hsp => ?_) (fun _ _ z => False.elim z)
          have end_ : ∀ {σ6 : L2.St} {H6 : Hp} {Q : Shared → Prop}, Inv (X.suite a ((a, oe4) :: (X.pn ++ pins))) [] σ6 H6 s6 → (∀ s7, Inv X pins (σ6.set i none) H6 s7 → Q s7) →
              wpAny (model X.prog X.w) X.A (do bindName X.env n .none; unbindBehindTheSuite X.env n pos') (fun _ s7 => Q s7) X.xe s6 := fun {σ6 H6 Q} S6 hq => gone_ok (S6.unsuite ok) hN hi hln hq
          cases f with
          | next =>
            obtain ⟨σ6, H6, S6, q6⟩ := hsp
            exact end_ S6 fun s7 J7 => ⟨_, _, J7, q6⟩
          | brk =>
            obtain ⟨σ6, H6, S6, q6⟩ := hsp
            exact end_ S6 fun s7 J7 => ⟨_, _, J7, q6⟩
          | cont =>
            obtain ⟨σ6, H6, S6, q6⟩ := hsp
            exact end_ S6 fun s7 J7 => ⟨_, _, J7, q6⟩
          | ret u =>
            obtain ⟨v6, σ6, H6, S6, r6, q6⟩ := hsp
            exact end_ S6 fun s7 J7 => ⟨_, _, _, J7, r6, q6⟩
        | false =>
          show wpAny _ X.A (handleBy (.ref a) X.env hds2) _ _ _
          exact ih (hno rfl)
    exact go hh w
  · cases f with
    | next =>
      obtain ⟨σ', H', J', q⟩ := hsp
      exact wpAny_execs_nil ⟨σ', H', J'.ofTry ok, q⟩
    | brk =>
      obtain ⟨σ', H', J', q⟩ := hsp
      exact ⟨σ', H', J'.ofTry ok, q⟩
    | cont =>
      obtain ⟨σ', H', J', q⟩ := hsp
      exact ⟨σ', H', J'.ofTry ok, q⟩
    | ret u =>
      obtain ⟨v, σ', H', J', r, q⟩ := hsp
      exact ⟨v, σ', H', J'.ofTry ok, r, q⟩
end
theorem s_asEnds {i : Nat} {D : Ends} {σ : L2.St} {H : Hp} (h : D.nx (σ.set i none) H) : (asEnds i D).nx σ H := h
end R

/-! exceptions made by hand, as values -/
namespace R
open PySem PySem.Spec PyProof.Rows L2
/-- an exception that was made, at a -/
def exq (a : Addr) (cls : Value) (d : Option Addr) : HO := .ext fun h => ∃ (oe : Obj) (vs : Array Value), h.get? a = some oe ∧ Zc cls d oe ∧ oe.data = .fields vs
theorem exq_at {P : Program} {w : World} {H : Hp} {h : Heap} {a : Addr} {cls : Value} {d : Option Addr} (hok : HOk P w H h) (he : H a = some (exq a cls d)) : ∃ (oe : Obj) (vs : Array Value), h.get? a = some oe ∧ Zc cls d oe ∧ oe.data = .fields vs := by
  have x : ObjOk P w H h a (.ext fun h => ∃ (oe : Obj) (vs : Array Value), h.get? a = some oe ∧ Zc cls d oe ∧ oe.data = .fields vs) := hok a _ he
  exact x.1
def tMkQ (t : L2.St → Hp → XK → Prop) : TE := fun σ H Q => t σ H fun cls d H' => ∀ a, H' a = none → Q (.ref a) (upd H' a (exq a cls d))
theorem pe_mk {X : Cx} {e : Expr} {t : L2.St → Hp → XK → Prop} (he : PMk X e t) : PE X e (tMkQ t) := by
  refine ⟨fun pins s σ H Q I h => ?_⟩
  refine thn (he pins s σ H _ I h) fun u s' ⟨a, oe, vs, sI, H', cls, d, eu, I1, kp, na, ha, hz, hd, _, nH, ho, hb, _, q⟩ => ?_
  subst eu
  have neA : ∀ {b : Addr} {o : Obj}, sI.heap.get? b = some o → b ≠ a := fun e z => by rw [z, na] at e; cases e
  have U : Un (frs X.stack) [] H' (upd H' a (exq a cls d)) sI.heap s'.heap := {
    keep := fun b o z n hf hx => kp b o z
    slot := fun b o z n hf hx => ⟨o.slots, kp b o z⟩
    free := fun b o z n hx => by rw [upd_ne (neA z)]; exact n
    there := fun b o z hx => ⟨o, kp b o z⟩
    tups := fun b xs z => by rw [upd_ne (ne_of_none z nH)]; exact z
    frzs := fun b o v z => by rw [upd_ne (ne_of_none z nH)]; exact z
    tbls := fun b ps z => ⟨#[], by rw [upd_ne (ne_of_none z nH), Array.append_empty]; exact z⟩ }
  have hok : HOk X.prog X.w (upd H' a (exq a cls d)) s'.heap := fun b o z => by
    by_cases hba : b = a
    · subst hba
      rw [upd_same] at z
      cases z
      exact ⟨⟨oe, vs, ha, hz, hd⟩, ⟨oe, ha⟩, fun h1 h2 ⟨oe', vs', g1, g2, g3⟩ k => ⟨oe', vs', k _ g1, g2, g3⟩⟩
    · rw [upd_ne hba] at z
      exact (I1.hok b o z).stay (fun c v hc y => kp c v y) (fun c hc => by rw [upd_ne (ne_of_none hc nH)]; exact hc) (fun c xs hc => by rw [upd_ne (ne_of_none hc nH)]; exact hc)
  exact ⟨.ref a, _, I1.call' (ch := []) ho U hok hb (fun b z => absurd z (by simp)), rfl, q a nH⟩
def tOat (K : PySem.W.Frag) (f : Str) (te : TE) : TE := fun σ H Q => te σ H fun x H1 => ∃ (a C dd : Addr) (fs : List (Str × V)) (v : V), x = .ref a ∧ H1 a = some (exq a (.ref C) (some dd)) ∧ H1 dd = some (.xd fs) ∧ XfC K C ∧ PySem.W.findIn K (.ref C) f = some none ∧ fs.lookup f = some v ∧ Q v H1
theorem pe_oat {X : Cx} {e : Expr} {te : TE} {pos : Pos} {n : Str} (he : PE X e te) (hb : attributeBase e n X.env (eval e X.env) = eval e X.env := by rfl) : PE X (.Attribute e n pos) (tOat X.K n te) := by
  refine ⟨fun pins s σ H Q I h => ?_⟩
  refine attr_of hb (thn (he.run pins s σ H _ I h) fun u s1 hh => ?_)
  obtain ⟨x, H1, I1, rx, a, C, dd, fs, v, ex, ha0, ea, T, hno, l, q⟩ := hh
  subst ex
  obtain rfl : u = Value.ref a := rx
  obtain ⟨oe, vs, ha, hz, hd⟩ := exq_at I1.hok ha0
  have hx : ObjOk X.prog X.w H1 s1.heap dd (.xd fs) := I1.hok dd _ ea
  obtain ⟨mA, hns, hr⟩ := hx
  obtain ⟨od, ho, hl⟩ := lookIn_ns hns
  obtain ⟨u, hu, ru⟩ := RelO.some_of (v := v) (o := mA n) (by rw [← l]; exact hr n)
  have J : PySem.W.InstAt s1.heap a oe C (some od) := ⟨ha, hz.1, by unfold PySem.W.notCls; rw [hd] <;> rfl, by rw [hz.2]; exact ho⟩
  exact HandSPX.exc_get I1.kIn J T.ga T.gg T.exC (PySem.W.findObj_own T.hdC hno rfl (by rw [hl, hu])) (handed_of ru) ⟨v, H1, I1.tok _, ru, q⟩
def rIsQ (K : PySem.W.Frag) : List V → Hp → VK → Prop := fun xs H Q => ∃ (a D : Addr) (d : Option Addr) (fs : List (Str × V)) (c : V) (cv : Value) (b : Bool), xs = [.ref a, c] ∧ H a = some (exq a (.ref D) d) ∧ IsX K D ∧ (∀ dd, d = some dd → H dd = some (.xd fs)) ∧ ClsV c cv ∧ PySem.W.kitOne K (.ref D) cv = some b ∧ Q (.bl b) H
theorem callIsQ {X : Cx} : CallR X (.builtin "isinstance") (rIsQ X.K) := by
  intro pins s σ H xs us Q I r h
  obtain ⟨a, D, d, fs, c, cv, b, rfl, ha, T, hdd, hcv, e, q⟩ := h
  obtain ⟨u1, u2, rfl, r1, r2⟩ := vals2 r
  cases (show u1 = Value.ref a from r1)
  have ec := hcv.eq r2
  subst ec
  obtain ⟨oe, vs, hget, hz, hv⟩ := exq_at I.hok ha
  have J : ∃ od, PySem.W.InstAt s.heap a oe D od := by
    obtain ⟨oc, dd, oda, osl⟩ := oe
    obtain ⟨h1, h2⟩ := hz
    dsimp only at h1 h2 hv
    subst h1 h2 hv
    cases dd with
    | none => exact ⟨none, hget, rfl, rfl, trivial⟩
    | some dx =>
      obtain ⟨mA, hns, _⟩ : ObjOk X.prog X.w H s.heap dx (.xd fs) := I.hok dx _ (hdd dx rfl)
      obtain ⟨o, _, _, ho, _⟩ := hns
      exact ⟨some o, hget, rfl, rfl, ho⟩
  obtain ⟨od, J⟩ := J
  exact PySem.W.kia_one (PySem.W.r_kit T) I.kIn J e (fun z => nomatch z) fun tk => ⟨.bl b, H, I.kept (t' := tk) fun _ _ z => z, rfl, q⟩
theorem s_mkq0 {C : Addr} {σ : L2.St} {H : Hp} {Q : VK} (h : ∀ (a : Addr) (H' : Hp), H a = none → H' a = some (exq a (.ref C) none) → Same H H' → Q (.ref a) H') : tMkQ (tRz C) σ H Q := fun a na => h a _ na upd_same (same_upd na)
theorem s_mkq {K : PySem.W.Frag} {C fI : Addr} {f : Str} {v : V} {σ : L2.St} {H : Hp} {Q : VK} (T : XIn K C fI f) (h : ∀ (a d : Addr) (H' : Hp), H' a = some (exq a (.ref C) (some d)) → H' d = some (.xd [(f, v)]) → Same H H' → Q (.ref a) H') :
    tMkQ (tMkO C (sp_init K C f) [] (tCons (tC v) tNil)) σ H Q := by
  show RzP C (sp_init K C f) (fun cls d H' => ∀ a, H' a = none → Q (.ref a) (upd H' a (exq a cls d))) [v] H
  refine s_raise T.oex T.noF fun d H' hd hx hs a na => ?_
  exact h a d _ upd_same (by rw [upd_ne (ne_of_none hx na)]; exact hx) (hs.trans (same_upd na))
theorem s_oat {K : PySem.W.Frag} {C fI : Addr} {f : Str} {v : V} {σ : L2.St} {H : Hp} {Q : VK} (T : XIn K C fI f) (h : ∀ H', Same H H' → Q v H') : tOat K f (tMkQ (tMkO C (sp_init K C f) [] (tCons (tC v) tNil))) σ H Q :=
  s_mkq T fun a d H' e1 e2 s => ⟨a, C, d, [(f, v)], v, rfl, e1, e2, T.xf, T.noF, by simp [List.lookup], h H' s⟩
end R

namespace L2
open PySem PySem.Spec PyProof.Rows
def tCallLS (i : Nat) (f : Addr) (sp : Sp) (E : St → XK) (t : TA) : TE := fun σ H Q => σ[i]? = some (some (.ref f)) ∧ t σ H fun vs H1 => sp vs H1 Q (E σ)
theorem pe_callLS {X : Cx} {CX : CXT} {k i : Nat} {f : Addr} {fd : FuncData} {ps : List Str} {sp : Sp} {E : St → XK} {x : Str} {p pos : Pos} {e : Expr} {es : List Expr} {t : TA} (F : FnOk X.prog X.w X.K X.mg X.base CX k f fd ps sp) (hr : Room k X.A) (hN : X.N[i]? = some x) (hv : Vis X.env.scope x) (hk : PySem.W.keepIn X.K (.ref f) = true) (hb : Binds X.K fd ps []) (hx : ∀ σ, PassesAt CX X σ (E σ)) (ha : PA X (e :: es) t)
    (hdb : (x == ("__debug__" : Str)) = false := by decide) (hcd : (x == ("__classdict__" : Str)) = false := by decide)
    (he : starEach (e :: es) X.env = (false, eval e X.env) :: starEach es X.env := by rfl) (hpl : (backTo pos (starEach es X.env)).any (·.1) = false := by rfl) : PE X (.Call (.Name x p) (e :: es) [] pos) (tCallLS i f sp E t) := by
  refine ⟨fun pins s σ H Q I h => ?_⟩
  obtain ⟨hs, ht⟩ := h
  refine wpAny_Call_Name_kw (thn ((pe_var (pos := p) hN hv hdb hcd).run pins s σ H (fun v H1 => v = .ref f ∧ H1 = H) I ⟨.ref f, hs, rfl, rfl⟩) fun u s1 ⟨v, H1, I1, r1, q1⟩ => ?_)
  obtain ⟨rfl, rfl⟩ := q1
  cases r1
  refine PySem.W.callWith_K (h₀ := X.base) I.ok.mod.kin hk (thn (ha.run pos pins s1 σ _ _ I1 ht) fun us s2 ⟨vs, H2, I2, r, q⟩ => ⟨I2.kIn, ?_⟩) he hpl
  exact run_fnS F hr hb (hx σ) I2 r q
theorem s_callLS {i : Nat} {f : Addr} {sp : Sp} {E : St → XK} {t : TA} {σ : St} {H : Hp} {Q : VK} (h1 : σ[i]? = some (some (.ref f))) (h : t σ H fun vs H1 => sp vs H1 Q (E σ)) : tCallLS i f sp E t σ H Q := ⟨h1, h⟩
end L2

/-! own exceptions with two fields -/
namespace R
open PySem PySem.Spec PyProof.Rows L2
def sp_init2 (K : PySem.W.Frag) (C : Addr) (f g : Str) : Sp := fun vs H Q _ => ∃ (a : Addr) (v w : V), vs = [.ref a, v, w] ∧ OexC K C ∧ PySem.W.findIn K (.ref C) f = some none ∧ PySem.W.findIn K (.ref C) g = some none ∧ H a = some (exo a C none) ∧
  ∀ dx, H dx = none → dx ≠ a → Q .non (upd (upd (upd H dx (exd dx [(f, v)])) a (exo a C (some dx))) dx (exd dx [(g, w), (f, v)]))
theorem rd_init2 {K : PySem.W.Frag} {C : Addr} {f g m : Str} {vs : List V} {H : Hp} {Q : VK} {E : XK} (h : sp_init2 K C f g vs H Q E) :
    tSeq (tDrop (tVeI K (tCons (tVar 0) (tCons (tC (.str m)) tNil)))) (tSeq (tOst K f (tVar 0) (tVar 1)) (tOst K g (tVar 0) (tVar 2))) { nx := fun _ H' => Q .non H', rt := Q } (L2.start ["self", f, g] vs) H := by
  obtain ⟨a, v, w, rfl, T, hn, hm, ha, k⟩ := h
  exact ⟨_, rfl, a, C, [.str m], rfl, by simp, T, ha, _, rfl, _, rfl, a, C, rfl, T, hn, .inl ⟨ha, fun dx h1 h2 => ⟨_, rfl, _, rfl, a, C, rfl, T, hm, .inr ⟨dx, [(f, v)], upd_same, by rw [upd_ne h2, upd_same], by simp, k dx h1 h2⟩⟩⟩⟩
theorem s_raise2 {K : PySem.W.Frag} {H : Hp} {QX : XK} {C : Addr} {f g : Str} {v w : V} (T : OexC K C) (hn : PySem.W.findIn K (.ref C) f = some none) (hm : PySem.W.findIn K (.ref C) g = some none) (k : ∀ d H', H d = none → H' d = some (.xd [(g, w), (f, v)]) → Same H H' → QX (.ref C) (some d) H') : RzP C (sp_init2 K C f g) QX [v, w] H := by
  refine ⟨by simp, fun a ha => ⟨a, v, w, rfl, T, hn, hm, upd_same, fun dx hdx hne => ⟨rfl, dx, [(g, w), (f, v)], ?_, upd_same, ?_, ?_⟩⟩⟩
  · rw [upd_ne (Ne.symm hne), upd_same]
  · rw [upd_ne hne] at hdx; exact hdx
  · rw [upd_ne hne] at hdx
    refine k dx _ hdx upd_same fun b o e => ?_
    have n1 : b ≠ dx := ne_of_none e hdx
    have n2 : b ≠ a := ne_of_none e ha
    rw [upd_ne n1, del_ne n2, upd_ne n1, upd_ne n2, upd_ne n1, upd_ne n2]
    exact e
end R

/-! d.values() of a plain dict, and list(..) of it -/
namespace R
open PySem PySem.Spec PyProof.Rows L2
def vwO (p d : Addr) : HO := .ext fun h => h.get? p = some { cls := .type "dict_values", data := .fields #[.ref d] }
theorem vwO_ok {P : Program} {w : World} {H : Hp} {h : Heap} {p d : Addr} (e : h.get? p = some { cls := .type "dict_values", data := .fields #[.ref d] }) : ObjOk P w H h p (vwO p d) := ⟨e, ⟨_, e⟩, fun h1 h2 q k => k _ q⟩
def rDVals : V → List V → Hp → VK → Prop := fun x xs H Q => ∃ d kvs, x = .ref d ∧ xs = [] ∧ H d = some (.dK kvs) ∧ ∀ p, H p = none → Q (.ref p) (upd H p (vwO p d))
theorem mt_dvals {X : Cx} : MtM X "dict.values" rDVals := by
  intro pins s σ H x vs v us Q I rx rv h
  obtain ⟨d, kvs, rfl, rfl, hH, q⟩ := h
  cases rx
  have hus := rv.zero
  subst hus
  obtain ⟨z, lo, vs, rk, hd⟩ := (show ObjOk X.prog X.w H s.heap d (.dK kvs) from I.hok d _ hH)
  obtain ⟨ep, hat⟩ := hd.dictAt
  refine call_meetsIn PySem.F.slot_dict_values (Heap.DictOf.typeIs hd) PySem.F.entry_dict_values (PySem.F.args_dict_values_1 _) (meets_dict_values (mixKind X.prog X.w) d lo) ⟨⟨vs, hd⟩, ?_⟩
  exact ⟨.ref s.heap.objs.size, _, I.laid (t' := s.toks) (fun b o q => Heap.get?_push_of_some _ q) (Nat.le_refl _) (vwO_ok (Heap.get?_push_size _ rfl)), rfl, q _ (I.hok.fresh (Nat.le_refl _))⟩
def rListVw : List V → Hp → VK → Prop := fun xs H Q => ∃ p d kvs, xs = [.ref p] ∧ H p = some (vwO p d) ∧ H d = some (.dK kvs) ∧ ∀ q, H q = none → Q (.ref q) (upd H q (.lst (kvs.map (·.2))))
theorem call_list_vw {X : Cx} (hc : X.calm = true) : CallR X (.type "list") rListVw := by
  intro pins s σ H xs us Q I r h
  obtain ⟨p, d, kvs, e, hp, hk, q⟩ := h
  subst e
  obtain ⟨u, eu, rx⟩ := vals1 r
  subst eu
  obtain rfl : u = Value.ref p := rx
  have hv : s.heap.get? p = some { cls := .type "dict_values", data := .fields #[.ref d] } := (show ObjOk X.prog X.w H s.heap p (vwO p d) from I.hok p _ hp).1
  obtain ⟨z, lo, vs, rk, hd⟩ := (show ObjOk X.prog X.w H s.heap d (.dK kvs) from I.hok d _ hk)
  obtain ⟨ep, hat⟩ := hd.dictAt
  have hl : kvs.length = vs.length := Paired.length rk
  refine PySem.W.kdl_call (PySem.W.kdl_values (knd := mixKind X.prog X.w) (d := d) (kvs := vs) (ep := ep)) (I.ok.hd hc) ⟨⟨_, hv, rfl, rfl⟩, hat⟩ (by rw [← hl]; exact z) fun h' tk acc' c' hkeep hS hacc => ?_
  refine ⟨.ref s.heap.objs.size, upd H s.heap.objs.size (.lst (kvs.map (·.2))), I.laid hkeep (Nat.le_refl _) (show ObjOk X.prog X.w _ _ _ (.lst (kvs.map (·.2))) from ⟨?_, acc'.toList, c', ?_, ?_⟩), rfl, q _ (I.hok.fresh (Nat.le_refl _))⟩
  · rw [List.length_map]; exact z
  · have el : acc'.toList.length = acc'.size := by simp
    refine vals_of_at (by rw [List.length_map, el, hacc.1, hl]) fun j x w h1 h2 => ?_
    obtain ⟨k, hky⟩ := hacc.2 j w (by rw [← Array.getElem?_toList]; exact h2)
    obtain ⟨y, h3, h4⟩ := KV.at' rk hky
    rw [List.getElem?_map, h3] at h1
    cases h1
    exact h4
  · rw [Array.toArray_toList]; exact hS
end R

/-! the divisor of two numbers: what the loop keeps -/
namespace M
/-- what is told of a and b -/
structure DivOk (a b g u v : Int) : Prop where
  hg : g = (Int.gcd a b : Nat)
  eq : u * a + v * b = g
  hu : u.natAbs ≤ max 1 b.natAbs
  hv : v.natAbs ≤ max 1 a.natAbs
/-- behind the first turn: s the sign of g and rest, t that of u -/
structure DivIn (a b g u v r x y s t : Int) (G R U X q : Nat) : Prop where
  hs : s = 1 ∨ s = -1
  ht : t = 1 ∨ t = -1
  hg : g = s * G
  hr : r = s * R
  hu : u = t * U
  hx : x = -(t * X)
  lt : R < G
  px : 0 < X
  det : X * G + U * R = b.natAbs
  gcd : Nat.gcd G R = Int.gcd a b
  e1 : u * a + v * b = g
  e2 : x * a + y * b = r
  last : (U = 0 ∧ v = 1 ∧ g = b) ∨ (0 < U ∧ U * (q * G + R) ≤ b.natAbs ∧ G < q * G + R)
def DivSt (a b g u v r x y : Int) : Prop :=
  (g = a ∧ u = 1 ∧ v = 0 ∧ r = b ∧ x = 0 ∧ y = 1) ∨ (b ≠ 0 ∧ ∃ s t G R U X q, DivIn a b g u v r x y s t G R U X q)
theorem nabs_sign {s : Int} (hs : s = 1 ∨ s = -1) (n : Nat) : (s * (n : Int)).natAbs = n := by
  rcases hs with rfl | rfl <;> omega
theorem fdiv_sign {s : Int} (hs : s = 1 ∨ s = -1) (G R : Nat) : (s * (G : Int)).fdiv (s * R) = ((G / R : Nat) : Int) := by
  rcases hs with rfl | rfl
  · rw [Int.one_mul, Int.one_mul]; exact (Int.ofNat_fdiv G R).symm
  · rw [Int.neg_one_mul, Int.neg_one_mul, Int.neg_fdiv_neg]; exact (Int.ofNat_fdiv G R).symm
theorem fdiv_le (g r : Int) : (g.fdiv r).natAbs ≤ g.natAbs := by
  rcases Int.lt_trichotomy r 0 with h | h | h
  · have e : g.fdiv r = (-g).fdiv (-r) := (Int.neg_fdiv_neg g r).symm
    rw [e, Int.fdiv_eq_ediv_of_nonneg _ (by omega)]
    have := Int.natAbs_ediv_le_natAbs (-g) (-r)
    omega
  · subst h; simp
  · rw [Int.fdiv_eq_ediv_of_nonneg _ (by omega)]
    exact Int.natAbs_ediv_le_natAbs g r
theorem gcd_sub (a b q : Int) : Int.gcd b (a - q * b) = Int.gcd a b := by
  rw [Int.gcd_sub_mul_right_right]
  exact Int.gcd_comm _ _
theorem fmod_sign (a : Int) {b : Int} (hb : b ≠ 0) : ∃ s R, (s = 1 ∨ s = -1) ∧ b = s * (b.natAbs : Int) ∧ a - a.fdiv b * b = s * ((R : Nat) : Int) ∧ R < b.natAbs := by
  have e : a - a.fdiv b * b = a.fmod b := by rw [Int.fmod_def, Int.mul_comm]
  by_cases h : 0 < b
  · have h1 := Int.fmod_lt_of_pos a h
    have h2 := Int.fmod_nonneg_of_pos a h
    exact ⟨1, (a.fmod b).toNat, .inl rfl, by omega, by rw [e]; omega, by omega⟩
  · have h0 : 0 < -b := by omega
    have e2 : a.fmod b = -((-a).fmod (-b)) := by rw [Int.neg_fmod_neg]; omega
    have h1 := Int.fmod_lt_of_pos (-a) h0
    have h2 := Int.fmod_nonneg_of_pos (-a) h0
    exact ⟨-1, ((-a).fmod (-b)).toNat, .inr rfl, by omega, by rw [e, e2]; omega, by omega⟩
theorem gcd_signs {s : Int} (hs : s = 1 ∨ s = -1) (G R : Nat) : Int.gcd (s * (G : Int)) (s * R) = Nat.gcd G R := by
  unfold Int.gcd
  rw [nabs_sign hs, nabs_sign hs]
theorem div_step {a b g u v r x y : Int} (h : DivSt a b g u v r x y) (hr : r ≠ 0) :
    DivSt a b r x y (g - g.fdiv r * r) (u - g.fdiv r * x) (v - g.fdiv r * y) ∧ (g - g.fdiv r * r).natAbs < r.natAbs := by
  rcases h with ⟨rfl, rfl, rfl, rfl, rfl, rfl⟩ | ⟨hb, s, t, G, R, U, X, q, I⟩
  · obtain ⟨s, R, hs, e1, e2, lt⟩ := fmod_sign g hr
    refine ⟨.inr ⟨hr, s, -1, r.natAbs, R, 0, 1, 0, ⟨hs, .inr rfl, e1, e2, by omega, by omega, lt, by omega, by omega, ?_, by omega, ?_, .inl ⟨rfl, rfl, rfl⟩⟩⟩, ?_⟩
    · have h1 := gcd_sub g r (g.fdiv r)
      rw [e2] at h1
      conv at h1 => lhs; arg 1; rw [e1]
      rw [gcd_signs hs] at h1
      exact h1
    · grind
    · rw [e2, nabs_sign hs]; exact lt
  · obtain ⟨hs, ht, hg, hr', hu, hx, lt, px, det, gcd, e1, e2, last⟩ := I
    have hR : 0 < R := by
      rcases Nat.eq_zero_or_pos R with z | z
      · subst z; rw [hr'] at hr; exact absurd (by simp) hr
      · exact z
    have ed : g.fdiv r = ((G / R : Nat) : Int) := by rw [hg, hr']; exact fdiv_sign hs G R
    have dm := Nat.div_add_mod G R
    have ml := Nat.mod_lt G hR
    have hq : 0 < G / R := Nat.div_pos (Nat.le_of_lt lt) hR
    generalize hQ : G / R = Q at *
    generalize hS : G % R = S at *
    have er : g - (Q : Int) * r = s * (S : Int) := by
      have : (G : Int) = R * Q + S := by rw [← dm]; push_cast; rfl
      rw [hg, hr', this]; grind
    rw [ed]
    refine ⟨.inr ⟨hb, s, -t, R, S, X, U + Q * X, Q, ⟨hs, by omega, hr', er, by rw [hx]; grind, ?_, ml, Nat.add_pos_right _ (Nat.mul_pos hq px), ?_, ?_, e2, by grind, .inr ⟨px, ?_, ?_⟩⟩⟩, ?_⟩
    · rw [hu, hx]; push_cast; grind
    · rw [← det, ← dm]; grind
    · rw [← gcd, ← hS, Nat.gcd_comm G R, Nat.gcd_rec R G, Nat.gcd_comm]
    · rw [← det]
      have : Q * R + S = G := by rw [Nat.mul_comm]; exact dm
      rw [this]; omega
    · have : Q * R + S = G := by rw [Nat.mul_comm]; exact dm
      omega
    · rw [er, hr', nabs_sign hs, nabs_sign hs]; exact ml
/-- the sizes in the loop -/
theorem div_sizes {a b g u v r x y : Int} (h : DivSt a b g u v r x y) : x.natAbs ≤ max 1 b.natAbs ∧ u.natAbs ≤ max 1 b.natAbs ∧ y.natAbs ≤ 1 + a.natAbs ∧ v.natAbs ≤ 1 + a.natAbs ∧ g.natAbs ≤ max a.natAbs b.natAbs ∧ r.natAbs ≤ b.natAbs := by
  rcases h with ⟨rfl, rfl, rfl, rfl, rfl, rfl⟩ | ⟨hb, s, t, G, R, U, X, q, I⟩
  · omega
  · obtain ⟨hs, ht, hg, hr', hu, hx, lt, px, det, gcd, e1, e2, last⟩ := I
    have ex : x.natAbs = X := by rw [hx, Int.natAbs_neg]; exact nabs_sign ht X
    have eu : u.natAbs = U := by rw [hu]; exact nabs_sign ht U
    have eg : g.natAbs = G := by rw [hg]; exact nabs_sign hs G
    have er : r.natAbs = R := by rw [hr']; exact nabs_sign hs R
    have hG : 0 < G := by omega
    have hX : X ≤ X * G := Nat.le_mul_of_pos_right X hG
    have hB : 0 < b.natAbs := by omega
    -- v b = g - u a
    have k : ∀ (z w c : Int), z * a + w * b = c → z.natAbs ≤ b.natAbs → c.natAbs ≤ b.natAbs → w.natAbs ≤ 1 + a.natAbs := fun z w c e hz hc => by
      have e' : w * b = c - z * a := by omega
      have e3 : (w * b).natAbs ≤ c.natAbs + (z * a).natAbs := by rw [e']; omega
      rw [Int.natAbs_mul, Int.natAbs_mul] at e3
      have e4 : z.natAbs * a.natAbs ≤ b.natAbs * a.natAbs := Nat.mul_le_mul_right _ hz
      have e5 : w.natAbs * b.natAbs ≤ (1 + a.natAbs) * b.natAbs := by
        have : (1 + a.natAbs) * b.natAbs = b.natAbs + b.natAbs * a.natAbs := by grind
        omega
      exact Nat.le_of_mul_le_mul_right e5 hB
    have hXb : X ≤ b.natAbs := by omega
    have hGb : g.natAbs ≤ b.natAbs ∧ U ≤ b.natAbs := by
      rcases last with ⟨h1, h2, h3⟩ | ⟨hU, h1, h2⟩
      · rw [h3]; omega
      · have hX1 : G ≤ X * G := Nat.le_mul_of_pos_left G px
        have : U ≤ U * (q * G + R) := Nat.le_mul_of_pos_right U (by omega)
        omega
    have hRb : r.natAbs ≤ b.natAbs := by omega
    have k1 := k u v g e1 (by omega) hGb.1
    have k2 := k x y r e2 (by omega) hRb
    omega
theorem div_half {a b g u v : Int} (e1 : u * a + v * b = g) (hb : 0 < b.natAbs) (h1 : 2 * g.natAbs ≤ b.natAbs) (h2 : 2 * u.natAbs ≤ b.natAbs) : 2 * v.natAbs ≤ 1 + a.natAbs := by
  have e' : v * b = g - u * a := by omega
  have e3 : (v * b).natAbs ≤ g.natAbs + (u * a).natAbs := by rw [e']; omega
  rw [Int.natAbs_mul, Int.natAbs_mul] at e3
  have e4 : 2 * u.natAbs * a.natAbs ≤ b.natAbs * a.natAbs := Nat.mul_le_mul_right _ h2
  have x0 : 2 * u.natAbs * a.natAbs = 2 * (u.natAbs * a.natAbs) := Nat.mul_assoc _ _ _
  have x1 : (1 + a.natAbs) * b.natAbs = b.natAbs + b.natAbs * a.natAbs := by rw [Nat.add_mul, Nat.one_mul, Nat.mul_comm a.natAbs]
  have x2 : (2 * v.natAbs) * b.natAbs = 2 * (v.natAbs * b.natAbs) := Nat.mul_assoc _ _ _
  have e6 : (2 * v.natAbs) * b.natAbs ≤ (1 + a.natAbs) * b.natAbs := by omega
  exact Nat.le_of_mul_le_mul_right e6 hb
theorem div_end {a b g u v r x y : Int} (h : DivSt a b g u v r x y) (hr : r = 0) : Int.gcd a b = g.natAbs ∧ u * a + v * b = g ∧ u.natAbs ≤ max 1 b.natAbs ∧ v.natAbs ≤ max 1 a.natAbs := by
  rcases h with ⟨rfl, rfl, rfl, rfl, rfl, rfl⟩ | ⟨hb, s, t, G, R, U, X, q, I⟩
  · subst hr
    refine ⟨by simp, by omega, by omega, by omega⟩
  · have hsz := div_sizes (.inr ⟨hb, s, t, G, R, U, X, q, I⟩)
    obtain ⟨hs, ht, hg, hr', hu, hx, lt, px, det, gcd, e1, e2, last⟩ := I
    have er : r.natAbs = R := by rw [hr']; exact nabs_sign hs R
    have hR : R = 0 := by omega
    subst hR
    have eg : g.natAbs = G := by rw [hg]; exact nabs_sign hs G
    have eu : u.natAbs = U := by rw [hu]; exact nabs_sign ht U
    refine ⟨by rw [← gcd, eg]; simp, e1, hsz.2.1, ?_⟩
    rcases last with ⟨h1, h2, h3⟩ | ⟨hU, h1, h2⟩
    · rw [h2]; omega
    · have hq : 2 ≤ q := by
        rcases Nat.lt_or_ge q 2 with z | z
        · have : q = 0 ∨ q = 1 := by omega
          rcases this with rfl | rfl <;> omega
        · exact z
      have h3 : 2 * G ≤ q * G := Nat.mul_le_mul_right G hq
      have h4 : U * (2 * G) ≤ b.natAbs := Nat.le_trans (Nat.mul_le_mul_left U (by omega)) h1
      have z1 : 2 * G ≤ U * (2 * G) := Nat.le_mul_of_pos_left _ hU
      have z2 : U * (2 * G) = 2 * U * G := by grind
      have z3 : 2 * U ≤ 2 * U * G := Nat.le_mul_of_pos_right _ (by omega)
      have z4 := div_half e1 (by omega) (by omega) (by omega)
      have ha : a.natAbs = 0 → v.natAbs ≤ 1 := by omega
      omega
theorem div_told {a b g u v r x y : Int} (h : DivSt a b g u v r x y) (hr : r = 0) : (g < 0 → DivOk a b (-g) (-u) (-v)) ∧ (¬ g < 0 → DivOk a b g u v) := by
  obtain ⟨k1, k2, k3, k4⟩ := div_end h hr
  refine ⟨fun z => ⟨by omega, ?_, by omega, by omega⟩, fun z => ⟨by omega, k2, k3, k4⟩⟩
  rw [← k2, Int.neg_mul, Int.neg_mul]; omega
end M

/-! powers by n -/
namespace M
/-- the rest of a power -/
def pw (n a : Int) (e : Nat) : Int := a ^ e % n
theorem pw_range {n : Int} (hn : 0 < n) (a : Int) (e : Nat) : 0 ≤ pw n a e ∧ pw n a e < n := ⟨Int.emod_nonneg _ (by omega), Int.emod_lt_of_pos _ hn⟩
theorem pow_emod (a n : Int) (e : Nat) : (a % n) ^ e % n = a ^ e % n := by
  induction e with
  | zero => rw [Int.pow_zero, Int.pow_zero]
  | succ e ih => rw [Int.pow_succ, Int.pow_succ, Int.mul_emod, ih, Int.emod_emod_of_dvd _ (Int.dvd_refl n), ← Int.mul_emod]
theorem pw_mod (n a : Int) (e : Nat) : pw n (a % n) e = pw n a e := pow_emod a n e
/-- what the loop keeps: found * base ^ e -/
theorem pw_turn {n f b : Int} {e : Nat} {r : Int} (h : f * b ^ e % n = r) :
    (e % 2 = 1 → (f * b % n) * (b * b % n) ^ (e / 2) % n = r) ∧ (e % 2 ≠ 1 → f * (b * b % n) ^ (e / 2) % n = r) := by
  have sq : (b * b) ^ (e / 2) = b ^ (2 * (e / 2)) := by rw [Int.pow_mul, Int.pow_succ, Int.pow_succ, Int.pow_zero, Int.one_mul]
  constructor
  · intro ho
    have ee : e = 2 * (e / 2) + 1 := by omega
    rw [Int.mul_emod, Int.emod_emod_of_dvd _ (Int.dvd_refl n), pow_emod, ← Int.mul_emod, sq, ← h]
    conv => rhs; rw [ee, Int.pow_succ]
    congr 1
    grind
  · intro ho
    have ee : e = 2 * (e / 2) := by omega
    rw [Int.mul_emod, pow_emod, ← Int.mul_emod, sq, ← ee, h]
theorem pw_end {n f : Int} (h0 : 0 ≤ f) (h1 : f < n) {b r : Int} (h : f * b ^ 0 % n = r) : f = r := by
  rw [← h, Int.pow_zero, Int.mul_one, Int.emod_eq_of_lt h0 h1]
theorem pw_one {n a : Int} {e : Nat} : 1 % n * (a % n) ^ e % n = pw n a e := by
  rw [Int.mul_emod, Int.emod_emod_of_dvd _ (Int.dvd_refl n), pow_emod, ← Int.mul_emod, Int.one_mul]; rfl
theorem pw_mul (n a : Int) (e : Nat) : pw n a e * a % n = pw n a (e + 1) := by
  unfold pw
  rw [Int.mul_emod, Int.emod_emod_of_dvd _ (Int.dvd_refl n), ← Int.mul_emod, Int.pow_succ]
theorem pw_zero (n a : Int) : pw n a 0 = 1 % n := by unfold pw; rw [Int.pow_zero]
theorem gcd_mod (a n : Int) : Int.gcd (a % n) n = Int.gcd a n := by
  have e : a % n = a - n * (a / n) := by have := Int.emod_add_mul_ediv a n; omega
  rw [e, Int.gcd_comm, Int.gcd_sub_mul_left_right, Int.gcd_comm]
theorem inv_of {n a g u v : Int} (hn : 0 < n) (h : DivOk (a % n) n g u v) (hg : Int.gcd a n = 1) : (u % n * a - 1) % n = 0 := by
  have e := h.eq
  have hg' : g = 1 := by rw [h.hg, gcd_mod, hg]; rfl
  refine Int.emod_eq_zero_of_dvd ?_
  have e1 : a % n = a - n * (a / n) := by have := Int.emod_add_mul_ediv a n; omega
  have e2 : u % n = u - n * (u / n) := by have := Int.emod_add_mul_ediv u n; omega
  refine ⟨-(v) + u * (a / n) - (u / n) * a, ?_⟩
  rw [hg', e1] at e
  rw [e2]
  grind
theorem gcd_pos {a n : Int} (hn : 0 < n) : 0 < Int.gcd a n := Int.gcd_pos_of_ne_zero_right a (by omega)
/-- numbers with the same product by n -/
theorem inv_unit {n a b : Int} (h : (b * a - 1) % n = 0) : b * a % n = 1 % n := by
  have := Int.emod_emod_of_dvd (b * a) (Int.dvd_refl n)
  exact Int.emod_eq_emod_iff_emod_sub_eq_zero.mpr h
theorem inv_pow {n a b : Int} (h : (b * a - 1) % n = 0) (e : Nat) : (pw n b e * pw n a e - 1) % n = 0 := by
  have e1 : b * a % n = 1 % n := inv_unit h
  refine Int.emod_eq_emod_iff_emod_sub_eq_zero.mp ?_
  unfold pw
  rw [← Int.mul_emod, ← Int.mul_pow, ← pow_emod, e1, pow_emod, Int.one_pow]
theorem back_ok {n a b : Int} (hn : 0 < n) (h : (b * a - 1) % n = 0) (e : Nat) : (pw n b (e + 1) * pw n a e * a - 1) % n = 0 := by
  have k := inv_pow h (e + 1)
  rw [← pw_mul n a e] at k
  refine Int.emod_eq_emod_iff_emod_sub_eq_zero.mp ?_
  rw [← Int.emod_eq_emod_iff_emod_sub_eq_zero.mpr k, Int.mul_assoc, Int.mul_emod]
  conv => rhs; rw [Int.mul_emod, Int.emod_emod_of_dvd _ (Int.dvd_refl n)]
theorem gcd_abs (a : Int) {n : Int} (hn : 0 < n) : Nat.gcd n.natAbs (a.natAbs % n.natAbs) = Int.gcd a n := by
  rw [Nat.gcd_comm, ← Nat.gcd_rec, Nat.gcd_comm]; rfl
theorem pw_add (n a : Int) (e f : Nat) : pw n a (e + f) = pw n a e * pw n a f % n := by
  unfold pw
  rw [← Int.mul_emod, Int.pow_add]
theorem pw_pw (n a : Int) (e f : Nat) : pw n a (e * f) = pw n (pw n a e) f := by
  unfold pw
  rw [pow_emod, ← Int.pow_mul]
theorem pw_prod (n a b : Int) (e : Nat) : pw n (a * b) e = pw n a e * pw n b e % n := by
  unfold pw
  rw [← Int.mul_emod, Int.mul_pow]
theorem pw_congr {n a b : Int} (h : a % n = b % n) (e : Nat) : pw n a e = pw n b e := by rw [← pw_mod n a, ← pw_mod n b, h]
theorem inv_unique {n a b c : Int} (b0 : 0 ≤ b) (b1 : b < n) (c0 : 0 ≤ c) (c1 : c < n) (hb : (b * a - 1) % n = 0) (hc : (c * a - 1) % n = 0) : b = c := by
  have h1 : (b - c) % n = 0 := by
    obtain ⟨x, hx⟩ := Int.dvd_of_emod_eq_zero hb
    obtain ⟨y, hy⟩ := Int.dvd_of_emod_eq_zero hc
    refine Int.emod_eq_zero_of_dvd ⟨c * x - b * y, ?_⟩
    have e : b - c = c * (b * a - 1) - b * (c * a - 1) := by grind
    rw [e, hx, hy]; grind
  have h2 := Int.emod_eq_emod_iff_emod_sub_eq_zero.mpr h1
  rw [Int.emod_eq_of_lt b0 b1, Int.emod_eq_of_lt c0 c1] at h2
  exact h2
theorem emod_one_of {n x : Int} (h : (x - 1) % n = 0) : x % n = 1 % n := Int.emod_eq_emod_iff_emod_sub_eq_zero.mpr h
end M

/-! primes -/
namespace M
def Prime (p : Nat) : Prop := 2 ≤ p ∧ ∀ d, d ∣ p → d = 1 ∨ d = p
theorem Prime.pos {p : Nat} (h : Prime p) : 0 < p := by have := h.1; omega
theorem Prime.coprime {p a : Nat} (h : Prime p) (ha : ¬ p ∣ a) : Nat.gcd p a = 1 := by
  rcases h.2 _ (Nat.gcd_dvd_left p a) with e | e
  · exact e
  · exact absurd (e ▸ Nat.gcd_dvd_right p a) ha
theorem Prime.dvd_mul {p a b : Nat} (h : Prime p) (hd : p ∣ a * b) : p ∣ a ∨ p ∣ b := by
  by_cases ha : p ∣ a
  · exact .inl ha
  · exact .inr (Nat.Coprime.dvd_of_dvd_mul_left (h.coprime ha) hd)
theorem Prime.dvd_pow {p a : Nat} (h : Prime p) : ∀ {e : Nat}, p ∣ a ^ e → p ∣ a
  | 0, hd => by
    rw [Nat.pow_zero] at hd
    have := Nat.le_of_dvd (by decide) hd
    have := h.1; omega
  | e + 1, hd => by
    rw [Nat.pow_succ] at hd
    rcases h.dvd_mul hd with z | z
    · exact h.dvd_pow z
    · exact z
theorem Prime.eq_of_dvd {p q : Nat} (hp : Prime p) (hq : Prime q) (h : p ∣ q) : p = q := by
  rcases hq.2 p h with e | e
  · have := hp.1; omega
  · exact e
/-- each number from 2 on has a least divisor, a prime -/
theorem exists_prime : ∀ (n : Nat), 2 ≤ n → ∃ p, Prime p ∧ p ∣ n := by
  intro n
  induction n using Nat.strongRecOn with
  | _ n ih =>
    intro hn
    by_cases h : ∃ d, d ∣ n ∧ d ≠ 1 ∧ d ≠ n
    · obtain ⟨d, h1, h2, h3⟩ := h
      have hd : d ≤ n := Nat.le_of_dvd (by omega) h1
      have h0 : d ≠ 0 := fun z => by rw [z] at h1; have := Nat.eq_zero_of_zero_dvd h1; omega
      obtain ⟨p, hp, hpd⟩ := ih d (by omega) (by omega)
      exact ⟨p, hp, Nat.dvd_trans hpd h1⟩
    · refine ⟨n, ⟨hn, fun d hd => ?_⟩, Nat.dvd_refl n⟩
      by_cases h1 : d = 1
      · exact .inl h1
      · by_cases h2 : d = n
        · exact .inr h2
        · exact absurd ⟨d, hd, h1, h2⟩ h
/-- no lesser divisor from 2 to the root -/
theorem prime_of_no {n : Nat} (hn : 2 ≤ n) (h : ∀ d, 2 ≤ d → d * d ≤ n → ¬ d ∣ n) : Prime n := by
  obtain ⟨p, hp, hd⟩ := exists_prime n hn
  obtain ⟨c, hc⟩ := hd
  by_cases e : c = 1
  · subst e
    rw [Nat.mul_one] at hc
    rw [hc]; exact hp
  · exfalso
    have hc0 : 2 ≤ c := by
      rcases Nat.lt_or_ge c 2 with z | z
      · have : c = 0 ∨ c = 1 := by omega
        rcases this with rfl | rfl
        · omega
        · exact absurd rfl e
      · exact z
    have hp2 := hp.1
    rcases Nat.le_total p c with z | z
    · refine h p hp2 ?_ ⟨c, hc⟩
      rw [hc]; exact Nat.mul_le_mul_left p z
    · refine h c hc0 ?_ ⟨p, by rw [hc, Nat.mul_comm]⟩
      rw [hc]; exact Nat.mul_le_mul_right c z
/-- powers of a prime: what is left without it -/
theorem split_prime {q : Nat} (hq : Prime q) : ∀ (n : Nat), 0 < n → ∃ k m, n = q ^ k * m ∧ ¬ q ∣ m ∧ 0 < m := by
  intro n
  induction n using Nat.strongRecOn with
  | _ n ih =>
    intro hn
    by_cases h : q ∣ n
    · obtain ⟨c, hc⟩ := h
      have hc0 : 0 < c := by
        rcases Nat.eq_zero_or_pos c with z | z
        · rw [z] at hc; omega
        · exact z
      have hq2 := hq.1
      have hlt : c < n := by
        rw [hc]
        have : 2 * c ≤ q * c := Nat.mul_le_mul_right c hq2
        omega
      obtain ⟨k, m, h1, h2, h3⟩ := ih c hlt hc0
      exact ⟨k + 1, m, by rw [hc, h1, Nat.pow_succ]; grind, h2, h3⟩
    · exact ⟨0, n, by simp, h, hn⟩
theorem coprime_pow {q m : Nat} (hq : Prime q) (h : ¬ q ∣ m) (k : Nat) : Nat.gcd (q ^ k) m = 1 := Nat.Coprime.pow_left k (hq.coprime h)
/-- n divides m where each power of a prime that divides n does -/
theorem dvd_of_prime_powers : ∀ (n m : Nat), 0 < n → (∀ q k, Prime q → q ^ k ∣ n → q ^ k ∣ m) → n ∣ m := by
  intro n
  induction n using Nat.strongRecOn with
  | _ n ih =>
    intro m hn h
    by_cases h1 : n = 1
    · rw [h1]; exact Nat.one_dvd m
    · obtain ⟨q, hq, hd⟩ := exists_prime n (by omega)
      obtain ⟨k, c, e, hc, hc0⟩ := split_prime hq n hn
      have hk : 0 < k := by
        rcases Nat.eq_zero_or_pos k with z | z
        · rw [z, Nat.pow_zero, Nat.one_mul] at e; rw [e] at hd; exact absurd hd hc
        · exact z
      have hlt : c < n := by
        rw [e]
        have : q ^ 1 ≤ q ^ k := Nat.pow_le_pow_right hq.pos hk
        have h2 := hq.1
        rw [Nat.pow_one] at this
        have : 2 * c ≤ q ^ k * c := Nat.mul_le_mul_right c (by omega)
        omega
      have d1 : q ^ k ∣ m := h q k hq ⟨c, e⟩
      have d2 : c ∣ m := ih c hlt m hc0 fun r j hr hj => h r j hr (Nat.dvd_trans hj ⟨q ^ k, by rw [e, Nat.mul_comm]⟩)
      rw [e]
      exact Nat.Coprime.mul_dvd_of_dvd_of_dvd (coprime_pow hq hc k) d1 d2
end M

/-! numbers parted into primes -/
namespace M
def prodL : List (Nat × Nat) → Nat
  | [] => 1
  | x :: l => x.1 ^ x.2 * prodL l
theorem prodL_app (l m : List (Nat × Nat)) : prodL (l ++ m) = prodL l * prodL m := by
  induction l with
  | nil => simp [prodL]
  | cons x l ih => simp only [List.cons_append, prodL, ih]; grind
structure IsFac (n : Nat) (l : List (Nat × Nat)) : Prop where
  sorted : l.Pairwise (fun x y => x.1 < y.1)
  primes : ∀ x ∈ l, Prime x.1 ∧ 0 < x.2
  prod : prodL l = n
/-- so far: the primes below d are taken out -/
structure Fac (n0 : Nat) (l : List (Nat × Nat)) (n d : Nat) : Prop where
  sorted : l.Pairwise (fun x y => x.1 < y.1)
  below : ∀ x ∈ l, x.1 < d
  primes : ∀ x ∈ l, Prime x.1 ∧ 0 < x.2
  prod : prodL l * n = n0
  no : ∀ e, 2 ≤ e → e < d → ¬ e ∣ n
  npos : 0 < n
  dtwo : 2 ≤ d
theorem fac_start {n : Nat} (h : 0 < n) : Fac n [] n 2 := ⟨.nil, by simp, by simp, by simp [prodL], fun e h1 h2 => by omega, h, Nat.le_refl 2⟩
theorem fac_end {n0 n d : Nat} {l : List (Nat × Nat)} (h : Fac n0 l n d) (hn : n ≤ 1) : IsFac n0 l := by
  have : n = 1 := by have := h.npos; omega
  subst this
  exact ⟨h.sorted, h.primes, by rw [← h.prod, Nat.mul_one]⟩
section
variable {n0 n d : Nat} {l : List (Nat × Nat)}
theorem fac_le (h : Fac n0 l n d) (hn : 1 < n) : d ≤ n := by
  rcases Nat.lt_or_ge n d with z | z
  · exact absurd (Nat.dvd_refl n) (h.no n hn z)
  · exact z
/-- beyond the root what is left is a prime -/
theorem fac_jump (h : Fac n0 l n d) (hn : 1 < n) (hd : n < d * d) : Fac n0 l n n := by
  have hl := fac_le h hn
  refine ⟨h.sorted, fun x hx => Nat.lt_of_lt_of_le (h.below x hx) hl, h.primes, h.prod, fun e h1 h2 hd' => ?_, h.npos, hn⟩
  obtain ⟨c, hc⟩ := hd'
  have e1 : d ≤ e := by
    rcases Nat.lt_or_ge e d with z | z
    · exact absurd ⟨c, hc⟩ (h.no e h1 z)
    · exact z
  have c2 : 2 ≤ c := by
    rcases Nat.lt_or_ge c 2 with z | z
    · have : c = 0 ∨ c = 1 := by omega
      rcases this with rfl | rfl <;> omega
    · exact z
  have e2 : d ≤ c := by
    rcases Nat.lt_or_ge c d with z | z
    · exact absurd ⟨e, by rw [hc, Nat.mul_comm]⟩ (h.no c c2 z)
    · exact z
  have := Nat.mul_le_mul e1 e2
  omega
theorem fac_prime (h : Fac n0 l n d) (hd : d ∣ n) : Prime d := prime_of_no h.dtwo fun e h1 h2 h3 => by
  have : e < d := by
    rcases Nat.lt_or_ge e d with z | z
    · exact z
    · have := Nat.mul_le_mul z h1
      have h4 := h.dtwo
      have h5 : d * 2 ≤ e * e := Nat.le_trans this (Nat.le_refl _)
      omega
  exact h.no e h1 this (Nat.dvd_trans h3 hd)
theorem dvd_pow_self (d : Nat) {k : Nat} (hk : 0 < k) : d ∣ d ^ k := by
  obtain ⟨j, rfl⟩ : ∃ j, k = j + 1 := ⟨k - 1, by omega⟩
  rw [Nat.pow_succ]; exact Nat.dvd_mul_left d _
/-- d taken out k times, m left -/
theorem fac_step {k m : Nat} (h : Fac n0 l n d) (e : n = d ^ k * m) (hm : ¬ d ∣ m) : Fac n0 (if 0 < k then l ++ [(d, k)] else l) m (d + 1) := by
  have m0 : 0 < m := Nat.pos_of_ne_zero fun z => by rw [z, Nat.mul_zero] at e; have := h.npos; omega
  have hno : ∀ f, 2 ≤ f → f < d + 1 → ¬ f ∣ m := fun f h1 h2 h3 => by
    by_cases hf : f = d
    · exact hm (hf ▸ h3)
    · exact h.no f h1 (by omega) (by rw [e]; exact Nat.dvd_trans h3 (Nat.dvd_mul_left m _))
  have hd2 := h.dtwo
  by_cases hk : 0 < k
  · rw [if_pos hk]
    have hdn : d ∣ n := by
      rw [e]
      exact Nat.dvd_trans (dvd_pow_self d hk) (Nat.dvd_mul_right _ _)
    refine ⟨?_, fun x hx => ?_, fun x hx => ?_, ?_, hno, m0, by omega⟩
    · refine List.pairwise_append.mpr ⟨h.sorted, List.pairwise_singleton _ _, fun x hx y hy => ?_⟩
      rw [List.mem_singleton.mp hy]; exact h.below x hx
    · rcases List.mem_append.mp hx with z | z
      · have := h.below x z; omega
      · rw [List.mem_singleton.mp z]; exact Nat.lt_succ_self d
    · rcases List.mem_append.mp hx with z | z
      · exact h.primes x z
      · rw [List.mem_singleton.mp z]; exact ⟨fac_prime h hdn, hk⟩
    · rw [prodL_app, ← h.prod, e]; simp only [prodL]; grind
  · have k0 : k = 0 := by omega
    subst k0
    rw [if_neg (by omega)]
    have e' : n = m := by rw [e, Nat.pow_zero, Nat.one_mul]
    exact ⟨h.sorted, fun x hx => by have := h.below x hx; omega, h.primes, by rw [← e']; exact h.prod, hno, m0, by omega⟩
/-- an even number more may be left out -/
theorem fac_odd (h : Fac n0 l n d) (h2 : 2 < d) (he : d % 2 = 0) : Fac n0 l n (d + 1) := by
  refine ⟨h.sorted, fun x hx => by have := h.below x hx; omega, h.primes, h.prod, fun f h1 h3 h4 => ?_, h.npos, by omega⟩
  by_cases hf : f = d
  · have : 2 ∣ f := by rw [hf]; exact Nat.dvd_of_mod_eq_zero he
    exact h.no 2 (by decide) h2 (Nat.dvd_trans this h4)
  · exact h.no f h1 (by omega) h4
end
/-! what a parting tells -/
theorem prodL_dvd {l : List (Nat × Nat)} {x : Nat × Nat} (h : x ∈ l) : x.1 ^ x.2 ∣ prodL l := by
  induction l with
  | nil => simp at h
  | cons y l ih =>
    rcases List.mem_cons.mp h with z | z
    · rw [z]; exact Nat.dvd_mul_right _ _
    · exact Nat.dvd_trans (ih z) (Nat.dvd_mul_left _ _)
theorem fac_dvd {n : Nat} {l : List (Nat × Nat)} (h : IsFac n l) {x : Nat × Nat} (hx : x ∈ l) : x.1 ∣ n := by
  rw [← h.prod]
  refine Nat.dvd_trans ?_ (prodL_dvd hx)
  obtain ⟨j, e⟩ : ∃ j, x.2 = j + 1 := ⟨x.2 - 1, by have := (h.primes x hx).2; omega⟩
  rw [e, Nat.pow_succ]; exact Nat.dvd_mul_left _ _
theorem prime_in {l : List (Nat × Nat)} {q : Nat} (hq : Prime q) (hl : ∀ x ∈ l, Prime x.1 ∧ 0 < x.2) (h : q ∣ prodL l) : ∃ k, (q, k) ∈ l := by
  induction l with
  | nil =>
    simp only [prodL] at h
    have := Nat.le_of_dvd (by decide) h
    have := hq.1; omega
  | cons x l ih =>
    simp only [prodL] at h
    rcases hq.dvd_mul h with z | z
    · have := hq.eq_of_dvd (hl x (by simp)).1 (hq.dvd_pow z)
      exact ⟨x.2, by rw [this]; simp⟩
    · obtain ⟨k, hk⟩ := ih (fun y hy => hl y (by simp [hy])) z
      exact ⟨k, by simp [hk]⟩
theorem fac_prime_in {n q : Nat} {l : List (Nat × Nat)} (h : IsFac n l) (hq : Prime q) (hd : q ∣ n) : ∃ k, (q, k) ∈ l := prime_in hq h.primes (by rw [h.prod]; exact hd)
theorem Fac.of {n : Nat} {l : List (Nat × Nat)} (h : IsFac n l) (hn : 0 < n) : ∃ d, Fac n l 1 d := by
  have : ∃ d, ∀ x ∈ l, x.1 < d := by
    have key : ∀ l : List (Nat × Nat), ∃ d, ∀ x ∈ l, x.1 < d := fun l => by
      induction l with
      | nil => exact ⟨0, by simp⟩
      | cons y l ih =>
        obtain ⟨d, hd⟩ := ih
        exact ⟨d + y.1 + 1, fun x hx => by
          rcases List.mem_cons.mp hx with z | z
          · rw [z]; omega
          · have := hd x z; omega⟩
    exact key l
  obtain ⟨d, hd⟩ := this
  refine ⟨d + 2, h.sorted, fun x hx => by have := hd x hx; omega, h.primes, by rw [Nat.mul_one]; exact h.prod, fun e h1 h2 h3 => ?_, by decide, by omega⟩
  have := Nat.le_of_dvd (by decide) h3
  omega
end M

/-! orders by a prime, and a number of the order p - 1 -/
namespace M
/-! roots of a polynomial by a prime -/
def ev (l : List Int) (x : Int) : Int := l.foldr (fun c acc => c + x * acc) 0
theorem ev_cons (c : Int) (l : List Int) (x : Int) : ev (c :: l) x = c + x * ev l x := rfl
def sd (r : Int) : List Int → List Int
  | [] => []
  | [_] => []
  | _ :: d :: l => ev (d :: l) r :: sd r (d :: l)
def lead (l : List Int) : Int := l.getLast?.getD 0
theorem sd_len (r : Int) : ∀ (c : Int) (l : List Int), (sd r (c :: l)).length = l.length
  | _, [] => rfl
  | _, d :: l => by rw [sd, List.length_cons, List.length_cons, sd_len r d l]
theorem sd_ev (r x : Int) : ∀ (c : Int) (l : List Int), ev (c :: l) x - ev (c :: l) r = (x - r) * ev (sd r (c :: l)) x
  | c, [] => by simp [ev, sd]
  | c, d :: l => by
    have ih := sd_ev r x d l
    show (c + x * ev (d :: l) x) - (c + r * ev (d :: l) r) = (x - r) * (ev (d :: l) r + x * ev (sd r (d :: l)) x)
    generalize ev (d :: l) x = A at *
    generalize ev (d :: l) r = B at *
    generalize ev (sd r (d :: l)) x = C at *
    grind
theorem sd_lead (r : Int) : ∀ (c d : Int) (l : List Int), lead (sd r (c :: d :: l)) = lead (c :: d :: l)
  | c, d, [] => by simp [sd, lead, ev]
  | c, d, e :: l => by
    have ih := sd_lead r d e l
    rw [sd]
    unfold lead at *
    rw [List.getLast?_cons_cons] 
    have h : sd r (d :: e :: l) ≠ [] := by rw [sd]; simp
    rw [List.getLast?_cons_of_ne_nil h]
    exact ih
theorem dvd_mul_int {p : Nat} (hp : Prime p) {a b : Int} (h : (p : Int) ∣ a * b) : (p : Int) ∣ a ∨ (p : Int) ∣ b := by
  have h1 := Int.ofNat_dvd_left.mp h
  rw [Int.natAbs_mul] at h1
  rcases hp.dvd_mul h1 with z | z
  · exact .inl (Int.ofNat_dvd_left.mpr z)
  · exact .inr (Int.ofNat_dvd_left.mpr z)
/-- as many roots, apart by p, as coefficients: the leading one is divided -/
theorem roots_lead {p : Nat} (hp : Prime p) : ∀ (d : Nat) (c : List Int) (rs : List Int), c.length = d + 1 → rs.length = d + 1 → rs.Pairwise (fun x y => ¬ (p : Int) ∣ y - x) → (∀ r ∈ rs, (p : Int) ∣ ev c r) → (p : Int) ∣ lead c
  | 0, c, rs, hc, hr, _, h => by
    match c, rs, hc, hr with
    | [c], [r], _, _ =>
      have := h r (by simp)
      simpa [ev, lead] using this
  | d + 1, c, rs, hc, hr, hd, h => by
    match c, rs, hc, hr with
    | c0 :: c1 :: c, r :: rs, hc, hr =>
      rw [← sd_lead r c0 c1 c]
      rw [List.pairwise_cons] at hd
      refine roots_lead hp d (sd r (c0 :: c1 :: c)) rs (by rw [sd_len]; simpa using hc) (by simpa using hr) hd.2 fun s hs => ?_
      have e := sd_ev r s c0 (c1 :: c)
      have h1 := Int.dvd_sub (h s (by simp [hs])) (h r (by simp))
      rw [e] at h1
      rcases dvd_mul_int hp h1 with z | z
      · exact absurd z (hd.1 s hs)
      · exact z
theorem ev_xn (m : Nat) (x : Int) : ev (List.replicate m 0 ++ [1]) x = x ^ m := by
  induction m with
  | zero => simp [ev]
  | succ m ih =>
    rw [List.replicate_succ, List.cons_append, ev_cons, ih, Int.pow_succ]
    grind
/-- at most m numbers, apart by p, whose power to m is 1 -/
theorem roots_le {p m : Nat} (hp : Prime p) (hm : 0 < m) {rs : List Int} (hd : rs.Pairwise (fun x y => ¬ (p : Int) ∣ y - x)) (h : ∀ r ∈ rs, (p : Int) ∣ r ^ m - 1) : rs.length ≤ m := by
  rcases Nat.lt_or_ge m rs.length with z | z
  · exfalso
    obtain ⟨k, rfl⟩ : ∃ k, m = k + 1 := ⟨m - 1, by omega⟩
    have hl := roots_lead hp (k + 1) ((-1) :: (List.replicate k 0 ++ [1])) (rs.take (k + 2)) (by simp) (by rw [List.length_take]; omega)
      (hd.sublist (List.take_sublist _ _)) fun r hr => by
        have h1 := h r (List.mem_of_mem_take hr)
        rw [ev_cons, ev_xn]
        have e : -1 + r * r ^ k = r ^ (k + 1) - 1 := by rw [Int.pow_succ]; grind
        rw [e]; exact h1
    have e : lead ((-1) :: (List.replicate k 0 ++ [1])) = 1 := by
      unfold lead
      rw [← List.cons_append, List.getLast?_concat]; rfl
    rw [e] at hl
    have h2 := Int.le_of_dvd (by decide) hl
    have := hp.1
    omega
  · exact z
/-! pigeons -/
theorem pig : ∀ (n : Nat) (l : List Nat), l.Nodup → (∀ x ∈ l, x < n) → l.length ≤ n
  | 0, l, _, h => by
    match l with
    | [] => exact Nat.le_refl 0
    | x :: l => exact absurd (h x (by simp)) (by omega)
  | n + 1, l, hd, h => by
    by_cases hn : n ∈ l
    · obtain ⟨a, b, e⟩ := List.append_of_mem hn
      subst e
      have h1 := pig n (a ++ b) (by
        have := List.nodup_append.mp hd
        have h2 := List.nodup_cons.mp this.2.1
        refine List.nodup_append.mpr ⟨this.1, h2.2, fun x hx y hy => this.2.2 x hx y (by simp [hy])⟩) fun x hx => by
          have h2 : x < n + 1 := h x (by rcases List.mem_append.mp hx with z | z <;> simp [z])
          have h3 : x ≠ n := fun e => by
            subst e
            have := List.nodup_append.mp hd
            rcases List.mem_append.mp hx with z | z
            · exact this.2.2 x z x (by simp) rfl
            · exact (List.nodup_cons.mp this.2.1).1 z
          omega
      rw [List.length_append] at h1 ⊢
      rw [List.length_cons]; omega
    · exact Nat.le_succ_of_le (pig n l hd fun x hx => by
        have h2 := h x hx
        have h3 : x ≠ n := fun e => hn (e ▸ hx)
        omega)
end M

/-! orders -/
namespace M
def is1 (p : Nat) (a : Int) (e : Nat) : Prop := (p : Int) ∣ a ^ e - 1
def un (p : Nat) (a : Int) : Prop := ¬ (p : Int) ∣ a
structure Ord (p : Nat) (a : Int) (m : Nat) : Prop where
  pos : 0 < m
  one : is1 p a m
  least : ∀ f, 0 < f → is1 p a f → m ≤ f
theorem exists_min {P : Nat → Prop} : ∀ n, P n → ∃ m, P m ∧ ∀ k, P k → m ≤ k := by
  intro n
  induction n using Nat.strongRecOn with
  | _ n ih =>
    intro h
    by_cases c : ∃ k, P k ∧ k < n
    · obtain ⟨k, h1, h2⟩ := c
      exact ih k h2 h1
    · exact ⟨n, h, fun k hk => by
        rcases Nat.lt_or_ge k n with z | z
        · exact absurd ⟨k, hk, z⟩ c
        · exact z⟩
theorem exists_max {P : Nat → Prop} (B : Nat) (hB : ∀ n, P n → n ≤ B) {n : Nat} (h : P n) : ∃ m, P m ∧ ∀ k, P k → k ≤ m := by
  obtain ⟨d, ⟨m, hm, e⟩, hd⟩ := exists_min (P := fun d => ∃ m, P m ∧ d = B - m) (B - n) ⟨n, h, rfl⟩
  refine ⟨m, hm, fun k hk => ?_⟩
  have h1 := hd (B - k) ⟨k, hk, rfl⟩
  have := hB k hk
  have := hB m hm
  omega
section
variable {p : Nat} {a b : Int} {e f m n : Nat}
theorem one_zero : is1 p a 0 := by unfold is1; rw [Int.pow_zero]; simp
theorem one_add (h : is1 p a e) (h' : is1 p a f) : is1 p a (e + f) := by
  unfold is1 at *
  have : a ^ (e + f) - 1 = a ^ e * (a ^ f - 1) + (a ^ e - 1) := by rw [Int.pow_add]; grind
  rw [this]
  exact Int.dvd_add (Int.dvd_trans h' ⟨a ^ e, Int.mul_comm _ _⟩) h
theorem one_mul_ (h : is1 p a e) (k : Nat) : is1 p a (e * k) := by
  induction k with
  | zero => rw [Nat.mul_zero]; exact one_zero
  | succ k ih => rw [Nat.mul_succ]; exact one_add ih h
theorem one_of_dvd (h : is1 p a e) (d : e ∣ f) : is1 p a f := by
  obtain ⟨k, rfl⟩ := d
  exact one_mul_ h k
theorem not_dvd_of_one (hp : Prime p) (h : is1 p a e) : ¬ (p : Int) ∣ a ^ e := fun z => by
  have h1 := Int.dvd_sub z h
  rw [show a ^ e - (a ^ e - 1) = 1 by omega] at h1
  have h2 := Int.le_of_dvd (by decide) h1
  have := hp.1
  omega
theorem one_sub (hp : Prime p) (h : is1 p a (e + f)) (h' : is1 p a e) : is1 p a f := by
  have n1 := not_dvd_of_one hp h'
  unfold is1 at *
  have : a ^ (e + f) - 1 = a ^ e * (a ^ f - 1) + (a ^ e - 1) := by rw [Int.pow_add]; grind
  rw [this] at h
  have h2 := Int.dvd_sub h h'
  rw [show a ^ e * (a ^ f - 1) + (a ^ e - 1) - (a ^ e - 1) = a ^ e * (a ^ f - 1) by omega] at h2
  rcases dvd_mul_int hp h2 with z | z
  · exact absurd z n1
  · exact z
theorem Ord.dvd (hp : Prime p) (o : Ord p a m) (h : is1 p a f) : m ∣ f := by
  have h1 : is1 p a (m * (f / m)) := one_mul_ o.one _
  have h2 : is1 p a (f % m) := one_sub hp (e := m * (f / m)) (by rw [Nat.div_add_mod]; exact h) h1
  rcases Nat.eq_zero_or_pos (f % m) with z | z
  · exact Nat.dvd_of_mod_eq_zero z
  · have := o.least _ z h2
    have := Nat.mod_lt f o.pos
    omega
theorem Ord.iff (hp : Prime p) (o : Ord p a m) : is1 p a f ↔ m ∣ f := ⟨o.dvd hp, one_of_dvd o.one⟩
theorem Ord.of_iff (hm : 0 < m) (h : ∀ f, is1 p a f ↔ m ∣ f) : Ord p a m := ⟨hm, (h m).mpr (Nat.dvd_refl m), fun f hf h1 => Nat.le_of_dvd hf ((h f).mp h1)⟩
theorem Ord.unique (hp : Prime p) (o : Ord p a m) (o' : Ord p a n) : m = n := Nat.dvd_antisymm (o.dvd hp o'.one) (o'.dvd hp o.one)
theorem unit_pow (hp : Prime p) (h : un p a) : ∀ e, ¬ (p : Int) ∣ a ^ e
  | 0 => by
    rw [Int.pow_zero]
    intro z
    have := Int.le_of_dvd (by decide) z
    have := hp.1
    omega
  | e + 1 => by
    rw [Int.pow_succ]
    intro z
    rcases dvd_mul_int hp z with z | z
    · exact unit_pow hp h e z
    · exact h z
/-- two powers alike -/
theorem one_of_alike (hp : Prime p) (h : un p a) (hf : (p : Int) ∣ a ^ (e + f) - a ^ e) : is1 p a f := by
  have : a ^ (e + f) - a ^ e = a ^ e * (a ^ f - 1) := by rw [Int.pow_add]; grind
  rw [this] at hf
  rcases dvd_mul_int hp hf with z | z
  · exact absurd z (unit_pow hp h e)
  · exact z
theorem toNat_alike {x y : Int} (hp : 0 < p) (h : (x % (p : Int)).toNat = (y % (p : Int)).toNat) : (p : Int) ∣ y - x := by
  have h1 := Int.emod_nonneg x (show (p : Int) ≠ 0 by omega)
  have h2 := Int.emod_nonneg y (show (p : Int) ≠ 0 by omega)
  have h3 : y % (p : Int) = x % p := by omega
  exact Int.dvd_of_emod_eq_zero (Int.emod_eq_emod_iff_emod_sub_eq_zero.mp h3)
/-- the powers below a bound that has no 1 behind it are unlike, none of them nought -/
theorem powers_le (hp : Prime p) (h : un p a) (no : ∀ f, 0 < f → f < n → ¬ is1 p a f) : n ≤ p - 1 := by
  have hp0 := hp.pos
  have hpos : ∀ i, 0 < (a ^ i % (p : Int)).toNat := fun i => by
    have h1 := Int.emod_nonneg (a ^ i) (show (p : Int) ≠ 0 by omega)
    have h2 : a ^ i % (p : Int) ≠ 0 := fun z => unit_pow hp h i (Int.dvd_of_emod_eq_zero z)
    omega
  have hlt : ∀ i, (a ^ i % (p : Int)).toNat < p := fun i => by
    have h1 := Int.emod_nonneg (a ^ i) (show (p : Int) ≠ 0 by omega)
    have h2 := Int.emod_lt_of_pos (a ^ i) (show (0 : Int) < p by omega)
    omega
  have h1 := pig (p - 1) ((List.range n).map fun i => (a ^ i % (p : Int)).toNat - 1) (by
    unfold List.Nodup
    rw [List.pairwise_map]
    refine List.Pairwise.imp_of_mem ?_ (List.pairwise_lt_range (n := n))
    intro i j hi hj hij e
    have hj' := List.mem_range.mp hj
    have e2 : (a ^ i % (p : Int)).toNat = (a ^ j % (p : Int)).toNat := by have := hpos i; have := hpos j; omega
    have e3 := toNat_alike hp0 e2
    obtain ⟨d, rfl⟩ : ∃ d, j = i + d := ⟨j - i, by omega⟩
    exact no d (by omega) (by omega) (one_of_alike hp h e3)) fun x hx => by
      obtain ⟨i, _, rfl⟩ := List.mem_map.mp hx
      have := hpos i; have := hlt i
      omega
  rwa [List.length_map, List.length_range] at h1
theorem exists_ord (hp : Prime p) (h : un p a) : ∃ m, Ord p a m := by
  have ex : ∃ e, 0 < e ∧ is1 p a e := by
    refine Classical.byContradiction fun no => ?_
    have := powers_le (n := p) hp h fun f hf _ hf' => no ⟨f, hf, hf'⟩
    have := hp.1
    omega
  obtain ⟨e, he⟩ := ex
  obtain ⟨m, h1, h2⟩ := exists_min (P := fun e => 0 < e ∧ is1 p a e) e he
  exact ⟨m, h1.1, h1.2, fun f hf h => h2 f ⟨hf, h⟩⟩
theorem Ord.le (hp : Prime p) (h : un p a) (o : Ord p a m) : m ≤ p - 1 := powers_le hp h fun f h0 h1 h2 => by have := o.least f h0 h2; omega
theorem Ord.unit (hp : Prime p) (o : Ord p a m) : un p a := fun z => by
  have h1 := not_dvd_of_one hp o.one
  obtain ⟨k, rfl⟩ : ∃ k, m = k + 1 := ⟨m - 1, by have := o.pos; omega⟩
  rw [Int.pow_succ] at h1
  exact h1 (Int.dvd_mul_of_dvd_right z)
theorem one_pow_iff {d : Nat} : is1 p (a ^ d) f ↔ is1 p a (d * f) := by unfold is1; rw [Int.pow_mul]
theorem Ord.pow (hp : Prime p) {d c : Nat} (o : Ord p a (d * c)) : Ord p (a ^ d) c := by
  have h0 := o.pos
  have hd : 0 < d := Nat.pos_of_ne_zero fun z => by rw [z, Nat.zero_mul] at h0; omega
  have hc : 0 < c := Nat.pos_of_ne_zero fun z => by rw [z, Nat.mul_zero] at h0; omega
  refine Ord.of_iff hc fun f => ?_
  rw [one_pow_iff, o.iff hp]
  exact Nat.mul_dvd_mul_iff_left hd
theorem one_left (h1 : (p : Int) ∣ (a * b) ^ e - 1) (h2 : is1 p b e) : is1 p a e := by
  unfold is1 at *
  have : (a * b) ^ e - 1 = a ^ e * (b ^ e - 1) + (a ^ e - 1) := by rw [Int.mul_pow]; grind
  rw [this] at h1
  have h3 := Int.dvd_sub h1 (Int.dvd_trans h2 ⟨a ^ e, Int.mul_comm _ _⟩)
  rw [show a ^ e * (b ^ e - 1) + (a ^ e - 1) - a ^ e * (b ^ e - 1) = a ^ e - 1 by omega] at h3
  exact h3
theorem one_both (h1 : is1 p a e) (h2 : is1 p b e) : is1 p (a * b) e := by
  unfold is1 at *
  have : (a * b) ^ e - 1 = a ^ e * (b ^ e - 1) + (a ^ e - 1) := by rw [Int.mul_pow]; grind
  rw [this]
  exact Int.dvd_add (Int.dvd_trans h2 ⟨a ^ e, Int.mul_comm _ _⟩) h1
theorem Ord.mul_ (hp : Prime p) (o : Ord p a m) (o' : Ord p b n) (g : Nat.gcd m n = 1) : Ord p (a * b) (m * n) := by
  refine ⟨Nat.mul_pos o.pos o'.pos, one_both (one_of_dvd o.one (Nat.dvd_mul_right m n)) (one_of_dvd o'.one (Nat.dvd_mul_left n m)), fun f hf h => ?_⟩
  have h1 : is1 p a (f * n) := one_left (b := b) (one_mul_ h n) (one_of_dvd o'.one (Nat.dvd_mul_left n f))
  have h2 : is1 p b (f * m) := one_left (b := a) (by rw [Int.mul_comm]; exact one_mul_ h m) (one_of_dvd o.one (Nat.dvd_mul_left m f))
  have d1 : m ∣ f := Nat.Coprime.dvd_of_dvd_mul_right g (o.dvd hp h1)
  have d2 : n ∣ f := Nat.Coprime.dvd_of_dvd_mul_right (Nat.Coprime.symm g) (o'.dvd hp h2)
  exact Nat.le_of_dvd hf (Nat.Coprime.mul_dvd_of_dvd_of_dvd g d1 d2)
/-- there is a number of the order p - 1, and each number's power to it is 1 -/
theorem full_exists (hp : Prime p) : ∃ a, Ord p a (p - 1) := by
  have hp2 := hp.1
  have u1 : un p 1 := fun z => by have := Int.le_of_dvd (by decide) z; omega
  obtain ⟨n1, o1⟩ := exists_ord hp u1
  obtain ⟨mx, ⟨a, o⟩, hmax⟩ := exists_max (P := fun m => ∃ a, Ord p a m) (p - 1) (fun m ⟨a, o⟩ => o.le hp (o.unit hp)) ⟨1, o1⟩
  have all : ∀ b n, Ord p b n → n ∣ mx := fun b n ob => by
    refine dvd_of_prime_powers n mx ob.pos fun q k hq hd => Classical.byContradiction fun no => ?_
    obtain ⟨v, c, e, hc, hc0⟩ := split_prime hq mx o.pos
    obtain ⟨d, hd⟩ := hd
    have ov : Ord p (a ^ (q ^ v)) c := Ord.pow hp (by rw [← e]; exact o)
    have ow : Ord p (b ^ d) (q ^ k) := Ord.pow hp (by rw [Nat.mul_comm, ← hd]; exact ob)
    have om := Ord.mul_ hp ov ow (Nat.Coprime.symm (coprime_pow hq hc k))
    have h1 := hmax _ ⟨_, om⟩
    have hvk : v < k := by
      rcases Nat.lt_or_ge v k with z | z
      · exact z
      · exact absurd (Nat.dvd_trans (Nat.pow_dvd_pow q z) ⟨c, e⟩) no
    have h2 : q ^ v < q ^ k := Nat.pow_lt_pow_right (by have := hq.1; omega) hvk
    have h3 : c * q ^ v < c * q ^ k := Nat.mul_lt_mul_of_pos_left h2 hc0
    rw [e, Nat.mul_comm (q ^ v)] at h1
    omega
  have h1 : p - 1 ≤ mx := by
    have h := roots_le hp o.pos (rs := (List.range (p - 1)).map fun i => (((i + 1 : Nat)) : Int)) (by
      rw [List.pairwise_map]
      refine List.Pairwise.imp_of_mem ?_ (List.pairwise_lt_range (n := p - 1))
      intro i j hi hj hij z
      have := List.mem_range.mp hj
      have := Int.le_of_dvd (by omega) z
      omega) fun r hr => by
        obtain ⟨i, hi, rfl⟩ := List.mem_map.mp hr
        have hi' := List.mem_range.mp hi
        have ui : un p ((i + 1 : Nat) : Int) := fun z => by have := Int.le_of_dvd (by omega) z; omega
        obtain ⟨n, on⟩ := exists_ord hp ui
        exact one_of_dvd on.one (all _ _ on)
    rwa [List.length_map, List.length_range] at h
  have h2 := o.le hp (o.unit hp)
  exact ⟨a, by rw [show p - 1 = mx by omega]; exact o⟩
theorem fermat (hp : Prime p) (h : un p a) : is1 p a (p - 1) := by
  -- the number's order divides that of a full one
  have hp2 := hp.1
  obtain ⟨g, og⟩ := full_exists hp
  obtain ⟨n, on⟩ := exists_ord hp h
  refine one_of_dvd on.one (dvd_of_prime_powers n _ on.pos fun q k hq hd => Classical.byContradiction fun no => ?_)
  obtain ⟨v, c, e, hc, hc0⟩ := split_prime hq (p - 1) (by omega)
  obtain ⟨d, hd⟩ := hd
  have ov : Ord p (g ^ (q ^ v)) c := Ord.pow hp (by rw [← e]; exact og)
  have ow : Ord p (a ^ d) (q ^ k) := Ord.pow hp (by rw [Nat.mul_comm, ← hd]; exact on)
  have om := Ord.mul_ hp ov ow (Nat.Coprime.symm (coprime_pow hq hc k))
  have h1 := om.le hp (om.unit hp)
  have hvk : v < k := by
    rcases Nat.lt_or_ge v k with z | z
    · exact z
    · exact absurd (Nat.dvd_trans (Nat.pow_dvd_pow q z) ⟨c, e⟩) no
  have h2 : q ^ v < q ^ k := Nat.pow_lt_pow_right (by have := hq.1; omega) hvk
  have h3 : c * q ^ v < c * q ^ k := Nat.mul_lt_mul_of_pos_left h2 hc0
  rw [Nat.mul_comm (q ^ v)] at e
  omega
/-- full, by the primes of p - 1 -/
theorem ord_of_primes (hp : Prime p) (h1 : is1 p a n) (hn : 0 < n) (h : ∀ q, Prime q → q ∣ n → ¬ is1 p a (n / q)) : Ord p a n := by
  have hu : un p a := fun z => by
    obtain ⟨k, rfl⟩ : ∃ k, n = k + 1 := ⟨n - 1, by omega⟩
    exact not_dvd_of_one hp h1 (by rw [Int.pow_succ]; exact Int.dvd_mul_of_dvd_right z)
  obtain ⟨m, o⟩ := exists_ord hp hu
  obtain ⟨c, hc⟩ := o.dvd hp h1
  by_cases e : c = 1
  · rw [e, Nat.mul_one] at hc
    rw [hc]; exact o
  · exfalso
    have hc0 : c ≠ 0 := fun z => by rw [z, Nat.mul_zero] at hc; omega
    obtain ⟨q, hq, d, hd⟩ := exists_prime c (by omega)
    refine h q hq ⟨m * d, by rw [hc, hd]; grind⟩ (one_of_dvd o.one ⟨d, ?_⟩)
    rw [hc, hd, show m * (q * d) = q * (m * d) by grind]
    exact Nat.mul_div_cancel_left _ hq.pos
end
end M

/-! full numbers, by the primes of p - 1 -/
namespace M
theorem pw_one_iff {p : Nat} (hp : 2 ≤ p) {a : Int} {e : Nat} : pw p a e = 1 ↔ is1 p a e := by
  unfold pw is1
  have h1 : (1 : Int) % (p : Int) = 1 := Int.emod_eq_of_lt (by decide) (by omega)
  constructor
  · intro h
    have h2 : a ^ e % (p : Int) = 1 % p := by rw [h, h1]
    exact Int.dvd_of_emod_eq_zero (Int.emod_eq_emod_iff_emod_sub_eq_zero.mp h2)
  · intro h
    rw [← h1]
    exact Int.emod_eq_emod_iff_emod_sub_eq_zero.mpr (Int.emod_eq_zero_of_dvd h)
theorem un_small {p : Nat} {a : Int} (h0 : 0 < a) (h1 : a < p) : un p a := fun z => by have := Int.le_of_dvd h0 z; omega
theorem un_iff {p : Nat} {a : Int} : un p a ↔ a % (p : Int) ≠ 0 := ⟨fun h z => h (Int.dvd_of_emod_eq_zero z), fun h z => h (Int.emod_eq_zero_of_dvd z)⟩
theorem full_iff {p : Nat} (hp : Prime p) {a : Int} (ha : un p a) {l : List (Nat × Nat)} (hl : IsFac (p - 1) l) : Ord p a (p - 1) ↔ ∀ x ∈ l, pw p a ((p - 1) / x.1) ≠ 1 := by
  have hp2 := hp.1
  constructor
  · intro o x hx z
    have h1 := (pw_one_iff hp2).mp z
    have hq := (hl.primes x hx).1
    have hd := fac_dvd hl hx
    have hq2 := hq.1
    have h2 := o.least _ (Nat.div_pos (Nat.le_of_dvd (by omega) hd) hq.pos) h1
    have h3 : (p - 1) / x.1 < p - 1 := Nat.div_lt_self (by omega) (by omega)
    omega
  · intro h
    refine ord_of_primes hp (fermat hp ha) (by omega) fun q hq hd z => ?_
    obtain ⟨k, hk⟩ := fac_prime_in hl hq hd
    exact h _ hk ((pw_one_iff hp2).mpr z)
theorem is1_congr {p : Nat} {a b : Int} (h : (p : Int) ∣ a - b) (e : Nat) : is1 p a e ↔ is1 p b e := by
  have key : ∀ {a b : Int}, (p : Int) ∣ a - b → is1 p a e → is1 p b e := fun {a b} h h1 => by
    unfold is1 at *
    have h2 : a ^ e % (p : Int) = b ^ e % p := by
      have h3 : a % (p : Int) = b % p := Int.emod_eq_emod_iff_emod_sub_eq_zero.mpr (Int.emod_eq_zero_of_dvd h)
      rw [← pow_emod, h3, pow_emod]
    have h4 := Int.dvd_of_emod_eq_zero (Int.emod_eq_emod_iff_emod_sub_eq_zero.mp h2.symm)
    have h5 := Int.dvd_add h4 h1
    rw [show b ^ e - a ^ e + (a ^ e - 1) = b ^ e - 1 by omega] at h5
    exact h5
  refine ⟨key h, key ?_⟩
  rw [show b - a = -(a - b) by omega]
  exact Int.dvd_neg.mpr h
theorem Ord.congr {p : Nat} {a b : Int} {m : Nat} (h : (p : Int) ∣ a - b) (o : Ord p a m) : Ord p b m := ⟨o.pos, (is1_congr h _).mp o.one, fun f hf z => o.least f hf ((is1_congr h _).mpr z)⟩
theorem full_small {p : Nat} (hp : Prime p) : ∃ f : Nat, 0 < f ∧ f < p ∧ Ord p (f : Int) (p - 1) := by
  obtain ⟨a, o⟩ := full_exists hp
  have hp0 := hp.pos
  have h1 := Int.emod_nonneg a (show (p : Int) ≠ 0 by omega)
  have h2 := Int.emod_lt_of_pos a (show (0 : Int) < p by omega)
  have h3 := un_iff.mp (o.unit hp)
  refine ⟨(a % (p : Int)).toNat, by omega, by omega, ?_⟩
  rw [Int.toNat_of_nonneg h1]
  refine o.congr ?_
  have := Int.emod_add_mul_ediv a p
  exact ⟨a / p, by omega⟩
/-- the least one -/
structure LeastFull (p f : Nat) : Prop where
  f0 : 0 < f
  f1 : f < p
  full : Ord p (f : Int) (p - 1)
  least : ∀ g : Nat, 0 < g → g < f → ¬Ord p (g : Int) (p - 1)
theorem paper_prime {p q n : Nat} (hp : Prime p) (hq : Prime q) (hd : q ∣ p - 1) (hn : p ≤ 2 ^ (n + 1)) : q ≤ 2 ^ n := by
  obtain ⟨c, hc⟩ := hd
  have hp2 := hp.1
  have hq2 := hq.1
  rw [Nat.pow_succ] at hn
  by_cases h : 2 ≤ c
  · have : q * 2 ≤ q * c := Nat.mul_le_mul_left q h
    omega
  · have : c = 0 ∨ c = 1 := by omega
    rcases this with rfl | rfl
    · omega
    · rw [Nat.mul_one] at hc
      -- p and p - 1 are primes
      by_cases he : p % 2 = 0
      · rcases hp.2 2 (Nat.dvd_of_mod_eq_zero he) with z | z <;> omega
      · have : 2 ∣ q := Nat.dvd_of_mod_eq_zero (by omega)
        rcases hq.2 2 this with z | z
        · omega
        · omega
end M

/-! the greatest prime below 10 ** 9, and a prime from any number below it on -/
namespace M
/-- no odd number from d on, k of them, divides n -/
def noOdd (n : Nat) : Nat → Nat → Bool
  | 0, _ => true
  | k + 1, d => (n % d != 0) && noOdd n k (d + 2)
theorem noOdd_at {n : Nat} : ∀ {k d : Nat}, noOdd n k d = true → ∀ j, j < k → n % (d + 2 * j) ≠ 0
  | 0, _, _, j, h => by omega
  | k + 1, d, h, j, hj => by
    simp only [noOdd, Bool.and_eq_true, bne_iff_ne, ne_eq] at h
    rcases j with _ | j
    · exact h.1
    · have := noOdd_at h.2 j (by omega)
      rw [show d + 2 * (j + 1) = d + 2 + 2 * j by omega]; exact this
set_option maxRecDepth 100000 in
theorem big_ok : noOdd 999999937 15811 3 = true := by decide +kernel
theorem big_prime : Prime 999999937 := prime_of_no (by decide) fun d h1 h2 h3 => by
  have h4 : d < 31623 := by
    rcases Nat.lt_or_ge d 31623 with z | z
    · exact z
    · have := Nat.mul_le_mul z z; omega
  have h5 := Nat.mod_eq_zero_of_dvd h3
  by_cases e : d % 2 = 0
  · have : 2 ∣ 999999937 := Nat.dvd_trans (Nat.dvd_of_mod_eq_zero e) h3
    have := Nat.mod_eq_zero_of_dvd this
    omega
  · have h6 := noOdd_at big_ok ((d - 3) / 2) (by omega)
    rw [show 3 + 2 * ((d - 3) / 2) = d by omega] at h6
    exact h6 h5
end M

/-! orders by any number; what is taken out of a number whose power is 1 -/
namespace M
section
variable {n : Nat} {a b : Int} {e f m q o : Nat}
theorem one_subN (h : is1 n a (e + f)) (h' : is1 n a e) : is1 n a f := by
  unfold is1 at *
  have : a ^ (e + f) - 1 = a ^ f * (a ^ e - 1) + (a ^ f - 1) := by rw [Int.pow_add]; grind
  rw [this] at h
  have h3 := Int.dvd_sub h (Int.dvd_trans h' ⟨a ^ f, Int.mul_comm _ _⟩)
  rw [show a ^ f * (a ^ e - 1) + (a ^ f - 1) - a ^ f * (a ^ e - 1) = a ^ f - 1 by omega] at h3
  exact h3
theorem Ord.dvdN (o : Ord n a m) (h : is1 n a f) : m ∣ f := by
  have h1 : is1 n a (m * (f / m)) := one_mul_ o.one _
  have h2 : is1 n a (f % m) := one_subN (e := m * (f / m)) (by rw [Nat.div_add_mod]; exact h) h1
  rcases Nat.eq_zero_or_pos (f % m) with z | z
  · exact Nat.dvd_of_mod_eq_zero z
  · have := o.least _ z h2
    have := Nat.mod_lt f o.pos
    omega
theorem Ord.iffN (o : Ord n a m) : is1 n a f ↔ m ∣ f := ⟨o.dvdN, one_of_dvd o.one⟩
theorem Ord.uniqueN (o : Ord n a m) (o' : Ord n a f) : m = f := Nat.dvd_antisymm (o.dvdN o'.one) (o'.dvdN o.one)
theorem ex_ordN (h : is1 n a e) (he : 0 < e) : ∃ m, Ord n a m := by
  obtain ⟨m, h1, h2⟩ := exists_min (P := fun e => 0 < e ∧ is1 n a e) e ⟨he, h⟩
  exact ⟨m, h1.1, h1.2, fun f hf h => h2 f ⟨hf, h⟩⟩
end
/-- how often q stands in n -/
def vq (q n : Nat) : Nat := if _h : 2 ≤ q ∧ 0 < n ∧ n % q = 0 then vq q (n / q) + 1 else 0
termination_by n
decreasing_by exact Nat.div_lt_self _h.2.1 (by omega)
theorem vq_no {q n : Nat} (h : ¬ (2 ≤ q ∧ 0 < n ∧ n % q = 0)) : vq q n = 0 := by rw [vq, dif_neg h]
theorem vq_more {q m : Nat} (hq : 2 ≤ q) (hm : 0 < m) : vq q (q * m) = vq q m + 1 := by
  rw [vq, dif_pos ⟨hq, Nat.mul_pos (by omega) hm, Nat.mul_mod_right q m⟩, Nat.mul_div_cancel_left _ (by omega)]
theorem vq_eq {q m : Nat} (hq : 2 ≤ q) (hm : ¬ q ∣ m) (h0 : 0 < m) : ∀ k, vq q (q ^ k * m) = k
  | 0 => by rw [Nat.pow_zero, Nat.one_mul]; exact vq_no fun h => hm (Nat.dvd_of_mod_eq_zero h.2.2)
  | k + 1 => by
    rw [Nat.pow_succ, Nat.mul_comm (q ^ k) q, Nat.mul_assoc, vq_more hq (Nat.mul_pos (Nat.pow_pos (by omega)) h0), vq_eq hq hm h0 k]
theorem vq_split {q n : Nat} (hq : Prime q) (hn : 0 < n) : ∃ m, n = q ^ vq q n * m ∧ ¬ q ∣ m ∧ 0 < m := by
  obtain ⟨k, m, e, h1, h2⟩ := split_prime hq n hn
  have := vq_eq hq.1 h1 h2 k
  rw [← e] at this
  exact ⟨m, by rw [this]; exact e, h1, h2⟩
theorem vq_pos_iff {q n : Nat} (hq : 2 ≤ q) (hn : 0 < n) : 0 < vq q n ↔ n % q = 0 := by
  constructor
  · intro h
    rcases Nat.eq_zero_or_pos (n % q) with z | z
    · exact z
    · rw [vq_no (by omega)] at h; omega
  · intro h
    rw [vq, dif_pos ⟨hq, hn, h⟩]; omega
theorem pow_split {q v k m c : Nat} (hq : Prime q) (hm : ¬ q ∣ m) (hc : ¬ q ∣ c) : q ^ v * c ∣ q ^ k * m ↔ v ≤ k ∧ c ∣ m := by
  constructor
  · intro h
    constructor
    · have h1 : q ^ v ∣ q ^ k * m := Nat.dvd_trans (Nat.dvd_mul_right _ _) h
      have h2 : q ^ v ∣ q ^ k := Nat.Coprime.dvd_of_dvd_mul_right (coprime_pow hq hm v) h1
      exact (Nat.pow_dvd_pow_iff_le_right (by have := hq.1; omega)).mp h2
    · have h1 : c ∣ q ^ k * m := Nat.dvd_trans (Nat.dvd_mul_left _ _) h
      exact Nat.Coprime.dvd_of_dvd_mul_left (Nat.Coprime.symm (coprime_pow hq hc k)) h1
  · rintro ⟨h1, h2⟩
    exact Nat.mul_dvd_mul (Nat.pow_dvd_pow q h1) h2
theorem prodL_pos : ∀ {l : List (Nat × Nat)}, (∀ x ∈ l, Prime x.1) → 0 < prodL l
  | [], _ => by decide
  | x :: l, h => Nat.mul_pos (Nat.pow_pos (h x (by simp)).pos) (prodL_pos fun y hy => h y (by simp [hy]))
theorem prime_in' {l : List (Nat × Nat)} {q : Nat} (hq : Prime q) (hl : ∀ x ∈ l, Prime x.1) (h : q ∣ prodL l) : ∃ k, (q, k) ∈ l := by
  induction l with
  | nil =>
    simp only [prodL] at h
    have := Nat.le_of_dvd (by decide) h
    have := hq.1; omega
  | cons x l ih =>
    simp only [prodL] at h
    rcases hq.dvd_mul h with z | z
    · have := hq.eq_of_dvd (hl x (by simp)) (hq.dvd_pow z)
      exact ⟨x.2, by rw [this]; simp⟩
    · obtain ⟨k, hk⟩ := ih (fun y hy => hl y (by simp [hy])) z
      exact ⟨k, by simp [hk]⟩
/-- the parting with the manys of o -/
def vL (o : Nat) (l : List (Nat × Nat)) : List (Nat × Nat) := l.map fun x => (x.1, vq x.1 o)
theorem vL_prime {o : Nat} {l : List (Nat × Nat)} (h : ∀ x ∈ l, Prime x.1) : ∀ x ∈ vL o l, Prime x.1 := fun x hx => by
  obtain ⟨y, hy, rfl⟩ := List.mem_map.mp hx
  exact h y hy
theorem vL_dvd {o : Nat} (ho : 0 < o) : ∀ {l : List (Nat × Nat)}, l.Pairwise (fun x y => x.1 < y.1) → (∀ x ∈ l, Prime x.1) → prodL (vL o l) ∣ o
  | [], _, _ => by simp [vL, prodL]
  | x :: l, hs, hp => by
    have hs' := List.pairwise_cons.mp hs
    have hx := hp x (by simp)
    have ih := vL_dvd ho hs'.2 fun y hy => hp y (by simp [hy])
    obtain ⟨m, em, hm, _⟩ := vq_split hx ho
    have hn : ¬ x.1 ∣ prodL (vL o l) := fun z => by
      obtain ⟨k, hk⟩ := prime_in' hx (vL_prime fun y hy => hp y (by simp [hy])) z
      obtain ⟨y, hy, e⟩ := List.mem_map.mp hk
      have h1 := hs'.1 y hy
      have h2 : y.1 = x.1 := (Prod.mk.inj e).1
      omega
    show x.1 ^ vq x.1 o * prodL (vL o l) ∣ o
    exact Nat.Coprime.mul_dvd_of_dvd_of_dvd (coprime_pow hx hn _) ⟨m, em⟩ ih
/-- what is left of e at turn i, o the order -/
structure OF (o E : Nat) (l : List (Nat × Nat)) (i e : Nat) : Prop where
  val : e = prodL (vL o (l.take i)) * prodL (l.drop i)
  dvd : o ∣ e
theorem of_start {o E : Nat} {l : List (Nat × Nat)} (hl : IsFac E l) (h : o ∣ E) : OF o E l 0 E := ⟨by
  rw [List.take_zero, List.drop_zero, hl.prod]; simp [vL, prodL], h⟩
theorem of_step {o E : Nat} {l : List (Nat × Nat)} {i e q b : Nat} (hl : IsFac E l) (o0 : 0 < o) (h : OF o E l i e) (hx : l[i]? = some (q, b)) :
    ∃ m, e = q ^ b * m ∧ ¬ q ∣ m ∧ 0 < m ∧ vq q o ≤ b ∧ (∀ k, o ∣ q ^ k * m ↔ vq q o ≤ k) ∧ OF o E l (i + 1) (q ^ vq q o * m) := by
  have hil : i < l.length := (List.getElem?_eq_some_iff.mp hx).1
  have hxe : l[i] = (q, b) := (List.getElem?_eq_some_iff.mp hx).2
  have hd : l.drop i = (q, b) :: l.drop (i + 1) := by rw [List.drop_eq_getElem_cons hil, hxe]
  have ht : l.take (i + 1) = l.take i ++ [(q, b)] := by rw [List.take_succ, hx]; rfl
  have hsp : l = l.take i ++ (q, b) :: l.drop (i + 1) := by rw [← hd, List.take_append_drop]
  have hso := hl.sorted
  rw [hsp] at hso
  have hso' := List.pairwise_append.mp hso
  have hpr : ∀ x ∈ l, Prime x.1 := fun x hx => (hl.primes x hx).1
  have hq : Prime q := hpr (q, b) (List.mem_of_getElem? hx)
  have p1 : ∀ x ∈ l.take i, Prime x.1 := fun x hx => hpr x (List.mem_of_mem_take hx)
  have p2 : ∀ x ∈ l.drop (i + 1), Prime x.1 := fun x hx => hpr x (List.mem_of_mem_drop hx)
  have n1 : ¬ q ∣ prodL (vL o (l.take i)) := fun z => by
    obtain ⟨k, hk⟩ := prime_in' hq (vL_prime p1) z
    obtain ⟨y, hy, e⟩ := List.mem_map.mp hk
    have h1 := hso'.2.2 y hy (q, b) (by simp)
    have h2 : y.1 = q := (Prod.mk.inj e).1
    have h3 : y.1 < q := h1
    omega
  have n2 : ¬ q ∣ prodL (l.drop (i + 1)) := fun z => by
    obtain ⟨k, hk⟩ := prime_in' hq p2 z
    have h1 := (List.pairwise_cons.mp hso'.2.1).1 _ hk
    have h3 : q < q := h1
    omega
  refine ⟨prodL (vL o (l.take i)) * prodL (l.drop (i + 1)), ?_, fun z => ?_, Nat.mul_pos (prodL_pos (vL_prime p1)) (prodL_pos p2), ?_⟩
  · rw [h.val, hd]; simp only [prodL]; grind
  · rcases hq.dvd_mul z with z | z
    · exact n1 z
    · exact n2 z
  generalize hm : prodL (vL o (l.take i)) * prodL (l.drop (i + 1)) = m
  have em : e = q ^ b * m := by rw [← hm, h.val, hd]; simp only [prodL]; grind
  have hqm : ¬ q ∣ m := fun z => by
    rw [← hm] at z
    rcases hq.dvd_mul z with z | z
    · exact n1 z
    · exact n2 z
  obtain ⟨c, ec, hc, _⟩ := vq_split hq o0
  have hdv := h.dvd
  rw [em] at hdv
  have hb := (pow_split hq hqm hc).mp (by rw [← ec]; exact hdv)
  refine ⟨hb.1, fun k => ?_, ⟨?_, ?_⟩⟩
  · conv => lhs; rw [ec]
    rw [pow_split hq hqm hc]
    exact ⟨fun z => z.1, fun z => ⟨z, hb.2⟩⟩
  · rw [ht, ← hm]
    show _ = prodL (vL o (l.take i ++ [(q, b)])) * _
    unfold vL
    rw [List.map_append, prodL_app]
    simp only [List.map_cons, List.map_nil, prodL]
    grind
  · conv => lhs; rw [ec]
    exact (pow_split hq hqm hc).mpr ⟨Nat.le_refl _, hb.2⟩
theorem of_end {o E : Nat} {l : List (Nat × Nat)} {e : Nat} (hl : IsFac E l) (o0 : 0 < o) (h : OF o E l l.length e) : e = o := by
  have h1 := h.val
  rw [List.take_length, List.drop_length] at h1
  simp only [prodL, Nat.mul_one] at h1
  exact Nat.dvd_antisymm (by rw [h1]; exact vL_dvd o0 hl.sorted fun x hx => (hl.primes x hx).1) h.dvd
theorem of_le {o E : Nat} {l : List (Nat × Nat)} {i e : Nat} (hl : IsFac E l) (hE : 0 < E) (hoE : o ∣ E) (o0 : 0 < o) (h : OF o E l i e) : e ∣ E := by
  rw [h.val, ← hl.prod]
  conv => rhs; rw [← List.take_append_drop i l, prodL_app]
  refine Nat.mul_dvd_mul ?_ (Nat.dvd_refl _)
  have key : ∀ l : List (Nat × Nat), (∀ x ∈ l, vq x.1 o ≤ x.2) → prodL (vL o l) ∣ prodL l := fun l => by
    induction l with
    | nil => intro _; simp [vL, prodL]
    | cons x l ih => intro hx; exact Nat.mul_dvd_mul (Nat.pow_dvd_pow _ (hx x (by simp))) (ih fun y hy => hx y (by simp [hy]))
  refine key _ fun x hx => ?_
  have hx' := List.mem_of_mem_take hx
  obtain ⟨j, hj⟩ := List.getElem?_of_mem hx'
  -- x's many is that of E
  have hq := (hl.primes x hx').1
  have h2 : ∃ m, E = x.1 ^ x.2 * m ∧ ¬ x.1 ∣ m ∧ 0 < m := by
    have hil : j < l.length := (List.getElem?_eq_some_iff.mp hj).1
    have hxe : l[j] = x := (List.getElem?_eq_some_iff.mp hj).2
    have hd : l.drop j = x :: l.drop (j + 1) := by rw [List.drop_eq_getElem_cons hil, hxe]
    have hsp : l = l.take j ++ x :: l.drop (j + 1) := by rw [← hd, List.take_append_drop]
    have hso := hl.sorted
    rw [hsp] at hso
    have hso' := List.pairwise_append.mp hso
    have p1 : ∀ y ∈ l.take j, Prime y.1 := fun y hy => (hl.primes y (List.mem_of_mem_take hy)).1
    have p2 : ∀ y ∈ l.drop (j + 1), Prime y.1 := fun y hy => (hl.primes y (List.mem_of_mem_drop hy)).1
    refine ⟨prodL (l.take j) * prodL (l.drop (j + 1)), ?_, fun z => ?_, Nat.mul_pos (prodL_pos p1) (prodL_pos p2)⟩
    · rw [← hl.prod]
      conv => lhs; rw [hsp]
      rw [prodL_app]; simp only [prodL]; grind
    · rcases hq.dvd_mul z with z | z
      · obtain ⟨k, hk⟩ := prime_in' hq p1 z
        have h1 := hso'.2.2 _ hk x (by simp)
        have h2 : x.1 < x.1 := h1
        omega
      · obtain ⟨k, hk⟩ := prime_in' hq p2 z
        have h1 := (List.pairwise_cons.mp hso'.2.1).1 _ hk
        have h2 : x.1 < x.1 := h1
        omega
  obtain ⟨m, e1, e2, e3⟩ := h2
  obtain ⟨c, ec, hc, _⟩ := vq_split hq o0
  exact ((pow_split hq e2 hc).mp (by rw [← ec, ← e1]; exact hoE)).1
end M

/-! orders of powers, of inverses -/
namespace M
theorem dvd_mul_div {e k f : Nat} (he : 0 < e) : e ∣ k * f ↔ e / Nat.gcd k e ∣ f := by
  have g0 : 0 < Nat.gcd k e := Nat.gcd_pos_of_pos_right k he
  obtain ⟨c, hc⟩ := Nat.gcd_dvd_right k e
  obtain ⟨d, hd⟩ := Nat.gcd_dvd_left k e
  have cop : Nat.gcd d c = 1 := by
    have := Nat.gcd_div (Nat.gcd_dvd_left k e) (Nat.gcd_dvd_right k e)
    rw [Nat.div_self g0] at this
    rw [← this]
    congr 1
    · conv => rhs; rw [hd, Nat.gcd_comm]
      rw [Nat.gcd_comm] at g0
      generalize hg : Nat.gcd e k = g at *
      rw [Nat.gcd_comm] at hd hc
      rw [hg] at hd hc
      have : k / g = d := by rw [hd]; exact Nat.mul_div_cancel_left _ g0
      rw [Nat.gcd_comm, ← hd, hg, this]
    · generalize hg : Nat.gcd k e = g at *
      rw [hc]; exact (Nat.mul_div_cancel_left _ g0).symm
  generalize hg : Nat.gcd k e = g at *
  rw [hc, Nat.mul_div_cancel_left _ g0, hd, Nat.mul_assoc, Nat.mul_dvd_mul_iff_left g0]
  exact ⟨fun h => Nat.Coprime.dvd_of_dvd_mul_left (Nat.Coprime.symm cop) h, fun h => Nat.dvd_trans h (Nat.dvd_mul_left _ _)⟩
theorem Ord.pow_ {p e : Nat} {a : Int} (o : Ord p a e) (k : Nat) : Ord p (a ^ k) (e / Nat.gcd k e) := by
  have g0 : 0 < Nat.gcd k e := Nat.gcd_pos_of_pos_right k o.pos
  refine Ord.of_iff (Nat.div_pos (Nat.le_of_dvd o.pos (Nat.gcd_dvd_right k e)) g0) fun f => ?_
  rw [one_pow_iff, o.iffN]
  exact dvd_mul_div o.pos
theorem pw_alike (p : Nat) (a : Int) (k : Nat) : (p : Int) ∣ a ^ k - pw p a k := by
  unfold pw
  exact Int.dvd_of_emod_eq_zero (Int.emod_eq_emod_iff_emod_sub_eq_zero.mp (by rw [Int.emod_emod]))
theorem Ord.pw {p e : Nat} {a : Int} (o : Ord p a e) (k : Nat) : Ord p (pw p a k) (e / Nat.gcd k e) := (o.pow_ k).congr (pw_alike p a k)
theorem Ord.mod {p e : Nat} {a : Int} (o : Ord p a e) : Ord p (a % p) e := o.congr (Int.dvd_of_emod_eq_zero (Int.emod_eq_emod_iff_emod_sub_eq_zero.mp (by rw [Int.emod_emod])))
theorem is1_one (p e : Nat) : is1 p 1 e := by unfold is1; rw [Int.one_pow]; simp
theorem Ord.inv {p e : Nat} {a b : Int} (h : (b * a - 1) % (p : Int) = 0) (o : Ord p a e) : Ord p b e := by
  have h1 : ∀ f, is1 p (b * a) f := fun f => (is1_congr (Int.dvd_of_emod_eq_zero h) f).mpr (is1_one p f)
  refine Ord.of_iff o.pos fun f => ?_
  rw [← o.iffN]
  constructor
  · intro z
    exact one_left (b := b) (by rw [Int.mul_comm]; exact h1 f) z
  · intro z
    exact one_left (b := a) (h1 f) z
theorem ord_one {p : Nat} : Ord p 1 1 := ⟨by decide, is1_one p 1, fun f hf _ => hf⟩
theorem un_gcd {p : Nat} {a : Int} (hp : Prime p) (h : un p a) : Int.gcd a p = 1 := by
  have h1 : Nat.gcd p a.natAbs = 1 := hp.coprime fun z => h (Int.natAbs_dvd_natAbs.mp (by rw [Int.natAbs_natCast]; exact z))
  rw [Int.gcd_comm]
  exact h1
theorem un_succ {p : Nat} {a : Int} (hp : Prime p) (h : a % (p : Int) = 0) : un p (a + 1) := fun z => by
  have h1 := Int.dvd_sub z (Int.dvd_of_emod_eq_zero h)
  rw [show a + 1 - a = 1 by omega] at h1
  have := Int.le_of_dvd (by decide) h1
  have := hp.1
  omega
end M

/-! how many primes a number has -/
namespace M
def asc : Nat → Nat → Nat
  | _, 0 => 1
  | c, n + 1 => c * asc (c + 1) n
theorem asc_le : ∀ {l : List (Nat × Nat)} {c : Nat}, l.Pairwise (fun x y => x.1 < y.1) → (∀ x ∈ l, c ≤ x.1 ∧ 0 < x.1 ∧ 0 < x.2) → asc c l.length ≤ prodL l
  | [], _, _, _ => Nat.le_refl _
  | x :: l, c, srt, h => by
    have s := List.pairwise_cons.mp srt
    obtain ⟨h1, h0, h2⟩ := h x (by simp)
    have ih := asc_le (c := c + 1) s.2 fun y hy => ⟨by have := s.1 y hy; omega, (h y (by simp [hy])).2.1, (h y (by simp [hy])).2.2⟩
    show c * asc (c + 1) l.length ≤ x.1 ^ x.2 * prodL l
    refine Nat.mul_le_mul (Nat.le_trans h1 ?_) ih
    have := Nat.pow_le_pow_right h0 h2
    rwa [Nat.pow_one] at this
theorem nprimes {n : Nat} {l : List (Nat × Nat)} (hl : IsFac n l) (hn : n ≤ 1000000000) : l.length ≤ 11 := by
  have h := asc_le (c := 2) hl.sorted fun x hx => ⟨(hl.primes x hx).1.1, (hl.primes x hx).1.pos, (hl.primes x hx).2⟩
  rw [hl.prod] at h
  rcases Nat.lt_or_ge 11 l.length with z | z
  · exfalso
    have mono : ∀ k c m, k ≤ m → 1 ≤ c → asc c k ≤ asc c m := by
      intro k
      induction k with
      | zero => intro c m _ hc; exact (by
          have pos : ∀ m c, 1 ≤ c → 1 ≤ asc c m := by
            intro m
            induction m with
            | zero => intro c _; exact Nat.le_refl 1
            | succ m ih => intro c hc; exact Nat.mul_pos hc (ih (c + 1) (by omega))
          exact pos m c hc)
      | succ k ih =>
        intro c m hm hc
        obtain ⟨m', rfl⟩ : ∃ m', m = m' + 1 := ⟨m - 1, by omega⟩
        exact Nat.mul_le_mul_left c (ih (c + 1) m' (by omega) (by omega))
    have h2 := mono 12 2 l.length z (by decide)
    have h3 : asc 2 12 = 6227020800 := by decide +kernel
    omega
  · exact z
end M

/-! places put together -/
namespace M
theorem snoc_ind {α : Type} {motive : List α → Prop} (l : List α) (nil : motive []) (append_singleton : ∀ (l : List α) (a : α), motive l → motive (l ++ [a])) : motive l := by
  have h : ∀ r : List α, motive r.reverse := fun r => by
    induction r with
    | nil => exact nil
    | cons a r ih => rw [List.reverse_cons]; exact append_singleton _ _ ih
  have := h l.reverse
  rwa [List.reverse_reverse] at this
/-- alike by the greatest number that divides both moduli -/
def alike (m r n s : Int) : Prop := (r - s) % (Int.gcd m n : Nat) = 0
instance (m r n s : Int) : Decidable (alike m r n s) := by unfold alike; exact inferInstance
/-- G divides lcm a b: then it divides what gcd G a and gcd G b both divide -/
theorem dvd_of_parts {G a b y : Nat} (h : G ∣ Nat.lcm a b) (h1 : Nat.gcd G a ∣ y) (h2 : Nat.gcd G b ∣ y) : G ∣ y := by
  rcases Nat.eq_zero_or_pos G with z | hG
  · subst z
    have hl : Nat.lcm a b = 0 := Nat.eq_zero_of_zero_dvd h
    have : a = 0 ∨ b = 0 := by
      rcases Nat.eq_zero_or_pos a with q | q
      · exact .inl q
      · rcases Nat.eq_zero_or_pos b with q2 | q2
        · exact .inr q2
        · exact absurd hl (Nat.ne_of_gt (Nat.lcm_pos q q2))
    rcases this with rfl | rfl
    · simpa using h1
    · simpa using h2
  · have key : G ∣ Nat.lcm (Nat.gcd G a) (Nat.gcd G b) := by
      -- gcd G a * gcd G b = G * gcd G (gcd a b)
      have e1 : Nat.gcd (Nat.gcd G a) (Nat.gcd G b) = Nat.gcd G (Nat.gcd a b) := by
        apply Nat.dvd_antisymm
        · refine Nat.dvd_gcd (Nat.dvd_trans (Nat.gcd_dvd_left _ _) (Nat.gcd_dvd_left _ _)) (Nat.dvd_gcd ?_ ?_)
          · exact Nat.dvd_trans (Nat.gcd_dvd_left _ _) (Nat.gcd_dvd_right _ _)
          · exact Nat.dvd_trans (Nat.gcd_dvd_right _ _) (Nat.gcd_dvd_right _ _)
        · refine Nat.dvd_gcd (Nat.dvd_gcd (Nat.gcd_dvd_left _ _) ?_) (Nat.dvd_gcd (Nat.gcd_dvd_left _ _) ?_)
          · exact Nat.dvd_trans (Nat.gcd_dvd_right _ _) (Nat.gcd_dvd_left _ _)
          · exact Nat.dvd_trans (Nat.gcd_dvd_right _ _) (Nat.gcd_dvd_right _ _)
      have e2 : G * Nat.gcd G (Nat.gcd a b) ∣ Nat.gcd G a * Nat.gcd G b := by
        have l1 : G * Nat.gcd G (Nat.gcd a b) = Nat.gcd (G * G) (Nat.gcd (G * a) (G * b)) := by rw [Nat.gcd_mul_left, Nat.gcd_mul_left]
        have l2 : Nat.gcd G a * Nat.gcd G b = Nat.gcd (Nat.gcd (G * G) (G * b)) (Nat.gcd (a * G) (a * b)) := by rw [Nat.gcd_mul_left, Nat.gcd_mul_left, Nat.gcd_mul_right]
        rw [l1, l2]
        refine Nat.dvd_gcd (Nat.dvd_gcd ?_ ?_) (Nat.dvd_gcd ?_ ?_)
        · exact Nat.gcd_dvd_left _ _
        · exact Nat.dvd_trans (Nat.gcd_dvd_right _ _) (Nat.gcd_dvd_right _ _)
        · exact Nat.dvd_trans (Nat.gcd_dvd_right _ _) (by rw [Nat.mul_comm a G]; exact Nat.gcd_dvd_left _ _)
        · have e3 : a * b = Nat.gcd a b * Nat.lcm a b := (Nat.gcd_mul_lcm a b).symm
          rw [e3, Nat.mul_comm (Nat.gcd a b)]
          have e5 : Nat.gcd (G * G) (Nat.gcd (G * a) (G * b)) ∣ G * Nat.gcd a b := by
            refine Nat.dvd_trans (Nat.gcd_dvd_right _ _) ?_
            rw [Nat.gcd_mul_left]
            exact Nat.dvd_refl _
          exact Nat.dvd_trans e5 (Nat.mul_dvd_mul_right h _)
      have gp : 0 < Nat.gcd G (Nat.gcd a b) := Nat.gcd_pos_of_pos_left _ hG
      have e4 : Nat.gcd (Nat.gcd G a) (Nat.gcd G b) * Nat.lcm (Nat.gcd G a) (Nat.gcd G b) = Nat.gcd G a * Nat.gcd G b := Nat.gcd_mul_lcm _ _
      rw [e1] at e4
      rw [← e4, Nat.mul_comm G] at e2
      exact Nat.dvd_of_mul_dvd_mul_left gp e2
    exact Nat.dvd_trans key (Nat.lcm_dvd h1 h2)
/-- the join of two places -/
structure Joined (m r n s w x : Int) : Prop where
  hw : w = (Nat.lcm m.natAbs n.natAbs : Nat)
  x0 : 0 ≤ x
  x1 : x < w
  e1 : (x - r) % m = 0
  e2 : (x - s) % n = 0
theorem lcm_step {m n : Int} (hm : 0 < m) (hn : 0 < n) : m * (n / (Int.gcd m n : Nat)) = (Nat.lcm m.natAbs n.natAbs : Nat) := by
  obtain ⟨a, rfl⟩ := Int.eq_ofNat_of_zero_le (Int.le_of_lt hm)
  obtain ⟨b, rfl⟩ := Int.eq_ofNat_of_zero_le (Int.le_of_lt hn)
  show (a : Int) * ((b : Int) / ((Nat.gcd a b : Nat) : Int)) = ((Nat.lcm a b : Nat) : Int)
  rw [← Int.natCast_ediv, ← Int.natCast_mul]
  congr 1
  unfold Nat.lcm
  exact (Nat.mul_div_assoc a (Nat.gcd_dvd_right a b)).symm
theorem join_ok {m r n s i : Int} (hm : 0 < m) (hn : 0 < n) (ha : alike m r n s) (hi : (i * (m / (Int.gcd m n : Nat)) - 1) % (n / (Int.gcd m n : Nat)) = 0) :
    Joined m r n s (m * (n / (Int.gcd m n : Nat))) ((r + m * ((s - r) / (Int.gcd m n : Nat) * i % (n / (Int.gcd m n : Nat)))) % (m * (n / (Int.gcd m n : Nat)))) := by
  have gp : 0 < (Int.gcd m n : Nat) := Int.gcd_pos_of_ne_zero_left n (by omega)
  have gd1 : ((Int.gcd m n : Nat) : Int) ∣ m := Int.gcd_dvd_left ..
  have gd2 : ((Int.gcd m n : Nat) : Int) ∣ n := Int.gcd_dvd_right ..
  have ha' : ((Int.gcd m n : Nat) : Int) ∣ s - r := by
    have : ((Int.gcd m n : Nat) : Int) ∣ r - s := Int.dvd_of_emod_eq_zero ha
    have e : s - r = -(r - s) := by omega
    rw [e]; exact (Int.dvd_neg).mpr this
  have hl := lcm_step hm hn
  generalize ((Int.gcd m n : Nat) : Int) = g at *
  obtain ⟨a, rfl⟩ := gd1
  obtain ⟨b, rfl⟩ := gd2
  obtain ⟨c, hc⟩ := ha'
  have g0 : g ≠ 0 := by
    intro z; subst z; simp at hm
  rw [Int.mul_ediv_cancel_left _ g0] at hi hl ⊢
  rw [Int.mul_ediv_cancel_left _ g0] at hi
  rw [hc, Int.mul_ediv_cancel_left _ g0]
  have hw : 0 < g * a * b := by
    have hb : 0 < b * g := by rw [Int.mul_comm]; exact hn
    rw [hl]
    exact Int.natCast_pos.mpr (Nat.lcm_pos (by omega) (by omega))
  have hwne : g * a * b ≠ 0 := by omega
  refine ⟨hl, Int.emod_nonneg _ hwne, Int.emod_lt_of_pos _ hw, ?_, ?_⟩
  · -- by m
    refine Int.emod_eq_zero_of_dvd ?_
    have e := Int.emod_add_mul_ediv (r + g * a * (c * i % b)) (g * a * b)
    refine ⟨(c * i % b) - b * ((r + g * a * (c * i % b)) / (g * a * b)), ?_⟩
    grind
  · refine Int.emod_eq_zero_of_dvd ?_
    have e := Int.emod_add_mul_ediv (r + g * a * (c * i % b)) (g * a * b)
    have e2 := Int.emod_add_mul_ediv (c * i) b
    obtain ⟨k, hk⟩ := Int.dvd_of_emod_eq_zero hi
    -- a (c i - b q) = c + b (c k - a q)
    refine ⟨c * k - a * (c * i / b) - a * ((r + g * a * (c * i % b)) / (g * a * b)), ?_⟩
    generalize (r + g * a * (c * i % b)) / (g * a * b) = Q at *
    generalize (r + g * a * (c * i % b)) % (g * a * b) = X at *
    generalize c * i % b = T at *
    generalize c * i / b = Q2 at *
    have e3 : g * b * (c * k - a * Q2 - a * Q) = g * (c * (b * k)) - g * a * (b * Q2) - g * a * b * Q := by grind
    rw [e3, ← hk]
    grind
/-- the least number that all moduli divide -/
def lcmL (pl : List (Int × Int)) : Nat := pl.foldl (fun w q => Nat.lcm w q.1.natAbs) 1
theorem lcmL_snoc (pl : List (Int × Int)) (q : Int × Int) : lcmL (pl ++ [q]) = Nat.lcm (lcmL pl) q.1.natAbs := by unfold lcmL; rw [List.foldl_append]; rfl
theorem dvd_of_all (y : Nat) : ∀ (pl : List (Int × Int)) (G : Nat), G ∣ lcmL pl → (∀ q ∈ pl, Nat.gcd G q.1.natAbs ∣ y) → G ∣ y := by
  intro pl
  induction pl using snoc_ind with
  | nil => intro G h _; exact Nat.dvd_trans h (Nat.one_dvd y)
  | append_singleton pl q ih =>
    intro G h hq
    rw [lcmL_snoc] at h
    refine dvd_of_parts h (ih _ (Nat.gcd_dvd_right _ _) fun p hp => ?_) (hq q (by simp))
    refine Nat.dvd_trans (Nat.dvd_gcd ?_ (Nat.gcd_dvd_right _ _)) (hq p (by simp [hp]))
    exact Nat.dvd_trans (Nat.gcd_dvd_left _ _) (Nat.gcd_dvd_left _ _)
/-- places put together so far -/
structure Put (pl : List (Int × Int)) (w x : Int) : Prop where
  hw : w = (lcmL pl : Nat)
  x0 : 0 ≤ x
  x1 : x < w
  at_ : ∀ q ∈ pl, (x - q.2) % q.1 = 0
theorem put_nil : Put [] 1 0 := ⟨rfl, by decide, by decide, by simp⟩
theorem put_pos {pl : List (Int × Int)} {w x : Int} (h : Put pl w x) : 0 < w := by have := h.x0; have := h.x1; omega
theorem put_alike {pl : List (Int × Int)} {w x n s : Int} (h : Put pl w x) (ha : ∀ q ∈ pl, alike q.1 q.2 n s) : alike w x n s := by
  have key : Int.gcd w n ∣ (x - s).natAbs := by
    refine dvd_of_all _ pl _ ?_ fun q hq => ?_
    · have e : w.natAbs = lcmL pl := by have := h.hw; omega
      rw [← e]; exact Nat.gcd_dvd_left _ _
    · have d1 : Nat.gcd (Int.gcd w n) q.1.natAbs ∣ q.1.natAbs := Nat.gcd_dvd_right _ _
      have d2 : Nat.gcd (Int.gcd w n) q.1.natAbs ∣ Int.gcd q.1 n := Nat.dvd_gcd d1 (Nat.dvd_trans (Nat.gcd_dvd_left _ _) (Nat.gcd_dvd_right _ _))
      have z1 : ((Nat.gcd (Int.gcd w n) q.1.natAbs : Nat) : Int) ∣ x - q.2 := Int.dvd_trans (Int.ofNat_dvd_left.mpr d1) (Int.dvd_of_emod_eq_zero (h.at_ q hq))
      have z2 : ((Nat.gcd (Int.gcd w n) q.1.natAbs : Nat) : Int) ∣ q.2 - s := Int.dvd_trans (Int.natCast_dvd_natCast.mpr d2) (Int.dvd_of_emod_eq_zero (ha q hq))
      have z3 := Int.dvd_add z1 z2
      rw [show x - q.2 + (q.2 - s) = x - s by omega] at z3
      exact Int.ofNat_dvd_left.mp z3
  exact Int.emod_eq_zero_of_dvd (Int.ofNat_dvd_left.mpr key)
theorem put_more {pl : List (Int × Int)} {w x n s w' x' : Int} (h : Put pl w x) (j : Joined w x n s w' x') : Put (pl ++ [(n, s)]) w' x' := by
  refine ⟨?_, j.x0, j.x1, fun q hq => ?_⟩
  · rw [j.hw, lcmL_snoc]
    have e : w.natAbs = lcmL pl := by have := h.hw; omega
    rw [e]
  · rcases List.mem_append.mp hq with z | z
    · have hd : q.1 ∣ w := by
        -- each modulus divides the whole
        have hh := h.hw
        have : ∀ (l : List (Int × Int)) (p : Int × Int), p ∈ l → p.1.natAbs ∣ lcmL l := by
          intro l
          induction l using snoc_ind with
          | nil => intro p hp; simp at hp
          | append_singleton l r ih =>
            intro p hp
            rw [lcmL_snoc]
            rcases List.mem_append.mp hp with u | u
            · exact Nat.dvd_trans (ih p u) (Nat.dvd_lcm_left _ _)
            · rw [List.mem_singleton.mp u]; exact Nat.dvd_lcm_right _ _
        rw [hh]
        exact Int.ofNat_dvd_right.mpr (this pl q z)
      have e1 : w ∣ x' - x := Int.dvd_of_emod_eq_zero j.e1
      have e2 : q.1 ∣ x - q.2 := Int.dvd_of_emod_eq_zero (h.at_ q z)
      have e3 := Int.dvd_add (Int.dvd_trans hd e1) e2
      rw [show x' - x + (x - q.2) = x' - q.2 by omega] at e3
      exact Int.emod_eq_zero_of_dvd e3
    · rw [List.mem_singleton.mp z]; exact j.e2
/-- no two of them are apart -/
def allAlike (pl : List (Int × Int)) : Prop := ∀ (i j : Nat) (p q : Int × Int), i < j → pl[i]? = some p → pl[j]? = some q → alike p.1 p.2 q.1 q.2
def alikeBefore (pl : List (Int × Int)) (i j : Nat) : Prop := ∀ (i' j' : Nat) (p q : Int × Int), i' < j' → (i' < i ∨ i' = i ∧ j' < j) → pl[i']? = some p → pl[j']? = some q → alike p.1 p.2 q.1 q.2
def firstApart (pl : List (Int × Int)) (i j : Nat) : Prop := i < j ∧ (∃ p q, pl[i]? = some p ∧ pl[j]? = some q ∧ ¬alike p.1 p.2 q.1 q.2) ∧ alikeBefore pl i j
theorem before_row {pl : List (Int × Int)} {i : Nat} (h : alikeBefore pl i pl.length) : alikeBefore pl (i + 1) (i + 2) := fun i' j' p q l o hp hq => by
  have hj : j' < pl.length := (List.getElem?_eq_some_iff.mp hq).1
  refine h i' j' p q l ?_ hp hq
  omega
theorem before_one {pl : List (Int × Int)} {i j : Nat} {p q : Int × Int} (h : alikeBefore pl i j) (hp : pl[i]? = some p) (hq : pl[j]? = some q) (ha : alike p.1 p.2 q.1 q.2) : alikeBefore pl i (j + 1) := fun i' j' p' q' l o hp' hq' => by
  by_cases e : i' = i ∧ j' = j
  · obtain ⟨rfl, rfl⟩ := e
    rw [hp] at hp'; rw [hq] at hq'
    cases hp'; cases hq'; exact ha
  · exact h i' j' p' q' l (by omega) hp' hq'
theorem before_zero (pl : List (Int × Int)) : alikeBefore pl 0 1 := fun i' j' p q l o hp hq => by omega
theorem before_all {pl : List (Int × Int)} {j : Nat} (h : alikeBefore pl pl.length j) : allAlike pl := fun i' j' p q l hp hq => by
  have hj : i' < pl.length := (List.getElem?_eq_some_iff.mp hp).1
  exact h i' j' p q l (.inl hj) hp hq
theorem put_le {pl : List (Int × Int)} {w x : Int} (h : Put pl w x) (hm : ∀ q ∈ pl, 0 < q.1 ∧ q.1 < 2 ^ 60) (hl : pl.length ≤ 12) : w < 2 ^ 721 := by
  have key : ∀ l : List (Int × Int), (∀ q ∈ l, 0 < q.1 ∧ q.1 < 2 ^ 60) → lcmL l ≤ 2 ^ (60 * l.length) := fun l => by
    refine snoc_ind (motive := fun l => (∀ q ∈ l, 0 < q.1 ∧ q.1 < 2 ^ 60) → lcmL l ≤ 2 ^ (60 * l.length)) l (fun _ => by decide) (fun l q ih hq => ?_)
    rw [lcmL_snoc, List.length_append]
    have h1 := ih fun p hp => hq p (by simp [hp])
    have h2 := hq q (by simp)
    have h3 : Nat.lcm (lcmL l) q.1.natAbs ≤ lcmL l * q.1.natAbs := Nat.div_le_self _ _
    have h4 : lcmL l * q.1.natAbs ≤ 2 ^ (60 * l.length) * 2 ^ 60 := Nat.mul_le_mul h1 (by omega)
    rw [← Nat.pow_add] at h4
    exact Nat.le_trans h3 h4
  have h1 := key pl hm
  have h2 : 2 ^ (60 * pl.length) ≤ 2 ^ 720 := Nat.pow_le_pow_right (by decide) (by omega)
  have h3 := h.hw
  have h4 : lcmL pl ≤ 2 ^ 720 := Nat.le_trans h1 h2
  have h5 : (2 : Nat) ^ 720 < 2 ^ 721 := Nat.pow_lt_pow_right (by decide) (by decide)
  have h6 : ((lcmL pl : Nat) : Int) < ((2 ^ 721 : Nat) : Int) := Int.ofNat_lt.mpr (Nat.lt_of_le_of_lt h4 h5)
  rw [h3]
  exact_mod_cast h6
theorem put_two {c d : Nat} {r s w x : Int} (h : Put [((c : Int), r), ((d : Int), s)] w x) : w = (c : Int) / ((Nat.gcd c d : Nat) : Int) * d := by
  rw [h.hw, ← Int.natCast_ediv, ← Int.natCast_mul]
  congr 1
  show Nat.lcm (Nat.lcm 1 c) d = _
  rw [Nat.lcm_one_left]
  unfold Nat.lcm
  rw [Nat.mul_comm c d, Nat.mul_div_assoc d (Nat.gcd_dvd_left c d), Nat.mul_comm]
theorem put_unique {pl : List (Int × Int)} {w x w' x' : Int} (h : Put pl w x) (h' : Put pl w' x') : w = w' ∧ x = x' := by
  have ew : w = w' := by rw [h.hw, h'.hw]
  refine ⟨ew, ?_⟩
  have key : ∀ (y : Int) (l : List (Int × Int)), (∀ q ∈ l, q.1 ∣ y) → ((lcmL l : Nat) : Int) ∣ y := fun y l => by
    refine snoc_ind (motive := fun l => (∀ q ∈ l, q.1 ∣ y) → ((lcmL l : Nat) : Int) ∣ y) l (fun _ => Int.one_dvd _) (fun l q ih hq => ?_)
    rw [lcmL_snoc]
    have h1 := ih fun p hp => hq p (by simp [hp])
    have h2 := hq q (by simp)
    exact Int.ofNat_dvd_left.mpr (Nat.lcm_dvd (Int.ofNat_dvd_left.mp h1) (Int.natAbs_dvd_natAbs.mpr h2))
  have d := key (x - x') pl fun q hq => by
    have d1 := Int.dvd_of_emod_eq_zero (h.at_ q hq)
    have d2 := Int.dvd_of_emod_eq_zero (h'.at_ q hq)
    have d3 := Int.dvd_sub d1 d2
    rw [show x - q.2 - (x' - q.2) = x - x' by omega] at d3
    exact d3
  rw [← h.hw] at d
  have z := Int.emod_eq_emod_iff_emod_sub_eq_zero.mpr (Int.emod_eq_zero_of_dvd d)
  have a0 := h.x0
  have a1 := h.x1
  have b0 := h'.x0
  have b1 := h'.x1
  rw [Int.emod_eq_of_lt a0 a1, Int.emod_eq_of_lt b0 (by omega)] at z
  exact z
theorem lcm_lt (pl : List (Int × Int)) (hm : ∀ q ∈ pl, 0 < q.1 ∧ q.1 < 2 ^ 60) (hl : pl.length ≤ 12) : lcmL pl < 2 ^ 721 := by
  have key : ∀ l : List (Int × Int), (∀ q ∈ l, 0 < q.1 ∧ q.1 < 2 ^ 60) → lcmL l ≤ 2 ^ (60 * l.length) := fun l => by
    refine snoc_ind (motive := fun l => (∀ q ∈ l, 0 < q.1 ∧ q.1 < 2 ^ 60) → lcmL l ≤ 2 ^ (60 * l.length)) l (fun _ => by decide) (fun l q ih hq => ?_)
    rw [lcmL_snoc, List.length_append]
    have h1 := ih fun p hp => hq p (by simp [hp])
    have h2 := hq q (by simp)
    have h3 : Nat.lcm (lcmL l) q.1.natAbs ≤ lcmL l * q.1.natAbs := Nat.div_le_self _ _
    have h4 : lcmL l * q.1.natAbs ≤ 2 ^ (60 * l.length) * 2 ^ 60 := Nat.mul_le_mul h1 (by omega)
    rw [← Nat.pow_add] at h4
    exact Nat.le_trans h3 h4
  have h1 := key pl hm
  have h2 : 2 ^ (60 * pl.length) ≤ 2 ^ 720 := Nat.pow_le_pow_right (by decide) (by omega)
  have h5 : (2 : Nat) ^ 720 < 2 ^ 721 := Nat.pow_lt_pow_right (by decide) (by decide)
  exact Nat.lt_of_le_of_lt (Nat.le_trans h1 h2) h5
theorem lcm_pos (pl : List (Int × Int)) (hm : ∀ q ∈ pl, 0 < q.1) : 0 < lcmL pl := by
  refine snoc_ind (motive := fun l => (∀ q ∈ l, 0 < q.1) → 0 < lcmL l) pl (fun _ => by decide) (fun l q ih hq => ?_) hm
  rw [lcmL_snoc]
  have := hq q (by simp)
  exact Nat.lcm_pos (ih fun p hp => hq p (by simp [hp])) (by omega)
theorem first_unique {pl : List (Int × Int)} {i j i' j' : Nat} (h : firstApart pl i j) (h' : firstApart pl i' j') : i = i' ∧ j = j' := by
  obtain ⟨l, ⟨p, q, hp, hq, z⟩, b⟩ := h
  obtain ⟨l', ⟨p', q', hp', hq', z'⟩, b'⟩ := h'
  by_cases c : i < i' ∨ i = i' ∧ j < j'
  · exact absurd (b' i j p q l c hp hq) z
  · by_cases c' : i' < i ∨ i' = i ∧ j' < j
    · exact absurd (b i' j' p' q' l' c' hp' hq') z'
    · omega
end M

/-! half of p - 1: what shows that there is no square root -/
namespace M
theorem half_even {p : Nat} (hp : Prime p) (h2 : p ≠ 2) : p - 1 = 2 * ((p - 1) / 2) ∧ 0 < (p - 1) / 2 := by
  have := hp.1
  have : p % 2 = 1 := by
    rcases Nat.mod_two_eq_zero_or_one p with z | z
    · rcases hp.2 2 (Nat.dvd_of_mod_eq_zero z) with e | e
      · omega
      · exact absurd e.symm h2
    · exact z
  omega
theorem pw_of_dvd {p : Nat} {a : Int} {e : Nat} {r : Int} (h0 : 0 ≤ r) (h1 : r < p) (h : (p : Int) ∣ a ^ e - r) : pw p a e = r := by
  unfold pw
  rw [Int.emod_eq_emod_iff_emod_sub_eq_zero.mpr (Int.emod_eq_zero_of_dvd h), Int.emod_eq_of_lt h0 h1]
theorem pw_nought {p : Nat} {a : Int} {e : Nat} (h : (p : Int) ∣ a) (he : 0 < e) : pw p a e = 0 := by
  obtain ⟨k, rfl⟩ : ∃ k, e = k + 1 := ⟨e - 1, by omega⟩
  unfold pw
  rw [Int.pow_succ]
  exact Int.emod_eq_zero_of_dvd (Int.dvd_trans h ⟨a ^ k, Int.mul_comm _ _⟩)
theorem half_full {p : Nat} (hp : Prime p) (h2 : p ≠ 2) {f : Int} (o : Ord p f (p - 1)) : pw p f ((p - 1) / 2) = (p : Int) - 1 := by
  obtain ⟨he, h0⟩ := half_even hp h2
  have hp2 := hp.1
  have h1 := o.one
  unfold is1 at h1
  have e : f ^ (p - 1) - 1 = (f ^ ((p - 1) / 2) - 1) * (f ^ ((p - 1) / 2) + 1) := by
    conv => lhs; rw [he, Nat.mul_comm, Int.pow_mul]
    grind
  rw [e] at h1
  rcases dvd_mul_int hp h1 with z | z
  · have := o.least _ h0 z
    omega
  · refine pw_of_dvd (by omega) (by omega) ?_
    have h3 := Int.dvd_sub z (Int.dvd_refl (p : Int))
    rw [show f ^ ((p - 1) / 2) + 1 - (p : Int) = f ^ ((p - 1) / 2) - ((p : Int) - 1) by omega] at h3
    exact h3
theorem half_square {p : Nat} (hp : Prime p) (h2 : p ≠ 2) {x : Int} (hx : un p x) : pw p (x * x) ((p - 1) / 2) = 1 := by
  obtain ⟨he, h0⟩ := half_even hp h2
  have h1 := fermat hp hx
  refine (pw_one_iff hp.1).mpr ?_
  unfold is1 at *
  rw [he, Int.pow_mul] at h1
  rw [show x * x = x ^ 2 by rw [Int.pow_succ, Int.pow_succ, Int.pow_zero, Int.one_mul]]
  exact h1
theorem half_times {p : Nat} (hp : Prime p) (h2 : p ≠ 2) {x f : Int} (hx : un p x) (o : Ord p f (p - 1)) : pw p (x * x * f) ((p - 1) / 2) = (p : Int) - 1 := by
  have hp2 := hp.1
  rw [pw_prod, half_square hp h2 hx, half_full hp h2 o, Int.one_mul]
  exact Int.emod_eq_of_lt (by omega) (by omega)
theorem half_not {p : Nat} (hp : Prime p) (h2 : p ≠ 2) (x : Int) : pw p (x * x - p) ((p - 1) / 2) ≠ (p : Int) - 1 := by
  have hp2 := hp.1
  rw [pw_congr (b := x * x) (by rw [Int.sub_emod_right])]
  by_cases hx : un p x
  · rw [half_square hp h2 hx]; omega
  · have hd : (p : Int) ∣ x := Classical.byContradiction hx
    rw [pw_nought (Int.dvd_trans hd ⟨x, rfl⟩) (half_even hp h2).2]; omega
end M

/-! orders of products -/
namespace M
theorem ord_mul_up {p e f h : Nat} {a b : Int} (oa : Ord p a e) (ob : Ord p b f) (oh : Ord p (a * b) h) : h ∣ e * f / Nat.gcd e f := by
  have g0 : 0 < Nat.gcd e f := Nat.gcd_pos_of_pos_left f oa.pos
  refine oh.dvdN (one_both (one_of_dvd oa.one ?_) (one_of_dvd ob.one ?_))
  · rw [Nat.mul_div_assoc _ (Nat.gcd_dvd_right e f)]; exact Nat.dvd_mul_right _ _
  · rw [Nat.mul_comm, Nat.mul_div_assoc _ (Nat.gcd_dvd_left e f)]; exact Nat.dvd_mul_right _ _
theorem ord_mul_low {p e f h : Nat} {a b : Int} (oa : Ord p a e) (ob : Ord p b f) (oh : Ord p (a * b) h) : e / Nat.gcd e f * (f / Nat.gcd e f) ∣ h := by
  have g0 : 0 < Nat.gcd e f := Nat.gcd_pos_of_pos_left f oa.pos
  have h1 : is1 p a (h * f) := one_left (b := b) (one_mul_ oh.one f) (one_of_dvd ob.one (Nat.dvd_mul_left f h))
  have h2 : is1 p b (h * e) := one_left (b := a) (by rw [Int.mul_comm]; exact one_mul_ oh.one e) (one_of_dvd oa.one (Nat.dvd_mul_left e h))
  have d1 : e / Nat.gcd e f ∣ h := by
    have := (dvd_mul_div (k := f) (f := h) oa.pos).mp (by rw [Nat.mul_comm]; exact oa.dvdN h1)
    rwa [Nat.gcd_comm] at this
  have d2 : f / Nat.gcd e f ∣ h := (dvd_mul_div (k := e) (f := h) ob.pos).mp (by rw [Nat.mul_comm]; exact ob.dvdN h2)
  have cop : Nat.gcd (e / Nat.gcd e f) (f / Nat.gcd e f) = 1 := by
    rw [Nat.gcd_div (Nat.gcd_dvd_left e f) (Nat.gcd_dvd_right e f), Nat.div_self g0]
  exact Nat.Coprime.mul_dvd_of_dvd_of_dvd cop d1 d2
theorem ord_mul_one {p e f h : Nat} {a b : Int} (oa : Ord p a e) (ob : Ord p b f) (oh : Ord p (a * b) h) (g : Nat.gcd e f = 1) : h = e * f := by
  have h1 := ord_mul_up oa ob oh
  have h2 := ord_mul_low oa ob oh
  rw [g] at h1 h2
  simp only [Nat.div_one] at h1 h2
  exact Nat.dvd_antisymm h1 h2
theorem ord_sq {p e : Nat} {a : Int} (oa : Ord p a e) : Ord p (a * a) (e / (2 - e % 2)) := by
  have h1 := oa.pow_ 2
  rw [show a ^ 2 = a * a by rw [Int.pow_succ, Int.pow_one]] at h1
  have g : Nat.gcd 2 e = 2 - e % 2 := by
    rw [Nat.gcd_rec]
    rcases Nat.mod_two_eq_zero_or_one e with z | z
    · rw [z]; simp
    · rw [z]; simp
  rwa [g] at h1
theorem un_mul {p : Nat} {a b : Int} (hp : Prime p) (ha : un p a) (hb : un p b) : un p (a * b) := fun z => by
  rcases dvd_mul_int hp z with w | w
  · exact ha w
  · exact hb w
theorem mod_alike (p : Nat) (a : Int) : (p : Int) ∣ a - a % p := Int.dvd_of_emod_eq_zero (Int.emod_eq_emod_iff_emod_sub_eq_zero.mp (by rw [Int.emod_emod]))
theorem ord_mods {p e : Nat} {a b : Int} (o : Ord p (a * b) e) : Ord p (a % p * (b % p)) e := o.congr (by
  obtain ⟨c, hc⟩ := mod_alike p a
  obtain ⟨d, hd⟩ := mod_alike p b
  exact ⟨c * b + a % p * d, by
    have : a * b - a % p * (b % p) = (a - a % p) * b + a % p * (b - b % p) := by grind
    rw [this, hc, hd]; grind⟩)
theorem un_pw {p : Nat} {f : Int} (hp : Prime p) (h : un p f) (k : Nat) : un p (pw p f k) := fun z => by
  have h1 := pw_alike p f k
  have h2 := Int.dvd_add h1 z
  rw [show f ^ k - pw p f k + pw p f k = f ^ k by omega] at h2
  exact unit_pow hp h k h2
end M

/-! the walk to a square root -/
namespace M
/-- m squarings bring t to 1, no fewer -/
structure IsM (p : Nat) (t : Int) (m : Nat) : Prop where
  one : is1 p t (2 ^ m)
  least : ∀ i, i < m → ¬ is1 p t (2 ^ i)
section
variable {p s m odd : Nat} {a f z t r w : Int}
theorem isM_ex {j : Nat} (h : is1 p t (2 ^ j)) : ∃ m, IsM p t m ∧ m ≤ j := by
  obtain ⟨m, h1, h2⟩ := exists_min (P := fun i => is1 p t (2 ^ i)) j h
  exact ⟨m, ⟨h1, fun i hi z => by have := h2 i z; omega⟩, h2 j h⟩
theorem IsM.unique {m' : Nat} (h : IsM p t m) (h' : IsM p t m') : m = m' := by
  rcases Nat.lt_trichotomy m m' with z | z | z
  · exact absurd h.one (h'.least m z)
  · exact z
  · exact absurd h'.one (h.least m' z)
theorem z_ord (hp : Prime p) (o : Ord p f (p - 1)) (h : p - 1 = odd * 2 ^ s) (h0 : 0 < odd) : Ord p (pw p f odd) (2 ^ s) := by
  have h1 := o.pw odd
  have g : Nat.gcd odd (p - 1) = odd := Nat.gcd_eq_left ⟨_, h⟩
  rw [g, h, Nat.mul_div_cancel_left _ h0] at h1
  exact h1
theorem is1_mod (e : Nat) : is1 p (t % p) e ↔ is1 p t e := by
  have h := mod_alike p t
  exact (is1_congr h e).symm
theorem is1_pw (k e : Nat) : is1 p (pw p a k) e ↔ is1 p a (k * e) := by
  rw [← one_pow_iff]
  exact (is1_congr (pw_alike p a k) e).symm
/-- -1, squared 1 -/
theorem minus_one (hp : Prime p) {x : Int} (h : (p : Int) ∣ x * x - 1) (n : ¬ (p : Int) ∣ x - 1) : (p : Int) ∣ x + 1 := by
  rw [show x * x - 1 = (x - 1) * (x + 1) by grind] at h
  exact (dvd_mul_int hp h).resolve_left n
theorem walk_step (hp : Prime p) (oz : Ord p z (2 ^ s)) (ht : IsM p t m) (m0 : 0 < m) (ms : m < s) :
    is1 p (t * pw p z (2 ^ (s - m - 1)) * pw p z (2 ^ (s - m - 1)) % p) (2 ^ (m - 1)) := by
  rw [is1_mod]
  obtain ⟨k, rfl⟩ : ∃ k, m = k + 1 := ⟨m - 1, by omega⟩
  rw [Nat.add_sub_cancel]
  generalize hw : pw p z (2 ^ (s - (k + 1) - 1)) = w
  -- u = t^(2^k), v = (w w)^(2^k)
  have hu1 : (p : Int) ∣ t ^ (2 ^ k) * t ^ (2 ^ k) - 1 := by
    have := ht.one
    unfold is1 at this
    rw [Nat.pow_succ, Int.pow_mul] at this
    rw [show t ^ (2 ^ k) * t ^ (2 ^ k) = (t ^ (2 ^ k)) ^ 2 by rw [Int.pow_succ, Int.pow_succ, Int.pow_zero, Int.one_mul]]
    exact this
  have hu := minus_one hp hu1 (ht.least k (by omega))
  have hw1 : ∀ e, is1 p w e ↔ is1 p z (2 ^ (s - (k + 1) - 1) * e) := fun e => by rw [← hw]; exact is1_pw _ _
  have e1 : 2 ^ (s - (k + 1) - 1) * 2 ^ (k + 2) = 2 ^ s := by rw [← Nat.pow_add]; congr 1; omega
  have e2 : 2 ^ (s - (k + 1) - 1) * 2 ^ (k + 1) = 2 ^ (s - 1) := by rw [← Nat.pow_add]; congr 1; omega
  have hvv : (w * w) ^ (2 ^ k) = w ^ (2 ^ (k + 1)) := by
    rw [show w * w = w ^ 2 by rw [Int.pow_succ, Int.pow_succ, Int.pow_zero, Int.one_mul], ← Int.pow_mul, Nat.pow_succ, Nat.mul_comm]
  have hv1 : (p : Int) ∣ (w * w) ^ (2 ^ k) * (w * w) ^ (2 ^ k) - 1 := by
    have : is1 p w (2 ^ (k + 2)) := (hw1 _).mpr (by rw [e1]; exact oz.one)
    unfold is1 at this
    rw [show 2 ^ (k + 2) = 2 ^ (k + 1) * 2 by rw [Nat.pow_succ], Int.pow_mul] at this
    rw [hvv, show w ^ (2 ^ (k + 1)) * w ^ (2 ^ (k + 1)) = (w ^ (2 ^ (k + 1))) ^ 2 by rw [Int.pow_succ, Int.pow_succ, Int.pow_zero, Int.one_mul]]
    exact this
  have hv2 : ¬ (p : Int) ∣ (w * w) ^ (2 ^ k) - 1 := fun y => by
    rw [hvv] at y
    have h1 : is1 p z (2 ^ (s - 1)) := by rw [← e2]; exact (hw1 _).mp y
    have h2 := oz.least _ (Nat.pow_pos (by decide)) h1
    have h3 : 2 ^ (s - 1) < 2 ^ s := Nat.pow_lt_pow_right (by decide) (by omega)
    omega
  have hv := minus_one hp hv1 hv2
  unfold is1
  have e3 : (t * w * w) ^ (2 ^ k) - 1 = (t ^ (2 ^ k) + 1) * ((w * w) ^ (2 ^ k) + 1) - (t ^ (2 ^ k) + 1) - ((w * w) ^ (2 ^ k) + 1) := by
    rw [Int.mul_assoc, Int.mul_pow]; grind
  rw [e3]
  exact Int.dvd_sub (Int.dvd_sub (Int.dvd_trans hu ⟨_, rfl⟩) hu) hv
theorem walk_start (hp : Prime p) (hu : un p a) (h : p - 1 = odd * 2 ^ s) (ho : odd % 2 = 1) (hh : p ≠ 2 → is1 p a ((p - 1) / 2)) : ∃ j, is1 p (pw p a odd) (2 ^ j) ∧ (0 < j → j < s) ∧ (j < s ∨ j = 0) := by
  have hp2 := hp.1
  by_cases e : p = 2
  · have hs : s = 0 := by
      rcases Nat.eq_zero_or_pos s with z | z
      · exact z
      · obtain ⟨k, rfl⟩ : ∃ k, s = k + 1 := ⟨s - 1, by omega⟩
        rw [e, Nat.pow_succ, ← Nat.mul_assoc] at h
        omega
    refine ⟨0, ?_, fun z => by omega, .inr rfl⟩
    rw [is1_pw, Nat.pow_zero, Nat.mul_one]
    have h1 := fermat hp hu
    rw [h, hs, Nat.pow_zero, Nat.mul_one] at h1
    exact h1
  · obtain ⟨he, h0⟩ := half_even hp e
    have hs : 0 < s := by
      rcases Nat.eq_zero_or_pos s with z | z
      · subst z
        rw [Nat.pow_zero, Nat.mul_one] at h
        omega
      · exact z
    obtain ⟨k, rfl⟩ : ∃ k, s = k + 1 := ⟨s - 1, by omega⟩
    refine ⟨k, ?_, fun _ => by omega, .inl (by omega)⟩
    rw [is1_pw]
    have h2 : (p - 1) / 2 = odd * 2 ^ k := by
      rw [h, Nat.pow_succ, ← Nat.mul_assoc]
      exact Nat.mul_div_cancel _ (by decide)
    rw [← h2]
    exact hh e
/-- the rows of the walk from r and t on -/
inductive Rows (p : Nat) (a z : Int) (s : Nat) : Int → Int → List (Int × Int × Nat) → Prop
  | last {r t : Int} : IsM p t 0 → (p : Int) ∣ r * r - a * t → Rows p a z s r t [(r, t, 0)]
  | more {r t : Int} {m : Nat} {l : List (Int × Int × Nat)} : IsM p t m → 0 < m → m < s → (p : Int) ∣ r * r - a * t →
      Rows p a z s (r * pw p z (2 ^ (s - m - 1)) % p) (t * pw p z (2 ^ (s - m - 1)) * pw p z (2 ^ (s - m - 1)) % p) l → Rows p a z s r t ((r, t, m) :: l)
theorem rt_start (h : p - 1 = odd * 2 ^ s) (ho : odd % 2 = 1) : (p : Int) ∣ pw p a ((odd + 1) / 2) * pw p a ((odd + 1) / 2) - a * pw p a odd := by
  have h1 := pw_alike p a ((odd + 1) / 2)
  have h2 := pw_alike p a odd
  generalize pw p a ((odd + 1) / 2) = r at h1 ⊢
  generalize pw p a odd = t at h2 ⊢
  have e : a ^ ((odd + 1) / 2) * a ^ ((odd + 1) / 2) = a * a ^ odd := by
    rw [← Int.pow_add, show (odd + 1) / 2 + (odd + 1) / 2 = odd + 1 by omega, Int.pow_succ, Int.mul_comm]
  generalize a ^ ((odd + 1) / 2) = x at h1 e
  generalize a ^ odd = y at h2 e
  have e2 : r * r - a * t = a * (y - t) - (x - r) * (x + r) := by grind
  rw [e2]
  exact Int.dvd_sub (Int.dvd_trans h2 ⟨a, Int.mul_comm _ _⟩) (Int.dvd_trans h1 ⟨_, rfl⟩)
theorem rt_step (h : (p : Int) ∣ r * r - a * t) : (p : Int) ∣ r * w % p * (r * w % p) - a * (t * w * w % p) := by
  have h1 := mod_alike p (r * w)
  have h2 := mod_alike p (t * w * w)
  generalize r * w % (p : Int) = x at h1 ⊢
  generalize t * w * w % (p : Int) = y at h2 ⊢
  have e2 : x * x - a * y = (r * r - a * t) * (w * w) + a * (t * w * w - y) - (r * w - x) * (r * w + x) := by grind
  rw [e2]
  exact Int.dvd_sub (Int.dvd_add (Int.dvd_trans h ⟨_, rfl⟩) (Int.dvd_trans h2 ⟨a, Int.mul_comm _ _⟩)) (Int.dvd_trans h1 ⟨_, rfl⟩)
theorem Rows.root {l : List (Int × Int × Nat)} (h : Rows p a z s r t l) : ∃ r' t', l.getLast? = some (r', t', 0) ∧ (p : Int) ∣ r' * r' - a := by
  induction h with
  | @last r t h1 h2 =>
    refine ⟨r, t, rfl, ?_⟩
    have h3 := h1.one
    unfold is1 at h3
    rw [Nat.pow_zero, Int.pow_succ, Int.pow_zero, Int.one_mul] at h3
    have e : r * r - a = (r * r - a * t) + a * (t - 1) := by grind
    rw [e]
    exact Int.dvd_add h2 (Int.dvd_trans h3 ⟨a, Int.mul_comm _ _⟩)
  | @more r t m l h1 h2 h3 h4 h5 ih =>
    obtain ⟨r', t', h6, h7⟩ := ih
    refine ⟨r', t', ?_, h7⟩
    rw [List.getLast?_cons, h6]; rfl
end
/-- the square roots of a by p, rising -/
structure IsRoots (p : Nat) (a : Int) (xs : List Int) : Prop where
  sorted : xs.Pairwise (· < ·)
  iff : ∀ y, y ∈ xs ↔ 0 ≤ y ∧ y < p ∧ (p : Int) ∣ y * y - a
theorem sorted_ext : ∀ {xs ys : List Int}, xs.Pairwise (· < ·) → ys.Pairwise (· < ·) → (∀ y, y ∈ xs ↔ y ∈ ys) → xs = ys
  | [], [], _, _, _ => rfl
  | [], y :: ys, _, _, h => absurd ((h y).mpr (by simp)) (by simp)
  | x :: xs, [], _, _, h => absurd ((h x).mp (by simp)) (by simp)
  | x :: xs, y :: ys, hx, hy, h => by
    have hx' := List.pairwise_cons.mp hx
    have hy' := List.pairwise_cons.mp hy
    have e : x = y := by
      rcases List.mem_cons.mp ((h x).mp (by simp)) with z | z
      · exact z
      · rcases List.mem_cons.mp ((h y).mpr (by simp)) with w | w
        · exact w.symm
        · have := hx'.1 y w
          have := hy'.1 x z
          omega
    subst e
    congr 1
    refine sorted_ext hx'.2 hy'.2 fun y => ⟨fun m => ?_, fun m => ?_⟩
    · rcases List.mem_cons.mp ((h y).mp (by simp [m])) with z | z
      · have := hx'.1 y m; omega
      · exact z
    · rcases List.mem_cons.mp ((h y).mpr (by simp [m])) with z | z
      · have := hy'.1 y m; omega
      · exact z
theorem IsRoots.unique {p : Nat} {a : Int} {xs ys : List Int} (h : IsRoots p a xs) (h' : IsRoots p a ys) : xs = ys := sorted_ext h.sorted h'.sorted fun y => (h.iff y).trans (h'.iff y).symm
theorem IsRoots.congr {p : Nat} {a b : Int} {xs : List Int} (h : IsRoots p a xs) (e : (p : Int) ∣ a - b) : IsRoots p b xs := ⟨h.sorted, fun y => by
  rw [h.iff]
  constructor
  · rintro ⟨h1, h2, h3⟩
    refine ⟨h1, h2, ?_⟩
    have := Int.dvd_add h3 e
    rwa [show y * y - a + (a - b) = y * y - b by omega] at this
  · rintro ⟨h1, h2, h3⟩
    refine ⟨h1, h2, ?_⟩
    have := Int.dvd_sub h3 e
    rwa [show y * y - b - (a - b) = y * y - a by omega] at this⟩
theorem roots_nought {p : Nat} {a : Int} (hp : Prime p) (h : (p : Int) ∣ a) : IsRoots p a [0] := ⟨by simp, fun y => by
  have hp2 := hp.1
  rw [List.mem_singleton]
  constructor
  · rintro rfl
    refine ⟨by omega, by omega, ?_⟩
    rw [show (0 : Int) * 0 - a = -a by omega]
    exact Int.dvd_neg.mpr h
  · rintro ⟨h1, h2, h3⟩
    have h4 := Int.dvd_add h3 h
    rw [show y * y - a + a = y * y by omega] at h4
    have h5 : (p : Int) ∣ y := (dvd_mul_int hp h4).elim id id
    rcases Int.lt_or_eq_of_le h1 with z | z
    · have := Int.le_of_dvd z h5; omega
    · exact z.symm⟩
theorem roots_none {p : Nat} {a : Int} (hp : Prime p) (h2 : p ≠ 2) (h : pw p a ((p - 1) / 2) = (p : Int) - 1) : IsRoots p a [] := ⟨.nil, fun y => by
  have hp2 := hp.1
  refine ⟨fun z => by simp at z, fun ⟨h1, h3, h4⟩ => ?_⟩
  exfalso
  have e : pw p (y * y) ((p - 1) / 2) = pw p a ((p - 1) / 2) := pw_congr (Int.emod_eq_emod_iff_emod_sub_eq_zero.mpr (Int.emod_eq_zero_of_dvd h4)) _
  rw [← e] at h
  by_cases hy : un p y
  · rw [half_square hp h2 hy] at h; omega
  · have hd : (p : Int) ∣ y := Classical.byContradiction hy
    rw [pw_nought (Int.dvd_trans hd ⟨y, rfl⟩) (half_even hp h2).2] at h; omega⟩
theorem roots_two {p : Nat} {a r : Int} {ns : List Int} (hp : Prime p) (h2 : p ≠ 2) (hu : un p a) (r0 : 0 ≤ r) (r1 : r < p) (h : (p : Int) ∣ r * r - a) (pm : ns.Perm [r, p - r]) (srt : ns.Pairwise (· ≤ ·)) : IsRoots p a ns := by
  have hp2 := hp.1
  have hr : r ≠ 0 := fun z => hu (by
    rw [z, show (0 : Int) * 0 - a = -a by omega] at h
    exact Int.dvd_neg.mp h)
  have hodd : p % 2 = 1 := by
    have := half_even hp h2
    omega
  have nd : ns.Nodup := pm.nodup_iff.mpr (by
    refine List.nodup_cons.mpr ⟨fun z => ?_, List.nodup_cons.mpr ⟨by simp, .nil⟩⟩
    have := List.mem_singleton.mp z
    omega)
  refine ⟨(srt.and nd).imp fun z => by have := z.1; have := z.2; omega, fun y => ?_⟩
  have hm : y ∈ ns ↔ y = r ∨ y = p - r := by rw [pm.mem_iff]; simp
  rw [hm]
  constructor
  · rintro (rfl | rfl)
    · exact ⟨r0, r1, h⟩
    · refine ⟨by omega, by omega, ?_⟩
      have e : ((p : Int) - r) * ((p : Int) - r) - a = (r * r - a) + (p : Int) * ((p : Int) - 2 * r) := by grind
      rw [e]
      exact Int.dvd_add h ⟨_, rfl⟩
  · rintro ⟨y0, y1, hy⟩
    have h3 := Int.dvd_sub hy h
    rw [show y * y - a - (r * r - a) = (y - r) * (y + r) by grind] at h3
    rcases dvd_mul_int hp h3 with z | z
    · left
      obtain ⟨c, hc⟩ := z
      have : c = 0 := by
        rcases Int.lt_trichotomy c 0 with w | w | w
        · have : (p : Int) * c ≤ p * (-1) := Int.mul_le_mul_of_nonneg_left (by omega) (by omega)
          omega
        · exact w
        · have : (p : Int) * 1 ≤ p * c := Int.mul_le_mul_of_nonneg_left (by omega) (by omega)
          omega
      rw [this] at hc
      omega
    · right
      obtain ⟨c, hc⟩ := z
      have : c = 1 := by
        rcases Int.lt_trichotomy c 1 with w | w | w
        · have : (p : Int) * c ≤ p * 0 := Int.mul_le_mul_of_nonneg_left (by omega) (by omega)
          omega
        · exact w
        · have : (p : Int) * 2 ≤ p * c := Int.mul_le_mul_of_nonneg_left (by omega) (by omega)
          omega
      rw [this] at hc
      omega
theorem roots_two2 {a r : Int} (hu : un 2 a) (r0 : 0 ≤ r) (r1 : r < 2) (h : ((2 : Nat) : Int) ∣ r * r - a) : IsRoots 2 a [r] := by
  have hr : r = 1 := by
    have : r = 0 ∨ r = 1 := by omega
    rcases this with rfl | rfl
    · exact absurd (by rw [show (0 : Int) * 0 - a = -a by omega] at h; exact Int.dvd_neg.mp h) hu
    · rfl
  subst hr
  refine ⟨by simp, fun y => ?_⟩
  rw [List.mem_singleton]
  constructor
  · rintro rfl
    exact ⟨by decide, by decide, h⟩
  · rintro ⟨y0, y1, hy⟩
    have : y = 0 ∨ y = 1 := by omega
    rcases this with rfl | rfl
    · exact absurd (by rw [show (0 : Int) * 0 - a = -a by omega] at hy; exact Int.dvd_neg.mp hy) hu
    · rfl
/-- the half power is 1 where it isn't p - 1 -/
theorem half_one {p : Nat} {a : Int} (hp : Prime p) (h2 : p ≠ 2) (hu : un p a) (h : pw p a ((p - 1) / 2) ≠ (p : Int) - 1) : is1 p a ((p - 1) / 2) := by
  have hp2 := hp.1
  obtain ⟨he, h0⟩ := half_even hp h2
  have h1 := fermat hp hu
  unfold is1 at h1 ⊢
  have e : a ^ (p - 1) - 1 = (a ^ ((p - 1) / 2) - 1) * (a ^ ((p - 1) / 2) + 1) := by
    conv => lhs; rw [he, Nat.mul_comm, Int.pow_mul]
    grind
  rw [e] at h1
  rcases dvd_mul_int hp h1 with z | z
  · exact z
  · exact absurd (pw_of_dvd (by omega) (by omega) (by
      have h3 := Int.dvd_sub z (Int.dvd_refl (p : Int))
      rw [show a ^ ((p - 1) / 2) + 1 - (p : Int) = a ^ ((p - 1) / 2) - ((p : Int) - 1) by omega] at h3
      exact h3)) h
end M

/-! powers of a number of an order: they are all numbers whose power to it is 1 -/
namespace M
theorem pow_apart {p d : Nat} {a : Int} (hp : Prime p) (o : Ord p a d) {i j : Nat} (h : i < j) (hj : j < i + d) : ¬ (p : Int) ∣ a ^ j - a ^ i := fun z => by
  have e : j = i + (j - i) := by omega
  rw [e] at z
  have := o.least (j - i) (by omega) (one_of_alike hp (o.unit hp) z)
  omega
theorem ord_powers {p d : Nat} {a x : Int} (hp : Prime p) (o : Ord p a d) (h : is1 p x d) : ∃ k, k < d ∧ (p : Int) ∣ x - a ^ k := by
  refine Classical.byContradiction fun no => ?_
  have h1 : ((List.range d).map fun k => a ^ k).Pairwise fun x y => ¬ (p : Int) ∣ y - x := by
    rw [List.pairwise_map]
    refine List.Pairwise.imp_of_mem ?_ List.pairwise_lt_range
    intro i j hi hj hij
    have := List.mem_range.mp hj
    exact pow_apart hp o hij (by omega)
  have h2 : (x :: (List.range d).map fun k => a ^ k).Pairwise fun x y => ¬ (p : Int) ∣ y - x := by
    refine List.pairwise_cons.mpr ⟨fun y hy z => ?_, h1⟩
    obtain ⟨k, hk, rfl⟩ := List.mem_map.mp hy
    refine no ⟨k, List.mem_range.mp hk, ?_⟩
    rw [← Int.neg_sub]
    exact Int.dvd_neg.mpr z
  have h3 := roots_le hp o.pos h2 fun r hr => by
    rcases List.mem_cons.mp hr with z | z
    · rw [z]; exact h
    · obtain ⟨k, _, rfl⟩ := List.mem_map.mp z
      have := (one_pow_iff (p := p) (a := a) (d := k) (f := d)).mpr (by rw [Nat.mul_comm]; exact one_mul_ o.one k)
      exact this
  rw [List.length_cons, List.length_map, List.length_range] at h3
  omega
theorem pw_alike_eq {p : Nat} (hp : 2 ≤ p) {x : Int} {a : Int} {k : Nat} (h : (p : Int) ∣ x - a ^ k) (x0 : 0 ≤ x) (x1 : x < p) : pw p a k = x := by
  have h1 := pw_alike p a k
  have h2 : (p : Int) ∣ x - pw p a k := by
    have e : x - pw p a k = (x - a ^ k) + (a ^ k - pw p a k) := by omega
    rw [e]; exact Int.dvd_add h h1
  unfold pw at h2 ⊢
  have a0 := Int.emod_nonneg (a ^ k) (show (p : Int) ≠ 0 by omega)
  have a1 := Int.emod_lt_of_pos (a ^ k) (show (0 : Int) < p by omega)
  obtain ⟨c, hc⟩ := h2
  have hc0 : c = 0 := by
    rcases Int.lt_trichotomy c 0 with z | z | z
    · have : (p : Int) * c ≤ p * (-1) := Int.mul_le_mul_of_nonneg_left (by omega) (by omega)
      omega
    · exact z
    · have : (p : Int) * 1 ≤ p * c := Int.mul_le_mul_of_nonneg_left (by omega) (by omega)
      omega
  rw [hc0, Int.mul_zero] at hc
  omega
end M

/-! roots of any order -/
namespace M
/-- alike by p -/
abbrev al (p : Nat) (x y : Int) : Prop := (p : Int) ∣ x - y
theorem al_refl (p : Nat) (x : Int) : al p x x := by unfold al; rw [Int.sub_self]; exact Int.dvd_zero _
theorem al_symm {p : Nat} {x y : Int} (h : al p x y) : al p y x := by
  unfold al at h ⊢
  rw [← Int.neg_sub]; exact Int.dvd_neg.mpr h
theorem al_trans {p : Nat} {x y z : Int} (h : al p x y) (h' : al p y z) : al p x z := by
  unfold al at h h' ⊢
  rw [show x - z = (x - y) + (y - z) by omega]; exact Int.dvd_add h h'
theorem al_mul {p : Nat} {x y u v : Int} (h : al p x y) (h' : al p u v) : al p (x * u) (y * v) := by
  unfold al at h h' ⊢
  rw [show x * u - y * v = (x - y) * u + y * (u - v) by grind]
  exact Int.dvd_add (Int.dvd_mul_of_dvd_left h) (Int.dvd_mul_of_dvd_right h')
theorem al_pow {p : Nat} {x y : Int} (h : al p x y) : ∀ k : Nat, al p (x ^ k) (y ^ k)
  | 0 => by rw [Int.pow_zero, Int.pow_zero]; exact al_refl _ _
  | k + 1 => by rw [Int.pow_succ, Int.pow_succ]; exact al_mul (al_pow h k) h
theorem al_mod (p : Nat) (x : Int) : al p (x % p) x := al_symm (Int.dvd_of_emod_eq_zero (Int.emod_eq_emod_iff_emod_sub_eq_zero.mp (by rw [Int.emod_emod])))
theorem al_pw (p : Nat) (a : Int) (k : Nat) : al p (pw p a k) (a ^ k) := al_mod p _
theorem al_eq {p : Nat} {x y : Int} (h : al p x y) (x0 : 0 ≤ x) (x1 : x < p) (y0 : 0 ≤ y) (y1 : y < p) : x = y := by
  have h1 := Int.emod_eq_emod_iff_emod_sub_eq_zero.mpr (Int.emod_eq_zero_of_dvd h)
  rwa [Int.emod_eq_of_lt x0 x1, Int.emod_eq_of_lt y0 y1] at h1
theorem al_emod {p : Nat} {x y : Int} (h : al p x y) : x % (p : Int) = y % (p : Int) := Int.emod_eq_emod_iff_emod_sub_eq_zero.mpr (Int.emod_eq_zero_of_dvd h)
theorem al_of_emod {p : Nat} {x y : Int} (h : x % (p : Int) = y % (p : Int)) : al p x y := Int.dvd_of_emod_eq_zero (Int.emod_eq_emod_iff_emod_sub_eq_zero.mp h)
theorem pow_al {p N : Nat} {w : Int} (o : is1 p w N) {i j : Nat} (h : i % N = j % N) : al p (w ^ i) (w ^ j) := by
  have key : ∀ i : Nat, al p (w ^ i) (w ^ (i % N)) := fun i => by
    have e : w ^ i = (w ^ N) ^ (i / N) * w ^ (i % N) := by rw [← Int.pow_mul, ← Int.pow_add, Nat.div_add_mod]
    rw [e]
    have h1 : al p ((w ^ N) ^ (i / N)) (1 ^ (i / N)) := al_pow o _
    rw [Int.one_pow] at h1
    have := al_mul h1 (al_refl p (w ^ (i % N)))
    rwa [Int.one_mul] at this
  exact al_trans (key i) (by rw [h]; exact al_symm (key j))
theorem al_pow_inv {p N : Nat} (hp : Prime p) {w : Int} (o : Ord p w N) {i j : Nat} (h : al p (w ^ i) (w ^ j)) : i % N = j % N := by
  have hi := al_trans (al_trans (pow_al o.one (Nat.mod_mod i N)) h) (pow_al o.one (Nat.mod_mod j N).symm)
  have n0 := o.pos
  have b1 := Nat.mod_lt i n0
  have b2 := Nat.mod_lt j n0
  rcases Nat.lt_trichotomy (i % N) (j % N) with z | z | z
  · exact absurd (al_symm hi) (pow_apart hp o z (by omega))
  · exact z
  · exact absurd hi (pow_apart hp o z (by omega))
/-- one digit -/
theorem digit_step {p q m k P : Nat} {w c : Int} (hq : 2 ≤ q) (hk : k < m) (o : Ord p w (q ^ m)) (h : al p c (w ^ P)) :
    pw p (c * pw p w (q ^ m - P % q ^ k) % p) (q ^ m / (q ^ k * q)) = pw p (pw p w (q ^ m / q)) (P / q ^ k % q) ∧ P % q ^ k + q ^ k * (P / q ^ k % q) = P % q ^ (k + 1) := by
  have qk : 0 < q ^ k := Nat.pow_pos (by omega)
  have e1 : q ^ m = q ^ k * q * q ^ (m - k - 1) := by rw [← Nat.pow_succ, ← Nat.pow_add]; congr 1; omega
  have e2 : q ^ m / (q ^ k * q) = q ^ (m - k - 1) := by rw [e1]; exact Nat.mul_div_cancel_left _ (Nat.mul_pos qk (by omega))
  have e3 : q ^ m / q = q ^ k * q ^ (m - k - 1) := by
    rw [e1, show q ^ k * q * q ^ (m - k - 1) = q * (q ^ k * q ^ (m - k - 1)) by grind]
    exact Nat.mul_div_cancel_left _ (by omega)
  refine ⟨?_, by rw [Nat.pow_succ, Nat.mod_mul]⟩
  rw [e2, e3]
  refine al_emod ?_
  have le : P % q ^ k ≤ q ^ m := by
    have := Nat.mod_lt P qk
    have := Nat.pow_le_pow_right (show 0 < q by omega) (show k ≤ m by omega)
    omega
  have h1 : al p (c * pw p w (q ^ m - P % q ^ k) % p) (w ^ (P + (q ^ m - P % q ^ k))) := by
    refine al_trans (al_mod p _) ?_
    rw [Int.pow_add]
    exact al_mul h (al_pw p w _)
  have e4 : P + (q ^ m - P % q ^ k) = q ^ k * (P / q ^ k) + q ^ m := by
    have := Nat.div_add_mod P (q ^ k)
    omega
  refine al_trans (al_pow h1 _) (al_trans ?_ (al_symm (al_pow (al_pw p w _) _)))
  rw [e4, ← Int.pow_mul, ← Int.pow_mul]
  refine pow_al o.one ?_
  generalize P / q ^ k = D
  rw [Nat.add_mul]
  have e5 : (q ^ k * D * q ^ (m - k - 1) + q ^ m * q ^ (m - k - 1)) % q ^ m = q ^ k * D * q ^ (m - k - 1) % q ^ m := Nat.add_mul_mod_self_left _ _ _
  rw [e5]
  have e6 : q ^ k * q ^ (m - k - 1) * q = q ^ m := by rw [e1]; grind
  have e7 : q ^ k * D * q ^ (m - k - 1) = q ^ k * q ^ (m - k - 1) * (D % q) + q ^ m * (D / q) := by
    rw [← e6]
    have := Nat.div_add_mod D q
    calc q ^ k * D * q ^ (m - k - 1) = q ^ k * q ^ (m - k - 1) * D := by grind
      _ = q ^ k * q ^ (m - k - 1) * (q * (D / q) + D % q) := by rw [this]
      _ = _ := by grind
  rw [e7]
  exact Nat.add_mul_mod_self_left _ _ _
/-- an inverse told by a rest -/
theorem inv_nat {n : Nat} {b : Int} {a : Nat} (n0 : 0 < n) (h : (b * a - 1) % (n : Int) = 0) (b0 : 0 ≤ b) : b.toNat * a % n = 1 % n := by
  obtain ⟨c, rfl⟩ := Int.eq_ofNat_of_zero_le b0
  have h1 := al_emod (Int.dvd_of_emod_eq_zero h)
  have h2 : ((c * a % n : Nat) : Int) = ((1 % n : Nat) : Int) := by push_cast; exact h1
  exact Int.ofNat_inj.mp h2
theorem mod_mul_one {n x y : Nat} (h : x % n = 1 % n) : x * y % n = y % n := by
  rw [Nat.mul_mod, h, ← Nat.mul_mod, Nat.one_mul]
/-- the root of one part -/
theorem part_root {p q m v d' P L i : Nat} {w c : Int} (o : is1 p w (q ^ m)) (hd : d' = d') (hv : q ^ v ∣ P) (hc : al p c (w ^ P)) (hi : i * d' % q ^ m = 1 % q ^ m) : al p ((w ^ (P / q ^ v * i)) ^ (q ^ v * d')) c := by
  refine al_trans ?_ (al_symm hc)
  rw [← Int.pow_mul]
  refine pow_al o ?_
  obtain ⟨t, rfl⟩ := hv
  by_cases z : q ^ v = 0
  · rw [z]; simp
  · rw [Nat.mul_div_cancel_left _ (by omega), show t * i * (q ^ v * d') = i * d' * (q ^ v * t) by grind]
    exact mod_mul_one hi
theorem all_dvd {D : Nat} : ∀ {l : List (Nat × Nat)}, l.Pairwise (fun x y => x.1 < y.1) → (∀ x ∈ l, Prime x.1) → (∀ x ∈ l, x.1 ^ x.2 ∣ D) → prodL l ∣ D
  | [], _, _, _ => Nat.one_dvd _
  | x :: l, hs, hp, h => by
    have hs' := List.pairwise_cons.mp hs
    have ih := all_dvd hs'.2 (fun y hy => hp y (List.mem_cons_of_mem _ hy)) fun y hy => h y (List.mem_cons_of_mem _ hy)
    have hno : ¬ x.1 ∣ prodL l := fun z => by
      obtain ⟨k, hk⟩ := prime_in' (hp x (by simp)) (fun y hy => hp y (List.mem_cons_of_mem _ hy)) z
      have := hs'.1 _ hk
      simp at this
    show x.1 ^ x.2 * prodL l ∣ D
    exact Nat.Coprime.mul_dvd_of_dvd_of_dvd (coprime_pow (hp x (by simp)) hno x.2) (h x (by simp)) ih
theorem facs_split {N : Nat} {l : List (Nat × Nat)} (hl : IsFac N l) : ∀ {x : Nat × Nat}, x ∈ l → ∃ m, N = x.1 ^ x.2 * m ∧ ¬ x.1 ∣ m ∧ ∀ y ∈ l, y ≠ x → y.1 ^ y.2 ∣ m := by
  have key : ∀ {l : List (Nat × Nat)}, l.Pairwise (fun x y => x.1 < y.1) → (∀ x ∈ l, Prime x.1) → ∀ {x : Nat × Nat}, x ∈ l → ∃ m, prodL l = x.1 ^ x.2 * m ∧ ¬ x.1 ∣ m ∧ ∀ y ∈ l, y ≠ x → y.1 ^ y.2 ∣ m := by
    intro l
    induction l with
    | nil => intro _ _ x h; cases h
    | cons a l ih =>
      intro hs hp x hx
      have hs' := List.pairwise_cons.mp hs
      have hp' : ∀ y ∈ l, Prime y.1 := fun y hy => hp y (List.mem_cons_of_mem _ hy)
      by_cases e : x = a
      · subst e
        refine ⟨prodL l, rfl, fun z => ?_, fun y hy hne => ?_⟩
        · obtain ⟨k, hk⟩ := prime_in' (hp x (by simp)) hp' z
          have := hs'.1 _ hk
          simp at this
        · rcases List.mem_cons.mp hy with z | z
          · exact absurd z hne
          · exact prodL_dvd z
      · have hxl : x ∈ l := (List.mem_cons.mp hx).resolve_left e
        obtain ⟨m, h1, h2, h3⟩ := ih hs'.2 hp' hxl
        have hlt := hs'.1 x hxl
        refine ⟨a.1 ^ a.2 * m, ?_, fun z => ?_, fun y hy hne => ?_⟩
        · show a.1 ^ a.2 * prodL l = _
          rw [h1]; grind
        · rcases (hp' x hxl).dvd_mul z with z | z
          · have := (hp' x hxl).eq_of_dvd (hp a (by simp)) ((hp' x hxl).dvd_pow z)
            omega
          · exact h2 z
        · rcases List.mem_cons.mp hy with z | z
          · rw [z]; exact Nat.dvd_mul_right _ _
          · exact Nat.dvd_trans (h3 y z hne) (Nat.dvd_mul_left _ _)
  intro x hx
  have := key hl.sorted (fun x h => (hl.primes x h).1) hx
  rwa [hl.prod] at this
/-- what one_root keeps -/
def OneI (p N d : Nat) (c : Int) (l : List (Nat × Nat)) (i left : Nat) (root : Int) : Prop :=
  ∃ W E : Nat, left * W = N ∧ Nat.gcd left W = 1 ∧ (∀ (j : Nat) (x : Nat × Nat), l[j]? = some x → (j < i ∧ x.1 ∣ d → x.1 ^ x.2 ∣ W ∧ E % x.1 ^ x.2 = 1 % x.1 ^ x.2) ∧ (¬ (j < i ∧ x.1 ∣ d) → x.1 ^ x.2 ∣ left ∧ x.1 ^ x.2 ∣ E)) ∧ al p (root ^ d) (c ^ E)
theorem one_start {p N d : Nat} {c : Int} {l : List (Nat × Nat)} (hl : IsFac N l) : OneI p N d c l 0 N 1 :=
  ⟨1, 0, by omega, Nat.gcd_one_right _, fun j x hx => ⟨fun z => by omega, fun _ => ⟨by rw [← hl.prod]; exact prodL_dvd (List.mem_of_getElem? hx), Nat.dvd_zero _⟩⟩, by rw [Int.one_pow, Int.pow_zero]; exact al_refl _ _⟩
theorem one_skip {p N d i left : Nat} {c root : Int} {l : List (Nat × Nat)} {x : Nat × Nat} (h : OneI p N d c l i left root) (hx : l[i]? = some x) (hd : ¬ x.1 ∣ d) : OneI p N d c l (i + 1) left root := by
  obtain ⟨W, E, h1, h2, h3, h4⟩ := h
  refine ⟨W, E, h1, h2, fun j y hy => ⟨fun z => (h3 j y hy).1 ⟨?_, z.2⟩, fun z => (h3 j y hy).2 fun w => z ⟨by omega, w.2⟩⟩, h4⟩
  have : j ≠ i := fun e => by subst e; rw [hx] at hy; cases hy; exact hd z.2
  omega
theorem one_more {p N d i left : Nat} {c root r : Int} {l : List (Nat × Nat)} {x : Nat × Nat} {F : Nat} (hl : IsFac N l) (N0 : 0 < N) (h : OneI p N d c l i left root) (hx : l[i]? = some x) (hd : x.1 ∣ d)
    (hr : al p (r ^ d) (c ^ F)) (hF : F % x.1 ^ x.2 = 1 % x.1 ^ x.2) (hF2 : N / x.1 ^ x.2 ∣ F) : OneI p N d c l (i + 1) (left / x.1 ^ x.2) (root * r % p) ∧ x.1 ^ x.2 ∣ left := by
  obtain ⟨W, E, h1, h2, h3, h4⟩ := h
  have hm := List.mem_of_getElem? hx
  have hq := (hl.primes x hm).1
  have q0 : 0 < x.1 ^ x.2 := Nat.pow_pos hq.pos
  obtain ⟨m, em, hno, hoth⟩ := facs_split hl hm
  have hxl := ((h3 i x hx).2 fun z => by omega)
  obtain ⟨left', e1⟩ := hxl.1
  have e2 : left / x.1 ^ x.2 = left' := by rw [e1]; exact Nat.mul_div_cancel_left _ q0
  have e3 : N / x.1 ^ x.2 = m := by rw [em]; exact Nat.mul_div_cancel_left _ q0
  rw [e3] at hF2
  have e4 : left' * W = m := by
    have : x.1 ^ x.2 * (left' * W) = x.1 ^ x.2 * m := by rw [← em, ← h1, e1]; grind
    exact Nat.eq_of_mul_eq_mul_left q0 this
  have hnl : ¬ x.1 ∣ left' := fun z => hno (by rw [← e4]; exact Nat.dvd_trans z (Nat.dvd_mul_right _ _))
  have hcop : Nat.gcd (x.1 ^ x.2) left' = 1 := coprime_pow hq hnl x.2
  refine ⟨?_, hxl.1⟩
  rw [e2]
  refine ⟨x.1 ^ x.2 * W, E + F, by rw [em, ← e4]; grind, ?_, fun j y hy => ?_, ?_⟩
  · refine Nat.Coprime.mul_right ?_ ?_
    · rw [Nat.Coprime, Nat.gcd_comm]; exact hcop
    · exact Nat.Coprime.coprime_dvd_left ⟨x.1 ^ x.2, by rw [e1, Nat.mul_comm]⟩ h2
  · by_cases ej : j = i
    · subst ej
      rw [hx] at hy; cases hy
      refine ⟨fun _ => ⟨Nat.dvd_mul_right _ _, ?_⟩, fun z => absurd ⟨by omega, hd⟩ z⟩
      rw [Nat.add_mod, Nat.mod_eq_zero_of_dvd hxl.2, Nat.zero_add, Nat.mod_mod, hF]
    · have hym := List.mem_of_getElem? hy
      have hne : y ≠ x := fun e => by
        subst e
        have hj := (List.getElem?_eq_some_iff.mp hy)
        have hi := (List.getElem?_eq_some_iff.mp hx)
        obtain ⟨j1, j2⟩ := hj
        obtain ⟨i1, i2⟩ := hi
        rcases Nat.lt_trichotomy i j with z | z | z
        · have := List.pairwise_iff_getElem.mp hl.sorted i j i1 j1 z
          rw [i2, j2] at this; omega
        · omega
        · have := List.pairwise_iff_getElem.mp hl.sorted j i j1 i1 z
          rw [i2, j2] at this; omega
      have hyF : y.1 ^ y.2 ∣ F := Nat.dvd_trans (hoth y hym hne) hF2
      refine ⟨fun z => ?_, fun z => ?_⟩
      · have := (h3 j y hy).1 ⟨by omega, z.2⟩
        refine ⟨Nat.dvd_trans this.1 (Nat.dvd_mul_left _ _), ?_⟩
        rw [Nat.add_mod, Nat.mod_eq_zero_of_dvd hyF, Nat.add_zero, Nat.mod_mod, this.2]
      · have := (h3 j y hy).2 fun w => z ⟨by omega, w.2⟩
        refine ⟨?_, Nat.dvd_add this.2 hyF⟩
        have hcy : Nat.Coprime (y.1 ^ y.2) (x.1 ^ x.2) := by
          have hyq := (hl.primes y hym).1
          refine Nat.Coprime.pow _ _ ?_
          refine hyq.coprime fun w => ?_
          have e := hyq.eq_of_dvd hq w
          obtain ⟨j1, j2⟩ := List.getElem?_eq_some_iff.mp hy
          obtain ⟨i1, i2⟩ := List.getElem?_eq_some_iff.mp hx
          rcases Nat.lt_trichotomy i j with z | z | z
          · have := List.pairwise_iff_getElem.mp hl.sorted i j i1 j1 z
            rw [i2, j2] at this; omega
          · omega
          · have := List.pairwise_iff_getElem.mp hl.sorted j i j1 i1 z
            rw [i2, j2] at this; omega
        have h5 := this.1
        rw [e1] at h5
        exact hcy.dvd_of_dvd_mul_left h5
  · refine al_trans (al_pow (al_mod p _) d) ?_
    rw [Int.mul_pow, Int.pow_add]
    exact al_mul h4 hr
theorem one_cop {p N d left : Nat} {c root : Int} {l : List (Nat × Nat)} (hl : IsFac N l) (N0 : 0 < N) (h : OneI p N d c l l.length left root) : 0 < left ∧ left ∣ N ∧ Nat.gcd (N / left) left = 1 ∧ Nat.gcd d left = 1 := by
  obtain ⟨W, E, h1, h2, h3, h4⟩ := h
  have l0 : 0 < left := Nat.pos_of_ne_zero fun z => by rw [z] at h1; omega
  have eW : N / left = W := by rw [← h1]; exact Nat.mul_div_cancel_left _ l0
  refine ⟨l0, ⟨W, h1.symm⟩, by rw [eW, Nat.gcd_comm]; exact h2, ?_⟩
  refine Classical.byContradiction fun hne => ?_
  have hg : 2 ≤ Nat.gcd d left := by
    have : 0 < Nat.gcd d left := Nat.gcd_pos_of_pos_right _ l0
    omega
  obtain ⟨r, hr, hrd⟩ := exists_prime _ hg
  have r1 := Nat.dvd_trans hrd (Nat.gcd_dvd_left _ _)
  have r2 := Nat.dvd_trans hrd (Nat.gcd_dvd_right _ _)
  obtain ⟨k, hk⟩ := fac_prime_in hl hr (Nat.dvd_trans r2 ⟨W, h1.symm⟩)
  obtain ⟨j, hj⟩ := List.getElem?_of_mem hk
  have hjl := (List.getElem?_eq_some_iff.mp hj).1
  have h5 := ((h3 j _ hj).1 ⟨hjl, r1⟩).1
  have h6 : r ∣ Nat.gcd left W := Nat.dvd_gcd r2 (Nat.dvd_trans (dvd_pow_self r (hl.primes _ hk).2) h5)
  rw [h2] at h6
  have := Nat.le_of_dvd (by decide) h6
  have := hr.1
  omega
theorem one_end {p N d left i1 i2 : Nat} {c root : Int} {l : List (Nat × Nat)} (hl : IsFac N l) (N0 : 0 < N) (h : OneI p N d c l l.length left root) (hc : is1 p c N) (e1 : i1 * (N / left) % left = 1 % left) (e2 : i2 * d % left = 1 % left) :
    al p ((root * pw p c (N / left * i1 * i2) % p) ^ d) c := by
  obtain ⟨l0, hlN, _, _⟩ := one_cop hl N0 h
  obtain ⟨W, E, h1, h2, h3, h4⟩ := h
  have eW : N / left = W := by rw [← h1]; exact Nat.mul_div_cancel_left _ l0
  rw [eW] at e1 ⊢
  refine al_trans (al_pow (al_mod p _) d) ?_
  rw [Int.mul_pow]
  refine al_trans (al_mul h4 (al_pow (al_pw p c _) d)) ?_
  rw [← Int.pow_mul, ← Int.pow_add]
  have key : (E + W * i1 * i2 * d) % N = 1 % N := by
    have h5 : prodL l ∣ ((E + W * i1 * i2 * d : Nat) - (1 : Int)).natAbs := all_dvd hl.sorted (fun x hx => (hl.primes x hx).1) fun x hx => by
      obtain ⟨j, hj⟩ := List.getElem?_of_mem hx
      have hjl := (List.getElem?_eq_some_iff.mp hj).1
      have hh := h3 j x hj
      have h6 : (E + W * i1 * i2 * d) % x.1 ^ x.2 = 1 % x.1 ^ x.2 := by
        by_cases hd : x.1 ∣ d
        · obtain ⟨a1, a2⟩ := hh.1 ⟨hjl, hd⟩
          have h7 : x.1 ^ x.2 ∣ W * i1 * i2 * d := Nat.dvd_trans a1 ⟨i1 * i2 * d, by grind⟩
          rw [Nat.add_mod, Nat.mod_eq_zero_of_dvd h7, Nat.add_zero, Nat.mod_mod, a2]
        · obtain ⟨a1, a2⟩ := hh.2 fun z => hd z.2
          have h8 : W * i1 * i2 * d % left = 1 % left := by
            rw [show W * i1 * i2 * d = i1 * W * (i2 * d) by grind, mod_mul_one e1, e2]
          have h9 : W * i1 * i2 * d % x.1 ^ x.2 = 1 % x.1 ^ x.2 := by
            rw [← Nat.mod_mod_of_dvd _ a1, h8, Nat.mod_mod_of_dvd _ a1]
          rw [Nat.add_mod, Nat.mod_eq_zero_of_dvd a2, Nat.zero_add, Nat.mod_mod, h9]
      have h10 : ((E + W * i1 * i2 * d : Nat) : Int) % ((x.1 ^ x.2 : Nat) : Int) = 1 % ((x.1 ^ x.2 : Nat) : Int) := by
        rw [← Int.natCast_emod, h6]; rfl
      have h11 := Int.dvd_of_emod_eq_zero (Int.emod_eq_emod_iff_emod_sub_eq_zero.mp h10)
      exact Int.ofNat_dvd_left.mp h11
    rw [hl.prod] at h5
    have h12 := Int.emod_eq_emod_iff_emod_sub_eq_zero.mpr (Int.emod_eq_zero_of_dvd (Int.ofNat_dvd_left.mpr h5))
    have h13 : (((E + W * i1 * i2 * d) % N : Nat) : Int) = ((1 % N : Nat) : Int) := by rw [Int.natCast_emod, Int.natCast_emod]; exact h12
    exact Int.ofNat_inj.mp h13
  have := pow_al hc key
  rwa [Int.pow_one] at this
/-- all roots of order k of a by p -/
structure IsKR (p k : Nat) (a : Int) (xs : List Int) : Prop where
  sorted : xs.Pairwise (· < ·)
  iff : ∀ y, y ∈ xs ↔ 0 ≤ y ∧ y < p ∧ al p (y ^ k) a
theorem IsKR.unique {p k : Nat} {a : Int} {xs ys : List Int} (h : IsKR p k a xs) (h' : IsKR p k a ys) : xs = ys := sorted_ext h.sorted h'.sorted fun y => (h.iff y).trans (h'.iff y).symm
theorem kr_nought {p k : Nat} {a : Int} (hp : Prime p) (hk : 0 < k) (h : (p : Int) ∣ a) : IsKR p k a [0] := ⟨by simp, fun y => by
  rw [List.mem_singleton]
  have ha : al p a 0 := by unfold al; rw [Int.sub_zero]; exact h
  constructor
  · rintro rfl
    refine ⟨by decide, by have := hp.1; omega, ?_⟩
    rw [Int.zero_pow (by omega)]
    exact al_symm ha
  · rintro ⟨y0, y1, hy⟩
    have h1 := al_trans hy ha
    unfold al at h1
    rw [Int.sub_zero] at h1
    have h2 : (p : Int) ∣ y := Classical.byContradiction fun z => unit_pow hp z k h1
    by_cases e : y = 0
    · exact e
    · have := Int.le_of_dvd (by omega) h2; omega⟩
/-- where there is a root, the power is 1 -/
theorem kr_one {p k : Nat} {a y : Int} (hp : Prime p) (ha : un p a) (hk : 0 < k) (h : al p (y ^ k) a) : is1 p a ((p - 1) / Nat.gcd k (p - 1)) := by
  have p1 : 0 < p - 1 := by have := hp.1; omega
  have hy : un p y := fun z => ha (by
    obtain ⟨j, rfl⟩ : ∃ j, k = j + 1 := ⟨k - 1, by omega⟩
    have h1 : (p : Int) ∣ y ^ (j + 1) := by rw [Int.pow_succ]; exact Int.dvd_mul_of_dvd_right z
    have h2 : a = y ^ (j + 1) - (y ^ (j + 1) - a) := by omega
    rw [h2]; exact Int.dvd_sub h1 h)
  have hf := fermat hp hy
  have h3 : is1 p (y ^ k) ((p - 1) / Nat.gcd k (p - 1)) := one_pow_iff.mpr (one_of_dvd hf (by
    obtain ⟨g, hg⟩ := Nat.gcd_dvd_left k (p - 1)
    have g0 := Nat.gcd_pos_of_pos_right k p1
    refine ⟨g, ?_⟩
    have h4 := Nat.div_mul_cancel (Nat.gcd_dvd_right k (p - 1))
    calc k * ((p - 1) / Nat.gcd k (p - 1)) = (Nat.gcd k (p - 1) * g) * ((p - 1) / Nat.gcd k (p - 1)) := by rw [← hg]
      _ = ((p - 1) / Nat.gcd k (p - 1) * Nat.gcd k (p - 1)) * g := by grind
      _ = (p - 1) * g := by rw [h4]))
  exact (is1_congr h _).mp h3
theorem kr_none {p k : Nat} {a : Int} (hp : Prime p) (ha : un p a) (hk : 0 < k) (h : ¬ is1 p a ((p - 1) / Nat.gcd k (p - 1))) : IsKR p k a [] := ⟨.nil, fun y => ⟨fun z => by simp at z, fun z => absurd (kr_one hp ha hk z.2.2) h⟩⟩
/-- all of them, from one -/
theorem kr_all {p k d : Nat} {a root turn : Int} {ns : List Int} (hp : Prime p) (ha : un p a) (ed : d = Nat.gcd k (p - 1)) (hr : al p (root ^ k) a) (ht : Ord p turn d) (pm : ns.Perm ((List.range d).map fun i => root * turn ^ i % (p : Int))) (srt : ns.Pairwise (· ≤ ·)) (hk : 0 < k) : IsKR p k a ns := by
  have hp2 := hp.1
  have d0 := ht.pos
  have hur : un p root := fun z => ha (by
    obtain ⟨j, rfl⟩ : ∃ j, k = j + 1 := ⟨k - 1, by omega⟩
    have h1 : (p : Int) ∣ root ^ (j + 1) := by rw [Int.pow_succ]; exact Int.dvd_mul_of_dvd_right z
    have h2 : a = root ^ (j + 1) - (root ^ (j + 1) - a) := by omega
    rw [h2]; exact Int.dvd_sub h1 hr)
  have hrange : ∀ y : Int, 0 ≤ y % (p : Int) ∧ y % (p : Int) < p := fun y => ⟨Int.emod_nonneg _ (by omega), Int.emod_lt_of_pos _ (by omega)⟩
  have hcan : ∀ {x y : Int}, al p (root * x) (root * y) → al p x y := fun {x y} h => by
    unfold al at h ⊢
    rw [← Int.mul_sub] at h
    exact (dvd_mul_int hp h).resolve_left hur
  have nd : ns.Pairwise (· ≠ ·) := by
    refine (pm.pairwise_iff (fun h => Ne.symm h)).mpr ?_
    rw [List.pairwise_map]
    refine List.Pairwise.imp_of_mem ?_ List.pairwise_lt_range
    intro i j hi hj hij e
    have := List.mem_range.mp hj
    exact pow_apart hp ht hij (by omega) (al_symm (hcan (al_of_emod e)))
  refine ⟨(srt.and nd).imp fun z => by have := z.1; have := z.2; omega, fun y => ?_⟩
  rw [pm.mem_iff, List.mem_map]
  constructor
  · rintro ⟨i, hi, rfl⟩
    refine ⟨(hrange _).1, (hrange _).2, al_trans (al_pow (al_mod p _) k) ?_⟩
    rw [Int.mul_pow]
    have h1 : al p ((turn ^ i) ^ k) 1 := by
      rw [← Int.pow_mul]
      obtain ⟨g, hg⟩ := Nat.gcd_dvd_left k (p - 1)
      rw [← ed] at hg
      exact one_of_dvd ht.one ⟨i * g, by rw [hg]; grind⟩
    have := al_mul hr h1
    rwa [Int.mul_one] at this
  · rintro ⟨y0, y1, hy⟩
    -- y times the inverse of the root
    have hb : ∃ b : Int, al p (root * b) 1 := by
      refine ⟨root ^ (p - 2), ?_⟩
      have := fermat hp hur
      unfold is1 at this
      rw [show p - 1 = (p - 2) + 1 by omega, Int.pow_succ, Int.mul_comm] at this
      exact this
    obtain ⟨b, hb⟩ := hb
    have h1 : al p ((y * b) ^ k) 1 := by
      rw [Int.mul_pow]
      refine al_trans (al_mul (al_trans hy (al_symm hr)) (al_refl p (b ^ k))) ?_
      rw [← Int.mul_pow]
      have := al_pow hb k
      rwa [Int.one_pow] at this
    have hyb : un p (y * b) := fun z => by
      have h2 : (p : Int) ∣ (y * b) ^ k := by
        obtain ⟨j, rfl⟩ : ∃ j, k = j + 1 := ⟨k - 1, by omega⟩
        rw [Int.pow_succ]; exact Int.dvd_mul_of_dvd_right z
      have h3 : (p : Int) ∣ 1 := by
        have : (1 : Int) = (y * b) ^ k - ((y * b) ^ k - 1) := by omega
        rw [this]; exact Int.dvd_sub h2 h1
      have := Int.le_of_dvd (by decide) h3; omega
    obtain ⟨o, ho⟩ := exists_ord hp hyb
    have h4 : o ∣ d := by
      rw [ed]
      exact Nat.dvd_gcd (ho.dvd hp h1) (ho.dvd hp (fermat hp hyb))
    obtain ⟨i, hi, hx⟩ := ord_powers hp ht (one_of_dvd ho.one h4)
    refine ⟨i, List.mem_range.mpr hi, ?_⟩
    refine al_eq (al_trans (al_mod p _) ?_) (hrange _).1 (hrange _).2 y0 y1
    have h5 := al_mul (al_refl p root) (al_symm hx)
    refine al_trans h5 ?_
    have h6 := al_mul (al_refl p y) hb
    rw [Int.mul_one] at h6
    rw [show root * (y * b) = y * (root * b) by grind]
    exact h6
end M

/-! how deep the papers of primes to 10 ** 9 are -/
namespace M
/-- p has a chain of k primes, each one dividing the next less 1 -/
def Chain : Nat → Nat → Prop
  | 0, _ => True
  | k + 1, p => Prime p ∧ (k = 0 ∨ ∃ q, q ∣ p - 1 ∧ Chain k q)
def compF : Nat → Nat → Nat → Bool
  | 0, _, _ => false
  | n + 1, p, d => if p < d * d then false else if p % d == 0 then true else compF n p (d + 2)
theorem compF_no {p : Nat} (hp : Prime p) : ∀ {n d : Nat}, 2 ≤ d → compF n p d = false
  | 0, _, _ => rfl
  | n + 1, d, h => by
    unfold compF
    split
    · rfl
    · rename_i h1
      split
      · rename_i h2
        have h3 := Nat.dvd_of_mod_eq_zero (beq_iff_eq.mp h2)
        rcases hp.2 d h3 with z | z
        · omega
        · rw [z] at h1
          have : p * 2 ≤ p * p := Nat.mul_le_mul_left p hp.1
          have := hp.1
          omega
      · exact compF_no hp (by omega)
def okStep (S T : List Nat) (B : Nat) : Bool := S.all fun q => (List.range ((B - 1) / (2 * q))).all fun j => compF 600 (2 * (j + 1) * q + 1) 3 || T.contains (2 * (j + 1) * q + 1)
theorem chain_prime {k p : Nat} (h : Chain (k + 1) p) : Prime p := h.1
theorem prime_odd {p : Nat} (hp : Prime p) (h : p ≠ 2) : p % 2 = 1 := by
  rcases Nat.mod_two_eq_zero_or_one p with z | z
  · rcases hp.2 2 (Nat.dvd_of_mod_eq_zero z) with e | e
    · omega
    · exact absurd e.symm h
  · exact z
theorem chain_odd {k p : Nat} (h : Chain (k + 2) p) : p % 2 = 1 := by
  refine prime_odd h.1 fun e => ?_
  subst e
  rcases h.2 with z | ⟨q, hq, hc⟩
  · omega
  · have h1 : Prime q := hc.1
    have := Nat.le_of_dvd (by decide) hq
    have := h1.1
    omega
theorem chain_two {k p q : Nat} (h : Chain (k + 2) p) (hq : q ∣ p - 1) (hc : Chain (k + 1) q) (ho : q % 2 = 1) : ∃ j, p = 2 * (j + 1) * q + 1 := by
  have hp := h.1.1
  have po := chain_odd h
  have q0 : 0 < q := by omega
  obtain ⟨c, hc⟩ := hq
  have hc2 : c % 2 = 0 := by
    rcases Nat.mod_two_eq_zero_or_one c with z | z
    · exact z
    · have : (q * c) % 2 = 1 := by rw [Nat.mul_mod, ho, z]
      omega
  obtain ⟨d, rfl⟩ : ∃ d, c = 2 * d := ⟨c / 2, by omega⟩
  have d0 : 0 < d := Nat.pos_of_ne_zero fun z => by subst z; simp at hc; omega
  refine ⟨d - 1, ?_⟩
  have : 2 * (d - 1 + 1) * q = q * (2 * d) := by rw [Nat.sub_add_cancel d0]; grind
  omega
theorem step_in {S T : List Nat} {B k p : Nat} (ok : okStep S T B = true) (hS : ∀ q, Chain (k + 2) q → 2 * q + 1 ≤ B → q ∈ S) (h : Chain (k + 3) p) (hB : p ≤ B) : p ∈ T := by
  rcases h.2 with z | ⟨q, hq, hc⟩
  · omega
  · have qo := chain_odd hc
    obtain ⟨j, hj⟩ := chain_two (k := k + 1) h hq hc qo
    have q0 : 0 < q := by omega
    have h1 : 2 * q ≤ 2 * (j + 1) * q := Nat.mul_le_mul_right q (by omega)
    have hqS := hS q hc (by omega)
    have h2 := List.all_eq_true.mp ok q hqS
    have hjr : j < (B - 1) / (2 * q) := by
      have : (j + 1) * (2 * q) ≤ B - 1 := by
        have : (j + 1) * (2 * q) = 2 * (j + 1) * q := by grind
        omega
      exact (Nat.le_div_iff_mul_le (by omega)).mpr this
    have h3 := List.all_eq_true.mp h2 j (List.mem_range.mpr hjr)
    rw [← hj, compF_no h.1 (by decide), Bool.false_or] at h3
    exact List.contains_iff_mem.mp h3
def S2 : List Nat := [3, 5, 7, 11, 13, 17, 19, 23, 29, 31, 37, 41, 43, 47, 53, 59, 61, 67, 71, 73, 79, 83, 89, 97, 101, 103, 107, 109, 113, 127, 131, 137, 139, 149, 151, 157, 163, 167, 173, 179, 181, 191, 193, 197, 199, 211, 223, 227, 229, 233, 239, 241, 251, 257, 263, 269, 271, 277, 281, 283, 293, 307, 311, 313, 317, 331, 337, 347, 349, 353, 359, 367, 373, 379, 383, 389, 397, 401, 409, 419, 421, 431, 433, 439, 443, 449, 457, 461, 463, 467, 479, 487, 491, 499, 503, 509, 521, 523, 541, 547, 557, 563, 569, 571, 577, 587, 593, 599, 601, 607, 613, 617, 619, 631, 641, 643, 647, 653, 659, 661, 673, 677, 683, 691, 701, 709, 719, 727, 733, 739, 743, 751, 757, 761, 769, 773, 787, 797, 809, 811, 821, 823, 827, 829, 839, 853, 857, 859, 863, 877, 881, 883, 887, 907, 911, 919, 929, 937, 941, 947, 953]
def S3 : List Nat := [7, 11, 13, 19, 23, 29, 31, 37, 41, 43, 47, 53, 59, 61, 67, 71, 73, 79, 83, 89, 97, 101, 103, 107, 109, 113, 127, 131, 137, 139, 149, 151, 157, 163, 167, 173, 179, 181, 191, 193, 197, 199, 211, 223, 227, 229, 233, 239, 241, 251, 263, 269, 271, 277, 281, 283, 293, 307, 311, 313, 317, 331, 337, 347, 349, 353, 359, 367, 373, 379, 383, 389, 397, 401, 409, 419, 421, 431, 433, 439, 443, 449, 457, 461, 463, 467, 479, 487, 491, 499, 503, 509, 521, 523, 541, 547, 557, 563, 569, 571, 577, 587, 593, 599, 601, 607, 613, 617, 619, 631, 641, 643, 647, 653, 659, 661, 673, 677, 683, 691, 701, 709, 719, 727, 733, 739, 743, 751, 757, 761, 769, 773, 787, 797, 809, 811, 821, 823, 827, 829, 839, 853, 857, 859, 863, 877, 881, 883, 887, 907, 911, 919, 929, 937, 941, 947, 953, 967, 971, 977, 983, 991, 997, 1009, 1013, 1019, 1021, 1031, 1033, 1039, 1049, 1051, 1061, 1063, 1069, 1087, 1091, 1093, 1097, 1103, 1109, 1117, 1123, 1129, 1151, 1153, 1163, 1171, 1181, 1187, 1193, 1201, 1213, 1217, 1223, 1229, 1231, 1237, 1249, 1259, 1277, 1279, 1283, 1289, 1291, 1297, 1301, 1303, 1307, 1319, 1321, 1327, 1361, 1367, 1373, 1381, 1399, 1409, 1423, 1427, 1429, 1433, 1439, 1447, 1451, 1453, 1459, 1471, 1481, 1483, 1487, 1489, 1493, 1499, 1511, 1523, 1531, 1543, 1549, 1553, 1559, 1567, 1571, 1579, 1583, 1597, 1601, 1607, 1609, 1613, 1619, 1621, 1627, 1637, 1657, 1663, 1667, 1669, 1693, 1697, 1699, 1709, 1721, 1723, 1733, 1741, 1747, 1753, 1759, 1777, 1783, 1787, 1789, 1801, 1811, 1823, 1831, 1847, 1861, 1867, 1871, 1873, 1877, 1879, 1889, 1901, 1907]
def S4 : List Nat := [23, 29, 43, 47, 53, 59, 67, 71, 79, 83, 89, 107, 113, 127, 131, 139, 149, 157, 167, 173, 179, 191, 197, 199, 211, 223, 227, 229, 233, 239, 263, 269, 277, 281, 283, 293, 311, 313, 317, 331, 337, 347, 349, 353, 359, 367, 373, 379, 383, 389, 397, 419, 421, 431, 439, 443, 449, 457, 461, 463, 467, 479, 491, 499, 503, 509, 521, 523, 547, 557, 563, 569, 571, 587, 593, 599, 607, 617, 619, 631, 643, 647, 653, 659, 661, 673, 677, 683, 691, 701, 709, 719, 727, 733, 739, 743, 757, 761, 773, 787, 797, 809, 821, 823, 827, 829, 839, 853, 857, 859, 863, 877, 881, 883, 887, 907, 911, 929, 937, 941, 947, 953, 967, 971, 977, 983, 991, 997, 1009, 1013, 1019, 1031, 1033, 1039, 1049, 1051, 1061, 1063, 1069, 1087, 1091, 1093, 1097, 1103, 1109, 1117, 1123, 1129, 1151, 1163, 1171, 1181, 1187, 1193, 1213, 1217, 1223, 1229, 1231, 1237, 1249, 1259, 1277, 1279, 1283, 1289, 1291, 1301, 1303, 1307, 1319, 1321, 1327, 1367, 1373, 1381, 1399, 1409, 1423, 1427, 1429, 1433, 1439, 1447, 1451, 1453, 1471, 1481, 1483, 1487, 1489, 1493, 1499, 1511, 1523, 1549, 1553, 1559, 1567, 1571, 1579, 1583, 1597, 1607, 1609, 1613, 1619, 1627, 1637, 1657, 1663, 1667, 1669, 1693, 1697, 1699, 1709, 1721, 1723, 1733, 1741, 1747, 1753, 1759, 1777, 1783, 1787, 1789, 1811, 1823, 1831, 1847, 1861, 1867, 1871, 1873, 1877, 1879, 1889, 1901, 1907, 1913, 1931, 1933, 1949, 1951, 1973, 1979, 1987, 1993, 1997, 1999, 2003, 2011, 2017, 2027, 2029, 2039, 2053, 2063, 2069, 2081, 2083, 2087, 2089, 2099, 2111, 2113, 2129, 2131, 2137, 2141, 2143, 2153, 2179, 2203, 2207, 2213, 2221, 2237, 2239, 2243, 2267, 2269, 2273, 2281, 2287, 2293, 2297, 2309, 2311, 2333, 2339, 2341, 2347, 2351, 2357, 2371, 2377, 2381, 2383, 2389, 2393, 2399, 2411, 2417, 2423, 2437, 2441, 2447, 2459, 2467, 2473, 2477, 2503, 2521, 2531, 2539, 2543, 2549, 2557, 2579, 2591, 2609, 2617, 2621, 2633, 2647, 2657, 2659, 2663, 2671, 2677, 2683, 2687, 2689, 2693, 2699, 2707, 2711, 2713, 2719, 2729, 2731, 2741, 2749, 2753, 2767, 2777, 2789, 2791, 2797, 2801, 2803, 2819, 2833, 2837, 2843, 2851, 2857, 2861, 2879, 2887, 2897, 2903, 2909, 2927, 2939, 2953, 2957, 2963, 2969, 2971, 2999, 3011, 3019, 3023, 3037, 3041, 3049, 3067, 3079, 3083, 3089, 3109, 3119, 3121, 3137, 3163, 3167, 3169, 3181, 3187, 3191, 3203, 3209, 3217, 3221, 3229, 3251, 3253, 3257, 3259, 3271, 3299, 3301, 3307, 3313, 3319, 3323, 3329, 3331, 3343, 3347, 3359, 3361, 3371, 3373, 3389, 3391, 3407, 3413, 3433, 3449, 3461, 3463, 3467, 3491, 3499, 3511, 3517, 3527, 3529, 3533, 3539, 3541, 3547, 3557, 3559, 3571, 3581, 3583, 3593, 3607, 3613, 3617, 3623, 3631, 3637, 3643, 3659, 3671, 3677, 3691, 3697, 3701, 3709, 3719, 3727, 3733, 3739, 3761, 3767, 3769, 3779, 3793, 3797, 3803]
def S5 : List Nat := [47, 59, 107, 139, 167, 173, 179, 227, 233, 263, 269, 277, 283, 317, 347, 349, 359, 383, 431, 461, 467, 479, 499, 509, 523, 557, 563, 569, 587, 599, 643, 659, 691, 709, 719, 743, 787, 797, 827, 829, 839, 853, 857, 863, 887, 929, 941, 947, 967, 983, 997, 1013, 1019, 1033, 1039, 1049, 1061, 1063, 1069, 1103, 1109, 1129, 1151, 1163, 1181, 1187, 1193, 1223, 1277, 1279, 1289, 1291, 1307, 1319, 1367, 1381, 1399, 1423, 1427, 1433, 1439, 1451, 1487, 1493, 1499, 1523, 1549, 1567, 1571, 1579, 1583, 1609, 1619, 1657, 1663, 1669, 1693, 1697, 1699, 1721, 1741, 1759, 1787, 1789, 1823, 1847, 1867, 1877, 1879, 1889, 1907, 1913, 1933, 1973, 1979, 1987, 1993, 1997, 2011, 2027, 2039, 2063, 2069, 2083, 2087, 2089, 2099, 2111, 2131, 2137, 2141, 2153, 2203, 2207, 2213, 2237, 2239, 2243, 2273, 2287, 2293, 2333, 2339, 2347, 2351, 2371, 2383, 2389, 2393, 2423, 2437, 2447, 2459, 2477, 2503, 2531, 2539, 2557, 2579, 2621, 2633, 2657, 2659, 2671, 2677, 2683, 2687, 2693, 2699, 2713, 2749, 2753, 2767, 2777, 2797, 2803, 2819, 2833, 2837, 2843, 2879, 2903, 2909, 2939, 2957, 2963, 2969, 2999, 3011, 3019, 3023, 3037, 3049, 3083, 3119, 3167, 3181, 3187, 3191, 3217, 3221, 3229, 3307, 3313, 3319, 3343, 3347, 3359, 3371, 3373, 3391, 3407, 3413, 3449, 3461, 3467, 3491, 3499, 3517, 3527, 3533, 3539, 3541, 3547, 3557, 3559, 3581, 3583, 3593, 3613, 3617, 3623, 3643, 3659, 3671, 3727, 3733, 3739, 3761, 3767, 3769, 3779, 3793, 3803, 3821, 3833, 3853, 3863, 3911, 3917, 3919, 3923, 3929, 3931, 3947, 3967, 3989, 4003, 4007, 4013, 4021, 4049, 4073, 4079, 4099, 4127, 4129, 4133, 4139, 4153, 4157, 4177, 4211, 4231, 4241, 4253, 4259, 4261, 4273, 4283, 4289, 4297, 4349, 4363, 4373, 4391, 4397, 4409, 4423, 4451, 4457, 4463, 4483, 4493, 4513, 4517, 4547, 4549, 4567, 4583, 4597, 4603, 4639, 4643, 4649, 4679, 4691, 4703, 4721, 4723, 4729, 4783, 4787, 4793, 4799, 4817, 4831, 4877, 4889, 4903, 4919, 4931, 4937, 4943, 4957, 4967, 4969, 4973, 4987, 5009, 5011, 5039, 5059, 5077, 5081, 5087, 5099, 5107, 5113, 5119, 5147, 5153, 5171, 5179, 5227, 5231, 5261, 5273, 5279, 5297, 5309, 5323, 5333, 5351, 5381, 5387, 5393, 5399, 5407, 5417, 5419, 5443, 5449, 5471, 5479, 5483, 5503, 5507, 5519, 5521, 5531, 5557, 5569, 5573, 5591, 5623, 5639, 5641, 5647, 5651, 5653, 5659, 5683, 5689, 5693, 5711, 5717, 5737, 5743, 5749, 5779, 5783, 5801, 5807, 5813, 5827, 5839, 5843, 5849, 5861, 5867, 5879, 5897, 5903, 5923, 5927, 5939, 5981, 6037, 6043, 6047, 6053, 6067, 6073, 6079, 6089, 6091, 6113, 6143, 6163, 6197, 6199, 6203, 6211, 6221, 6229, 6247, 6257, 6269, 6277, 6287, 6299, 6311, 6317, 6323, 6329, 6353, 6361, 6367, 6373, 6379, 6389, 6421, 6451, 6473, 6491, 6547, 6551, 6569, 6581, 6599, 6607, 6619, 6637, 6653, 6659, 6673, 6679, 6691, 6701, 6703, 6709, 6719, 6737, 6763, 6779, 6781, 6793, 6803, 6823, 6827, 6829, 6857, 6863, 6871, 6899, 6907, 6911, 6947, 6959, 6961, 6967, 6983, 6991, 6997, 7013, 7019, 7027, 7039, 7043, 7079, 7103, 7109, 7121, 7127, 7159, 7177, 7187, 7193, 7229, 7237, 7243, 7247, 7283, 7307, 7309, 7331, 7333, 7349, 7433, 7451, 7457, 7459, 7477, 7487, 7499, 7507, 7517, 7523, 7529, 7537, 7541, 7559, 7573, 7577, 7583, 7591, 7607, 7621]
def S6 : List Nat := [283, 347, 359, 467, 557, 643, 659, 709, 719, 827, 857, 863, 941, 1019, 1039, 1063, 1109, 1129, 1181, 1223, 1319, 1399, 1433, 1439, 1487, 1499, 1579, 1663, 1669, 1693, 1699, 1787, 1889, 1997, 2027, 2039, 2069, 2083, 2099, 2141, 2153, 2207, 2243, 2339, 2351, 2423, 2447, 2503, 2539, 2579, 2633, 2767, 2777, 2797, 2803, 2833, 2837, 2879, 2903, 2999, 3167, 3187, 3229, 3343, 3413, 3449, 3461, 3491, 3541, 3581, 3659, 3761, 3767, 3779, 3833, 3853, 3947, 3989, 4013, 4073, 4079, 4127, 4133, 4139, 4153, 4157, 4231, 4253, 4283, 4297, 4457, 4513, 4517, 4547, 4597, 4603, 4679, 4703, 4721, 4723, 4783, 4787, 4793, 4889, 4919, 4957, 4987, 5011, 5077, 5119, 5171, 5179, 5231, 5261, 5273, 5323, 5351, 5381, 5387, 5399, 5449, 5507, 5639, 5641, 5647, 5683, 5693, 5749, 5779, 5783, 5807, 5839, 5879, 5903, 5923, 5927, 5939, 6047, 6079, 6197, 6199, 6229, 6247, 6269, 6277, 6299, 6317, 6367, 6373, 6379, 6421, 6491, 6581, 6619, 6653, 6673, 6719, 6793, 6803, 6827, 6829, 6857, 6863, 6899, 6907, 6911, 6983, 6991, 7079, 7127, 7159, 7187, 7229, 7247, 7333, 7349, 7433, 7457, 7507, 7517, 7523, 7529, 7559, 7577, 7607, 7643, 7717, 7727, 7757, 7759, 7789, 7823, 7877, 7883, 7907, 7919, 7949, 8017, 8147, 8179, 8219, 8243, 8273, 8287, 8291, 8293, 8311, 8329, 8369, 8377, 8387, 8389, 8423, 8461, 8539, 8563, 8599, 8609, 8623, 8627, 8629, 8699, 8707, 8747, 8783, 8819, 8837, 8923, 8951, 8969, 9173, 9203, 9209, 9221, 9227, 9323, 9341, 9343, 9403, 9419, 9497, 9511, 9533, 9587, 9623, 9631, 9677, 9689, 9749, 9787, 9839, 9871, 9887, 9949, 9973, 10009, 10067, 10069, 10079, 10159, 10163, 10181, 10223, 10243, 10247, 10253, 10267, 10273, 10289, 10313, 10331, 10343, 10357, 10391, 10457, 10463, 10487, 10529, 10559, 10567, 10631, 10667, 10691, 10709, 10723, 10733, 10739, 10771, 10799, 10853, 10937, 10939, 10979, 11047, 11057, 11069, 11083, 11093, 11149, 11159, 11213, 11261, 11279, 11299, 11321, 11329, 11351, 11399, 11423, 11443, 11447, 11489, 11491, 11497, 11579, 11657, 11677, 11699, 11801, 11807, 11839, 11863, 11867, 11887, 11897, 11923, 11939, 11959, 11981, 11987, 12037, 12107, 12143, 12149, 12157, 12163, 12197, 12227, 12379, 12391, 12409, 12413, 12457, 12503, 12511, 12539, 12553, 12569, 12583, 12589, 12647, 12659, 12713, 12743, 12757, 12763, 12791, 12823, 12829, 12841, 12889, 12911, 12917, 12919, 12953, 12973, 12983, 13007, 13049, 13099, 13103, 13151, 13163, 13187, 13217, 13219, 13229, 13259, 13297, 13309, 13451, 13513, 13537, 13577, 13649, 13697, 13723, 13759, 13763, 13789, 13799, 13807, 13831, 13841, 13901, 13913, 13963, 13967, 13997, 13999, 14011, 14029, 14083, 14087, 14107, 14159, 14173, 14207, 14243, 14321, 14347, 14387, 14447, 14533, 14633, 14639, 14683, 14699, 14717, 14753, 14759, 14767, 14867, 14869, 14879, 14887, 14923, 14947, 14957, 14983, 15013, 15017, 15031, 15077, 15083, 15173, 15187, 15217]
def S7 : List Nat := [719, 1319, 1439, 1699, 2039, 2083, 2447, 2777, 2803, 2837, 2879, 2999, 3343, 3779, 4079, 4139, 4157, 4253, 4283, 4457, 4517, 4679, 4703, 5179, 5273, 5647, 5807, 6247, 6317, 6379, 6653, 6793, 6827, 6857, 6899, 6983, 7523, 7529, 7559, 7717, 8147, 8329, 8599, 8629, 8923, 9227, 9341, 9587, 9623, 9839, 10067, 10159, 10289, 10343, 10357, 10391, 10463, 10631, 10723, 10771, 10799, 11069, 11213, 11279, 11321, 11489, 11579, 11807, 11863, 11887, 11897, 12143, 12163, 12539, 12757, 12763, 12917, 12919, 12983, 13163, 13187, 13309, 13799, 13967, 14011, 14107, 14159, 14173, 14683, 14699, 14717, 14867, 14887, 15269, 15287, 15413, 15427, 15527, 15647, 15767, 15791, 15797, 15817, 16217, 16487, 16547, 16553, 16603, 16631, 16657, 16691, 16931, 16981, 17123, 17189, 17257, 17351, 17419, 17657, 17747, 17903, 17939, 17989, 18413, 18443, 18679, 18713, 18839, 19379, 19387, 19433, 19577, 19853, 19949, 19963, 20029, 20063, 20147, 20323, 20327, 20389, 20477, 20479, 20507, 20549, 20627, 20663, 20717, 20947, 21059, 21089, 21247, 21383, 21419, 21467, 21487, 21503, 21599, 21863, 22259, 22283, 22567, 22643, 22669, 22697, 22859, 23117, 23159, 23357, 23399, 23603, 23743, 23773, 23879, 23993, 24107, 24317, 24413, 24439, 24469, 24509, 24763, 24799, 24917, 24919, 24943, 24989, 25031, 25183, 25189, 25219, 25391, 25469, 25471, 25583, 25679, 25693, 25849, 25903, 26099, 26153, 26459, 26693, 26737, 26903, 27067, 27103, 27283, 27299, 27527, 27583, 27617, 27689, 27803, 27827, 27851, 28031, 28069, 28219, 28319, 28547, 28643, 28649, 28661, 28723, 28759, 28867, 29077, 29333, 29387, 29399, 29741, 29759, 30029, 30089, 30113, 30137, 30347, 30469]
def S8 : List Nat := [1439, 2879, 4079, 7559, 8629, 10067, 11213, 13799, 13967, 14683, 17257, 19577, 20147, 20389, 20717, 21599, 22643, 22697, 23159, 23743, 23993, 24469, 24943, 24989, 25903, 27103, 28031, 28219, 28319, 28547, 29399, 30539, 30869, 31583, 31657, 32633, 33107, 33113, 33317, 33329, 33637, 33863, 34259, 34513, 34537, 34549, 34703, 34843, 35879, 35951, 36137, 36887, 37379, 37483, 38867, 39719, 40127, 40637, 40759, 41143, 42179, 42209, 42767, 42839, 44519, 44579, 45139, 45827, 46049, 46457, 47207, 48883, 49019, 49669, 49993, 50123, 50971, 51769, 52919, 54617, 55399, 55541, 56149, 56437, 57107, 57287, 57947, 58199, 58733, 59981, 60397]
def S9 : List Nat := [2879, 20147, 25903, 32633, 34537, 34549, 46049, 57107, 58733, 63317, 65267, 69029, 69073, 74759, 80537, 86291, 86341, 86371, 90709, 103549, 103613, 106487, 108413, 112877, 119963, 120877, 120919]
def S10 : List Nat := [34549, 65267, 86371, 103613, 120919, 138059, 138197, 149519, 172583, 172741, 207227, 224563]
def S11 : List Nat := [138197, 207227]
def S12 : List Nat := []
theorem in2 : ∀ q, Chain 2 q → q ≤ 953 → q ∈ S2 := fun q h hB => by
  have qo := chain_odd (k := 0) h
  have ok : ((List.range 476).all fun j => compF 600 (2 * (j + 1) + 1) 3 || S2.contains (2 * (j + 1) + 1)) = true := by decide +kernel
  have hp := h.1
  have h2 := hp.1
  have h3 := List.all_eq_true.mp ok ((q - 3) / 2) (List.mem_range.mpr (by omega))
  rw [show 2 * ((q - 3) / 2 + 1) + 1 = q by omega, compF_no hp (by decide), Bool.false_or] at h3
  exact List.contains_iff_mem.mp h3
theorem in3 : ∀ q, Chain 3 q → q ≤ 1907 → q ∈ S3 := fun q h hB => step_in (k := 0) (B := 1907) (S := S2) (by decide +kernel) (fun r hr hb => in2 r hr (by omega)) h hB
theorem in4 : ∀ q, Chain 4 q → q ≤ 3814 → q ∈ S4 := fun q h hB => step_in (k := 1) (B := 3814) (S := S3) (by decide +kernel) (fun r hr hb => in3 r hr (by omega)) h hB
theorem in5 : ∀ q, Chain 5 q → q ≤ 7629 → q ∈ S5 := fun q h hB => step_in (k := 2) (B := 7629) (S := S4) (by decide +kernel) (fun r hr hb => in4 r hr (by omega)) h hB
theorem in6 : ∀ q, Chain 6 q → q ≤ 15258 → q ∈ S6 := fun q h hB => step_in (k := 3) (B := 15258) (S := S5) (by decide +kernel) (fun r hr hb => in5 r hr (by omega)) h hB
theorem in7 : ∀ q, Chain 7 q → q ≤ 30517 → q ∈ S7 := fun q h hB => step_in (k := 4) (B := 30517) (S := S6) (by decide +kernel) (fun r hr hb => in6 r hr (by omega)) h hB
theorem in8 : ∀ q, Chain 8 q → q ≤ 61035 → q ∈ S8 := fun q h hB => step_in (k := 5) (B := 61035) (S := S7) (by decide +kernel) (fun r hr hb => in7 r hr (by omega)) h hB
theorem in9 : ∀ q, Chain 9 q → q ≤ 122070 → q ∈ S9 := fun q h hB => step_in (k := 6) (B := 122070) (S := S8) (by decide +kernel) (fun r hr hb => in8 r hr (by omega)) h hB
theorem in10 : ∀ q, Chain 10 q → q ≤ 244140 → q ∈ S10 := fun q h hB => step_in (k := 7) (B := 244140) (S := S9) (by decide +kernel) (fun r hr hb => in9 r hr (by omega)) h hB
theorem in11 : ∀ q, Chain 11 q → q ≤ 488281 → q ∈ S11 := fun q h hB => step_in (k := 8) (B := 488281) (S := S10) (by decide +kernel) (fun r hr hb => in10 r hr (by omega)) h hB
theorem in12 : ∀ q, Chain 12 q → q ≤ 976562 → q ∈ S12 := fun q h hB => step_in (k := 9) (B := 976562) (S := S11) (by decide +kernel) (fun r hr hb => in11 r hr (by omega)) h hB
theorem chain12 {p : Nat} (h : Chain 12 p) : 976563 ≤ p := by
  rcases Nat.lt_or_ge p 976563 with z | z
  · exact absurd (in12 p h (by omega)) (by simp [S12])
  · exact z
theorem chain_more {N : Nat} (h12 : ∀ p, Chain 12 p → N ≤ p) : ∀ (j : Nat) {p : Nat}, Chain (12 + j) p → 2 ^ j * N ≤ p
  | 0, p, h => by rw [Nat.pow_zero, Nat.one_mul]; exact h12 p h
  | j + 1, p, h => by
    rcases h.2 with z | ⟨q, hq, hc⟩
    · exact absurd z (by show ¬ (12 + j = 0); omega)
    · have ih : 2 ^ j * N ≤ q := chain_more h12 j hc
      obtain ⟨i, hi⟩ := chain_two (k := 11 + j) (by rw [show 11 + j + 2 = 12 + (j + 1) by omega]; exact h) hq (by rw [show 11 + j + 1 = 12 + j by omega]; exact hc) (chain_odd (k := 10 + j) (by rw [show 10 + j + 2 = 12 + j by omega]; exact hc))
      have h1 : 2 * q ≤ 2 * (i + 1) * q := Nat.mul_le_mul_right q (by omega)
      have h3 : 2 * q ≤ p := by rw [hi]; exact Nat.le_succ_of_le h1
      rw [Nat.pow_succ, Nat.mul_comm (2 ^ j) 2, Nat.mul_assoc]
      exact Nat.le_trans (Nat.mul_le_mul_left 2 ih) h3
theorem chain22 {p : Nat} (hp : p ≤ 1000000000) : ¬ Chain 22 p := fun h => by
  have h1 := chain_more (N := 976563) (fun p h => chain12 h) 10 (p := p) h
  have h2 : 2 ^ 10 * 976563 = 1000000512 := by decide +kernel
  rw [h2] at h1
  omega
/-- a parting is one alone -/
theorem fac_split {E : Nat} {l : List (Nat × Nat)} (hl : IsFac E l) {x : Nat × Nat} (hx : x ∈ l) : ∃ m, E = x.1 ^ x.2 * m ∧ ¬ x.1 ∣ m ∧ 0 < m := by
  obtain ⟨j, hj⟩ := List.getElem?_of_mem hx
  have hq := (hl.primes x hx).1
  have hil : j < l.length := (List.getElem?_eq_some_iff.mp hj).1
  have hxe : l[j] = x := (List.getElem?_eq_some_iff.mp hj).2
  have hd : l.drop j = x :: l.drop (j + 1) := by rw [List.drop_eq_getElem_cons hil, hxe]
  have hsp : l = l.take j ++ x :: l.drop (j + 1) := by rw [← hd, List.take_append_drop]
  have hso := hl.sorted
  rw [hsp] at hso
  have hso' := List.pairwise_append.mp hso
  have p1 : ∀ y ∈ l.take j, Prime y.1 := fun y hy => (hl.primes y (List.mem_of_mem_take hy)).1
  have p2 : ∀ y ∈ l.drop (j + 1), Prime y.1 := fun y hy => (hl.primes y (List.mem_of_mem_drop hy)).1
  refine ⟨prodL (l.take j) * prodL (l.drop (j + 1)), ?_, fun z => ?_, Nat.mul_pos (prodL_pos p1) (prodL_pos p2)⟩
  · rw [← hl.prod]
    conv => lhs; rw [hsp]
    rw [prodL_app]; simp only [prodL]; grind
  · rcases hq.dvd_mul z with z | z
    · obtain ⟨k, hk⟩ := prime_in' hq p1 z
      have h1 := hso'.2.2 _ hk x (by simp)
      have h2 : x.1 < x.1 := h1
      omega
    · obtain ⟨k, hk⟩ := prime_in' hq p2 z
      have h1 := (List.pairwise_cons.mp hso'.2.1).1 _ hk
      have h2 : x.1 < x.1 := h1
      omega
theorem fac_vq {E : Nat} {l : List (Nat × Nat)} (hl : IsFac E l) {x : Nat × Nat} (hx : x ∈ l) : x.2 = vq x.1 E := by
  obtain ⟨m, e, h1, h2⟩ := fac_split hl hx
  rw [e, vq_eq (hl.primes x hx).1.1 h1 h2]
theorem fac_mem_iff {E : Nat} {l : List (Nat × Nat)} (hl : IsFac E l) (x : Nat × Nat) : x ∈ l ↔ Prime x.1 ∧ x.1 ∣ E ∧ x.2 = vq x.1 E := by
  constructor
  · intro hx
    exact ⟨(hl.primes x hx).1, fac_dvd hl hx, fac_vq hl hx⟩
  · rintro ⟨h1, h2, h3⟩
    obtain ⟨k, hk⟩ := fac_prime_in hl h1 h2
    have := fac_vq hl hk
    have this' : k = vq x.1 E := this
    have e : x = (x.1, k) := by
      show (x.1, x.2) = (x.1, k)
      rw [h3, this']
    rw [e]; exact hk
theorem pairs_ext : ∀ {xs ys : List (Nat × Nat)}, xs.Pairwise (fun a b => a.1 < b.1) → ys.Pairwise (fun a b => a.1 < b.1) → (∀ y, y ∈ xs ↔ y ∈ ys) → xs = ys
  | [], [], _, _, _ => rfl
  | [], y :: ys, _, _, h => absurd ((h y).mpr (by simp)) (by simp)
  | x :: xs, [], _, _, h => absurd ((h x).mp (by simp)) (by simp)
  | x :: xs, y :: ys, hx, hy, h => by
    have hx' := List.pairwise_cons.mp hx
    have hy' := List.pairwise_cons.mp hy
    have e : x = y := by
      rcases List.mem_cons.mp ((h x).mp (by simp)) with z | z
      · exact z
      · rcases List.mem_cons.mp ((h y).mpr (by simp)) with w | w
        · exact w.symm
        · have := hx'.1 y w
          have := hy'.1 x z
          omega
    subst e
    congr 1
    refine pairs_ext hx'.2 hy'.2 fun y => ⟨fun m => ?_, fun m => ?_⟩
    · rcases List.mem_cons.mp ((h y).mp (by simp [m])) with z | z
      · have := hx'.1 y m
        rw [z] at this; omega
      · exact z
    · rcases List.mem_cons.mp ((h y).mpr (by simp [m])) with z | z
      · have := hy'.1 y m
        rw [z] at this; omega
      · exact z
theorem fac_unique {E : Nat} {l l' : List (Nat × Nat)} (h : IsFac E l) (h' : IsFac E l') : l = l' := pairs_ext h.sorted h'.sorted fun x => (fac_mem_iff h x).trans (fac_mem_iff h' x).symm
theorem full_unique {p f f' : Nat} (h : LeastFull p f) (h' : LeastFull p f') : f = f' := by
  rcases Nat.lt_trichotomy f f' with w | w | w
  · exact absurd h.full (h'.least f h.f0 w)
  · exact w
  · exact absurd h'.full (h.least f' h'.f0 w)
end M

namespace C
open PySem PySem.Spec PyProof.Rows L2 R

def top (i : Nat) : Stmt := PySem.Challenge.pw_rootprime_k77_tables_of_powers.main.body.getD i (.Pass ⟨0, 0, 0, 0⟩)
abbrev FnP (K : PySem.W.Frag) (x : Str) (st : Stmt) (f : Addr) (fd : FuncData) : Prop := FunD K x x (defArgs st) (defBody st) (defScope st) [] [] f fd
abbrev s_taken : Stmt := top 13
abbrev N_taken : List Str := ["q", "many", "found", "k"]
theorem sc_taken : FnScope N_taken ["q", "many"] (defScope s_taken) := ⟨rfl, rfl, rfl, by decide +kernel, rfl, by decide +kernel, by decide +kernel⟩
abbrev s_whole_of : Stmt := top 14
abbrev N_whole_of : List Str := ["parting", "found", "q", "many"]
theorem sc_whole_of : FnScope N_whole_of ["parting"] (defScope s_whole_of) := ⟨rfl, rfl, rfl, by decide +kernel, rfl, by decide +kernel, by decide +kernel⟩
abbrev s_divisor : Stmt := top 16
abbrev N_divisor : List Str := ["a", "b", "g", "u", "v", "rest", "x", "y", "times"]
theorem sc_divisor : FnScope N_divisor ["a", "b"] (defScope s_divisor) := ⟨rfl, rfl, rfl, by decide +kernel, rfl, by decide +kernel, by decide +kernel⟩
abbrev s_inverse : Stmt := top 17
abbrev N_inverse : List Str := ["n", "a", "g", "u", "v"]
theorem sc_inverse : FnScope N_inverse ["n", "a"] (defScope s_inverse) := ⟨rfl, rfl, rfl, by decide +kernel, rfl, by decide +kernel, by decide +kernel⟩
abbrev s_power : Stmt := top 19
abbrev N_power : List Str := ["n", "a", "e", "found", "base"]
theorem sc_power : FnScope N_power ["n", "a", "e"] (defScope s_power) := ⟨rfl, rfl, rfl, by decide +kernel, rfl, by decide +kernel, by decide +kernel⟩
abbrev s_plain_parting : Stmt := top 21
abbrev N_plain_parting : List Str := ["parts", "paper", "many"]
theorem sc_plain_parting : FnScope N_plain_parting ["parts"] (defScope s_plain_parting) := ⟨rfl, rfl, rfl, by decide +kernel, rfl, by decide +kernel, by decide +kernel⟩
abbrev s_taken_out : Stmt := top 22
abbrev N_taken_out : List Str := ["n", "a", "e", "prime", "many"]
theorem sc_taken_out : FnScope N_taken_out ["n", "a", "e", "prime", "many"] (defScope s_taken_out) := ⟨rfl, rfl, rfl, by decide +kernel, rfl, by decide +kernel, by decide +kernel⟩
abbrev s_order_from : Stmt := top 23
abbrev N_order_from : List Str := ["n", "a", "parts", "e", "kept", "paper", "many", "left"]
theorem sc_order_from : FnScope N_order_from ["n", "a", "parts"] (defScope s_order_from) := ⟨rfl, rfl, rfl, by decide +kernel, rfl, by decide +kernel, by decide +kernel⟩
abbrev s_order : Stmt := top 24
abbrev N_order : List Str := ["paper", "a", "p", "full", "parts"]
theorem sc_order : FnScope N_order ["paper", "a"] (defScope s_order) := ⟨rfl, rfl, rfl, by decide +kernel, rfl, by decide +kernel, by decide +kernel⟩
abbrev s_powers_of : Stmt := top 27
abbrev N_powers_of : List Str := ["paper", "b", "e", "found"]
theorem sc_powers_of : FnScope N_powers_of ["paper", "b"] (defScope s_powers_of) := ⟨rfl, rfl, rfl, by decide +kernel, rfl, by decide +kernel, by decide +kernel⟩
abbrev s_places_of : Stmt := top 28
abbrev N_places_of : List Str := ["paper", "b", "found", "place", "rest"]
theorem sc_places_of : FnScope N_places_of ["paper", "b"] (defScope s_places_of) := ⟨rfl, rfl, rfl, by decide +kernel, rfl, by decide +kernel, by decide +kernel⟩
abbrev s__law_cell_at : Stmt := top 30
abbrev N__law_cell_at : List Str := ["_law_script", "_law_k"]
theorem sc__law_cell_at : FnScope N__law_cell_at ["_law_script", "_law_k"] (defScope s__law_cell_at) := ⟨rfl, rfl, rfl, by decide +kernel, rfl, by decide +kernel, by decide +kernel⟩
abbrev s__law_state : Stmt := top 31
abbrev N__law_state : List Str := ["_law_cell", "_law_free"]
theorem sc__law_state : FnScope N__law_state ["_law_cell", "_law_free"] (defScope s__law_state) := ⟨rfl, rfl, rfl, by decide +kernel, rfl, by decide +kernel, by decide +kernel⟩
abbrev s__law_take : Stmt := top 32
abbrev N__law_take : List Str := ["_law_state_here", "_law_many", "_law_found"]
theorem sc__law_take : FnScope N__law_take ["_law_state_here", "_law_many"] (defScope s__law_take) := ⟨rfl, rfl, rfl, by decide +kernel, rfl, by decide +kernel, by decide +kernel⟩
abbrev s__law_number : Stmt := top 33
abbrev N__law_number : List Str := ["_law_state_here", "_law_way", "_law_found", "_law_k"]
theorem sc__law_number : FnScope N__law_number ["_law_state_here"] (defScope s__law_number) := ⟨rfl, rfl, rfl, by decide +kernel, rfl, by decide +kernel, by decide +kernel⟩
abbrev s__law_power : Stmt := top 34
abbrev N__law_power : List Str := ["_law_n", "_law_a", "_law_e", "_law_found", "_law_base"]
theorem sc__law_power : FnScope N__law_power ["_law_n", "_law_a", "_law_e"] (defScope s__law_power) := ⟨rfl, rfl, rfl, by decide +kernel, rfl, by decide +kernel, by decide +kernel⟩
abbrev s__law_parted : Stmt := top 35
abbrev N__law_parted : List Str := ["_law_n", "_law_found", "_law_d", "_law_many"]
theorem sc__law_parted : FnScope N__law_parted ["_law_n"] (defScope s__law_parted) := ⟨rfl, rfl, rfl, by decide +kernel, rfl, by decide +kernel, by decide +kernel⟩
abbrev s__law_paper : Stmt := top 36
abbrev N__law_paper : List Str := ["_law_p", "_law_some", "_law_full", "_law_q", "_law_many"]
theorem sc__law_paper : FnScope N__law_paper ["_law_p"] (defScope s__law_paper) := ⟨rfl, rfl, rfl, by decide +kernel, rfl, by decide +kernel, by decide +kernel⟩
abbrev s__law_is_prime : Stmt := top 37
abbrev N__law_is_prime : List Str := ["_law_n", "_law_d"]
theorem sc__law_is_prime : FnScope N__law_is_prime ["_law_n"] (defScope s__law_is_prime) := ⟨rfl, rfl, rfl, by decide +kernel, rfl, by decide +kernel, by decide +kernel⟩
abbrev s__law_prime : Stmt := top 38
abbrev N__law_prime : List Str := ["_law_state_here", "_law_way", "_law_n"]
theorem sc__law_prime : FnScope N__law_prime ["_law_state_here"] (defScope s__law_prime) := ⟨rfl, rfl, rfl, by decide +kernel, rfl, by decide +kernel, by decide +kernel⟩
abbrev s__law_steps : Stmt := top 39
abbrev N__law_steps : List Str := ["_law_paper_here", "_law_b", "_law_e", "_law_part"]
theorem sc__law_steps : FnScope N__law_steps ["_law_paper_here", "_law_b"] (defScope s__law_steps) := ⟨rfl, rfl, rfl, by decide +kernel, rfl, by decide +kernel, by decide +kernel⟩
abbrev s__law_told : Stmt := top 40
abbrev N__law_told : List Str := ["_law_asked", "_law_paper_here", "_law_b", "_law_found", "_law_word", "_law_many", "_law_error"]
theorem sc__law_told : FnScope N__law_told ["_law_asked", "_law_paper_here", "_law_b"] (defScope s__law_told) := ⟨rfl, rfl, rfl, by decide +kernel, rfl, by decide +kernel, by decide +kernel⟩
abbrev s__law_kinds : Stmt := top 41
abbrev N__law_kinds : List Str := ["_law_error", "_law_found"]
theorem sc__law_kinds : FnScope N__law_kinds ["_law_error"] (defScope s__law_kinds) := ⟨rfl, rfl, rfl, by decide +kernel, rfl, by decide +kernel, by decide +kernel⟩
abbrev s__law_by_hand : Stmt := top 42
abbrev N__law_by_hand : List Str := ["_law_number_here", "_law_prime_here", "_law_lone", "_law_root", "_law_many", "_law_far", "_law_text", "_law_errors", "_law_k", "_law_j"]
theorem sc__law_by_hand : FnScope N__law_by_hand ["_law_number_here"] (defScope s__law_by_hand) := ⟨rfl, rfl, rfl, by decide +kernel, rfl, by decide +kernel, by decide +kernel⟩
abbrev s__law_wholes : Stmt := top 43
abbrev N__law_wholes : List Str := ["_law_things", "_law_one"]
theorem sc__law_wholes : FnScope N__law_wholes ["_law_things"] (defScope s__law_wholes) := ⟨rfl, rfl, rfl, by decide +kernel, rfl, by decide +kernel, by decide +kernel⟩
abbrev s__law_right : Stmt := top 44
abbrev N__law_right : List Str := ["_law_paper_here", "_law_b", "_law_one", "_law_other", "_law_e", "_law_due", "_law_k"]
theorem sc__law_right : FnScope N__law_right ["_law_paper_here", "_law_b"] (defScope s__law_right) := ⟨rfl, rfl, rfl, by decide +kernel, rfl, by decide +kernel, by decide +kernel⟩
abbrev s_law : Stmt := top 45
abbrev N_law : List Str := ["_law_script", "_law_free", "_law_p", "_law_near", "_law_paper_here", "_law_cell", "_law_state_here", "_law_b", "_law_many", "_law_part"]
theorem sc_law : FnScope N_law ["_law_script"] (defScope s_law) := ⟨rfl, rfl, rfl, by decide +kernel, rfl, by decide +kernel, by decide +kernel⟩
abbrev s_init_TooFar : Stmt := inClass (top 3) 0
theorem sc_init_TooFar : FnScope ["self", "part"] ["self", "part"] (defScope s_init_TooFar) := ⟨rfl, rfl, rfl, by decide +kernel, rfl, by decide +kernel, by decide +kernel⟩
abbrev s_init_NoPrime : Stmt := inClass (top 4) 0
theorem sc_init_NoPrime : FnScope ["self", "divisor"] ["self", "divisor"] (defScope s_init_NoPrime) := ⟨rfl, rfl, rfl, by decide +kernel, rfl, by decide +kernel, by decide +kernel⟩
abbrev s_init_NoInverse : Stmt := inClass (top 5) 0
theorem sc_init_NoInverse : FnScope ["self", "divisor"] ["self", "divisor"] (defScope s_init_NoInverse) := ⟨rfl, rfl, rfl, by decide +kernel, rfl, by decide +kernel, by decide +kernel⟩
abbrev s_init_NoRoot : Stmt := inClass (top 8) 0
theorem sc_init_NoRoot : FnScope ["self", "rest"] ["self", "rest"] (defScope s_init_NoRoot) := ⟨rfl, rfl, rfl, by decide +kernel, rfl, by decide +kernel, by decide +kernel⟩
abbrev s_init_TooMany : Stmt := inClass (top 9) 0
theorem sc_init_TooMany : FnScope ["self", "many"] ["self", "many"] (defScope s_init_TooMany) := ⟨rfl, rfl, rfl, by decide +kernel, rfl, by decide +kernel, by decide +kernel⟩
abbrev s_init_NoText : Stmt := inClass (top 10) 0
theorem sc_init_NoText : FnScope ["self", "line", "word"] ["self", "line", "word"] (defScope s_init_NoText) := ⟨rfl, rfl, rfl, by decide +kernel, rfl, by decide +kernel, by decide +kernel⟩
def fn : List He5.DefA := [⟨fun K => He.ga K "taken", "taken", "taken", defArgs s_taken, defBody s_taken, defScope s_taken, [], []⟩,
  ⟨fun K => He.ga K "whole_of", "whole_of", "whole_of", defArgs s_whole_of, defBody s_whole_of, defScope s_whole_of, [], []⟩,
  ⟨fun K => He.ga K "divisor", "divisor", "divisor", defArgs s_divisor, defBody s_divisor, defScope s_divisor, [], []⟩,
  ⟨fun K => He.ga K "inverse", "inverse", "inverse", defArgs s_inverse, defBody s_inverse, defScope s_inverse, [], []⟩,
  ⟨fun K => He.ga K "power", "power", "power", defArgs s_power, defBody s_power, defScope s_power, [], []⟩,
  ⟨fun K => He.ga K "plain_parting", "plain_parting", "plain_parting", defArgs s_plain_parting, defBody s_plain_parting, defScope s_plain_parting, [], []⟩,
  ⟨fun K => He.ga K "taken_out", "taken_out", "taken_out", defArgs s_taken_out, defBody s_taken_out, defScope s_taken_out, [], []⟩,
  ⟨fun K => He.ga K "order_from", "order_from", "order_from", defArgs s_order_from, defBody s_order_from, defScope s_order_from, [], []⟩,
  ⟨fun K => He.ga K "order", "order", "order", defArgs s_order, defBody s_order, defScope s_order, [], []⟩,
  ⟨fun K => He.ga K "powers_of", "powers_of", "powers_of", defArgs s_powers_of, defBody s_powers_of, defScope s_powers_of, [], []⟩,
  ⟨fun K => He.ga K "places_of", "places_of", "places_of", defArgs s_places_of, defBody s_places_of, defScope s_places_of, [], []⟩,
  ⟨fun K => He.ga K "_law_cell_at", "_law_cell_at", "_law_cell_at", defArgs s__law_cell_at, defBody s__law_cell_at, defScope s__law_cell_at, [], []⟩,
  ⟨fun K => He.ga K "_law_state", "_law_state", "_law_state", defArgs s__law_state, defBody s__law_state, defScope s__law_state, [], []⟩,
  ⟨fun K => He.ga K "_law_take", "_law_take", "_law_take", defArgs s__law_take, defBody s__law_take, defScope s__law_take, [], []⟩,
  ⟨fun K => He.ga K "_law_number", "_law_number", "_law_number", defArgs s__law_number, defBody s__law_number, defScope s__law_number, [], []⟩,
  ⟨fun K => He.ga K "_law_power", "_law_power", "_law_power", defArgs s__law_power, defBody s__law_power, defScope s__law_power, [], []⟩,
  ⟨fun K => He.ga K "_law_parted", "_law_parted", "_law_parted", defArgs s__law_parted, defBody s__law_parted, defScope s__law_parted, [], []⟩,
  ⟨fun K => He.ga K "_law_paper", "_law_paper", "_law_paper", defArgs s__law_paper, defBody s__law_paper, defScope s__law_paper, [], []⟩,
  ⟨fun K => He.ga K "_law_is_prime", "_law_is_prime", "_law_is_prime", defArgs s__law_is_prime, defBody s__law_is_prime, defScope s__law_is_prime, [], []⟩,
  ⟨fun K => He.ga K "_law_prime", "_law_prime", "_law_prime", defArgs s__law_prime, defBody s__law_prime, defScope s__law_prime, [], []⟩,
  ⟨fun K => He.ga K "_law_steps", "_law_steps", "_law_steps", defArgs s__law_steps, defBody s__law_steps, defScope s__law_steps, [], []⟩,
  ⟨fun K => He.ga K "_law_told", "_law_told", "_law_told", defArgs s__law_told, defBody s__law_told, defScope s__law_told, [], []⟩,
  ⟨fun K => He.ga K "_law_kinds", "_law_kinds", "_law_kinds", defArgs s__law_kinds, defBody s__law_kinds, defScope s__law_kinds, [], []⟩,
  ⟨fun K => He.ga K "_law_by_hand", "_law_by_hand", "_law_by_hand", defArgs s__law_by_hand, defBody s__law_by_hand, defScope s__law_by_hand, [], []⟩,
  ⟨fun K => He.ga K "_law_wholes", "_law_wholes", "_law_wholes", defArgs s__law_wholes, defBody s__law_wholes, defScope s__law_wholes, [], []⟩,
  ⟨fun K => He.ga K "_law_right", "_law_right", "_law_right", defArgs s__law_right, defBody s__law_right, defScope s__law_right, [], []⟩,
  ⟨fun K => He.ga K "law", "law", "law", defArgs s_law, defBody s_law, defScope s_law, [], []⟩,
  ⟨fun K => He.ma K (He.ga K "TooFar") "__init__", "__init__", "TooFar.__init__", defArgs s_init_TooFar, defBody s_init_TooFar, defScope s_init_TooFar, [], []⟩,
  ⟨fun K => He.ma K (He.ga K "NoPrime") "__init__", "__init__", "NoPrime.__init__", defArgs s_init_NoPrime, defBody s_init_NoPrime, defScope s_init_NoPrime, [], []⟩,
  ⟨fun K => He.ma K (He.ga K "NoInverse") "__init__", "__init__", "NoInverse.__init__", defArgs s_init_NoInverse, defBody s_init_NoInverse, defScope s_init_NoInverse, [], []⟩,
  ⟨fun K => He.ma K (He.ga K "NoRoot") "__init__", "__init__", "NoRoot.__init__", defArgs s_init_NoRoot, defBody s_init_NoRoot, defScope s_init_NoRoot, [], []⟩,
  ⟨fun K => He.ma K (He.ga K "TooMany") "__init__", "__init__", "TooMany.__init__", defArgs s_init_TooMany, defBody s_init_TooMany, defScope s_init_TooMany, [], []⟩,
  ⟨fun K => He.ma K (He.ga K "NoText") "__init__", "__init__", "NoText.__init__", defArgs s_init_NoText, defBody s_init_NoText, defScope s_init_NoText, [], []⟩]
def fa : List FB := [fun K => (He.Fa.glo "taken").ok K, fun K => (He.Fa.glo "whole_of").ok K, fun K => (He.Fa.glo "divisor").ok K, fun K => (He.Fa.glo "inverse").ok K, fun K => (He.Fa.glo "power").ok K, fun K => (He.Fa.glo "plain_parting").ok K, fun K => (He.Fa.glo "taken_out").ok K, fun K => (He.Fa.glo "order_from").ok K, fun K => (He.Fa.glo "order").ok K, fun K => (He.Fa.glo "powers_of").ok K, fun K => (He.Fa.glo "places_of").ok K, fun K => (He.Fa.glo "_law_cell_at").ok K, fun K => (He.Fa.glo "_law_state").ok K, fun K => (He.Fa.glo "_law_take").ok K, fun K => (He.Fa.glo "_law_number").ok K, fun K => (He.Fa.glo "_law_power").ok K, fun K => (He.Fa.glo "_law_parted").ok K, fun K => (He.Fa.glo "_law_paper").ok K, fun K => (He.Fa.glo "_law_is_prime").ok K, fun K => (He.Fa.glo "_law_prime").ok K, fun K => (He.Fa.glo "_law_steps").ok K, fun K => (He.Fa.glo "_law_told").ok K, fun K => (He.Fa.glo "_law_kinds").ok K, fun K => (He.Fa.glo "_law_by_hand").ok K, fun K => (He.Fa.glo "_law_wholes").ok K, fun K => (He.Fa.glo "_law_right").ok K, fun K => (He.Fa.glo "law").ok K, fun K => (He.Fa.glo "PrimeError").ok K, fun K => (He.Fa.glo "NoNumber").ok K, fun K => (He.Fa.glo "TooFar").ok K, fun K => (He.Fa.glo "NoPrime").ok K, fun K => (He.Fa.glo "NoInverse").ok K, fun K => (He.Fa.glo "Nought").ok K, fun K => (He.Fa.glo "NoOrder").ok K, fun K => (He.Fa.glo "NoRoot").ok K, fun K => (He.Fa.glo "TooMany").ok K, fun K => (He.Fa.glo "NoText").ok K, fun K => (He.Fa.glo "NoRow").ok K, fun K => (He.Fa.free "range").ok K, fun K => (He.Fa.free "tuple").ok K, fun K => (He.Fa.free "len").ok K, fun K => (He.Fa.free "enumerate").ok K, fun K => (He.Fa.free "int").ok K, fun K => (He.Fa.free "isinstance").ok K, fun K => (He.Fa.free "ValueError").ok K, fun K => (He.Fa.free "bool").ok K, fun K => (He.Fa.free "list").ok K, fun K => (He.Fa.free "dict").ok K, fun K => (He.Fa.int "MOST_POWERS" 400).ok K, fun K => xinB "TooFar" "part" K, fun K => baseB (He.ga K "PrimeError") K, fun K => xinB "NoPrime" "divisor" K, fun K => xinB "NoInverse" "divisor" K, fun K => xinB "NoRoot" "rest" K, fun K => xinB "TooMany" "many" K, fun K => xinB "NoText" "line" K, fun K => xinB "NoText" "word" K, fun K => (He.Fa.exc "PrimeError").ok K, fun K => (He.Fa.exc "NoNumber").ok K, fun K => (He.Fa.exc "Nought").ok K, fun K => (He.Fa.exc "NoOrder").ok K, fun K => (He.Fa.exc "NoRow").ok K, fun K => (He.Fa.exm "Nought" "Nought" true).ok K, fun K => (He.Fa.exm "TooMany" "Nought" false).ok K, fun K => (He.Fa.exm "TooMany" "TooMany" true).ok K, fun K => kitcB "NoNumber" "NoNumber" true K, fun K => isxB "NoNumber" K, fun K => kitcB "NoNumber" "NoOrder" false K, fun K => kitcB "NoNumber" "Nought" false K, fun K => kitcB "NoNumber" "NoRow" false K, fun K => kitcB "NoNumber" "NoPrime" false K, fun K => kitcB "NoNumber" "NoInverse" false K, fun K => kitcB "NoNumber" "NoRoot" false K, fun K => kitcB "NoNumber" "TooMany" false K, fun K => kitcB "NoNumber" "TooFar" false K, fun K => kitcB "NoNumber" "NoText" false K, fun K => kitcB "NoNumber" "PrimeError" true K, fun K => kittB "NoNumber" "ValueError" true K, fun K => kitcB "NoOrder" "NoNumber" false K, fun K => isxB "NoOrder" K, fun K => kitcB "NoOrder" "NoOrder" true K, fun K => kitcB "NoOrder" "Nought" false K, fun K => kitcB "NoOrder" "NoRow" false K, fun K => kitcB "NoOrder" "NoPrime" false K, fun K => kitcB "NoOrder" "NoInverse" false K, fun K => kitcB "NoOrder" "NoRoot" false K, fun K => kitcB "NoOrder" "TooMany" false K, fun K => kitcB "NoOrder" "TooFar" false K, fun K => kitcB "NoOrder" "NoText" false K, fun K => kitcB "NoOrder" "PrimeError" true K, fun K => kittB "NoOrder" "ValueError" true K, fun K => kitcB "Nought" "NoNumber" false K, fun K => isxB "Nought" K, fun K => kitcB "Nought" "NoOrder" false K, fun K => kitcB "Nought" "Nought" true K, fun K => kitcB "Nought" "NoRow" false K, fun K => kitcB "Nought" "NoPrime" false K, fun K => kitcB "Nought" "NoInverse" false K, fun K => kitcB "Nought" "NoRoot" false K, fun K => kitcB "Nought" "TooMany" false K, fun K => kitcB "Nought" "TooFar" false K, fun K => kitcB "Nought" "NoText" false K, fun K => kitcB "Nought" "PrimeError" true K, fun K => kittB "Nought" "ValueError" true K, fun K => kitcB "NoRow" "NoNumber" false K, fun K => isxB "NoRow" K, fun K => kitcB "NoRow" "NoOrder" false K, fun K => kitcB "NoRow" "Nought" false K, fun K => kitcB "NoRow" "NoRow" true K, fun K => kitcB "NoRow" "NoPrime" false K, fun K => kitcB "NoRow" "NoInverse" false K, fun K => kitcB "NoRow" "NoRoot" false K, fun K => kitcB "NoRow" "TooMany" false K, fun K => kitcB "NoRow" "TooFar" false K, fun K => kitcB "NoRow" "NoText" false K, fun K => kitcB "NoRow" "PrimeError" true K, fun K => kittB "NoRow" "ValueError" true K, fun K => kitcB "NoPrime" "NoNumber" false K, fun K => isxB "NoPrime" K, fun K => kitcB "NoPrime" "NoOrder" false K, fun K => kitcB "NoPrime" "Nought" false K, fun K => kitcB "NoPrime" "NoRow" false K, fun K => kitcB "NoPrime" "NoPrime" true K, fun K => kitcB "NoPrime" "NoInverse" false K, fun K => kitcB "NoPrime" "NoRoot" false K, fun K => kitcB "NoPrime" "TooMany" false K, fun K => kitcB "NoPrime" "TooFar" false K, fun K => kitcB "NoPrime" "NoText" false K, fun K => kitcB "NoPrime" "PrimeError" true K, fun K => kittB "NoPrime" "ValueError" true K, fun K => kitcB "NoInverse" "NoNumber" false K, fun K => isxB "NoInverse" K, fun K => kitcB "NoInverse" "NoOrder" false K, fun K => kitcB "NoInverse" "Nought" false K, fun K => kitcB "NoInverse" "NoRow" false K, fun K => kitcB "NoInverse" "NoPrime" false K, fun K => kitcB "NoInverse" "NoInverse" true K, fun K => kitcB "NoInverse" "NoRoot" false K, fun K => kitcB "NoInverse" "TooMany" false K, fun K => kitcB "NoInverse" "TooFar" false K, fun K => kitcB "NoInverse" "NoText" false K, fun K => kitcB "NoInverse" "PrimeError" true K, fun K => kittB "NoInverse" "ValueError" true K, fun K => kitcB "NoRoot" "NoNumber" false K, fun K => isxB "NoRoot" K, fun K => kitcB "NoRoot" "NoOrder" false K, fun K => kitcB "NoRoot" "Nought" false K, fun K => kitcB "NoRoot" "NoRow" false K, fun K => kitcB "NoRoot" "NoPrime" false K, fun K => kitcB "NoRoot" "NoInverse" false K, fun K => kitcB "NoRoot" "NoRoot" true K, fun K => kitcB "NoRoot" "TooMany" false K, fun K => kitcB "NoRoot" "TooFar" false K, fun K => kitcB "NoRoot" "NoText" false K, fun K => kitcB "NoRoot" "PrimeError" true K, fun K => kittB "NoRoot" "ValueError" true K, fun K => kitcB "TooMany" "NoNumber" false K, fun K => isxB "TooMany" K, fun K => kitcB "TooMany" "NoOrder" false K, fun K => kitcB "TooMany" "Nought" false K, fun K => kitcB "TooMany" "NoRow" false K, fun K => kitcB "TooMany" "NoPrime" false K, fun K => kitcB "TooMany" "NoInverse" false K, fun K => kitcB "TooMany" "NoRoot" false K, fun K => kitcB "TooMany" "TooMany" true K, fun K => kitcB "TooMany" "TooFar" false K, fun K => kitcB "TooMany" "NoText" false K, fun K => kitcB "TooMany" "PrimeError" true K, fun K => kittB "TooMany" "ValueError" true K, fun K => kitcB "TooFar" "NoNumber" false K, fun K => isxB "TooFar" K, fun K => kitcB "TooFar" "NoOrder" false K, fun K => kitcB "TooFar" "Nought" false K, fun K => kitcB "TooFar" "NoRow" false K, fun K => kitcB "TooFar" "NoPrime" false K, fun K => kitcB "TooFar" "NoInverse" false K, fun K => kitcB "TooFar" "NoRoot" false K, fun K => kitcB "TooFar" "TooMany" false K, fun K => kitcB "TooFar" "TooFar" true K, fun K => kitcB "TooFar" "NoText" false K, fun K => kitcB "TooFar" "PrimeError" true K, fun K => kittB "TooFar" "ValueError" true K, fun K => kitcB "NoText" "NoNumber" false K, fun K => isxB "NoText" K, fun K => kitcB "NoText" "NoOrder" false K, fun K => kitcB "NoText" "Nought" false K, fun K => kitcB "NoText" "NoRow" false K, fun K => kitcB "NoText" "NoPrime" false K, fun K => kitcB "NoText" "NoInverse" false K, fun K => kitcB "NoText" "NoRoot" false K, fun K => kitcB "NoText" "TooMany" false K, fun K => kitcB "NoText" "TooFar" false K, fun K => kitcB "NoText" "NoText" true K, fun K => kitcB "NoText" "PrimeError" true K, fun K => kittB "NoText" "ValueError" true K]
structure Txt (K : PySem.W.Frag) (mg : Str → Option Value) : Prop where
  c : Told fa fn K
  gl : ∀ {x : Str}, (He.Fa.glo x).ok K = true → mg x = some (.ref (He.ga K x))
  fr : ∀ {x : Str}, (He.Fa.free x).ok K = true → mg x = none
  int_ok : ∀ {x : Str} {i : Int}, (He.Fa.int x i).ok K = true → ∃ t, mg x = some (.int i t)
section
variable {P : Program} {w : World} {K : PySem.W.Frag} {mg : Str → Option Value} {base : Heap}
theorem F0_taken (T : Txt K mg) : ∃ fd, FnP K "taken" s_taken (He.ga K "taken") fd := T.c.dfn 0 rfl
noncomputable def fd_taken (T : Txt K mg) : FuncData := (F0_taken T).choose
theorem F_taken (T : Txt K mg) : FnP K "taken" s_taken (He.ga K "taken") (fd_taken T) := (F0_taken T).choose_spec
theorem g_taken (T : Txt K mg) : mg "taken" = some (.ref (He.ga K "taken")) := T.gl (T.c.fact 0 rfl)
theorem kp_taken (T : Txt K mg) : PySem.W.keepIn K (.ref (He.ga K "taken")) = true := (F_taken T).kp
theorem B_taken (T : Txt K mg) : Binds K (fd_taken T) ["q", "many"] [] := (F_taken T).bindsN fun _ _ _ _ _ _ us hl => match us, hl with | [_, _], _ => rfl
theorem F0_whole_of (T : Txt K mg) : ∃ fd, FnP K "whole_of" s_whole_of (He.ga K "whole_of") fd := T.c.dfn 1 rfl
noncomputable def fd_whole_of (T : Txt K mg) : FuncData := (F0_whole_of T).choose
theorem F_whole_of (T : Txt K mg) : FnP K "whole_of" s_whole_of (He.ga K "whole_of") (fd_whole_of T) := (F0_whole_of T).choose_spec
theorem g_whole_of (T : Txt K mg) : mg "whole_of" = some (.ref (He.ga K "whole_of")) := T.gl (T.c.fact 1 rfl)
theorem kp_whole_of (T : Txt K mg) : PySem.W.keepIn K (.ref (He.ga K "whole_of")) = true := (F_whole_of T).kp
theorem B_whole_of (T : Txt K mg) : Binds K (fd_whole_of T) ["parting"] [] := (F_whole_of T).bindsN fun _ _ _ _ _ _ us hl => match us, hl with | [_], _ => rfl
theorem F0_divisor (T : Txt K mg) : ∃ fd, FnP K "divisor" s_divisor (He.ga K "divisor") fd := T.c.dfn 2 rfl
noncomputable def fd_divisor (T : Txt K mg) : FuncData := (F0_divisor T).choose
theorem F_divisor (T : Txt K mg) : FnP K "divisor" s_divisor (He.ga K "divisor") (fd_divisor T) := (F0_divisor T).choose_spec
theorem g_divisor (T : Txt K mg) : mg "divisor" = some (.ref (He.ga K "divisor")) := T.gl (T.c.fact 2 rfl)
theorem kp_divisor (T : Txt K mg) : PySem.W.keepIn K (.ref (He.ga K "divisor")) = true := (F_divisor T).kp
theorem B_divisor (T : Txt K mg) : Binds K (fd_divisor T) ["a", "b"] [] := (F_divisor T).bindsN fun _ _ _ _ _ _ us hl => match us, hl with | [_, _], _ => rfl
theorem F0_inverse (T : Txt K mg) : ∃ fd, FnP K "inverse" s_inverse (He.ga K "inverse") fd := T.c.dfn 3 rfl
noncomputable def fd_inverse (T : Txt K mg) : FuncData := (F0_inverse T).choose
theorem F_inverse (T : Txt K mg) : FnP K "inverse" s_inverse (He.ga K "inverse") (fd_inverse T) := (F0_inverse T).choose_spec
theorem g_inverse (T : Txt K mg) : mg "inverse" = some (.ref (He.ga K "inverse")) := T.gl (T.c.fact 3 rfl)
theorem kp_inverse (T : Txt K mg) : PySem.W.keepIn K (.ref (He.ga K "inverse")) = true := (F_inverse T).kp
theorem B_inverse (T : Txt K mg) : Binds K (fd_inverse T) ["n", "a"] [] := (F_inverse T).bindsN fun _ _ _ _ _ _ us hl => match us, hl with | [_, _], _ => rfl
theorem F0_power (T : Txt K mg) : ∃ fd, FnP K "power" s_power (He.ga K "power") fd := T.c.dfn 4 rfl
noncomputable def fd_power (T : Txt K mg) : FuncData := (F0_power T).choose
theorem F_power (T : Txt K mg) : FnP K "power" s_power (He.ga K "power") (fd_power T) := (F0_power T).choose_spec
theorem g_power (T : Txt K mg) : mg "power" = some (.ref (He.ga K "power")) := T.gl (T.c.fact 4 rfl)
theorem kp_power (T : Txt K mg) : PySem.W.keepIn K (.ref (He.ga K "power")) = true := (F_power T).kp
theorem B_power (T : Txt K mg) : Binds K (fd_power T) ["n", "a", "e"] [] := (F_power T).bindsN fun _ _ _ _ _ _ us hl => match us, hl with | [_, _, _], _ => rfl
theorem F0_plain_parting (T : Txt K mg) : ∃ fd, FnP K "plain_parting" s_plain_parting (He.ga K "plain_parting") fd := T.c.dfn 5 rfl
noncomputable def fd_plain_parting (T : Txt K mg) : FuncData := (F0_plain_parting T).choose
theorem F_plain_parting (T : Txt K mg) : FnP K "plain_parting" s_plain_parting (He.ga K "plain_parting") (fd_plain_parting T) := (F0_plain_parting T).choose_spec
theorem g_plain_parting (T : Txt K mg) : mg "plain_parting" = some (.ref (He.ga K "plain_parting")) := T.gl (T.c.fact 5 rfl)
theorem kp_plain_parting (T : Txt K mg) : PySem.W.keepIn K (.ref (He.ga K "plain_parting")) = true := (F_plain_parting T).kp
theorem B_plain_parting (T : Txt K mg) : Binds K (fd_plain_parting T) ["parts"] [] := (F_plain_parting T).bindsN fun _ _ _ _ _ _ us hl => match us, hl with | [_], _ => rfl
theorem F0_taken_out (T : Txt K mg) : ∃ fd, FnP K "taken_out" s_taken_out (He.ga K "taken_out") fd := T.c.dfn 6 rfl
noncomputable def fd_taken_out (T : Txt K mg) : FuncData := (F0_taken_out T).choose
theorem F_taken_out (T : Txt K mg) : FnP K "taken_out" s_taken_out (He.ga K "taken_out") (fd_taken_out T) := (F0_taken_out T).choose_spec
theorem g_taken_out (T : Txt K mg) : mg "taken_out" = some (.ref (He.ga K "taken_out")) := T.gl (T.c.fact 6 rfl)
theorem kp_taken_out (T : Txt K mg) : PySem.W.keepIn K (.ref (He.ga K "taken_out")) = true := (F_taken_out T).kp
theorem B_taken_out (T : Txt K mg) : Binds K (fd_taken_out T) ["n", "a", "e", "prime", "many"] [] := (F_taken_out T).bindsN fun _ _ _ _ _ _ us hl => match us, hl with | [_, _, _, _, _], _ => rfl
theorem F0_order_from (T : Txt K mg) : ∃ fd, FnP K "order_from" s_order_from (He.ga K "order_from") fd := T.c.dfn 7 rfl
noncomputable def fd_order_from (T : Txt K mg) : FuncData := (F0_order_from T).choose
theorem F_order_from (T : Txt K mg) : FnP K "order_from" s_order_from (He.ga K "order_from") (fd_order_from T) := (F0_order_from T).choose_spec
theorem g_order_from (T : Txt K mg) : mg "order_from" = some (.ref (He.ga K "order_from")) := T.gl (T.c.fact 7 rfl)
theorem kp_order_from (T : Txt K mg) : PySem.W.keepIn K (.ref (He.ga K "order_from")) = true := (F_order_from T).kp
theorem B_order_from (T : Txt K mg) : Binds K (fd_order_from T) ["n", "a", "parts"] [] := (F_order_from T).bindsN fun _ _ _ _ _ _ us hl => match us, hl with | [_, _, _], _ => rfl
theorem F0_order (T : Txt K mg) : ∃ fd, FnP K "order" s_order (He.ga K "order") fd := T.c.dfn 8 rfl
noncomputable def fd_order (T : Txt K mg) : FuncData := (F0_order T).choose
theorem F_order (T : Txt K mg) : FnP K "order" s_order (He.ga K "order") (fd_order T) := (F0_order T).choose_spec
theorem g_order (T : Txt K mg) : mg "order" = some (.ref (He.ga K "order")) := T.gl (T.c.fact 8 rfl)
theorem kp_order (T : Txt K mg) : PySem.W.keepIn K (.ref (He.ga K "order")) = true := (F_order T).kp
theorem B_order (T : Txt K mg) : Binds K (fd_order T) ["paper", "a"] [] := (F_order T).bindsN fun _ _ _ _ _ _ us hl => match us, hl with | [_, _], _ => rfl
theorem F0_powers_of (T : Txt K mg) : ∃ fd, FnP K "powers_of" s_powers_of (He.ga K "powers_of") fd := T.c.dfn 9 rfl
noncomputable def fd_powers_of (T : Txt K mg) : FuncData := (F0_powers_of T).choose
theorem F_powers_of (T : Txt K mg) : FnP K "powers_of" s_powers_of (He.ga K "powers_of") (fd_powers_of T) := (F0_powers_of T).choose_spec
theorem g_powers_of (T : Txt K mg) : mg "powers_of" = some (.ref (He.ga K "powers_of")) := T.gl (T.c.fact 9 rfl)
theorem kp_powers_of (T : Txt K mg) : PySem.W.keepIn K (.ref (He.ga K "powers_of")) = true := (F_powers_of T).kp
theorem B_powers_of (T : Txt K mg) : Binds K (fd_powers_of T) ["paper", "b"] [] := (F_powers_of T).bindsN fun _ _ _ _ _ _ us hl => match us, hl with | [_, _], _ => rfl
theorem F0_places_of (T : Txt K mg) : ∃ fd, FnP K "places_of" s_places_of (He.ga K "places_of") fd := T.c.dfn 10 rfl
noncomputable def fd_places_of (T : Txt K mg) : FuncData := (F0_places_of T).choose
theorem F_places_of (T : Txt K mg) : FnP K "places_of" s_places_of (He.ga K "places_of") (fd_places_of T) := (F0_places_of T).choose_spec
theorem g_places_of (T : Txt K mg) : mg "places_of" = some (.ref (He.ga K "places_of")) := T.gl (T.c.fact 10 rfl)
theorem kp_places_of (T : Txt K mg) : PySem.W.keepIn K (.ref (He.ga K "places_of")) = true := (F_places_of T).kp
theorem B_places_of (T : Txt K mg) : Binds K (fd_places_of T) ["paper", "b"] [] := (F_places_of T).bindsN fun _ _ _ _ _ _ us hl => match us, hl with | [_, _], _ => rfl
theorem F0__law_cell_at (T : Txt K mg) : ∃ fd, FnP K "_law_cell_at" s__law_cell_at (He.ga K "_law_cell_at") fd := T.c.dfn 11 rfl
noncomputable def fd__law_cell_at (T : Txt K mg) : FuncData := (F0__law_cell_at T).choose
theorem F__law_cell_at (T : Txt K mg) : FnP K "_law_cell_at" s__law_cell_at (He.ga K "_law_cell_at") (fd__law_cell_at T) := (F0__law_cell_at T).choose_spec
theorem g__law_cell_at (T : Txt K mg) : mg "_law_cell_at" = some (.ref (He.ga K "_law_cell_at")) := T.gl (T.c.fact 11 rfl)
theorem kp__law_cell_at (T : Txt K mg) : PySem.W.keepIn K (.ref (He.ga K "_law_cell_at")) = true := (F__law_cell_at T).kp
theorem B__law_cell_at (T : Txt K mg) : Binds K (fd__law_cell_at T) ["_law_script", "_law_k"] [] := (F__law_cell_at T).bindsN fun _ _ _ _ _ _ us hl => match us, hl with | [_, _], _ => rfl
theorem F0__law_state (T : Txt K mg) : ∃ fd, FnP K "_law_state" s__law_state (He.ga K "_law_state") fd := T.c.dfn 12 rfl
noncomputable def fd__law_state (T : Txt K mg) : FuncData := (F0__law_state T).choose
theorem F__law_state (T : Txt K mg) : FnP K "_law_state" s__law_state (He.ga K "_law_state") (fd__law_state T) := (F0__law_state T).choose_spec
theorem g__law_state (T : Txt K mg) : mg "_law_state" = some (.ref (He.ga K "_law_state")) := T.gl (T.c.fact 12 rfl)
theorem kp__law_state (T : Txt K mg) : PySem.W.keepIn K (.ref (He.ga K "_law_state")) = true := (F__law_state T).kp
theorem B__law_state (T : Txt K mg) : Binds K (fd__law_state T) ["_law_cell", "_law_free"] [] := (F__law_state T).bindsN fun _ _ _ _ _ _ us hl => match us, hl with | [_, _], _ => rfl
theorem F0__law_take (T : Txt K mg) : ∃ fd, FnP K "_law_take" s__law_take (He.ga K "_law_take") fd := T.c.dfn 13 rfl
noncomputable def fd__law_take (T : Txt K mg) : FuncData := (F0__law_take T).choose
theorem F__law_take (T : Txt K mg) : FnP K "_law_take" s__law_take (He.ga K "_law_take") (fd__law_take T) := (F0__law_take T).choose_spec
theorem g__law_take (T : Txt K mg) : mg "_law_take" = some (.ref (He.ga K "_law_take")) := T.gl (T.c.fact 13 rfl)
theorem kp__law_take (T : Txt K mg) : PySem.W.keepIn K (.ref (He.ga K "_law_take")) = true := (F__law_take T).kp
theorem B__law_take (T : Txt K mg) : Binds K (fd__law_take T) ["_law_state_here", "_law_many"] [] := (F__law_take T).bindsN fun _ _ _ _ _ _ us hl => match us, hl with | [_, _], _ => rfl
theorem F0__law_number (T : Txt K mg) : ∃ fd, FnP K "_law_number" s__law_number (He.ga K "_law_number") fd := T.c.dfn 14 rfl
noncomputable def fd__law_number (T : Txt K mg) : FuncData := (F0__law_number T).choose
theorem F__law_number (T : Txt K mg) : FnP K "_law_number" s__law_number (He.ga K "_law_number") (fd__law_number T) := (F0__law_number T).choose_spec
theorem g__law_number (T : Txt K mg) : mg "_law_number" = some (.ref (He.ga K "_law_number")) := T.gl (T.c.fact 14 rfl)
theorem kp__law_number (T : Txt K mg) : PySem.W.keepIn K (.ref (He.ga K "_law_number")) = true := (F__law_number T).kp
theorem B__law_number (T : Txt K mg) : Binds K (fd__law_number T) ["_law_state_here"] [] := (F__law_number T).bindsN fun _ _ _ _ _ _ us hl => match us, hl with | [_], _ => rfl
theorem F0__law_power (T : Txt K mg) : ∃ fd, FnP K "_law_power" s__law_power (He.ga K "_law_power") fd := T.c.dfn 15 rfl
noncomputable def fd__law_power (T : Txt K mg) : FuncData := (F0__law_power T).choose
theorem F__law_power (T : Txt K mg) : FnP K "_law_power" s__law_power (He.ga K "_law_power") (fd__law_power T) := (F0__law_power T).choose_spec
theorem g__law_power (T : Txt K mg) : mg "_law_power" = some (.ref (He.ga K "_law_power")) := T.gl (T.c.fact 15 rfl)
theorem kp__law_power (T : Txt K mg) : PySem.W.keepIn K (.ref (He.ga K "_law_power")) = true := (F__law_power T).kp
theorem B__law_power (T : Txt K mg) : Binds K (fd__law_power T) ["_law_n", "_law_a", "_law_e"] [] := (F__law_power T).bindsN fun _ _ _ _ _ _ us hl => match us, hl with | [_, _, _], _ => rfl
theorem F0__law_parted (T : Txt K mg) : ∃ fd, FnP K "_law_parted" s__law_parted (He.ga K "_law_parted") fd := T.c.dfn 16 rfl
noncomputable def fd__law_parted (T : Txt K mg) : FuncData := (F0__law_parted T).choose
theorem F__law_parted (T : Txt K mg) : FnP K "_law_parted" s__law_parted (He.ga K "_law_parted") (fd__law_parted T) := (F0__law_parted T).choose_spec
theorem g__law_parted (T : Txt K mg) : mg "_law_parted" = some (.ref (He.ga K "_law_parted")) := T.gl (T.c.fact 16 rfl)
theorem kp__law_parted (T : Txt K mg) : PySem.W.keepIn K (.ref (He.ga K "_law_parted")) = true := (F__law_parted T).kp
theorem B__law_parted (T : Txt K mg) : Binds K (fd__law_parted T) ["_law_n"] [] := (F__law_parted T).bindsN fun _ _ _ _ _ _ us hl => match us, hl with | [_], _ => rfl
theorem F0__law_paper (T : Txt K mg) : ∃ fd, FnP K "_law_paper" s__law_paper (He.ga K "_law_paper") fd := T.c.dfn 17 rfl
noncomputable def fd__law_paper (T : Txt K mg) : FuncData := (F0__law_paper T).choose
theorem F__law_paper (T : Txt K mg) : FnP K "_law_paper" s__law_paper (He.ga K "_law_paper") (fd__law_paper T) := (F0__law_paper T).choose_spec
theorem g__law_paper (T : Txt K mg) : mg "_law_paper" = some (.ref (He.ga K "_law_paper")) := T.gl (T.c.fact 17 rfl)
theorem kp__law_paper (T : Txt K mg) : PySem.W.keepIn K (.ref (He.ga K "_law_paper")) = true := (F__law_paper T).kp
theorem B__law_paper (T : Txt K mg) : Binds K (fd__law_paper T) ["_law_p"] [] := (F__law_paper T).bindsN fun _ _ _ _ _ _ us hl => match us, hl with | [_], _ => rfl
theorem F0__law_is_prime (T : Txt K mg) : ∃ fd, FnP K "_law_is_prime" s__law_is_prime (He.ga K "_law_is_prime") fd := T.c.dfn 18 rfl
noncomputable def fd__law_is_prime (T : Txt K mg) : FuncData := (F0__law_is_prime T).choose
theorem F__law_is_prime (T : Txt K mg) : FnP K "_law_is_prime" s__law_is_prime (He.ga K "_law_is_prime") (fd__law_is_prime T) := (F0__law_is_prime T).choose_spec
theorem g__law_is_prime (T : Txt K mg) : mg "_law_is_prime" = some (.ref (He.ga K "_law_is_prime")) := T.gl (T.c.fact 18 rfl)
theorem kp__law_is_prime (T : Txt K mg) : PySem.W.keepIn K (.ref (He.ga K "_law_is_prime")) = true := (F__law_is_prime T).kp
theorem B__law_is_prime (T : Txt K mg) : Binds K (fd__law_is_prime T) ["_law_n"] [] := (F__law_is_prime T).bindsN fun _ _ _ _ _ _ us hl => match us, hl with | [_], _ => rfl
theorem F0__law_prime (T : Txt K mg) : ∃ fd, FnP K "_law_prime" s__law_prime (He.ga K "_law_prime") fd := T.c.dfn 19 rfl
noncomputable def fd__law_prime (T : Txt K mg) : FuncData := (F0__law_prime T).choose
theorem F__law_prime (T : Txt K mg) : FnP K "_law_prime" s__law_prime (He.ga K "_law_prime") (fd__law_prime T) := (F0__law_prime T).choose_spec
theorem g__law_prime (T : Txt K mg) : mg "_law_prime" = some (.ref (He.ga K "_law_prime")) := T.gl (T.c.fact 19 rfl)
theorem kp__law_prime (T : Txt K mg) : PySem.W.keepIn K (.ref (He.ga K "_law_prime")) = true := (F__law_prime T).kp
theorem B__law_prime (T : Txt K mg) : Binds K (fd__law_prime T) ["_law_state_here"] [] := (F__law_prime T).bindsN fun _ _ _ _ _ _ us hl => match us, hl with | [_], _ => rfl
theorem F0__law_steps (T : Txt K mg) : ∃ fd, FnP K "_law_steps" s__law_steps (He.ga K "_law_steps") fd := T.c.dfn 20 rfl
noncomputable def fd__law_steps (T : Txt K mg) : FuncData := (F0__law_steps T).choose
theorem F__law_steps (T : Txt K mg) : FnP K "_law_steps" s__law_steps (He.ga K "_law_steps") (fd__law_steps T) := (F0__law_steps T).choose_spec
theorem g__law_steps (T : Txt K mg) : mg "_law_steps" = some (.ref (He.ga K "_law_steps")) := T.gl (T.c.fact 20 rfl)
theorem kp__law_steps (T : Txt K mg) : PySem.W.keepIn K (.ref (He.ga K "_law_steps")) = true := (F__law_steps T).kp
theorem B__law_steps (T : Txt K mg) : Binds K (fd__law_steps T) ["_law_paper_here", "_law_b"] [] := (F__law_steps T).bindsN fun _ _ _ _ _ _ us hl => match us, hl with | [_, _], _ => rfl
theorem F0__law_told (T : Txt K mg) : ∃ fd, FnP K "_law_told" s__law_told (He.ga K "_law_told") fd := T.c.dfn 21 rfl
noncomputable def fd__law_told (T : Txt K mg) : FuncData := (F0__law_told T).choose
theorem F__law_told (T : Txt K mg) : FnP K "_law_told" s__law_told (He.ga K "_law_told") (fd__law_told T) := (F0__law_told T).choose_spec
theorem g__law_told (T : Txt K mg) : mg "_law_told" = some (.ref (He.ga K "_law_told")) := T.gl (T.c.fact 21 rfl)
theorem kp__law_told (T : Txt K mg) : PySem.W.keepIn K (.ref (He.ga K "_law_told")) = true := (F__law_told T).kp
theorem B__law_told (T : Txt K mg) : Binds K (fd__law_told T) ["_law_asked", "_law_paper_here", "_law_b"] [] := (F__law_told T).bindsN fun _ _ _ _ _ _ us hl => match us, hl with | [_, _, _], _ => rfl
theorem F0__law_kinds (T : Txt K mg) : ∃ fd, FnP K "_law_kinds" s__law_kinds (He.ga K "_law_kinds") fd := T.c.dfn 22 rfl
noncomputable def fd__law_kinds (T : Txt K mg) : FuncData := (F0__law_kinds T).choose
theorem F__law_kinds (T : Txt K mg) : FnP K "_law_kinds" s__law_kinds (He.ga K "_law_kinds") (fd__law_kinds T) := (F0__law_kinds T).choose_spec
theorem g__law_kinds (T : Txt K mg) : mg "_law_kinds" = some (.ref (He.ga K "_law_kinds")) := T.gl (T.c.fact 22 rfl)
theorem kp__law_kinds (T : Txt K mg) : PySem.W.keepIn K (.ref (He.ga K "_law_kinds")) = true := (F__law_kinds T).kp
theorem B__law_kinds (T : Txt K mg) : Binds K (fd__law_kinds T) ["_law_error"] [] := (F__law_kinds T).bindsN fun _ _ _ _ _ _ us hl => match us, hl with | [_], _ => rfl
theorem F0__law_by_hand (T : Txt K mg) : ∃ fd, FnP K "_law_by_hand" s__law_by_hand (He.ga K "_law_by_hand") fd := T.c.dfn 23 rfl
noncomputable def fd__law_by_hand (T : Txt K mg) : FuncData := (F0__law_by_hand T).choose
theorem F__law_by_hand (T : Txt K mg) : FnP K "_law_by_hand" s__law_by_hand (He.ga K "_law_by_hand") (fd__law_by_hand T) := (F0__law_by_hand T).choose_spec
theorem g__law_by_hand (T : Txt K mg) : mg "_law_by_hand" = some (.ref (He.ga K "_law_by_hand")) := T.gl (T.c.fact 23 rfl)
theorem kp__law_by_hand (T : Txt K mg) : PySem.W.keepIn K (.ref (He.ga K "_law_by_hand")) = true := (F__law_by_hand T).kp
theorem B__law_by_hand (T : Txt K mg) : Binds K (fd__law_by_hand T) ["_law_number_here"] [] := (F__law_by_hand T).bindsN fun _ _ _ _ _ _ us hl => match us, hl with | [_], _ => rfl
theorem F0__law_wholes (T : Txt K mg) : ∃ fd, FnP K "_law_wholes" s__law_wholes (He.ga K "_law_wholes") fd := T.c.dfn 24 rfl
noncomputable def fd__law_wholes (T : Txt K mg) : FuncData := (F0__law_wholes T).choose
theorem F__law_wholes (T : Txt K mg) : FnP K "_law_wholes" s__law_wholes (He.ga K "_law_wholes") (fd__law_wholes T) := (F0__law_wholes T).choose_spec
theorem g__law_wholes (T : Txt K mg) : mg "_law_wholes" = some (.ref (He.ga K "_law_wholes")) := T.gl (T.c.fact 24 rfl)
theorem kp__law_wholes (T : Txt K mg) : PySem.W.keepIn K (.ref (He.ga K "_law_wholes")) = true := (F__law_wholes T).kp
theorem B__law_wholes (T : Txt K mg) : Binds K (fd__law_wholes T) ["_law_things"] [] := (F__law_wholes T).bindsN fun _ _ _ _ _ _ us hl => match us, hl with | [_], _ => rfl
theorem F0__law_right (T : Txt K mg) : ∃ fd, FnP K "_law_right" s__law_right (He.ga K "_law_right") fd := T.c.dfn 25 rfl
noncomputable def fd__law_right (T : Txt K mg) : FuncData := (F0__law_right T).choose
theorem F__law_right (T : Txt K mg) : FnP K "_law_right" s__law_right (He.ga K "_law_right") (fd__law_right T) := (F0__law_right T).choose_spec
theorem g__law_right (T : Txt K mg) : mg "_law_right" = some (.ref (He.ga K "_law_right")) := T.gl (T.c.fact 25 rfl)
theorem kp__law_right (T : Txt K mg) : PySem.W.keepIn K (.ref (He.ga K "_law_right")) = true := (F__law_right T).kp
theorem B__law_right (T : Txt K mg) : Binds K (fd__law_right T) ["_law_paper_here", "_law_b"] [] := (F__law_right T).bindsN fun _ _ _ _ _ _ us hl => match us, hl with | [_, _], _ => rfl
theorem F0_law (T : Txt K mg) : ∃ fd, FnP K "law" s_law (He.ga K "law") fd := T.c.dfn 26 rfl
noncomputable def fd_law (T : Txt K mg) : FuncData := (F0_law T).choose
theorem F_law (T : Txt K mg) : FnP K "law" s_law (He.ga K "law") (fd_law T) := (F0_law T).choose_spec
theorem g_law (T : Txt K mg) : mg "law" = some (.ref (He.ga K "law")) := T.gl (T.c.fact 26 rfl)
theorem kp_law (T : Txt K mg) : PySem.W.keepIn K (.ref (He.ga K "law")) = true := (F_law T).kp
theorem B_law (T : Txt K mg) : Binds K (fd_law T) ["_law_script"] [] := (F_law T).bindsN fun _ _ _ _ _ _ us hl => match us, hl with | [_], _ => rfl
theorem g_PrimeError (T : Txt K mg) : mg "PrimeError" = some (.ref (He.ga K "PrimeError")) := T.gl (T.c.fact 27 rfl)
theorem g_NoNumber (T : Txt K mg) : mg "NoNumber" = some (.ref (He.ga K "NoNumber")) := T.gl (T.c.fact 28 rfl)
theorem g_TooFar (T : Txt K mg) : mg "TooFar" = some (.ref (He.ga K "TooFar")) := T.gl (T.c.fact 29 rfl)
theorem g_NoPrime (T : Txt K mg) : mg "NoPrime" = some (.ref (He.ga K "NoPrime")) := T.gl (T.c.fact 30 rfl)
theorem g_NoInverse (T : Txt K mg) : mg "NoInverse" = some (.ref (He.ga K "NoInverse")) := T.gl (T.c.fact 31 rfl)
theorem g_Nought (T : Txt K mg) : mg "Nought" = some (.ref (He.ga K "Nought")) := T.gl (T.c.fact 32 rfl)
theorem g_NoOrder (T : Txt K mg) : mg "NoOrder" = some (.ref (He.ga K "NoOrder")) := T.gl (T.c.fact 33 rfl)
theorem g_NoRoot (T : Txt K mg) : mg "NoRoot" = some (.ref (He.ga K "NoRoot")) := T.gl (T.c.fact 34 rfl)
theorem g_TooMany (T : Txt K mg) : mg "TooMany" = some (.ref (He.ga K "TooMany")) := T.gl (T.c.fact 35 rfl)
theorem g_NoText (T : Txt K mg) : mg "NoText" = some (.ref (He.ga K "NoText")) := T.gl (T.c.fact 36 rfl)
theorem g_NoRow (T : Txt K mg) : mg "NoRow" = some (.ref (He.ga K "NoRow")) := T.gl (T.c.fact 37 rfl)
theorem x_TooFar (T : Txt K mg) : XIn K (He.ga K "TooFar") (He.ma K (He.ga K "TooFar") "__init__") "part" := xin_of (T.c.fact 49 rfl)
theorem F0_init_TooFar (T : Txt K mg) : ∃ fd, FunD K "__init__" "TooFar.__init__" (defArgs s_init_TooFar) (defBody s_init_TooFar) (defScope s_init_TooFar) [] [] (He.ma K (He.ga K "TooFar") "__init__") fd := T.c.dfn 27 rfl
noncomputable def fd_init_TooFar (T : Txt K mg) : FuncData := (F0_init_TooFar T).choose
theorem F_init_TooFar (T : Txt K mg) : FunD K "__init__" "TooFar.__init__" (defArgs s_init_TooFar) (defBody s_init_TooFar) (defScope s_init_TooFar) [] [] (He.ma K (He.ga K "TooFar") "__init__") (fd_init_TooFar T) := (F0_init_TooFar T).choose_spec
theorem B_init_TooFar (T : Txt K mg) : Binds K (fd_init_TooFar T) ["self", "part"] [] := (F_init_TooFar T).bindsN fun _ _ _ _ _ _ us hl => match us, hl with | [_, _], _ => rfl
theorem ok_init_TooFar (T : Txt K mg) : FnOk P w K mg base CX0 1 (He.ma K (He.ga K "TooFar") "__init__") (fd_init_TooFar T) ["self", "part"] (sp_init K (He.ga K "TooFar") "part") := by
  refine (F_init_TooFar T).ok sc_init_TooFar (fun vs H Q E h => ?_) (fun cdv A outer s H vs Q E hr h => ⟨_, PSs.nox (pss_cons (ps_expr (pe_cinit rfl (g_PrimeError T) (base_of (T.c.fact (t := fun K => baseB (He.ga K "PrimeError") K) 50 rfl)) (pa_cons (pv 0) (pa_cons pe_str pa_nil)))) (pss_one (ps_ost (pv 0) (pv 1)))), ?_⟩)
  · obtain ⟨_, _, rfl, _⟩ := h; rfl
  · exact rd_init h
theorem x_NoPrime (T : Txt K mg) : XIn K (He.ga K "NoPrime") (He.ma K (He.ga K "NoPrime") "__init__") "divisor" := xin_of (T.c.fact 51 rfl)
theorem F0_init_NoPrime (T : Txt K mg) : ∃ fd, FunD K "__init__" "NoPrime.__init__" (defArgs s_init_NoPrime) (defBody s_init_NoPrime) (defScope s_init_NoPrime) [] [] (He.ma K (He.ga K "NoPrime") "__init__") fd := T.c.dfn 28 rfl
noncomputable def fd_init_NoPrime (T : Txt K mg) : FuncData := (F0_init_NoPrime T).choose
theorem F_init_NoPrime (T : Txt K mg) : FunD K "__init__" "NoPrime.__init__" (defArgs s_init_NoPrime) (defBody s_init_NoPrime) (defScope s_init_NoPrime) [] [] (He.ma K (He.ga K "NoPrime") "__init__") (fd_init_NoPrime T) := (F0_init_NoPrime T).choose_spec
theorem B_init_NoPrime (T : Txt K mg) : Binds K (fd_init_NoPrime T) ["self", "divisor"] [] := (F_init_NoPrime T).bindsN fun _ _ _ _ _ _ us hl => match us, hl with | [_, _], _ => rfl
theorem ok_init_NoPrime (T : Txt K mg) : FnOk P w K mg base CX0 1 (He.ma K (He.ga K "NoPrime") "__init__") (fd_init_NoPrime T) ["self", "divisor"] (sp_init K (He.ga K "NoPrime") "divisor") := by
  refine (F_init_NoPrime T).ok sc_init_NoPrime (fun vs H Q E h => ?_) (fun cdv A outer s H vs Q E hr h => ⟨_, PSs.nox (pss_cons (ps_expr (pe_cinit rfl (g_PrimeError T) (base_of (T.c.fact (t := fun K => baseB (He.ga K "PrimeError") K) 50 rfl)) (pa_cons (pv 0) (pa_cons pe_str pa_nil)))) (pss_one (ps_ost (pv 0) (pv 1)))), ?_⟩)
  · obtain ⟨_, _, rfl, _⟩ := h; rfl
  · exact rd_init h
theorem x_NoInverse (T : Txt K mg) : XIn K (He.ga K "NoInverse") (He.ma K (He.ga K "NoInverse") "__init__") "divisor" := xin_of (T.c.fact 52 rfl)
theorem F0_init_NoInverse (T : Txt K mg) : ∃ fd, FunD K "__init__" "NoInverse.__init__" (defArgs s_init_NoInverse) (defBody s_init_NoInverse) (defScope s_init_NoInverse) [] [] (He.ma K (He.ga K "NoInverse") "__init__") fd := T.c.dfn 29 rfl
noncomputable def fd_init_NoInverse (T : Txt K mg) : FuncData := (F0_init_NoInverse T).choose
theorem F_init_NoInverse (T : Txt K mg) : FunD K "__init__" "NoInverse.__init__" (defArgs s_init_NoInverse) (defBody s_init_NoInverse) (defScope s_init_NoInverse) [] [] (He.ma K (He.ga K "NoInverse") "__init__") (fd_init_NoInverse T) := (F0_init_NoInverse T).choose_spec
theorem B_init_NoInverse (T : Txt K mg) : Binds K (fd_init_NoInverse T) ["self", "divisor"] [] := (F_init_NoInverse T).bindsN fun _ _ _ _ _ _ us hl => match us, hl with | [_, _], _ => rfl
theorem ok_init_NoInverse (T : Txt K mg) : FnOk P w K mg base CX0 1 (He.ma K (He.ga K "NoInverse") "__init__") (fd_init_NoInverse T) ["self", "divisor"] (sp_init K (He.ga K "NoInverse") "divisor") := by
  refine (F_init_NoInverse T).ok sc_init_NoInverse (fun vs H Q E h => ?_) (fun cdv A outer s H vs Q E hr h => ⟨_, PSs.nox (pss_cons (ps_expr (pe_cinit rfl (g_PrimeError T) (base_of (T.c.fact (t := fun K => baseB (He.ga K "PrimeError") K) 50 rfl)) (pa_cons (pv 0) (pa_cons pe_str pa_nil)))) (pss_one (ps_ost (pv 0) (pv 1)))), ?_⟩)
  · obtain ⟨_, _, rfl, _⟩ := h; rfl
  · exact rd_init h
theorem x_NoRoot (T : Txt K mg) : XIn K (He.ga K "NoRoot") (He.ma K (He.ga K "NoRoot") "__init__") "rest" := xin_of (T.c.fact 53 rfl)
theorem F0_init_NoRoot (T : Txt K mg) : ∃ fd, FunD K "__init__" "NoRoot.__init__" (defArgs s_init_NoRoot) (defBody s_init_NoRoot) (defScope s_init_NoRoot) [] [] (He.ma K (He.ga K "NoRoot") "__init__") fd := T.c.dfn 30 rfl
noncomputable def fd_init_NoRoot (T : Txt K mg) : FuncData := (F0_init_NoRoot T).choose
theorem F_init_NoRoot (T : Txt K mg) : FunD K "__init__" "NoRoot.__init__" (defArgs s_init_NoRoot) (defBody s_init_NoRoot) (defScope s_init_NoRoot) [] [] (He.ma K (He.ga K "NoRoot") "__init__") (fd_init_NoRoot T) := (F0_init_NoRoot T).choose_spec
theorem B_init_NoRoot (T : Txt K mg) : Binds K (fd_init_NoRoot T) ["self", "rest"] [] := (F_init_NoRoot T).bindsN fun _ _ _ _ _ _ us hl => match us, hl with | [_, _], _ => rfl
theorem ok_init_NoRoot (T : Txt K mg) : FnOk P w K mg base CX0 1 (He.ma K (He.ga K "NoRoot") "__init__") (fd_init_NoRoot T) ["self", "rest"] (sp_init K (He.ga K "NoRoot") "rest") := by
  refine (F_init_NoRoot T).ok sc_init_NoRoot (fun vs H Q E h => ?_) (fun cdv A outer s H vs Q E hr h => ⟨_, PSs.nox (pss_cons (ps_expr (pe_cinit rfl (g_PrimeError T) (base_of (T.c.fact (t := fun K => baseB (He.ga K "PrimeError") K) 50 rfl)) (pa_cons (pv 0) (pa_cons pe_str pa_nil)))) (pss_one (ps_ost (pv 0) (pv 1)))), ?_⟩)
  · obtain ⟨_, _, rfl, _⟩ := h; rfl
  · exact rd_init h
theorem x_TooMany (T : Txt K mg) : XIn K (He.ga K "TooMany") (He.ma K (He.ga K "TooMany") "__init__") "many" := xin_of (T.c.fact 54 rfl)
theorem F0_init_TooMany (T : Txt K mg) : ∃ fd, FunD K "__init__" "TooMany.__init__" (defArgs s_init_TooMany) (defBody s_init_TooMany) (defScope s_init_TooMany) [] [] (He.ma K (He.ga K "TooMany") "__init__") fd := T.c.dfn 31 rfl
noncomputable def fd_init_TooMany (T : Txt K mg) : FuncData := (F0_init_TooMany T).choose
theorem F_init_TooMany (T : Txt K mg) : FunD K "__init__" "TooMany.__init__" (defArgs s_init_TooMany) (defBody s_init_TooMany) (defScope s_init_TooMany) [] [] (He.ma K (He.ga K "TooMany") "__init__") (fd_init_TooMany T) := (F0_init_TooMany T).choose_spec
theorem B_init_TooMany (T : Txt K mg) : Binds K (fd_init_TooMany T) ["self", "many"] [] := (F_init_TooMany T).bindsN fun _ _ _ _ _ _ us hl => match us, hl with | [_, _], _ => rfl
theorem ok_init_TooMany (T : Txt K mg) : FnOk P w K mg base CX0 1 (He.ma K (He.ga K "TooMany") "__init__") (fd_init_TooMany T) ["self", "many"] (sp_init K (He.ga K "TooMany") "many") := by
  refine (F_init_TooMany T).ok sc_init_TooMany (fun vs H Q E h => ?_) (fun cdv A outer s H vs Q E hr h => ⟨_, PSs.nox (pss_cons (ps_expr (pe_cinit rfl (g_PrimeError T) (base_of (T.c.fact (t := fun K => baseB (He.ga K "PrimeError") K) 50 rfl)) (pa_cons (pv 0) (pa_cons pe_str pa_nil)))) (pss_one (ps_ost (pv 0) (pv 1)))), ?_⟩)
  · obtain ⟨_, _, rfl, _⟩ := h; rfl
  · exact rd_init h
theorem x_NoText (T : Txt K mg) : XIn K (He.ga K "NoText") (He.ma K (He.ga K "NoText") "__init__") "line" := xin_of (T.c.fact 55 rfl)
theorem y_NoText (T : Txt K mg) : XIn K (He.ga K "NoText") (He.ma K (He.ga K "NoText") "__init__") "word" := xin_of (T.c.fact 56 rfl)
theorem F0_init_NoText (T : Txt K mg) : ∃ fd, FunD K "__init__" "NoText.__init__" (defArgs s_init_NoText) (defBody s_init_NoText) (defScope s_init_NoText) [] [] (He.ma K (He.ga K "NoText") "__init__") fd := T.c.dfn 32 rfl
noncomputable def fd_init_NoText (T : Txt K mg) : FuncData := (F0_init_NoText T).choose
theorem F_init_NoText (T : Txt K mg) : FunD K "__init__" "NoText.__init__" (defArgs s_init_NoText) (defBody s_init_NoText) (defScope s_init_NoText) [] [] (He.ma K (He.ga K "NoText") "__init__") (fd_init_NoText T) := (F0_init_NoText T).choose_spec
theorem B_init_NoText (T : Txt K mg) : Binds K (fd_init_NoText T) ["self", "line", "word"] [] := (F_init_NoText T).bindsN fun _ _ _ _ _ _ us hl => match us, hl with | [_, _, _], _ => rfl
theorem ok_init_NoText (T : Txt K mg) : FnOk P w K mg base CX0 1 (He.ma K (He.ga K "NoText") "__init__") (fd_init_NoText T) ["self", "line", "word"] (R.sp_init2 K (He.ga K "NoText") "line" "word") := by
  refine (F_init_NoText T).ok sc_init_NoText (fun vs H Q E h => ?_) (fun cdv A outer s H vs Q E hr h => ⟨_, PSs.nox (pss_cons (ps_expr (pe_cinit rfl (g_PrimeError T) (base_of (T.c.fact (t := fun K => baseB (He.ga K "PrimeError") K) 50 rfl)) (pa_cons (pv 0) (pa_cons pe_str pa_nil)))) (pss_cons (ps_ost (pv 0) (pv 1)) (pss_one (ps_ost (pv 0) (pv 2))))), ?_⟩)
  · obtain ⟨_, _, _, rfl, _⟩ := h; rfl
  · exact R.rd_init2 h
theorem z_PrimeError (T : Txt K mg) : Exc0 K (He.ga K "PrimeError") := exc0_of (T.c.fact 57 rfl)
theorem z_NoNumber (T : Txt K mg) : Exc0 K (He.ga K "NoNumber") := exc0_of (T.c.fact 58 rfl)
theorem z_Nought (T : Txt K mg) : Exc0 K (He.ga K "Nought") := exc0_of (T.c.fact 59 rfl)
theorem z_NoOrder (T : Txt K mg) : Exc0 K (He.ga K "NoOrder") := exc0_of (T.c.fact 60 rfl)
theorem z_NoRow (T : Txt K mg) : Exc0 K (He.ga K "NoRow") := exc0_of (T.c.fact 61 rfl)
theorem k_NoNumber_NoNumber (T : Txt K mg) : PySem.W.kitOne K (.ref (He.ga K "NoNumber")) (.ref (He.ga K "NoNumber")) = some true := kitc_of (T.c.fact 65 rfl)
theorem i_NoNumber (T : Txt K mg) : IsX K (He.ga K "NoNumber") := isx_of (T.c.fact 66 rfl)
theorem k_NoNumber_NoOrder (T : Txt K mg) : PySem.W.kitOne K (.ref (He.ga K "NoNumber")) (.ref (He.ga K "NoOrder")) = some false := kitc_of (T.c.fact 67 rfl)
theorem k_NoNumber_Nought (T : Txt K mg) : PySem.W.kitOne K (.ref (He.ga K "NoNumber")) (.ref (He.ga K "Nought")) = some false := kitc_of (T.c.fact 68 rfl)
theorem k_NoNumber_NoRow (T : Txt K mg) : PySem.W.kitOne K (.ref (He.ga K "NoNumber")) (.ref (He.ga K "NoRow")) = some false := kitc_of (T.c.fact 69 rfl)
theorem k_NoNumber_NoPrime (T : Txt K mg) : PySem.W.kitOne K (.ref (He.ga K "NoNumber")) (.ref (He.ga K "NoPrime")) = some false := kitc_of (T.c.fact 70 rfl)
theorem k_NoNumber_NoInverse (T : Txt K mg) : PySem.W.kitOne K (.ref (He.ga K "NoNumber")) (.ref (He.ga K "NoInverse")) = some false := kitc_of (T.c.fact 71 rfl)
theorem k_NoNumber_NoRoot (T : Txt K mg) : PySem.W.kitOne K (.ref (He.ga K "NoNumber")) (.ref (He.ga K "NoRoot")) = some false := kitc_of (T.c.fact 72 rfl)
theorem k_NoNumber_TooMany (T : Txt K mg) : PySem.W.kitOne K (.ref (He.ga K "NoNumber")) (.ref (He.ga K "TooMany")) = some false := kitc_of (T.c.fact 73 rfl)
theorem k_NoNumber_TooFar (T : Txt K mg) : PySem.W.kitOne K (.ref (He.ga K "NoNumber")) (.ref (He.ga K "TooFar")) = some false := kitc_of (T.c.fact 74 rfl)
theorem k_NoNumber_NoText (T : Txt K mg) : PySem.W.kitOne K (.ref (He.ga K "NoNumber")) (.ref (He.ga K "NoText")) = some false := kitc_of (T.c.fact 75 rfl)
theorem k_NoNumber_PrimeError (T : Txt K mg) : PySem.W.kitOne K (.ref (He.ga K "NoNumber")) (.ref (He.ga K "PrimeError")) = some true := kitc_of (T.c.fact 76 rfl)
theorem k_NoNumber_ValueError (T : Txt K mg) : PySem.W.kitOne K (.ref (He.ga K "NoNumber")) (.type "ValueError") = some true := kitt_of (T.c.fact 77 rfl)
theorem k_NoOrder_NoNumber (T : Txt K mg) : PySem.W.kitOne K (.ref (He.ga K "NoOrder")) (.ref (He.ga K "NoNumber")) = some false := kitc_of (T.c.fact 78 rfl)
theorem i_NoOrder (T : Txt K mg) : IsX K (He.ga K "NoOrder") := isx_of (T.c.fact 79 rfl)
theorem k_NoOrder_NoOrder (T : Txt K mg) : PySem.W.kitOne K (.ref (He.ga K "NoOrder")) (.ref (He.ga K "NoOrder")) = some true := kitc_of (T.c.fact 80 rfl)
theorem k_NoOrder_Nought (T : Txt K mg) : PySem.W.kitOne K (.ref (He.ga K "NoOrder")) (.ref (He.ga K "Nought")) = some false := kitc_of (T.c.fact 81 rfl)
theorem k_NoOrder_NoRow (T : Txt K mg) : PySem.W.kitOne K (.ref (He.ga K "NoOrder")) (.ref (He.ga K "NoRow")) = some false := kitc_of (T.c.fact 82 rfl)
theorem k_NoOrder_NoPrime (T : Txt K mg) : PySem.W.kitOne K (.ref (He.ga K "NoOrder")) (.ref (He.ga K "NoPrime")) = some false := kitc_of (T.c.fact 83 rfl)
theorem k_NoOrder_NoInverse (T : Txt K mg) : PySem.W.kitOne K (.ref (He.ga K "NoOrder")) (.ref (He.ga K "NoInverse")) = some false := kitc_of (T.c.fact 84 rfl)
theorem k_NoOrder_NoRoot (T : Txt K mg) : PySem.W.kitOne K (.ref (He.ga K "NoOrder")) (.ref (He.ga K "NoRoot")) = some false := kitc_of (T.c.fact 85 rfl)
theorem k_NoOrder_TooMany (T : Txt K mg) : PySem.W.kitOne K (.ref (He.ga K "NoOrder")) (.ref (He.ga K "TooMany")) = some false := kitc_of (T.c.fact 86 rfl)
theorem k_NoOrder_TooFar (T : Txt K mg) : PySem.W.kitOne K (.ref (He.ga K "NoOrder")) (.ref (He.ga K "TooFar")) = some false := kitc_of (T.c.fact 87 rfl)
theorem k_NoOrder_NoText (T : Txt K mg) : PySem.W.kitOne K (.ref (He.ga K "NoOrder")) (.ref (He.ga K "NoText")) = some false := kitc_of (T.c.fact 88 rfl)
theorem k_NoOrder_PrimeError (T : Txt K mg) : PySem.W.kitOne K (.ref (He.ga K "NoOrder")) (.ref (He.ga K "PrimeError")) = some true := kitc_of (T.c.fact 89 rfl)
theorem k_NoOrder_ValueError (T : Txt K mg) : PySem.W.kitOne K (.ref (He.ga K "NoOrder")) (.type "ValueError") = some true := kitt_of (T.c.fact 90 rfl)
theorem k_Nought_NoNumber (T : Txt K mg) : PySem.W.kitOne K (.ref (He.ga K "Nought")) (.ref (He.ga K "NoNumber")) = some false := kitc_of (T.c.fact 91 rfl)
theorem i_Nought (T : Txt K mg) : IsX K (He.ga K "Nought") := isx_of (T.c.fact 92 rfl)
theorem k_Nought_NoOrder (T : Txt K mg) : PySem.W.kitOne K (.ref (He.ga K "Nought")) (.ref (He.ga K "NoOrder")) = some false := kitc_of (T.c.fact 93 rfl)
theorem k_Nought_Nought (T : Txt K mg) : PySem.W.kitOne K (.ref (He.ga K "Nought")) (.ref (He.ga K "Nought")) = some true := kitc_of (T.c.fact 94 rfl)
theorem k_Nought_NoRow (T : Txt K mg) : PySem.W.kitOne K (.ref (He.ga K "Nought")) (.ref (He.ga K "NoRow")) = some false := kitc_of (T.c.fact 95 rfl)
theorem k_Nought_NoPrime (T : Txt K mg) : PySem.W.kitOne K (.ref (He.ga K "Nought")) (.ref (He.ga K "NoPrime")) = some false := kitc_of (T.c.fact 96 rfl)
theorem k_Nought_NoInverse (T : Txt K mg) : PySem.W.kitOne K (.ref (He.ga K "Nought")) (.ref (He.ga K "NoInverse")) = some false := kitc_of (T.c.fact 97 rfl)
theorem k_Nought_NoRoot (T : Txt K mg) : PySem.W.kitOne K (.ref (He.ga K "Nought")) (.ref (He.ga K "NoRoot")) = some false := kitc_of (T.c.fact 98 rfl)
theorem k_Nought_TooMany (T : Txt K mg) : PySem.W.kitOne K (.ref (He.ga K "Nought")) (.ref (He.ga K "TooMany")) = some false := kitc_of (T.c.fact 99 rfl)
theorem k_Nought_TooFar (T : Txt K mg) : PySem.W.kitOne K (.ref (He.ga K "Nought")) (.ref (He.ga K "TooFar")) = some false := kitc_of (T.c.fact 100 rfl)
theorem k_Nought_NoText (T : Txt K mg) : PySem.W.kitOne K (.ref (He.ga K "Nought")) (.ref (He.ga K "NoText")) = some false := kitc_of (T.c.fact 101 rfl)
theorem k_Nought_PrimeError (T : Txt K mg) : PySem.W.kitOne K (.ref (He.ga K "Nought")) (.ref (He.ga K "PrimeError")) = some true := kitc_of (T.c.fact 102 rfl)
theorem k_Nought_ValueError (T : Txt K mg) : PySem.W.kitOne K (.ref (He.ga K "Nought")) (.type "ValueError") = some true := kitt_of (T.c.fact 103 rfl)
theorem k_NoRow_NoNumber (T : Txt K mg) : PySem.W.kitOne K (.ref (He.ga K "NoRow")) (.ref (He.ga K "NoNumber")) = some false := kitc_of (T.c.fact 104 rfl)
theorem i_NoRow (T : Txt K mg) : IsX K (He.ga K "NoRow") := isx_of (T.c.fact 105 rfl)
theorem k_NoRow_NoOrder (T : Txt K mg) : PySem.W.kitOne K (.ref (He.ga K "NoRow")) (.ref (He.ga K "NoOrder")) = some false := kitc_of (T.c.fact 106 rfl)
theorem k_NoRow_Nought (T : Txt K mg) : PySem.W.kitOne K (.ref (He.ga K "NoRow")) (.ref (He.ga K "Nought")) = some false := kitc_of (T.c.fact 107 rfl)
theorem k_NoRow_NoRow (T : Txt K mg) : PySem.W.kitOne K (.ref (He.ga K "NoRow")) (.ref (He.ga K "NoRow")) = some true := kitc_of (T.c.fact 108 rfl)
theorem k_NoRow_NoPrime (T : Txt K mg) : PySem.W.kitOne K (.ref (He.ga K "NoRow")) (.ref (He.ga K "NoPrime")) = some false := kitc_of (T.c.fact 109 rfl)
theorem k_NoRow_NoInverse (T : Txt K mg) : PySem.W.kitOne K (.ref (He.ga K "NoRow")) (.ref (He.ga K "NoInverse")) = some false := kitc_of (T.c.fact 110 rfl)
theorem k_NoRow_NoRoot (T : Txt K mg) : PySem.W.kitOne K (.ref (He.ga K "NoRow")) (.ref (He.ga K "NoRoot")) = some false := kitc_of (T.c.fact 111 rfl)
theorem k_NoRow_TooMany (T : Txt K mg) : PySem.W.kitOne K (.ref (He.ga K "NoRow")) (.ref (He.ga K "TooMany")) = some false := kitc_of (T.c.fact 112 rfl)
theorem k_NoRow_TooFar (T : Txt K mg) : PySem.W.kitOne K (.ref (He.ga K "NoRow")) (.ref (He.ga K "TooFar")) = some false := kitc_of (T.c.fact 113 rfl)
theorem k_NoRow_NoText (T : Txt K mg) : PySem.W.kitOne K (.ref (He.ga K "NoRow")) (.ref (He.ga K "NoText")) = some false := kitc_of (T.c.fact 114 rfl)
theorem k_NoRow_PrimeError (T : Txt K mg) : PySem.W.kitOne K (.ref (He.ga K "NoRow")) (.ref (He.ga K "PrimeError")) = some true := kitc_of (T.c.fact 115 rfl)
theorem k_NoRow_ValueError (T : Txt K mg) : PySem.W.kitOne K (.ref (He.ga K "NoRow")) (.type "ValueError") = some true := kitt_of (T.c.fact 116 rfl)
theorem k_NoPrime_NoNumber (T : Txt K mg) : PySem.W.kitOne K (.ref (He.ga K "NoPrime")) (.ref (He.ga K "NoNumber")) = some false := kitc_of (T.c.fact 117 rfl)
theorem i_NoPrime (T : Txt K mg) : IsX K (He.ga K "NoPrime") := isx_of (T.c.fact 118 rfl)
theorem k_NoPrime_NoOrder (T : Txt K mg) : PySem.W.kitOne K (.ref (He.ga K "NoPrime")) (.ref (He.ga K "NoOrder")) = some false := kitc_of (T.c.fact 119 rfl)
theorem k_NoPrime_Nought (T : Txt K mg) : PySem.W.kitOne K (.ref (He.ga K "NoPrime")) (.ref (He.ga K "Nought")) = some false := kitc_of (T.c.fact 120 rfl)
theorem k_NoPrime_NoRow (T : Txt K mg) : PySem.W.kitOne K (.ref (He.ga K "NoPrime")) (.ref (He.ga K "NoRow")) = some false := kitc_of (T.c.fact 121 rfl)
theorem k_NoPrime_NoPrime (T : Txt K mg) : PySem.W.kitOne K (.ref (He.ga K "NoPrime")) (.ref (He.ga K "NoPrime")) = some true := kitc_of (T.c.fact 122 rfl)
theorem k_NoPrime_NoInverse (T : Txt K mg) : PySem.W.kitOne K (.ref (He.ga K "NoPrime")) (.ref (He.ga K "NoInverse")) = some false := kitc_of (T.c.fact 123 rfl)
theorem k_NoPrime_NoRoot (T : Txt K mg) : PySem.W.kitOne K (.ref (He.ga K "NoPrime")) (.ref (He.ga K "NoRoot")) = some false := kitc_of (T.c.fact 124 rfl)
theorem k_NoPrime_TooMany (T : Txt K mg) : PySem.W.kitOne K (.ref (He.ga K "NoPrime")) (.ref (He.ga K "TooMany")) = some false := kitc_of (T.c.fact 125 rfl)
theorem k_NoPrime_TooFar (T : Txt K mg) : PySem.W.kitOne K (.ref (He.ga K "NoPrime")) (.ref (He.ga K "TooFar")) = some false := kitc_of (T.c.fact 126 rfl)
theorem k_NoPrime_NoText (T : Txt K mg) : PySem.W.kitOne K (.ref (He.ga K "NoPrime")) (.ref (He.ga K "NoText")) = some false := kitc_of (T.c.fact 127 rfl)
theorem k_NoPrime_PrimeError (T : Txt K mg) : PySem.W.kitOne K (.ref (He.ga K "NoPrime")) (.ref (He.ga K "PrimeError")) = some true := kitc_of (T.c.fact 128 rfl)
theorem k_NoPrime_ValueError (T : Txt K mg) : PySem.W.kitOne K (.ref (He.ga K "NoPrime")) (.type "ValueError") = some true := kitt_of (T.c.fact 129 rfl)
theorem k_NoInverse_NoNumber (T : Txt K mg) : PySem.W.kitOne K (.ref (He.ga K "NoInverse")) (.ref (He.ga K "NoNumber")) = some false := kitc_of (T.c.fact 130 rfl)
theorem i_NoInverse (T : Txt K mg) : IsX K (He.ga K "NoInverse") := isx_of (T.c.fact 131 rfl)
theorem k_NoInverse_NoOrder (T : Txt K mg) : PySem.W.kitOne K (.ref (He.ga K "NoInverse")) (.ref (He.ga K "NoOrder")) = some false := kitc_of (T.c.fact 132 rfl)
theorem k_NoInverse_Nought (T : Txt K mg) : PySem.W.kitOne K (.ref (He.ga K "NoInverse")) (.ref (He.ga K "Nought")) = some false := kitc_of (T.c.fact 133 rfl)
theorem k_NoInverse_NoRow (T : Txt K mg) : PySem.W.kitOne K (.ref (He.ga K "NoInverse")) (.ref (He.ga K "NoRow")) = some false := kitc_of (T.c.fact 134 rfl)
theorem k_NoInverse_NoPrime (T : Txt K mg) : PySem.W.kitOne K (.ref (He.ga K "NoInverse")) (.ref (He.ga K "NoPrime")) = some false := kitc_of (T.c.fact 135 rfl)
theorem k_NoInverse_NoInverse (T : Txt K mg) : PySem.W.kitOne K (.ref (He.ga K "NoInverse")) (.ref (He.ga K "NoInverse")) = some true := kitc_of (T.c.fact 136 rfl)
theorem k_NoInverse_NoRoot (T : Txt K mg) : PySem.W.kitOne K (.ref (He.ga K "NoInverse")) (.ref (He.ga K "NoRoot")) = some false := kitc_of (T.c.fact 137 rfl)
theorem k_NoInverse_TooMany (T : Txt K mg) : PySem.W.kitOne K (.ref (He.ga K "NoInverse")) (.ref (He.ga K "TooMany")) = some false := kitc_of (T.c.fact 138 rfl)
theorem k_NoInverse_TooFar (T : Txt K mg) : PySem.W.kitOne K (.ref (He.ga K "NoInverse")) (.ref (He.ga K "TooFar")) = some false := kitc_of (T.c.fact 139 rfl)
theorem k_NoInverse_NoText (T : Txt K mg) : PySem.W.kitOne K (.ref (He.ga K "NoInverse")) (.ref (He.ga K "NoText")) = some false := kitc_of (T.c.fact 140 rfl)
theorem k_NoInverse_PrimeError (T : Txt K mg) : PySem.W.kitOne K (.ref (He.ga K "NoInverse")) (.ref (He.ga K "PrimeError")) = some true := kitc_of (T.c.fact 141 rfl)
theorem k_NoInverse_ValueError (T : Txt K mg) : PySem.W.kitOne K (.ref (He.ga K "NoInverse")) (.type "ValueError") = some true := kitt_of (T.c.fact 142 rfl)
theorem k_NoRoot_NoNumber (T : Txt K mg) : PySem.W.kitOne K (.ref (He.ga K "NoRoot")) (.ref (He.ga K "NoNumber")) = some false := kitc_of (T.c.fact 143 rfl)
theorem i_NoRoot (T : Txt K mg) : IsX K (He.ga K "NoRoot") := isx_of (T.c.fact 144 rfl)
theorem k_NoRoot_NoOrder (T : Txt K mg) : PySem.W.kitOne K (.ref (He.ga K "NoRoot")) (.ref (He.ga K "NoOrder")) = some false := kitc_of (T.c.fact 145 rfl)
theorem k_NoRoot_Nought (T : Txt K mg) : PySem.W.kitOne K (.ref (He.ga K "NoRoot")) (.ref (He.ga K "Nought")) = some false := kitc_of (T.c.fact 146 rfl)
theorem k_NoRoot_NoRow (T : Txt K mg) : PySem.W.kitOne K (.ref (He.ga K "NoRoot")) (.ref (He.ga K "NoRow")) = some false := kitc_of (T.c.fact 147 rfl)
theorem k_NoRoot_NoPrime (T : Txt K mg) : PySem.W.kitOne K (.ref (He.ga K "NoRoot")) (.ref (He.ga K "NoPrime")) = some false := kitc_of (T.c.fact 148 rfl)
theorem k_NoRoot_NoInverse (T : Txt K mg) : PySem.W.kitOne K (.ref (He.ga K "NoRoot")) (.ref (He.ga K "NoInverse")) = some false := kitc_of (T.c.fact 149 rfl)
theorem k_NoRoot_NoRoot (T : Txt K mg) : PySem.W.kitOne K (.ref (He.ga K "NoRoot")) (.ref (He.ga K "NoRoot")) = some true := kitc_of (T.c.fact 150 rfl)
theorem k_NoRoot_TooMany (T : Txt K mg) : PySem.W.kitOne K (.ref (He.ga K "NoRoot")) (.ref (He.ga K "TooMany")) = some false := kitc_of (T.c.fact 151 rfl)
theorem k_NoRoot_TooFar (T : Txt K mg) : PySem.W.kitOne K (.ref (He.ga K "NoRoot")) (.ref (He.ga K "TooFar")) = some false := kitc_of (T.c.fact 152 rfl)
theorem k_NoRoot_NoText (T : Txt K mg) : PySem.W.kitOne K (.ref (He.ga K "NoRoot")) (.ref (He.ga K "NoText")) = some false := kitc_of (T.c.fact 153 rfl)
theorem k_NoRoot_PrimeError (T : Txt K mg) : PySem.W.kitOne K (.ref (He.ga K "NoRoot")) (.ref (He.ga K "PrimeError")) = some true := kitc_of (T.c.fact 154 rfl)
theorem k_NoRoot_ValueError (T : Txt K mg) : PySem.W.kitOne K (.ref (He.ga K "NoRoot")) (.type "ValueError") = some true := kitt_of (T.c.fact 155 rfl)
theorem k_TooMany_NoNumber (T : Txt K mg) : PySem.W.kitOne K (.ref (He.ga K "TooMany")) (.ref (He.ga K "NoNumber")) = some false := kitc_of (T.c.fact 156 rfl)
theorem i_TooMany (T : Txt K mg) : IsX K (He.ga K "TooMany") := isx_of (T.c.fact 157 rfl)
theorem k_TooMany_NoOrder (T : Txt K mg) : PySem.W.kitOne K (.ref (He.ga K "TooMany")) (.ref (He.ga K "NoOrder")) = some false := kitc_of (T.c.fact 158 rfl)
theorem k_TooMany_Nought (T : Txt K mg) : PySem.W.kitOne K (.ref (He.ga K "TooMany")) (.ref (He.ga K "Nought")) = some false := kitc_of (T.c.fact 159 rfl)
theorem k_TooMany_NoRow (T : Txt K mg) : PySem.W.kitOne K (.ref (He.ga K "TooMany")) (.ref (He.ga K "NoRow")) = some false := kitc_of (T.c.fact 160 rfl)
theorem k_TooMany_NoPrime (T : Txt K mg) : PySem.W.kitOne K (.ref (He.ga K "TooMany")) (.ref (He.ga K "NoPrime")) = some false := kitc_of (T.c.fact 161 rfl)
theorem k_TooMany_NoInverse (T : Txt K mg) : PySem.W.kitOne K (.ref (He.ga K "TooMany")) (.ref (He.ga K "NoInverse")) = some false := kitc_of (T.c.fact 162 rfl)
theorem k_TooMany_NoRoot (T : Txt K mg) : PySem.W.kitOne K (.ref (He.ga K "TooMany")) (.ref (He.ga K "NoRoot")) = some false := kitc_of (T.c.fact 163 rfl)
theorem k_TooMany_TooMany (T : Txt K mg) : PySem.W.kitOne K (.ref (He.ga K "TooMany")) (.ref (He.ga K "TooMany")) = some true := kitc_of (T.c.fact 164 rfl)
theorem k_TooMany_TooFar (T : Txt K mg) : PySem.W.kitOne K (.ref (He.ga K "TooMany")) (.ref (He.ga K "TooFar")) = some false := kitc_of (T.c.fact 165 rfl)
theorem k_TooMany_NoText (T : Txt K mg) : PySem.W.kitOne K (.ref (He.ga K "TooMany")) (.ref (He.ga K "NoText")) = some false := kitc_of (T.c.fact 166 rfl)
theorem k_TooMany_PrimeError (T : Txt K mg) : PySem.W.kitOne K (.ref (He.ga K "TooMany")) (.ref (He.ga K "PrimeError")) = some true := kitc_of (T.c.fact 167 rfl)
theorem k_TooMany_ValueError (T : Txt K mg) : PySem.W.kitOne K (.ref (He.ga K "TooMany")) (.type "ValueError") = some true := kitt_of (T.c.fact 168 rfl)
theorem k_TooFar_NoNumber (T : Txt K mg) : PySem.W.kitOne K (.ref (He.ga K "TooFar")) (.ref (He.ga K "NoNumber")) = some false := kitc_of (T.c.fact 169 rfl)
theorem i_TooFar (T : Txt K mg) : IsX K (He.ga K "TooFar") := isx_of (T.c.fact 170 rfl)
theorem k_TooFar_NoOrder (T : Txt K mg) : PySem.W.kitOne K (.ref (He.ga K "TooFar")) (.ref (He.ga K "NoOrder")) = some false := kitc_of (T.c.fact 171 rfl)
theorem k_TooFar_Nought (T : Txt K mg) : PySem.W.kitOne K (.ref (He.ga K "TooFar")) (.ref (He.ga K "Nought")) = some false := kitc_of (T.c.fact 172 rfl)
theorem k_TooFar_NoRow (T : Txt K mg) : PySem.W.kitOne K (.ref (He.ga K "TooFar")) (.ref (He.ga K "NoRow")) = some false := kitc_of (T.c.fact 173 rfl)
theorem k_TooFar_NoPrime (T : Txt K mg) : PySem.W.kitOne K (.ref (He.ga K "TooFar")) (.ref (He.ga K "NoPrime")) = some false := kitc_of (T.c.fact 174 rfl)
theorem k_TooFar_NoInverse (T : Txt K mg) : PySem.W.kitOne K (.ref (He.ga K "TooFar")) (.ref (He.ga K "NoInverse")) = some false := kitc_of (T.c.fact 175 rfl)
theorem k_TooFar_NoRoot (T : Txt K mg) : PySem.W.kitOne K (.ref (He.ga K "TooFar")) (.ref (He.ga K "NoRoot")) = some false := kitc_of (T.c.fact 176 rfl)
theorem k_TooFar_TooMany (T : Txt K mg) : PySem.W.kitOne K (.ref (He.ga K "TooFar")) (.ref (He.ga K "TooMany")) = some false := kitc_of (T.c.fact 177 rfl)
theorem k_TooFar_TooFar (T : Txt K mg) : PySem.W.kitOne K (.ref (He.ga K "TooFar")) (.ref (He.ga K "TooFar")) = some true := kitc_of (T.c.fact 178 rfl)
theorem k_TooFar_NoText (T : Txt K mg) : PySem.W.kitOne K (.ref (He.ga K "TooFar")) (.ref (He.ga K "NoText")) = some false := kitc_of (T.c.fact 179 rfl)
theorem k_TooFar_PrimeError (T : Txt K mg) : PySem.W.kitOne K (.ref (He.ga K "TooFar")) (.ref (He.ga K "PrimeError")) = some true := kitc_of (T.c.fact 180 rfl)
theorem k_TooFar_ValueError (T : Txt K mg) : PySem.W.kitOne K (.ref (He.ga K "TooFar")) (.type "ValueError") = some true := kitt_of (T.c.fact 181 rfl)
theorem k_NoText_NoNumber (T : Txt K mg) : PySem.W.kitOne K (.ref (He.ga K "NoText")) (.ref (He.ga K "NoNumber")) = some false := kitc_of (T.c.fact 182 rfl)
theorem i_NoText (T : Txt K mg) : IsX K (He.ga K "NoText") := isx_of (T.c.fact 183 rfl)
theorem k_NoText_NoOrder (T : Txt K mg) : PySem.W.kitOne K (.ref (He.ga K "NoText")) (.ref (He.ga K "NoOrder")) = some false := kitc_of (T.c.fact 184 rfl)
theorem k_NoText_Nought (T : Txt K mg) : PySem.W.kitOne K (.ref (He.ga K "NoText")) (.ref (He.ga K "Nought")) = some false := kitc_of (T.c.fact 185 rfl)
theorem k_NoText_NoRow (T : Txt K mg) : PySem.W.kitOne K (.ref (He.ga K "NoText")) (.ref (He.ga K "NoRow")) = some false := kitc_of (T.c.fact 186 rfl)
theorem k_NoText_NoPrime (T : Txt K mg) : PySem.W.kitOne K (.ref (He.ga K "NoText")) (.ref (He.ga K "NoPrime")) = some false := kitc_of (T.c.fact 187 rfl)
theorem k_NoText_NoInverse (T : Txt K mg) : PySem.W.kitOne K (.ref (He.ga K "NoText")) (.ref (He.ga K "NoInverse")) = some false := kitc_of (T.c.fact 188 rfl)
theorem k_NoText_NoRoot (T : Txt K mg) : PySem.W.kitOne K (.ref (He.ga K "NoText")) (.ref (He.ga K "NoRoot")) = some false := kitc_of (T.c.fact 189 rfl)
theorem k_NoText_TooMany (T : Txt K mg) : PySem.W.kitOne K (.ref (He.ga K "NoText")) (.ref (He.ga K "TooMany")) = some false := kitc_of (T.c.fact 190 rfl)
theorem k_NoText_TooFar (T : Txt K mg) : PySem.W.kitOne K (.ref (He.ga K "NoText")) (.ref (He.ga K "TooFar")) = some false := kitc_of (T.c.fact 191 rfl)
theorem k_NoText_NoText (T : Txt K mg) : PySem.W.kitOne K (.ref (He.ga K "NoText")) (.ref (He.ga K "NoText")) = some true := kitc_of (T.c.fact 192 rfl)
theorem k_NoText_PrimeError (T : Txt K mg) : PySem.W.kitOne K (.ref (He.ga K "NoText")) (.ref (He.ga K "PrimeError")) = some true := kitc_of (T.c.fact 193 rfl)
theorem k_NoText_ValueError (T : Txt K mg) : PySem.W.kitOne K (.ref (He.ga K "NoText")) (.type "ValueError") = some true := kitt_of (T.c.fact 194 rfl)
theorem e_Nought_Nought (T : Txt K mg) : PySem.W.exmOne K (.ref (He.ga K "Nought")) (.ref (He.ga K "Nought")) = some true := He.exm_ok (T.c.fact 62 rfl)
theorem e_TooMany_Nought (T : Txt K mg) : PySem.W.exmOne K (.ref (He.ga K "TooMany")) (.ref (He.ga K "Nought")) = some false := He.exm_ok (T.c.fact 63 rfl)
theorem e_TooMany_TooMany (T : Txt K mg) : PySem.W.exmOne K (.ref (He.ga K "TooMany")) (.ref (He.ga K "TooMany")) = some true := He.exm_ok (T.c.fact 64 rfl)
/-- divisor(a, b): a new tuple (g, u, v) -/
def sp_divisor : Sp := fun vs H Q _ => ∃ a b : Int, vs = [.int a, .int b] ∧ a.natAbs < 2 ^ 900 ∧ b.natAbs < 2 ^ 900 ∧
  ∀ g u v p, M.DivOk a b g u v → H p = none → Q (.ref p) (upd H p (.tup [.int g, .int u, .int v]))
theorem ok_divisor (T : Txt K mg) : FnOk P w K mg base CX0 1 (He.ga K "divisor") (fd_divisor T) ["a", "b"] sp_divisor := by
  refine (F_divisor T).ok sc_divisor (fun vs H Q E h => ?_) (fun cdv A outer s H vs Q E hr h => ⟨_, PSs.nox (pss_cons (ps_par3 (i := 2) (j := 3) (l := 4) rfl sc_divisor.nd rfl rfl rfl (by decide) (by decide) (by decide) rfl rfl rfl (pa_cons (pv 0) (pa_cons pe_int (pa_cons pe_int pa_nil))) rfl)
      (pss_cons (ps_par3 (i := 5) (j := 6) (l := 7) rfl sc_divisor.nd rfl rfl rfl (by decide) (by decide) (by decide) rfl rfl rfl (pa_cons (pv 1) (pa_cons pe_int (pa_cons pe_int pa_nil))) rfl)
      (pss_cons (ps_while PassesOwn.never (pt_cmpR op_ne (pv 5) pe_int (nomark _)) (pss_cons (ps_set (i := 8) sc_divisor.nd rfl (Or.inl rfl) (pe_op op_divF (pv 2) (pv 5)))
      (pss_cons (ps_par (i := 2) (j := 5) rfl sc_divisor.nd rfl rfl (by decide) rfl rfl (pa_cons (pv 5) (pa_cons (pe_op op_sub (pv 2) (pe_op op_mulW (pv 8) (pv 5))) pa_nil)) rfl)
      (pss_cons (ps_par (i := 3) (j := 6) rfl sc_divisor.nd rfl rfl (by decide) rfl rfl (pa_cons (pv 6) (pa_cons (pe_op op_sub (pv 3) (pe_op op_mulW (pv 8) (pv 6))) pa_nil)) rfl)
      (pss_one (ps_par (i := 4) (j := 7) rfl sc_divisor.nd rfl rfl (by decide) rfl rfl (pa_cons (pv 7) (pa_cons (pe_op op_sub (pv 4) (pe_op op_mulW (pv 8) (pv 7))) pa_nil)) rfl))))))
      (pss_cons (ps_if (pt_cmpR op_lt (pv 2) pe_int (nomark _)) (pss_one (ps_ret (pe_tup (pa_cons (pe_un un_neg (pv 2)) (pa_cons (pe_un un_neg (pv 3)) (pa_cons (pe_un un_neg (pv 4)) pa_nil)))))) pss_nil)
      (pss_one (ps_ret (pe_tup (pa_cons (pv 2) (pa_cons (pv 3) (pa_cons (pv 4) pa_nil)))))))))), ?_⟩)
  · obtain ⟨a, b, rfl, _⟩ := h; rfl
  · obtain ⟨a, b, rfl, ha, hb, k⟩ := h
    walk_at "g"
    refine s_while (fun σ H' => H' = H ∧ ∃ (g u v r x y : Int) (t : Option V), σ = [some (.int a), some (.int b), some (.int g), some (.int u), some (.int v), some (.int r), some (.int x), some (.int y), t] ∧ M.DivSt a b g u v r x y)
      (fun σ _ => (iv σ 5).natAbs) ⟨rfl, a, 1, 0, b, 0, 1, none, rfl, .inl ⟨rfl, rfl, rfl, rfl, rfl, rfl⟩⟩ ?_
    · rintro σ H' ⟨rfl, g, u, v, r, x, y, t, rfl, I⟩
      walk_at "g"
      refine s_iten (fun hr => ?_) (fun hr => ?_)
      · have Z := M.div_sizes I
        have hd : r ≠ 0 := hr
        have st := M.div_step I hd
        have hf : (g.fdiv r).natAbs ≤ g.natAbs := M.fdiv_le g r
        walk_at "g"
        refine s_i (divF hd (by omega)) ?_
        walk_at "g"
        exact ⟨⟨rfl, _, _, _, _, _, _, _, rfl, st.1⟩, st.2⟩
      · walk_at "g"
        have T := M.div_told I hr
        refine s_ite (fun hg => ?_) (fun hg => ?_)
        · walk_at "g"
          exact ⟨len_le (by simp), fun p hp => k _ _ _ p (T.1 hg) hp⟩
        · walk_at "g"
          exact ⟨len_le (by simp), fun p hp => k _ _ _ p (T.2 hg) hp⟩

/-- inverse(n, a): the number that, times a, is 1 by n; else NoInverse(the divisor) -/
def sp_inverse (K : PySem.W.Frag) : Sp := fun vs H Q E => ∃ n a : Int, vs = [.int n, .int a] ∧ 0 < n ∧ n.natAbs < 2 ^ 900 ∧
  (Int.gcd a n = 1 → ∀ (H' : Hp) (b : Int), Same H H' → 0 ≤ b → b < n → (b * a - 1) % n = 0 → Q (.int b) H') ∧
  (Int.gcd a n ≠ 1 → ∀ (d : Addr) (H' : Hp), H d = none → Same H H' → H' d = some (.xd [("divisor", .int (Int.gcd a n))]) → E (.ref (He.ga K "NoInverse")) (some d) H')
theorem ok_inverse (T : Txt K mg) : FnOk P w K mg base (L2.CX P w) 5 (He.ga K "inverse") (fd_inverse T) ["n", "a"] (sp_inverse K) := by
  refine (F_inverse T).ok sc_inverse (fun vs H Q E h => ?_) (fun cdv A outer s H vs Q E hr h => ⟨_, (pss_cons (ps_asg (pe_call (ok_divisor T) (hr.mono (by decide)) rfl (g_divisor T) (kp_divisor T) (B_divisor T) .nil pass0 (pa_cons (pe_op op_mod (pv 1) (pv 0)) (pa_cons (pv 0) pa_nil))) (pg_tup rfl (pgs_cons (pg_name (i := 2) sc_inverse.nd rfl (Or.inl rfl)) (pgs_cons (pg_name (i := 3) sc_inverse.nd rfl (Or.inl rfl)) (pgs_cons (pg_name (i := 4) sc_inverse.nd rfl (Or.inl rfl)) pgs_nil)))))
      (pss_cons (ps_if (pt_cmpR op_gt (pv 2) pe_int (nomark _)) (pss_one (ps_raise rfl (takes_of rfl rfl rfl rfl) (pmk_oex (x_NoInverse T).oex (x_NoInverse T).iC (x_NoInverse T).tI (ok_init_NoInverse T) (hr.mono (by decide)) (B_init_NoInverse T) .nil pass0 rfl (g_NoInverse T) (pa_cons (pv 2) pa_nil)))) pss_nil)
      (pss_one (ps_ret (pe_op op_mod (pv 3) (pv 0)))))), ?_⟩)
  · obtain ⟨n, a, rfl, _⟩ := h; rfl
  · obtain ⟨n, a, rfl, h0, hn, k1, k2⟩ := h
    have ha0 := Int.emod_nonneg a (show n ≠ 0 by omega)
    have ha1 := Int.emod_lt_of_pos a h0
    have gp := M.gcd_pos (a := a) h0
    walk_at "g"
    refine s_i (by omega) ?_
    walk_at "g"
    refine ⟨a % n, n, rfl, by omega, hn, fun g u v p I hp => ?_⟩
    have S1 : Same H (upd H p (.tup [.int g, .int u, .int v])) := same_upd hp
    have T1 : upd H p (.tup [.int g, .int u, .int v]) p = some (.tup [.int g, .int u, .int v]) := upd_same
    generalize upd H p (.tup [.int g, .int u, .int v]) = H1 at S1 T1 ⊢
    have hg := I.hg
    rw [M.gcd_mod] at hg
    walk_at "g"
    refine s_gtup (SqT.of T1) rfl ?_
    walk_at "g"
    refine s_ite (fun c => ?_) (fun c => ?_)
    · walk_at "g"
      refine s_raise (x_NoInverse T).oex (x_NoInverse T).noF fun d H' hd hx hs => ?_
      rw [hg] at hx
      exact k2 (by omega) d H' (S1.free hd) (S1.trans hs) hx
    · walk_at "g"
      refine s_i (by omega) ?_
      have g1 : Int.gcd a n = 1 := by omega
      exact k1 g1 H1 _ S1 (Int.emod_nonneg _ (by omega)) (Int.emod_lt_of_pos _ h0) (M.inv_of h0 I g1)

/-- a def of which nothing is asked -/
theorem ok_never1 {CX : CXT} {f : Addr} {fd : FuncData} {ps : List Str} : FnOk P w K mg base CX 1 f fd ps (fun _ _ _ _ => False) := ⟨fun _ _ _ _ h => h.elim, fun _ _ _ _ _ _ _ _ _ _ _ _ _ h => h.elim⟩
/-- power(n, a, e), e from 0 on -/
def sp_power0 : Sp := fun vs H Q _ => ∃ (n a : Int) (e : Nat), vs = [.int n, .int a, .int e] ∧ 0 < n ∧ n.natAbs < 2 ^ 900 ∧ Q (.int (M.pw n a e)) H
theorem ok_power0 (T : Txt K mg) : FnOk P w K mg base (L2.CX P w) 6 (He.ga K "power") (fd_power T) ["n", "a", "e"] sp_power0 := by
  refine (F_power T).ok sc_power (fun vs H Q E h => ?_) (fun cdv A outer s H vs Q E hr h => ⟨_, (pss_cons (ps_if (pt_cmpR op_lt (pv 2) pe_int (nomark _)) (pss_one (ps_ret (pe_call (ok_never1) (hr.mono (by decide)) rfl (g_power T) (kp_power T) (B_power T) .nil (passes_call (takes_of rfl rfl rfl rfl) (fun _ _ _ _ h => h)) (pa_cons (pv 0) (pa_cons (pe_call (ok_inverse T) (hr.mono (by decide)) rfl (g_inverse T) (kp_inverse T) (B_inverse T) .nil (passes_call (takes_of rfl rfl rfl rfl) (fun _ _ _ _ h => h)) (pa_cons (pv 0) (pa_cons (pv 1) pa_nil))) (pa_cons (pe_un un_neg (pv 2)) pa_nil)))))) pss_nil)
      (pss_cons (ps_set (i := 3) sc_power.nd rfl (Or.inl rfl) (pe_op op_mod pe_int (pv 0)))
      (pss_cons (ps_set (i := 4) sc_power.nd rfl (Or.inl rfl) (pe_op op_mod (pv 1) (pv 0)))
      (pss_cons (ps_while (passes_of rfl) (pt_cmpR op_gt (pv 2) pe_int (nomark _)) (pss_cons (ps_if (pt_cmpR op_eq (pe_op op_mod (pv 2) pe_int) pe_int (nomark _)) (pss_one (ps_set (i := 3) sc_power.nd rfl (Or.inl rfl) (pe_op op_mod (pe_op op_mulW (pv 3) (pv 4)) (pv 0)))) pss_nil)
      (pss_cons (ps_set (i := 4) sc_power.nd rfl (Or.inl rfl) (pe_op op_mod (pe_op op_mulW (pv 4) (pv 4)) (pv 0)))
      (pss_one (ps_set (i := 2) sc_power.nd rfl (Or.inl rfl) (pe_op op_fdivW (pv 2) pe_int))))))
      (pss_one (ps_ret (pv 3))))))), ?_⟩)
  · obtain ⟨n, a, e, rfl, _⟩ := h; rfl
  · obtain ⟨n, a, e, rfl, h0, hn, k⟩ := h
    walk_at "g"
    refine s_itN (by omega) ?_
    walk_at "g"
    refine s_i (by omega) ?_
    walk_at "g"
    refine s_i (by omega) ?_
    walk_at "g"
    refine s_while (fun σ H' => H' = H ∧ ∃ (e' : Nat) (f b : Int), σ = [some (.int n), some (.int a), some (.int e'), some (.int f), some (.int b)] ∧ 0 ≤ f ∧ f < n ∧ 0 ≤ b ∧ b < n ∧ f * b ^ e' % n = M.pw n a e)
      (fun σ _ => (iv σ 2).natAbs) ⟨rfl, e, _, _, rfl, Int.emod_nonneg _ (by omega), Int.emod_lt_of_pos _ h0, Int.emod_nonneg _ (by omega), Int.emod_lt_of_pos _ h0, M.pw_one⟩ ?_
    rintro σ H' ⟨rfl, e', f, b, rfl, f0, f1, b0, b1, inv⟩
    have st := M.pw_turn inv
    walk_at "g"
    refine s_ite (fun c => ?_) (fun c => ?_)
    · have e2 : (e' : Int) / 2 = ((e' / 2 : Nat) : Int) := by omega
      walk_at "h"
      refine s_join (fun σ' H1 => H1 = H' ∧ ∃ f' : Int, σ' = [some (.int n), some (.int a), some (.int e'), some (.int f'), some (.int b)] ∧ 0 ≤ f' ∧ f' < n ∧ f' * (b * b % n) ^ (e' / 2) % n = M.pw n a e) ?_ fun N J => ?_
      · rintro σ' H1 ⟨rfl, f', rfl, f0', f1', inv'⟩
        walk_at "g"
        refine s_i (by omega) ?_
        walk_at "g"
        refine ⟨⟨rfl, e' / 2, f', _, ?_, f0', f1', Int.emod_nonneg _ (by omega), Int.emod_lt_of_pos _ h0, inv'⟩, ?_⟩
        · rw [e2]; rfl
        · show ((e' : Int) / 2).natAbs < (e' : Int).natAbs
          omega
      · walk_at "g"
        refine s_ite (fun c2 => ?_) (fun c2 => ?_)
        · walk_at "g"
          refine s_i (by omega) ?_
          walk_at "g"
          exact J _ _ ⟨rfl, _, rfl, Int.emod_nonneg _ (by omega), Int.emod_lt_of_pos _ h0, st.1 (by omega)⟩
        · walk_at "g"
          exact J _ _ ⟨rfl, _, rfl, f0, f1, st.2 (by omega)⟩
    · have z : e' = 0 := by omega
      subst z
      walk_at "g"
      rw [M.pw_end f0 f1 inv]
      exact k
/-- power(n, a, e) -/
def sp_power (K : PySem.W.Frag) : Sp := fun vs H Q E => ∃ n a e : Int, vs = [.int n, .int a, .int e] ∧ 0 < n ∧ n.natAbs < 2 ^ 900 ∧
  (0 ≤ e → Q (.int (M.pw n a e.toNat)) H) ∧
  (e < 0 → Int.gcd a n = 1 → ∀ (H' : Hp) (b : Int), Same H H' → 0 ≤ b → b < n → (b * a - 1) % n = 0 → Q (.int (M.pw n b (-e).toNat)) H') ∧
  (e < 0 → Int.gcd a n ≠ 1 → ∀ (d : Addr) (H' : Hp), H d = none → Same H H' → H' d = some (.xd [("divisor", .int (Int.gcd a n))]) → E (.ref (He.ga K "NoInverse")) (some d) H')
/-- .. e below 0 -/
def sp_powerN (K : PySem.W.Frag) : Sp := fun vs H Q E => ∃ n a e : Int, vs = [.int n, .int a, .int e] ∧ 0 < n ∧ n.natAbs < 2 ^ 900 ∧ e < 0 ∧
  (Int.gcd a n = 1 → ∀ (H' : Hp) (b : Int), Same H H' → 0 ≤ b → b < n → (b * a - 1) % n = 0 → Q (.int (M.pw n b (-e).toNat)) H') ∧
  (Int.gcd a n ≠ 1 → ∀ (d : Addr) (H' : Hp), H d = none → Same H H' → H' d = some (.xd [("divisor", .int (Int.gcd a n))]) → E (.ref (He.ga K "NoInverse")) (some d) H')
theorem ok_powerN (T : Txt K mg) : FnOk P w K mg base (L2.CX P w) 7 (He.ga K "power") (fd_power T) ["n", "a", "e"] (sp_powerN K) := by
  refine (F_power T).ok sc_power (fun vs H Q E h => ?_) (fun cdv A outer s H vs Q E hr h => ⟨_, (pss_cons (ps_if (pt_cmpR op_lt (pv 2) pe_int (nomark _)) (pss_one (ps_ret (pe_call (ok_power0 T) (hr.mono (by decide)) rfl (g_power T) (kp_power T) (B_power T) .nil (passes_call (takes_of rfl rfl rfl rfl) (fun _ _ _ _ h => h)) (pa_cons (pv 0) (pa_cons (pe_call (ok_inverse T) (hr.mono (by decide)) rfl (g_inverse T) (kp_inverse T) (B_inverse T) .nil (passes_call (takes_of rfl rfl rfl rfl) (fun _ _ _ _ h => h)) (pa_cons (pv 0) (pa_cons (pv 1) pa_nil))) (pa_cons (pe_un un_neg (pv 2)) pa_nil)))))) pss_nil)
      (pss_cons (ps_set (i := 3) sc_power.nd rfl (Or.inl rfl) (pe_op op_mod pe_int (pv 0)))
      (pss_cons (ps_set (i := 4) sc_power.nd rfl (Or.inl rfl) (pe_op op_mod (pv 1) (pv 0)))
      (pss_cons (ps_while (passes_of rfl) (pt_cmpR op_gt (pv 2) pe_int (nomark _)) (pss_cons (ps_if (pt_cmpR op_eq (pe_op op_mod (pv 2) pe_int) pe_int (nomark _)) (pss_one (ps_set (i := 3) sc_power.nd rfl (Or.inl rfl) (pe_op op_mod (pe_op op_mulW (pv 3) (pv 4)) (pv 0)))) pss_nil)
      (pss_cons (ps_set (i := 4) sc_power.nd rfl (Or.inl rfl) (pe_op op_mod (pe_op op_mulW (pv 4) (pv 4)) (pv 0)))
      (pss_one (ps_set (i := 2) sc_power.nd rfl (Or.inl rfl) (pe_op op_fdivW (pv 2) pe_int))))))
      (pss_one (ps_ret (pv 3))))))), ?_⟩)
  · obtain ⟨n, a, e, rfl, _⟩ := h; rfl
  · obtain ⟨n, a, e, rfl, h0, hn, c, k1, k2⟩ := h
    walk_at "g"
    refine s_itP c ?_
    walk_at "g"
    refine ⟨n, a, rfl, h0, hn, fun g1 H' b hs b0 b1 hb => ?_, fun g1 d H' hd hs hx => k2 g1 d H' hd hs hx⟩
    walk_at "g"
    refine ⟨n, b, (-e).toNat, ?_, h0, hn, k1 g1 H' b hs b0 b1 hb⟩
    have : -e = ((-e).toNat : Int) := by omega
    rw [← this]; rfl
theorem ok_power (T : Txt K mg) : FnOk P w K mg base (L2.CX P w) 7 (He.ga K "power") (fd_power T) ["n", "a", "e"] (sp_power K) := by
  refine fn_or ((ok_power0 T).mono (by decide)) (ok_powerN T) fun vs H Q E ⟨n, a, e, ev, h0, hn, k0, k1, k2⟩ => ?_
  subst ev
  by_cases c : e < 0
  · exact .inr ⟨n, a, e, rfl, h0, hn, c, k1 c, k2 c⟩
  · refine .inl ⟨n, a, e.toNat, ?_, h0, hn, k0 (by omega)⟩
    have : e = (e.toNat : Int) := by omega
    rw [← this]
theorem pos_power {H : Hp} {Q : VK} {E : XK} {n a e : Int} {m : Nat} (he : e = m) (h0 : 0 < n) (hn : n.natAbs < 2 ^ 900) (k : Q (.int (M.pw n a m)) H) : sp_power K [.int n, .int a, .int e] H Q E :=
  ⟨n, a, e, rfl, h0, hn, fun _ => by rw [show e.toNat = m by omega]; exact k, fun c => by omega, fun c => by omega⟩

theorem prodL_pos0 : ∀ {l : List (Nat × Nat)}, (∀ x ∈ l, 0 < x.1) → 0 < M.prodL l
  | [], _ => by decide
  | x :: l, h => Nat.mul_pos (Nat.pow_pos (h x (by simp))) (prodL_pos0 fun y hy => h y (by simp [hy]))
theorem prodL_take_le {l : List (Nat × Nat)} (h : ∀ x ∈ l, 0 < x.1) (i : Nat) : M.prodL (l.take i) ≤ M.prodL l := by
  conv => rhs; rw [← List.take_append_drop i l, M.prodL_app]
  exact Nat.le_mul_of_pos_right _ (prodL_pos0 fun x hx => h x (List.mem_of_mem_drop hx))
theorem prodL_one (x : Nat × Nat) (l : List (Nat × Nat)) : M.prodL (l ++ [x]) = M.prodL l * x.1 ^ x.2 := by rw [M.prodL_app]; simp [M.prodL]
theorem fac_many {F : Nat} {l : List (Nat × Nat)} (h : M.IsFac F l) (h0 : 0 < F) {x : Nat × Nat} (hx : x ∈ l) (hF : F < 2 ^ 200) : x.2 < 2 ^ 60 := by
  have h1 := M.prodL_dvd hx
  rw [h.prod] at h1
  have h2 := Nat.le_of_dvd h0 h1
  have h3 : 2 ^ x.2 ≤ x.1 ^ x.2 := Nat.pow_le_pow_left (h.primes x hx).1.1 _
  have h4 : x.2 < 200 := (Nat.pow_lt_pow_iff_right (by decide : 1 < 2)).mp (by omega)
  omega
theorem filter_take {α : Type} (P : α → Bool) {xs : List α} {i : Nat} {x : α} (h : xs[i]? = some x) : (xs.take (i + 1)).filter P = (xs.take i).filter P ++ (if P x = true then [x] else []) := by
  rw [take_more h, List.filter_append]
  congr 1
  cases e : P x <;> simp [e]

/-- taken(q, many): the power -/
def sp_taken : Sp := fun vs H Q _ => ∃ q b : Nat, vs = [.int q, .int b] ∧ 0 < q ∧ b < 2 ^ 60 ∧ q ^ b < 2 ^ 900 ∧ Q (.int ((q ^ b : Nat) : Int)) H
theorem ok_taken (T : Txt K mg) : FnOk P w K mg base CX0 1 (He.ga K "taken") (fd_taken T) ["q", "many"] sp_taken := by
  refine (F_taken T).ok sc_taken (fun vs H Q E h => ?_) (fun cdv A outer s H vs Q E hr h => ⟨_, PSs.nox (pss_cons (ps_set (i := 2) sc_taken.nd rfl (Or.inl rfl) pe_int)
      (pss_cons (ps_for PassesOwn.never rfl (pi_range1 rfl (T.fr (T.c.fact 38 rfl)) (pa_cons (pv 1) pa_nil)) (pg_name (i := 3) sc_taken.nd rfl (Or.inl rfl)) (pss_one (ps_set (i := 2) sc_taken.nd rfl (Or.inl rfl) (pe_op op_mulW (pv 2) (pv 0)))))
      (pss_one (ps_ret (pv 2))))), ?_⟩)
  · obtain ⟨q, b, rfl, _⟩ := h; rfl
  · obtain ⟨q, b, rfl, q0, hb, hqb, k⟩ := h
    walk_at "g"
    refine mkR1 b (by omega) (by omega) (by omega) ?_
    refine for_range (n := b) (fun i σ H' => H' = H ∧ ∃ v : Option V, σ = [some (.int q), some (.int b), some (.int ((q ^ i : Nat) : Int)), v]) ⟨rfl, none, rfl⟩ ?_ ?_
    · rintro i σ H' hi ⟨rfl, v, rfl⟩
      have h1 : q ^ i ≤ q ^ b := Nat.pow_le_pow_right q0 (by omega)
      have h2 : q ^ 1 ≤ q ^ b := Nat.pow_le_pow_right q0 (by omega)
      rw [Nat.pow_one] at h2
      have e3 : ((q ^ i : Nat) : Int) * (q : Int) = ((q ^ (i + 1) : Nat) : Int) := by rw [Nat.pow_succ]; push_cast; rfl
      walk_at "g"
      try refine s_i (mulW (by omega) (by omega)) ?_
      walk_at "g"
      rw [e3]
      exact ⟨rfl, _, rfl⟩
    · rintro σ H' ⟨rfl, v, rfl⟩
      walk_at "g"
      exact k

/-- whole_of(parting): what it comes to -/
def sp_whole_of : Sp := fun vs H Q _ => ∃ (D : Addr) (ys : List V) (l : List (Nat × Nat)), vs = [.ref D] ∧ H D = some (.lst ys) ∧ TupsIn H ys (l.map fun x => [V.int (x.1 : Nat), V.int (x.2 : Nat)]) ∧ (∀ x ∈ l, 0 < x.1 ∧ x.2 < 2 ^ 60) ∧ M.prodL l < 2 ^ 900 ∧ Q (.int (M.prodL l : Nat)) H
theorem ok_whole_of (T : Txt K mg) : FnOk P w K mg base CX0 2 (He.ga K "whole_of") (fd_whole_of T) ["parting"] sp_whole_of := by
  refine (F_whole_of T).ok sc_whole_of (fun vs H Q E h => ?_) (fun cdv A outer s H vs Q E hr h => ⟨_, PSs.nox (pss_cons (ps_set (i := 1) sc_whole_of.nd rfl (Or.inl rfl) pe_int)
      (pss_cons (ps_for PassesOwn.never rfl (pi_list (pv 0)) (pg_tup rfl (pgs_cons (pg_name (i := 2) sc_whole_of.nd rfl (Or.inl rfl)) (pgs_cons (pg_name (i := 3) sc_whole_of.nd rfl (Or.inl rfl)) pgs_nil))) (pss_one (ps_set (i := 1) sc_whole_of.nd rfl (Or.inl rfl) (pe_op op_mulW (pv 1) (pe_call (ok_taken T) (hr.mono (by decide)) rfl (g_taken T) (kp_taken T) (B_taken T) .nil pass0 (pa_cons (pv 2) (pa_cons (pv 3) pa_nil)))))))
      (pss_one (ps_ret (pv 1))))), ?_⟩)
  · obtain ⟨D, ys, l, rfl, _⟩ := h; rfl
  · obtain ⟨D, ys, l, rfl, hD, ty, hx, hl, k⟩ := h
    have hx0 : ∀ x ∈ l, 0 < x.1 := fun x h => (hx x h).1
    walk_at "g"
    refine ⟨⟨_, SqL.of hD⟩, ?_⟩
    refine for_list (fun i σ H' => H' = H ∧ ∃ v1 v2 : Option V, σ = [some (.ref D), some (.int ((M.prodL (l.take i) : Nat) : Int)), v1, v2]) ⟨rfl, none, none, rfl⟩ (fun i σ H' _ I => by rw [I.1]; exact SqL.of hD) ?_ ?_
    · rintro i x σ H' hi ⟨rfl, v1, v2, rfl⟩
      obtain ⟨y, hy, t, rfl, et⟩ := pget ty hi
      rw [List.getElem?_map] at hy
      obtain ⟨⟨q, b⟩, hab, rfl⟩ := Option.map_eq_some_iff.mp hy
      have hq := hx _ (List.mem_of_getElem? hab)
      have hq1 : 0 < q := hq.1
      have hb1 : b < 2 ^ 60 := hq.2
      have h1 := prodL_take_le hx0 (i + 1)
      have h0 := prodL_take_le hx0 i
      have e3 : M.prodL (l.take (i + 1)) = M.prodL (l.take i) * q ^ b := by rw [take_more hab, prodL_one]
      have hp0 : 0 < M.prodL (l.take i) := prodL_pos0 fun x hx => hx0 x (List.mem_of_mem_take hx)
      have h2 : q ^ b ≤ M.prodL (l.take (i + 1)) := by rw [e3]; exact Nat.le_mul_of_pos_left _ hp0
      have e4 : ((M.prodL (l.take i) : Nat) : Int) * ((q ^ b : Nat) : Int) = ((M.prodL (l.take (i + 1)) : Nat) : Int) := by rw [e3]; push_cast; rfl
      refine s_gtup (SqT.of et) rfl ?_
      walk_at "g"
      refine ⟨q, b, rfl, hq1, hb1, by omega, ?_⟩
      walk_at "g"
      try refine s_i (mulW (by omega) (by omega)) ?_
      walk_at "g"
      rw [e4]
      exact ⟨rfl, _, _, rfl⟩
    · rintro σ H' ⟨rfl, v1, v2, rfl⟩
      have hyl : ys.length = l.length := by rw [ty.length, List.length_map]
      rw [hyl, List.take_length]
      walk_at "g"
      exact k

/-- _law_cell_at(script, k): a cell, or 0 -/
def sp__law_cell_at (K : PySem.W.Frag) : Sp := fun vs H Q _ => ∃ (a : Addr) (ns : List Int) (k : Nat), vs = [.ref a, .int k] ∧ SqL K H a (ns.map V.int) ∧ ∀ z : Int, Q (.int z) H
theorem ok__law_cell_at (T : Txt K mg) : FnOk P w K mg base CX0 1 (He.ga K "_law_cell_at") (fd__law_cell_at T) ["_law_script", "_law_k"] (sp__law_cell_at K) := by
  refine (F__law_cell_at T).ok sc__law_cell_at (fun vs H Q E h => ?_) (fun cdv A outer s H vs Q E hr h => ⟨_, PSs.nox (pss_cons (ps_if (pt_cmpR op_lt (pv 1) (pe_callB callLen rfl (T.fr (T.c.fact 40 rfl)) boot_len (pa_cons (pv 0) pa_nil)) (nomark _)) (pss_one (ps_ret (pe_ix ix_seq (pv 0) (pv 1) (fun _ _ => rfl)))) pss_nil)
      (pss_one (ps_ret pe_int))), ?_⟩)
  · obtain ⟨a, ns, k, rfl, _⟩ := h; rfl
  · obtain ⟨a, ns, k, rfl, hS, q⟩ := h
    walk_at "g"
    refine s_lenL hS ?_
    walk_at "g"
    refine s_ite (fun c => ?_) (fun c => ?_)
    · rw [List.length_map] at c
      obtain ⟨z, hz⟩ : ∃ z, ns[k]? = some z := ⟨_, List.getElem?_eq_getElem (show k < ns.length by omega)⟩
      walk_at "g"
      refine s_ixL hS (atI0 k rfl (v := .int z) (by rw [List.getElem?_map, hz]; rfl)) ?_
      exact q _
    · walk_at "g"
      exact q 0

/-- the state of a law's draws: a dict of what is left and whether it is free -/
def StAt (H : Hp) (p : Addr) : Prop := ∃ (l : Int) (f : Bool), H p = some (.dK [(.inr "left", .int l), (.inr "free", .bl f)]) ∧ (f = false → 0 ≤ l ∧ l < 2147483647)
theorem StAt.same {H H' : Hp} {p : Addr} (h : StAt H p) (s : Same H H') : StAt H' p := by
  obtain ⟨l, f, e, k⟩ := h
  exact ⟨l, f, s _ _ e, k⟩
theorem tups_b {H H' : Hp} {p : Addr} (h : StAt H p) (s : ∀ b o, b ≠ p → H b = some o → H' b = some o) {xs : List V} {rs : List (List V)} (ht : TupsIn H xs rs) : TupsIn H' xs rs := by
  induction ht with
  | nil => exact .nil
  | cons f _ ih =>
    obtain ⟨t, e, ht⟩ := f
    refine .cons ⟨t, e, s _ _ (fun z => ?_) ht⟩ ih
    obtain ⟨_, _, e2, _⟩ := h
    rw [z, e2] at ht; cases ht
/-- _law_state(cell, free): a new state -/
def sp__law_state : Sp := fun vs H Q _ => ∃ (c : Int) (f : Bool), vs = [.int c, .bl f] ∧ ∀ p H', H p = none → Same H H' → StAt H' p → Q (.ref p) H'
theorem ok__law_state (T : Txt K mg) : FnOk P w K mg base CX0 1 (He.ga K "_law_state") (fd__law_state T) ["_law_cell", "_law_free"] sp__law_state := by
  refine (F__law_state T).ok sc__law_state (fun vs H Q E h => ?_) (fun cdv A outer s H vs Q E hr h => ⟨_, PSs.nox (pss_cons (ps_if (pt_val (pv 1)) (pss_one (ps_ret (pe_disp (pps_cons pe_str (pv 0) (pps_cons pe_str pe_bl pps_nil)) rfl rfl (by simp) (by decide)))) pss_nil)
      (pss_one (ps_ret (pe_disp (pps_cons pe_str (pe_op op_add pe_int (pe_op op_mod (pv 0) pe_int)) (pps_cons pe_str pe_bl pps_nil)) rfl rfl (by simp) (by decide))))), ?_⟩)
  · obtain ⟨c, f, rfl, _⟩ := h; rfl
  · obtain ⟨c, f, rfl, k⟩ := h
    walk_at "g"
    refine s_iteb (fun e => ?_) (fun e => ?_)
    · walk_at "g"
      refine s_disp fun p H1 np hd s1 => ?_
      walk_at "g"
      refine mkDisp [(.inr "left", .int c), (.inr "free", .bl true)] hd rfl (by simp) fun H2 e2 s2 => ?_
      exact k p H2 np (s2 H np s1) ⟨c, true, e2, fun z => nomatch z⟩
    · walk_at "g"
      refine s_disp fun p H1 np hd s1 => ?_
      walk_at "g"
      refine mkDisp [(.inr "left", .int (1 + c % 2147483646)), (.inr "free", .bl false)] hd rfl (by simp) fun H2 e2 s2 => ?_
      exact k p H2 np (s2 H np s1) ⟨1 + c % 2147483646, false, e2, fun _ => by omega⟩

/-- _law_take(state, many): a number from 0 to below many -/
def sp__law_take : Sp := fun vs H Q _ => ∃ (p : Addr) (m : Int), vs = [.ref p, .int m] ∧ 0 < m ∧ m < 2 ^ 900 ∧ StAt H p ∧ ∀ (z : Int) H', 0 ≤ z → z < m → StAt H' p → SameB p H H' → Q (.int z) H'
theorem ok__law_take (T : Txt K mg) : FnOk P w K mg base CX0 1 (He.ga K "_law_take") (fd__law_take T) ["_law_state_here", "_law_many"] sp__law_take := by
  refine (F__law_take T).ok sc__law_take (fun vs H Q E h => ?_) (fun cdv A outer s H vs Q E hr h => ⟨_, PSs.nox (pss_cons (ps_if (pt_val (pe_dget (hu_of hr) (pv 0) pe_str (fun _ _ => rfl))) (pss_cons (ps_set (i := 2) sc__law_take.nd rfl (Or.inl rfl) (pe_op op_mod (pe_dget (hu_of hr) (pv 0) pe_str (fun _ _ => rfl)) (pv 1)))
      (pss_cons (ps_dput (hu_of hr) (pv 0) pe_str (pe_op op_fdivW (pe_dget (hu_of hr) (pv 0) pe_str (fun _ _ => rfl)) (pv 1)) rfl)
      (pss_one (ps_ret (pv 2))))) pss_nil)
      (pss_cons (ps_dput (hu_of hr) (pv 0) pe_str (pe_op op_mod (pe_op op_mulW (pe_dget (hu_of hr) (pv 0) pe_str (fun _ _ => rfl)) pe_int) pe_int) rfl)
      (pss_one (ps_ret (pe_op op_mod (pe_op op_fdivW (pe_op op_mod (pe_op op_mulW (pe_dget (hu_of hr) (pv 0) pe_str (fun _ _ => rfl)) pe_int) pe_int) pe_int) (pv 1)))))), ?_⟩)
  · obtain ⟨p, m, rfl, _⟩ := h; rfl
  · obtain ⟨p, m, rfl, m0, m1, ⟨l, f, hd, hf⟩, k⟩ := h
    have hl : ([(.inr "left", .int l), (.inr "free", .bl f)] : List (Key × V)).length < sizeLine := by exact small1000 (by simp)
    have v1 : valV ([(.inr "left", .int l), (.inr "free", .bl f)] : List (Key × V)) (.inr "left") = some (.int l) := by rfl
    have v2 : valV ([(.inr "left", .int l), (.inr "free", .bl f)] : List (Key × V)) (.inr "free") = some (.bl f) := by rfl
    have pk : ∀ x : Int, putK ([(.inr "left", .int l), (.inr "free", .bl f)] : List (Key × V)) (.inr "left") (.int x) = [(.inr "left", .int x), (.inr "free", .bl f)] := fun x => by rfl
    walk_at "g"
    refine s_dgetS hd v2 ?_
    walk_at "g"
    cases f with
    | true =>
      walk_at "g"
      refine s_dgetS hd v1 ?_
      walk_at "g"
      refine s_i (by omega) ?_
      walk_at "g"
      refine s_dgetS hd v1 ?_
      walk_at "g"
      refine s_i (divW m0 (by omega)) ?_
      walk_at "g"
      refine s_dputS hd hl ?_
      walk_at "g"
      rw [pk]
      exact k _ _ (Int.emod_nonneg _ (by omega)) (Int.emod_lt_of_pos _ m0) ⟨_, true, upd_same, fun z => nomatch z⟩ SameB.put
    | false =>
      have hb := hf rfl
      walk_at "g"
      refine s_dgetS hd v1 ?_
      walk_at "g"
      refine s_dputS hd hl ?_
      walk_at "g"
      rw [pk]
      have e : upd H p (.dK [(.inr "left", .int (l * 48271 % 2147483647)), (.inr "free", .bl false)]) p = some (.dK [(.inr "left", .int (l * 48271 % 2147483647)), (.inr "free", .bl false)]) := upd_same
      refine s_dgetS e (by rfl) ?_
      have b0 : 0 ≤ l * 48271 % 2147483647 := by omega
      have b1 : l * 48271 % 2147483647 < 2147483647 := by omega
      walk_at "g"
      refine s_i (by omega) ?_
      walk_at "g"
      exact k _ _ (Int.emod_nonneg _ (by omega)) (Int.emod_lt_of_pos _ m0) ⟨_, false, upd_same, fun _ => ⟨b0, b1⟩⟩ SameB.put

/-- _law_number(state): a number of at most fifty-six figures, of either sign -/
def sp__law_number : Sp := fun vs H Q _ => ∃ (p : Addr), vs = [.ref p] ∧ StAt H p ∧ ∀ (z : Int) H', z.natAbs < 10 ^ 57 → StAt H' p → SameB p H H' → Q (.int z) H'
theorem ok__law_number (T : Txt K mg) : FnOk P w K mg base CX0 2 (He.ga K "_law_number") (fd__law_number T) ["_law_state_here"] sp__law_number := by
  refine (F__law_number T).ok sc__law_number (fun vs H Q E h => ?_) (fun cdv A outer s H vs Q E hr h => ⟨_, PSs.nox (pss_cons (ps_set (i := 1) sc__law_number.nd rfl (Or.inl rfl) (pe_call (ok__law_take T) (hr.mono (by decide)) rfl (g__law_take T) (kp__law_take T) (B__law_take T) .nil pass0 (pa_cons (pv 0) (pa_cons pe_int pa_nil))))
      (pss_cons (ps_if (pt_cmpR op_eq (pv 1) pe_int (nomark _)) (pss_one (ps_ret (pe_op op_sub (pe_call (ok__law_take T) (hr.mono (by decide)) rfl (g__law_take T) (kp__law_take T) (B__law_take T) .nil pass0 (pa_cons (pv 0) (pa_cons pe_int pa_nil))) pe_int))) pss_nil)
      (pss_cons (ps_if (pt_cmpR op_eq (pv 1) pe_int (nomark _)) (pss_one (ps_ret (pe_op op_sub (pe_call (ok__law_take T) (hr.mono (by decide)) rfl (g__law_take T) (kp__law_take T) (B__law_take T) .nil pass0 (pa_cons (pv 0) (pa_cons (pe_op op_mulW pe_int (pe_op op_pow pe_int pe_int)) pa_nil))) (pe_op op_pow pe_int pe_int)))) pss_nil)
      (pss_cons (ps_set (i := 2) sc__law_number.nd rfl (Or.inl rfl) pe_int)
      (pss_cons (ps_for PassesOwn.never rfl (pi_range1 rfl (T.fr (T.c.fact 38 rfl)) (pa_cons pe_int pa_nil)) (pg_name (i := 3) sc__law_number.nd rfl (Or.inl rfl)) (pss_one (ps_set (i := 2) sc__law_number.nd rfl (Or.inl rfl) (pe_op op_add (pe_op op_mulW (pv 2) (pe_op op_pow pe_int pe_int)) (pe_call (ok__law_take T) (hr.mono (by decide)) rfl (g__law_take T) (kp__law_take T) (B__law_take T) .nil pass0 (pa_cons (pv 0) (pa_cons (pe_op op_pow pe_int pe_int) pa_nil)))))))
      (pss_one (ps_ret (pe_op op_mulW (pv 2) (pe_op op_sub (pe_op op_mulW pe_int (pe_call (ok__law_take T) (hr.mono (by decide)) rfl (g__law_take T) (kp__law_take T) (B__law_take T) .nil pass0 (pa_cons (pv 0) (pa_cons pe_int pa_nil)))) pe_int))))))))), ?_⟩)
  · obtain ⟨p, rfl, _⟩ := h; rfl
  · obtain ⟨p, rfl, hst, k⟩ := h
    walk_at "g"
    refine ⟨p, 4, rfl, by decide, by decide, hst, fun w H1 w0 w1 st1 s1 => ?_⟩
    walk_at "g"
    refine s_ite (fun _ => ?_) (fun _ => ?_)
    · walk_at "g"
      refine ⟨p, 21, rfl, by decide, by decide, st1, fun z H2 z0 z1 st2 s2 => ?_⟩
      walk_at "g"
      exact k _ H2 (by omega) st2 (s1.trans s2)
    walk_at "g"
    refine s_ite (fun _ => ?_) (fun _ => ?_)
    · walk_at "g"
      refine ⟨p, _, rfl, by decide, by decide, st1, fun z H2 z0 z1 st2 s2 => ?_⟩
      walk_at "g"
      exact k _ H2 (by omega) st2 (s1.trans s2)
    walk_at "g"
    refine mkR1 7 rfl (by decide) (by decide) ?_
    refine for_range (n := 7) (fun i σ H' => SameB p H H' ∧ StAt H' p ∧ ∃ (f : Int) (v : Option V), σ = [some (.ref p), some (.int w), some (.int f), v] ∧ 0 ≤ f ∧ f < 10 ^ (8 * i)) ⟨s1, st1, 0, none, rfl, by decide, by decide⟩ ?_ ?_
    · rintro i σ H' hi ⟨hs, st, f, v, rfl, f0, f1⟩
      have f2 : f < 10 ^ 56 := Int.lt_of_lt_of_le f1 (by
        have : i = 0 ∨ i = 1 ∨ i = 2 ∨ i = 3 ∨ i = 4 ∨ i = 5 ∨ i = 6 := by omega
        rcases this with rfl | rfl | rfl | rfl | rfl | rfl | rfl <;> decide)
      walk_at "g"
      refine ⟨p, _, rfl, by decide, by decide, st, fun z H2 z0 z1 st2 s2 => ?_⟩
      walk_at "g"
      refine ⟨hs.trans s2, st2, _, _, rfl, by omega, ?_⟩
      have e : (10 : Int) ^ (8 * (i + 1)) = 10 ^ (8 * i) * 10 ^ 8 := by rw [← Int.pow_add]; congr 1
      rw [e]
      generalize (10 : Int) ^ (8 * i) = M at f1 ⊢
      omega
    · rintro σ H' ⟨hs, st, f, v, rfl, f0, f1⟩
      have f2 : f < 10 ^ 56 := f1
      walk_at "g"
      refine ⟨p, 2, rfl, by decide, by decide, st, fun z H2 z0 z1 st2 s2 => ?_⟩
      walk_at "g"
      have e : z = 0 ∨ z = 1 := by omega
      refine k _ H2 ?_ st2 (hs.trans s2)
      rcases e with rfl | rfl <;> omega

/-- _law_power(n, a, e), e from 0 on -/
def sp__law_power : Sp := fun vs H Q _ => ∃ (n a : Int) (e : Nat), vs = [.int n, .int a, .int e] ∧ 0 < n ∧ n.natAbs < 2 ^ 900 ∧ Q (.int (M.pw n a e)) H
theorem ok__law_power (T : Txt K mg) : FnOk P w K mg base CX0 1 (He.ga K "_law_power") (fd__law_power T) ["_law_n", "_law_a", "_law_e"] sp__law_power := by
  refine (F__law_power T).ok sc__law_power (fun vs H Q E h => ?_) (fun cdv A outer s H vs Q E hr h => ⟨_, PSs.nox (pss_cons (ps_set (i := 3) sc__law_power.nd rfl (Or.inl rfl) (pe_op op_mod pe_int (pv 0)))
      (pss_cons (ps_set (i := 4) sc__law_power.nd rfl (Or.inl rfl) (pe_op op_mod (pv 1) (pv 0)))
      (pss_cons (ps_while PassesOwn.never (pt_cmpR op_gt (pv 2) pe_int (nomark _)) (pss_cons (ps_if (pt_cmpR op_eq (pe_op op_mod (pv 2) pe_int) pe_int (nomark _)) (pss_one (ps_set (i := 3) sc__law_power.nd rfl (Or.inl rfl) (pe_op op_mod (pe_op op_mulW (pv 3) (pv 4)) (pv 0)))) pss_nil)
      (pss_cons (ps_set (i := 4) sc__law_power.nd rfl (Or.inl rfl) (pe_op op_mod (pe_op op_mulW (pv 4) (pv 4)) (pv 0)))
      (pss_one (ps_set (i := 2) sc__law_power.nd rfl (Or.inl rfl) (pe_op op_fdivW (pv 2) pe_int))))))
      (pss_one (ps_ret (pv 3)))))), ?_⟩)
  · obtain ⟨n, a, e, rfl, _⟩ := h; rfl
  · obtain ⟨n, a, e, rfl, h0, hn, k⟩ := h
    walk_at "g"
    refine s_i (by omega) ?_
    walk_at "g"
    refine s_i (by omega) ?_
    walk_at "g"
    refine s_while (fun σ H' => H' = H ∧ ∃ (e' : Nat) (f b : Int), σ = [some (.int n), some (.int a), some (.int e'), some (.int f), some (.int b)] ∧ 0 ≤ f ∧ f < n ∧ 0 ≤ b ∧ b < n ∧ f * b ^ e' % n = M.pw n a e)
      (fun σ _ => (iv σ 2).natAbs) ⟨rfl, e, _, _, rfl, Int.emod_nonneg _ (by omega), Int.emod_lt_of_pos _ h0, Int.emod_nonneg _ (by omega), Int.emod_lt_of_pos _ h0, M.pw_one⟩ ?_
    rintro σ H' ⟨rfl, e', f, b, rfl, f0, f1, b0, b1, inv⟩
    have st := M.pw_turn inv
    walk_at "g"
    refine s_ite (fun c => ?_) (fun c => ?_)
    · have e2 : (e' : Int) / 2 = ((e' / 2 : Nat) : Int) := by omega
      walk_at "h"
      refine s_join (fun σ' H1 => H1 = H' ∧ ∃ f' : Int, σ' = [some (.int n), some (.int a), some (.int e'), some (.int f'), some (.int b)] ∧ 0 ≤ f' ∧ f' < n ∧ f' * (b * b % n) ^ (e' / 2) % n = M.pw n a e) ?_ fun N J => ?_
      · rintro σ' H1 ⟨rfl, f', rfl, f0', f1', inv'⟩
        walk_at "g"
        refine s_i (by omega) ?_
        walk_at "g"
        refine ⟨⟨rfl, e' / 2, f', _, ?_, f0', f1', Int.emod_nonneg _ (by omega), Int.emod_lt_of_pos _ h0, inv'⟩, ?_⟩
        · rw [e2]; rfl
        · show ((e' : Int) / 2).natAbs < (e' : Int).natAbs
          omega
      · walk_at "g"
        refine s_ite (fun c2 => ?_) (fun c2 => ?_)
        · walk_at "g"
          refine s_i (by omega) ?_
          walk_at "g"
          exact J _ _ ⟨rfl, _, rfl, Int.emod_nonneg _ (by omega), Int.emod_lt_of_pos _ h0, st.1 (by omega)⟩
        · walk_at "g"
          exact J _ _ ⟨rfl, _, rfl, f0, f1, st.2 (by omega)⟩
    · have z : e' = 0 := by omega
      subst z
      walk_at "g"
      rw [M.pw_end f0 f1 inv]
      exact k

/-- _law_parted(n): a new list of the primes of n and how often -/
def sp__law_parted : Sp := fun vs H Q _ => ∃ n : Nat, vs = [.int n] ∧ 0 < n ∧ n < 2 ^ 200 ∧ ∀ p H' xs l, M.IsFac n l → H p = none → Same H H' → H' p = some (.lst xs) → TupsIn H' xs (l.map fun x => [V.int (x.1 : Nat), V.int (x.2 : Nat)]) → Q (.ref p) H'
theorem fac_len {n : Nat} {l : List (Nat × Nat)} {m d : Nat} (h : M.Fac n l m d) (hn : n < 2 ^ 200) : l.length ≤ 200 := by
  have h1 : ∀ l : List (Nat × Nat), (∀ x ∈ l, M.Prime x.1 ∧ 0 < x.2) → 2 ^ l.length ≤ M.prodL l := fun l => by
    induction l with
    | nil => intro _; exact Nat.le_refl 1
    | cons x l ih =>
      intro hl
      have h1 := ih fun y hy => hl y (by simp [hy])
      have h2 := hl x (by simp)
      have h3 : 2 ≤ x.1 ^ x.2 := Nat.le_trans h2.1.1 (Nat.le_of_dvd (Nat.pow_pos h2.1.pos) (M.dvd_pow_self x.1 h2.2))
      rw [List.length_cons, Nat.pow_succ, Nat.mul_comm]
      exact Nat.mul_le_mul h3 h1
  have h2 := h1 l h.primes
  have h3 : M.prodL l ≤ n := by rw [← h.prod]; exact Nat.le_mul_of_pos_right _ h.npos
  rcases Nat.lt_or_ge 200 l.length with z | z
  · have := Nat.pow_le_pow_right (show 0 < 2 by decide) (Nat.le_of_lt z)
    omega
  · exact z
theorem fac_rest {n : Nat} {l : List (Nat × Nat)} {m d : Nat} (h : M.Fac n l m d) : m ≤ n := by
  rw [← h.prod]
  have : 0 < M.prodL l := Nat.pos_of_ne_zero fun z => by
    have h1 := h.prod
    rw [z, Nat.zero_mul] at h1
    have h2 : ∀ l : List (Nat × Nat), (∀ x ∈ l, M.Prime x.1 ∧ 0 < x.2) → 0 < M.prodL l := fun l => by
      induction l with
      | nil => intro _; decide
      | cons x l ih => intro hl; exact Nat.mul_pos (Nat.pow_pos (hl x (by simp)).1.pos) (ih fun y hy => hl y (by simp [hy]))
    have := h2 l h.primes
    omega
  exact Nat.le_mul_of_pos_left _ this
theorem ok__law_parted (T : Txt K mg) : FnOk P w K mg base CX0 1 (He.ga K "_law_parted") (fd__law_parted T) ["_law_n"] sp__law_parted := by
  refine (F__law_parted T).ok sc__law_parted (fun vs H Q E h => ?_) (fun cdv A outer s H vs Q E hr h => ⟨_, PSs.nox (pss_cons (ps_set (i := 1) sc__law_parted.nd rfl (Or.inl rfl) (pe_lst pa_nil))
      (pss_cons (ps_set (i := 2) sc__law_parted.nd rfl (Or.inl rfl) pe_int)
      (pss_cons (ps_while PassesOwn.never (pt_cmpR op_gt (pv 0) pe_int (nomark _)) (pss_cons (ps_if (pt_cmpR op_gt (pe_op op_mulW (pv 2) (pv 2)) (pv 0) (nomark _)) (pss_one (ps_set (i := 2) sc__law_parted.nd rfl (Or.inl rfl) (pv 0))) pss_nil)
      (pss_cons (ps_set (i := 3) sc__law_parted.nd rfl (Or.inl rfl) pe_int)
      (pss_cons (ps_while PassesOwn.never (pt_cmpR op_eq (pe_op op_mod (pv 0) (pv 2)) pe_int (nomark _)) (pss_cons (ps_set (i := 0) sc__law_parted.nd rfl (Or.inl rfl) (pe_op op_fdivW (pv 0) (pv 2)))
      (pss_one (ps_set (i := 3) sc__law_parted.nd rfl (Or.inl rfl) (pe_op op_add (pv 3) pe_int)))))
      (pss_cons (ps_if (pt_cmpR op_gt (pv 3) pe_int (nomark _)) (pss_one (ps_expr (pe_bm PySem.F.plainAttrs_list PySem.F.slot_list_append PySem.F.type_list_append mt_append (pv 1) (pa_cons (pe_tup (pa_cons (pv 2) (pa_cons (pv 3) pa_nil))) pa_nil)))) pss_nil)
      (pss_one (ps_set (i := 2) sc__law_parted.nd rfl (Or.inl rfl) (pe_op op_add (pe_op op_add (pv 2) pe_int) (pe_op op_mod (pv 2) pe_int)))))))))
      (pss_one (ps_ret (pv 1)))))), ?_⟩)
  · obtain ⟨n, rfl, _⟩ := h; rfl
  · obtain ⟨n0, rfl, h0, hn, k⟩ := h
    walk_at "g"
    refine mkL (by simp) fun p H1 np e1 s1 => ?_
    walk_at "g"
    refine s_while (fun σ H' => Same H H' ∧ ∃ (n d : Nat) (v : Option V) (xs : List V) (l : List (Nat × Nat)), σ = [some (.int n), some (.ref p), some (.int d), v] ∧ H' p = some (.lst xs) ∧ TupsIn H' xs (l.map fun x => [V.int (x.1 : Nat), V.int (x.2 : Nat)]) ∧ M.Fac n0 l n d)
      (fun σ _ => if (iv σ 0).toNat ≤ 1 then 0 else (iv σ 0).toNat + ((iv σ 0).toNat - (iv σ 2).toNat)) ⟨s1, n0, 2, none, [], [], rfl, e1, .nil, M.fac_start h0⟩ ?_
    rintro σ H' ⟨hs, n, d, v, xs, l, rfl, hp, ht, fac⟩
    have hxl : xs.length = l.length := by rw [ht.length, List.length_map]
    have hll := fac_len fac hn
    have hnl := fac_rest fac
    walk_at "g"
    refine s_ite (fun c => ?_) (fun c => ?_)
    · have hn1 : 1 < n := by omega
      have hdn := M.fac_le fac hn1
      have hd2 := fac.dtwo
      walk_at "h"
      refine s_join (fun σ' H2 => H2 = H' ∧ ∃ d' : Nat, (d' = n ∨ d' = d ∧ d * d ≤ n) ∧ σ' = [some (.int n), some (.ref p), some (.int d'), v] ∧ M.Fac n0 l n d') ?_ fun N J => ?_
      · rintro σ' H2 ⟨rfl, d', hd', rfl, fac'⟩
        have hd2' := fac'.dtwo
        have hdn' := M.fac_le fac' hn1
        walk_at "g"
        refine s_while (fun σ' H3 => H3 = H2 ∧ ∃ m k : Nat, σ' = [some (.int m), some (.ref p), some (.int d'), some (.int k)] ∧ n = d' ^ k * m ∧ 0 < m) (fun σ _ => (iv σ 0).toNat) ⟨rfl, n, 0, rfl, by simp, by omega⟩ ?_
        rintro σ' H3 ⟨rfl, m, j, rfl, em, m0⟩
        have hml : m ≤ n := by rw [em]; exact Nat.le_mul_of_pos_left _ (Nat.pow_pos (by omega))
        walk_at "g"
        refine s_i (by omega) ?_
        walk_at "g"
        refine s_ite (fun c2 => ?_) (fun c2 => ?_)
        · have hdm : d' ∣ m := Int.natCast_dvd_natCast.mp (Int.dvd_of_emod_eq_zero c2)
          obtain ⟨m', rfl⟩ := hdm
          have e3 : ((d' * m' : Nat) : Int) / (d' : Int) = (m' : Int) := by
            push_cast
            exact Int.mul_ediv_cancel_left _ (by omega)
          walk_at "g"
          refine s_i (divW (by omega) (by omega)) ?_
          walk_at "g"
          rw [e3]
          have m0' : 0 < m' := Nat.pos_of_ne_zero fun z => by rw [z] at m0; omega
          have : 2 * m' ≤ d' * m' := Nat.mul_le_mul_right m' hd2'
          refine ⟨⟨rfl, m', j + 1, rfl, by rw [em, Nat.pow_succ]; grind, m0'⟩, ?_⟩
          show (m' : Int).toNat < ((d' * m' : Nat) : Int).toNat
          omega
        · have hdm : ¬ d' ∣ m := fun z => c2 (Int.emod_eq_zero_of_dvd (Int.natCast_dvd_natCast.mpr z))
          have stp := M.fac_step fac' em hdm
          -- what the turn's end asks
          have fin : ∀ (H4 : Hp) (xs' : List V) (l' : List (Nat × Nat)) (d2 : Int), Same H H4 → H4 p = some (.lst xs') → TupsIn H4 xs' (l'.map fun x => [V.int (x.1 : Nat), V.int (x.2 : Nat)]) → M.Fac n0 l' m (d' + 1) → d2 = (d' : Int) + 1 + (d' : Int) % 2 →
              ((Same H H4 ∧ ∃ (n d : Nat) (v : Option V) (xs : List V) (l : List (Nat × Nat)), [some (.int m), some (.ref p), some (.int d2), some (.int j)] = [some (.int (n : Int)), some (.ref p), some (.int (d : Int)), v] ∧ H4 p = some (.lst xs) ∧ TupsIn H4 xs (l.map fun x => [V.int (x.1 : Nat), V.int (x.2 : Nat)]) ∧ M.Fac n0 l n d) ∧
                (if (m : Int).toNat ≤ 1 then 0 else (m : Int).toNat + ((m : Int).toNat - d2.toNat)) < (if (n : Int).toNat ≤ 1 then 0 else (n : Int).toNat + ((n : Int).toNat - (d : Int).toNat))) := by
            intro H4 xs' l' d2 s4 h4 t4 f4 e4
            have facN : M.Fac n0 l' m (d' + 1 + d' % 2) := by
              rcases Nat.mod_two_eq_zero_or_one d' with z | z
              · rw [z]; exact f4
              · rw [z]; exact M.fac_odd f4 (by omega) (by omega)
            refine ⟨⟨s4, m, d' + 1 + d' % 2, _, xs', l', by rw [e4]; push_cast; rfl, h4, t4, facN⟩, ?_⟩
            have ht1 : (m : Int).toNat = m := by omega
            have ht2 : (n : Int).toNat = n := by omega
            have ht3 : (d : Int).toNat = d := by omega
            rw [ht1, ht2, ht3, if_neg (show ¬ n ≤ 1 by omega)]
            by_cases hm1 : m ≤ 1
            · rw [if_pos hm1]; omega
            · rw [if_neg hm1]
              rcases Nat.eq_zero_or_pos j with z | z
              · subst z
                rw [Nat.pow_zero, Nat.one_mul] at em
                subst em
                have hd3 : d' ≠ n := fun z => hdm (by rw [z]; exact Nat.dvd_refl _)
                rcases hd' with z | ⟨z, z2⟩
                · exact absurd z hd3
                · subst z; omega
              · have h5 : d' ^ 1 ≤ d' ^ j := Nat.pow_le_pow_right (by omega) z
                rw [Nat.pow_one] at h5
                have h6 : 2 * m ≤ n := by rw [em]; exact Nat.mul_le_mul_right m (by omega)
                rcases hd' with z2 | ⟨z2, z3⟩
                · exfalso
                  subst z2
                  have h7 : d' * 2 ≤ d' ^ j * m := Nat.mul_le_mul h5 (by omega)
                  omega
                · subst z2
                  have h8 : d' * 2 ≤ d' * d' := Nat.mul_le_mul_left _ hd2'
                  omega
          walk_at "h"
          refine s_join (fun σ' H4 => Same H H4 ∧ ∃ (xs' : List V) (l' : List (Nat × Nat)), σ' = [some (.int m), some (.ref p), some (.int d'), some (.int j)] ∧ H4 p = some (.lst xs') ∧ TupsIn H4 xs' (l'.map fun x => [V.int (x.1 : Nat), V.int (x.2 : Nat)]) ∧ M.Fac n0 l' m (d' + 1)) ?_ fun N J => ?_
          · rintro σ' H4 ⟨s4, xs', l', rfl, h4, t4, f4⟩
            walk_at "g"
            exact fin H4 xs' l' _ s4 h4 t4 f4 rfl
          · walk_at "g"
            refine s_ite (fun c3 => ?_) (fun c3 => ?_)
            · rw [if_pos (by omega)] at stp
              walk_at "g"
              refine ⟨s_tyL hp, ?_⟩
              walk_at "g"
              refine mkT (by simp) fun t H4 nt et s4 => ?_
              walk_at "g"
              refine s_append (s4 _ _ hp) (small1000 (by omega)) ?_
              walk_at "g"
              refine J _ _ ⟨same_upd' (hs.trans s4) np, xs ++ [.ref t], l ++ [(d', j)], rfl, upd_same, ?_, stp⟩
              rw [List.map_append]
              exact TupsIn.app hp ht s4 nt et
            · rw [if_neg (by omega)] at stp
              walk_at "g"
              exact J _ _ ⟨hs, xs, l, rfl, hp, ht, stp⟩
      · walk_at "g"
        refine s_ite (fun c2 => ?_) (fun c2 => ?_)
        · walk_at "g"
          refine J _ _ ⟨rfl, n, .inl rfl, rfl, M.fac_jump fac hn1 ?_⟩
          have : ((d * d : Nat) : Int) > (n : Int) := by push_cast; omega
          omega
        · walk_at "g"
          refine J _ _ ⟨rfl, d, .inr ⟨rfl, ?_⟩, rfl, fac⟩
          have : ¬ (((d * d : Nat) : Int) > (n : Int)) := by push_cast; omega
          omega
    · walk_at "g"
      exact k p H' xs l (M.fac_end fac (by omega)) np hs hp ht

/-- the paper of a prime p at t, n deep at most -/
def PaperAt : Nat → Hp → Addr → Nat → Prop
  | 0, _, _, _ => False
  | n + 1, H, t, p => ∃ (f : Nat) (u : Addr) (xs : List V) (l : List (Nat × Nat)), H t = some (.tup [.int (p : Nat), .int (f : Nat), .ref u]) ∧ H u = some (.tup xs) ∧ M.Prime p ∧ M.LeastFull p f ∧ M.IsFac (p - 1) l ∧
    Paired (fun x r => ∃ a s, x = V.ref a ∧ H a = some (.tup [.ref s, .int (r.2 : Nat)]) ∧ PaperAt n H s r.1) xs l
theorem PaperAt.same : ∀ {n : Nat} {H H' : Hp} {t : Addr} {p : Nat}, PaperAt n H t p → Same H H' → PaperAt n H' t p
  | 0, _, _, _, _, h, _ => h.elim
  | n + 1, H, H', t, p, ⟨f, u, xs, l, e1, e2, hp, hf, hl, pr⟩, s => ⟨f, u, xs, l, s _ _ e1, s _ _ e2, hp, hf, hl, paired_mono (fun _ _ ⟨a, b, e, h1, h2⟩ => ⟨a, b, e, s _ _ h1, h2.same s⟩) pr⟩
theorem PaperAt.upd : ∀ {n : Nat} {H : Hp} {t D : Addr} {p : Nat} {zs : List V} {o : HO}, H D = some (.lst zs) → PaperAt n H t p → PaperAt n (L2.upd H D o) t p
  | 0, _, _, _, _, _, _, _, h => h.elim
  | n + 1, H, t, D, p, zs, o, hD, ⟨f, u, xs, l, e1, e2, hp, hf, hl, pr⟩ => by
    have fr : ∀ {r : List V} {b : Addr}, H b = some (.tup r) → L2.upd H D o b = some (.tup r) := fun {r b} e => by
      rw [upd_ne (fun z => by rw [z, hD] at e; cases e)]; exact e
    exact ⟨f, u, xs, l, fr e1, fr e2, hp, hf, hl, paired_mono (fun _ _ ⟨a, b, e, h1, h2⟩ => ⟨a, b, e, fr h1, h2.upd hD⟩) pr⟩
/-- what a reader of a paper needs -/
theorem PaperAt.open_ {n : Nat} {H : Hp} {t : Addr} {p : Nat} (h : PaperAt n H t p) : ∃ (m : Nat) (f : Nat) (u : Addr) (xs : List V) (l : List (Nat × Nat)), n = m + 1 ∧ H t = some (.tup [.int (p : Nat), .int (f : Nat), .ref u]) ∧ H u = some (.tup xs) ∧ M.Prime p ∧ M.LeastFull p f ∧ M.IsFac (p - 1) l ∧
    Paired (fun x r => ∃ a s, x = V.ref a ∧ H a = some (.tup [.ref s, .int (r.2 : Nat)]) ∧ PaperAt m H s r.1) xs l := by
  cases n with
  | zero => exact h.elim
  | succ m =>
    obtain ⟨f, u, xs, l, h⟩ := h
    exact ⟨m, f, u, xs, l, rfl, h⟩
def sp__law_paper (n : Nat) : Sp := fun vs H Q _ => ∃ p : Nat, vs = [.int p] ∧ M.Prime p ∧ p ≤ 2 ^ n ∧ p < 2 ^ 100 ∧ ∀ t H', PaperAt (n + 1) H' t p → Same H H' → Q (.ref t) H'
theorem ok_paperS (T : Txt K mg) {n : Nat} (IH : FnOk P w K mg base CX0 (n + 2) (He.ga K "_law_paper") (fd__law_paper T) ["_law_p"] (sp__law_paper n)) : FnOk P w K mg base CX0 (n + 3) (He.ga K "_law_paper") (fd__law_paper T) ["_law_p"] (sp__law_paper (n + 1)) := by
  refine (F__law_paper T).ok sc__law_paper (fun vs H Q E h => ?_) (fun cdv A outer s H vs Q E hr h => ⟨_, PSs.nox (pss_cons (ps_set (i := 1) sc__law_paper.nd rfl (Or.inl rfl) (pe_call (ok__law_parted T) (hr.mono (by omega)) rfl (g__law_parted T) (kp__law_parted T) (B__law_parted T) .nil pass0 (pa_cons (pe_op op_sub (pv 0) pe_int) pa_nil)))
      (pss_cons (ps_set (i := 2) sc__law_paper.nd rfl (Or.inr rfl) pe_int)
      (pss_cons (ps_while PassesOwn.never (pt_cmpR op_in_seq pe_int (pe_lc (own := [("_law_q", 3), ("_law_many", 4)]) (tt := tYes) (g := gTup K 2 (gCons (gName 3) (gCons (gName 4) gNil))) rfl sc__law_paper.nd (pi_list (pv 1)) (blkOk_by (N := N__law_paper) (sc := defScope s__law_paper) (by decide +kernel)) (fun _ _ _ _ _ => (pg_tup rfl (pgs_cons (pg_name (i := 3) sc__law_paper.nd rfl (Or.inl rfl)) (pgs_cons (pg_name (i := 4) sc__law_paper.nd rfl (Or.inl rfl)) pgs_nil)))) (fun _ _ _ _ _ => pts_nil) (fun _ _ _ _ _ => (pe_call (ok__law_power T) (hr.mono (by omega)) rfl (g__law_power T) (kp__law_power T) (B__law_power T) .nil pass0 (pa_cons (pv 0) (pa_cons (pv 2) (pa_cons (pe_op op_fdivW (pe_op op_sub (pv 0) pe_int) (pv 3)) pa_nil)))))) rfl) (pss_one (ps_set (i := 2) sc__law_paper.nd rfl (Or.inr rfl) (pe_op op_add (pv 2) pe_int))))
      (pss_one (ps_ret (pe_tup (pa_cons (pv 0) (pa_cons (pv 2) (pa_cons (pe_callTy callTup rfl (T.fr (T.c.fact 39 rfl)) boot_tuple (pa_cons (pe_lc (own := [("_law_q", 3), ("_law_many", 4)]) (tt := tYes) (g := gTup K 2 (gCons (gName 3) (gCons (gName 4) gNil))) rfl sc__law_paper.nd (pi_list (pv 1)) (blkOk_by (N := N__law_paper) (sc := defScope s__law_paper) (by decide +kernel)) (fun _ _ _ _ _ => (pg_tup rfl (pgs_cons (pg_name (i := 3) sc__law_paper.nd rfl (Or.inl rfl)) (pgs_cons (pg_name (i := 4) sc__law_paper.nd rfl (Or.inl rfl)) pgs_nil)))) (fun _ _ _ _ _ => pts_nil) (fun _ _ _ _ _ => (pe_tup (pa_cons (pe_call (IH) (hr.mono (by omega)) rfl (g__law_paper T) (kp__law_paper T) (B__law_paper T) .nil pass0 (pa_cons (pv 3) pa_nil)) (pa_cons (pv 4) pa_nil))))) pa_nil)) pa_nil))))))))), ?_⟩)
  · obtain ⟨p, rfl, _⟩ := h; rfl
  · obtain ⟨p, rfl, hp, hpn, hpb, k⟩ := h
    have hp2 := hp.1
    have e1 : (p : Int) - 1 = ((p - 1 : Nat) : Int) := by omega
    walk_at "g"
    refine ⟨p - 1, by rw [e1]; rfl, by omega, by omega, fun q H1 xs l hl nq s1 hq ht => ?_⟩
    have hxl : xs.length = l.length := by rw [ht.length, List.length_map]
    have hll : l.length ≤ 200 := by
      obtain ⟨d, hd⟩ := M.Fac.of hl (by omega)
      exact fac_len hd (by omega)
    obtain ⟨g, g0, g1, gf⟩ := M.full_small hp
    walk_at "g"
    refine s_while (fun σ H' => Same H1 H' ∧ ∃ (f : Nat) (v1 v2 : Option V), σ = [some (.int p), some (.ref q), some (.int f), v1, v2] ∧ 0 < f ∧ f ≤ g ∧ ∀ i : Nat, 0 < i → i < f → ¬M.Ord p (i : Int) (p - 1))
      (fun σ _ => g - (iv σ 2).toNat) ⟨Same.refl _, 1, none, none, rfl, by decide, by omega, fun i h1 h2 => by omega⟩ ?_
    rintro σ H' ⟨hs, f, v1, v2, rfl, f0, fg, hno⟩
    have hun : M.un p (f : Int) := M.un_small (by omega) (by omega)
    walk_at "g"
    refine ⟨_, rfl, q, rfl, ⟨_, SqL.of (hs _ _ hq)⟩, fun D hD => ?_⟩
    refine lc_list (fun i H2 => Same H' H2 ∧ H2 D = some (.lst ((l.take i).map fun x => V.int (M.pw p f ((p - 1) / x.1))))) ⟨same_upd hD, upd_same⟩ (fun i H2 _ I => SqL.of (I.1 _ _ (hs _ _ hq))) ?_ ?_
    · rintro i x H2 hi ⟨s2, hD2⟩
      have hil : i < xs.length := (List.getElem?_eq_some_iff.mp hi).1
      obtain ⟨y, hy, t, rfl, et⟩ := pget ht hi
      rw [List.getElem?_map] at hy
      obtain ⟨⟨a, b⟩, hab, rfl⟩ := Option.map_eq_some_iff.mp hy
      have ha := (hl.primes _ (List.mem_of_getElem? hab)).1.pos
      have hab2 := (hl.primes _ (List.mem_of_getElem? hab)).1
      have had := Nat.le_of_dvd (by omega) (M.fac_dvd hl (List.mem_of_getElem? hab))
      refine s_gtup (SqT.of (s2 _ _ (hs _ _ et))) rfl ?_
      walk_at "g"
      refine ⟨rfl, ?_⟩
      walk_at "g"
      refine s_i (divW (by show (0 : Int) < (a : Int); omega) (by show (a : Int).natAbs < _; omega)) ?_
      walk_at "g"
      have e2 : ((p : Int) - 1) / ((a : Nat) : Int) = (((p - 1) / a : Nat) : Int) := by rw [e1]; exact (Int.natCast_ediv _ _).symm
      refine ⟨p, f, (p - 1) / a, by rw [← e2]; rfl, by omega, by omega, ?_⟩
      refine ⟨_, hD2, small1000 (by rw [List.length_map, List.length_take]; omega), same_upd' s2 hD, ?_⟩
      rw [upd_same, take_more hab, List.map_append]; rfl
    · rintro H2 ⟨s2, hD2⟩
      rw [hxl, List.take_length] at hD2
      have hD3 : H2 D = some (.lst ((l.map fun x => M.pw p f ((p - 1) / x.1)).map V.int)) := by rw [hD2, List.map_map]; rfl
      refine s_inL hD3 ?_
      have fi := M.full_iff hp hun hl
      walk_at "g"
      refine s_ite (fun c => ?_) (fun c => ?_)
      · have nf : ¬M.Ord p (f : Int) (p - 1) := fun o => by
          obtain ⟨x, hx, e⟩ := List.mem_map.mp c
          exact (fi.mp o) x hx e
        have fl : f ≠ g := fun z => nf (by rw [z]; exact gf)
        walk_at "g"
        refine ⟨⟨hs.trans s2, f + 1, _, _, by push_cast; rfl, by omega, by omega, fun i h1 h2 => ?_⟩, ?_⟩
        · by_cases z : i = f
          · rw [z]; exact nf
          · exact hno i h1 (by omega)
        · show g - ((f : Int) + 1).toNat < g - (f : Int).toNat
          omega
      · have of : M.Ord p (f : Int) (p - 1) := fi.mpr fun x hx z => c (List.mem_map.mpr ⟨x, hx, z⟩)
        walk_at "g"
        have hs2 := hs.trans s2
        refine ⟨_, rfl, q, rfl, ⟨_, SqL.of (hs2 _ _ hq)⟩, fun D2 hD2' => ?_⟩
        refine lc_list (fun i H3 => Same H2 H3 ∧ ∃ ys : List V, H3 D2 = some (.lst ys) ∧ Paired (fun x r => ∃ a s, x = V.ref a ∧ H3 a = some (.tup [.ref s, .int (r.2 : Nat)]) ∧ PaperAt (n + 1) H3 s r.1) ys (l.take i)) ⟨same_upd hD2', [], upd_same, by rw [List.take_zero]; exact .nil⟩ (fun i H3 _ I => SqL.of (I.1 _ _ (hs2 _ _ hq))) ?_ ?_
        · rintro i x H3 hi ⟨s3, ys, hD3', pr⟩
          have hil : i < xs.length := (List.getElem?_eq_some_iff.mp hi).1
          obtain ⟨y, hy, t, rfl, et⟩ := pget ht hi
          rw [List.getElem?_map] at hy
          obtain ⟨⟨a, b⟩, hab, rfl⟩ := Option.map_eq_some_iff.mp hy
          have hpa := (hl.primes _ (List.mem_of_getElem? hab)).1
          have hda := M.fac_dvd hl (List.mem_of_getElem? hab)
          have had := Nat.le_of_dvd (by omega) hda
          have hyl : ys.length = i := by rw [pr.length, List.length_take]; omega
          refine s_gtup (SqT.of (s3 _ _ (hs2 _ _ et))) rfl ?_
          walk_at "g"
          refine ⟨rfl, ?_⟩
          walk_at "g"
          refine ⟨a, rfl, hpa, M.paper_prime hp hpa hda hpn, Nat.lt_of_le_of_lt had (by omega), fun s H4 pa s4 => ?_⟩
          walk_at "g"
          refine mkT (by simp) fun t2 H5 nt2 et2 s5 => ?_
          have s35 := s4.trans s5
          refine ⟨ys, s35 _ _ hD3', small1000 (by omega), same_upd' (s3.trans s35) hD2', ys ++ [.ref t2], upd_same, ?_⟩
          rw [take_more hab]
          have fr : ∀ {r : List V} {b : Addr}, H5 b = some (.tup r) → upd H5 D2 (.lst (ys ++ [.ref t2])) b = some (.tup r) := fun {r b} e => by
            rw [upd_ne (fun z => by rw [z, s35 _ _ hD3'] at e; cases e)]; exact e
          refine paired_snoc (paired_mono (fun x r ⟨a', s', e', h1, h2⟩ => ⟨a', s', e', fr (s35 _ _ h1), PaperAt.upd (s35 _ _ hD3') (h2.same s35)⟩) pr) ⟨t2, s, rfl, fr et2, PaperAt.upd (s35 _ _ hD3') (pa.same s5)⟩
        · rintro H3 ⟨s3, ys, hD3', pr⟩
          rw [hxl, List.take_length] at pr
          have hyl : ys.length = l.length := pr.length
          walk_at "g"
          refine s_tupL (SqL.of hD3') fun u nu => ?_
          have S4 : Same H3 (upd H3 u (.tup ys)) := same_upd nu
          have e4 : upd H3 u (.tup ys) u = some (.tup ys) := upd_same
          generalize upd H3 u (.tup ys) = H4 at S4 e4 ⊢
          walk_at "g"
          refine mkT (by simp) fun t H5 nt et s5 => ?_
          refine k t H5 ⟨f, u, ys, l, et, s5 _ _ e4, hp, ⟨f0, by omega, of, hno⟩, hl, paired_mono (fun x r ⟨a', s', e', h1, h2⟩ => ⟨a', s', e', s5 _ _ (S4 _ _ h1), (h2.same S4).same s5⟩) pr⟩ (s1.trans (hs2.trans (s3.trans (S4.trans s5))))
theorem paperN (T : Txt K mg) : ∀ n : Nat, FnOk P w K mg base CX0 (n + 2) (He.ga K "_law_paper") (fd__law_paper T) ["_law_p"] (sp__law_paper n)
  | 0 => ⟨fun vs H Q E ⟨p, e, hp, h, _⟩ => by have := hp.1; rw [Nat.pow_zero] at h; omega, fun _ _ _ _ _ _ vs _ _ _ _ _ _ ⟨p, e, hp, h, _⟩ => by have := hp.1; rw [Nat.pow_zero] at h; omega⟩
  | n + 1 => ok_paperS T (paperN T n)
theorem ok__law_paper (T : Txt K mg) : FnOk P w K mg base CX0 40 (He.ga K "_law_paper") (fd__law_paper T) ["_law_p"] (sp__law_paper 38) := paperN T 38

/-- a parting paper at u: for each prime its paper's place, the prime, how often -/
def PartsAt (m : Nat) (H : Hp) (u : Addr) (pl : List (Addr × Nat × Nat)) : Prop := ∃ xs, H u = some (.tup xs) ∧ Paired (fun x r => ∃ t, x = V.ref t ∧ H t = some (.tup [.ref r.1, .int (r.2.2 : Nat)]) ∧ PaperAt m H r.1 r.2.1) xs pl
def facs (pl : List (Addr × Nat × Nat)) : List (Nat × Nat) := pl.map fun r => r.2
theorem facs_len (pl : List (Addr × Nat × Nat)) : (facs pl).length = pl.length := List.length_map ..
theorem facs_get {pl : List (Addr × Nat × Nat)} {i : Nat} {s : Addr} {q b : Nat} (h : pl[i]? = some (s, q, b)) : (facs pl)[i]? = some (q, b) := by
  unfold facs; rw [List.getElem?_map, h]; rfl
theorem PartsAt.same {m : Nat} {H H' : Hp} {u : Addr} {pl : List (Addr × Nat × Nat)} (h : PartsAt m H u pl) (s : Same H H') : PartsAt m H' u pl := by
  obtain ⟨xs, e, pr⟩ := h
  exact ⟨xs, s _ _ e, paired_mono (fun _ _ ⟨t, e, h1, h2⟩ => ⟨t, e, s _ _ h1, h2.same s⟩) pr⟩
theorem pap_choose {n : Nat} {H : Hp} : ∀ {xs : List V} {l : List (Nat × Nat)}, Paired (fun x r => ∃ a s, x = V.ref a ∧ H a = some (.tup [.ref s, .int (r.2 : Nat)]) ∧ PaperAt n H s r.1) xs l →
    ∃ pl : List (Addr × Nat × Nat), facs pl = l ∧ Paired (fun x r => ∃ t, x = V.ref t ∧ H t = some (.tup [.ref r.1, .int (r.2.2 : Nat)]) ∧ PaperAt n H r.1 r.2.1) xs pl
  | _, _, .nil => ⟨[], rfl, .nil⟩
  | _, y :: _, .cons ⟨a, s, e, h1, h2⟩ r => by
    obtain ⟨pl, e2, pr⟩ := pap_choose r
    exact ⟨(s, y) :: pl, by unfold facs at e2 ⊢; rw [List.map_cons, e2], .cons ⟨a, e, h1, h2⟩ pr⟩
/-- a paper, opened -/
structure Pap (n : Nat) (H : Hp) (t : Addr) (p f : Nat) (u : Addr) (pl : List (Addr × Nat × Nat)) : Prop where
  at_ : H t = some (.tup [.int (p : Nat), .int (f : Nat), .ref u])
  hp : M.Prime p
  hf : M.LeastFull p f
  hl : M.IsFac (p - 1) (facs pl)
  ps : PartsAt n H u pl
theorem Pap.same {n : Nat} {H H' : Hp} {t : Addr} {p f : Nat} {u : Addr} {pl : List (Addr × Nat × Nat)} (h : Pap n H t p f u pl) (s : Same H H') : Pap n H' t p f u pl := ⟨s _ _ h.at_, h.hp, h.hf, h.hl, h.ps.same s⟩
theorem PaperAt.pap {n : Nat} {H : Hp} {t : Addr} {p : Nat} (h : PaperAt (n + 1) H t p) : ∃ f u pl, Pap n H t p f u pl := by
  obtain ⟨f, u, xs, l, e1, e2, hp, hf, hl, pr⟩ := h
  obtain ⟨pl, e3, pr'⟩ := pap_choose pr
  exact ⟨f, u, pl, e1, hp, hf, by rw [e3]; exact hl, xs, e2, pr'⟩
theorem Pap.paper {n : Nat} {H : Hp} {t : Addr} {p f : Nat} {u : Addr} {pl : List (Addr × Nat × Nat)} (h : Pap n H t p f u pl) : PaperAt (n + 1) H t p := by
  obtain ⟨xs, e2, pr⟩ := h.ps
  refine ⟨f, u, xs, facs pl, h.at_, e2, h.hp, h.hf, h.hl, ?_⟩
  have key : ∀ {xs : List V} {pl : List (Addr × Nat × Nat)}, Paired (fun x r => ∃ t, x = V.ref t ∧ H t = some (.tup [.ref r.1, .int (r.2.2 : Nat)]) ∧ PaperAt n H r.1 r.2.1) xs pl → Paired (fun x r => ∃ a s, x = V.ref a ∧ H a = some (.tup [.ref s, .int (r.2 : Nat)]) ∧ PaperAt n H s r.1) xs (facs pl) := by
    intro xs pl pr
    induction pr with
    | nil => exact .nil
    | cons f _ ih =>
      obtain ⟨t, e, h1, h2⟩ := f
      exact .cons ⟨t, _, e, h1, h2⟩ ih
  exact key pr
theorem paired_mem {α β : Type} {F : α → β → Prop} {xs : List α} {ys : List β} {y : β} (h : Paired F xs ys) (hy : y ∈ ys) : ∃ x, x ∈ xs ∧ F x y := by
  induction h with
  | nil => simp at hy
  | cons f _ ih =>
    rcases List.mem_cons.mp hy with z | z
    · subst z; exact ⟨_, by simp, f⟩
    · obtain ⟨x, h1, h2⟩ := ih z
      exact ⟨x, by simp [h1], h2⟩
theorem PartsAt.mem {m : Nat} {H : Hp} {u : Addr} {pl : List (Addr × Nat × Nat)} (h : PartsAt m H u pl) {r : Addr × Nat × Nat} (hr : r ∈ pl) : PaperAt m H r.1 r.2.1 := by
  obtain ⟨xs, e, pr⟩ := h
  obtain ⟨x, _, t, _, _, h2⟩ := paired_mem pr hr
  exact h2
/-- the first part of a paper is its prime -/
theorem PaperAt.first {n : Nat} {H : Hp} {t : Addr} {p : Nat} (h : PaperAt n H t p) : ∃ f u, H t = some (.tup [.int (p : Nat), .int (f : Nat), .ref u]) := by
  obtain ⟨m, f, u, xs, l, _, e1, _⟩ := h.open_
  exact ⟨f, u, e1⟩
theorem facs_mem {pl : List (Addr × Nat × Nat)} {r : Addr × Nat × Nat} (h : r ∈ pl) : r.2 ∈ facs pl := List.mem_map.mpr ⟨r, h, rfl⟩
theorem pl_len {E : Nat} {pl : List (Addr × Nat × Nat)} (h : M.IsFac E (facs pl)) (h0 : 0 < E) (h1 : E < 2 ^ 200) : pl.length ≤ 200 := by
  obtain ⟨d, hd⟩ := M.Fac.of h h0
  have := fac_len hd h1
  rwa [facs_len] at this
/-- the rows of an order paper -/
def dv (o : Nat) (r : Addr × Nat × Nat) : Bool := o % r.2.1 == 0
def ordRows (n : Nat) (a : Int) (o : Nat) (pl : List (Addr × Nat × Nat)) : List (List V) := (pl.filter (dv o)).map fun r => [V.ref r.1, V.int (M.vq r.2.1 o : Nat), V.int (M.pw n a (o / r.2.1))]
/-- the order paper of a by n at t, by the primes pl -/
def OrdAt (H : Hp) (t : Addr) (n : Nat) (a : Int) (o : Nat) (pl : List (Addr × Nat × Nat)) : Prop := ∃ w ys, H t = some (.tup [.int (o : Nat), .ref w]) ∧ H w = some (.tup ys) ∧ TupsIn H ys (ordRows n a o pl)
theorem OrdAt.same {H H' : Hp} {t : Addr} {n : Nat} {a : Int} {o : Nat} {pl : List (Addr × Nat × Nat)} (h : OrdAt H t n a o pl) (s : Same H H') : OrdAt H' t n a o pl := by
  obtain ⟨w, ys, h1, h2, h3⟩ := h
  exact ⟨w, ys, s _ _ h1, s _ _ h2, h3.same s⟩
theorem PaperAt.pap' {n : Nat} {H : Hp} {t : Addr} {p : Nat} (h : PaperAt n H t p) : ∃ m f u pl, n = m + 1 ∧ Pap m H t p f u pl := by
  cases n with
  | zero => exact h.elim
  | succ m =>
    obtain ⟨f, u, pl, e⟩ := h.pap
    exact ⟨m, f, u, pl, rfl, e⟩
theorem ord_no_one {p : Nat} {a : Int} {o : Nat} {pl : List (Addr × Nat × Nat)} (hp2 : 2 ≤ p) (ho : M.Ord p a o) (hq : ∀ r ∈ pl, 2 ≤ r.2.1) : (1 : Int) ∉ ((pl.filter (dv o)).map fun r => M.pw p a (o / r.2.1)) := fun h => by
  obtain ⟨r, hr, e⟩ := List.mem_map.mp h
  obtain ⟨h1, h2⟩ := List.mem_filter.mp hr
  have hd : o % r.2.1 = 0 := by unfold dv at h2; exact beq_iff_eq.mp h2
  have hq2 := hq r h1
  have o0 := ho.pos
  have h3 : r.2.1 ≤ o := Nat.le_of_dvd o0 (Nat.dvd_of_mod_eq_zero hd)
  have h4 := ho.least _ (Nat.div_pos h3 (by omega)) ((M.pw_one_iff hp2).mp e)
  have h5 := Nat.div_lt_self o0 (show 1 < r.2.1 by omega)
  omega

/-- _law_is_prime(n): whether it is a prime -/
def sp__law_is_prime : Sp := fun vs H Q _ => ∃ n : Nat, vs = [.int n] ∧ n < 2 ^ 200 ∧ ∀ b : Bool, (b = true ↔ M.Prime n) → Q (.bl b) H
theorem ok__law_is_prime (T : Txt K mg) : FnOk P w K mg base CX0 1 (He.ga K "_law_is_prime") (fd__law_is_prime T) ["_law_n"] sp__law_is_prime := by
  refine (F__law_is_prime T).ok sc__law_is_prime (fun vs H Q E h => ?_) (fun cdv A outer s H vs Q E hr h => ⟨_, PSs.nox (pss_cons (ps_if (pt_cmpR op_eq (pe_op op_mod (pv 0) pe_int) pe_int (nomark _)) (pss_one (ps_ret (pe_cmpR op_eq (pv 0) pe_int (nomark _)))) pss_nil)
      (pss_cons (ps_set (i := 1) sc__law_is_prime.nd rfl (Or.inl rfl) pe_int)
      (pss_cons (ps_while PassesOwn.never (pt_cmpR op_le (pe_op op_mulW (pv 1) (pv 1)) (pv 0) (nomark _)) (pss_cons (ps_if (pt_cmpR op_eq (pe_op op_mod (pv 0) (pv 1)) pe_int (nomark _)) (pss_one (ps_ret pe_bl)) pss_nil)
      (pss_one (ps_set (i := 1) sc__law_is_prime.nd rfl (Or.inl rfl) (pe_op op_add (pv 1) pe_int)))))
      (pss_one (ps_ret (pe_cmpR op_gt (pv 0) pe_int (nomark _))))))), ?_⟩)
  · obtain ⟨n, rfl, _⟩ := h; rfl
  · obtain ⟨n, rfl, hn, k⟩ := h
    walk_at "g"
    refine s_ite (fun c => ?_) (fun c => ?_)
    · walk_at "g"
      refine k _ ?_
      rw [decide_eq_true_iff]
      constructor
      · intro e
        have : n = 2 := by omega
        rw [this]
        exact M.prime_of_no (by decide) fun d h1 h2 => by have := Nat.mul_le_mul h1 h1; omega
      · intro hp
        have h2 : 2 ∣ n := Nat.dvd_of_mod_eq_zero (by omega)
        rcases hp.2 2 h2 with z | z <;> omega
    · walk_at "g"
      refine s_while (fun σ H' => H' = H ∧ ∃ d : Nat, σ = [some (.int n), some (.int d)] ∧ 3 ≤ d ∧ d ≤ n + 3 ∧ d % 2 = 1 ∧ ∀ e, 2 ≤ e → e < d → e % 2 = 1 → ¬ e ∣ n) (fun σ _ => n + 3 - (iv σ 1).toNat) ⟨rfl, 3, rfl, by decide, by omega, by decide, fun e h1 h2 h3 => by omega⟩ ?_
      rintro σ H' ⟨rfl, d, rfl, d3, d9, d1, no⟩
      have hbig : d < 2 ^ 300 := by have : (2:Nat)^200 + 3 < 2^300 := by decide
                                    omega
      have odd : ∀ e, e ∣ n → e % 2 = 1 := fun e he => by
        rcases Nat.mod_two_eq_zero_or_one e with z | z
        · have := Nat.dvd_trans (Nat.dvd_of_mod_eq_zero z) he
          have := Nat.mod_eq_zero_of_dvd this
          omega
        · exact z
      walk_at "g"
      refine s_ite (fun c2 => ?_) (fun c2 => ?_)
      · have hdd : d * d ≤ n := by
          have : ((d * d : Nat) : Int) ≤ n := by push_cast; exact c2
          omega
        have hdn : d * 3 ≤ d * d := Nat.mul_le_mul_left d d3
        walk_at "g"
        refine s_i (by omega) ?_
        walk_at "g"
        refine s_ite (fun c3 => ?_) (fun c3 => ?_)
        · walk_at "g"
          refine k false ⟨fun z => (nomatch z), fun hp => ?_⟩
          have hd : d ∣ n := Int.natCast_dvd_natCast.mp (Int.dvd_of_emod_eq_zero c3)
          rcases hp.2 d hd with z | z <;> omega
        · walk_at "g"
          refine ⟨⟨rfl, d + 2, by push_cast; rfl, by omega, by omega, by omega, fun e h1 h2 h3 => ?_⟩, ?_⟩
          · by_cases z : e = d
            · rw [z]; exact fun hd => c3 (Int.emod_eq_zero_of_dvd (Int.natCast_dvd_natCast.mpr hd))
            · exact no e h1 (by omega) h3
          · show n + 3 - ((d : Int) + 2).toNat < n + 3 - (d : Int).toNat
            omega
      · walk_at "g"
        refine k _ ?_
        rw [decide_eq_true_iff]
        constructor
        · intro h1
          refine M.prime_of_no (by omega) fun e e1 e2 e3 => ?_
          have : e < d := by
            rcases Nat.lt_or_ge e d with z | z
            · exact z
            · have h5 := Nat.mul_le_mul z z
              have : ((d * d : Nat) : Int) ≤ n := by omega
              push_cast at this
              exact absurd this c2
          exact no e e1 this (odd e e3) e3
        · intro hp; have := hp.1; omega

theorem PaperAt.sameB : ∀ {n : Nat} {H H' : Hp} {t s : Addr} {p : Nat}, PaperAt n H t p → StAt H s → SameB s H H' → PaperAt n H' t p
  | 0, _, _, _, _, _, h, _, _ => h.elim
  | n + 1, H, H', t, s, p, ⟨f, u, xs, l, e1, e2, hp, hf, hl, pr⟩, st, sb => by
    have fr : ∀ {r : List V} {b : Addr}, H b = some (.tup r) → H' b = some (.tup r) := fun {r b} e => sb _ _ (fun z => by
      obtain ⟨_, _, e0, _⟩ := st
      rw [z, e0] at e; cases e) e
    exact ⟨f, u, xs, l, fr e1, fr e2, hp, hf, hl, paired_mono (fun _ _ ⟨a, b, e, h1, h2⟩ => ⟨a, b, e, fr h1, h2.sameB st sb⟩) pr⟩
theorem StAt.upd {H : Hp} {s l : Addr} {xs : List V} {o : HO} (h : StAt H s) (hl : H l = some (.lst xs)) : StAt (L2.upd H l o) s := by
  obtain ⟨a, b, e, k⟩ := h
  exact ⟨a, b, by rw [upd_ne (fun z => by rw [z, hl] at e; cases e)]; exact e, k⟩

/-- plain_parting(parts): a new list of (prime, many) -/
def sp_plain_parting : Sp := fun vs H Q _ => ∃ (u : Addr) (m : Nat) (pl : List (Addr × Nat × Nat)), vs = [.ref u] ∧ PartsAt m H u pl ∧ pl.length ≤ 900 ∧
  ∀ D H' ys, H D = none → Same H H' → H' D = some (.lst ys) → TupsIn H' ys ((facs pl).map fun x => [V.int (x.1 : Nat), V.int (x.2 : Nat)]) → Q (.ref D) H'
theorem ok_plain_parting (T : Txt K mg) : FnOk P w K mg base CX0 1 (He.ga K "plain_parting") (fd_plain_parting T) ["parts"] sp_plain_parting := by
  refine (F_plain_parting T).ok sc_plain_parting (fun vs H Q E h => ?_) (fun cdv A outer s H vs Q E hr h => ⟨_, PSs.nox (pss_one (ps_ret (pe_lc (own := [("paper", 1), ("many", 2)]) (tt := tYes) (g := gTup K 2 (gCons (gName 1) (gCons (gName 2) gNil))) rfl sc_plain_parting.nd (pi_tup (pv 0)) (blkOk_by (N := N_plain_parting) (sc := defScope s_plain_parting) (by decide +kernel)) (fun _ _ _ _ _ => (pg_tup rfl (pgs_cons (pg_name (i := 1) sc_plain_parting.nd rfl (Or.inl rfl)) (pgs_cons (pg_name (i := 2) sc_plain_parting.nd rfl (Or.inl rfl)) pgs_nil)))) (fun _ _ _ _ _ => pts_nil) (fun _ _ _ _ _ => (pe_tup (pa_cons (pe_ix (R.ix_seqK K rfl) (pv 1) pe_int (fun _ _ => rfl)) (pa_cons (pv 2) pa_nil))))))), ?_⟩)
  · obtain ⟨u, m, pl, rfl, _⟩ := h; rfl
  · obtain ⟨u, m, pl, rfl, ⟨xs, e2, pr⟩, hl, k⟩ := h
    walk_at "g"
    refine s_lc ?_
    walk_at "g"
    refine ⟨⟨_, SqT.of e2⟩, fun D hD => ?_⟩
    refine lc_tup (fun i H2 => Same H H2 ∧ ∃ ys, H2 D = some (.lst ys) ∧ TupsIn H2 ys ((facs (pl.take i)).map fun x => [V.int (x.1 : Nat), V.int (x.2 : Nat)])) ⟨same_upd hD, [], upd_same, .nil⟩ (fun i H2 _ I => SqT.of (I.1 _ _ e2)) ?_ ?_
    · rintro i x H2 hi ⟨s2, ys, hD2, ty⟩
      obtain ⟨⟨s, q, b⟩, hab, t, rfl, ex, hPs⟩ := pget pr hi
      obtain ⟨f', u', e1'⟩ := hPs.first
      have hyl : ys.length = (pl.take i).length := by rw [ty.length, List.length_map, facs_len]
      have htl : (pl.take i).length ≤ pl.length := by rw [List.length_take]; omega
      refine s_gtup (SqT.of (s2 _ _ ex)) rfl ?_
      walk_at "g"
      refine ⟨rfl, ?_⟩
      walk_at "g"
      refine s_ixT (SqT.of (s2 _ _ e1')) (atI0 0 rfl rfl) ?_
      walk_at "g"
      refine mkT (by simp) fun t2 H3 nt et s3 => ?_
      refine ⟨ys, s3 _ _ hD2, small1000 (by omega), same_upd' (s2.trans s3) hD, ys ++ [.ref t2], upd_same, ?_⟩
      rw [take_more hab]
      unfold facs at ty ⊢
      rw [List.map_append, List.map_append]
      exact TupsIn.app hD2 ty s3 nt et
    · rintro H2 ⟨s2, ys, hD2, ty⟩
      rw [pr.length, List.take_length] at ty
      exact k D H2 ys hD s2 hD2 ty

/-- taken_out(n, a, e, prime, many) -/
def sp_taken_out : Sp := fun vs H Q _ => ∃ (n q b v m : Nat) (a : Int), vs = [.int n, .int a, .int ((q ^ b * m : Nat) : Int), .int q, .int b] ∧ 2 ≤ n ∧ n < 2 ^ 800 ∧ 2 ≤ q ∧ 0 < m ∧ q < 2 ^ 900 ∧ v ≤ b ∧ (∀ k, M.is1 n a (q ^ k * m) ↔ v ≤ k) ∧
  ∀ t H', H t = none → Same H H' → H' t = some (.tup [.int ((q ^ v * m : Nat) : Int), .int v]) → Q (.ref t) H'
theorem ok_taken_out (T : Txt K mg) : FnOk P w K mg base CX0 8 (He.ga K "taken_out") (fd_taken_out T) ["n", "a", "e", "prime", "many"] sp_taken_out := by
  refine (F_taken_out T).ok sc_taken_out (fun vs H Q E h => ?_) (fun cdv A outer s H vs Q E hr h => ⟨_, PSs.nox (pss_cons (ps_while PassesOwn.never (PW.pt (pw_and (pt_cmpR op_gt (pv 4) pe_int (nomark _)) (pw_and1 (pt_cmpR op_eq (pe_call (ok_power T) (hr.mono (by decide)) rfl (g_power T) (kp_power T) (B_power T) .nil passL (pa_cons (pv 0) (pa_cons (pv 1) (pa_cons (pe_op op_fdivW (pv 2) (pv 3)) pa_nil)))) pe_int (nomark _))))) (pss_cons (ps_set (i := 2) sc_taken_out.nd rfl (Or.inl rfl) (pe_op op_fdivW (pv 2) (pv 3)))
      (pss_one (ps_set (i := 4) sc_taken_out.nd rfl (Or.inl rfl) (pe_op op_sub (pv 4) pe_int)))))
      (pss_one (ps_ret (pe_tup (pa_cons (pv 2) (pa_cons (pv 4) pa_nil)))))), ?_⟩)
  · obtain ⟨n, q, b, v, m, a, rfl, _⟩ := h; rfl
  · obtain ⟨n, q, b, v, m, a, rfl, n2, nb, q2, m0, qb, vb, hv, k⟩ := h
    walk_at "g"
    refine s_while (fun σ H' => H' = H ∧ ∃ j : Nat, σ = [some (.int n), some (.int a), some (.int ((q ^ j * m : Nat) : Int)), some (.int q), some (.int j)] ∧ v ≤ j) (fun σ _ => (iv σ 4).toNat) ⟨rfl, b, rfl, vb⟩ ?_
    rintro σ H' ⟨rfl, j, rfl, hj⟩
    walk_at "g"
    refine s_ite (fun c => ?_) (fun c => ?_)
    · obtain ⟨i, rfl⟩ : ∃ i, j = i + 1 := ⟨j - 1, by omega⟩
      have e1 : ((q ^ (i + 1) * m : Nat) : Int) / (q : Int) = ((q ^ i * m : Nat) : Int) := by
        rw [show q ^ (i + 1) * m = q * (q ^ i * m) by rw [Nat.pow_succ]; grind]
        push_cast
        exact Int.mul_ediv_cancel_left _ (by omega)
      have hw : M.pw n a (q ^ i * m) = 1 ↔ v ≤ i := (M.pw_one_iff n2).trans (hv i)
      walk_at "g"
      refine s_i (divW (by omega) (by omega)) ?_
      walk_at "g"
      refine pos_power (m := q ^ i * m) e1 (by omega) (by omega) ?_
      walk_at "g"
      refine s_ite (fun c2 => ?_) (fun c2 => ?_)
      · walk_at "g"
        refine s_i (divW (by omega) (by omega)) ?_
        walk_at "g"
        rw [e1]
        refine ⟨⟨rfl, i, by rw [show ((i + 1 : Nat) : Int) - 1 = (i : Int) by omega]; rfl, hw.mp c2⟩, ?_⟩
        show (((i + 1 : Nat) : Int) - 1).toNat < ((i + 1 : Nat) : Int).toNat
        omega
      · have e : i + 1 = v := by
          have := fun z => c2 (hw.mpr z)
          omega
        walk_at "g"
        refine mkT (by simp) fun t H2 nt et s2 => ?_
        walk_at "g"
        rw [e] at et
        exact k t H2 nt s2 et
    · have e : j = v := by omega
      walk_at "g"
      refine mkT (by simp) fun t H2 nt et s2 => ?_
      walk_at "g"
      rw [e] at et
      exact k t H2 nt s2 et

/-- order_from(n, a, parts): the order paper, or NoOrder -/
def sp_order_from (K : PySem.W.Frag) : Sp := fun vs H Q E => ∃ (n m F : Nat) (a : Int) (u : Addr) (pl : List (Addr × Nat × Nat)), vs = [.int n, .int a, .ref u] ∧ 2 ≤ n ∧ n < 2 ^ 800 ∧ PartsAt m H u pl ∧ M.IsFac F (facs pl) ∧ 0 < F ∧ F < 2 ^ 200 ∧
  (¬ M.is1 n a F → ∀ H', Same H H' → E (.ref (He.ga K "NoOrder")) none H') ∧
  (∀ o, M.Ord n a o → o ∣ F → ∀ t H', OrdAt H' t n a o pl → Same H H' → Q (.ref t) H')
theorem ok_order_from (T : Txt K mg) : FnOk P w K mg base (L2.CX P w) 9 (He.ga K "order_from") (fd_order_from T) ["n", "a", "parts"] (sp_order_from K) := by
  refine (F_order_from T).ok sc_order_from (fun vs H Q E h => ?_) (fun cdv A outer s H vs Q E hr h => ⟨_, (pss_cons (ps_set (i := 3) sc_order_from.nd rfl (Or.inr rfl) (pe_call (ok_whole_of T) (hr.mono (by decide)) rfl (g_whole_of T) (kp_whole_of T) (B_whole_of T) .nil pass0 (pa_cons (pe_call (ok_plain_parting T) (hr.mono (by decide)) rfl (g_plain_parting T) (kp_plain_parting T) (B_plain_parting T) .nil pass0 (pa_cons (pv 2) pa_nil)) pa_nil)))
      (pss_cons (ps_if (pt_cmpR op_ne (pe_call (ok_power T) (hr.mono (by decide)) rfl (g_power T) (kp_power T) (B_power T) .nil (passes_call (takes_of rfl rfl rfl rfl) (fun _ _ _ _ h => h)) (pa_cons (pv 0) (pa_cons (pv 1) (pa_cons (pv 3) pa_nil)))) pe_int (nomark _)) (pss_one (ps_raise rfl (takes_of rfl rfl rfl rfl) (pmk_z (z_NoOrder T) (g_NoOrder T) rfl))) pss_nil)
      (pss_cons (ps_set (i := 4) sc_order_from.nd rfl (Or.inl rfl) (pe_lst pa_nil))
      (pss_cons (ps_for (passes_of rfl) rfl (pi_tup (pv 2)) (pg_tup rfl (pgs_cons (pg_name (i := 5) sc_order_from.nd rfl (Or.inl rfl)) (pgs_cons (pg_name (i := 6) sc_order_from.nd rfl (Or.inl rfl)) pgs_nil))) (pss_cons (ps_asg (pe_call (ok_taken_out T) (hr.mono (by decide)) rfl (g_taken_out T) (kp_taken_out T) (B_taken_out T) .nil pass0 (pa_cons (pv 0) (pa_cons (pv 1) (pa_cons (pv 3) (pa_cons (pe_ix ix_seq (pv 5) pe_int (fun _ _ => rfl)) (pa_cons (pv 6) pa_nil)))))) (pg_tup rfl (pgs_cons (pg_name (i := 3) sc_order_from.nd rfl (Or.inr rfl)) (pgs_cons (pg_name (i := 7) sc_order_from.nd rfl (Or.inl rfl)) pgs_nil))))
      (pss_one (ps_if (pt_cmpR op_gt (pv 7) pe_int (nomark _)) (pss_one (ps_expr (pe_bm PySem.F.plainAttrs_list PySem.F.slot_list_append PySem.F.type_list_append mt_append (pv 4) (pa_cons (pe_tup (pa_cons (pv 5) (pa_cons (pv 7) pa_nil))) pa_nil)))) pss_nil))))
      (pss_one (ps_ret (pe_tup (pa_cons (pv 3) (pa_cons (pe_callTy callTup rfl (T.fr (T.c.fact 39 rfl)) boot_tuple (pa_cons (pe_lc (own := [("paper", 5), ("left", 7)]) (tt := tYes) (g := gTup K 2 (gCons (gName 5) (gCons (gName 7) gNil))) rfl sc_order_from.nd (pi_list (pv 4)) (blkOk_by (N := N_order_from) (sc := defScope s_order_from) (by decide +kernel)) (fun _ _ _ _ _ => (pg_tup rfl (pgs_cons (pg_name (i := 5) sc_order_from.nd rfl (Or.inl rfl)) (pgs_cons (pg_name (i := 7) sc_order_from.nd rfl (Or.inl rfl)) pgs_nil)))) (fun _ _ _ _ _ => pts_nil) (fun _ _ _ _ _ => (pe_tup (pa_cons (pv 5) (pa_cons (pv 7) (pa_cons (pe_call (ok_power T) (hr.mono (by decide)) rfl (g_power T) (kp_power T) (B_power T) .nil passL (pa_cons (pv 0) (pa_cons (pv 1) (pa_cons (pe_op op_fdivW (pv 3) (pe_ix (R.ix_seqK K rfl) (pv 5) pe_int (fun _ _ => rfl))) pa_nil)))) pa_nil)))))) pa_nil)) pa_nil))))))))), ?_⟩)
  · obtain ⟨n, m, F, a, u, pl, rfl, _⟩ := h; rfl
  · obtain ⟨n, m, F, a, u, pl, rfl, n2, nb, hP, hF, F0, Fb, k1, k2⟩ := h
    have hpl := pl_len hF F0 Fb
    have hpr : ∀ r ∈ pl, M.Prime r.2.1 := fun r hr => (hF.primes _ (facs_mem hr)).1
    walk_at "g"
    refine ⟨u, m, pl, rfl, hP, by omega, fun D H1 ys nD s1 hD tD => ?_⟩
    walk_at "g"
    refine ⟨D, ys, facs pl, rfl, hD, tD, fun x hx => ⟨(hF.primes x hx).1.pos, fac_many hF F0 hx Fb⟩, by rw [hF.prod]; omega, ?_⟩
    rw [hF.prod]
    walk_at "g"
    refine pos_power (m := F) rfl (by omega) (by omega) ?_
    walk_at "g"
    have hw := M.pw_one_iff n2 (a := a) (e := F)
    refine s_iten (fun c => ?_) (fun c => ?_)
    · walk_at "g"
      exact k1 (fun z => c (hw.mpr z)) H1 s1
    have h1 := hw.mp c
    obtain ⟨o, ho⟩ := M.ex_ordN h1 F0
    have hoF := ho.dvdN h1
    have o0 := ho.pos
    have hoF' := Nat.le_of_dvd F0 hoF
    walk_at "g"
    refine mkL (by simp) fun kl H2 nk ek s2 => ?_
    have S2 := s1.trans s2
    walk_at "g"
    obtain ⟨xs, e2, pr⟩ := hP.same s1
    refine ⟨⟨_, SqT.of (s2 _ _ e2)⟩, ?_⟩
    refine for_tup (fun i σ H' => Same H1 H' ∧ ∃ (e : Nat) (v1 v2 v3 : Option V) (ks : List V), σ = [some (.int n), some (.int a), some (.ref u), some (.int e), some (.ref kl), v1, v2, v3] ∧ H' kl = some (.lst ks) ∧
        TupsIn H' ks (((pl.take i).filter (dv o)).map fun r => [V.ref r.1, V.int (M.vq r.2.1 o : Nat)]) ∧ M.OF o F (facs pl) i e)
      ⟨s2, F, none, none, none, [], rfl, ek, .nil, M.of_start hF hoF⟩ (fun i σ H' _ I => SqT.of (I.1 _ _ e2)) ?_ ?_
    · rintro i x σ H' hi ⟨s3, e, v1, v2, v3, ks, rfl, hk, tk, of⟩
      obtain ⟨⟨s, q, b⟩, hab, t, rfl, ex, hPs⟩ := pget pr hi
      obtain ⟨f', u', e1'⟩ := hPs.first
      have hq : M.Prime q := hpr _ (List.mem_of_getElem? hab)
      have hq2 := hq.1
      have heF := Nat.le_of_dvd F0 (M.of_le hF F0 hoF o0 of)
      have hqF := Nat.le_of_dvd F0 (M.fac_dvd hF (facs_mem (List.mem_of_getElem? hab)))
      have hqF' : q ≤ F := hqF
      obtain ⟨mm, em, hqm, m0, vb, hv, of2⟩ := M.of_step hF o0 of (facs_get hab)
      have hkl : ks.length ≤ 200 := by
        rw [tk.length, List.length_map]
        refine Nat.le_trans (List.length_filter_le _ _) ?_
        rw [List.length_take]; omega
      subst em
      refine s_gtup (SqT.of (s3 _ _ ex)) rfl ?_
      walk_at "g"
      refine s_ixT (SqT.of (s3 _ _ e1')) (atI0 0 rfl rfl) ?_
      walk_at "g"
      refine ⟨n, q, b, M.vq q o, mm, a, rfl, n2, nb, hq2, m0, by omega, vb, fun k => ho.iffN.trans (hv k), fun t2 H3 nt s4 et => ?_⟩
      walk_at "g"
      refine s_gtup (SqT.of et) rfl ?_
      walk_at "g"
      have hd : dv o (s, q, b) = true ↔ 0 < M.vq q o := by
        rw [M.vq_pos_iff hq2 o0]
        unfold dv
        exact beq_iff_eq
      refine s_ite (fun c => ?_) (fun c => ?_)
      · walk_at "g"
        refine ⟨s_tyL (s4 _ _ hk), ?_⟩
        walk_at "g"
        refine mkT (by simp) fun t3 H4 nt3 et3 s5 => ?_
        walk_at "g"
        refine s_append (s5 _ _ (s4 _ _ hk)) (small1000 (by omega)) ?_
        walk_at "g"
        refine ⟨same_upd' (s3.trans (s4.trans s5)) nk, _, _, _, _, _, rfl, upd_same, ?_, of2⟩
        rw [filter_take (dv o) hab, if_pos (hd.mpr (by omega)), List.map_append]
        exact TupsIn.app (s4 _ _ hk) (tk.same s4) s5 nt3 et3
      · walk_at "g"
        refine ⟨s3.trans s4, _, _, _, _, _, rfl, s4 _ _ hk, ?_, of2⟩
        rw [filter_take (dv o) hab, if_neg (fun z => by have := hd.mp z; omega), List.append_nil]
        exact tk.same s4
    · rintro σ H' ⟨s3, e, v1, v2, v3, ks, rfl, hk, tk, of⟩
      rw [pr.length, List.take_length] at tk
      rw [pr.length, ← facs_len] at of
      have eo := M.of_end hF o0 of
      subst eo
      have hkl : ks.length ≤ 200 := by
        rw [tk.length, List.length_map]
        exact Nat.le_trans (List.length_filter_le _ _) hpl
      have hPs := (hP.same s1).same s3
      walk_at "g"
      refine s_lc ?_
      walk_at "g"
      refine ⟨⟨_, SqL.of hk⟩, fun D2 hD2 => ?_⟩
      refine lc_list (fun i H2 => Same H' H2 ∧ ∃ ys, H2 D2 = some (.lst ys) ∧ TupsIn H2 ys ((ordRows n a e pl).take i)) ⟨same_upd hD2, [], upd_same, .nil⟩ (fun i H2 _ I => SqL.of (I.1 _ _ hk)) ?_ ?_
      · rintro i x H2 hi ⟨s4, ys, hys, ty⟩
        obtain ⟨y, hy, t, rfl, et⟩ := pget tk hi
        rw [List.getElem?_map] at hy
        obtain ⟨⟨s, q, b⟩, hab, rfl⟩ := Option.map_eq_some_iff.mp hy
        have hmem := List.mem_of_getElem? hab
        have hmp := (List.mem_filter.mp hmem).1
        have hPa := hPs.mem hmp
        obtain ⟨f', u', e1'⟩ := hPa.first
        have hq2 := (hpr _ hmp).1
        have hq2' : 2 ≤ q := hq2
        have hqF := Nat.le_of_dvd F0 (M.fac_dvd hF (facs_mem hmp))
        have hqF' : q ≤ F := hqF
        have hyl : ys.length ≤ 200 := by
          rw [ty.length, List.length_take]
          unfold ordRows
          rw [List.length_map]
          have := List.length_filter_le (dv e) pl
          omega
        refine s_gtup (SqT.of (s4 _ _ et)) rfl ?_
        walk_at "g"
        refine ⟨rfl, ?_⟩
        walk_at "g"
        refine s_ixT (SqT.of (s4 _ _ e1')) (atI0 0 rfl rfl) ?_
        walk_at "g"
        refine s_i (divW (by omega) (by omega)) ?_
        walk_at "g"
        refine pos_power (m := e / q) (Int.natCast_ediv _ _).symm (by omega) (by omega) ?_
        walk_at "g"
        refine mkT (by simp) fun t3 H4 nt3 et3 s5 => ?_
        have hrow : (ordRows n a e pl)[i]? = some [V.ref s, V.int (M.vq q e : Nat), V.int (M.pw n a (e / q))] := by
          unfold ordRows
          rw [List.getElem?_map, hab]; rfl
        refine ⟨ys, s5 _ _ hys, small1000 (by omega), same_upd' (s4.trans s5) hD2, ys ++ [.ref t3], upd_same, ?_⟩
        rw [take_more hrow]
        exact TupsIn.app hys ty s5 nt3 et3
      · rintro H2 ⟨s4, ys, hys, ty⟩
        have hl2 : ks.length = (ordRows n a e pl).length := by rw [tk.length]; unfold ordRows; rw [List.length_map, List.length_map]
        rw [hl2, List.take_length] at ty
        have hyl : ys.length ≤ 200 := by rw [ty.length, ← hl2]; exact hkl
        walk_at "g"
        refine s_tupL (SqL.of hys) fun w nw => ?_
        have S4 : Same H2 (upd H2 w (.tup ys)) := same_upd nw
        have e4 : upd H2 w (.tup ys) w = some (.tup ys) := upd_same
        generalize upd H2 w (.tup ys) = H4 at S4 e4 ⊢
        walk_at "g"
        refine mkT (by simp) fun t3 H5 nt et s5 => ?_
        walk_at "g"
        exact k2 e ho hoF t3 H5 ⟨w, ys, et, s5 _ _ e4, (ty.same S4).same s5⟩ (s1.trans (s3.trans (s4.trans (S4.trans s5))))

/-- order(paper, a): the order paper, or Nought -/
def sp_order (K : PySem.W.Frag) : Sp := fun vs H Q E => ∃ (m p f : Nat) (a : Int) (t u : Addr) (pl : List (Addr × Nat × Nat)), vs = [.ref t, .int a] ∧ Pap m H t p f u pl ∧ p < 2 ^ 100 ∧
  (a % (p : Int) = 0 → ∀ H', Same H H' → E (.ref (He.ga K "Nought")) none H') ∧
  (∀ o, M.Ord p a o → o ∣ p - 1 → ∀ t' H', OrdAt H' t' p a o pl → Same H H' → Q (.ref t') H')
theorem ok_order (T : Txt K mg) : FnOk P w K mg base (L2.CX P w) 10 (He.ga K "order") (fd_order T) ["paper", "a"] (sp_order K) := by
  refine (F_order T).ok sc_order (fun vs H Q E h => ?_) (fun cdv A outer s H vs Q E hr h => ⟨_, (pss_cons (ps_asg (pv 0) (pg_tup rfl (pgs_cons (pg_name (i := 2) sc_order.nd rfl (Or.inl rfl)) (pgs_cons (pg_name (i := 3) sc_order.nd rfl (Or.inl rfl)) (pgs_cons (pg_name (i := 4) sc_order.nd rfl (Or.inl rfl)) pgs_nil)))))
      (pss_cons (ps_if (pt_cmpR op_eq (pe_op op_mod (pv 1) (pv 2)) pe_int (nomark _)) (pss_one (ps_raise rfl (takes_of rfl rfl rfl rfl) (pmk_z (z_Nought T) (g_Nought T) rfl))) pss_nil)
      (pss_one (ps_ret (pe_call (ok_order_from T) (hr.mono (by decide)) rfl (g_order_from T) (kp_order_from T) (B_order_from T) .nil (passes_call (takes_of rfl rfl rfl rfl) (fun _ _ _ _ h => h)) (pa_cons (pv 2) (pa_cons (pv 1) (pa_cons (pv 4) pa_nil)))))))), ?_⟩)
  · obtain ⟨m, p, f, a, t, u, pl, rfl, _⟩ := h; rfl
  · obtain ⟨m, p, f, a, t, u, pl, rfl, hP, hpb, k1, k2⟩ := h
    have hp2 := hP.hp.1
    walk_at "g"
    refine s_gtup (SqT.of hP.at_) rfl ?_
    walk_at "g"
    refine s_i (by omega) ?_
    walk_at "g"
    refine s_ite (fun c => ?_) (fun c => ?_)
    · walk_at "g"
      exact k1 c H (Same.refl _)
    · walk_at "g"
      refine ⟨p, m, p - 1, a, u, pl, rfl, hp2, by omega, hP.ps, hP.hl, by omega, by omega, fun z => absurd (M.fermat hP.hp (M.un_iff.mpr c)) z, fun o ho hd t' H' h1 h2 => ?_⟩
      exact k2 o ho hd t' H' h1 h2
/-- the order alone, of what the prime doesn't divide -/
theorem pos_order {H : Hp} {Q : VK} {E : XK} {m p f : Nat} {a : Int} {t u : Addr} {pl : List (Addr × Nat × Nat)} {o : Nat} (hP : Pap m H t p f u pl) (hp : p < 2 ^ 100) (ho : M.Ord p a o)
    (k : o ∣ p - 1 → ∀ t' H' w, H' t' = some (.tup [.int (o : Nat), .ref w]) → Same H H' → Q (.ref t') H') : sp_order K [.ref t, .int a] H Q E :=
  ⟨m, p, f, a, t, u, pl, rfl, hP, hp, fun z => absurd z (M.un_iff.mp (ho.unit hP.hp)), fun o' ho' hd t' H' hO s => by
    have e := ho.uniqueN ho'
    subst e
    obtain ⟨w, ys, h1, _⟩ := hO
    exact k hd t' H' w h1 s⟩

/-- numbers as values -/
def nv (l : List Nat) : List V := (l.map fun d : Nat => (d : Int)).map V.int
theorem ints_back {L : List Nat} {ns : List Int} (pm : ns.Perm (L.map fun d : Nat => (d : Int))) (srt : ns.Pairwise (· ≤ ·)) (nd : L.Pairwise (· ≠ ·)) : ∃ ds : List Nat, ns = ds.map (fun d : Nat => (d : Int)) ∧ ds.Perm L ∧ ds.Pairwise (· < ·) := by
  have h1 : ns = (ns.map Int.toNat).map (fun d : Nat => (d : Int)) := by
    rw [List.map_map]
    refine ((List.map_congr_left fun z hz => ?_).trans (List.map_id _)).symm
    obtain ⟨d, _, rfl⟩ := List.mem_map.mp (pm.mem_iff.mp hz)
    rfl
  have h2 : (ns.map Int.toNat).Perm L := by
    have h := pm.map Int.toNat
    rw [List.map_map] at h
    have e : L.map (Int.toNat ∘ fun d : Nat => (d : Int)) = L := (List.map_congr_left fun z _ => rfl).trans (List.map_id _)
    rw [e] at h
    exact h
  refine ⟨_, h1, h2, ?_⟩
  have h3 : (ns.map Int.toNat).Nodup := h2.nodup_iff.mpr nd
  rw [h1, List.pairwise_map] at srt
  exact (srt.and h3).imp fun z => by have := z.1; have := z.2; omega
theorem nv_app (l m : List Nat) : nv (l ++ m) = nv l ++ nv m := by simp [nv]
theorem nv_len (l : List Nat) : (nv l).length = l.length := by simp [nv]
theorem nv_get {l : List Nat} {i : Nat} {x : V} (h : (nv l)[i]? = some x) : ∃ d, l[i]? = some d ∧ x = .int (d : Nat) := by
  unfold nv at h
  rw [List.getElem?_map, List.getElem?_map] at h
  obtain ⟨z, h1, rfl⟩ := Option.map_eq_some_iff.mp h
  obtain ⟨d, h2, rfl⟩ := Option.map_eq_some_iff.mp h1
  exact ⟨d, h2, rfl⟩
theorem line2 {n : Nat} (h : n ≤ 2000000) : n < sizeLine := by rw [sizeLine_eq]; omega

/-- numbers, each with how often, as the entries of a dict -/
def pKv (L : List (Nat × Nat)) : List (Key × V) := L.map fun x => ((.inl (x.1 : Int) : Key), V.int (x.2 : Nat))
def cur : List (Nat × Nat) → Nat → Nat
  | [], _ => 0
  | x :: L, q => if x.1 = q then x.2 else cur L q
theorem key_ne {a b : Nat} (h : a ≠ b) : ¬ ((Sum.inl (a : Int) : Key) = Sum.inl (b : Int)) := fun z => h (by
  have := Sum.inl.inj z
  omega)
theorem pk_get (q : Nat) : ∀ L : List (Nat × Nat), (valV (pKv L) (.inl (q : Int))).getD (.int 0) = V.int (cur L q : Nat)
  | [] => rfl
  | x :: L => by
    have ih := pk_get q L
    unfold pKv valV at ih ⊢
    rw [List.map_cons, List.find?_cons]
    unfold cur
    by_cases c : x.1 = q
    · rw [if_pos c]
      simp [c]
    · rw [if_neg c]
      have h1 : decide ((Sum.inl (x.1 : Int) : Key) = Sum.inl (q : Int)) = false := decide_eq_false (key_ne c)
      simp only [h1]
      exact ih
theorem pk_val {L : List (Nat × Nat)} {q b : Nat} (nd : (L.map (·.1)).Nodup) (h : (q, b) ∈ L) : valV (pKv L) (.inl (q : Int)) = some (.int (b : Nat)) ∧ cur L q = b := by
  induction L with
  | nil => cases h
  | cons x L ih =>
    have nd' := List.nodup_cons.mp (by rw [List.map_cons] at nd; exact nd)
    unfold pKv valV cur
    rw [List.map_cons, List.find?_cons]
    rcases List.mem_cons.mp h with e | e
    · subst e
      simp
    · have hne : x.1 ≠ q := fun z => nd'.1 (List.mem_map.mpr ⟨_, e, z.symm⟩)
      have h1 : decide ((Sum.inl (x.1 : Int) : Key) = Sum.inl (q : Int)) = false := decide_eq_false (key_ne hne)
      simp only [h1]
      rw [if_neg hne]
      exact ih nd'.2 e
theorem cur_none {L : List (Nat × Nat)} {q : Nat} (h : q ∉ L.map (·.1)) : cur L q = 0 := by
  induction L with
  | nil => rfl
  | cons x L ih =>
    rw [List.map_cons, List.mem_cons] at h
    unfold cur
    rw [if_neg fun z => h (.inl z.symm)]
    exact ih fun z => h (.inr z)
theorem pk_none {L : List (Nat × Nat)} {q : Nat} (h : q ∉ L.map (·.1)) : valV (pKv L) (.inl (q : Int)) = none := by
  unfold valV pKv
  rw [Option.map_eq_none_iff, List.find?_eq_none]
  intro kv hkv
  obtain ⟨x, hx, rfl⟩ := List.mem_map.mp hkv
  intro e
  have e1 : (Sum.inl (x.1 : Int) : Key) = Sum.inl (q : Int) := of_decide_eq_true e
  have e2 := Sum.inl.inj e1
  exact h (List.mem_map.mpr ⟨x, hx, by omega⟩)
/-- the list behind a put -/
def pkPut (L : List (Nat × Nat)) (q m : Nat) : List (Nat × Nat) := if q ∈ L.map (·.1) then L.map fun x => if x.1 = q then (q, m) else x else L ++ [(q, m)]
theorem pk_put {L : List (Nat × Nat)} (q m : Nat) : putK (pKv L) (.inl (q : Int)) (.int (m : Nat)) = pKv (pkPut L q m) := by
  unfold pkPut
  by_cases c : q ∈ L.map (·.1)
  · rw [if_pos c]
    obtain ⟨y, hy, rfl⟩ := List.mem_map.mp c
    unfold putK
    rw [if_pos (by
      rw [List.any_eq_true]
      exact ⟨_, List.mem_map.mpr ⟨y, hy, rfl⟩, by simp⟩)]
    unfold pKv
    rw [List.map_map, List.map_map]
    refine List.map_congr_left fun k hk => ?_
    by_cases d : k.1 = y.1
    · simp [d]
    · simp only [Function.comp, if_neg d, if_neg (key_ne d)]
  · rw [if_neg c, putK_new _ (pk_none c)]
    unfold pKv
    rw [List.map_append]; rfl
theorem pk_keys {L : List (Nat × Nat)} {q m : Nat} (c : q ∈ L.map (·.1)) : (L.map fun x => if x.1 = q then (q, m) else x).map (·.1) = L.map (·.1) := by
  rw [List.map_map]
  refine List.map_congr_left fun x _ => ?_
  show (if x.1 = q then (q, m) else x).1 = x.1
  split
  · rename_i h; exact h.symm
  · rfl
theorem pk_nd {L : List (Nat × Nat)} (q m : Nat) (nd : (L.map (·.1)).Nodup) : ((pkPut L q m).map (·.1)).Nodup := by
  unfold pkPut
  by_cases c : q ∈ L.map (·.1)
  · rw [if_pos c, pk_keys c]; exact nd
  · rw [if_neg c, List.map_append]
    exact List.nodup_append.mpr ⟨nd, List.pairwise_singleton _ _, fun a ha b hb => by rw [List.mem_singleton.mp hb]; exact fun z => c (by rw [← show a = q from z]; exact ha)⟩
theorem pk_mem {L : List (Nat × Nat)} {q m : Nat} {x : Nat × Nat} (h : x ∈ pkPut L q m) : x = (q, m) ∨ x ∈ L ∧ x.1 ≠ q := by
  unfold pkPut at h
  by_cases c : q ∈ L.map (·.1)
  · rw [if_pos c] at h
    obtain ⟨y, hy, rfl⟩ := List.mem_map.mp h
    by_cases d : y.1 = q
    · rw [if_pos d]; exact .inl rfl
    · rw [if_neg d]; exact .inr ⟨hy, d⟩
  · rw [if_neg c] at h
    rcases List.mem_append.mp h with z | z
    · exact .inr ⟨z, fun e => c (List.mem_map.mpr ⟨x, z, e⟩)⟩
    · exact .inl (List.mem_singleton.mp z)
theorem pk_has {L : List (Nat × Nat)} (q m : Nat) : (q, m) ∈ pkPut L q m := by
  unfold pkPut
  by_cases c : q ∈ L.map (·.1)
  · rw [if_pos c]
    obtain ⟨y, hy, e⟩ := List.mem_map.mp c
    exact List.mem_map.mpr ⟨y, hy, by rw [if_pos e]⟩
  · rw [if_neg c]; simp
theorem pk_old {L : List (Nat × Nat)} {q m : Nat} {x : Nat × Nat} (h : x ∈ L) (hx : x.1 ≠ q) : x ∈ pkPut L q m := by
  unfold pkPut
  by_cases c : q ∈ L.map (·.1)
  · rw [if_pos c]
    exact List.mem_map.mpr ⟨x, h, by rw [if_neg hx]⟩
  · rw [if_neg c]; simp [h]
theorem pk_len {L : List (Nat × Nat)} (q m : Nat) : (pkPut L q m).length ≤ L.length + 1 := by
  unfold pkPut
  split
  · rw [List.length_map]; omega
  · rw [List.length_append]; simp
theorem pk_prod {L : List (Nat × Nat)} {q t : Nat} (nd : (L.map (·.1)).Nodup) : M.prodL (pkPut L q (cur L q + t)) = M.prodL L * q ^ t := by
  unfold pkPut
  by_cases c : q ∈ L.map (·.1)
  · rw [if_pos c]
    induction L with
    | nil => cases c
    | cons x L ih =>
      have nd' := List.nodup_cons.mp (by rw [List.map_cons] at nd; exact nd)
      rw [List.map_cons]
      unfold cur
      by_cases d : x.1 = q
      · rw [if_pos d, if_pos d]
        have hno : q ∉ L.map (·.1) := by rw [← d]; exact nd'.1
        have e : (L.map fun y => if y.1 = q then (q, x.2 + t) else y) = L := (List.map_congr_left fun y hy => by rw [if_neg fun z => hno (List.mem_map.mpr ⟨y, hy, z⟩)]; rfl).trans (List.map_id _)
        rw [e]
        simp only [M.prodL]
        rw [d, Nat.pow_add]
        grind
      · rw [if_neg d, if_neg d]
        rw [List.map_cons, List.mem_cons] at c
        have ih' := ih nd'.2 (c.resolve_left fun z => d z.symm)
        simp only [M.prodL]
        rw [ih', Nat.mul_assoc]
  · rw [if_neg c, cur_none c, M.prodL_app]
    simp [M.prodL]
theorem pk_merge : ∀ (B A : List (Nat × Nat)), ((A ++ B).map (·.1)).Nodup → mergeK (pKv A) (pKv B) = pKv (A ++ B)
  | [], A, _ => by rw [List.append_nil]; rfl
  | x :: B, A, nd => by
    have hx : x.1 ∉ A.map (·.1) := fun z => by
      rw [List.map_append, List.map_cons] at nd
      exact (List.nodup_append.mp nd).2.2 x.1 z x.1 (by simp) rfl
    have e1 : mergeK (pKv A) (pKv (x :: B)) = mergeK (putK (pKv A) (.inl (x.1 : Int)) (.int (x.2 : Nat))) (pKv B) := rfl
    rw [e1, putK_new _ (pk_none hx)]
    have e2 : pKv A ++ [((.inl (x.1 : Int) : Key), V.int (x.2 : Nat))] = pKv (A ++ [x]) := by unfold pKv; rw [List.map_append]; rfl
    rw [e2, pk_merge B (A ++ [x]) (by rw [List.append_assoc]; exact nd), List.append_assoc]; rfl
theorem pk_sort {L : List (Nat × Nat)} {qs : List Nat} (nd : (L.map (·.1)).Nodup) (pm : qs.Perm (L.map (·.1))) : (qs.map fun q => (q, cur L q)).Perm L := by
  have h1 : L.map (fun x => (x.1, cur L x.1)) = L := (List.map_congr_left fun x hx => by rw [(pk_val nd (q := x.1) (b := x.2) hx).2]; rfl).trans (List.map_id _)
  have h2 := pm.map fun q => (q, cur L q)
  rw [List.map_map] at h2
  have h3 : L.map ((fun q => (q, cur L q)) ∘ fun x => x.1) = L.map (fun x => (x.1, cur L x.1)) := rfl
  rw [h3, h1] at h2
  exact h2

/-- numbers, each with a truth, as the entries of a dict -/
def trKv (L : List Nat) : List (Key × V) := L.map fun d : Nat => ((.inl (d : Int) : Key), V.bl true)
theorem tr_put {L : List Nat} (o : Nat) (nd : L.Nodup) : ∃ L' : List Nat, putK (trKv L) (.inl (o : Int)) (.bl true) = trKv L' ∧ L'.Nodup ∧ (∀ z, z ∈ L' ↔ z ∈ L ∨ z = o) ∧ L'.length ≤ L.length + 1 := by
  by_cases c : o ∈ L
  · refine ⟨L, ?_, nd, fun z => ⟨.inl, fun h => h.elim id fun e => e ▸ c⟩, by omega⟩
    unfold putK
    rw [if_pos (by
      rw [List.any_eq_true]
      exact ⟨_, List.mem_map.mpr ⟨o, c, rfl⟩, by simp⟩)]
    unfold trKv
    rw [List.map_map]
    refine List.map_congr_left fun k hk => ?_
    show (if (Sum.inl (k : Int) : Key) = Sum.inl (o : Int) then ((Sum.inl (k : Int) : Key), V.bl true) else ((Sum.inl (k : Int) : Key), V.bl true)) = _
    split <;> rfl
  · refine ⟨L ++ [o], ?_, ?_, fun z => by rw [List.mem_append, List.mem_singleton], by rw [List.length_append]; simp⟩
    · have hv : valV (trKv L) (.inl (o : Int)) = none := by
        unfold valV trKv
        rw [Option.map_eq_none_iff, List.find?_eq_none]
        intro kv hkv
        obtain ⟨x, hx, rfl⟩ := List.mem_map.mp hkv
        intro e
        have e1 : (Sum.inl (x : Int) : Key) = Sum.inl (o : Int) := of_decide_eq_true e
        have e2 := Sum.inl.inj e1
        exact c (by rw [show o = x by omega]; exact hx)
      rw [putK_new _ hv]
      unfold trKv
      rw [List.map_append]; rfl
    · exact List.nodup_append.mpr ⟨nd, List.pairwise_singleton _ _, fun a ha b hb => by rw [List.mem_singleton.mp hb]; exact fun z => c (by rw [← z]; exact ha)⟩
theorem mkDN {σ : L2.St} {H : Hp} {Q : VK} (h : ∀ p H', H p = none → H' p = some (.dK []) → Same H H' → Q (.ref p) H') : tDNewK σ H Q := fun p hp => h p _ hp upd_same (same_upd hp)

/-- the powers of w below q, each with its place -/
def plL (p : Nat) (w : Int) (q : Nat) : List (Nat × Nat) := (List.range q).map fun j => ((M.pw p w j).toNat, j)
theorem pl_nd {p q N : Nat} {w : Int} (hp : M.Prime p) (o : M.Ord p w N) (hq : q ≤ N) : ((plL p w q).map (·.1)).Nodup := by
  have hp2 := hp.1
  unfold plL
  rw [List.map_map]
  refine List.pairwise_map.mpr (List.Pairwise.imp_of_mem ?_ List.pairwise_lt_range)
  intro i j hi hj hij e
  have h1 := List.mem_range.mp hj
  have r1 := M.pw_range (n := (p : Int)) (by omega) w i
  have r2 := M.pw_range (n := (p : Int)) (by omega) w j
  have e2 : M.pw p w i = M.pw p w j := by
    have e : (M.pw p w i).toNat = (M.pw p w j).toNat := e
    omega
  exact M.pow_apart hp o hij (by omega) (M.al_of_emod e2.symm)
theorem pl_mem {p q j : Nat} {w : Int} (h : j < q) : ((M.pw p w j).toNat, j) ∈ plL p w q := List.mem_map.mpr ⟨j, List.mem_range.mpr h, rfl⟩
theorem pl_more (p k : Nat) (w : Int) : plL p w (k + 1) = plL p w k ++ [((M.pw p w k).toNat, k)] := by unfold plL; rw [List.range_succ, List.map_append]; rfl
theorem plL_len (p k : Nat) (w : Int) : (plL p w k).length = k := by unfold plL; rw [List.length_map, List.length_range]
theorem pl_look {p q j N : Nat} {w : Int} (hp : M.Prime p) (o : M.Ord p w N) (hq : q ≤ N) (h : j < q) : valV (pKv (plL p w q)) (.inl (M.pw p w j)) = some (.int (j : Nat)) := by
  have hp2 := hp.1
  have r1 := M.pw_range (n := (p : Int)) (by omega) w j
  have e : M.pw p w j = ((M.pw p w j).toNat : Int) := by omega
  rw [e]
  exact (pk_val (pl_nd hp o hq) (pl_mem h)).1

/-- _law_prime(state): a prime to 999,999,937 -/
def sp__law_prime : Sp := fun vs H Q _ => ∃ (s : Addr), vs = [.ref s] ∧ StAt H s ∧ ∀ (p : Nat) H', M.Prime p → p ≤ 999999937 → StAt H' s → SameB s H H' → Q (.int p) H'
theorem ok__law_prime (T : Txt K mg) : FnOk P w K mg base CX0 2 (He.ga K "_law_prime") (fd__law_prime T) ["_law_state_here"] sp__law_prime := by
  refine (F__law_prime T).ok sc__law_prime (fun vs H Q E h => ?_) (fun cdv A outer s H vs Q E hr h => ⟨_, PSs.nox (pss_cons (ps_set (i := 1) sc__law_prime.nd rfl (Or.inl rfl) (pe_call (ok__law_take T) (hr.mono (by decide)) rfl (g__law_take T) (kp__law_take T) (B__law_take T) .nil pass0 (pa_cons (pv 0) (pa_cons pe_int pa_nil))))
      (pss_cons (ps_set (i := 2) sc__law_prime.nd rfl (Or.inl rfl) (pe_op op_add pe_int (pe_call (ok__law_take T) (hr.mono (by decide)) rfl (g__law_take T) (kp__law_take T) (B__law_take T) .nil pass0 (pa_cons (pv 0) (pa_cons (pe_ix ix_seq (pe_lst (pa_cons pe_int (pa_cons pe_int (pa_cons pe_int pa_nil)))) (pe_op op_add (pe_callTy callInt1 rfl (T.fr (T.c.fact 42 rfl)) boot_int (pa_cons (pe_cmpR op_gt (pv 1) pe_int (nomark _)) pa_nil)) (pe_callTy callInt1 rfl (T.fr (T.c.fact 42 rfl)) boot_int (pa_cons (pe_cmpR op_eq (pv 1) pe_int (nomark _)) pa_nil))) (fun _ _ => rfl)) pa_nil)))))
      (pss_cons (ps_while PassesOwn.never (pt_not (pt_val (pe_call (ok__law_is_prime T) (hr.mono (by decide)) rfl (g__law_is_prime T) (kp__law_is_prime T) (B__law_is_prime T) .nil pass0 (pa_cons (pv 2) pa_nil)))) (pss_one (ps_set (i := 2) sc__law_prime.nd rfl (Or.inl rfl) (pe_op op_add (pv 2) pe_int))))
      (pss_one (ps_ret (pv 2)))))), ?_⟩)
  · obtain ⟨s, rfl, _⟩ := h; rfl
  · obtain ⟨s, rfl, hst, k⟩ := h
    walk_at "g"
    refine ⟨s, 16, rfl, by decide, by decide, hst, fun y H1 y0 y1 st1 s1 => ?_⟩
    walk_at "g"
    refine mkL (by simp) fun q H2 nq eq s2 => ?_
    walk_at "g"
    refine s_pickN (P := fun z => 0 < z ∧ z ≤ 999999936) [999, 99998, 999999936] eq (by
      have e1 : (if decide (7 < y) = true then (1 : Int) else 0) = 0 ∨ (if decide (7 < y) = true then (1 : Int) else 0) = 1 := by split <;> simp
      have e2 : (if decide (y = 15) = true then (1 : Int) else 0) = 0 ∨ (if decide (y = 15) = true then (1 : Int) else 0) = 1 := by split <;> simp
      simp only [List.length_cons, List.length_nil]
      omega) (by decide) fun m hm => ?_
    walk_at "g"
    refine ⟨s, m, rfl, hm.1, by omega, st1.same s2, fun z H3 z0 z1 st3 s3 => ?_⟩
    walk_at "g"
    have S3 : SameB s H H3 := s1.trans ((SameB.of s2).trans s3)
    refine s_while (fun σ H' => H' = H3 ∧ ∃ n : Nat, σ = [some (.ref s), some (.int y), some (.int n)] ∧ 2 ≤ n ∧ n ≤ 999999937) (fun σ _ => 999999938 - (iv σ 2).toNat) ⟨rfl, (2 + z).toNat, by rw [Int.toNat_of_nonneg (by omega)]; rfl, by omega, by omega⟩ ?_
    rintro σ H' ⟨rfl, n, rfl, n2, n9⟩
    walk_at "g"
    refine ⟨n, rfl, by omega, fun b hb => ?_⟩
    walk_at "g"
    cases b with
    | true =>
      walk_at "g"
      exact k n H' (hb.mp rfl) n9 st3 S3
    | false =>
      have hne : n ≠ 999999937 := fun z => by
        have : M.Prime n := by rw [z]; exact M.big_prime
        exact absurd (hb.mpr this) (by decide)
      walk_at "g"
      refine ⟨⟨rfl, n + 1, by push_cast; rfl, by omega, by omega⟩, ?_⟩
      show 999999938 - ((n : Int) + 1).toNat < 999999938 - (n : Int).toNat
      omega

/-- _law_steps(paper, b): the order of a number -/
def sp__law_steps : Sp := fun vs H Q _ => ∃ (m p f e : Nat) (t u : Addr) (pl : List (Addr × Nat × Nat)) (b : Int), vs = [.ref t, .int b] ∧ Pap m H t p f u pl ∧ p < 2 ^ 100 ∧ b.natAbs < 2 ^ 900 ∧ M.Ord p b e ∧ Q (.int e) H
theorem ok__law_steps (T : Txt K mg) : FnOk P w K mg base CX0 2 (He.ga K "_law_steps") (fd__law_steps T) ["_law_paper_here", "_law_b"] sp__law_steps := by
  refine (F__law_steps T).ok sc__law_steps (fun vs H Q E h => ?_) (fun cdv A outer s H vs Q E hr h => ⟨_, PSs.nox (pss_cons (ps_set (i := 2) sc__law_steps.nd rfl (Or.inl rfl) (pe_op op_sub (pe_ix ix_seq (pv 0) pe_int (fun _ _ => rfl)) pe_int))
      (pss_cons (ps_for PassesOwn.never rfl (pi_tup (pe_ix ix_seq (pv 0) pe_int (fun _ _ => rfl))) (pg_name (i := 3) sc__law_steps.nd rfl (Or.inl rfl)) (pss_one (ps_while PassesOwn.never (PW.pt (pw_and (pt_cmpR op_eq (pe_op op_mod (pv 2) (pe_ix ix_seq (pe_ix ix_seq (pv 3) pe_int (fun _ _ => rfl)) pe_int (fun _ _ => rfl))) pe_int (nomark _)) (pw_and1 (pt_cmpR op_eq (pe_call (ok__law_power T) (hr.mono (by decide)) rfl (g__law_power T) (kp__law_power T) (B__law_power T) .nil pass0 (pa_cons (pe_ix ix_seq (pv 0) pe_int (fun _ _ => rfl)) (pa_cons (pv 1) (pa_cons (pe_op op_fdivW (pv 2) (pe_ix ix_seq (pe_ix ix_seq (pv 3) pe_int (fun _ _ => rfl)) pe_int (fun _ _ => rfl))) pa_nil)))) pe_int (nomark _))))) (pss_one (ps_set (i := 2) sc__law_steps.nd rfl (Or.inl rfl) (pe_op op_fdivW (pv 2) (pe_ix ix_seq (pe_ix ix_seq (pv 3) pe_int (fun _ _ => rfl)) pe_int (fun _ _ => rfl))))))))
      (pss_one (ps_ret (pv 2))))), ?_⟩)
  · obtain ⟨m, p, f, e, t, u, pl, b, rfl, _⟩ := h; rfl
  · obtain ⟨m, p, f, o, t, u, pl, b, rfl, hP, hpb, hab, ho, k⟩ := h
    have hp := hP.hp
    have hp2 := hp.1
    have o0 := ho.pos
    have hoF : o ∣ p - 1 := ho.dvd hp (M.fermat hp (ho.unit hp))
    have F0 : 0 < p - 1 := by omega
    obtain ⟨xs, e2, pr⟩ := hP.ps
    walk_at "g"
    refine s_ixT (SqT.of hP.at_) (atI0 0 rfl rfl) ?_
    walk_at "g"
    rw [show (p : Int) - 1 = ((p - 1 : Nat) : Int) by omega]
    refine s_ixT (SqT.of hP.at_) (atI0 2 rfl rfl) ?_
    refine ⟨u, rfl, ⟨_, SqT.of e2⟩, ?_⟩
    refine for_tup (fun i σ H' => H' = H ∧ ∃ (e : Nat) (v1 : Option V), σ = [some (.ref t), some (.int b), some (.int e), v1] ∧ M.OF o (p - 1) (facs pl) i e) ⟨rfl, p - 1, none, rfl, M.of_start hP.hl hoF⟩ (fun i σ H' _ I => by rw [I.1]; exact SqT.of e2) ?_ ?_
    · rintro i x σ H' hi ⟨rfl, e, v1, rfl, of⟩
      obtain ⟨⟨s, q, c⟩, hab', tx, rfl, ex, hPs⟩ := pget pr hi
      obtain ⟨f', u', e1'⟩ := hPs.first
      have e1' : H' s = some (.tup [.int (q : Nat), .int (f' : Nat), .ref u']) := e1'
      have hq : M.Prime q := (hP.hl.primes _ (facs_mem (List.mem_of_getElem? hab'))).1
      have hq2 := hq.1
      have heF := Nat.le_of_dvd F0 (M.of_le hP.hl F0 hoF o0 of)
      have hqF : q ≤ p - 1 := Nat.le_of_dvd F0 (M.fac_dvd hP.hl (facs_mem (List.mem_of_getElem? hab')))
      obtain ⟨mm, em, hqm, m0, vb, hv, of2⟩ := M.of_step hP.hl o0 of (facs_get hab')
      have ex' : H' tx = some (.tup [.ref s, .int (c : Nat)]) := ex
      walk_at "g"
      refine s_while (fun σ H3 => H3 = H' ∧ ∃ j : Nat, σ = [some (.ref t), some (.int b), some (.int ((q ^ j * mm : Nat) : Int)), some (.ref tx)] ∧ M.vq q o ≤ j ∧ j ≤ c) (fun σ _ => (iv σ 2).toNat) ⟨rfl, c, by rw [em]; rfl, vb, Nat.le_refl _⟩ ?_
      rintro σ H3 ⟨rfl, j, rfl, hj, hjc⟩
      have hjm : q ^ j * mm ≤ e := by rw [em]; exact Nat.mul_le_mul_right _ (Nat.pow_le_pow_right (by omega) hjc)
      have fin : ∀ hjv : j = M.vq q o, H3 = H3 ∧ ∃ (e : Nat) (v1 : Option V), [some (V.ref t), some (.int b), some (.int ((q ^ j * mm : Nat) : Int)), some (.ref tx)] = [some (.ref t), some (.int b), some (.int e), v1] ∧ M.OF o (p - 1) (facs pl) (i + 1) e := fun hjv => ⟨rfl, q ^ j * mm, _, rfl, by rw [hjv]; exact of2⟩
      walk_at "g"
      refine s_ixT (SqT.of ex') (atI0 0 rfl rfl) ?_
      walk_at "g"
      refine s_ixT (SqT.of e1') (atI0 0 rfl rfl) ?_
      walk_at "g"
      refine s_i (by omega) ?_
      walk_at "g"
      refine s_ite (fun c1 => ?_) (fun c1 => ?_)
      · have hdv : q ∣ q ^ j * mm := Int.natCast_dvd_natCast.mp (Int.dvd_of_emod_eq_zero c1)
        obtain ⟨l, rfl⟩ : ∃ l, j = l + 1 := by
          cases j with
          | zero => rw [Nat.pow_zero, Nat.one_mul] at hdv; exact absurd hdv hqm
          | succ l => exact ⟨l, rfl⟩
        have e1 : ((q ^ (l + 1) * mm : Nat) : Int) / (q : Int) = ((q ^ l * mm : Nat) : Int) := by
          rw [show q ^ (l + 1) * mm = q * (q ^ l * mm) by rw [Nat.pow_succ]; grind]
          push_cast
          exact Int.mul_ediv_cancel_left _ (by omega)
        have hw : M.pw p b (q ^ l * mm) = 1 ↔ M.vq q o ≤ l := (M.pw_one_iff hp2).trans (ho.iffN.trans (hv l))
        have hlm : q ^ l * mm < q ^ (l + 1) * mm := by
          rw [Nat.pow_succ, show q ^ l * q * mm = q ^ l * mm * q by grind]
          exact (Nat.lt_mul_iff_one_lt_right (Nat.mul_pos (Nat.pow_pos (by omega)) m0)).mpr (by omega)
        walk_at "g"
        refine s_ixT (SqT.of hP.at_) (atI0 0 rfl rfl) ?_
        walk_at "g"
        refine s_ixT (SqT.of ex') (atI0 0 rfl rfl) ?_
        walk_at "g"
        refine s_ixT (SqT.of e1') (atI0 0 rfl rfl) ?_
        walk_at "g"
        refine s_i (divW (by omega) (by omega)) ?_
        walk_at "g"
        rw [e1]
        refine ⟨p, b, q ^ l * mm, rfl, by omega, by omega, ?_⟩
        walk_at "g"
        refine s_ite (fun c2 => ?_) (fun c2 => ?_)
        · walk_at "g"
          refine s_ixT (SqT.of ex') (atI0 0 rfl rfl) ?_
          walk_at "g"
          refine s_ixT (SqT.of e1') (atI0 0 rfl rfl) ?_
          walk_at "g"
          refine s_i (divW (by omega) (by omega)) ?_
          walk_at "g"
          rw [e1]
          refine ⟨⟨rfl, l, rfl, hw.mp c2, by omega⟩, ?_⟩
          show ((q ^ l * mm : Nat) : Int).toNat < ((q ^ (l + 1) * mm : Nat) : Int).toNat
          omega
        · have : ¬ M.vq q o ≤ l := fun z => c2 (hw.mpr z)
          walk_at "g"
          exact fin (by omega)
      · have hj0 : j = 0 := by
          cases j with
          | zero => rfl
          | succ l =>
            refine absurd ?_ c1
            refine Int.emod_eq_zero_of_dvd (Int.natCast_dvd_natCast.mpr ?_)
            exact Nat.dvd_trans (M.dvd_pow_self q (by omega)) (Nat.dvd_mul_right _ _)
        walk_at "g"
        exact fin (by omega)
    · rintro σ H' ⟨rfl, e, v1, rfl, of⟩
      rw [pr.length, ← facs_len] at of
      have e9 := M.of_end hP.hl o0 of
      walk_at "g"
      rw [e9]
      exact k

theorem dp_ints {K : PySem.W.Frag} {H : Hp} {q : Addr} {l : List Int} (h : H q = some (.lst (l.map V.int))) : Dp K H (.ref q) (.list (l.map PyData.int)) := by
  refine .lst (SqL.of h) ?_
  clear h
  induction l with
  | nil => exact .nil
  | cons n l ih => exact .cons (.int _) ih
theorem sh_ints (l : List Int) : SeqAt.shaped (.list (l.map PyData.int)) = true := shapedL fun d hd => by
  obtain ⟨q, _, rfl⟩ := List.mem_map.mp hd
  exact ⟨rfl, Nat.zero_le _⟩
theorem eqv_nil (l : List Int) : PyData.eqv (.list (l.map PyData.int)) (.list []) = decide (l = []) := by
  cases l with
  | nil => simp [PyData.eqv, PyData.eqvAll]
  | cons a l => simp [PyData.eqv, PyData.eqvAll]

theorem s_enumL {K : PySem.W.Frag} {ta : TA} {σ : L2.St} {H : Hp} {R : It → Hp → Prop} (h : ta σ H fun vs H1 => ∃ a xs, vs = [.ref a] ∧ SqL K H1 a xs ∧ R (Ite K a) H1) : iEnum K ta σ H R := h
/-- the powers of b by p, from the one to 0 on, e of them -/
def pows (p : Nat) (b : Int) (e : Nat) : List Int := (List.range e).map fun j => M.pw p b j
theorem pows_len (p : Nat) (b : Int) (e : Nat) : (pows p b e).length = e := by simp [pows]
theorem pows_succ (p : Nat) (b : Int) (e : Nat) : pows p b (e + 1) = pows p b e ++ [M.pw p b e] := by unfold pows; rw [List.range_succ, List.map_append]; rfl
theorem pows_one {p : Nat} {b : Int} (h : 2 ≤ p) : pows p b 1 = [1] := by
  show [M.pw p b 0] = [1]
  rw [M.pw_zero, Int.emod_eq_of_lt (by decide) (by omega)]
/-- powers_of(paper, b) -/
def sp_powers_of (K : PySem.W.Frag) : Sp := fun vs H Q E => ∃ (m p f : Nat) (b : Int) (t u : Addr) (pl : List (Addr × Nat × Nat)), vs = [.ref t, .int b] ∧ Pap m H t p f u pl ∧ p < 2 ^ 100 ∧ b.natAbs < 2 ^ 800 ∧
  (b % (p : Int) = 0 → ∀ H', Same H H' → E (.ref (He.ga K "Nought")) none H') ∧
  (∀ e, M.Ord p b e → 400 < e → ∀ (d : Addr) H', H d = none → Same H H' → H' d = some (.xd [("many", .int (e : Nat))]) → E (.ref (He.ga K "TooMany")) (some d) H') ∧
  (∀ e, M.Ord p b e → e ≤ 400 → ∀ D H', H D = none → Same H H' → H' D = some (.lst ((pows p b e).map V.int)) → Q (.ref D) H')
theorem ok_powers_of (T : Txt K mg) : FnOk P w K mg base (L2.CX P w) 11 (He.ga K "powers_of") (fd_powers_of T) ["paper", "b"] (sp_powers_of K) := by
  refine (F_powers_of T).ok sc_powers_of (fun vs H Q E h => ?_) (fun cdv A outer s H vs Q E hr h => ⟨_, (pss_cons (ps_set (i := 2) sc_powers_of.nd rfl (Or.inl rfl) (pe_ix ix_seq (pe_call (ok_order T) (hr.mono (by decide)) rfl (g_order T) (kp_order T) (B_order T) .nil (passes_call (takes_of rfl rfl rfl rfl) (fun _ _ _ _ h => h)) (pa_cons (pv 0) (pa_cons (pv 1) pa_nil))) pe_int (fun _ _ => rfl)))
      (pss_cons (ps_if (pt_cmpR op_gt (pv 2) (pe_glob (v := .int 400) rfl (T.int_ok (T.c.fact 48 rfl)).choose_spec ⟨_, rfl⟩) (nomark _)) (pss_one (ps_raise rfl (takes_of rfl rfl rfl rfl) (pmk_oex (x_TooMany T).oex (x_TooMany T).iC (x_TooMany T).tI (ok_init_TooMany T) (hr.mono (by decide)) (B_init_TooMany T) .nil pass0 rfl (g_TooMany T) (pa_cons (pv 2) pa_nil)))) pss_nil)
      (pss_cons (ps_set (i := 3) sc_powers_of.nd rfl (Or.inl rfl) (pe_lst (pa_cons pe_int pa_nil)))
      (pss_cons (ps_while (passes_of rfl) (pt_cmpR op_lt (pe_callB callLen rfl (T.fr (T.c.fact 40 rfl)) boot_len (pa_cons (pv 3) pa_nil)) (pv 2) (nomark _)) (pss_one (ps_expr (pe_bm PySem.F.plainAttrs_list PySem.F.slot_list_append PySem.F.type_list_append mt_append (pv 3) (pa_cons (pe_op op_mod (pe_op op_mulW (pe_ix ix_seq (pv 3) (pe_un un_neg pe_int) (fun _ _ => rfl)) (pv 1)) (pe_ix ix_seq (pv 0) pe_int (fun _ _ => rfl))) pa_nil)))))
      (pss_one (ps_ret (pv 3))))))), ?_⟩)
  · obtain ⟨m, p, f, b, t, u, pl, rfl, _⟩ := h; rfl
  · obtain ⟨m, p, f, b, t, u, pl, rfl, hP, hpb, hbb, k1, k2, k3⟩ := h
    have hp2 := hP.hp.1
    walk_at "g"
    refine ⟨m, p, f, b, t, u, pl, rfl, hP, hpb, fun hz H1 s1 => ?_, fun e ho hd t1 H1 hO s1 => ?_⟩
    · exact k1 hz H1 s1
    obtain ⟨w, ys, e1, e2, _⟩ := hO
    have e0 := ho.pos
    have het : e ≤ p - 1 := Nat.le_of_dvd (by omega) hd
    walk_at "g"
    refine s_ixT (SqT.of e1) (atI0 0 rfl rfl) ?_
    walk_at "g"
    refine s_ite (fun c => ?_) (fun c => ?_)
    · walk_at "g"
      refine s_raise (x_TooMany T).oex (x_TooMany T).noF fun d H2 nd2 hx s2 => ?_
      exact k2 e ho (by omega) d H2 (Same.none s1 nd2) (s1.trans s2) hx
    · walk_at "g"
      refine mkL (by simp) fun D H2 nD eD s2 => ?_
      have nDH : H D = none := Same.none s1 nD
      walk_at "g"
      refine s_while (fun σ H' => Same H1 H' ∧ ∃ j : Nat, σ = [some (.ref t), some (.int b), some (.int (e : Nat)), some (.ref D)] ∧ 0 < j ∧ j ≤ e ∧ H' D = some (.lst ((pows p b j).map V.int))) (fun σ H' => e - (match H' D with | some (.lst xs) => xs.length | _ => 0)) ⟨s2, 1, rfl, by decide, e0, by rw [eD, pows_one hp2]; rfl⟩ ?_
      rintro σ H' ⟨s3, j, rfl, j0, je, eD3⟩
      walk_at "g"
      refine s_lenL (SqL.of eD3) ?_
      rw [List.length_map, pows_len]
      walk_at "g"
      refine s_ite (fun c1 => ?_) (fun c1 => ?_)
      · obtain ⟨i, rfl⟩ : ∃ i, j = i + 1 := ⟨j - 1, by omega⟩
        have hr := M.pw_range (n := (p : Int)) (by omega) b i
        walk_at "g"
        refine ⟨s_tyL eD3, ?_⟩
        walk_at "g"
        refine s_ixL (SqL.of eD3) (atI_neg1 (v := V.int (M.pw p b i)) (by rw [pows_succ, List.map_append, List.map_cons, List.map_nil, List.getLast?_append]; rfl)) ?_
        walk_at "g"
        refine s_ixT (SqT.of (s3 _ _ (s1 _ _ hP.at_))) (atI0 0 rfl rfl) ?_
        walk_at "g"
        refine s_i (by omega) ?_
        rw [M.pw_mul]
        walk_at "g"
        refine s_append eD3 (line2 (by rw [List.length_map, pows_len]; omega)) ?_
        walk_at "g"
        have hnew : upd H' D (.lst ((pows p b (i + 1)).map V.int ++ [V.int (M.pw p b (i + 1))])) D = some (.lst ((pows p b (i + 1 + 1)).map V.int)) := by
          rw [upd_same, pows_succ p b (i + 1), List.map_append]; rfl
        refine ⟨⟨same_upd' s3 nD, i + 1 + 1, rfl, by omega, by omega, hnew⟩, ?_⟩
        show e - _ < e - _
        rw [hnew, eD3]
        show e - ((pows p b (i + 1 + 1)).map V.int).length < e - ((pows p b (i + 1)).map V.int).length
        rw [List.length_map, List.length_map, pows_len, pows_len]
        omega
      · obtain rfl : j = e := by omega
        walk_at "g"
        exact k3 j ho (by omega) D H' nDH (s1.trans s3) eD3
/-- places_of(paper, b) -/
def sp_places_of (K : PySem.W.Frag) : Sp := fun vs H Q E => ∃ (m p f : Nat) (b : Int) (t u : Addr) (pl : List (Addr × Nat × Nat)), vs = [.ref t, .int b] ∧ Pap m H t p f u pl ∧ p < 2 ^ 100 ∧ b.natAbs < 2 ^ 800 ∧
  (b % (p : Int) = 0 → ∀ H', Same H H' → E (.ref (He.ga K "Nought")) none H') ∧
  (∀ e, M.Ord p b e → 400 < e → ∀ (d : Addr) H', H d = none → Same H H' → H' d = some (.xd [("many", .int (e : Nat))]) → E (.ref (He.ga K "TooMany")) (some d) H') ∧
  (∀ e, M.Ord p b e → e ≤ 400 → ∀ D H', H D = none → Same H H' → H' D = some (.dK (pKv (plL p b e))) → Q (.ref D) H')
theorem ok_places_of (T : Txt K mg) : FnOk P w K mg base (L2.CX P w) 12 (He.ga K "places_of") (fd_places_of T) ["paper", "b"] (sp_places_of K) := by
  refine (F_places_of T).ok sc_places_of (fun vs H Q E h => ?_) (fun cdv A outer s H vs Q E hr h => ⟨_, (pss_cons (ps_set (i := 2) sc_places_of.nd rfl (Or.inl rfl) pe_dnewK)
      (pss_cons (ps_for (passes_of rfl) rfl (pi_enum rfl (T.fr (T.c.fact 41 rfl)) (pa_cons (pe_call (ok_powers_of T) (hr.mono (by decide)) rfl (g_powers_of T) (kp_powers_of T) (B_powers_of T) .nil (passes_call (takes_of rfl rfl rfl rfl) (fun _ _ _ _ h => h)) (pa_cons (pv 0) (pa_cons (pv 1) pa_nil))) pa_nil)) (pg_tup rfl (pgs_cons (pg_name (i := 3) sc_places_of.nd rfl (Or.inl rfl)) (pgs_cons (pg_name (i := 4) sc_places_of.nd rfl (Or.inl rfl)) pgs_nil))) (pss_one (ps_dput (hu_of hr) (pv 2) (pv 4) (pv 3) rfl)))
      (pss_one (ps_ret (pv 2))))), ?_⟩)
  · obtain ⟨m, p, f, b, t, u, pl, rfl, _⟩ := h; rfl
  · obtain ⟨m, p, f, b, t, u, pl, rfl, hP, hpb, hbb, k1, k2, k3⟩ := h
    have hp2 := hP.hp.1
    walk_at "g"
    refine mkDN fun D H1 nD eD s1 => ?_
    walk_at "g"
    refine s_enumL ?_
    walk_at "g"
    refine ⟨m, p, f, b, t, u, pl, rfl, hP.same s1, hpb, hbb, fun hz H2 s2 => k1 hz H2 (s1.trans s2), fun e ho h4 d H2 nd s2 hd => k2 e ho h4 d H2 (Same.none s1 nd) (s1.trans s2) hd, fun e ho h4 L H2 nL s2 eL => ?_⟩
    have S2 := s1.trans s2
    walk_at "g"
    refine ⟨L, _, rfl, SqL.of eL, ?_⟩
    refine for_it walk_enum (fun i σ H' => Same H H' ∧ i ≤ e ∧ H' D = some (.dK (pKv (plL p b i))) ∧ H' L = some (.lst ((pows p b e).map V.int)) ∧ ∃ v3 v4 : Option V, σ = [some (.ref t), some (.int b), some (.ref D), v3, v4]) ⟨S2, Nat.zero_le _, s2 _ _ eD, eL, _, _, rfl⟩ (fun i σ H' _ I => SqL.of I.2.2.2.1) ?_ ?_
    · rintro i v σ H3 H4 hi ⟨s3, hie, eD3, eL3, v3, v4, rfl⟩ ⟨W, x, y, rfl, nW, rfl, ex, ey⟩
      cases ex
      rw [List.length_map, pows_len] at hi
      have hy : y = V.int (M.pw p b i) := by
        unfold pows at ey
        dsimp only at ey
        rw [List.getElem?_map, List.getElem?_map, List.getElem?_range hi] at ey
        exact (Option.some.inj ey).symm
      subst hy
      have s4 : Same H3 (upd H3 W (.tup [.int (i : Nat), .int (M.pw p b i)])) := same_upd nW
      have eW : upd H3 W (.tup [.int (i : Nat), .int (M.pw p b i)]) W = some (.tup [.int (i : Nat), .int (M.pw p b i)]) := upd_same
      generalize upd H3 W (.tup [.int (i : Nat), .int (M.pw p b i)]) = H4 at s4 eW ⊢
      have hr := M.pw_range (n := (p : Int)) (by omega) b i
      have ee : M.pw p b i = ((M.pw p b i).toNat : Int) := by omega
      have hDL : L ≠ D := fun z => by rw [z, eD3] at eL3; cases eL3
      refine s_gtup (SqT.of eW) rfl ?_
      walk_at "g"
      refine s_dputI (s4 _ _ eD3) (line2 (by unfold pKv; rw [List.length_map, plL_len]; omega)) ?_
      walk_at "g"
      refine ⟨same_upd' (s3.trans s4) nD, by omega, ?_, by rw [upd_ne hDL]; exact s4 _ _ eL3, _, _, rfl⟩
      rw [upd_same, pl_more]
      have hno : (M.pw p b i).toNat ∉ (plL p b i).map (·.1) := fun z => by
        have nd := pl_nd (q := i + 1) hP.hp ho (by omega)
        rw [pl_more, List.map_append] at nd
        exact (List.nodup_append.mp nd).2.2 _ z _ (by simp) rfl
      have hp1 := pk_put (L := plL p b i) (M.pw p b i).toNat i
      unfold pkPut at hp1
      rw [if_neg hno, ← ee] at hp1
      rw [hp1]
    · rintro σ H3 ⟨s3, _, eD3, eL3, v3, v4, rfl⟩
      rw [List.length_map, pows_len] at eD3
      walk_at "g"
      exact k3 e ho h4 D H3 nD s3 eD3

/-- _law_told(powers_of, paper, b): a new list -/
def sp__law_told (K : PySem.W.Frag) : Sp := fun vs H Q _ => ∃ (m p f : Nat) (b : Int) (t u : Addr) (pl : List (Addr × Nat × Nat)), vs = [.ref (He.ga K "powers_of"), .ref t, .int b] ∧ Pap m H t p f u pl ∧ p < 2 ^ 100 ∧ b.natAbs < 2 ^ 800 ∧
  (b % (p : Int) = 0 → ∀ F H', Same H H' → H' F = some (.lst [.non, .str "nought", .non]) → Q (.ref F) H') ∧
  (∀ e, M.Ord p b e → 400 < e → ∀ F H', Same H H' → H' F = some (.lst [.non, .str "many", .int (e : Nat)]) → Q (.ref F) H') ∧
  (∀ e, M.Ord p b e → e ≤ 400 → ∀ F D H', H D = none → Same H H' → H' D = some (.lst ((pows p b e).map V.int)) → H' F = some (.lst [.ref D, .str "", .non]) → Q (.ref F) H')
theorem ok__law_told (T : Txt K mg) : FnOk P w K mg base CX0 14 (He.ga K "_law_told") (fd__law_told T) ["_law_asked", "_law_paper_here", "_law_b"] (sp__law_told K) := by
  refine (F__law_told T).ok sc__law_told (fun vs H Q E h => ?_) (fun cdv A outer s H vs Q E hr h => ⟨_, PSs.nox (pss_cons (ps_set (i := 3) sc__law_told.nd rfl (Or.inl rfl) pe_non)
      (pss_cons (ps_set (i := 4) sc__law_told.nd rfl (Or.inl rfl) pe_str)
      (pss_cons (ps_set (i := 5) sc__law_told.nd rfl (Or.inl rfl) pe_non)
      (pss_cons (ps_try_mix (Wout := fun _ _ _ _ => False) rfl rfl takes0 (fun W pn xe tk po => (pss_one (ps_set (i := 3) sc__law_told.nd rfl (Or.inl rfl) (pe_callLS (i := 0) (ok_powers_of T) (hr.mono (by decide)) rfl (by first | exact Or.inl rfl | exact Or.inr (Or.inl rfl) | exact Or.inr (Or.inr rfl)) (kp_powers_of T) (B_powers_of T) (fun σ => passAt tk σ) (pa_cons (pv 1) (pa_cons (pv 2) pa_nil)))))) (HdsN.bare ⟨rfl, by decide, .inl (g_Nought T)⟩ (fun a oe cls d pn _ _ => (pss_one (ps_set (i := 4) sc__law_told.nd rfl (Or.inl rfl) pe_str))) (HdsN.named (i := 6) sc__law_told.nd rfl rfl ⟨rfl, by decide, .inl (g_TooMany T)⟩ (fun a oe cls d pn hz hf => (pss_cons (ps_set (i := 4) sc__law_told.nd rfl (Or.inl rfl) pe_str)
      (pss_one (ps_set (i := 5) sc__law_told.nd rfl (Or.inl rfl) (pe_xf (x_TooMany T).xf (x_TooMany T).noF hz hf (pv 6)))))) HdsN.nil)))
      (pss_one (ps_ret (pe_lst (pa_cons (pv 3) (pa_cons (pv 4) (pa_cons (pv 5) pa_nil)))))))))), ?_⟩)
  · obtain ⟨m, p, f, b, t, u, pl, rfl, _⟩ := h; rfl
  · obtain ⟨m, p, f, b, t, u, pl, rfl, hP, hpb, hbb, k1, k2, k3⟩ := h
    walk_at "g"
    refine s_callLS rfl ?_
    walk_at "g"
    refine ⟨m, p, f, b, t, u, pl, rfl, hP, hpb, hbb, fun hz H2 s2 => ?_, fun e ho h4 d H2 nd s2 hd => ?_, fun e ho h4 D H2 nD s2 eD => ?_⟩
    · refine ⟨true, e_Nought_Nought T, fun _ a0 ha0 => ?_, fun z => Bool.noConfusion z⟩
      walk_at "g"
      refine mkL (by simp) fun F H3 nF eF s3 => ?_
      exact k1 hz F H3 (s2.trans s3) eF
    · refine ⟨false, e_TooMany_Nought T, fun z => Bool.noConfusion z, fun _ => ⟨true, e_TooMany_TooMany T, fun _ a0 ha0 => ?_, fun z => Bool.noConfusion z⟩⟩
      show asTs _ _ _ _ _ _ _ _
      unfold asTs
      walk_at "g"
      refine s_xf rfl hd ?_
      walk_at "g"
      refine s_asEnds ?_
      walk_at "g"
      refine mkL (by simp) fun F H3 nF eF s3 => ?_
      exact k2 e ho h4 F H3 (s2.trans s3) eF
    · walk_at "g"
      refine mkL (by simp) fun F H3 nF eF s3 => ?_
      exact k3 e ho h4 F D H3 nD (s2.trans s3) (s3 _ _ eD) eF
/-- _law_told(places_of, paper, b): a new list -/
def sp_told_pl (K : PySem.W.Frag) : Sp := fun vs H Q _ => ∃ (m p f : Nat) (b : Int) (t u : Addr) (pl : List (Addr × Nat × Nat)), vs = [.ref (He.ga K "places_of"), .ref t, .int b] ∧ Pap m H t p f u pl ∧ p < 2 ^ 100 ∧ b.natAbs < 2 ^ 800 ∧
  (b % (p : Int) = 0 → ∀ F H', Same H H' → H' F = some (.lst [.non, .str "nought", .non]) → Q (.ref F) H') ∧
  (∀ e, M.Ord p b e → 400 < e → ∀ F H', Same H H' → H' F = some (.lst [.non, .str "many", .int (e : Nat)]) → Q (.ref F) H') ∧
  (∀ e, M.Ord p b e → e ≤ 400 → ∀ F D H', H D = none → Same H H' → H' D = some (.dK (pKv (plL p b e))) → H' F = some (.lst [.ref D, .str "", .non]) → Q (.ref F) H')
theorem ok_told_pl (T : Txt K mg) : FnOk P w K mg base CX0 14 (He.ga K "_law_told") (fd__law_told T) ["_law_asked", "_law_paper_here", "_law_b"] (sp_told_pl K) := by
  refine (F__law_told T).ok sc__law_told (fun vs H Q E h => ?_) (fun cdv A outer s H vs Q E hr h => ⟨_, PSs.nox (pss_cons (ps_set (i := 3) sc__law_told.nd rfl (Or.inl rfl) pe_non)
      (pss_cons (ps_set (i := 4) sc__law_told.nd rfl (Or.inl rfl) pe_str)
      (pss_cons (ps_set (i := 5) sc__law_told.nd rfl (Or.inl rfl) pe_non)
      (pss_cons (ps_try_mix (Wout := fun _ _ _ _ => False) rfl rfl takes0 (fun W pn xe tk po => (pss_one (ps_set (i := 3) sc__law_told.nd rfl (Or.inl rfl) (pe_callLS (i := 0) (ok_places_of T) (hr.mono (by decide)) rfl (by first | exact Or.inl rfl | exact Or.inr (Or.inl rfl) | exact Or.inr (Or.inr rfl)) (kp_places_of T) (B_places_of T) (fun σ => passAt tk σ) (pa_cons (pv 1) (pa_cons (pv 2) pa_nil)))))) (HdsN.bare ⟨rfl, by decide, .inl (g_Nought T)⟩ (fun a oe cls d pn _ _ => (pss_one (ps_set (i := 4) sc__law_told.nd rfl (Or.inl rfl) pe_str))) (HdsN.named (i := 6) sc__law_told.nd rfl rfl ⟨rfl, by decide, .inl (g_TooMany T)⟩ (fun a oe cls d pn hz hf => (pss_cons (ps_set (i := 4) sc__law_told.nd rfl (Or.inl rfl) pe_str)
      (pss_one (ps_set (i := 5) sc__law_told.nd rfl (Or.inl rfl) (pe_xf (x_TooMany T).xf (x_TooMany T).noF hz hf (pv 6)))))) HdsN.nil)))
      (pss_one (ps_ret (pe_lst (pa_cons (pv 3) (pa_cons (pv 4) (pa_cons (pv 5) pa_nil)))))))))), ?_⟩)
  · obtain ⟨m, p, f, b, t, u, pl, rfl, _⟩ := h; rfl
  · obtain ⟨m, p, f, b, t, u, pl, rfl, hP, hpb, hbb, k1, k2, k3⟩ := h
    walk_at "g"
    refine s_callLS rfl ?_
    walk_at "g"
    refine ⟨m, p, f, b, t, u, pl, rfl, hP, hpb, hbb, fun hz H2 s2 => ?_, fun e ho h4 d H2 nd s2 hd => ?_, fun e ho h4 D H2 nD s2 eD => ?_⟩
    · refine ⟨true, e_Nought_Nought T, fun _ a0 ha0 => ?_, fun z => Bool.noConfusion z⟩
      walk_at "g"
      refine mkL (by simp) fun F H3 nF eF s3 => ?_
      exact k1 hz F H3 (s2.trans s3) eF
    · refine ⟨false, e_TooMany_Nought T, fun z => Bool.noConfusion z, fun _ => ⟨true, e_TooMany_TooMany T, fun _ a0 ha0 => ?_, fun z => Bool.noConfusion z⟩⟩
      show asTs _ _ _ _ _ _ _ _
      unfold asTs
      walk_at "g"
      refine s_xf rfl hd ?_
      walk_at "g"
      refine s_asEnds ?_
      walk_at "g"
      refine mkL (by simp) fun F H3 nF eF s3 => ?_
      exact k2 e ho h4 F H3 (s2.trans s3) eF
    · walk_at "g"
      refine mkL (by simp) fun F H3 nF eF s3 => ?_
      exact k3 e ho h4 F D H3 nD (s2.trans s3) (s3 _ _ eD) eF

/-- which class an error is of: the ten answers -/
structure Kd (K : PySem.W.Frag) (D : Addr) (b : Fin 10 → Bool) : Prop where
  isx : IsX K D
  k0 : PySem.W.kitOne K (.ref D) (.ref (He.ga K "NoNumber")) = some (b 0)
  k1 : PySem.W.kitOne K (.ref D) (.ref (He.ga K "NoOrder")) = some (b 1)
  k2 : PySem.W.kitOne K (.ref D) (.ref (He.ga K "Nought")) = some (b 2)
  k3 : PySem.W.kitOne K (.ref D) (.ref (He.ga K "NoRow")) = some (b 3)
  k4 : PySem.W.kitOne K (.ref D) (.ref (He.ga K "NoPrime")) = some (b 4)
  k5 : PySem.W.kitOne K (.ref D) (.ref (He.ga K "NoInverse")) = some (b 5)
  k6 : PySem.W.kitOne K (.ref D) (.ref (He.ga K "NoRoot")) = some (b 6)
  k7 : PySem.W.kitOne K (.ref D) (.ref (He.ga K "TooMany")) = some (b 7)
  k8 : PySem.W.kitOne K (.ref D) (.ref (He.ga K "TooFar")) = some (b 8)
  k9 : PySem.W.kitOne K (.ref D) (.ref (He.ga K "NoText")) = some (b 9)
/-- an error made by hand, at a -/
def ErAt (K : PySem.W.Frag) (H : Hp) (a D : Addr) : Prop := ∃ (d : Option Addr) (fs : List (Str × V)), H a = some (R.exq a (.ref D) d) ∧ ∀ dd, d = some dd → H dd = some (.xd fs)
theorem ErAt.same {K : PySem.W.Frag} {H H' : Hp} {a D : Addr} (h : ErAt K H a D) (s : Same H H') : ErAt K H' a D := by
  obtain ⟨d, fs, e1, e2⟩ := h
  exact ⟨d, fs, s _ _ e1, fun dd e => s _ _ (e2 dd e)⟩
theorem s_isQ {K : PySem.W.Frag} {H : Hp} {Q : VK} {a D : Addr} {c : V} {cv : Value} {b : Bool} (h : ErAt K H a D) (hx : IsX K D) (hc : ClsV c cv) (hk : PySem.W.kitOne K (.ref D) cv = some b) (q : Q (.bl b) H) : R.rIsQ K [.ref a, c] H Q := by
  obtain ⟨d, fs, e1, e2⟩ := h
  exact ⟨a, D, d, fs, c, cv, b, rfl, e1, hx, e2, hc, hk, q⟩
/-- _law_kinds(error): a new list of ten truths -/
def sp__law_kinds (K : PySem.W.Frag) : Sp := fun vs H Q _ => ∃ (a D : Addr) (b : Fin 10 → Bool), vs = [.ref a] ∧ ErAt K H a D ∧ Kd K D b ∧ ∀ F H', Same H H' → H' F = some (.lst [.bl (b 0), .bl (b 1), .bl (b 2), .bl (b 3), .bl (b 4), .bl (b 5), .bl (b 6), .bl (b 7), .bl (b 8), .bl (b 9)]) → Q (.ref F) H'
theorem ok__law_kinds (T : Txt K mg) : FnOk P w K mg base CX0 1 (He.ga K "_law_kinds") (fd__law_kinds T) ["_law_error"] (sp__law_kinds K) := by
  refine (F__law_kinds T).ok sc__law_kinds (fun vs H Q E h => ?_) (fun cdv A outer s H vs Q E hr h => ⟨_, PSs.nox (pss_cons (ps_set (i := 1) sc__law_kinds.nd rfl (Or.inl rfl) (pe_lst (pa_cons (pe_callB callIsQ rfl (T.fr (T.c.fact 43 rfl)) boot_isinstance (pa_cons (pv 0) (pa_cons (pe_glob (v := .ref (He.ga K "NoNumber")) rfl (g_NoNumber T) rfl) pa_nil))) (pa_cons (pe_callB callIsQ rfl (T.fr (T.c.fact 43 rfl)) boot_isinstance (pa_cons (pv 0) (pa_cons (pe_glob (v := .ref (He.ga K "NoOrder")) rfl (g_NoOrder T) rfl) pa_nil))) (pa_cons (pe_callB callIsQ rfl (T.fr (T.c.fact 43 rfl)) boot_isinstance (pa_cons (pv 0) (pa_cons (pe_glob (v := .ref (He.ga K "Nought")) rfl (g_Nought T) rfl) pa_nil))) pa_nil)))))
      (pss_cons (ps_set (i := 1) sc__law_kinds.nd rfl (Or.inl rfl) (pe_op op_cat (pv 1) (pe_lst (pa_cons (pe_callB callIsQ rfl (T.fr (T.c.fact 43 rfl)) boot_isinstance (pa_cons (pv 0) (pa_cons (pe_glob (v := .ref (He.ga K "NoRow")) rfl (g_NoRow T) rfl) pa_nil))) (pa_cons (pe_callB callIsQ rfl (T.fr (T.c.fact 43 rfl)) boot_isinstance (pa_cons (pv 0) (pa_cons (pe_glob (v := .ref (He.ga K "NoPrime")) rfl (g_NoPrime T) rfl) pa_nil))) (pa_cons (pe_callB callIsQ rfl (T.fr (T.c.fact 43 rfl)) boot_isinstance (pa_cons (pv 0) (pa_cons (pe_glob (v := .ref (He.ga K "NoInverse")) rfl (g_NoInverse T) rfl) pa_nil))) pa_nil))))))
      (pss_cons (ps_set (i := 1) sc__law_kinds.nd rfl (Or.inl rfl) (pe_op op_cat (pv 1) (pe_lst (pa_cons (pe_callB callIsQ rfl (T.fr (T.c.fact 43 rfl)) boot_isinstance (pa_cons (pv 0) (pa_cons (pe_glob (v := .ref (He.ga K "NoRoot")) rfl (g_NoRoot T) rfl) pa_nil))) (pa_cons (pe_callB callIsQ rfl (T.fr (T.c.fact 43 rfl)) boot_isinstance (pa_cons (pv 0) (pa_cons (pe_glob (v := .ref (He.ga K "TooMany")) rfl (g_TooMany T) rfl) pa_nil))) (pa_cons (pe_callB callIsQ rfl (T.fr (T.c.fact 43 rfl)) boot_isinstance (pa_cons (pv 0) (pa_cons (pe_glob (v := .ref (He.ga K "TooFar")) rfl (g_TooFar T) rfl) pa_nil))) pa_nil))))))
      (pss_one (ps_ret (pe_op op_cat (pv 1) (pe_lst (pa_cons (pe_callB callIsQ rfl (T.fr (T.c.fact 43 rfl)) boot_isinstance (pa_cons (pv 0) (pa_cons (pe_glob (v := .ref (He.ga K "NoText")) rfl (g_NoText T) rfl) pa_nil))) pa_nil)))))))), ?_⟩)
  · obtain ⟨a, D, b, rfl, _⟩ := h; rfl
  · obtain ⟨a, D, b, rfl, hE, hK, k⟩ := h
    walk_at "g"
    refine s_isQ hE hK.isx (.own _) hK.k0 ?_
    walk_at "g"
    refine s_isQ hE hK.isx (.own _) hK.k1 ?_
    walk_at "g"
    refine s_isQ hE hK.isx (.own _) hK.k2 ?_
    walk_at "g"
    refine mkL (by simp) fun A H1 nA eA s1 => ?_
    walk_at "g"
    refine s_isQ (hE.same s1) hK.isx (.own _) hK.k3 ?_
    walk_at "g"
    refine s_isQ (hE.same s1) hK.isx (.own _) hK.k4 ?_
    walk_at "g"
    refine s_isQ (hE.same s1) hK.isx (.own _) hK.k5 ?_
    walk_at "g"
    refine mkL (by simp) fun B H2 nB eB s2 => ?_
    walk_at "g"
    refine mkCat (s2 _ _ eA) eB (by simp) fun C H3 nC eC s3 => ?_
    have S3 := s1.trans (s2.trans s3)
    walk_at "g"
    refine s_isQ (hE.same S3) hK.isx (.own _) hK.k6 ?_
    walk_at "g"
    refine s_isQ (hE.same S3) hK.isx (.own _) hK.k7 ?_
    walk_at "g"
    refine s_isQ (hE.same S3) hK.isx (.own _) hK.k8 ?_
    walk_at "g"
    refine mkL (by simp) fun B2 H4 nB2 eB2 s4 => ?_
    walk_at "g"
    refine mkCat (s4 _ _ eC) eB2 (by simp) fun C2 H5 nC2 eC2 s5 => ?_
    have S5 := S3.trans (s4.trans s5)
    walk_at "g"
    refine s_isQ (hE.same S5) hK.isx (.own _) hK.k9 ?_
    walk_at "g"
    refine mkL (by simp) fun B3 H6 nB3 eB3 s6 => ?_
    walk_at "g"
    refine mkCat (s6 _ _ eC2) eB3 (by simp) fun C3 H7 nC3 eC3 s7 => ?_
    exact k C3 H7 (S5.trans (s6.trans s7)) eC3

theorem kd_NoNumber (T : Txt K mg) : Kd K (He.ga K "NoNumber") (fun j => j.val == 0) := ⟨i_NoNumber T, k_NoNumber_NoNumber T, k_NoNumber_NoOrder T, k_NoNumber_Nought T, k_NoNumber_NoRow T, k_NoNumber_NoPrime T, k_NoNumber_NoInverse T, k_NoNumber_NoRoot T, k_NoNumber_TooMany T, k_NoNumber_TooFar T, k_NoNumber_NoText T⟩
theorem kd_NoOrder (T : Txt K mg) : Kd K (He.ga K "NoOrder") (fun j => j.val == 1) := ⟨i_NoOrder T, k_NoOrder_NoNumber T, k_NoOrder_NoOrder T, k_NoOrder_Nought T, k_NoOrder_NoRow T, k_NoOrder_NoPrime T, k_NoOrder_NoInverse T, k_NoOrder_NoRoot T, k_NoOrder_TooMany T, k_NoOrder_TooFar T, k_NoOrder_NoText T⟩
theorem kd_Nought (T : Txt K mg) : Kd K (He.ga K "Nought") (fun j => j.val == 2) := ⟨i_Nought T, k_Nought_NoNumber T, k_Nought_NoOrder T, k_Nought_Nought T, k_Nought_NoRow T, k_Nought_NoPrime T, k_Nought_NoInverse T, k_Nought_NoRoot T, k_Nought_TooMany T, k_Nought_TooFar T, k_Nought_NoText T⟩
theorem kd_NoRow (T : Txt K mg) : Kd K (He.ga K "NoRow") (fun j => j.val == 3) := ⟨i_NoRow T, k_NoRow_NoNumber T, k_NoRow_NoOrder T, k_NoRow_Nought T, k_NoRow_NoRow T, k_NoRow_NoPrime T, k_NoRow_NoInverse T, k_NoRow_NoRoot T, k_NoRow_TooMany T, k_NoRow_TooFar T, k_NoRow_NoText T⟩
theorem kd_NoPrime (T : Txt K mg) : Kd K (He.ga K "NoPrime") (fun j => j.val == 4) := ⟨i_NoPrime T, k_NoPrime_NoNumber T, k_NoPrime_NoOrder T, k_NoPrime_Nought T, k_NoPrime_NoRow T, k_NoPrime_NoPrime T, k_NoPrime_NoInverse T, k_NoPrime_NoRoot T, k_NoPrime_TooMany T, k_NoPrime_TooFar T, k_NoPrime_NoText T⟩
theorem kd_NoInverse (T : Txt K mg) : Kd K (He.ga K "NoInverse") (fun j => j.val == 5) := ⟨i_NoInverse T, k_NoInverse_NoNumber T, k_NoInverse_NoOrder T, k_NoInverse_Nought T, k_NoInverse_NoRow T, k_NoInverse_NoPrime T, k_NoInverse_NoInverse T, k_NoInverse_NoRoot T, k_NoInverse_TooMany T, k_NoInverse_TooFar T, k_NoInverse_NoText T⟩
theorem kd_NoRoot (T : Txt K mg) : Kd K (He.ga K "NoRoot") (fun j => j.val == 6) := ⟨i_NoRoot T, k_NoRoot_NoNumber T, k_NoRoot_NoOrder T, k_NoRoot_Nought T, k_NoRoot_NoRow T, k_NoRoot_NoPrime T, k_NoRoot_NoInverse T, k_NoRoot_NoRoot T, k_NoRoot_TooMany T, k_NoRoot_TooFar T, k_NoRoot_NoText T⟩
theorem kd_TooMany (T : Txt K mg) : Kd K (He.ga K "TooMany") (fun j => j.val == 7) := ⟨i_TooMany T, k_TooMany_NoNumber T, k_TooMany_NoOrder T, k_TooMany_Nought T, k_TooMany_NoRow T, k_TooMany_NoPrime T, k_TooMany_NoInverse T, k_TooMany_NoRoot T, k_TooMany_TooMany T, k_TooMany_TooFar T, k_TooMany_NoText T⟩
theorem kd_TooFar (T : Txt K mg) : Kd K (He.ga K "TooFar") (fun j => j.val == 8) := ⟨i_TooFar T, k_TooFar_NoNumber T, k_TooFar_NoOrder T, k_TooFar_Nought T, k_TooFar_NoRow T, k_TooFar_NoPrime T, k_TooFar_NoInverse T, k_TooFar_NoRoot T, k_TooFar_TooMany T, k_TooFar_TooFar T, k_TooFar_NoText T⟩
theorem kd_NoText (T : Txt K mg) : Kd K (He.ga K "NoText") (fun j => j.val == 9) := ⟨i_NoText T, k_NoText_NoNumber T, k_NoText_NoOrder T, k_NoText_Nought T, k_NoText_NoRow T, k_NoText_NoPrime T, k_NoText_NoInverse T, k_NoText_NoRoot T, k_NoText_TooMany T, k_NoText_TooFar T, k_NoText_NoText T⟩
theorem s_oatE {K : PySem.W.Frag} {H : Hp} {Q : VK} {σ : L2.St} {te : TE} {C fI a : Addr} {f : Str} {d : Addr} {fs : List (Str × V)} {v : V} (T : XIn K C fI f) (e1 : H a = some (R.exq a (.ref C) (some d))) (e2 : H d = some (.xd fs)) (l : fs.lookup f = some v) (q : Q v H) (h : ∀ Q' : VK, Q' (.ref a) H → te σ H Q') : R.tOat K f te σ H Q := h _ ⟨a, C, d, fs, v, rfl, e1, e2, T.xf, T.noF, l, q⟩
theorem s_mkqT (h : tMkO C sp [] ta σ H fun cls d H' => ∀ a, H' a = none → Q (.ref a) (upd H' a (R.exq a cls d))) : R.tMkQ (tMkO C sp [] ta) σ H Q := h
theorem dp_bools {K : PySem.W.Frag} {H : Hp} {q : Addr} {l : List Bool} (h : H q = some (.lst (l.map V.bl))) : Dp K H (.ref q) (.list (l.map PyData.bool)) := by
  refine .lst (SqL.of h) ?_
  clear h
  induction l with
  | nil => exact .nil
  | cons n l ih => exact .cons (.bl _) ih
theorem sh_bools (l : List Bool) : SeqAt.shaped (.list (l.map PyData.bool)) = true := shapedL fun d hd => by
  obtain ⟨q, _, rfl⟩ := List.mem_map.mp hd
  exact ⟨rfl, Nat.zero_le _⟩
/-- _law_by_hand(number) -/
def sp__law_by_hand (K : PySem.W.Frag) : Sp := fun vs H Q _ => ∃ z : Int, vs = [.int z] ∧ z.natAbs < 2 ^ 60 ∧ ∀ H', Same H H' → Q (.bl true) H'
theorem ok__law_by_hand (T : Txt K mg) : FnOk P w K mg base CX0 3 (He.ga K "_law_by_hand") (fd__law_by_hand T) ["_law_number_here"] (sp__law_by_hand K) := by
  refine (F__law_by_hand T).ok sc__law_by_hand (fun vs H Q E h => ?_) (fun cdv A outer s H vs Q E hr h => ⟨_, PSs.nox (pss_cons (ps_set (i := 1) sc__law_by_hand.nd rfl (Or.inl rfl) (pe_mk (pmk_oex (x_NoPrime T).oex (x_NoPrime T).iC (x_NoPrime T).tI (ok_init_NoPrime T) (hr.mono (by decide)) (B_init_NoPrime T) .nil pass0 rfl (g_NoPrime T) (pa_cons (pv 0) pa_nil))))
      (pss_cons (ps_set (i := 2) sc__law_by_hand.nd rfl (Or.inl rfl) (pe_mk (pmk_oex (x_NoInverse T).oex (x_NoInverse T).iC (x_NoInverse T).tI (ok_init_NoInverse T) (hr.mono (by decide)) (B_init_NoInverse T) .nil pass0 rfl (g_NoInverse T) (pa_cons (pv 0) pa_nil))))
      (pss_cons (ps_set (i := 3) sc__law_by_hand.nd rfl (Or.inl rfl) (pe_mk (pmk_oex (x_NoRoot T).oex (x_NoRoot T).iC (x_NoRoot T).tI (ok_init_NoRoot T) (hr.mono (by decide)) (B_init_NoRoot T) .nil pass0 rfl (g_NoRoot T) (pa_cons (pv 0) pa_nil))))
      (pss_cons (ps_set (i := 4) sc__law_by_hand.nd rfl (Or.inl rfl) (pe_mk (pmk_oex (x_TooMany T).oex (x_TooMany T).iC (x_TooMany T).tI (ok_init_TooMany T) (hr.mono (by decide)) (B_init_TooMany T) .nil pass0 rfl (g_TooMany T) (pa_cons (pv 0) pa_nil))))
      (pss_cons (ps_set (i := 5) sc__law_by_hand.nd rfl (Or.inl rfl) (pe_mk (pmk_oex (x_TooFar T).oex (x_TooFar T).iC (x_TooFar T).tI (ok_init_TooFar T) (hr.mono (by decide)) (B_init_TooFar T) .nil pass0 rfl (g_TooFar T) (pa_cons (pv 0) pa_nil))))
      (pss_cons (ps_set (i := 6) sc__law_by_hand.nd rfl (Or.inl rfl) (pe_mk (pmk_oex (x_NoText T).oex (x_NoText T).iC (x_NoText T).tI (ok_init_NoText T) (hr.mono (by decide)) (B_init_NoText T) .nil pass0 rfl (g_NoText T) (pa_cons (pv 0) (pa_cons (pe_op op_add (pv 0) pe_int) pa_nil)))))
      (pss_cons (ps_if (pt_cmpR (op_neD hr.units) (pe_lst (pa_cons (pe_oat (pv 1)) (pa_cons (pe_oat (pv 2)) (pa_cons (pe_oat (pv 3)) (pa_cons (pe_oat (pv 4)) (pa_cons (pe_oat (pv 5)) (pa_cons (pe_oat (pv 6)) pa_nil))))))) (pe_op op_rep (pe_lst (pa_cons (pv 0) pa_nil)) pe_int) (nomark _)) (pss_one (ps_ret pe_bl)) pss_nil)
      (pss_cons (ps_set (i := 7) sc__law_by_hand.nd rfl (Or.inl rfl) (pe_lst (pa_cons (pe_mk (pmk_z (z_NoNumber T) (g_NoNumber T) rfl)) (pa_cons (pe_mk (pmk_z (z_NoOrder T) (g_NoOrder T) rfl)) (pa_cons (pe_mk (pmk_z (z_Nought T) (g_Nought T) rfl)) (pa_cons (pe_mk (pmk_z (z_NoRow T) (g_NoRow T) rfl)) (pa_cons (pv 1) (pa_cons (pv 2) (pa_cons (pv 3) (pa_cons (pv 4) (pa_cons (pv 5) (pa_cons (pv 6) pa_nil))))))))))))
      (pss_cons (ps_for PassesOwn.never rfl (pi_range1 rfl (T.fr (T.c.fact 38 rfl)) (pa_cons pe_int pa_nil)) (pg_name (i := 8) sc__law_by_hand.nd rfl (Or.inr rfl)) (pss_cons (ps_if (pt_cmpR (op_neD hr.units) (pe_call (ok__law_kinds T) (hr.mono (by decide)) rfl (g__law_kinds T) (kp__law_kinds T) (B__law_kinds T) .nil pass0 (pa_cons (pe_ix ix_seq (pv 7) (pv 8) (fun _ _ => rfl)) pa_nil)) (pe_lc (own := [("_law_j", 9)]) (tt := tYes) rfl sc__law_by_hand.nd (pi_range1 rfl (T.fr (T.c.fact 38 rfl)) (pa_cons pe_int pa_nil)) (blkOk_by (N := N__law_by_hand) (sc := defScope s__law_by_hand) (by decide +kernel)) (fun _ _ _ _ _ => (pg_name (i := 9) sc__law_by_hand.nd rfl (Or.inl rfl))) (fun _ _ _ _ _ => pts_nil) (fun _ _ _ _ _ => (pe_cmpR op_eq (pv 9) (pv 8) (nomark _)))) (nomark _)) (pss_one (ps_ret pe_bl)) pss_nil)
      (pss_one (ps_if (PW.pt (pw_or (pt_not (pt_val (pe_callB callIsQ rfl (T.fr (T.c.fact 43 rfl)) boot_isinstance (pa_cons (pe_ix ix_seq (pv 7) (pv 8) (fun _ _ => rfl)) (pa_cons (pe_glob (v := .ref (He.ga K "PrimeError")) rfl (g_PrimeError T) rfl) pa_nil))))) (pw_or1 (pt_not (pt_val (pe_callB callIsQ rfl (T.fr (T.c.fact 43 rfl)) boot_isinstance (pa_cons (pe_ix ix_seq (pv 7) (pv 8) (fun _ _ => rfl)) (pa_cons (pe_bltn (v := .ty "ValueError") rfl (T.fr (T.c.fact 44 rfl)) (by decide +kernel) rfl) pa_nil)))))))) (pss_one (ps_ret pe_bl)) pss_nil))))
      (pss_one (ps_ret (pe_cmpR op_eq (pe_oat (pv 6)) (pe_op op_add (pv 0) pe_int) (nomark _))))))))))))), ?_⟩)
  · obtain ⟨z, rfl, _⟩ := h; rfl
  · obtain ⟨z, rfl, hz, k⟩ := h
    walk_at "g"
    refine s_mkqT ?_
    walk_at "g"
    refine s_raise (x_NoPrime T).oex (x_NoPrime T).noF fun X1 H1 nX1 eX1 s1 => fun a1 na1 => ?_
    have t1 : Same H1 (upd H1 a1 (R.exq a1 (.ref (He.ga K "NoPrime")) (some X1))) := same_upd na1
    have e1 : upd H1 a1 (R.exq a1 (.ref (He.ga K "NoPrime")) (some X1)) a1 = some (R.exq a1 (.ref (He.ga K "NoPrime")) (some X1)) := upd_same
    generalize upd H1 a1 (R.exq a1 (.ref (He.ga K "NoPrime")) (some X1)) = G1 at t1 e1 ⊢
    walk_at "g"
    refine s_mkqT ?_
    walk_at "g"
    refine s_raise (x_NoInverse T).oex (x_NoInverse T).noF fun X2 H2 nX2 eX2 s2 => fun a2 na2 => ?_
    have t2 : Same H2 (upd H2 a2 (R.exq a2 (.ref (He.ga K "NoInverse")) (some X2))) := same_upd na2
    have e2 : upd H2 a2 (R.exq a2 (.ref (He.ga K "NoInverse")) (some X2)) a2 = some (R.exq a2 (.ref (He.ga K "NoInverse")) (some X2)) := upd_same
    generalize upd H2 a2 (R.exq a2 (.ref (He.ga K "NoInverse")) (some X2)) = G2 at t2 e2 ⊢
    walk_at "g"
    refine s_mkqT ?_
    walk_at "g"
    refine s_raise (x_NoRoot T).oex (x_NoRoot T).noF fun X3 H3 nX3 eX3 s3 => fun a3 na3 => ?_
    have t3 : Same H3 (upd H3 a3 (R.exq a3 (.ref (He.ga K "NoRoot")) (some X3))) := same_upd na3
    have e3 : upd H3 a3 (R.exq a3 (.ref (He.ga K "NoRoot")) (some X3)) a3 = some (R.exq a3 (.ref (He.ga K "NoRoot")) (some X3)) := upd_same
    generalize upd H3 a3 (R.exq a3 (.ref (He.ga K "NoRoot")) (some X3)) = G3 at t3 e3 ⊢
    walk_at "g"
    refine s_mkqT ?_
    walk_at "g"
    refine s_raise (x_TooMany T).oex (x_TooMany T).noF fun X4 H4 nX4 eX4 s4 => fun a4 na4 => ?_
    have t4 : Same H4 (upd H4 a4 (R.exq a4 (.ref (He.ga K "TooMany")) (some X4))) := same_upd na4
    have e4 : upd H4 a4 (R.exq a4 (.ref (He.ga K "TooMany")) (some X4)) a4 = some (R.exq a4 (.ref (He.ga K "TooMany")) (some X4)) := upd_same
    generalize upd H4 a4 (R.exq a4 (.ref (He.ga K "TooMany")) (some X4)) = G4 at t4 e4 ⊢
    walk_at "g"
    refine s_mkqT ?_
    walk_at "g"
    refine s_raise (x_TooFar T).oex (x_TooFar T).noF fun X5 H5 nX5 eX5 s5 => fun a5 na5 => ?_
    have t5 : Same H5 (upd H5 a5 (R.exq a5 (.ref (He.ga K "TooFar")) (some X5))) := same_upd na5
    have e5 : upd H5 a5 (R.exq a5 (.ref (He.ga K "TooFar")) (some X5)) a5 = some (R.exq a5 (.ref (He.ga K "TooFar")) (some X5)) := upd_same
    generalize upd H5 a5 (R.exq a5 (.ref (He.ga K "TooFar")) (some X5)) = G5 at t5 e5 ⊢
    walk_at "g"
    refine s_mkqT ?_
    walk_at "g"
    refine R.s_raise2 (x_NoText T).oex (x_NoText T).noF (y_NoText T).noF fun X6 H6 nX6 eX6 s6 => fun a6 na6 => ?_
    have t6 : Same H6 (upd H6 a6 (R.exq a6 (.ref (He.ga K "NoText")) (some X6))) := same_upd na6
    have e6 : upd H6 a6 (R.exq a6 (.ref (He.ga K "NoText")) (some X6)) a6 = some (R.exq a6 (.ref (He.ga K "NoText")) (some X6)) := upd_same
    generalize upd H6 a6 (R.exq a6 (.ref (He.ga K "NoText")) (some X6)) = G6 at t6 e6 ⊢
    have u5 : Same G5 G6 := s6.trans t6
    have u4 : Same G4 G6 := s5.trans (t5.trans u5)
    have u3 : Same G3 G6 := s4.trans (t4.trans u4)
    have u2 : Same G2 G6 := s3.trans (t3.trans u3)
    have u1 : Same G1 G6 := s2.trans (t2.trans u2)
    have u0 : Same H G6 := s1.trans (t1.trans u1)
    have E1 := u1 _ _ e1
    have F1 := u1 _ _ (t1 _ _ eX1)
    have E2 := u2 _ _ e2
    have F2 := u2 _ _ (t2 _ _ eX2)
    have E3 := u3 _ _ e3
    have F3 := u3 _ _ (t3 _ _ eX3)
    have E4 := u4 _ _ e4
    have F4 := u4 _ _ (t4 _ _ eX4)
    have E5 := u5 _ _ e5
    have F5 := u5 _ _ (t5 _ _ eX5)
    have E6 := e6
    have F6 := t6 _ _ eX6
    walk_at "g"
    refine s_oatE (x_NoPrime T) E1 F1 (v := .int z) (by simp [List.lookup]) ?_ (fun Q' q => ⟨_, rfl, q⟩)
    walk_at "g"
    refine s_oatE (x_NoInverse T) E2 F2 (v := .int z) (by simp [List.lookup]) ?_ (fun Q' q => ⟨_, rfl, q⟩)
    walk_at "g"
    refine s_oatE (x_NoRoot T) E3 F3 (v := .int z) (by simp [List.lookup]) ?_ (fun Q' q => ⟨_, rfl, q⟩)
    walk_at "g"
    refine s_oatE (x_TooMany T) E4 F4 (v := .int z) (by simp [List.lookup]) ?_ (fun Q' q => ⟨_, rfl, q⟩)
    walk_at "g"
    refine s_oatE (x_TooFar T) E5 F5 (v := .int z) (by simp [List.lookup]) ?_ (fun Q' q => ⟨_, rfl, q⟩)
    walk_at "g"
    refine s_oatE (x_NoText T) E6 F6 (v := .int z) (by first | rfl | simp [List.lookup]) ?_ (fun Q' q => ⟨_, rfl, q⟩)
    walk_at "g"
    refine mkL (by simp) fun A G7 nA eA s7 => ?_
    walk_at "g"
    refine mkL (by simp) fun B G8 nB eB s8 => ?_
    walk_at "g"
    refine ⟨B, 6, [.int z], rfl, rfl, eB, by decide, by decide, Nat.le_of_lt (line2 (show 1 * 6 ≤ 2000000 by decide)), fun W nW => ?_⟩
    have s9 : Same G8 (upd G8 W (.lst (List.replicate (6 : Int).toNat [V.int z]).flatten)) := same_upd nW
    have eW : upd G8 W (.lst (List.replicate (6 : Int).toNat [V.int z]).flatten) W = some (.lst ([z, z, z, z, z, z].map V.int)) := upd_same
    generalize upd G8 W (.lst (List.replicate (6 : Int).toNat [V.int z]).flatten) = G9 at s9 eW ⊢
    refine s_neD (.list ([z, z, z, z, z, z].map .int)) (.list ([z, z, z, z, z, z].map .int)) (dp_ints (l := [z, z, z, z, z, z]) ((s8.trans s9) _ _ eA)) (dp_ints eW) (sh_ints _) (sh_ints _) ?_
    rw [eqv_shaped (sh_ints _)]
    have S9 := u0.trans (s7.trans (s8.trans s9))
    have v9 := s7.trans (s8.trans s9)
    walk_at "g"
    refine R.s_mkq0 fun b0 K0 nb0 eb0 w0 => ?_
    walk_at "g"
    refine R.s_mkq0 fun b1 K1 nb1 eb1 w1 => ?_
    walk_at "g"
    refine R.s_mkq0 fun b2 K2 nb2 eb2 w2 => ?_
    walk_at "g"
    refine R.s_mkq0 fun b3 K3 nb3 eb3 w3 => ?_
    walk_at "g"
    refine mkL (by simp) fun R0 L0 nR0 eR0 x0 => ?_
    have y3 : Same K3 L0 := x0
    have y2 : Same K2 L0 := w3.trans y3
    have y1 : Same K1 L0 := w2.trans y2
    have y0 : Same K0 L0 := w1.trans y1
    have y9 : Same G9 L0 := w0.trans y0
    have y6 : Same G6 L0 := v9.trans y9
    have hall : ∀ i : Nat, i < 10 → ∃ a D : Addr, [V.ref b0, V.ref b1, V.ref b2, V.ref b3, V.ref a1, V.ref a2, V.ref a3, V.ref a4, V.ref a5, V.ref a6][i]? = some (V.ref a) ∧ ErAt K L0 a D ∧ Kd K D (fun j => j.val == i) ∧ PySem.W.kitOne K (.ref D) (.ref (He.ga K "PrimeError")) = some true ∧ PySem.W.kitOne K (.ref D) (.type "ValueError") = some true := fun i hi => by
      have h10 : i = 0 ∨ i = 1 ∨ i = 2 ∨ i = 3 ∨ i = 4 ∨ i = 5 ∨ i = 6 ∨ i = 7 ∨ i = 8 ∨ i = 9 := by omega
      rcases h10 with rfl | rfl | rfl | rfl | rfl | rfl | rfl | rfl | rfl | rfl
      · exact ⟨b0, He.ga K "NoNumber", rfl, ⟨none, [], y0 _ _ eb0, fun dd z => by cases z⟩, kd_NoNumber T, k_NoNumber_PrimeError T, k_NoNumber_ValueError T⟩
      · exact ⟨b1, He.ga K "NoOrder", rfl, ⟨none, [], y1 _ _ eb1, fun dd z => by cases z⟩, kd_NoOrder T, k_NoOrder_PrimeError T, k_NoOrder_ValueError T⟩
      · exact ⟨b2, He.ga K "Nought", rfl, ⟨none, [], y2 _ _ eb2, fun dd z => by cases z⟩, kd_Nought T, k_Nought_PrimeError T, k_Nought_ValueError T⟩
      · exact ⟨b3, He.ga K "NoRow", rfl, ⟨none, [], y3 _ _ eb3, fun dd z => by cases z⟩, kd_NoRow T, k_NoRow_PrimeError T, k_NoRow_ValueError T⟩
      · exact ⟨a1, He.ga K "NoPrime", rfl, ⟨some X1, _, y6 _ _ E1, fun dd z => by cases z; exact y6 _ _ F1⟩, kd_NoPrime T, k_NoPrime_PrimeError T, k_NoPrime_ValueError T⟩
      · exact ⟨a2, He.ga K "NoInverse", rfl, ⟨some X2, _, y6 _ _ E2, fun dd z => by cases z; exact y6 _ _ F2⟩, kd_NoInverse T, k_NoInverse_PrimeError T, k_NoInverse_ValueError T⟩
      · exact ⟨a3, He.ga K "NoRoot", rfl, ⟨some X3, _, y6 _ _ E3, fun dd z => by cases z; exact y6 _ _ F3⟩, kd_NoRoot T, k_NoRoot_PrimeError T, k_NoRoot_ValueError T⟩
      · exact ⟨a4, He.ga K "TooMany", rfl, ⟨some X4, _, y6 _ _ E4, fun dd z => by cases z; exact y6 _ _ F4⟩, kd_TooMany T, k_TooMany_PrimeError T, k_TooMany_ValueError T⟩
      · exact ⟨a5, He.ga K "TooFar", rfl, ⟨some X5, _, y6 _ _ E5, fun dd z => by cases z; exact y6 _ _ F5⟩, kd_TooFar T, k_TooFar_PrimeError T, k_TooFar_ValueError T⟩
      · exact ⟨a6, He.ga K "NoText", rfl, ⟨some X6, _, y6 _ _ E6, fun dd z => by cases z; exact y6 _ _ F6⟩, kd_NoText T, k_NoText_PrimeError T, k_NoText_ValueError T⟩
    walk_at "g"
    refine mkR1 10 (by omega) (by omega) (by omega) ?_
    refine for_range (n := 10) (fun i σ H' => Same L0 H' ∧ ∃ v8 v9 : Option V, σ = [some (.int z), some (.ref a1), some (.ref a2), some (.ref a3), some (.ref a4), some (.ref a5), some (.ref a6), some (.ref R0), v8, v9]) ⟨Same.refl _, _, _, rfl⟩ ?_ ?_
    · rintro i σ H' hi ⟨s0, v8, v9, rfl⟩
      obtain ⟨a, D, hix, hE, hK, hk1, hk2⟩ := hall i hi
      have eR := s0 _ _ eR0
      walk_at "g"
      refine s_ixL (SqL.of eR) (atI0 i (by omega) hix) ?_
      walk_at "g"
      refine ⟨a, D, _, rfl, hE.same s0, hK, fun F H2 s2 eF => ?_⟩
      walk_at "g"
      refine s_lc ?_
      walk_at "g"
      refine mkR1 10 (by omega) (by omega) (by omega) ?_
      intro G hG
      refine lc_range (n := 10) (fun j H3 => Same H2 H3 ∧ H3 G = some (.lst (((List.range j).map fun x => x == i).map V.bl))) ⟨same_upd hG, upd_same⟩ ?_ ?_
      · rintro j H3 hj ⟨s3, eG⟩
        walk_at "g"
        refine ⟨rfl, ?_⟩
        walk_at "g"
        have hb : decide (0 + (j : Int) = 0 + (i : Int)) = (j == i) := by
          by_cases h : j = i
          · subst h
            rw [decide_eq_true rfl]
            exact (beq_self_eq_true j).symm
          · rw [decide_eq_false (by omega)]
            exact (beq_false_of_ne h).symm
        refine ⟨_, eG, line2 (by rw [List.length_map, List.length_map, List.length_range]; omega), same_upd' s3 hG, ?_⟩
        rw [hb, upd_same, List.range_succ, List.map_append, List.map_append]; rfl
      rintro H3 ⟨s3, eG⟩
      have eF3 : H3 F = some (.lst (((List.range 10).map fun x => x == i).map V.bl)) := s3 _ _ eF
      refine s_neD _ _ (dp_bools eF3) (dp_bools eG) (sh_bools _) (sh_bools _) ?_
      rw [eqv_shaped (sh_bools _)]
      have S3 := s0.trans (s2.trans s3)
      walk_at "g"
      refine s_ixL (SqL.of (S3 _ _ eR0)) (atI0 i (by omega) hix) ?_
      walk_at "g"
      refine s_isQ (hE.same S3) hK.isx (.own _) hk1 ?_
      walk_at "g"
      refine s_ixL (SqL.of (S3 _ _ eR0)) (atI0 i (by omega) hix) ?_
      walk_at "g"
      refine s_isQ (hE.same S3) hK.isx (.ty _) hk2 ?_
      walk_at "g"
      exact ⟨S3, _, _, rfl⟩
    · rintro σ H' ⟨s0, v8, v9, rfl⟩
      walk_at "g"
      refine s_oatE (y_NoText T) ((y6.trans s0) _ _ E6) ((y6.trans s0) _ _ F6) (v := .int (z + 1)) (by first | rfl | simp [List.lookup]) ?_ (fun Q' q => ⟨_, rfl, q⟩)
      walk_at "g"
      show Q (.bl (decide (z + 1 = z + 1))) H'
      rw [decide_eq_true (rfl : z + 1 = z + 1)]
      exact k H' (u0.trans (y6.trans s0))

/-- _law_wholes(things), of a list of whole numbers -/
def sp__law_wholes : Sp := fun vs H Q _ => ∃ (D : Addr) (ns : List Int), vs = [.ref D] ∧ H D = some (.lst (ns.map V.int)) ∧ ∀ H', Same H H' → Q (.bl true) H'
theorem ok__law_wholes (T : Txt K mg) : FnOk P w K mg base CX0 1 (He.ga K "_law_wholes") (fd__law_wholes T) ["_law_things"] sp__law_wholes := by
  refine (F__law_wholes T).ok sc__law_wholes (fun vs H Q E h => ?_) (fun cdv A outer s H vs Q E hr h => ⟨_, PSs.nox (pss_one (ps_ret (pe_cmpR op_eq (pe_callB callLen rfl (T.fr (T.c.fact 40 rfl)) boot_len (pa_cons (pe_lc (own := [("_law_one", 1)]) rfl sc__law_wholes.nd (pi_list (pv 0)) (blkOk_by (N := N__law_wholes) (sc := defScope s__law_wholes) (by decide +kernel)) (fun _ _ _ _ _ => (pg_name (i := 1) sc__law_wholes.nd rfl (Or.inl rfl))) (fun _ _ _ _ _ => (pts_one (PW.pt (pw_or (pt_not (pt_val (pe_callB (R.call_isiK K rfl) rfl (T.fr (T.c.fact 43 rfl)) boot_isinstance (pa_cons (pv 1) (pa_cons (pe_bltn (v := .ty "int") rfl (T.fr (T.c.fact 42 rfl)) boot_int rfl) pa_nil))))) (pw_or1 (pt_val (pe_callB (R.call_isiK K rfl) rfl (T.fr (T.c.fact 43 rfl)) boot_isinstance (pa_cons (pv 1) (pa_cons (pe_bltn (v := .ty "bool") rfl (T.fr (T.c.fact 45 rfl)) boot_bool rfl) pa_nil))))))))) (fun _ _ _ _ _ => (pv 1))) pa_nil)) pe_int (nomark _)))), ?_⟩)
  · obtain ⟨D, ns, rfl, _⟩ := h; rfl
  · obtain ⟨D, ns, rfl, hD, k⟩ := h
    walk_at "g"
    refine s_lc ?_
    walk_at "g"
    refine ⟨⟨_, SqL.of hD⟩, fun F hF => ?_⟩
    refine lc_list (fun i H' => Same H H' ∧ H' F = some (.lst [])) ⟨same_upd hF, upd_same⟩ (fun i H' _ I => SqL.of (I.1 _ _ hD)) ?_ ?_
    · rintro i v H2 hi ⟨s2, eF⟩
      rw [List.getElem?_map] at hi
      obtain ⟨n, hn, rfl⟩ := Option.map_eq_some_iff.mp hi
      walk_at "g"
      refine ⟨rfl, ?_⟩
      walk_at "g"
      exact ⟨s2, eF⟩
    rintro H2 ⟨s2, eF⟩
    walk_at "g"
    refine s_lenL (SqL.of eF) ?_
    walk_at "g"
    exact k H2 s2
/-- _law_right(paper, b) -/
def sp__law_right (K : PySem.W.Frag) : Sp := fun vs H Q _ => ∃ (m p f : Nat) (b : Int) (t u : Addr) (pl : List (Addr × Nat × Nat)), vs = [.ref t, .int b] ∧ Pap m H t p f u pl ∧ p < 2 ^ 60 ∧ b.natAbs < 2 ^ 800 ∧ ∀ H', Same H H' → Q (.bl true) H'
theorem ok__law_right (T : Txt K mg) : FnOk P w K mg base CX0 15 (He.ga K "_law_right") (fd__law_right T) ["_law_paper_here", "_law_b"] (sp__law_right K) := by
  refine (F__law_right T).ok sc__law_right (fun vs H Q E h => ?_) (fun cdv A outer s H vs Q E hr h => ⟨_, PSs.nox (pss_cons (ps_set (i := 2) sc__law_right.nd rfl (Or.inl rfl) (pe_call (ok__law_told T) (hr.mono (by decide)) rfl (g__law_told T) (kp__law_told T) (B__law_told T) .nil pass0 (pa_cons (pe_glob (v := .ref (He.ga K "powers_of")) rfl (g_powers_of T) rfl) (pa_cons (pv 0) (pa_cons (pv 1) pa_nil)))))
      (pss_cons (ps_set (i := 3) sc__law_right.nd rfl (Or.inl rfl) (pe_call (ok_told_pl T) (hr.mono (by decide)) rfl (g__law_told T) (kp__law_told T) (B__law_told T) .nil pass0 (pa_cons (pe_glob (v := .ref (He.ga K "places_of")) rfl (g_places_of T) rfl) (pa_cons (pv 0) (pa_cons (pv 1) pa_nil)))))
      (pss_cons (ps_if (pt_cmpR op_eq (pe_op op_mod (pv 1) (pe_ix ix_seq (pv 0) pe_int (fun _ _ => rfl))) pe_int (nomark _)) (pss_one (ps_ret (pe_and (pe_cmpR (op_eqD hr.units) (pv 2) (pe_lst (pa_cons pe_non (pa_cons pe_str (pa_cons pe_non pa_nil)))) (nomark _)) (pe_one (pe_cmpR (op_eqD hr.units) (pv 3) (pv 2) (nomark _)))))) pss_nil)
      (pss_cons (ps_set (i := 4) sc__law_right.nd rfl (Or.inl rfl) (pe_call (ok__law_steps T) (hr.mono (by decide)) rfl (g__law_steps T) (kp__law_steps T) (B__law_steps T) .nil pass0 (pa_cons (pv 0) (pa_cons (pv 1) pa_nil))))
      (pss_cons (ps_if (pt_cmpR op_gt (pv 4) pe_int (nomark _)) (pss_one (ps_ret (pe_and (pe_cmpR (op_eqD hr.units) (pv 2) (pe_lst (pa_cons pe_non (pa_cons pe_str (pa_cons (pv 4) pa_nil)))) (nomark _)) (pe_one (pe_cmpR (op_eqD hr.units) (pv 3) (pv 2) (nomark _)))))) pss_nil)
      (pss_cons (ps_set (i := 5) sc__law_right.nd rfl (Or.inl rfl) (pe_lst (pa_cons pe_int pa_nil)))
      (pss_cons (ps_while PassesOwn.never (pt_cmpR op_lt (pe_callB callLen rfl (T.fr (T.c.fact 40 rfl)) boot_len (pa_cons (pv 5) pa_nil)) (pv 4) (nomark _)) (pss_one (ps_expr (pe_bm PySem.F.plainAttrs_list PySem.F.slot_list_append PySem.F.type_list_append mt_append (pv 5) (pa_cons (pe_op op_mod (pe_op op_mulW (pe_ix ix_seq (pv 5) (pe_un un_neg pe_int) (fun _ _ => rfl)) (pv 1)) (pe_ix ix_seq (pv 0) pe_int (fun _ _ => rfl))) pa_nil)))))
      (pss_cons (ps_if (PW.pt (pw_or (pt_not (pt_val (pe_callB call_isi rfl (T.fr (T.c.fact 43 rfl)) boot_isinstance (pa_cons (pe_ix ix_seq (pv 2) pe_int (fun _ _ => rfl)) (pa_cons (pe_bltn (v := .ty "list") rfl (T.fr (T.c.fact 46 rfl)) boot_list rfl) pa_nil))))) (pw_or (pt_cmpR (op_neD hr.units) (pe_ix ix_seq (pv 2) pe_int (fun _ _ => rfl)) (pv 5) (nomark _)) (pw_or (pt_not (pt_val (pe_call (ok__law_wholes T) (hr.mono (by decide)) rfl (g__law_wholes T) (kp__law_wholes T) (B__law_wholes T) .nil pass0 (pa_cons (pe_ix ix_seq (pv 2) pe_int (fun _ _ => rfl)) pa_nil)))) (pw_or1 (pt_not (pt_val (pe_callB call_isi rfl (T.fr (T.c.fact 43 rfl)) boot_isinstance (pa_cons (pe_ix ix_seq (pv 3) pe_int (fun _ _ => rfl)) (pa_cons (pe_bltn (v := .ty "dict") rfl (T.fr (T.c.fact 47 rfl)) boot_dict rfl) pa_nil)))))))))) (pss_one (ps_ret pe_bl)) pss_nil)
      (pss_cons (ps_if (PW.pt (pw_or (pt_cmpR op_ne (pe_callB call_lenD rfl (T.fr (T.c.fact 40 rfl)) boot_len (pa_cons (pe_ix ix_seq (pv 3) pe_int (fun _ _ => rfl)) pa_nil)) (pv 4) (nomark _)) (pw_or (pt_not (pt_val (pe_call (ok__law_wholes T) (hr.mono (by decide)) rfl (g__law_wholes T) (kp__law_wholes T) (B__law_wholes T) .nil pass0 (pa_cons (pe_callTy (R.call_list_vw rfl) rfl (T.fr (T.c.fact 46 rfl)) boot_list (pa_cons (pe_bm0 PySem.F.plainAttrs_dict PySem.F.slot_dict_values PySem.F.type_dict_values R.mt_dvals (pe_ix ix_seq (pv 3) pe_int (fun _ _ => rfl))) pa_nil)) pa_nil)))) (pw_or1 (pt_not (pt_val (pe_call (ok__law_wholes T) (hr.mono (by decide)) rfl (g__law_wholes T) (kp__law_wholes T) (B__law_wholes T) .nil pass0 (pa_cons (pe_callTy (call_list_dK rfl) rfl (T.fr (T.c.fact 46 rfl)) boot_list (pa_cons (pe_ix ix_seq (pv 3) pe_int (fun _ _ => rfl)) pa_nil)) pa_nil)))))))) (pss_one (ps_ret pe_bl)) pss_nil)
      (pss_cons (ps_for PassesOwn.never rfl (pi_range1 rfl (T.fr (T.c.fact 38 rfl)) (pa_cons (pv 4) pa_nil)) (pg_name (i := 6) sc__law_right.nd rfl (Or.inl rfl)) (pss_one (ps_if (pt_cmpR op_ne (pe_dget1 (hu_of hr) (pe_ix ix_seq (pv 3) pe_int (fun _ _ => rfl)) (pe_ix ix_seq (pv 5) (pv 6) (fun _ _ => rfl)) ⟨rfl, rfl, rfl, rfl⟩) (pv 6) (nomark _)) (pss_one (ps_ret pe_bl)) pss_nil)))
      (pss_cons (ps_expr (pe_bm PySem.F.plainAttrs_list PySem.F.slot_list_append PySem.F.type_list_append mt_append (pe_ix ix_seq (pv 2) pe_int (fun _ _ => rfl)) (pa_cons pe_int pa_nil)))
      (pss_cons (ps_dput (hu_of hr) (pe_ix ix_seq (pv 3) pe_int (fun _ _ => rfl)) (pe_un un_neg pe_int) pe_int rfl)
      (pss_one (ps_ret pe_bl)))))))))))))), ?_⟩)
  · obtain ⟨m, p, f, b, t, u, pl, rfl, _⟩ := h; rfl
  · obtain ⟨m, p, f, b, t, u, pl, rfl, hP, hpb, hbb, k⟩ := h
    have hp := hP.hp
    have hp2 := hp.1
    have ia := M.un_iff (p := p) (a := b)
    have uno : ∀ e, M.Ord p b e → b % (p : Int) ≠ 0 := fun e ho hz => by
      obtain ⟨j, rfl⟩ : ∃ j, e = j + 1 := ⟨e - 1, by have := ho.pos; omega⟩
      have h1 : (p : Int) ∣ b ^ (j + 1) - 1 := ho.one
      have h2 : (p : Int) ∣ b ^ (j + 1) := Int.dvd_trans (Int.dvd_of_emod_eq_zero hz) (by rw [Int.pow_succ]; exact Int.dvd_mul_left _ _)
      have h3 : (p : Int) ∣ 1 := by
        have := Int.dvd_sub h2 h1
        rwa [show b ^ (j + 1) - (b ^ (j + 1) - 1) = 1 by omega] at this
      have := Int.le_of_dvd (by decide) h3
      omega
    walk_at "g"
    refine ⟨m, p, f, b, t, u, pl, rfl, hP, by omega, hbb, fun hz F H1 s1 eF => ?_, fun e ho h4 F H1 s1 eF => ?_, fun e ho h4 F D H1 nD s1 eD eF => ?_⟩
    · walk_at "g"
      refine ⟨m, p, f, b, t, u, pl, rfl, hP.same s1, by omega, hbb, fun _ F2 H2 s2 eF2 => ?_, fun e ho => absurd hz (uno e ho), fun e ho => absurd hz (uno e ho)⟩
      walk_at "g"
      refine s_ixT (SqT.of (hP.same (s1.trans s2)).at_) (atI0 0 rfl rfl) ?_
      walk_at "g"
      refine s_i (by omega) ?_
      walk_at "g"
      refine s_itP hz ?_
      walk_at "g"
      refine mkL (by simp) fun W H3 nW eW s3 => ?_
      have sh : SeqAt.shaped (.list [.none, .str "nought", .none]) = true := by decide +kernel
      refine s_eqD (.list [.none, .str "nought", .none]) (.list [.none, .str "nought", .none]) (.lst (SqL.of ((s2.trans s3) _ _ eF)) (.cons .non (.cons (.str _) (.cons .non .nil)))) (.lst (SqL.of eW) (.cons .non (.cons (.str _) (.cons .non .nil)))) sh sh ?_
      rw [eqv_shaped sh]
      walk_at "g"
      refine s_eqD (.list [.none, .str "nought", .none]) (.list [.none, .str "nought", .none]) (.lst (SqL.of (s3 _ _ eF2)) (.cons .non (.cons (.str _) (.cons .non .nil)))) (.lst (SqL.of ((s2.trans s3) _ _ eF)) (.cons .non (.cons (.str _) (.cons .non .nil)))) sh sh ?_
      rw [eqv_shaped sh]
      exact k H3 (s1.trans (s2.trans s3))
    · walk_at "g"
      refine ⟨m, p, f, b, t, u, pl, rfl, hP.same s1, by omega, hbb, fun hz => absurd hz (uno e ho), fun e' ho' _ F2 H2 s2 eF2 => ?_, fun e' ho' h4' => by rw [M.Ord.unique hp ho' ho] at h4'; omega⟩
      obtain rfl := M.Ord.unique hp ho' ho
      walk_at "g"
      refine s_ixT (SqT.of (hP.same (s1.trans s2)).at_) (atI0 0 rfl rfl) ?_
      walk_at "g"
      refine s_i (by omega) ?_
      walk_at "g"
      refine s_itN (uno _ ho) ?_
      walk_at "g"
      refine ⟨m, p, f, e', t, u, pl, b, rfl, hP.same (s1.trans s2), by omega, by omega, ho, ?_⟩
      walk_at "g"
      refine s_itP (by omega) ?_
      walk_at "g"
      refine mkL (by simp) fun W H3 nW eW s3 => ?_
      have sh : SeqAt.shaped (.list [.none, .str "many", .int (e' : Nat)]) = true := shapedL fun d hd => by
        simp only [List.mem_cons, List.not_mem_nil, or_false] at hd
        rcases hd with rfl | rfl | rfl
        · exact ⟨by simp [PyData.canLay0], by simp [PyData.depth]⟩
        · exact ⟨by first | (simp [PyData.canLay0]; done) | (simp [PyData.canLay0]; decide +kernel), by simp [PyData.depth]⟩
        · exact ⟨by simp [PyData.canLay0], by simp [PyData.depth]⟩
      refine s_eqD (.list [.none, .str "many", .int (e' : Nat)]) (.list [.none, .str "many", .int (e' : Nat)]) (.lst (SqL.of ((s2.trans s3) _ _ eF)) (.cons .non (.cons (.str _) (.cons (.int _) .nil)))) (.lst (SqL.of eW) (.cons .non (.cons (.str _) (.cons (.int _) .nil)))) sh sh ?_
      rw [eqv_shaped sh]
      walk_at "g"
      refine s_eqD (.list [.none, .str "many", .int (e' : Nat)]) (.list [.none, .str "many", .int (e' : Nat)]) (.lst (SqL.of (s3 _ _ eF2)) (.cons .non (.cons (.str _) (.cons (.int _) .nil)))) (.lst (SqL.of ((s2.trans s3) _ _ eF)) (.cons .non (.cons (.str _) (.cons (.int _) .nil)))) sh sh ?_
      rw [eqv_shaped sh]
      exact k H3 (s1.trans (s2.trans s3))
    · walk_at "g"
      refine ⟨m, p, f, b, t, u, pl, rfl, hP.same s1, by omega, hbb, fun hz => absurd hz (uno e ho), fun e' ho' h4' => by rw [M.Ord.unique hp ho' ho] at h4'; omega, fun e' ho' _ F2 D2 H2 nD2 s2 eD2 eF2 => ?_⟩
      obtain rfl := M.Ord.unique hp ho' ho
      have e0 := ho.pos
      have hP2 := hP.same (s1.trans s2)
      walk_at "g"
      refine s_ixT (SqT.of hP2.at_) (atI0 0 rfl rfl) ?_
      walk_at "g"
      refine s_i (by omega) ?_
      walk_at "g"
      refine s_itN (uno _ ho) ?_
      walk_at "g"
      refine ⟨m, p, f, e', t, u, pl, b, rfl, hP2, by omega, by omega, ho, ?_⟩
      walk_at "g"
      refine s_itN (by omega) ?_
      walk_at "g"
      refine mkL (by simp) fun W H3 nW eW s3 => ?_
      walk_at "g"
      refine s_while (fun σ H' => Same H2 H' ∧ ∃ j : Nat, σ = [some (.ref t), some (.int b), some (.ref F), some (.ref F2), some (.int (e' : Nat)), some (.ref W), none] ∧ 0 < j ∧ j ≤ e' ∧ H' W = some (.lst ((pows p b j).map V.int))) (fun σ H' => e' - (match H' W with | some (.lst xs) => xs.length | _ => 0)) ⟨s3, 1, rfl, by decide, e0, by rw [eW, pows_one hp2]; rfl⟩ ?_
      rintro σ H' ⟨s4, j, rfl, j0, je, eW4⟩
      walk_at "g"
      refine s_lenL (SqL.of eW4) ?_
      rw [List.length_map, pows_len]
      walk_at "g"
      refine s_ite (fun c1 => ?_) (fun c1 => ?_)
      · obtain ⟨i, rfl⟩ : ∃ i, j = i + 1 := ⟨j - 1, by omega⟩
        have hr := M.pw_range (n := (p : Int)) (by omega) b i
        walk_at "g"
        refine ⟨s_tyL eW4, ?_⟩
        walk_at "g"
        refine s_ixL (SqL.of eW4) (atI_neg1 (v := V.int (M.pw p b i)) (by rw [pows_succ, List.map_append, List.map_cons, List.map_nil, List.getLast?_append]; rfl)) ?_
        walk_at "g"
        refine s_ixT (SqT.of (s4 _ _ hP2.at_)) (atI0 0 rfl rfl) ?_
        walk_at "g"
        refine s_i (by omega) ?_
        rw [M.pw_mul]
        walk_at "g"
        refine s_append eW4 (line2 (by rw [List.length_map, pows_len]; omega)) ?_
        walk_at "g"
        have hnew : upd H' W (.lst ((pows p b (i + 1)).map V.int ++ [V.int (M.pw p b (i + 1))])) W = some (.lst ((pows p b (i + 1 + 1)).map V.int)) := by
          rw [upd_same, pows_succ p b (i + 1), List.map_append]; rfl
        refine ⟨⟨same_upd' s4 nW, i + 1 + 1, rfl, by omega, by omega, hnew⟩, ?_⟩
        show e' - _ < e' - _
        rw [hnew, eW4]
        show e' - ((pows p b (i + 1 + 1)).map V.int).length < e' - ((pows p b (i + 1)).map V.int).length
        rw [List.length_map, List.length_map, pows_len, pows_len]
        omega
      · have ej : j = e' := by omega
        rw [ej] at eW4
        have S4 := s2.trans s4
        walk_at "g"
        refine s_ixL (SqL.of (S4 _ _ eF)) (atI0 0 rfl rfl) ?_
        walk_at "g"
        refine s_isi (.lst (S4 _ _ eD)) kb_ll ?_
        walk_at "g"
        refine s_ixL (SqL.of (S4 _ _ eF)) (atI0 0 rfl rfl) ?_
        walk_at "g"
        refine s_neD _ _ (dp_ints (S4 _ _ eD)) (dp_ints eW4) (sh_ints _) (sh_ints _) ?_
        rw [eqv_shaped (sh_ints _)]
        walk_at "g"
        refine s_ixL (SqL.of (S4 _ _ eF)) (atI0 0 rfl rfl) ?_
        walk_at "g"
        refine ⟨D, _, rfl, S4 _ _ eD, fun H4 s5 => ?_⟩
        walk_at "g"
        refine s_ixL (SqL.of ((s4.trans s5) _ _ eF2)) (atI0 0 rfl rfl) ?_
        walk_at "g"
        refine s_isi (.dK ((s4.trans s5) _ _ eD2)) (by decide +kernel : kitB "dict" "dict" = some true) ?_
        walk_at "g"
        refine s_ixL (SqL.of ((s4.trans s5) _ _ eF2)) (atI0 0 rfl rfl) ?_
        walk_at "g"
        refine ⟨D2, _, rfl, (s4.trans s5) _ _ eD2, ?_⟩
        rw [show (pKv (plL p b e')).length = e' by unfold pKv; rw [List.length_map, plL_len]]
        walk_at "g"
        try refine s_itnP rfl ?_
        walk_at "g"
        have eD5 := (s4.trans s5) _ _ eD2
        refine s_ixL (SqL.of ((s4.trans s5) _ _ eF2)) (atI0 0 rfl rfl) ?_
        refine ⟨.inr (.inr (.inl ⟨rfl, .inl ⟨_, eD5⟩⟩)), D2, _, rfl, rfl, eD5, fun vw nvw => ?_⟩
        have s6 : Same H4 (upd H4 vw (R.vwO vw D2)) := same_upd nvw
        have evw : upd H4 vw (R.vwO vw D2) vw = some (R.vwO vw D2) := upd_same
        generalize upd H4 vw (R.vwO vw D2) = H5 at s6 evw ⊢
        walk_at "g"
        refine ⟨vw, D2, _, rfl, evw, s6 _ _ eD5, fun l1 nl1 => ?_⟩
        have s7 : Same H5 (upd H5 l1 (.lst ((pKv (plL p b e')).map (·.2)))) := same_upd nl1
        have el1 : upd H5 l1 (.lst ((pKv (plL p b e')).map (·.2))) l1 = some (.lst (((List.range e').map fun j : Nat => (j : Int)).map V.int)) := by
          rw [upd_same]
          unfold pKv plL
          rw [List.map_map, List.map_map, List.map_map]; rfl
        generalize upd H5 l1 (.lst ((pKv (plL p b e')).map (·.2))) = H6 at s7 el1 ⊢
        walk_at "g"
        refine ⟨l1, _, rfl, el1, fun H7 s8 => ?_⟩
        have S7 := s6.trans (s7.trans s8)
        walk_at "g"
        refine s_ixL (SqL.of ((s4.trans (s5.trans S7)) _ _ eF2)) (atI0 0 rfl rfl) ?_
        walk_at "g"
        refine ⟨D2, _, rfl, S7 _ _ eD5, fun l2 nl2 => ?_⟩
        have s9 : Same H7 (upd H7 l2 (.lst ((pKv (plL p b e')).map fun kv => kV kv.1))) := same_upd nl2
        have el2 : upd H7 l2 (.lst ((pKv (plL p b e')).map fun kv => kV kv.1)) l2 = some (.lst (((List.range e').map fun j : Nat => ((M.pw p b j).toNat : Int)).map V.int)) := by
          rw [upd_same]
          unfold pKv plL
          rw [List.map_map, List.map_map, List.map_map]; rfl
        generalize upd H7 l2 (.lst ((pKv (plL p b e')).map fun kv => kV kv.1)) = H8 at s9 el2 ⊢
        walk_at "g"
        refine ⟨l2, _, rfl, el2, fun H9 s10 => ?_⟩
        have S9 := s4.trans (s5.trans (S7.trans (s9.trans s10)))
        walk_at "g"
        refine mkR1 e' (by omega) (by omega) (by omega) ?_
        refine for_range (n := e') (fun i σ H' => Same H9 H' ∧ ∃ v6 : Option V, σ = [some (.ref t), some (.int b), some (.ref F), some (.ref F2), some (.int (e' : Nat)), some (.ref W), v6]) ⟨Same.refl _, _, rfl⟩ ?_ ?_
        · rintro i σ H10 hi ⟨s11, v6, rfl⟩
          walk_at "g"
          have S11 := s5.trans (S7.trans (s9.trans (s10.trans s11)))
          unfold tDGet1
          walk_at "g"
          refine s_ixL (SqL.of ((s4.trans S11) _ _ eF2)) (atI0 0 rfl rfl) ?_
          have eD10 := S7.trans (s9.trans (s10.trans s11)) _ _ eD5
          have hxe : ((pows p b e').map V.int)[i]? = some (.int (M.pw p b i)) := by
            unfold pows
            rw [List.getElem?_map, List.getElem?_map, List.getElem?_range hi]; rfl
          refine ⟨D2, rfl, .inl ⟨_, .inl eD10⟩, ?_⟩
          walk_at "g"
          refine s_ixL (SqL.of ((s5.trans (S7.trans (s9.trans (s10.trans s11)))) _ _ eW4)) (atI0 i (by omega) hxe) ?_
          refine ⟨_, DGet.k (k := .inl (M.pw p b i)) eD10, ?_⟩
          rw [pl_look hp ho (Nat.le_refl _) hi]
          walk_at "g"
          show rNe (.int (i : Nat)) (.int (0 + (i : Int))) _ _
          walk_at "g"
          refine s_itnP (by omega) ?_
          walk_at "g"
          exact ⟨s11, _, rfl⟩
        · rintro σ H10 ⟨s11, v6, rfl⟩
          have T10 := s2.trans (s4.trans (s5.trans (S7.trans (s9.trans (s10.trans s11)))))
          have eD10 := T10 _ _ eD
          walk_at "g"
          refine s_ixL (SqL.of (T10 _ _ eF)) (atI0 0 rfl rfl) ?_
          refine ⟨s_tyL eD10, ?_⟩
          walk_at "g"
          refine s_append eD10 (line2 (by rw [List.length_map, pows_len]; omega)) ?_
          walk_at "g"
          have S10 := s1.trans T10
          have eF10 := (s4.trans (s5.trans (S7.trans (s9.trans (s10.trans s11))))) _ _ eF2
          have eD2a := S7.trans (s9.trans (s10.trans s11)) _ _ eD5
          have nFD : F2 ≠ D := fun z => by
            rw [z, eD10] at eF10
            have e1 := HO.lst.inj (Option.some.inj eF10)
            have : (V.ref D2) ∈ (pows p b e').map V.int := by rw [e1]; simp
            obtain ⟨c, _, hc⟩ := List.mem_map.mp this
            cases hc
          have nD2D : D2 ≠ D := fun z => by rw [z, eD10] at eD2a; cases eD2a
          refine s_ixL (SqL.of (by rw [upd_ne nFD]; exact eF10)) (atI0 0 rfl rfl) ?_
          walk_at "g"
          refine s_dputI (by rw [upd_ne nD2D]; exact eD2a) (line2 (by unfold pKv; rw [List.length_map, plL_len]; omega)) ?_
          walk_at "g"
          exact k _ (same_upd' (same_upd' S10 nD) (Same.none s1 nD2))

theorem pr_small {n : Nat} (h2 : 2 ≤ n) (h : (List.range n).all (fun d => decide (d < 2 ∨ n < d * d ∨ n % d ≠ 0)) = true) : M.Prime n :=
  M.prime_of_no h2 fun d h1 h3 h4 => by
    have hdn : d < n := by
      have : d * 2 ≤ d * d := Nat.mul_le_mul_left _ h1
      omega
    have := of_decide_eq_true (List.all_eq_true.mp h d (List.mem_range.mpr hdn))
    have := Nat.mod_eq_zero_of_dvd h4
    omega
theorem pr401 : M.Prime 401 := pr_small (by decide) (by decide +kernel)
theorem pr1201 : M.Prime 1201 := pr_small (by decide) (by decide +kernel)
theorem pr3209 : M.Prime 3209 := pr_small (by decide) (by decide +kernel)
theorem s_inT {K : PySem.W.Frag} {H : Hp} {Q : VK} {p : Addr} {a : Int} {ns : List Int} (hp : H p = some (.tup (ns.map V.int))) (h : Q (.bl (decide (a ∈ ns))) H) : rIn K false (.int a) (.ref p) H Q :=
  ⟨p, ns.map V.int, rfl, .inr (SqT.of hp), rfl, flat_ints ns, by rw [if_neg Bool.false_ne_true, in_ints]; exact h⟩
theorem s_andF {b : Bool} {c : TT} {σ : L2.St} {H : Hp} {QB : Bool → Hp → Prop} (hc : b = true → ∀ QB' : Bool → Hp → Prop, (∀ H', Same H H' → QB' false H') → c σ H QB') (h : ∀ H', Same H H' → QB false H') : if b = true then c σ H QB else QB false H := by
  cases b
  · exact s_iteF (h H (Same.refl _))
  · exact s_iteT (hc rfl _ h)
/-- the law -/
def sp_law (K : PySem.W.Frag) : Sp := fun vs H Q _ => ∃ (a : Addr) (ns : List Int), vs = [.ref a] ∧ ns.length ≤ 63 ∧ SqL K H a (ns.map V.int) ∧ ∀ H', Q (.bl true) H'
theorem ok_law (T : Txt K mg) : FnOk P w K mg base CX0 41 (He.ga K "law") (fd_law T) ["_law_script"] (sp_law K) := by
  refine (F_law T).ok sc_law (fun vs H Q E h => ?_) (fun cdv A outer s H vs Q E hr h => ⟨_, PSs.nox (pss_cons (ps_if (pt_not (pt_val (pe_call (ok__law_by_hand T) (hr.mono (by decide)) rfl (g__law_by_hand T) (kp__law_by_hand T) (B__law_by_hand T) .nil pass0 (pa_cons (pe_op op_mod (pe_call (ok__law_cell_at T) (hr.mono (by decide)) rfl (g__law_cell_at T) (kp__law_cell_at T) (B__law_cell_at T) .nil pass0 (pa_cons (pv 0) (pa_cons pe_int pa_nil))) (pe_op op_pow pe_int pe_int)) pa_nil)))) (pss_one (ps_ret pe_bl)) pss_nil)
      (pss_cons (ps_set (i := 1) sc_law.nd rfl (Or.inl rfl) (pe_cmpR op_eq (pe_op op_mod (pe_call (ok__law_cell_at T) (hr.mono (by decide)) rfl (g__law_cell_at T) (kp__law_cell_at T) (B__law_cell_at T) .nil pass0 (pa_cons (pv 0) (pa_cons pe_int pa_nil))) pe_int) pe_int (nomark _)))
      (pss_cons (ps_set (i := 2) sc_law.nd rfl (Or.inl rfl) (pe_call (ok__law_prime T) (hr.mono (by decide)) rfl (g__law_prime T) (kp__law_prime T) (B__law_prime T) .nil pass0 (pa_cons (pe_call (ok__law_state T) (hr.mono (by decide)) rfl (g__law_state T) (kp__law_state T) (B__law_state T) .nil pass0 (pa_cons (pe_call (ok__law_cell_at T) (hr.mono (by decide)) rfl (g__law_cell_at T) (kp__law_cell_at T) (B__law_cell_at T) .nil pass0 (pa_cons (pv 0) (pa_cons pe_int pa_nil))) (pa_cons (pv 1) pa_nil))) pa_nil)))
      (pss_cons (ps_set (i := 3) sc_law.nd rfl (Or.inl rfl) (pe_op op_mod (pe_op op_fdivW (pe_call (ok__law_cell_at T) (hr.mono (by decide)) rfl (g__law_cell_at T) (kp__law_cell_at T) (B__law_cell_at T) .nil pass0 (pa_cons (pv 0) (pa_cons pe_int pa_nil))) pe_int) pe_int))
      (pss_cons (ps_if (pt_cmpR op_eq (pe_op op_mod (pe_op op_fdivW (pe_call (ok__law_cell_at T) (hr.mono (by decide)) rfl (g__law_cell_at T) (kp__law_cell_at T) (B__law_cell_at T) .nil pass0 (pa_cons (pv 0) (pa_cons pe_int pa_nil))) pe_int) pe_int) pe_int (nomark _)) (pss_one (ps_set (i := 2) sc_law.nd rfl (Or.inl rfl) (pe_ix ix_seq (pe_lst (pa_cons pe_int (pa_cons pe_int (pa_cons pe_int pa_nil)))) (pv 3) (fun _ _ => rfl)))) pss_nil)
      (pss_cons (ps_set (i := 4) sc_law.nd rfl (Or.inl rfl) (pe_call (ok__law_paper T) (hr.mono (by decide)) rfl (g__law_paper T) (kp__law_paper T) (B__law_paper T) .nil pass0 (pa_cons (pv 2) pa_nil)))
      (pss_cons (ps_if (PW.pt (pw_and (pt_cmpR op_in_seq (pv 2) (pe_tup (pa_cons pe_int (pa_cons pe_int (pa_cons pe_int pa_nil)))) rfl) (pw_and1 (pt_not (pt_val (pe_call (ok__law_right T) (hr.mono (by decide)) rfl (g__law_right T) (kp__law_right T) (B__law_right T) .nil pass0 (pa_cons (pv 4) (pa_cons (pe_call (ok__law_power T) (hr.mono (by decide)) rfl (g__law_power T) (kp__law_power T) (B__law_power T) .nil pass0 (pa_cons (pv 2) (pa_cons (pe_ix ix_seq (pv 4) pe_int (fun _ _ => rfl)) (pa_cons (pe_ix ix_seq (pe_lst (pa_cons pe_int (pa_cons pe_int (pa_cons pe_int pa_nil)))) (pv 3) (fun _ _ => rfl)) pa_nil)))) pa_nil)))))))) (pss_one (ps_ret pe_bl)) pss_nil)
      (pss_cons (ps_for PassesOwn.never rfl (pi_list (pe_op op_cat (pe_slice sl_list (pv 0) (po_some pe_int) (po_some pe_int)) (pe_lst (pa_cons pe_int pa_nil)))) (pg_name (i := 5) sc_law.nd rfl (Or.inl rfl)) (pss_cons (ps_set (i := 6) sc_law.nd rfl (Or.inl rfl) (pe_call (ok__law_state T) (hr.mono (by decide)) rfl (g__law_state T) (kp__law_state T) (B__law_state T) .nil pass0 (pa_cons (pv 5) (pa_cons (pv 1) pa_nil))))
      (pss_cons (ps_set (i := 7) sc_law.nd rfl (Or.inl rfl) (pe_call (ok__law_number T) (hr.mono (by decide)) rfl (g__law_number T) (kp__law_number T) (B__law_number T) .nil pass0 (pa_cons (pv 6) pa_nil)))
      (pss_cons (ps_if (pt_cmpR op_eq (pe_call (ok__law_take T) (hr.mono (by decide)) rfl (g__law_take T) (kp__law_take T) (B__law_take T) .nil pass0 (pa_cons (pv 6) (pa_cons pe_int pa_nil))) pe_int (nomark _)) (pss_cons (ps_set (i := 8) sc_law.nd rfl (Or.inl rfl) pe_int)
      (pss_cons (ps_for PassesOwn.never rfl (pi_tup (pe_ix ix_seq (pv 4) pe_int (fun _ _ => rfl))) (pg_name (i := 9) sc_law.nd rfl (Or.inl rfl)) (pss_one (ps_if (PW.pt (pw_and (pt_cmpR op_lt (pe_ix ix_seq (pe_ix ix_seq (pv 9) pe_int (fun _ _ => rfl)) pe_int (fun _ _ => rfl)) pe_int (nomark _)) (pw_and1 (pt_cmpR op_gt (pe_call (ok__law_take T) (hr.mono (by decide)) rfl (g__law_take T) (kp__law_take T) (B__law_take T) .nil pass0 (pa_cons (pv 6) (pa_cons pe_int pa_nil))) pe_int (nomark _))))) (pss_one (ps_set (i := 8) sc_law.nd rfl (Or.inl rfl) (pe_op op_mulW (pv 8) (pe_ix ix_seq (pe_ix ix_seq (pv 9) pe_int (fun _ _ => rfl)) pe_int (fun _ _ => rfl))))) pss_nil)))
      (pss_one (ps_set (i := 7) sc_law.nd rfl (Or.inl rfl) (pe_call (ok__law_power T) (hr.mono (by decide)) rfl (g__law_power T) (kp__law_power T) (B__law_power T) .nil pass0 (pa_cons (pe_ix ix_seq (pv 4) pe_int (fun _ _ => rfl)) (pa_cons (pe_ix ix_seq (pv 4) pe_int (fun _ _ => rfl)) (pa_cons (pe_op op_mulW (pe_op op_fdivW (pe_op op_sub (pe_ix ix_seq (pv 4) pe_int (fun _ _ => rfl)) pe_int) (pv 8)) (pe_op op_add pe_int (pe_call (ok__law_take T) (hr.mono (by decide)) rfl (g__law_take T) (kp__law_take T) (B__law_take T) .nil pass0 (pa_cons (pv 6) (pa_cons pe_int pa_nil))))) pa_nil)))))))) pss_nil)
      (pss_one (ps_if (PW.pt (pw_or (pt_not (pt_val (pe_call (ok__law_right T) (hr.mono (by decide)) rfl (g__law_right T) (kp__law_right T) (B__law_right T) .nil pass0 (pa_cons (pv 4) (pa_cons (pv 7) pa_nil))))) (pw_or1 (pt_not (pt_val (pe_call (ok__law_right T) (hr.mono (by decide)) rfl (g__law_right T) (kp__law_right T) (B__law_right T) .nil pass0 (pa_cons (pv 4) (pa_cons (pv 7) pa_nil)))))))) (pss_one (ps_ret pe_bl)) pss_nil))))))
      (pss_one (ps_ret pe_bl)))))))))), ?_⟩)
  · obtain ⟨a, ns, rfl, _⟩ := h; rfl
  · obtain ⟨a, ns, rfl, hlen, hS, k⟩ := h
    walk_at "g"
    refine ⟨a, ns, 2, rfl, hS, fun z0 => ?_⟩
    walk_at "g"
    refine ⟨_, rfl, by omega, fun H1 s1 => ?_⟩
    walk_at "g"
    refine ⟨a, ns, 1, rfl, s1.seq hS, fun z1 => ?_⟩
    walk_at "g"
    refine ⟨a, ns, 0, rfl, s1.seq hS, fun z2 => ?_⟩
    walk_at "g"
    refine ⟨_, _, rfl, fun q Hq nq sq stq => ?_⟩
    walk_at "g"
    refine ⟨q, rfl, stq, fun p0 Hp hp0 hpb0 stp sp => ?_⟩
    walk_at "g"
    have S1 : Same H1 Hp := sp.same nq sq
    have S2 := s1.trans S1
    refine ⟨a, ns, 1, rfl, S2.seq hS, fun z3 => ?_⟩
    walk_at "h"
    refine s_join (fun σ' H' => Same Hp H' ∧ ∃ (p : Nat) (fr : Bool) (nr : Int), σ' = [some (.ref a), some (.bl fr), some (.int (p : Nat)), some (.int nr), none, none, none, none, none, none] ∧ M.Prime p ∧ p ≤ 999999937 ∧ 0 ≤ nr ∧ nr < 3) ?_ fun N J => ?_
    case refine_2 =>
      walk_at "g"
      refine ⟨a, ns, 1, rfl, S2.seq hS, fun z4 => ?_⟩
      walk_at "g"
      refine s_ite (fun c => ?_) (fun c => ?_)
      · walk_at "g"
        refine mkL (by simp) fun L H2 nL eL s2 => ?_
        walk_at "g"
        refine s_pickN (P := fun z => z = 401 ∨ z = 1201 ∨ z = 3209) [401, 1201, 3209] eL (by simp only [List.length_cons, List.length_nil]; omega) (by decide) fun z hz => ?_
        have hz' : ∃ p : Nat, z = p ∧ M.Prime p ∧ p ≤ 999999937 := by
          rcases hz with rfl | rfl | rfl
          · exact ⟨401, rfl, pr401, by decide⟩
          · exact ⟨1201, rfl, pr1201, by decide⟩
          · exact ⟨3209, rfl, pr3209, by decide⟩
        obtain ⟨p, rfl, hp, hpb⟩ := hz'
        walk_at "g"
        exact J _ _ ⟨s2, p, _, _, rfl, hp, hpb, by omega, by omega⟩
      · walk_at "g"
        exact J _ _ ⟨Same.refl _, p0, _, _, rfl, hp0, hpb0, by omega, by omega⟩
    rintro σ' H' ⟨s2, p, fr, nr, rfl, hp, hpb, nr0, nr3⟩
    walk_at "g"
    refine ⟨p, rfl, hp, by omega, by omega, fun t Ht ht st => ?_⟩
    have S3 := S2.trans (s2.trans st)
    obtain ⟨m, f, u, pl, em, hP⟩ := ht.pap'
    have hp2 := hp.1
    have hf := hP.hf
    walk_at "g"
    refine mkT (by simp) fun W H4 nW eW s4 => ?_
    have S4 := S3.trans s4
    have hP4 := hP.same s4
    refine s_inT (ns := [401, 1201, 3209]) eW ?_
    walk_at "g"
    refine s_andF (fun _ QB' hQ => ?_) fun H5 s5 => ?_
    · walk_at "g"
      refine s_ixT (SqT.of hP4.at_) (atI0 1 rfl rfl) ?_
      walk_at "g"
      refine mkL (by simp) fun L H5 nL eL s5 => ?_
      walk_at "g"
      refine s_pickN (P := fun z => 0 ≤ z ∧ z < 100) [1, 3, 8] eL (by simp only [List.length_cons, List.length_nil]; omega) (by decide) fun z hz => ?_
      obtain ⟨z, rfl⟩ := Int.eq_ofNat_of_zero_le hz.1
      walk_at "g"
      refine ⟨_, _, z, rfl, by omega, by omega, ?_⟩
      have hr := M.pw_range (n := (p : Int)) (by omega) f z
      walk_at "g"
      refine ⟨m, p, f, _, t, u, pl, rfl, hP4.same s5, by omega, by omega, fun H6 s6 => ?_⟩
      walk_at "g"
      exact hQ H6 (s5.trans s6)
    have S5 := S4.trans s5
    have hP5 := hP4.same s5
    walk_at "g"
    refine mkSl (S5.seq hS) fun l H6 nl el s6 => ?_
    walk_at "g"
    refine mkL (by simp) fun l2 H7 nl2 el2 s7 => ?_
    have zl := cutV_length (ns.map V.int) (some 2) (some 22)
    rw [List.length_map] at zl
    refine mkCat (s7 _ _ el) el2 (by simp; omega) fun l3 H8 n3 e3 s8 => ?_
    walk_at "g"
    refine ⟨⟨_, SqL.of e3⟩, ?_⟩
    have hP8 := hP5.same (s6.trans (s7.trans s8))
    refine for_list (fun i σ H' => Same H8 H' ∧ ∃ r1 r2 r3 r4 r5 : Option V, σ = [some (.ref a), some (.bl fr), some (.int (p : Nat)), some (.int nr), some (.ref t), r1, r2, r3, r4, r5]) ⟨Same.refl _, _, _, _, _, _, rfl⟩ (fun i σ H' _ I => SqL.of (I.1 _ _ e3)) ?_ ?_
    · rintro i x σ H' hi ⟨hs, r1, r2, r3, r4, r5, rfl⟩
      have hc : ∃ c, x = V.int c := by
        rcases List.mem_append.mp (get_mem hi) with z | z
        · obtain ⟨c, e, _⟩ := of_mem_ints (cutV_mem z)
          exact ⟨c, e⟩
        · exact ⟨0, by simpa using z⟩
      obtain ⟨c, rfl⟩ := hc
      walk_at "g"
      refine ⟨c, fr, rfl, fun q2 H9 nq2 s9 st9 => ?_⟩
      walk_at "g"
      refine ⟨q2, rfl, st9, fun b0 H10 hb0 st10 s10 => ?_⟩
      walk_at "h"
      have S10 : Same H8 H10 := hs.trans (s10.same nq2 s9)
      refine s_join (fun σ' H' => StAt H' q2 ∧ Same H8 H' ∧ ∃ (b : Int) (r8 r9 : Option V), b.natAbs < 2 ^ 800 ∧ σ' = [some (.ref a), some (.bl fr), some (.int (p : Nat)), some (.int nr), some (.ref t), some (.int c), some (.ref q2), some (.int b), r8, r9]) ?_ fun N J => ?_
      case refine_2 =>
        walk_at "g"
        refine ⟨q2, 2, rfl, by decide, by decide, st10, fun y H11 y0 y1 st11 s11 => ?_⟩
        have S11 : Same H8 H11 := hs.trans ((s10.trans s11).same nq2 s9)
        walk_at "g"
        refine s_ite (fun cy => ?_) (fun cy => ?_)
        · have hP11 := hP8.same S11
          obtain ⟨xs, eu8, pr⟩ := hP8.ps
          have eu := S11 _ _ eu8
          have hpl : pl.length ≤ 200 := pl_len hP.hl (by omega) (by omega)
          walk_at "g"
          refine s_ixT (SqT.of hP11.at_) (atI0 2 rfl rfl) ?_
          refine ⟨u, rfl, ⟨_, SqT.of eu⟩, ?_⟩
          refine for_tup (fun i σ H' => StAt H' q2 ∧ Same H8 H' ∧ SameB q2 H11 H' ∧ ∃ (mn : Nat) (v9 : Option V), σ = [some (.ref a), some (.bl fr), some (.int (p : Nat)), some (.int nr), some (.ref t), some (.int c), some (.ref q2), some (.int b0), some (.int (mn : Nat)), v9] ∧ 0 < mn ∧ mn ≤ 30 ^ i ∧ i ≤ pl.length) ⟨st11, S11, SameB.refl _ _, 1, _, rfl, by decide, by decide, Nat.zero_le _⟩ (fun i σ H' _ I => SqT.of (I.2.1 _ _ eu8)) ?_ ?_
          · rintro i x σ H' hi ⟨st12, S12, s12, mn, v9, rfl, m0, m1, hil⟩
            obtain ⟨⟨s0, q, e0⟩, hab', tx, rfl, ex, hPs⟩ := pget pr hi
            obtain ⟨f', u', e1'⟩ := hPs.first
            have e1' : H8 s0 = some (.tup [.int (q : Nat), .int (f' : Nat), .ref u']) := e1'
            have ex : H8 tx = some (.tup [.ref s0, .int (e0 : Nat)]) := ex
            have hq : M.Prime q := (hP8.hl.primes _ (facs_mem (List.mem_of_getElem? hab'))).1
            have hq2 := hq.1
            have hil' : i < pl.length := (List.getElem?_eq_some_iff.mp hab').1
            have hb2 : mn < 2 ^ 1000 := Nat.lt_of_le_of_lt m1 (Nat.lt_of_le_of_lt (Nat.pow_le_pow_right (by decide) (show i ≤ 200 by omega)) (by decide +kernel))
            have full : ∀ {H13 : L2.Hp}, SameB q2 H11 H13 → Same H8 H13 := fun h => hs.trans ((s10.trans (s11.trans h)).same nq2 s9)
            have stay : ∀ (H13 : L2.Hp) (mn' : Nat), StAt H13 q2 → SameB q2 H' H13 → 0 < mn' → mn' ≤ 30 ^ (i + 1) → StAt H13 q2 ∧ Same H8 H13 ∧ SameB q2 H11 H13 ∧ ∃ (mn : Nat) (v9 : Option V), [some (V.ref a), some (.bl fr), some (.int (p : Nat)), some (.int nr), some (.ref t), some (.int c), some (.ref q2), some (.int b0), some (.int (mn' : Nat)), some (.ref tx)] = [some (.ref a), some (.bl fr), some (.int (p : Nat)), some (.int nr), some (.ref t), some (.int c), some (.ref q2), some (.int b0), some (.int (mn : Nat)), v9] ∧ 0 < mn ∧ mn ≤ 30 ^ (i + 1) ∧ i + 1 ≤ pl.length := fun H13 mn' st13 s13 h0 h1 =>
              ⟨st13, full (s12.trans s13), s12.trans s13, mn', _, rfl, h0, h1, hil'⟩
            have m2 : mn ≤ 30 ^ (i + 1) := Nat.le_trans m1 (Nat.pow_le_pow_right (by decide) (by omega))
            walk_at "g"
            refine s_ixT (SqT.of (S12 _ _ ex)) (atI0 0 rfl rfl) ?_
            walk_at "g"
            refine s_ixT (SqT.of (S12 _ _ e1')) (atI0 0 rfl rfl) ?_
            walk_at "g"
            refine s_ite (fun c1 => ?_) (fun c1 => ?_)
            · walk_at "g"
              refine ⟨q2, 3, rfl, by decide, by decide, st12, fun y2 H13 y20 y21 st13 s13 => ?_⟩
              walk_at "g"
              refine s_ite (fun c2 => ?_) (fun c2 => ?_)
              · have S13 := full (s12.trans s13)
                walk_at "g"
                refine s_ixT (SqT.of (S13 _ _ ex)) (atI0 0 rfl rfl) ?_
                walk_at "g"
                refine s_ixT (SqT.of (S13 _ _ e1')) (atI0 0 rfl rfl) ?_
                walk_at "g"
                rw [← Int.natCast_mul]
                walk_at "g"
                exact stay H13 (mn * q) st13 s13 (Nat.mul_pos m0 (by omega)) (by rw [Nat.pow_succ]; exact Nat.mul_le_mul m1 (by omega))
              · walk_at "g"
                exact stay H13 mn st13 s13 m0 m2
            · walk_at "g"
              try refine s_iteF ?_
              walk_at "g"
              exact stay H' mn st12 (SameB.refl _ _) m0 m2
          · rintro σ H' ⟨st12, S12, s12, mn, v9, rfl, m0, m1, hil⟩
            have full : ∀ {H13 : L2.Hp}, SameB q2 H11 H13 → Same H8 H13 := fun h => hs.trans ((s10.trans (s11.trans h)).same nq2 s9)
            have hb2 : mn < 2 ^ 1000 := Nat.lt_of_le_of_lt m1 (Nat.lt_of_le_of_lt (Nat.pow_le_pow_right (by decide) (show xs.length ≤ 200 by omega)) (by decide +kernel))
            have hP12 := hP8.same S12
            walk_at "g"
            refine s_ixT (SqT.of hP12.at_) (atI0 0 rfl rfl) ?_
            walk_at "g"
            refine s_ixT (SqT.of hP12.at_) (atI0 1 rfl rfl) ?_
            walk_at "g"
            refine s_ixT (SqT.of hP12.at_) (atI0 0 rfl rfl) ?_
            walk_at "g"
            refine s_i (divW (by omega) (Nat.lt_trans (by rw [Int.natAbs_natCast]; exact hb2) (by decide +kernel))) ?_
            rw [show (p : Int) - 1 = ((p - 1 : Nat) : Int) by omega, ← Int.natCast_ediv]
            have hdv : (p - 1) / mn ≤ p - 1 := Nat.div_le_self _ _
            generalize (p - 1) / mn = E at hdv ⊢
            walk_at "g"
            refine ⟨q2, 20, rfl, by decide, by decide, st12, fun y2 H13 y20 y21 st13 s13 => ?_⟩
            obtain ⟨y2, rfl⟩ := Int.eq_ofNat_of_zero_le y20
            walk_at "g"
            try refine s_i (mulW (by omega) (by omega)) ?_
            walk_at "g"
            refine ⟨p, f, E * (1 + y2), by push_cast; rfl, by omega, by omega, ?_⟩
            have hr := M.pw_range (n := (p : Int)) (by omega) f (E * (1 + y2))
            walk_at "g"
            exact J _ _ ⟨st13, full (s12.trans s13), _, _, _, by omega, rfl⟩
        · walk_at "g"
          exact J _ _ ⟨st11, S11, b0, _, _, by omega, rfl⟩
      rintro σ' H' ⟨st11, S11, b, r8, r9, hb, rfl⟩
      walk_at "g"
      refine ⟨m, p, f, b, t, u, pl, rfl, hP8.same S11, by omega, hb, fun H12 s12 => ?_⟩
      walk_at "g"
      refine ⟨m, p, f, b, t, u, pl, rfl, hP8.same (S11.trans s12), by omega, hb, fun H13 s13 => ?_⟩
      walk_at "g"
      exact ⟨S11.trans (s12.trans s13), _, _, _, _, _, rfl⟩
    · rintro σ H' ⟨hs, r1, r2, r3, r4, r5, rfl⟩
      walk_at "g"
      exact k H'
theorem law_end {K : PySem.W.Frag} {H : Hp} {a : Addr} {ns : List Int} (hl : ns.length ≤ 63) (hb : ∀ z ∈ ns, Builtin.Int.intBits z ≤ 1048576) (hS : SqL K H a (ns.map V.int)) : sp_law K [.ref a] H (fun v _ => v = .bl true) fun _ _ _ => False :=
  ⟨a, ns, rfl, hl, hS, fun _ => rfl⟩

theorem facts {h : Heap} {f : Addr} (X : K.In h) (G : h.Ns mainGlobals mg) (hfa : mg ("law" : Str) = some (.ref f)) (c : Told fa fn K) :
    ∃ fd : FuncData, (∀ (s : Shared) (v : Value), BindsTo s fd ⟨[v], []⟩ [("_law_script", v)]) ∧ ∀ base : Heap, K.In base → base.Ns mainGlobals mg → FnOk P w K mg base CX0 41 f fd ["_law_script"] (sp_law K) := by
  have T : Txt K mg := ⟨c, fun z => He.glo_ok X G z, fun z => He.free_ok X G z, fun z => He.int_ok X G z⟩
  have e := hfa.symm.trans (g_law T)
  cases e
  have b := FunD.bindsA (ps := ["_law_script"]) (F_law T) fun _ _ _ _ _ _ us hl => match us, hl with | [_], _ => rfl
  exact ⟨fd_law T, fun s v => b s [v] rfl, fun base _ _ => ok_law T⟩
end
abbrev RR : PySem.W.OpenRow := PySem.W.OpenLaw.row PySem.Challenge.rw_rootprime_k77_tables_of_powers
abbrev hk : PySem.W.Hook := hookR 5 fa fn
def ob (s : PySem.W.SharedT) : He.AlD := toldG 5 fa fn (HandSHeadRun.getT s)
theorem ob_eq (s : PySem.W.SharedT) : ob s = hk.obs s.abs := toldG_eq (HandSHeadRun.getT_eq s)
theorem run (w : World) : HandSHeadRun.RunEq RR (PySem.W.view RR.prog [45]) hk ob 6450 ("taken" :: "whole_of" :: "divisor" :: "inverse" :: "power" :: "plain_parting" :: "taken_out" :: "order_from" :: "order" :: "powers_of" :: "places_of" :: "_law_cell_at" :: "_law_state" :: "_law_take" :: "_law_number" :: "_law_power" :: "_law_parted" :: "_law_paper" :: "_law_is_prime" :: "_law_prime" :: "_law_steps" :: "_law_told" :: "_law_kinds" :: "_law_by_hand" :: "_law_wholes" :: "_law_right" :: "PrimeError" :: "NoNumber" :: "TooFar" :: "NoPrime" :: "NoInverse" :: "Nought" :: "NoOrder" :: "NoRoot" :: "TooMany" :: "NoText" :: "NoRow" :: "MOST_POWERS" :: []) w := by
  intro os
  kernel_rfl
end C
open PySem PySem.W PySem.Calls PyProof.Rows
set_option maxRecDepth 100000 in
set_option maxHeartbeats 0 in
theorem PySem.Challenge.cw_rootprime_k77_tables_of_powers_holds : PySem.Challenge.rw_rootprime_k77_tables_of_powers.Holds := by
  w_on; o_law
  refine HandSHeadRun.head_any (r := OpenLaw.row PySem.Challenge.rw_rootprime_k77_tables_of_powers) (q := view (OpenLaw.row PySem.Challenge.rw_rootprime_k77_tables_of_powers).prog [45]) (H := C.hk) (ob := C.ob) (M := 6450) (loose := ("taken" :: "whole_of" :: "divisor" :: "inverse" :: "power" :: "plain_parting" :: "taken_out" :: "order_from" :: "order" :: "powers_of" :: "places_of" :: "_law_cell_at" :: "_law_state" :: "_law_take" :: "_law_number" :: "_law_power" :: "_law_parted" :: "_law_paper" :: "_law_is_prime" :: "_law_prime" :: "_law_steps" :: "_law_told" :: "_law_kinds" :: "_law_by_hand" :: "_law_wholes" :: "_law_right" :: "PrimeError" :: "NoNumber" :: "TooFar" :: "NoPrime" :: "NoInverse" :: "Nought" :: "NoOrder" :: "NoRoot" :: "TooMany" :: "NoText" :: "NoRow" :: "MOST_POWERS" :: [])) (d := HandSHeadRun.topDef (OpenLaw.row PySem.Challenge.rw_rootprime_k77_tables_of_powers).prog 45) (kwd := []) C.ob_eq
    (by kernel_rfl) (fun s => by kernel_rfl) C.run (by kernel_rfl) (by kernel_rfl) (by kernel_rfl) (by rfl) (by first | assumption | decide +kernel) (by decide +kernel) ⟨rfl, rfl, rfl, rfl, rfl, by decide +kernel⟩ ?hw ?hc
  case hw => w_witness2
  case hc =>
    refine R.walk_ofEB (l := PySem.Challenge.rw_rootprime_k77_tables_of_powers) (n := 63) (k := 41) (prm := "_law_script") (CX := fun w => L2.CX0) rfl (by decide) (by kernel_rfl) ⟨rfl, by decide, by decide⟩ ?F (fun _ _ _ _ _ z => z)
    intro w mg fa h Y G hmg0
    obtain ⟨K, KX, c⟩ := Y
    have hmg : mg ("law" : PySem.Str) = some (.ref fa) := by
      have e : (HandSHeadRun.topDef (OpenLaw.row PySem.Challenge.rw_rootprime_k77_tables_of_powers).prog 45).name = ("law" : PySem.Str) := by kernel_rfl
      rw [← e]
      exact hmg0
    obtain ⟨fd, hb, hF⟩ := C.facts (P := (PySem.Challenge.rw_rootprime_k77_tables_of_powers).prog) (w := w) KX G hmg c
    exact ⟨K, fd, (C.sp_law K), KX, hb, fun H a ns hl hbits hO hS => C.law_end hl hbits hS, hF⟩

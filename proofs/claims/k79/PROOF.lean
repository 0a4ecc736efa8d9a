import PyProof.Rows.All
import Wide.All
import OpenK.AllK
import Wide.FinOn
import HandS.ForMost
import HandS.ForExc
import HandS.Wide
import HandS.IsInst
import HandS.Style
import HandS.Flow
import HandS.Conv
import HandS.Defaults
import HandS.Head0
import HandS.Head1
import HandS.Head2
import HandS.HeadEnd
import HandS.HeadHook1
import HandS.HeadHook2
import HandS.EndBits
import HandS.ExcInit
import HandS.ExcField
import HandS.ExcOwn
import HandS.ExcIs
import HandS.TryOnly
import HandS.WordsExc
import HandS.ClsMeth
import HandS.HeadNt
import HandS.Steps
import HandS.Zip
import HandS.Walk
import HandS.Small
import HandS.NoneIn
import HandS.TryMany
import HandS.TupAny
import HandS.SortInts
import HandS.SetKeys
import HandS.Iter
import PyProof.DictMoreH
import HandS.DictTup
import HandS.TupLen
import HandS.Strs
import HandS.HotCalls
import HandS.CallSlots
import KE.GoesMore
import KE.DataFind
import HandS.SetFor
import HandS.Text
import HandS.Codes
import HandS.ReplaceList
import HandS.ReplaceLit
import HandS.ReplaceDef
import PySem.Challenge.RW_rootprime_k79_texts_of_no_thing

set_option Elab.async false
set_option linter.all false
set_option maxRecDepth 100000
set_option maxHeartbeats 4000000
set_option exponentiation.threshold 5000

namespace R
open PySem PySem.Spec PyProof.Rows L2
/-! steps of a reading -/
section
variable {t u : TS} {D : Ends} {σ : L2.St} {H : Hp} {Q : VK} {te ta tb : TE} {g : TG} {i j : Nat} {v x y : V} {r : R2} {c c' : TT} {tl : TA} {QL : List V → Hp → Prop} {QB : Bool → Hp → Prop} {QS : L2.St → Hp → Prop} {a b : Int} {C : Int → Int → Prop} {f : Int → Int → V}
theorem s_seq (h : t { D with nx := u D } σ H) : tSeq t u D σ H := h
theorem s_asg (h : te σ H fun x H1 => g x σ H1 D.nx) : tAsg te g D σ H := h
theorem s_drop (h : te σ H fun _ H1 => D.nx σ H1) : tDrop te D σ H := h
theorem s_ret (h : te σ H D.rt) : tRet te D σ H := h
theorem s_next (h : D.nx σ H) : tNext D σ H := h
theorem s_if (h : c σ H fun b H1 => if b = true then t D σ H1 else u D σ H1) : tIfS c t u D σ H := h
theorem s_gname (h : QS (σ.set i (some v)) H) : gName i v σ H QS := h
theorem s_var (e : σ[i]? = some (some v)) (h : Q v H) : tVar i σ H Q := ⟨v, e, h⟩
theorem s_c (h : Q v H) : tC v σ H Q := h
theorem s_op (h : ta σ H fun x H1 => tb σ H1 fun y H2 => r x y H2 Q) : tOp r ta tb σ H Q := h
theorem s_un {r : V → Hp → VK → Prop} (h : ta σ H fun x H1 => r x H1 Q) : tUn r ta σ H Q := h
theorem s_i0 (h : Q (f a b) H) : rI0 f (.int a) (.int b) H Q := ⟨a, b, rfl, rfl, h⟩
theorem s_i (hc : C a b) (h : Q (f a b) H) : rI C f (.int a) (.int b) H Q := ⟨a, b, rfl, rfl, hc, h⟩
theorem s_u {f : Int → V} (h : Q (f a) H) : rU f (.int a) H Q := ⟨a, rfl, h⟩
theorem s_cons (h : te σ H fun x H1 => tl σ H1 fun xs H2 => QL (x :: xs) H2) : tCons te tl σ H QL := h
theorem s_nil (h : QL [] H) : tNil σ H QL := h
theorem s_test (h : ta σ H fun x H' => ∃ k, x = .bl k ∧ QB k H') : tTest ta σ H QB := h
theorem s_tB (h : ta σ H fun x H' => ∃ k, x = .bl k ∧ QB k H') : tB ta σ H QB := h
theorem s_bl {k : Bool} {P : Bool → Prop} (h : P k) : ∃ k', V.bl k = .bl k' ∧ P k' := ⟨k, rfl, h⟩
theorem s_andc (h : c σ H fun b H1 => if b = true then c' σ H1 QB else QB false H1) : tAnd c c' σ H QB := h
theorem s_orc (h : c σ H fun b H1 => if b = true then QB true H1 else c' σ H1 QB) : tOr c c' σ H QB := h
theorem s_notc (h : c σ H fun b H1 => QB (!b) H1) : tNot c σ H QB := h
theorem s_andv (h : ta σ H fun x H1 => ∃ c, x = .bl c ∧ if c = true then tb σ H1 Q else Q (.bl false) H1) : tAndV ta tb σ H Q := h
theorem s_orv (h : ta σ H fun x H1 => ∃ c, x = .bl c ∧ if c = true then Q (.bl true) H1 else tb σ H1 Q) : tOrV ta tb σ H Q := h
theorem s_notv (h : ta σ H fun x H1 => ∃ c, x = .bl c ∧ Q (.bl (!c)) H1) : tNotV ta σ H Q := h
theorem s_ifx {t : TT} (h : t σ H fun c H1 => if c = true then ta σ H1 Q else tb σ H1 Q) : tIf t ta tb σ H Q := h
theorem s_eqI (h : Q (.bl (decide (a = b))) H) : rEq (.int a) (.int b) H Q := ⟨rfl, by
  have e : decide (V.int a = V.int b) = decide (a = b) := by simp
  rw [e]; exact h⟩
theorem s_neI (h : Q (.bl (!decide (a = b))) H) : rNe (.int a) (.int b) H Q := ⟨rfl, by
  have e : decide (V.int a = V.int b) = decide (a = b) := by simp
  rw [e]; exact h⟩
theorem s_eqS {a b : Str} (h : Q (.bl (decide (a = b))) H) : rEq (.str a) (.str b) H Q := ⟨rfl, by
  have e : decide (V.str a = V.str b) = decide (a = b) := by simp
  rw [e]; exact h⟩
theorem s_neS {a b : Str} (h : Q (.bl (!decide (a = b))) H) : rNe (.str a) (.str b) H Q := ⟨rfl, by
  have e : decide (V.str a = V.str b) = decide (a = b) := by simp
  rw [e]; exact h⟩
theorem s_eqB {a b : Bool} (h : Q (.bl (decide (a = b))) H) : rEq (.bl a) (.bl b) H Q := ⟨rfl, by
  have e : decide (V.bl a = V.bl b) = decide (a = b) := by simp
  rw [e]; exact h⟩
theorem s_neB {a b : Bool} (h : Q (.bl (!decide (a = b))) H) : rNe (.bl a) (.bl b) H Q := ⟨rfl, by
  have e : decide (V.bl a = V.bl b) = decide (a = b) := by simp
  rw [e]; exact h⟩
def MkT (Q : VK) (xs : List V) (H : Hp) : Prop := xs.length ≤ sizeLine ∧ ∀ p, H p = none → Q (.ref p) (upd H p (.tup xs))
def MkL (Q : VK) (xs : List V) (H : Hp) : Prop := xs.length ≤ sizeLine ∧ ∀ p, H p = none → Q (.ref p) (upd H p (.lst xs))
theorem s_tup (h : tl σ H fun xs H1 => MkT Q xs H1) : tTup tl σ H Q := h
theorem s_lst (h : tl σ H fun xs H1 => MkL Q xs H1) : tLst tl σ H Q := h
theorem len_le {α : Type} {xs : List α} (h : xs.length ≤ 1000) : xs.length ≤ sizeLine := Nat.le_of_lt (small1000 h)
theorem s_par (h : tl σ H fun vs H1 => ∃ v w, vs = [v, w] ∧ D.nx ((σ.set i (some v)).set j (some w)) H1) : tPar i j tl D σ H := h
theorem s_par_ {P : V → V → Prop} (h : P x y) : ∃ v w, [x, y] = [v, w] ∧ P v w := ⟨x, y, rfl, h⟩
theorem s_par3 {l : Nat} (h : tl σ H fun vs H1 => ∃ u v w, vs = [u, v, w] ∧ D.nx (((σ.set i (some u)).set j (some v)).set l (some w)) H1) : tPar3 i j l tl D σ H := h
theorem s_par3_ {z : V} {P : V → V → V → Prop} (h : P x y z) : ∃ u v w, [x, y, z] = [u, v, w] ∧ P u v w := ⟨x, y, z, rfl, h⟩
theorem s_cb {r : List V → Hp → VK → Prop} (h : tl σ H fun vs H1 => r vs H1 Q) : tCB r tl σ H Q := h
theorem s_call {sp : Sp} {dvs : List V} {E : XK} (h : tl σ H fun vs H1 => sp (vs ++ dvs) H1 Q E) : tCall sp dvs E tl σ H Q := h
theorem s_callS {sp : Sp} {E : L2.St → XK} (h : tl σ H fun vs H1 => sp vs H1 Q (E σ)) : tCallS sp E tl σ H Q := h
theorem s_chain {r' : R2} {tc : TE} (h : ta σ H fun x H1 => tb σ H1 fun y H2 => r x y H2 fun z H3 => ∃ k, z = .bl k ∧ (if k = true then tc σ H3 fun w' H4 => r' y w' H4 Q else Q (.bl false) H3)) : tChain r r' ta tb tc σ H Q := h
theorem s_iteT {A B : Prop} (h : A) : if true = true then A else B := by rw [if_pos rfl]; exact h
theorem s_iteF {A B : Prop} (h : B) : if false = true then A else B := by rw [if_neg Bool.false_ne_true]; exact h
theorem s_iteNT {A B : Prop} (h : B) : if (!true) = true then A else B := h
theorem s_iteNF {A B : Prop} (h : A) : if (!false) = true then A else B := h
theorem s_ite {A B p : Prop} [Decidable p] (h1 : p → A) (h2 : ¬p → B) : if decide p = true then A else B := by
  by_cases h : p
  · rw [decide_eq_true h, if_pos rfl]; exact h1 h
  · rw [decide_eq_false h, if_neg Bool.false_ne_true]; exact h2 h
theorem s_iten {A B p : Prop} [Decidable p] (h1 : ¬p → A) (h2 : p → B) : if (!decide p) = true then A else B := by
  by_cases h : p
  · rw [decide_eq_true h]; exact s_iteF (h2 h)
  · rw [decide_eq_false h]; exact s_iteT (h1 h)
theorem s_iteb {A B : Prop} {b : Bool} (h1 : b = true → A) (h2 : b = false → B) : if b = true then A else B := by
  cases b
  · exact s_iteF (h2 rfl)
  · exact s_iteT (h1 rfl)
theorem s_itP {A B p : Prop} [Decidable p] (hp : p) (h : A) : if decide p = true then A else B := s_ite (fun _ => h) fun n => absurd hp n
theorem s_itN {A B p : Prop} [Decidable p] (hp : ¬p) (h : B) : if decide p = true then A else B := s_ite (fun n => absurd n hp) fun _ => h
theorem s_itnP {A B p : Prop} [Decidable p] (hp : p) (h : B) : if (!decide p) = true then A else B := s_iten (fun n => absurd hp n) fun _ => h
theorem s_itnN {A B p : Prop} [Decidable p] (hp : ¬p) (h : A) : if (!decide p) = true then A else B := s_iten (fun _ => h) fun n => absurd n hp
theorem s_btT {p : Prop} [Decidable p] {P : Bool → Prop} (hp : p) (h : P true) : P (decide p) := by rw [decide_eq_true hp]; exact h
theorem s_btF {p : Prop} [Decidable p] {P : Bool → Prop} (hp : ¬p) (h : P false) : P (decide p) := by rw [decide_eq_false hp]; exact h
theorem s_ixL {K : PySem.W.Frag} {p : Addr} {xs : List V} {n : Int} (h1 : SqL K H p xs) (h2 : atI xs n = some v) (h : Q v H) : rIx K (.ref p) (.int n) H Q := .inl ⟨p, xs, n, v, rfl, rfl, h1, h2, h⟩
theorem s_ixT {K : PySem.W.Frag} {p : Addr} {xs : List V} {n : Int} (h1 : SqT K H p xs) (h2 : atI xs n = some v) (h : Q v H) : rIx K (.ref p) (.int n) H Q := .inr (.inl ⟨p, xs, n, v, rfl, rfl, h1, h2, h⟩)
theorem s_isi {K : PySem.W.Frag} {a b : String} {bb : Bool} (ht : TyOf K H x (.type a)) (hk : kitB a b = some bb) (h : Q (.bl bb) H) : rIsi K [x, .ty b] H Q := ⟨x, .ty b, .type a, .type b, bb, rfl, .ty b, .base ht, kit_ty hk, h⟩
theorem kb_ii : kitB "int" "int" = some true := by decide +kernel
theorem kb_ib : kitB "int" "bool" = some false := by decide +kernel
theorem kb_bi : kitB "bool" "int" = some true := by decide +kernel
theorem kb_bb : kitB "bool" "bool" = some true := by decide +kernel
theorem kb_tt : kitB "tuple" "tuple" = some true := by decide +kernel
theorem kb_ll : kitB "list" "list" = some true := by decide +kernel
theorem kb_ti : kitB "tuple" "int" = some false := by decide +kernel
theorem kb_tl : kitB "tuple" "list" = some false := by decide +kernel
theorem kb_lt : kitB "list" "tuple" = some false := by decide +kernel
theorem kb_li : kitB "list" "int" = some false := by decide +kernel
theorem kb_ni : kitB "NoneType" "int" = some false := by decide +kernel
theorem s_isi_ii {K : PySem.W.Frag} (h : Q (.bl true) H) : rIsi K [.int a, .ty "int"] H Q := s_isi (.int a) kb_ii h
theorem s_isi_ib {K : PySem.W.Frag} (h : Q (.bl false) H) : rIsi K [.int a, .ty "bool"] H Q := s_isi (.int a) kb_ib h
theorem s_p10 {n : Nat} (h : Q (.int (10 ^ n)) H) (hn : n ≤ 1000 := by decide) : rI CPow (fun i j => V.int (i ^ j.toNat)) (.int 10) (.int (n : Int)) H Q :=
  ⟨10, n, rfl, rfl, ⟨by omega, by omega, by decide⟩, h⟩
theorem s_pow {e : Int} {n : Nat} (he : e = n) (hn : n ≤ 1000) (ha : a.natAbs < 2 ^ 64) (h : Q (.int (a ^ n)) H) : rI CPow (fun i j => V.int (i ^ j.toNat)) (.int a) (.int e) H Q :=
  ⟨a, e, rfl, rfl, ⟨by omega, by omega, ha⟩, by subst he; exact h⟩
theorem s_p10_4 (h : Q (.int (10 ^ 4)) H) : rI CPow (fun i j => V.int (i ^ j.toNat)) (.int 10) (.int 4) H Q := s_p10 (n := 4) h
theorem s_p10_5 (h : Q (.int (10 ^ 5)) H) : rI CPow (fun i j => V.int (i ^ j.toNat)) (.int 10) (.int 5) H Q := s_p10 (n := 5) h
theorem s_p10_6 (h : Q (.int (10 ^ 6)) H) : rI CPow (fun i j => V.int (i ^ j.toNat)) (.int 10) (.int 6) H Q := s_p10 (n := 6) h
theorem s_p10_8 (h : Q (.int (10 ^ 8)) H) : rI CPow (fun i j => V.int (i ^ j.toNat)) (.int 10) (.int 8) H Q := s_p10 (n := 8) h
theorem s_p10_9 (h : Q (.int (10 ^ 9)) H) : rI CPow (fun i j => V.int (i ^ j.toNat)) (.int 10) (.int 9) H Q := s_p10 (n := 9) h
theorem s_p10_12 (h : Q (.int (10 ^ 12)) H) : rI CPow (fun i j => V.int (i ^ j.toNat)) (.int 10) (.int 12) H Q := s_p10 (n := 12) h
theorem s_p10_18 (h : Q (.int (10 ^ 18)) H) : rI CPow (fun i j => V.int (i ^ j.toNat)) (.int 10) (.int 18) H Q := s_p10 (n := 18) h
theorem s_p10_29 (h : Q (.int (10 ^ 29)) H) : rI CPow (fun i j => V.int (i ^ j.toNat)) (.int 10) (.int 29) H Q := s_p10 (n := 29) h
theorem s_p10_30 (h : Q (.int (10 ^ 30)) H) : rI CPow (fun i j => V.int (i ^ j.toNat)) (.int 10) (.int 30) H Q := s_p10 (n := 30) h
theorem s_p10_39 (h : Q (.int (10 ^ 39)) H) : rI CPow (fun i j => V.int (i ^ j.toNat)) (.int 10) (.int 39) H Q := s_p10 (n := 39) h
theorem s_p10_40 (h : Q (.int (10 ^ 40)) H) : rI CPow (fun i j => V.int (i ^ j.toNat)) (.int 10) (.int 40) H Q := s_p10 (n := 40) h
theorem s_p10_49 (h : Q (.int (10 ^ 49)) H) : rI CPow (fun i j => V.int (i ^ j.toNat)) (.int 10) (.int 49) H Q := s_p10 (n := 49) h
theorem s_p10_50 (h : Q (.int (10 ^ 50)) H) : rI CPow (fun i j => V.int (i ^ j.toNat)) (.int 10) (.int 50) H Q := s_p10 (n := 50) h
theorem s_p10_51 (h : Q (.int (10 ^ 51)) H) : rI CPow (fun i j => V.int (i ^ j.toNat)) (.int 10) (.int 51) H Q := s_p10 (n := 51) h
theorem s_p10_58 (h : Q (.int (10 ^ 58)) H) : rI CPow (fun i j => V.int (i ^ j.toNat)) (.int 10) (.int 58) H Q := s_p10 (n := 58) h
theorem s_p10_59 (h : Q (.int (10 ^ 59)) H) : rI CPow (fun i j => V.int (i ^ j.toNat)) (.int 10) (.int 59) H Q := s_p10 (n := 59) h
theorem s_p10_60 (h : Q (.int (10 ^ 60)) H) : rI CPow (fun i j => V.int (i ^ j.toNat)) (.int 10) (.int 60) H Q := s_p10 (n := 60) h
theorem s_pow7 (ha : a.natAbs < 2 ^ 64) (h : Q (.int (a ^ 7)) H) : rI CPow (fun i j => V.int (i ^ j.toNat)) (.int a) (.int 7) H Q := s_pow (n := 7) rfl (by decide) ha h
theorem s_pickN {K : PySem.W.Frag} {p : Addr} {n : Int} {P : Int → Prop} (ns : List Int) (hp : H p = some (.lst (ns.map V.int))) (hn : 0 ≤ n ∧ n < ns.length) (ha : ∀ z ∈ ns, P z) (h : ∀ z, P z → Q (.int z) H) : rIx K (.ref p) (.int n) H Q := by
  obtain ⟨k, rfl⟩ := Int.eq_ofNat_of_zero_le hn.1
  have hk : k < ns.length := by omega
  exact s_ixL (SqL.of hp) (atI_nat (j := k) (v := .int ns[k]) (by rw [List.getElem?_map, List.getElem?_eq_getElem hk]; rfl)) (h _ (ha _ (List.getElem_mem hk)))
theorem s_pick2 {K : PySem.W.Frag} {p : Addr} {n : Int} {P : Int → Prop} (hp : H p = some (.lst [.int a, .int b])) (hn : 0 ≤ n ∧ n < 2) (ha : P a) (hb : P b) (h : ∀ z, P z → Q (.int z) H) : rIx K (.ref p) (.int n) H Q := by
  have e : n = 0 ∨ n = 1 := by omega
  rcases e with rfl | rfl
  · exact s_ixL (SqL.of hp) (atI_nat (j := 0) rfl) (h a ha)
  · exact s_ixL (SqL.of hp) (atI_nat (j := 1) rfl) (h b hb)
theorem s_andJ {b c : Bool} (hc : ∀ Q' : VK, Q' (.bl c) H → tb σ H Q') (h : Q (.bl (b && c)) H) : if b = true then tb σ H Q else Q (.bl false) H := by
  cases b
  · exact s_iteF h
  · exact s_iteT (hc _ h)
theorem s_orJ {b c : Bool} (hc : ∀ Q' : VK, Q' (.bl c) H → tb σ H Q') (h : Q (.bl (b || c)) H) : if b = true then Q (.bl true) H else tb σ H Q := by
  cases b
  · exact s_iteF (hc _ h)
  · exact s_iteT h
theorem s_blT {p : Prop} [Decidable p] (hp : p) (h : Q (.bl true) H) : Q (.bl (decide p)) H := by rw [decide_eq_true hp]; exact h
theorem s_blF {p : Prop} [Decidable p] (hp : ¬p) (h : Q (.bl false) H) : Q (.bl (decide p)) H := by rw [decide_eq_false hp]; exact h
theorem s_sl {r : V → Option Int → Option Int → Hp → VK → Prop} {tlo thi : TO} (h : te σ H fun x H1 => tlo σ H1 fun l H2 => thi σ H2 fun u H3 => r x l u H3 Q) : L2.tSl r te tlo thi σ H Q := h
theorem s_nopart {QO : Option Int → Hp → Prop} (h : QO none H) : tNoPart σ H QO := h
theorem s_part {QO : Option Int → Hp → Prop} (h : te σ H fun x H1 => ∃ i, x = .int i ∧ QO (some i) H1) : tPart te σ H QO := h
theorem s_int_ {P : Int → Prop} (h : P a) : ∃ i, V.int a = .int i ∧ P i := ⟨a, rfl, h⟩
theorem s_slL {K : PySem.W.Frag} {p : Addr} {xs : List V} {lo hi : Option Int} (hs : SqL K H p xs) (h : ∀ l, H l = none → Q (.ref l) (upd H l (.lst (cutV xs lo hi)))) : rSlL K (.ref p) lo hi H Q := ⟨p, xs, rfl, hs, h⟩
theorem s_for {wi : TI} {tb : TS} (h : wi σ H fun J H1 => ∃ W : Nat → Nat → L2.St → Hp → Prop, (∃ m, W 0 m σ H1) ∧ ∀ i m σ H, W i m σ H →
  (J.stop i H ∧ D.nx σ H) ∨ (J.go i H ∧ ∃ N : L2.St → Hp → Prop, (∀ σ' H', N σ' H' → ∃ m', m' < m ∧ W (i + 1) m' σ' H') ∧ ∀ x H', J.yld i H x H' → g x σ H' fun σ2 H2 => tb { D with nx := N, ct := N, bk := D.nx } σ2 H2)) : tFor wi g tb D σ H := h
theorem s_ilist {K : PySem.W.Frag} {RI : It → Hp → Prop} (h : te σ H fun x H1 => ∃ a, x = .ref a ∧ (∃ xs, SqL K H1 a xs) ∧ RI (Itl K a) H1) : iList K te σ H RI := h
theorem s_itup {K : PySem.W.Frag} {RI : It → Hp → Prop} (h : te σ H fun x H1 => ∃ a, x = .ref a ∧ (∃ xs, SqT K H1 a xs) ∧ RI (Itt K a) H1) : iTup K te σ H RI := h
theorem s_ref_ {p : Addr} {P : Addr → Prop} (h : P p) : ∃ i, V.ref p = .ref i ∧ P i := ⟨p, rfl, h⟩
theorem s_join (P : L2.St → Hp → Prop) (h1 : ∀ σ' H', P σ' H' → D.nx σ' H') (h2 : ∀ N : L2.St → Hp → Prop, (∀ σ' H', P σ' H' → N σ' H') → tIfS c t u { D with nx := N } σ H) : tIfS c t u D σ H := h2 D.nx h1
theorem s_yes (h : QB true H) : tYes σ H QB := h
theorem s_gtup {K : PySem.W.Frag} {n : Nat} {t : TGs} {p : Addr} {xs : List V} (h1 : SqT K H p xs) (h2 : xs.length = n) (h : t xs σ H QS) : gTup K n t (.ref p) σ H QS := ⟨p, xs, rfl, h1, h2, h⟩
theorem s_gcons {t : TG} {u : TGs} {r : List V} (h : t v σ H fun σ' H' => u r σ' H' QS) : gCons t u (v :: r) σ H QS := ⟨v, r, rfl, h⟩
theorem s_gnil (h : QS σ H) : gNil [] σ H QS := ⟨rfl, h⟩
theorem s_append {p : Addr} {xs : List V} (hp : H p = some (.lst xs)) (hl : xs.length < sizeLine) (h : Q .non (upd H p (.lst (xs ++ [x])))) : rAppend (.ref p) [x] H Q := ⟨p, xs, x, rfl, rfl, hp, hl, h⟩
theorem s_tyL {K : PySem.W.Frag} {p : Addr} {xs : List V} (hp : H p = some (.lst xs)) : tyV K "list" (.ref p) H := Or.inl ⟨rfl, _, Or.inl (Or.inl hp)⟩
theorem s_bm {K : PySem.W.Frag} {T : String} {r : V → List V → Hp → VK → Prop} (h : ta σ H fun x H1 => tyV K T x H1 ∧ tl σ H1 fun xs H2 => r x xs H2 Q) : tBM K T r ta tl σ H Q := h
end
/-! rules by name -/
def rAbs : List V → Hp → VK → Prop := fun xs H Q => ∃ i, xs = [.int i] ∧ Q (.int (if i < 0 then -i else i)) H
def rMax2 : List V → Hp → VK → Prop := fun xs H Q => ∃ i j, xs = [.int i, .int j] ∧ Q (.int (if j > i then j else i)) H
def rMin2 : List V → Hp → VK → Prop := fun xs H Q => ∃ i j, xs = [.int i, .int j] ∧ Q (.int (if j < i then j else i)) H
def rLenS (K : PySem.W.Frag) : List V → Hp → VK → Prop := fun xs H Q => ∃ p ys, xs = [.ref p] ∧ (SqL K H p ys ∨ SqT K H p ys) ∧ Q (.int ys.length) H
def rTupOf (K : PySem.W.Frag) : List V → Hp → VK → Prop := fun xs H Q => ∃ p ys, xs = [.ref p] ∧ ((SqL K H p ys ∧ ∀ l, H l = none → Q (.ref l) (upd H l (.tup ys))) ∨ (SqT K H p ys ∧ Q (.ref p) H))
def rLstOf (K : PySem.W.Frag) : List V → Hp → VK → Prop := fun xs H Q => ∃ p ys, xs = [.ref p] ∧ (SqL K H p ys ∨ SqT K H p ys) ∧ ∀ l, H l = none → Q (.ref l) (upd H l (.lst ys))
def rInt1 : List V → Hp → VK → Prop := fun xs H Q => (∃ i, xs = [.int i] ∧ Q (.int i) H) ∨ ∃ k, xs = [.bl k] ∧ Q (.int (if k then 1 else 0)) H
def rIns : V → List V → Hp → VK → Prop := fun x vs H Q => ∃ (l : Addr) (xs : List V) (i : Int) (y : V), x = .ref l ∧ vs = [.int i, y] ∧ H l = some (.lst xs) ∧ xs.length < sizeLine ∧ 0 ≤ i ∧ i < 2 ^ 63 ∧ Q .non (upd H l (.lst (xs.take i.toNat ++ [y] ++ xs.drop i.toNat)))
section
variable {X : Cx}
theorem mtIns : MtR X "list.insert" rIns := mt_insert
theorem callInt1 : CallR X (.type "int") rInt1 := call_int1
theorem callAbs : CallR X (.builtin "abs") rAbs := call_abs
theorem callMax2 (hc : X.calm = true) : CallR X (.builtin "max") rMax2 := call_max2 hc
theorem callMin2 (hc : X.calm = true) : CallR X (.builtin "min") rMin2 := call_min2 hc
theorem callLen : CallR X (.builtin "len") (rLenS X.K) := call_len_seq
theorem callTup : CallR X (.type "tuple") (rTupOf X.K) := call_tuple_of
theorem callLst : CallR X (.type "list") (rLstOf X.K) := call_list_of
end
section
variable {H : Hp} {Q : VK} {a b : Int} {K : PySem.W.Frag} {p : Addr} {xs : List V}
theorem s_intB {k : Bool} (h : Q (.int (if k then 1 else 0)) H) : rInt1 [.bl k] H Q := .inr ⟨k, rfl, h⟩
theorem s_abs (h : Q (.int (if a < 0 then -a else a)) H) : rAbs [.int a] H Q := ⟨a, rfl, h⟩
theorem s_max (h : Q (.int (if b > a then b else a)) H) : rMax2 [.int a, .int b] H Q := ⟨a, b, rfl, h⟩
theorem s_min (h : Q (.int (if b < a then b else a)) H) : rMin2 [.int a, .int b] H Q := ⟨a, b, rfl, h⟩
theorem s_ins0 {y : V} (hp : H p = some (.lst xs)) (hl : xs.length < sizeLine) (h : Q .non (upd H p (.lst (y :: xs)))) : rIns (.ref p) [.int 0, y] H Q := ⟨p, xs, 0, y, rfl, rfl, hp, hl, by decide, by decide, h⟩
theorem s_lenL (hs : SqL K H p xs) (h : Q (.int xs.length) H) : rLenS K [.ref p] H Q := ⟨p, xs, rfl, .inl hs, h⟩
theorem s_lenT (hs : SqT K H p xs) (h : Q (.int xs.length) H) : rLenS K [.ref p] H Q := ⟨p, xs, rfl, .inr hs, h⟩
theorem s_tupL (hs : SqL K H p xs) (h : ∀ l, H l = none → Q (.ref l) (upd H l (.tup xs))) : rTupOf K [.ref p] H Q := ⟨p, xs, rfl, .inl ⟨hs, h⟩⟩
theorem s_lstL (hs : SqL K H p xs) (h : ∀ l, H l = none → Q (.ref l) (upd H l (.lst xs))) : rLstOf K [.ref p] H Q := ⟨p, xs, rfl, .inl hs, h⟩
theorem s_lstT (hs : SqT K H p xs) (h : ∀ l, H l = none → Q (.ref l) (upd H l (.lst xs))) : rLstOf K [.ref p] H Q := ⟨p, xs, rfl, .inr hs, h⟩
end
/-! heaps -/
theorem same_upd {H : Hp} {p : Addr} {o : HO} (h : H p = none) : Same H (upd H p o) := fun b u e => by rw [upd_ne (ne_of_none e h)]; exact e
theorem same_upd' {H H' : Hp} {p : Addr} {o : HO} (s : Same H H') (h : H p = none) : Same H (upd H' p o) := fun b u e => by rw [upd_ne (ne_of_none e h)]; exact s b u e
theorem same_new {H H' : Hp} {p : Addr} {o : HO} (s : Same H H') (h : H' p = none) : Same H (upd H' p o) := s.trans (same_upd h)
theorem Same.none {H H' : Hp} (s : Same H H') {p : Addr} (h : H' p = none) : H p = none := s.free h
theorem atI0 {α : Type} {xs : List α} {v : α} {n : Int} (k : Nat) (hn : n = k) (h : xs[k]? = some v) : atI xs n = some v := by subst hn; exact atI_nat h
theorem cutV_mem {xs : List V} {lo hi : Option Int} {x : V} (h : x ∈ cutV xs lo hi) : x ∈ xs := List.mem_of_mem_drop (List.mem_of_mem_take h)
theorem get_mem {xs : List V} {i : Nat} {x : V} (h : xs[i]? = some x) : x ∈ xs := List.mem_of_getElem? h
theorem of_mem_ints {ns : List Int} {x : V} (h : x ∈ ns.map V.int) : ∃ c, x = .int c ∧ c ∈ ns := by
  obtain ⟨c, h1, h2⟩ := List.mem_map.mp h
  exact ⟨c, h2.symm, h1⟩
section
variable {H : Hp} {Q : VK} {K : PySem.W.Frag} {p : Addr} {xs : List V}
theorem mkT (hl : xs.length ≤ 1000) (h : ∀ p H', H p = none → H' p = some (.tup xs) → Same H H' → Q (.ref p) H') : MkT Q xs H := ⟨len_le hl, fun p hp => h p _ hp upd_same (same_upd hp)⟩
theorem mkL (hl : xs.length ≤ 1000) (h : ∀ p H', H p = none → H' p = some (.lst xs) → Same H H' → Q (.ref p) H') : MkL Q xs H := ⟨len_le hl, fun p hp => h p _ hp upd_same (same_upd hp)⟩
theorem mkCat {q : Addr} {zs : List V} (h1 : H p = some (.lst xs)) (h2 : H q = some (.lst zs)) (hl : xs.length + zs.length ≤ 1000) (h : ∀ l H', H l = none → H' l = some (.lst (xs ++ zs)) → Same H H' → Q (.ref l) H') : rCat (.ref p) (.ref q) H Q := ⟨p, q, xs, zs, rfl, rfl, h1, h2, Nat.le_trans hl (Nat.le_of_lt (small1000 (Nat.le_refl _))), fun l hl => h l _ hl upd_same (same_upd hl)⟩
theorem mkSlT {lo hi : Option Int} (hs : SqT K H p xs) (hn : ¬ (HT.sIx xs.length 0 lo = 0 ∧ HT.sIx xs.length xs.length hi = xs.length)) (h : ∀ l H', H l = none → H' l = some (.tup (cutV xs lo hi)) → Same H H' → Q (.ref l) H') : rSlT K (.ref p) lo hi H Q := ⟨p, xs, rfl, hs, hn, fun l hl => h l _ hl upd_same (same_upd hl)⟩
theorem mkSl {lo hi : Option Int} (hs : SqL K H p xs) (h : ∀ l H', H l = none → H' l = some (.lst (cutV xs lo hi)) → Same H H' → Q (.ref l) H') : rSlL K (.ref p) lo hi H Q := s_slL hs fun l hl => h l _ hl upd_same (same_upd hl)
end
theorem s_eqD {K : PySem.W.Frag} {H : Hp} {Q : VK} {x y : V} (d e : PyData) (hd : Dp K H x d) (he : Dp K H y e) (h1 : SeqAt.shaped d = true) (h2 : SeqAt.shaped e = true) (h : Q (.bl (PyData.eqv d e)) H) : rEqD K x y H Q := ⟨d, e, hd, he, h1, h2, h⟩
theorem s_neD {K : PySem.W.Frag} {H : Hp} {Q : VK} {x y : V} (d e : PyData) (hd : Dp K H x d) (he : Dp K H y e) (h1 : SeqAt.shaped d = true) (h2 : SeqAt.shaped e = true) (h : Q (.bl (!PyData.eqv d e)) H) : rNeD K x y H Q := ⟨d, e, hd, he, h1, h2, h⟩
theorem dp_tup1 {K : PySem.W.Frag} {H : Hp} {p : Addr} {a : Int} (h : H p = some (.tup [.int a])) : Dp K H (.ref p) (.tuple [.int a]) := .tup (SqT.of h) (.cons (.int a) .nil)
theorem dp_tup2 {K : PySem.W.Frag} {H : Hp} {p : Addr} {a b : Int} (h : H p = some (.tup [.int a, .int b])) : Dp K H (.ref p) (.tuple [.int a, .int b]) := .tup (SqT.of h) (.cons (.int a) (.cons (.int b) .nil))
theorem atI_neg1 {α : Type} {xs : List α} {v : α} (h : xs.getLast? = some v) : atI xs (-1) = some v := by
  rcases List.eq_nil_or_concat xs with e | ⟨ys, y, e⟩
  · subst e; simp at h
  · rw [List.concat_eq_append] at e
    subst e
    rw [List.getLast?_concat] at h
    cases h
    exact atI_last ys v
/-! all stands but what lies at one place -/
def SameB (p : Addr) (H H' : Hp) : Prop := ∀ b o, b ≠ p → H b = some o → H' b = some o
theorem SameB.refl (p : Addr) (H : Hp) : SameB p H H := fun _ _ _ h => h
theorem SameB.trans {p : Addr} {H H1 H2 : Hp} (a : SameB p H H1) (b : SameB p H1 H2) : SameB p H H2 := fun c o n h => b c o n (a c o n h)
theorem SameB.of {p : Addr} {H H1 : Hp} (a : Same H H1) : SameB p H H1 := fun c o _ h => a c o h
theorem SameB.put {p : Addr} {H : Hp} {o : HO} : SameB p H (upd H p o) := fun c u n h => by rw [upd_ne n]; exact h
theorem SameB.same {p : Addr} {H H1 H2 : Hp} (n : H p = none) (a : SameB p H1 H2) (s : Same H H1) : Same H H2 := fun c o h => a c o (ne_of_none h n) (s c o h)
theorem SameB.updn {p l : Addr} {H H' : Hp} {o : HO} (h : SameB p H H') (n : H l = none) : SameB p H (upd H' l o) := fun b u hb e => by rw [upd_ne (ne_of_none e n)]; exact h b u hb e
theorem ixN_nat {n d : Nat} (h : d < n) : ixN n (d : Int) = some d := by
  unfold ixN
  rw [if_pos (by omega), if_pos (by omega)]; simp
/-! ranges -/
section
variable {H : Hp} {σ : L2.St} {ta : TA} {RI : It → Hp → Prop}
def RngQ1 (RI : It → Hp → Prop) (vs : List V) (H : Hp) : Prop := ∃ j : Int, vs = [.int j] ∧ -(2 ^ 62) ≤ j ∧ j < 2 ^ 62 ∧ RI (Itr 0 j.toNat) H
def RngQ2 (RI : It → Hp → Prop) (vs : List V) (H : Hp) : Prop := ∃ i j : Int, vs = [.int i, .int j] ∧ (-(2 ^ 62) ≤ i ∧ i < 2 ^ 62 ∧ -(2 ^ 62) ≤ j ∧ j < 2 ^ 62) ∧ RI (Itr i (j - i).toNat) H
theorem s_rng1 (h : ta σ H fun vs H1 => RngQ1 RI vs H1) : iRng1 ta σ H RI := h
theorem s_rng2 (h : ta σ H fun vs H1 => RngQ2 RI vs H1) : iRng2 ta σ H RI := h
theorem mkR1 {j : Int} (n : Nat) (e : j.toNat = n) (h1 : -(2 ^ 62) ≤ j) (h2 : j < 2 ^ 62) (h : RI (Itr 0 n) H) : RngQ1 RI [.int j] H := ⟨j, rfl, h1, h2, by rw [e]; exact h⟩
theorem mkR2 {i j : Int} (n : Nat) (e : (j - i).toNat = n) (h1 : -(2 ^ 62) ≤ i ∧ i < 2 ^ 62 ∧ -(2 ^ 62) ≤ j ∧ j < 2 ^ 62) (h : RI (Itr i n) H) : RngQ2 RI [.int i, .int j] H := ⟨i, j, rfl, h1, by rw [e]; exact h⟩
end
section
variable {to ti : TE} {t : TSet} {v : V} {σ : L2.St} {H : Hp} {QS : L2.St → Hp → Prop} {p : Addr} {xs : List V} {k : Int} {QH : Hp → Prop}
theorem s_gsub (h : to σ H fun o H1 => ti σ H1 fun i H2 => t o i v H2 fun H3 => QS σ H3) : gSub to ti t v σ H QS := h
theorem s_setL (j : Nat) (hp : H p = some (.lst xs)) (hj : ixN xs.length k = some j) (h : QH (upd H p (.lst (xs.set j v)))) : rSetL (.ref p) (.int k) v H QH := ⟨p, xs, k, j, rfl, rfl, hp, hj, h⟩
end
/-! dicts -/
section
variable {H : Hp} {Q : VK} {p : Addr} {kvs : List (Key × V)} {k : Key} {v : V} {td ty tv : TE} {σ : L2.St} {D : Ends}
def DGetQ (Q : VK) (x y : V) (H : Hp) : Prop := ∃ a v, x = .ref a ∧ DGet H a y (some v) ∧ Q v H
theorem s_dget (h : td σ H fun x H1 => ty σ H1 fun y H2 => DGetQ Q x y H2) : tDGet td ty σ H Q := h
theorem s_dgetS {x : Str} (hd : H p = some (.dK kvs)) (hv : valV kvs (.inr x) = some v) (h : Q v H) : DGetQ Q (.ref p) (.str x) H := ⟨p, v, rfl, by rw [← hv]; exact DGet.k (k := .inr x) hd, h⟩
theorem s_dgetI {i : Int} (hd : H p = some (.dK kvs)) (hv : valV kvs (.inl i) = some v) (h : Q v H) : DGetQ Q (.ref p) (.int i) H := ⟨p, v, rfl, by rw [← hv]; exact DGet.k (k := .inl i) hd, h⟩
def DispQ (Q : VK) (p : Addr) (ps : List (V × V)) (H2 : Hp) : Prop := H2 p = some (.dK []) ∧ ∃ kvs : List (Key × V), ps = kvs.map (fun kv => (kV kv.1, kv.2)) ∧ kvs.length ≤ 15 ∧ Q (.ref p) (upd H2 p (.dK (mergeK [] kvs)))
theorem s_disp {trs : List (TE × TE)} (h : ∀ p H1, H p = none → H1 p = some (.dK []) → Same H H1 → tPairs trs σ H1 fun ps H2 => DispQ Q p ps H2) : tDisp trs σ H Q := fun p hp => h p _ hp upd_same (same_upd hp)
theorem s_pn {QP : List (V × V) → Hp → Prop} (h : QP [] H) : tPairs [] σ H QP := h
theorem s_pc {tk : TE} {r : List (TE × TE)} {QP : List (V × V) → Hp → Prop} (h : tk σ H fun x H1 => tv σ H1 fun y H2 => tPairs r σ H2 fun ps H3 => QP ((x, y) :: ps) H3) : tPairs ((tk, tv) :: r) σ H QP := h
theorem mkDisp {ps : List (V × V)} (kvs : List (Key × V)) (hd : H p = some (.dK [])) (e : ps = kvs.map (fun kv => (kV kv.1, kv.2))) (hl : kvs.length ≤ 15) (h : ∀ H', H' p = some (.dK (mergeK [] kvs)) → (∀ H0, H0 p = none → Same H0 H → Same H0 H') → Q (.ref p) H') : DispQ Q p ps H :=
  ⟨hd, kvs, e, hl, h _ upd_same fun H0 n s => same_upd' s n⟩
def DPutQ (P : Hp → Prop) (x y v : V) (H3 : Hp) : Prop := ∃ a H4, x = .ref a ∧ DPut H3 a y v H4 ∧ P H4
theorem s_dput (h : tv σ H fun v H1 => td σ H1 fun x H2 => ty σ H2 fun y H3 => DPutQ (D.nx σ) x y v H3) : sDPut td ty tv D σ H := h
theorem s_dputS {P : Hp → Prop} {x : Str} (hd : H p = some (.dK kvs)) (hl : kvs.length < sizeLine) (h : P (upd H p (.dK (putK kvs (.inr x) v)))) : DPutQ P (.ref p) (.str x) v H := ⟨p, _, rfl, DPut.k (k := .inr x) hd hl, h⟩
theorem s_dputI {P : Hp → Prop} {i : Int} (hd : H p = some (.dK kvs)) (hl : kvs.length < sizeLine) (h : P (upd H p (.dK (putK kvs (.inl i) v)))) : DPutQ P (.ref p) (.int i) v H := ⟨p, _, rfl, DPut.k (k := .inl i) hd hl, h⟩
end
mutual
theorem eqv_refl : ∀ d : PyData, PyData.canLay0 d = true → PyData.eqv d d = true
  | .none, _ => by simp [PyData.eqv]
  | .bool b, _ => by simp [PyData.eqv]
  | .int i, _ => by simp [PyData.eqv]
  | .str x, _ => by simp [PyData.eqv]
  | .list xs, h => by simp only [PyData.eqv]; exact eqv_refls xs (by simpa [PyData.canLay0] using h)
  | .tuple xs, h => by simp only [PyData.eqv]; exact eqv_refls xs (by simpa [PyData.canLay0] using h)
  | .dict _, h => by simp [PyData.canLay0] at h
theorem eqv_refls : ∀ ds : List PyData, PyData.canLayAll0 ds = true → PyData.eqvAll ds ds = true
  | [], _ => by simp [PyData.eqvAll]
  | d :: ds, h => by
    simp only [PyData.canLayAll0, Bool.and_eq_true] at h
    simp only [PyData.eqvAll, Bool.and_eq_true]
    exact ⟨eqv_refl d h.1, eqv_refls ds h.2⟩
end
theorem layAll {ds : List PyData} (h : ∀ d ∈ ds, PyData.canLay0 d = true) : PyData.canLayAll0 ds = true := by
  induction ds with
  | nil => simp [PyData.canLayAll0]
  | cons d ds ih =>
    simp only [PyData.canLayAll0, Bool.and_eq_true]
    exact ⟨h d (by simp), ih fun e he => h e (by simp [he])⟩
theorem depAll {ds : List PyData} {n : Nat} (h : ∀ d ∈ ds, PyData.depth d ≤ n) : PyData.depthAll ds ≤ n := by
  induction ds with
  | nil => simp [PyData.depthAll]
  | cons d ds ih =>
    simp only [PyData.depthAll]
    exact Nat.max_le.mpr ⟨h d (by simp), ih fun e he => h e (by simp [he])⟩
theorem shapedL {ds : List PyData} (h : ∀ d ∈ ds, PyData.canLay0 d = true ∧ PyData.depth d ≤ 63) : SeqAt.shaped (.list ds) = true := by
  unfold SeqAt.shaped
  simp only [PyData.canLay0, PyData.depth, Bool.and_eq_true]
  exact ⟨layAll fun d hd => (h d hd).1, decide_eq_true (Nat.succ_le_succ (depAll fun d hd => (h d hd).2))⟩
theorem shapedT {ds : List PyData} (h : ∀ d ∈ ds, PyData.canLay0 d = true ∧ PyData.depth d ≤ 63) : SeqAt.shaped (.tuple ds) = true := by
  unfold SeqAt.shaped
  simp only [PyData.canLay0, PyData.depth, Bool.and_eq_true]
  exact ⟨layAll fun d hd => (h d hd).1, decide_eq_true (Nat.succ_le_succ (depAll fun d hd => (h d hd).2))⟩
theorem eqv_shaped {d : PyData} (h : SeqAt.shaped d = true) : PyData.eqv d d = true := eqv_refl d (SeqAt.canLay_of_shaped h)
theorem in_ints (a : Int) (ns : List Int) : inV (.int a) (ns.map V.int) = decide (a ∈ ns) := by
  unfold inV
  induction ns with
  | nil => simp
  | cons n ns ih =>
    rw [List.map_cons, List.any_cons, ih]
    simp only [eqV, List.mem_cons]
    by_cases h : a = n
    · subst h; simp
    · simp [h, Ne.symm h]
theorem flat_ints (ns : List Int) : (ns.map V.int).all flatV = true := by simp [flatV]
theorem s_inL {K : PySem.W.Frag} {H : Hp} {Q : VK} {p : Addr} {a : Int} {ns : List Int} (hp : H p = some (.lst (ns.map V.int))) (h : Q (.bl (decide (a ∈ ns))) H) : rIn K false (.int a) (.ref p) H Q :=
  ⟨p, ns.map V.int, rfl, .inl (SqL.of hp), rfl, flat_ints ns, by rw [if_neg Bool.false_ne_true, in_ints]; exact h⟩
theorem s_notInL {K : PySem.W.Frag} {H : Hp} {Q : VK} {p : Addr} {a : Int} {ns : List Int} (hp : H p = some (.lst (ns.map V.int))) (h : Q (.bl (!decide (a ∈ ns))) H) : rIn K true (.int a) (.ref p) H Q :=
  ⟨p, ns.map V.int, rfl, .inl (SqL.of hp), rfl, flat_ints ns, by rw [if_pos rfl, in_ints]; exact h⟩
theorem paired_mono {α β : Type} {F G : α → β → Prop} (h : ∀ a b, F a b → G a b) : ∀ {xs : List α} {ys : List β}, Paired F xs ys → Paired G xs ys
  | _, _, .nil => .nil
  | _, _, .cons f r => .cons (h _ _ f) (paired_mono h r)
theorem paired_take {α β : Type} {F : α → β → Prop} : ∀ {xs : List α} {ys : List β} (n : Nat), Paired F xs ys → Paired F (xs.take n) (ys.take n)
  | _, _, 0, _ => by simp; exact .nil
  | _, _, _ + 1, .nil => .nil
  | _, _, n + 1, .cons f r => .cons f (paired_take n r)
theorem s_isiT2 {K : PySem.W.Frag} {H : Hp} {Q : VK} {x : V} {tp : Addr} {a b1 b2 : String} {r1 r2 : Bool} (ht : H tp = some (.tup [.ty b1, .ty b2])) (tx : TyOf K H x (.type a)) (k1 : kitB a b1 = some r1) (k2 : kitB a b2 = some r2) (h : Q (.bl (r1 || r2)) H) : rIsiT K [x, .ref tp] H Q :=
  ⟨x, tp, [.ty b1, .ty b2], .type a, [.type b1, .type b2], r1 || r2, rfl, ht, .cons (.ty b1) (.cons (.ty b2) .nil), .base tx,
    kitAny_cons (kit_ty k1) (fun e => kitAny_cons (kit_ty k2) (fun e2 => by rw [e, e2]; exact kitAny_nil) (fun e2 => by rw [e2]; simp)) (fun e => by rw [e]; rfl), h⟩
theorem s_isiT2F {K : PySem.W.Frag} {H : Hp} {Q : VK} {x : V} {tp : Addr} {a b1 b2 : String} (ht : H tp = some (.tup [.ty b1, .ty b2])) (tx : TyOf K H x (.type a)) (k1 : kitB a b1 = some false) (k2 : kitB a b2 = some false) (h : Q (.bl false) H) : rIsiT K [x, .ref tp] H Q := s_isiT2 ht tx k1 k2 h
theorem kb_nl : kitB "NoneType" "list" = some false := by decide +kernel
theorem kb_nt : kitB "NoneType" "tuple" = some false := by decide +kernel
theorem kb_nb : kitB "NoneType" "bool" = some false := by decide +kernel
theorem kb_il : kitB "int" "list" = some false := by decide +kernel
theorem kb_it : kitB "int" "tuple" = some false := by decide +kernel
theorem kb_bl : kitB "bool" "list" = some false := by decide +kernel
theorem kb_bt : kitB "bool" "tuple" = some false := by decide +kernel
theorem lookup1 {f : Str} {v : V} : List.lookup f [(f, v)] = some v := by simp [List.lookup]
theorem s_xf {a C d : Addr} {f : Str} {v : V} {i : Nat} {σ : L2.St} {H : Hp} {Q : VK} (e : σ[i]? = some (some (.ref a))) (hx : H d = some (.xd [(f, v)])) (h : Q v H) : tXf a (.ref C) (some d) C f (tVar i) σ H Q := ⟨_, e, rfl, rfl, d, _, v, rfl, hx, lookup1, h⟩
/-- a list (or tuple) of tuples -/
abbrev TupsIn (H : Hp) : List V → List (List V) → Prop := Paired fun (x : V) (r : List V) => ∃ t, x = .ref t ∧ H t = some (.tup r)
theorem TupsIn.same {H H' : Hp} (s : Same H H') : ∀ {xs : List V} {rs : List (List V)}, TupsIn H xs rs → TupsIn H' xs rs
  | _, _, .nil => .nil
  | _, _, .cons ⟨t, e, h⟩ r => .cons ⟨t, e, s _ _ h⟩ (TupsIn.same s r)
theorem TupsIn.upd {H : Hp} {p : Addr} {o : HO} {zs : List V} (hp : H p = some (.lst zs)) : ∀ {xs : List V} {rs : List (List V)}, TupsIn H xs rs → TupsIn (L2.upd H p o) xs rs
  | _, _, .nil => .nil
  | _, _, .cons ⟨t, e, h⟩ r => .cons ⟨t, e, by rw [upd_ne (fun z => by rw [z, hp] at h; cases h)]; exact h⟩ (TupsIn.upd hp r)
theorem paired_snoc {α β : Type} {F : α → β → Prop} {x : α} {y : β} : ∀ {xs : List α} {ys : List β}, Paired F xs ys → F x y → Paired F (xs ++ [x]) (ys ++ [y])
  | _, _, .nil, f => .cons f .nil
  | _, _, .cons a r, f => .cons a (paired_snoc r f)
theorem paired_set {α β : Type} {F : α → β → Prop} {x : α} {y : β} : ∀ {xs : List α} {ys : List β} (j : Nat), Paired F xs ys → F x y → Paired F (xs.set j x) (ys.set j y)
  | _, _, _, .nil, _ => .nil
  | _, _, 0, .cons _ r, f => .cons f r
  | _, _, j + 1, .cons a r, f => .cons a (paired_set j r f)
theorem TupsIn.app {H H1 : Hp} {l t : Addr} {xs r : List V} {rs : List (List V)} (hl : H l = some (.lst xs)) (ht : TupsIn H xs rs) (s : Same H H1) (nt : H t = none) (et : H1 t = some (.tup r)) :
    TupsIn (L2.upd H1 l (.lst (xs ++ [.ref t]))) (xs ++ [.ref t]) (rs ++ [r]) :=
  paired_snoc (TupsIn.upd (s _ _ hl) (ht.same s)) ⟨t, rfl, by rw [upd_ne (ne_of_none hl nt).symm]; exact et⟩
theorem TupsIn.put {H H1 : Hp} {l t : Addr} {xs r : List V} {rs : List (List V)} (j : Nat) (hl : H l = some (.lst xs)) (ht : TupsIn H xs rs) (s : Same H H1) (nt : H t = none) (et : H1 t = some (.tup r)) :
    TupsIn (L2.upd H1 l (.lst (xs.set j (.ref t)))) (xs.set j (.ref t)) (rs.set j r) :=
  paired_set j (TupsIn.upd (s _ _ hl) (ht.same s)) ⟨t, rfl, by rw [upd_ne (ne_of_none hl nt).symm]; exact et⟩
theorem take_more {α : Type} {xs : List α} {i : Nat} {x : α} (h : xs[i]? = some x) : xs.take (i + 1) = xs.take i ++ [x] := by
  rw [List.take_succ, h]; rfl
theorem pget {α β : Type} {F : α → β → Prop} : ∀ {xs : List α} {ys : List β} {i : Nat} {x : α}, Paired F xs ys → xs[i]? = some x → ∃ y, ys[i]? = some y ∧ F x y
  | _, _, _, _, .nil, e => by simp at e
  | _, _, 0, _, .cons f _, e => by simp at e; subst e; exact ⟨_, rfl, f⟩
  | _, _, i + 1, x, .cons _ r, e => by
    obtain ⟨y, h1, h2⟩ := pget (i := i) r (by simpa using e)
    exact ⟨y, by simpa using h1, h2⟩
theorem pget' {α β : Type} {F : α → β → Prop} : ∀ {xs : List α} {ys : List β} {i : Nat} {y : β}, Paired F xs ys → ys[i]? = some y → ∃ x, xs[i]? = some x ∧ F x y
  | _, _, _, _, .nil, e => by simp at e
  | _, _, 0, _, .cons f _, e => by simp at e; subst e; exact ⟨_, rfl, f⟩
  | _, _, i + 1, x, .cons _ r, e => by
    obtain ⟨y, h1, h2⟩ := pget' (i := i) r (by simpa using e)
    exact ⟨y, by simpa using h1, h2⟩
theorem s_isN {H : Hp} {Q : VK} (h : Q (.bl true) H) : L2.rIsN .non .non H Q := ⟨rfl, by rw [decide_eq_true rfl]; exact h⟩
theorem s_isNi {H : Hp} {Q : VK} {i : Int} (h : Q (.bl false) H) : L2.rIsN (.int i) .non H Q := ⟨rfl, by rw [decide_eq_false (by intro z; cases z)]; exact h⟩
def RgQ (Q : VK) (x y : V) (H : Hp) : Prop := ∃ i j, x = .int i ∧ y = .int j ∧ RgOk i j ∧ ∀ q, H q = none → Q (.ref q) (upd H q (.lst (rgV i j)))
theorem s_bm0 {K : PySem.W.Frag} {T : String} {r : V → List V → Hp → VK → Prop} {ta : TE} {σ : L2.St} {H : Hp} {Q : VK} (h : ta σ H fun x H1 => tyV K T x H1 ∧ r x [] H1 Q) : tBM0 K T r ta σ H Q := h
theorem s_lrg2 {ta tb : TE} {σ : L2.St} {H : Hp} {Q : VK} (h : ta σ H fun x H1 => tb σ H1 fun y H2 => RgQ Q x y H2) : tLstRg (tRg2 ta tb) σ H Q := h
theorem s_lc {wi : TI} {g : TG} {tt : TT} {te : TE} {vs : List Nat} {σ : L2.St} {H : Hp} {Q : VK} (h : wi σ H fun J H1 => tLc (fun _ _ R => R J H1) g tt te vs σ H1 Q) : tLc wi g tt te vs σ H Q := h
theorem call_isiK (K : PySem.W.Frag) {X : Cx} (h : X.K = K) : CallR X (.builtin "isinstance") (rIsi K) := h ▸ call_isi
theorem ix_seqK (K : PySem.W.Frag) {X : Cx} (h : X.K = K) : IxR X (rIx K) := h ▸ ix_seq
theorem s_isNb {H : Hp} {Q : VK} {i : Bool} (h : Q (.bl false) H) : L2.rIsN (.bl i) .non H Q := ⟨rfl, by rw [decide_eq_false (by intro z; cases z)]; exact h⟩
theorem s_isNr {H : Hp} {Q : VK} {i : Addr} (h : Q (.bl false) H) : L2.rIsN (.ref i) .non H Q := ⟨rfl, by rw [decide_eq_false (by intro z; cases z)]; exact h⟩
theorem s_notN {H : Hp} {Q : VK} (h : Q (.bl false) H) : L2.rNotN .non .non H Q := ⟨rfl, by rw [decide_eq_true rfl]; exact h⟩
theorem s_notNi {H : Hp} {Q : VK} {i : Int} (h : Q (.bl true) H) : L2.rNotN (.int i) .non H Q := ⟨rfl, by rw [decide_eq_false (by intro z; cases z)]; exact h⟩
theorem s_notNr {H : Hp} {Q : VK} {i : Addr} (h : Q (.bl true) H) : L2.rNotN (.ref i) .non H Q := ⟨rfl, by rw [decide_eq_false (by intro z; cases z)]; exact h⟩
theorem fn_or {P : Program} {w : World} {K : PySem.W.Frag} {mg : Str → Option Value} {base : Heap} {CX : CXT} {k : Nat} {f : Addr} {fd : FuncData} {ps : List Str} {sp sp1 sp2 : Sp} (F1 : FnOk P w K mg base CX k f fd ps sp1) (F2 : FnOk P w K mg base CX k f fd ps sp2)
    (h : ∀ vs H Q E, sp vs H Q E → sp1 vs H Q E ∨ sp2 vs H Q E) : FnOk P w K mg base CX k f fd ps sp :=
  ⟨fun vs H Q E q => (h vs H Q E q).elim (F1.len vs H Q E) (F2.len vs H Q E), fun A outer s H args us vs Q E hr he hb hv hs => (h vs H Q E hs).elim (F1.run A outer s H args us vs Q E hr he hb hv) (F2.run A outer s H args us vs Q E hr he hb hv)⟩
/-! loops -/
section
variable {c : TT} {tb : TS} {D : Ends} {σ : L2.St} {H : Hp}
/-- the int in a slot -/
def iv (σ : L2.St) (i : Nat) : Int := match σ[i]? with
  | some (some (V.int r)) => r
  | _ => 0
def WW (Pv : L2.St → Hp → Prop) (μ : L2.St → Hp → Nat) : Nat → L2.St → Hp → Prop := fun m σ H => m = μ σ H ∧ Pv σ H
theorem s_while (Pv : L2.St → Hp → Prop) (μ : L2.St → Hp → Nat) (h0 : Pv σ H)
    (hs : ∀ σ H, Pv σ H → c σ H fun b H1 => if b = true then ∃ N : L2.St → Hp → Prop, (∀ σ' H', N σ' H' → ∃ m', m' < μ σ H ∧ WW Pv μ m' σ' H') ∧ tb { D with nx := N, ct := N, bk := D.nx } σ H1 else D.nx σ H1) : tWhile c tb D σ H :=
  ⟨WW Pv μ, ⟨_, rfl, h0⟩, fun m σ H ⟨e, p⟩ => by subst e; exact hs σ H p⟩
theorem s_turn {Pv : L2.St → Hp → Prop} {μ : L2.St → Hp → Nat} {m : Nat} (h : tb { D with nx := fun σ' H' => Pv σ' H' ∧ μ σ' H' < m, ct := fun σ' H' => Pv σ' H' ∧ μ σ' H' < m, bk := D.nx } σ H) :
    ∃ N : L2.St → Hp → Prop, (∀ σ' H', N σ' H' → ∃ m', m' < m ∧ WW Pv μ m' σ' H') ∧ tb { D with nx := N, ct := N, bk := D.nx } σ H := ⟨_, fun σ' H' p => ⟨_, p.2, rfl, p.1⟩, h⟩
end
/-! numbers -/
def CDivF (_ j : Int) : Prop := j ≠ 0 ∧ j.natAbs.log2 < 9000
section
variable {X : Cx}
theorem op_divF : OpR X (binaryOp .FloorDiv) (rI CDivF fun i j => .int (i.fdiv j)) := opI fun _ _ _ _ _ _ _ hc q => floordiv_int hc.1 q (.inl (PyProof.noPylong_of_log2 hc.2))
end
theorem divW {a j : Int} (h : 0 < j) (h2 : j.natAbs < 2 ^ 2000) : CDivW a j := wide_div h h2 (by decide) (by decide)
theorem divF {a j : Int} (h : j ≠ 0) (h2 : j.natAbs < 2 ^ 2000) : CDivF a j := ⟨h, Nat.lt_of_lt_of_le (PySem.Flt.log2_lt_of (by decide) h2) (by decide)⟩
theorem mulW {a b : Int} (h1 : a.natAbs < 2 ^ 2000) (h2 : b.natAbs < 2 ^ 2000) : CMulW a b := wide_mul h1 h2 (by decide) (by decide) (by decide)
/-- a law over a head by facts: its last step, the script's sizes told -/
theorem walk_ofEB {l : PySem.W.OpenLaw} {n k : Nat} {qv : Program} {ls : List Str} {XP : (Str → Option Value) → Heap → Prop} {YP : World → Heap → Prop} {dr : DefRec} {CX : World → CXT} {prm : Str}
    (hmost : l.most = some n) (hline : n ≤ sizeLine) (hnod : dr.params.defaults = []) (room : Room k callerA)
    (F : ∀ (w : World) (mg : Str → Option Value) (fa : Addr) (hp : Heap), YP w hp → hp.Ns mainGlobals mg → mg dr.name = some (.ref fa) →
      ∃ (Kf : PySem.W.Frag) (fdt : FuncData) (sp : Sp), Kf.In hp ∧ (∀ (s : Shared) (u : Value), BindsTo s fdt ⟨[u], []⟩ [(prm, u)]) ∧
        (∀ (H : Hp) (a : Addr) (ns : List Int), ns.length ≤ n → (∀ z ∈ ns, Builtin.Int.intBits z ≤ 1048576) → Only H → SqL Kf H a (ns.map V.int) → sp [.ref a] H (fun v _ => v = .bl true) fun _ _ _ => False) ∧
        ∀ base : Heap, Kf.In base → base.Ns mainGlobals mg → FnOk l.prog w Kf mg base (CX w) k fa fdt [prm] sp)
    (none_out : ∀ (w : World) (H : Hp) (s : Shared) (e : Value) (s' : Shared), CX w [] H s (fun _ _ _ => False) e s' → False) :
    PySem.W.WalkO qv ls XP YP l.row.toRowW dr [] (fun f vs => PySem.call f vs) := by
  refine Att.attach_callB hmost hnod fun w s₀ s₁ mg _ fa _ _ _ _ a _ ns G Y _ _ _ gN ob1 xis len bits run => ?_
  obtain ⟨Kf, fdt, sp, kin, bnd, last, fok⟩ := F w mg fa _ Y G.T.g gN
  exact law_call kin G.T.g G.T.b G.T.builtins G.T.nolimit run ob1 xis (Nat.le_trans len hline) room fok bnd (fun H only sq => last H a ns len bits only sq) fun H e s' => none_out w H s₁ e s'
theorem cx0_no {P : Program} (w : World) (H : Hp) (s : Shared) (e : Value) (s' : Shared) (h : CX0 [] H s (fun _ _ _ => False) e s') : False := h
/-! what the head tells: facts as tests of the written part, defs at any address -/
abbrev FB := PySem.W.Frag → Bool
def toldR (fb : List FB) (fn : List He5.DefA) (K : PySem.W.Frag) : He.AlD := ((fb.all fun t => t K) && (fn.all fun e => e.ok K), fn.map fun e => He5.fnA K (e.at_ K))
def dueR (fn : List He5.DefA) : He.AlD := (true, fn.map He5.DefA.val)
def Told (fb : List FB) (fn : List He5.DefA) (K : PySem.W.Frag) : Prop := toldR fb fn K = dueR fn
def toldG (n : Nat) (fb : List FB) (fn : List He5.DefA) (g : Addr → Option Obj) : He.AlD := toldR fb fn (He.frG g (He5.asA g n))
def hookR (n : Nat) (fb : List FB) (fn : List He5.DefA) : PySem.W.Hook where
  α := He.AlD
  obs := fun st => toldG n fb fn st.heap.get?
  val := fun _ => dueR fn
  says := fun _ hp => ∃ Kf : PySem.W.Frag, Kf.In hp ∧ Told fb fn Kf
  of := fun _ _ eq => ⟨_, He.frG_in, eq⟩
  keeps := fun _ _ _ ⟨Kf, hin, tl⟩ kp => ⟨Kf, PySem.W.Frag.In.keeps hin kp, tl⟩
theorem toldG_eq {n : Nat} {fb : List FB} {fn : List He5.DefA} {g : Addr → Option Obj} {st : Shared} (h : ∀ a, g a = st.heap.get? a) : toldG n fb fn g = (hookR n fb fn).obs st := by
  have eg : g = st.heap.get? := funext h
  rw [eg] <;> rfl
theorem Told.fact {fb : List FB} {fn : List He5.DefA} {K : PySem.W.Frag} (tl : Told fb fn K) (i : Nat) {t : FB} (h : fb[i]? = some t := by rfl) : t K = true := by
  have e0 : ((fb.all fun t => t K) && (fn.all fun e => e.ok K)) = true := congrArg Prod.fst tl
  exact List.all_eq_true.mp (Bool.and_eq_true_iff.mp e0).1 t (List.mem_of_getElem? h)
theorem Told.dfn {fb : List FB} {fn : List He5.DefA} {K : PySem.W.Frag} (tl : Told fb fn K) (i : Nat) {e : He5.DefA} (h : fn[i]? = some e := by rfl) : ∃ fd, FunD K e.name e.qual e.params e.body e.scope (e.dvs K) (e.kws K) (e.at_ K) fd := by
  have e0 : ((fb.all fun t => t K) && (fn.all fun e => e.ok K)) = true := congrArg Prod.fst tl
  have e1 : fn.map (fun e => He5.fnA K (e.at_ K)) = fn.map He5.DefA.val := congrArg Prod.snd tl
  have e2 := congrArg (fun l => l[i]?) e1
  simp only [List.getElem?_map, h, Option.map_some] at e2
  exact He5.DefA.funD (Option.some.inj e2) (List.all_eq_true.mp (Bool.and_eq_true_iff.mp e0).2 e (List.mem_of_getElem? h))
/-! own exception classes whose __init__ calls their base's and keeps one field -/
def oexB (C : Addr) : FB := fun K => (match K.lookup C with
  | some ⟨.type tn, _, .cls cd, sl⟩ => (match cd.mro, sl.toList with
    | .ref C' :: bm, [_, _, _, _, some (.builtin n), _] => decide (tn = "type") && (C' == C && (decide (n = "ValueError.__new__") && (!cd.hasDel && (cd.hasDict && PySem.HandSPX.refsVE bm))))
    | _, _ => false)
  | _ => false) && (decide (PySem.W.findIn K (.ref C) "__setattr__" = some (some (.builtin "object.__setattr__"))) && (decide (PySem.W.subIn K (.ref C) (.type "BaseException") = some true) && (decide (PySem.W.typeIn K (.ref C) = some (.type "type")) && PySem.W.keepIn K (.ref C))))
theorem oex_of {K : PySem.W.Frag} {C : Addr} (h : oexB C K = true) : OexC K C := by
  unfold oexB at h
  simp only [Bool.and_eq_true, decide_eq_true_eq] at h
  obtain ⟨h1, h2, h3, h4, h5⟩ := h
  refine ⟨?_, h2, h3, h4, h5⟩
  split at h1
  · rename_i tn dd cd sl ho
    split at h1
    · rename_i C' bm k0 k1 k2 k3 n k5 hm hs
      simp only [Bool.and_eq_true, beq_iff_eq, Bool.not_eq_true', decide_eq_true_eq] at h1
      obtain ⟨rfl, rfl, rfl, hdel, hdct, hr⟩ := h1
      obtain ⟨nm, bs, mro, ns, qn, hd, sn, sub, ab, col, del⟩ := cd
      dsimp only at hm hdel hdct
      subst hm hdel hdct
      have hsl : sl = #[k0, k1, k2, k3, some (.builtin "ValueError.__new__"), k5] := by
        obtain ⟨l⟩ := sl
        simp only at hs
        rw [hs]
      subst hsl
      exact ⟨nm, qn, ns, bs, bm, sn, sub, ab, col, dd, k0, k1, k2, k3, k5, ho, hr⟩
    · cases h1
  · cases h1
/-- the base P, whose __init__ is called through it -/
def baseB (C : Addr) : FB := fun K => PySem.W.readsIn K C (.type "type") && (decide (PySem.W.specialIn K (.ref C) "__getattribute__" = some (some (.builtin "type.__getattribute__"))) && (match PySem.W.findCls K (.ref C) (.type "type") "__init__" with
  | some (.val (.builtin n)) => decide (n = "ValueError.__init__")
  | _ => false))
structure BaseC (K : PySem.W.Frag) (C : Addr) : Prop where
  rd : PySem.W.readsIn K C (.type "type") = true
  ga : PySem.W.specialIn K (.ref C) "__getattribute__" = some (some (.builtin "type.__getattribute__"))
  at_ : PySem.W.findCls K (.ref C) (.type "type") "__init__" = some (.val (.builtin "ValueError.__init__"))
theorem base_of {K : PySem.W.Frag} {C : Addr} (h : baseB C K = true) : BaseC K C := by
  unfold baseB at h
  simp only [Bool.and_eq_true, decide_eq_true_eq] at h
  obtain ⟨h1, h2, h3⟩ := h
  refine ⟨h1, h2, ?_⟩
  split at h3
  · rename_i n e
    rw [e, of_decide_eq_true h3]
  · cases h3
section
variable {X : Cx} {e : Expr} {es : List Expr} {ta : TA} {p1 p2 pos : Pos}
/-- P.__init__(self, ..) -/
theorem pe_cinit {x : Str} {C : Addr} {pl : Sem Bool} (hg : Gl X x) (hm : X.mg x = some (.ref C)) (r : BaseC X.K C) (ha : PA X (e :: es) ta) (hdb : (x == ("__debug__" : Str)) = false := by decide)
    (hc : eval (.Call (.Attribute (.Name x p1) "__init__" p2) (e :: es) [] pos) X.env = (do
      let ov ← eval (.Name x p1) X.env
      standAt p2.atName
      let (f, fst) ← holding [ov] (getMethod ov "__init__" pl)
      callWith pos f fst (backTo pos (starEach (e :: es) X.env)) (backToKw pos (keywordEach [] X.env))) := by rfl)
    (he : starEach (e :: es) X.env = (false, eval e X.env) :: starEach es X.env := by rfl) (hpl : (backTo pos (starEach es X.env)).any (·.1) = false := by rfl) :
    PE X (.Call (.Attribute (.Name x p1) "__init__" p2) (e :: es) [] pos) (tVeI X.K ta) := by
  refine ⟨fun pins s σ H Q I h => ?_⟩
  refine PySem.W.methodCall_KW (ld_glob I hg hm ?_ hdb) hc
  refine PySem.W.method_cls I.kIn r.ga (PySem.W.cls_value I.kIn r.rd r.at_ (by decide +kernel) ?_)
  show wpAny _ _ (callWith pos (Value.builtin "ValueError.__init__") [] (backTo pos (starEach (e :: es) X.env)) []) _ _ _
  refine PyProof.Rows.callWith_method1 (thn (ha.run pos pins _ σ H _ (I.tok _) h) fun us s1 ⟨vs, H1, I1, r1, a, C, ws, ev, hl, T, ea, q⟩ => ?_) he hpl
  subst ev
  cases r1 with
  | @cons _ u0 _ ur ra rw' =>
    obtain rfl : u0 = Value.ref a := ra
    have hlen : ur.length ≤ sizeLine := by rw [← Paired.length rw']; exact len_le hl
    exact oinit_ok T I1 ea hlen fun s' J => ⟨.non, H1, J, rfl, q⟩
end
/-! isinstance of a caught own error, with or without a dict of its own -/
structure IsX (K : PySem.W.Frag) (D : Addr) : Prop where
  ga : PySem.W.findIn K (.ref D) "__getattribute__" = some (some (.builtin "BaseException.__getattribute__"))
  gg : PySem.W.findIn K (.ref D) "__getattr__" = some none
  sub : PySem.W.subIn K (.ref D) (.type "BaseException") = some true
  dct : PySem.W.hasDictIn K D = true
  cl : PySem.W.findIn K (.ref D) "__class__" = some (some (.builtin "object.__class__"))
  gt : PySem.W.specialIn K (.builtin "object.__class__") "__get__" = some (some (.builtin "getset_descriptor.__get__"))
  tk : PySem.W.takesIn K (.builtin "object.__class__") = some true
  mro : PySem.W.mroIn K D (.type "object") = some true
def isxB (x : Str) : FB := fun K => decide (PySem.W.findIn K (.ref (He.ga K x)) "__getattribute__" = some (some (.builtin "BaseException.__getattribute__"))) && (decide (PySem.W.findIn K (.ref (He.ga K x)) "__getattr__" = some none) &&
  (decide (PySem.W.subIn K (.ref (He.ga K x)) (.type "BaseException") = some true) && (PySem.W.hasDictIn K (He.ga K x) && (decide (PySem.W.findIn K (.ref (He.ga K x)) "__class__" = some (some (.builtin "object.__class__"))) &&
  (decide (PySem.W.specialIn K (.builtin "object.__class__") "__get__" = some (some (.builtin "getset_descriptor.__get__"))) && (decide (PySem.W.takesIn K (.builtin "object.__class__") = some true) && decide (PySem.W.mroIn K (He.ga K x) (.type "object") = some true)))))))
theorem isx_of {K : PySem.W.Frag} {x : Str} (h : isxB x K = true) : IsX K (He.ga K x) := by
  unfold isxB at h
  simp only [Bool.and_eq_true, decide_eq_true_eq] at h
  obtain ⟨h1, h2, h3, h4, h5, h6, h7, h8⟩ := h
  exact ⟨h1, h2, h3, h4, h5, h6, h7, h8⟩
end R
namespace PySem.W
open PySem PySem.Spec PySem.Calls PyProof.Rows
section
variable {prog : Program} {w : World} {A : Around} {E : Value → Shared → Prop} {s : Shared} {K : Frag} {x D : Addr} {ox : Obj} {od : Option Obj}
theorem r_findcls (T : R.IsX K D) : findObj K D od "__class__" = some (.bind (.builtin "getset_descriptor.__get__") (.builtin "object.__class__")) := by
  obtain ⟨cd, e1, _⟩ := any_some T.dct
  unfold findObj
  simp [e1, T.cl, T.gt, T.tk]
theorem r_readcls {Q : Option Value → Shared → Prop} (T : R.IsX K D) (X : K.In s.heap) (I : InstAt s.heap x ox D od) (h : Q (some (.ref D)) { s with toks := s.toks + 1 }) : wpAny (model prog w) A (getAttr? (.ref x) "__class__") Q E s := by
  obtain ⟨hp, gn, dr, tk, os⟩ := s
  have l0 := I.type (M := model prog w)
  have l1 := looks_findIn (M := model prog w) X T.ga
  have l2 := looks_findIn (M := model prog w) X T.gg
  have l3 := looks_find (M := model prog w) X I (r_findcls (od := od) T)
  have lsub : Looks (model prog w) hp (isInstance (.ref x) (.type "BaseException")) true := l0.andThen (looks_subIn X T.sub)
  have n1 : (Value.builtin "BaseException.__getattribute__" == Value.builtin "object.__getattribute__") = false := by decide +kernel
  have n2 : (onTheHeap (Value.ref D) && Value.builtin "BaseException.__getattribute__" == Value.builtin "object.__getattribute__") = false := by rw [n1]; rfl
  have n3 : (false && onTheHeap (Value.builtin "BaseException.__getattribute__")) = false := rfl
  unfold getAttr? getAttrBy? getAttrBy
  refine wpAny_bind (wpAny_mkText (wpAny_bind (wpAny_attempt (wpAny_holding (wpAny_bind (l0.at (wpAny_bind (l1.at ?_))))))))
  show wpAny _ _ (if (onTheHeap (Value.ref D) && Value.builtin "BaseException.__getattribute__" == Value.builtin "object.__getattribute__") = true then _ else _) _ _ _
  rw [n2, if_neg Bool.false_ne_true]
  unfold getAttrByItsOwn hookBefore
  refine wpAny_bind ?_
  rw [if_pos (show onTheHeap (Value.ref D) = true from rfl)]
  refine l2.at ?_
  refine wpAny_bind (wpAny_attempt (wpAny_holding ?_))
  unfold callGetattribute
  rw [n3, if_neg Bool.false_ne_true]
  unfold boundAndCalled
  rw [PySem.F.excAttr_ValueError.ga.bind (.ref x)]
  refine wpAny_bind (wpAny_pure ?_)
  show wpAny _ _ (call (.builtin "BaseException.__getattribute__") [.ref x, .str "__class__" tk]) _ _ _
  refine wpAny_call (codeAny_call_builtin PySem.F.excAttr_ValueError.ga.plain PySem.F.entry_bexc_ga ?_)
  refine @check_slot (model prog w) _ _ ⟨hp, gn, dr, tk + 1, os⟩ "BaseException.__getattribute__" "BaseException" "__getattribute__" (.ref x) [.str "__class__" tk] [] _ (by decide +kernel) (by decide +kernel) lsub (PySem.F.args_bexc_ga (.ref x) (.str "__class__" tk)) ?_
  unfold Builtin.«object.__getattribute__»
  refine wpAny_bind (wpAny_of_eq (a := ((Value.ref x : Value), [Value.str "__class__" tk])) (by first | rfl | (simp only [slotArgs]; rfl)) ?_)
  refine wpAny_bind (wpAny_pure (wpAny_bind (l0.at (wpAny_bind (l3.at ?_)))))
  show wpAny _ _ (holding [Value.builtin "object.__class__"] (call (.builtin "getset_descriptor.__get__") [.builtin "object.__class__", .ref x, .ref D]) >>= ret) _ _ _
  refine wpAny_bind (wpAny_holding (wpAny_call (class_get (s := ⟨hp, gn, dr, tk + 1, os⟩) (ox := ox) (od := od) X I T.mro ?_)))
  refine wpAny_pure ?_
  show wpAny _ _ (handedOut (.ref D)) _ _ _
  rw [handedOut_of (v := .ref D) rfl]
  first
    | exact wpAny_pure (wpAny_pure h)
    | exact wpAny_pure h
    | exact wpAny_pure (wpAny_bind (wpAny_pure (wpAny_pure h)))
theorem r_kit (T : R.IsX K D) : KitX K (.ref x) (.ref D) (fun hp => InstAt hp x ox D od) where
  ty := fun _ _ _ I => I.type
  it := fun _ _ X _ => by
    obtain ⟨cd, e1, _⟩ := any_some T.dct
    unfold clsIn at e1
    split at e1
    · rename_i _ _ _ _ at_
      intro A' Q' E' s' k q
      unfold isType loadHead
      exact wpAny_bind (wpAny_loadPart (k _ _ (X _ _ at_)) (wpAny_pure q))
    · cases e1
  ne := fun hp tp dd its n sl X at_tp => by
    obtain ⟨cd, e1, _⟩ := any_some T.dct
    refine Bool.eq_false_iff.mpr fun q => ?_
    obtain rfl : D = tp := Value.ref.inj (beq_iff_eq.mp q)
    unfold clsIn at e1
    split at e1
    · rename_i _ _ _ _ at_
      exact nomatch (X _ _ at_).symm.trans at_tp
    · cases e1
  ca := fun X I k => r_readcls T X I k
end
end PySem.W
namespace R
open PySem PySem.Spec PyProof.Rows L2
theorem callIsX {X : Cx} {a D : Addr} {oe : Obj} {d : Option Addr} {pn : List (Addr × Obj)} (T : IsX X.K D) (hz : Zc (.ref D) d oe) (hf : ∃ vs, oe.data = .fields vs) :
    CallR (X.suite a ((a, oe) :: pn)) (.builtin "isinstance") (fun xs H Q => ∃ fs, (∀ dd, d = some dd → H dd = some (.xd fs)) ∧ rIsE X.K D a xs H Q) := by
  intro pins s σ H xs us Q I r h
  obtain ⟨fs, hdd, c, cv, b, rfl, hcv, e, q⟩ := h
  cases r with
  | cons rx rr =>
    cases rr with
    | cons rt rr =>
      cases rr
      cases rx
      have ec := hcv _ rt
      subst ec
      obtain ⟨hget, _⟩ := I.pin (a, oe) (List.mem_append.mpr (.inl List.mem_cons_self))
      obtain ⟨vs, hv⟩ := hf
      have J : ∃ od, PySem.W.InstAt s.heap a oe D od := by
        obtain ⟨oc, dd, oda, osl⟩ := oe
        obtain ⟨h1, h2⟩ := hz
        dsimp only at h1 h2 hv
        subst h1 h2 hv
        cases dd with
        | none => exact ⟨none, hget, rfl, rfl, trivial⟩
        | some dx =>
          obtain ⟨mA, hns, _⟩ : ObjOk X.prog X.w H s.heap dx (.xd fs) := I.hok dx _ (hdd dx rfl)
          obtain ⟨o, _, _, ho, _⟩ := hns
          exact ⟨some o, hget, rfl, rfl, ho⟩
      obtain ⟨od, J⟩ := J
      exact PySem.W.kia_one (PySem.W.r_kit T) I.kIn J e (fun z => nomatch z) fun tk => ⟨.bl b, H, I.kept (t' := tk) fun _ _ z => z, rfl, q⟩
/-- isinstance(e, C), e the error that the suite holds: what is asked -/
def rIsXd (K : PySem.W.Frag) (D a : Addr) (d : Option Addr) : List V → Hp → VK → Prop := fun xs H Q => ∃ fs, (∀ dd, d = some dd → H dd = some (.xd fs)) ∧ rIsE K D a xs H Q
/-- what such a class is, its __init__ at fI, its field f -/
structure XIn (K : PySem.W.Frag) (C fI : Addr) (f : Str) : Prop where
  oex : OexC K C
  iC : PySem.W.findIn K (.ref C) "__init__" = some (some (.ref fI))
  tI : PySem.W.typeIn K (.ref fI) = some (.type "function")
  noF : PySem.W.findIn K (.ref C) f = some none
  xf : XfC K C
def xinB (x f : Str) : FB := fun K => oexB (He.ga K x) K && (decide (PySem.W.findIn K (.ref (He.ga K x)) "__init__" = some (some (.ref (He.ma K (He.ga K x) "__init__")))) && (decide (PySem.W.typeIn K (.ref (He.ma K (He.ga K x) "__init__")) = some (.type "function")) &&
  (decide (PySem.W.findIn K (.ref (He.ga K x)) f = some none) && xfB K (He.ga K x))))
theorem xin_of {K : PySem.W.Frag} {x f : Str} (h : xinB x f K = true) : XIn K (He.ga K x) (He.ma K (He.ga K x) "__init__") f := by
  unfold xinB at h
  simp only [Bool.and_eq_true, decide_eq_true_eq] at h
  obtain ⟨h1, h2, h3, h4, h5⟩ := h
  exact ⟨oex_of h1, h2, h3, h4, xfB_ok h5⟩
/-- __init__(self, v) of a class at C: the field is kept -/
def sp_init (K : PySem.W.Frag) (C : Addr) (f : Str) : Sp := fun vs H Q _ => ∃ (a : Addr) (v : V), vs = [.ref a, v] ∧ OexC K C ∧ PySem.W.findIn K (.ref C) f = some none ∧ H a = some (exo a C none) ∧
  ∀ dx, H dx = none → dx ≠ a → Q .non (upd (upd H dx (exd dx [(f, v)])) a (exo a C (some dx)))
theorem rd_init {K : PySem.W.Frag} {C : Addr} {f m : Str} {vs : List V} {H : Hp} {Q : VK} {E : XK} (h : sp_init K C f vs H Q E) :
    tSeq (tDrop (tVeI K (tCons (tVar 0) (tCons (tC (.str m)) tNil)))) (tOst K f (tVar 0) (tVar 1)) { nx := fun _ H' => Q .non H', rt := Q } (L2.start ["self", f] vs) H := by
  obtain ⟨a, v, rfl, T, hn, ha, k⟩ := h
  exact ⟨_, rfl, a, C, [.str m], rfl, by simp, T, ha, _, rfl, _, rfl, a, C, rfl, T, hn, .inl ⟨ha, fun dx h1 h2 => k dx h1 h2⟩⟩
section
variable {ta : TA} {σ : L2.St} {H : Hp} {QX : XK}
def RzP (C : Addr) (sp : Sp) (QX : XK) (vs : List V) (H1 : Hp) : Prop := vs.length ≤ 1000 ∧ ∀ a, H1 a = none → sp (.ref a :: (vs ++ [])) (upd H1 a (exo a C none))
  (fun v H2 => v = .non ∧ ∃ (d : Addr) (fs : List (Str × V)), H2 a = some (exo a C (some d)) ∧ H2 d = some (exd d fs) ∧ H1 d = none ∧ QX (.ref C) (some d) (upd (del H2 a) d (.xd fs))) (fun _ _ _ => False)
theorem s_mko {C : Addr} {sp : Sp} (h : ta σ H fun vs H1 => RzP C sp QX vs H1) : tMkO C sp [] ta σ H QX := h
theorem s_raise {K : PySem.W.Frag} {C : Addr} {f : Str} {v : V} (T : OexC K C) (hn : PySem.W.findIn K (.ref C) f = some none) (k : ∀ d H', H d = none → H' d = some (.xd [(f, v)]) → Same H H' → QX (.ref C) (some d) H') : RzP C (sp_init K C f) QX [v] H := by
  refine ⟨by simp, fun a ha => ⟨a, v, rfl, T, hn, upd_same, fun dx hdx hne => ⟨rfl, dx, [(f, v)], upd_same, ?_, ?_, ?_⟩⟩⟩
  · rw [upd_ne hne, upd_same]
  · rw [upd_ne hne] at hdx; exact hdx
  · rw [upd_ne hne] at hdx
    refine k dx _ hdx upd_same fun b o e => ?_
    have n1 : b ≠ dx := ne_of_none e hdx
    have n2 : b ≠ a := ne_of_none e ha
    rw [upd_ne n1, del_ne n2, upd_ne n2, upd_ne n1, upd_ne n2]
    exact e
end
/-! own exceptions without fields; isinstance of a caught error of any own class -/
section
variable {X : Cx} {C : Addr} {bmB : List Value} {B newId initId : String}
/-- X() -/
theorem pmk_own0 {x : Str} {p pos : Pos} (F : ExcBaseFacts B newId initId bmB) (q : PySem.W.excIn X.K C bmB newId = true) (gC : X.mg x = some (.ref C)) (kC : PySem.W.keepIn X.K (.ref C) = true) (r : Raises X (.ref C)) (hg : Gl X x)
    (hdb : (x == ("__debug__" : Str)) = false := by decide) : PMk X (.Call (.Name x p) [] [] pos) (fun _ H Q => Q (.ref C) none H) := by
  intro pins s σ H Q I h
  refine wpAny_Call_Name_kw (ld_glob I hg gC ?_ hdb)
  refine PySem.W.callWith_K0 I.kIn kC ?_
  obtain ⟨bm, N, nm, qn, bs, hdct, sn, sub, ab, col, dd, k0, k1, k2, k3, k5, mN, hC, hN, hni, T⟩ := exc_obj I.kIn q
  refine wpAny_call_exc_subT F T hC hN hni (fun h' e hm => ?_) (Nat.zero_le _)
  exact mk_of I hm r h (I.hok.gone hm.new)
end
def tRz (C : Addr) : L2.St → Hp → XK → Prop := fun _ H Q => Q (.ref C) none H
theorem s_rz {C : Addr} {σ : L2.St} {H : Hp} {Q : XK} (h : Q (.ref C) none H) : tRz C σ H Q := h
/-- a class without fields, raised -/
structure Exc0 (K : PySem.W.Frag) (C : Addr) : Prop where
  ex : PySem.W.excIn K C He.veBase "ValueError.__new__" = true
  kp : PySem.W.keepIn K (.ref C) = true
  sb : PySem.W.subIn K (.ref C) (.type "BaseException") = some true
  ty : PySem.W.typeIn K (.ref C) = some (.type "type")
theorem exc0_of {K : PySem.W.Frag} {x : Str} (c : (He.Fa.exc x).ok K = true) : Exc0 K (He.ga K x) := by
  obtain ⟨h1, h2, h3, h4⟩ := He.exc_ok c
  exact ⟨h1, h2, h3, h4⟩
theorem pmk_z {X : Cx} {C : Addr} {x : Str} {p pos : Pos} (F : Exc0 X.K C) (gC : X.mg x = some (.ref C)) (hg : Gl X x) (hdb : (x == ("__debug__" : Str)) = false := by decide) : PMk X (.Call (.Name x p) [] [] pos) (tRz C) :=
  pmk_own0 PySem.F.excBase_ValueError F.ex gC F.kp (raises_own F.sb F.ty) hg hdb
theorem pmk_zs {X : Cx} {C : Addr} {x m : Str} {j : Nat} {p p2 pos : Pos} (F : Exc0 X.K C) (gC : X.mg x = some (.ref C)) (hg : Gl X x) (hdb : (x == ("__debug__" : Str)) = false := by decide) : PMk X (.Call (.Name x p) [.Constant (.str m) j p2] [] pos) (tRz C) :=
  L2.pmk_own PySem.F.excBase_ValueError F.ex gC F.kp (raises_own F.sb F.ty) hg hdb
def kitcB (x y : Str) (b : Bool) : FB := fun K => decide (PySem.W.kitOne K (.ref (He.ga K x)) (.ref (He.ga K y)) = some b)
def kittB (x : Str) (y : String) (b : Bool) : FB := fun K => decide (PySem.W.kitOne K (.ref (He.ga K x)) (.type y) = some b)
theorem kitc_of {K : PySem.W.Frag} {x y : Str} {b : Bool} (h : kitcB x y b K = true) : PySem.W.kitOne K (.ref (He.ga K x)) (.ref (He.ga K y)) = some b := of_decide_eq_true h
theorem kitt_of {K : PySem.W.Frag} {x : Str} {y : String} {b : Bool} (h : kittB x y b K = true) : PySem.W.kitOne K (.ref (He.ga K x)) (.type y) = some b := of_decide_eq_true h
/-- isinstance(e, c) in an except suite, the class of e told in the reading -/
def rIsA (K : PySem.W.Frag) (cls : Value) (d : Option Addr) (a : Addr) : List V → Hp → VK → Prop := fun xs H Q => ∃ D, cls = .ref D ∧ IsX K D ∧ ∃ fs, (∀ dd, d = some dd → H dd = some (.xd fs)) ∧
  ∃ (c : V) (cv : Value) (b : Bool), xs = [.ref a, c] ∧ ClsV c cv ∧ PySem.W.kitOne K (.ref D) cv = some b ∧ Q (.bl b) H
def rIsAT (K : PySem.W.Frag) (cls : Value) (d : Option Addr) (a : Addr) : List V → Hp → VK → Prop := fun xs H Q => ∃ D, cls = .ref D ∧ IsX K D ∧ ∃ fs, (∀ dd, d = some dd → H dd = some (.xd fs)) ∧
  ∃ (tp : Addr) (cs : List V) (us : List Value) (b : Bool), xs = [.ref a, .ref tp] ∧ H tp = some (.tup cs) ∧ Paired ClsV cs us ∧ PySem.W.kitAny K (.ref D) us = some b ∧ Q (.bl b) H
section
variable {X : Cx} {a : Addr} {cls : Value} {oe : Obj} {d : Option Addr} {pn : List (Addr × Obj)}
theorem inst_of {D : Addr} {pins : List (Addr × Obj)} {σ : L2.St} {H : Hp} {s : Shared} {fs : List (Str × V)} (I : Inv (X.suite a ((a, oe) :: pn)) pins σ H s) (hz : Zc (.ref D) d oe) (hf : ∃ vs, oe.data = .fields vs) (hdd : ∀ dd, d = some dd → H dd = some (.xd fs)) : ∃ od, PySem.W.InstAt s.heap a oe D od := by
  obtain ⟨hget, _⟩ := I.pin (a, oe) (List.mem_append.mpr (.inl List.mem_cons_self))
  obtain ⟨vs, hv⟩ := hf
  obtain ⟨oc, dd, oda, osl⟩ := oe
  obtain ⟨h1, h2⟩ := hz
  dsimp only at h1 h2 hv
  subst h1 h2 hv
  cases dd with
  | none => exact ⟨none, hget, rfl, rfl, trivial⟩
  | some dx =>
    obtain ⟨mA, hns, _⟩ : ObjOk X.prog X.w H s.heap dx (.xd fs) := I.hok dx _ (hdd dx rfl)
    obtain ⟨o, _, _, ho, _⟩ := hns
    exact ⟨some o, hget, rfl, rfl, ho⟩
theorem callIsA (hz : Zc cls d oe) (hf : ∃ vs, oe.data = .fields vs) : CallR (X.suite a ((a, oe) :: pn)) (.builtin "isinstance") (rIsA X.K cls d a) := by
  intro pins s σ H xs us Q I r h
  obtain ⟨D, rfl, T, fs, hdd, c, cv, b, rfl, hcv, e, q⟩ := h
  obtain ⟨u1, u2, rfl, r1, r2⟩ := vals2 r
  cases (show u1 = Value.ref a from r1)
  have ec := hcv.eq r2
  subst ec
  obtain ⟨od, J⟩ := inst_of I hz hf hdd
  exact PySem.W.kia_one (PySem.W.r_kit T) I.kIn J e (fun z => nomatch z) fun tk => ⟨.bl b, H, I.kept (t' := tk) fun _ _ z => z, rfl, q⟩
theorem callIsAT (hz : Zc cls d oe) (hf : ∃ vs, oe.data = .fields vs) : CallR (X.suite a ((a, oe) :: pn)) (.builtin "isinstance") (rIsAT X.K cls d a) := by
  intro pins s σ H xs us Q I r h
  obtain ⟨D, rfl, T, fs, hdd, tp, cs, ws, b, rfl, hT, k, e, q⟩ := h
  obtain ⟨u1, u2, rfl, r1, r2⟩ := vals2 r
  cases (show u1 = Value.ref a from r1)
  cases (show u2 = Value.ref tp from r2)
  obtain ⟨od, J⟩ := inst_of I hz hf hdd
  obtain ⟨_, its, rv, o, h1, h2, n, h3⟩ := (show ObjOk X.prog X.w H s.heap tp (.tup cs) from I.hok tp _ hT)
  have e3 := ClsV.all k rv
  subst e3
  obtain ⟨oc, od', dt, sl⟩ := o
  simp only at h2 h3
  subst h2 h3
  exact PySem.W.kia_tup (PySem.W.r_kit T) I.kIn J h1 e (fun z => nomatch z) fun tk => ⟨.bl b, H, I.kept (t' := tk) fun _ _ z => z, rfl, q⟩
end
section
variable {K : PySem.W.Frag} {a D : Addr} {d : Option Addr} {H : Hp} {Q : VK} {fs : List (Str × V)} {b b1 b2 : Bool}
theorem s_isA {c : V} {cv : Value} (T : IsX K D) (hd : ∀ dd, d = some dd → H dd = some (.xd fs)) (hc : ClsV c cv) (e : PySem.W.kitOne K (.ref D) cv = some b) (h : Q (.bl b) H) : rIsA K (.ref D) d a [.ref a, c] H Q := ⟨D, rfl, T, fs, hd, c, cv, b, rfl, hc, e, h⟩
theorem s_isA0 {c : V} {cv : Value} (T : IsX K D) (hc : ClsV c cv) (e : PySem.W.kitOne K (.ref D) cv = some b) (h : Q (.bl b) H) : rIsA K (.ref D) none a [.ref a, c] H Q := s_isA (fs := []) T (fun _ z => nomatch z) hc e h
theorem s_isAT2 {tp : Addr} {c1 c2 : V} {v1 v2 : Value} (T : IsX K D) (hd : ∀ dd, d = some dd → H dd = some (.xd fs)) (ht : H tp = some (.tup [c1, c2])) (h1 : ClsV c1 v1) (h2 : ClsV c2 v2) (e1 : PySem.W.kitOne K (.ref D) v1 = some b1) (e2 : PySem.W.kitOne K (.ref D) v2 = some b2)
    (h : Q (.bl (b1 || b2)) H) : rIsAT K (.ref D) d a [.ref a, .ref tp] H Q :=
  ⟨D, rfl, T, fs, hd, tp, _, [v1, v2], b1 || b2, rfl, ht, .cons h1 (.cons h2 .nil), kitAny_cons e1 (fun q => kitAny_cons e2 (fun q2 => by rw [q, q2]; exact kitAny_nil) (fun q2 => by rw [q2]; simp)) (fun q => by rw [q]; rfl), h⟩
theorem s_isAT20 {tp : Addr} {c1 c2 : V} {v1 v2 : Value} (T : IsX K D) (ht : H tp = some (.tup [c1, c2])) (h1 : ClsV c1 v1) (h2 : ClsV c2 v2) (e1 : PySem.W.kitOne K (.ref D) v1 = some b1) (e2 : PySem.W.kitOne K (.ref D) v2 = some b2)
    (h : Q (.bl (b1 || b2)) H) : rIsAT K (.ref D) none a [.ref a, .ref tp] H Q := s_isAT2 (fs := []) T (fun _ z => nomatch z) ht h1 h2 e1 e2 h
end
/-! zip of two tuples, walked -/
theorem walk_zipT {K : PySem.W.Frag} {a b : Addr} {xs ys : List V} {n : Nat} (hn : n = min xs.length ys.length) : Walk (RZ.ItzT K a b) n (fun H => SqT K H a xs ∧ SqT K H b ys) (YPair (fun i => xs[i]?) (fun i => ys[i]?)) := by
  subst hn
  refine ⟨fun i _ hi q => ?_, fun _ q => ⟨xs, ys, q.1, q.2, by omega⟩, fun i H v H' _ q y => ?_⟩
  · have h1 : i < xs.length := by omega
    have h2 : i < ys.length := by omega
    exact ⟨xs, ys, xs[i], ys[i], q.1, q.2, by simp [h1], by simp [h2]⟩
  · obtain ⟨T, x, z, h1, h2, h3, h4, h5⟩ := y
    exact ⟨T, x, z, h1, h2, h3, h4 xs q.1, h5 ys q.2⟩
def ZipQ (K : PySem.W.Frag) (R : It → Hp → Prop) (vs : List V) (H1 : Hp) : Prop := ∃ a b xs ys, vs = [.ref a, .ref b] ∧ ((SqL K H1 a xs ∧ SqL K H1 b ys ∧ R (Itz K a b) H1) ∨ (SqT K H1 a xs ∧ SqT K H1 b ys ∧ R (RZ.ItzT K a b) H1))
theorem s_izip {K : PySem.W.Frag} {ta : TA} {σ : L2.St} {H : Hp} {R : It → Hp → Prop} (h : ta σ H fun vs H1 => ZipQ K R vs H1) : RZ.iZipA K ta σ H R := h
theorem s_gunl {K : PySem.W.Frag} {n : Nat} {t : TGs} {p : Addr} {xs : List V} {σ : L2.St} {H : Hp} {QS : L2.St → Hp → Prop} (h1 : SqL K H p xs) (h2 : xs.length = n) (h : t xs σ H QS) : L2.gUnl K n t (.ref p) σ H QS := ⟨p, xs, rfl, h1, h2, h⟩
/-! dicts with tuple keys: pop of a key that is there; fields; makings -/
def rPop1T : V → List V → Hp → VK → Prop := fun x xs H Q => ∃ (a : Addr) (kvs : List (List L2.Key × V)) (k : List L2.Key) (b : Addr) (v : V), x = .ref a ∧ xs = [.ref b] ∧ H a = some (.dT kvs) ∧ H b = some (.tup (k.map kV)) ∧ valV kvs k = some v ∧ Q v (upd H a (.dT (dropK kvs k)))
theorem mt_pop1T {X : Cx} (hu : X.A.units + 1 < cLine) : MtR X "dict.pop" rPop1T := by
  intro pins s σ H x xs v us Q I rx rxs h
  obtain ⟨a, kvs, k, b, v0, rfl, rfl, ha, hb, ev, q⟩ := h
  cases rx
  obtain ⟨u1, rfl, r1⟩ := vals1 rxs
  cases r1
  obtain ⟨z, hd, xs', rel, dd⟩ := dt_of I.hok ha
  have hz : xs'.length ≤ sizeLine := by rw [← Paired.length rel]; exact z
  have r := rel.val k
  rw [ev] at r
  obtain ⟨p, hp, rv⟩ : ∃ p, atKey xs' k = some p ∧ RelV v0 p.2 := by
    cases e : atKey xs' k with
    | none => rw [e] at r; exact r.elim
    | some p => rw [e] at r; exact ⟨p, rfl, r⟩
  refine call_pop_heap (knd := tupleKind (mixKind X.prog X.w)) (k := k) (more := []) (.inl rfl) (PySem.F.args_dict_pop_2 _ _) (tupleKind_room_in1 hu) (key_of I.hok hb) hd dd hp (fun h' dd' hs => ?_) hz
  obtain ⟨o, es, ep, hq, h2, h3, h4, _, h5⟩ := dd'
  have rel' : KT (upd H a (.dT (dropK kvs k))) (dropK kvs k) (withoutH xs' k) := (L2.DX.KT_drop k rel).keeps fun c ys ec => by rw [upd_ne (ne_of ec ha fun z => nomatch z)]; exact ec
  have I2 := d_write (t' := s.toks + (tupleKind (mixKind X.prog X.w)).draws k) (ob := .dT (dropK kvs k)) I (by rw [ha]; exact True.intro) hs ⟨o, hq⟩ (show ObjOk X.prog X.w (upd H a (.dT (dropK kvs k))) h' a (.dT (dropK kvs k)) from ⟨Nat.le_trans (dropK_le kvs k) z, hd, _, rel', o, es, ep, hq, h2, h3, h4, h5⟩)
  exact ⟨v0, _, I2, rv, q⟩
section
variable {K : PySem.W.Frag} {te tv : TE} {ta : TA} {f m : Str} {σ : L2.St} {H : Hp} {Q : VK} {D : Ends} {a C dx : Addr} {fs : List (Str × V)} {v y : V} {sp : Sp} {E : XK}
def FldQ (K : PySem.W.Frag) (f : Str) (Q : VK) (x : V) (H1 : Hp) : Prop := ∃ a C dx fs v, x = .ref a ∧ H1 a = some (.ins C dx fs) ∧ Cls K C ∧ NoAttr K C f ∧ fs.lookup f = some v ∧ Q v H1
theorem s_fld (h : te σ H fun x H1 => FldQ K f Q x H1) : tFld K te f σ H Q := h
theorem mkFld (ha : H a = some (.ins C dx fs)) (c : Cls K C) (n : NoAttr K C f) (l : fs.lookup f = some v) (h : Q v H) : FldQ K f Q (.ref a) H := ⟨a, C, dx, fs, v, rfl, ha, c, n, l, h⟩
def SFldQ (K : PySem.W.Frag) (f : Str) (P : Hp → Prop) (y x : V) (H2 : Hp) : Prop := ∃ a C dx fs, x = .ref a ∧ H2 a = some (.ins C dx fs) ∧ Cls K C ∧ NoAttr K C f ∧ fs.length < 1000 ∧ P (upd H2 a (.ins C dx (putF f y fs)))
theorem s_sfld (h : tv σ H fun y H1 => te σ H1 fun x H2 => SFldQ K f (D.nx σ) y x H2) : sFld K te tv f D σ H := h
theorem mkSFld {P : Hp → Prop} (ha : H a = some (.ins C dx fs)) (c : Cls K C) (n : NoAttr K C f) (l : fs.length < 1000) (h : P (upd H a (.ins C dx (putF f y fs)))) : SFldQ K f P y (.ref a) H := ⟨a, C, dx, fs, rfl, ha, c, n, l, h⟩
def MethQ (C : Addr) (m : Str) (sp : Sp) (E : XK) (ta : TA) (σ : L2.St) (Q : VK) (x : V) (H1 : Hp) : Prop := ∃ a dx fs, x = .ref a ∧ H1 a = some (.ins C dx fs) ∧ fs.lookup m = none ∧ ta σ H1 fun vs H2 => sp (x :: (vs ++ [])) H2 Q E
theorem s_meth (h : te σ H fun x H1 => MethQ C m sp E ta σ Q x H1) : tMeth C m sp [] E te ta σ H Q := h
theorem mkMeth (ha : H a = some (.ins C dx fs)) (l : fs.lookup m = none) (h : ta σ H fun vs H2 => sp (.ref a :: (vs ++ [])) H2 Q E) : MethQ C m sp E ta σ Q (.ref a) H := ⟨a, dx, fs, rfl, ha, l, h⟩
def MakeQ (C : Addr) (sp : Sp) (E : XK) (Q : VK) (vs : List V) (H1 : Hp) : Prop := ∀ x dx, H1 x = none → H1 dx = none → dx ≠ x → sp (.ref x :: (vs ++ [])) (upd (upd H1 dx (.own x)) x (.ins C dx [])) (fun v H2 => v = .non ∧ Q (.ref x) H2) E
theorem s_make (h : ta σ H fun vs H1 => MakeQ C sp E Q vs H1) : tMake C sp [] E ta σ H Q := h
theorem s_dnewT (h : ∀ p H', H p = none → H' p = some (.dT []) → Same H H' → Q (.ref p) H') : tDNewT σ H Q := fun p hp => h p _ hp upd_same (same_upd hp)
theorem s_lenD {kvs : List (L2.Key × V)} (hd : H a = some (.dK kvs)) (h : Q (.int kvs.length) H) : ∃ a' kvs', [V.ref a] = [V.ref a'] ∧ H a' = some (.dK kvs') ∧ Q (.int kvs'.length) H := ⟨a, kvs, rfl, hd, h⟩
def DInQ (Q : VK) (y x : V) (H2 : Hp) : Prop := ∃ a o, x = .ref a ∧ DGet H2 a y o ∧ Q (.bl o.isSome) H2
theorem s_din {ty td : TE} (h : ty σ H fun y H1 => td σ H1 fun x H2 => DInQ Q y x H2) : tDIn ty td σ H Q := h
def DNotInQ (Q : VK) (y x : V) (H2 : Hp) : Prop := ∃ a o, x = .ref a ∧ DGet H2 a y o ∧ Q (.bl (!o.isSome)) H2
theorem s_dnotin {ty td : TE} (h : ty σ H fun y H1 => td σ H1 fun x H2 => DNotInQ Q y x H2) : tDNotIn ty td σ H Q := h
end
end R
/-! the walk of a reading, as far as nothing is asked -/
local macro_rules | `(tactic| walk_at "g1") => `(tactic| first
  | with_reducible refine R.s_seq ?_
  | with_reducible refine R.s_asg ?_
  | ((with_reducible apply R.s_var); focus rfl)
  | with_reducible refine R.s_gname ?_
  | with_reducible refine R.s_op ?_
  | with_reducible refine R.s_c ?_
  | with_reducible refine R.s_cons ?_
  | with_reducible refine R.s_nil ?_
  | with_reducible refine R.s_i0 ?_
  | with_reducible refine R.s_p10_60 ?_
  | with_reducible refine R.s_p10_18 ?_
  | with_reducible refine R.s_p10_8 ?_
  | with_reducible refine R.s_p10_9 ?_
  | with_reducible refine R.s_p10_59 ?_
  | with_reducible refine R.s_p10_6 ?_
  | with_reducible refine R.s_p10_5 ?_
  | with_reducible refine R.s_p10_4 ?_
  | with_reducible refine R.s_p10_12 ?_
  | with_reducible refine R.s_p10_29 ?_
  | with_reducible refine R.s_p10_30 ?_
  | with_reducible refine R.s_p10_39 ?_
  | with_reducible refine R.s_p10_40 ?_
  | with_reducible refine R.s_p10_49 ?_
  | with_reducible refine R.s_p10_50 ?_
  | with_reducible refine R.s_p10_51 ?_
  | with_reducible refine R.s_p10_58 ?_
  | ((with_reducible refine R.s_pow7 ?_ ?_); focus omega)
  | ((with_reducible refine R.s_i ?_ ?_); focus (first | decide | exact R.mulW (by omega) (by omega) | exact R.divW (by decide) (by decide)))
  | with_reducible refine R.s_test ?_
  | with_reducible refine R.s_bl ?_
  | with_reducible refine R.s_ret ?_
  | with_reducible refine R.s_next ?_
  | with_reducible refine R.s_drop ?_
  | with_reducible refine R.s_un ?_
  | with_reducible refine R.s_u ?_
  | with_reducible refine R.s_tB ?_
  | with_reducible refine R.s_andc ?_
  | with_reducible refine R.s_orc ?_
  | with_reducible refine R.s_notc ?_
  | with_reducible refine R.s_andv ?_
  | with_reducible refine R.s_orv ?_
  | with_reducible refine R.s_notv ?_
  | with_reducible refine R.s_ifx ?_
  | with_reducible refine R.s_eqI ?_
  | with_reducible refine R.s_neI ?_
  | with_reducible refine R.s_eqB ?_
  | with_reducible refine R.s_eqS ?_
  | with_reducible refine R.s_neS ?_
  | with_reducible refine R.s_neB ?_
  | with_reducible refine R.s_tup ?_
  | with_reducible refine R.s_lst ?_
  | with_reducible refine R.s_par ?_
  | with_reducible refine R.s_par_ ?_
  | with_reducible refine R.s_par3 ?_
  | with_reducible refine R.s_par3_ ?_
  | with_reducible refine R.s_cb ?_
  | with_reducible refine R.s_call ?_
  | with_reducible refine R.s_turn ?_
  | with_reducible refine R.s_isi_ii ?_
  | with_reducible refine R.s_isi_ib ?_
  | with_reducible refine R.s_bm ?_
  | with_reducible refine R.s_intB ?_
  | with_reducible refine R.s_rng1 ?_
  | with_reducible refine R.s_rng2 ?_
  | with_reducible refine R.s_dget ?_
  | with_reducible refine R.s_gsub ?_
  | with_reducible refine R.s_pc ?_
  | with_reducible refine R.s_pn ?_
  | with_reducible refine R.s_dput ?_
  | with_reducible refine R.s_isN ?_
  | with_reducible refine R.s_isNi ?_
  | with_reducible refine R.s_isNr ?_
  | with_reducible refine R.s_isNb ?_
  | with_reducible refine R.s_bm0 ?_
  | with_reducible refine R.s_lrg2 ?_
  | with_reducible refine R.s_notN ?_
  | with_reducible refine R.s_notNi ?_
  | with_reducible refine R.s_notNr ?_
  | with_reducible refine R.s_chain ?_
  | with_reducible refine R.s_callS ?_
  | with_reducible refine R.s_mko ?_
  | with_reducible refine R.s_rz ?_
  | with_reducible refine R.s_izip ?_
  | with_reducible refine R.s_sl ?_
  | with_reducible refine R.s_nopart ?_
  | with_reducible refine R.s_part ?_
  | with_reducible refine R.s_int_ ?_
  | with_reducible refine R.s_ilist ?_
  | with_reducible refine R.s_itup ?_
  | with_reducible refine R.s_ref_ ?_
  | with_reducible refine R.s_for ?_
  | with_reducible refine R.s_yes ?_
  | with_reducible refine R.s_gcons ?_
  | with_reducible refine R.s_gnil ?_
  | with_reducible refine R.s_abs ?_
  | with_reducible refine R.s_max ?_
  | with_reducible refine R.s_min ?_
  | with_reducible refine R.s_iteT ?_
  | with_reducible refine R.s_iteF ?_
  | with_reducible refine R.s_iteNT ?_
  | with_reducible refine R.s_iteNF ?_
  | ((with_reducible refine R.s_itnP ?_ ?_); focus (with_reducible rfl))
  | ((with_reducible refine R.s_itP ?_ ?_); focus (with_reducible rfl)))
local macro_rules | `(tactic| walk_at "g") => `(tactic| repeat (first | walk_at "g1" | with_reducible refine R.s_if ?_))
local macro_rules | `(tactic| walk_at "c") => `(tactic| repeat (first
  | with_reducible refine R.s_bl ?_
  | with_reducible refine R.s_test ?_
  | with_reducible refine R.s_iteT ?_
  | with_reducible refine R.s_iteF ?_
  | with_reducible refine R.s_iteNT ?_
  | with_reducible refine R.s_iteNF ?_
  | with_reducible refine R.s_if ?_
  | with_reducible refine R.s_next ?_
  | with_reducible refine R.s_gname ?_
  | with_reducible refine R.s_seq ?_))
local macro_rules | `(tactic| walk_at "h") => `(tactic| repeat (walk_at "g1"))
local macro_rules | `(tactic| walk_at "g2") => `(tactic| first
  | with_reducible refine R.s_fld ?_
  | with_reducible refine R.s_sfld ?_
  | with_reducible refine R.s_meth ?_
  | with_reducible refine R.s_make ?_
  | with_reducible refine R.s_din ?_
  | with_reducible refine R.s_dnotin ?_)
local macro_rules | `(tactic| walk_at "G") => `(tactic| repeat (first | walk_at "g1" | walk_at "g2" | with_reducible refine R.s_if ?_))
local macro_rules | `(tactic| walk_at "J") => `(tactic| repeat (first | walk_at "g1" | walk_at "g2"))

/-! several except clauses, some with a name -/
namespace R
open PySem PySem.Spec PyProof.Rows L2
def asEnds (i : Nat) (D : Ends) : Ends := { nx := fun σ' H' => D.nx (σ'.set i none) H', rt := D.rt, bk := fun σ' H' => D.bk (σ'.set i none) H', ct := fun σ' H' => D.ct (σ'.set i none) H' }
def asTs (i : Nat) (ts : Addr → Value → Option Addr → TS) : Addr → Value → Option Addr → TS := fun a cls d D σ H => ts a cls d (asEnds i D) (σ.set i (some (.ref a))) H
inductive HdsN (X : Cx) : List ExceptHandler → List (Value × (Addr → Value → Option Addr → TS)) → Prop
  | nil : HdsN X [] []
  | bare {x : Str} {c : Value} {ts : Addr → Value → Option Addr → TS} {b₀ : Stmt} {suite : List Stmt} {np pos' : Pos} {hds : List ExceptHandler} {l : List (Value × (Addr → Value → Option Addr → TS))} (hc : Names X x c)
      (hsu : ∀ (a : Addr) (oe : Obj) (cls : Value) (d : Option Addr) (pn : List (Addr × Obj)), Zc cls d oe → (∃ vs, oe.data = .fields vs) → PSs (X.suite a ((a, oe) :: pn)) (b₀ :: suite) (ts a cls d)) (r : HdsN X hds l) :
      HdsN X (.ExceptHandler (some (.Name x np)) none (b₀ :: suite) pos' :: hds) ((c, ts) :: l)
  | named {x n : Str} {i : Nat} {c : Value} {ts : Addr → Value → Option Addr → TS} {b₀ : Stmt} {suite : List Stmt} {np pos' : Pos} {hds : List ExceptHandler} {l : List (Value × (Addr → Value → Option Addr → TS))} (hN : X.N.Nodup) (hi : X.N[i]? = some n) (hln : X.env.kindOf n = some .local) (hc : Names X x c)
      (hsu : ∀ (a : Addr) (oe : Obj) (cls : Value) (d : Option Addr) (pn : List (Addr × Obj)), Zc cls d oe → (∃ vs, oe.data = .fields vs) → PSs (X.suite a ((a, oe) :: pn)) (b₀ :: suite) (ts a cls d)) (r : HdsN X hds l) :
      HdsN X (.ExceptHandler (some (.Name x np)) (some n) (b₀ :: suite) pos' :: hds) ((c, asTs i ts) :: l)
section
variable {X : Cx} {body : List Stmt} {h₀ : ExceptHandler} {hds : List ExceptHandler} {l : List (Value × (Addr → Value → Option Addr → TS))} {pos : Pos} {tb : WX → TS} {Wout : WX}
theorem ps_try_mix (hs : X.stack = X.env :: X.outer) (hf : X.env.frame = some X.env.locals) (tk : Takes X Wout)
    (hb : ∀ (W : WX) (pn : List (Addr × Obj)) (xe : Value → Shared → Prop), Takes (X.tr pn xe) W → PassesOwn (model X.prog X.w) X.A X.env xe → PSs (X.tr pn xe) body (tb W))
    (hh : HdsN X (h₀ :: hds) l) : PS X (.Try body (h₀ :: hds) [] [] pos) (fun D σ H => tb (wMany X.K Wout D l) D σ H) := by
  refine ⟨fun pins s σ H D I h => ?_⟩
  have ok := I.ok
  have hfr : X.A.frames = some (X.env :: X.outer) := by rw [ok.frames, hs]
  refine wpAny_Try_except ?_
  refine wpAny_mono ((hb (wMany X.K Wout D l) (X.pn ++ pins) (fun e s₁ => wpAny (model X.prog X.w) X.A (noteFrame e X.env) (fun _ s₂ => wpAny (model X.prog X.w) X.A (setFlight e none) (fun _ s₃ =>
    wpAny (model X.prog X.w) X.A (handleBy e X.env (h₀ :: hds)) (SP X pins D) X.xe s₃) X.xe s₂) X.xe s₁) (fun u s' xx => ?_) PassesOwn.looking).run [] s σ H D (I.toTry _) h) (fun f s1 hsp => ?_) (fun e s1 he => he)
  · -- the catch
    obtain ⟨a, B, sI, pins', σ', H', cls, d, rfl, J', nb, up, sky, na, os, ag, w⟩ := xx
    have J : Inv X pins σ' H' sI := J'.ofTry ok
    have sky' : Sky B (X.env :: X.outer) a (Zc cls d) X.env.locals s'.heap := by rw [← hs]; exact sky
    show wpAny (model X.prog X.w) X.A (noteFrame (.ref a) X.env) _ _ _
    refine Sky.land Zc.steady hfr hf sky' fun h3 fl3 up3 => ?_
    have J3 : Inv X pins σ' H' { s' with heap := h3 } := J.landed nb fl3.1 (up.trans up3) os ag
    obtain ⟨oe3, vs3, he3, hz3, hd3⟩ := fl3.there
    have notFr : ∀ {h : Heap} {o : Obj} {vs : Array Value}, h.FunFrames B (X.env :: X.outer) → h.get? a = some o → o.data = .fields vs → a ∉ frs (X.env :: X.outer) := fun {h o vs} ff e dd hm => by
      obtain ⟨_, o', e', hnf⟩ := ff.mem hm
      rw [e] at e'; cases e'
      exact hnf _ dd
    have nfr := notFr fl3.2.2.1 he3 hd3
    have nL : a ≠ X.env.locals := fun z => nfr (List.mem_filterMap.mpr ⟨X.env, List.mem_cons_self, by rw [hf, z]⟩)
    have nF : a ∉ X.fs := fun hm => by
      obtain ⟨e, he, q⟩ := List.mem_filterMap.mp hm
      exact nfr (List.mem_filterMap.mpr ⟨e, List.mem_cons_of_mem _ he, q⟩)
    have S3 := J3.suite he3 hd3 na nL nF
    have go : ∀ {hds' : List ExceptHandler} {l' : List (Value × (Addr → Value → Option Addr → TS))}, HdsN X hds' l' → wMany X.K Wout D l' cls d σ' H' →
        wpAny (model X.prog X.w) X.A (handleBy (.ref a) X.env hds') (SP X pins D) X.xe { s' with heap := h3 } := by
      intro hds' l' hk
      induction hk with
      | nil =>
        intro w
        refine wpAny_handleBy_nil ?_
        obtain ⟨k1, k2, k3, oe, vs, T, oT, ts', he, hz, hd, h1, hr⟩ := id fl3
        unfold PySem.passOn
        refine wpAny_bind (wpAny_field he hd h1 ?_)
        rw [if_neg (show ¬ ((Value.ref T == Value.none) = true) from by simp)]
        have fin : wpAny (model X.prog X.w) X.A (setFlight (.ref a) X.env.frame) (fun _ s4 => wpAny (model X.prog X.w) X.A (throw (.ref a) : Sem Flow) (SP X pins D) X.xe s4) X.xe { s' with heap := h3 } := by
          rw [hf]
          refine HandSPX.setFlight_upZ fl3 fun h4 hh4 up4 => wpAny_throw (tk _ _ ?_)
          exact ⟨a, B, sI, pins, σ', H', cls, d, rfl, J, nb, (up.trans up3).trans up4, .inr (.inr (by rw [hs]; exact hh4)), na, os, ag, w⟩
        first
          | exact wpAny_bind (wpAny_pure (wpAny_bind fin))
          | exact wpAny_bind fin
      | @bare x c ts b₀ suite np pos' hds2 l2 hc hsu r ih =>
        intro w
        obtain ⟨b, hb1, hyes, hno⟩ := w
        refine wpAny_handleBy_cons (codeAny_handlers_test ?_) (by intro q; cases q)
        have LT : PySem.W.Looks (model X.prog X.w) h3 (typeOf (.ref a)) cls := fun A Q E s k q => wpAny_typeOf_ref (k _ _ he3) (by rw [hz3.1]; exact q)
        have LM := PySem.W.exm_one (M := model X.prog X.w) (J3.kIn) LT hb1
        have test : ∀ {Q : Value → Shared → Prop} {E : Value → Shared → Prop}, Q c { s' with heap := h3 } → wpAny (model X.prog X.w) (X.A.mark (some (.ref a))) (eval (.Name x np) X.env) Q E { s' with heap := h3 } := fun {Q E} q => by
          obtain ⟨hg, hdbg, hm | ⟨hm, hv, hnn⟩⟩ := hc
          · exact ld_glob (X := X.suite a ((a, oe3) :: (X.pn ++ pins))) S3 hg hm q hdbg
          · exact ld_blt (X := X.suite a ((a, oe3) :: (X.pn ++ pins))) S3 hg hm hv q hnn hdbg
        refine test (LM.here ?_)
        cases b with
        | true =>
          refine codeAny_handlers_suite ?_
          refine HandSPX.lands_againZ fl3 fun h4 fl4 up4 => ?_
          have J4 : Inv X pins σ' H' { s' with heap := h4 } := J.landed nb fl4.1 ((up.trans up3).trans up4) os ag
          obtain ⟨oe4, vs4, he4, hz4, hd4⟩ := fl4.there
          have S4 := J4.suite he4 hd4 na nL nF
          refine wpAny_mono ((hsu a oe4 cls d (X.pn ++ pins) hz4 ⟨_, hd4⟩).run [] _ _ H' _ S4 (hyes rfl a na)) (fun f s6 hsp => ?_) (fun _ _ z => False.elim z)
          cases f with
          | next =>
            obtain ⟨σ6, H6, S6, q6⟩ := hsp
            exact ⟨_, _, S6.unsuite ok, q6⟩
          | brk =>
            obtain ⟨σ6, H6, S6, q6⟩ := hsp
            exact ⟨_, _, S6.unsuite ok, q6⟩
          | cont =>
            obtain ⟨σ6, H6, S6, q6⟩ := hsp
            exact ⟨_, _, S6.unsuite ok, q6⟩
          | ret u =>
            obtain ⟨v6, σ6, H6, S6, r6, q6⟩ := hsp
            exact ⟨_, _, _, S6.unsuite ok, r6, q6⟩
        | false =>
          show wpAny _ X.A (handleBy (.ref a) X.env hds2) _ _ _
          exact ih (hno rfl)
      | @named x n i c ts b₀ suite np pos' hds2 l2 hN hi hln hc hsu r ih =>
        intro w
        obtain ⟨b, hb1, hyes, hno⟩ := w
        refine wpAny_handleBy_cons (codeAny_handlers_test ?_) (by intro q; cases q)
        have LT : PySem.W.Looks (model X.prog X.w) h3 (typeOf (.ref a)) cls := fun A Q E s k q => wpAny_typeOf_ref (k _ _ he3) (by rw [hz3.1]; exact q)
        have LM := PySem.W.exm_one (M := model X.prog X.w) (J3.kIn) LT hb1
        have test : ∀ {Q : Value → Shared → Prop} {E : Value → Shared → Prop}, Q c { s' with heap := h3 } → wpAny (model X.prog X.w) (X.A.mark (some (.ref a))) (eval (.Name x np) X.env) Q E { s' with heap := h3 } := fun {Q E} q => by
          obtain ⟨hg, hdbg, hm | ⟨hm, hv, hnn⟩⟩ := hc
          · exact ld_glob (X := X.suite a ((a, oe3) :: (X.pn ++ pins))) S3 hg hm q hdbg
          · exact ld_blt (X := X.suite a ((a, oe3) :: (X.pn ++ pins))) S3 hg hm hv q hnn hdbg
        refine test (LM.here ?_)
        cases b with
        | true =>
          refine codeAny_handlers_suite_as ?_
          refine HandSPX.lands_againZ fl3 fun h4 fl4 up4 => ?_
          have J4 : Inv X pins σ' H' { s' with heap := h4 } := J.landed nb fl4.1 ((up.trans up3).trans up4) os ag
          obtain ⟨oe4, vs4, he4, hz4, hd4⟩ := fl4.there
          have S4 := J4.suite he4 hd4 na nL nF
          have hloc : Loc X.env.scope n := .inl hln
          refine store_ok (X := X.suite a ((a, oe4) :: (X.pn ++ pins))) (v := .ref a) S4 hN hi hloc rfl (fun s5 S5 => ?_) (.inr hln)
          refine wpAny_mono ((hsu a oe4 cls d (X.pn ++ pins) hz4 ⟨_, hd4⟩).run [] s5 _ H' _ S5 (hyes rfl a na)) (fun f s6 hsp => ?_) (fun _ _ z => False.elim z)
          have end_ : ∀ {σ6 : L2.St} {H6 : Hp} {Q : Shared → Prop}, Inv (X.suite a ((a, oe4) :: (X.pn ++ pins))) [] σ6 H6 s6 → (∀ s7, Inv X pins (σ6.set i none) H6 s7 → Q s7) →
              wpAny (model X.prog X.w) X.A (do bindName X.env n .none; unbindBehindTheSuite X.env n pos') (fun _ s7 => Q s7) X.xe s6 := fun {σ6 H6 Q} S6 hq => gone_ok (S6.unsuite ok) hN hi hln hq
          cases f with
          | next =>
            obtain ⟨σ6, H6, S6, q6⟩ := hsp
            exact end_ S6 fun s7 J7 => ⟨_, _, J7, q6⟩
          | brk =>
            obtain ⟨σ6, H6, S6, q6⟩ := hsp
            exact end_ S6 fun s7 J7 => ⟨_, _, J7, q6⟩
          | cont =>
            obtain ⟨σ6, H6, S6, q6⟩ := hsp
            exact end_ S6 fun s7 J7 => ⟨_, _, J7, q6⟩
          | ret u =>
            obtain ⟨v6, σ6, H6, S6, r6, q6⟩ := hsp
            exact end_ S6 fun s7 J7 => ⟨_, _, _, J7, r6, q6⟩
        | false =>
          show wpAny _ X.A (handleBy (.ref a) X.env hds2) _ _ _
          exact ih (hno rfl)
    exact go hh w
  · cases f with
    | next =>
      obtain ⟨σ', H', J', q⟩ := hsp
      exact wpAny_execs_nil ⟨σ', H', J'.ofTry ok, q⟩
    | brk =>
      obtain ⟨σ', H', J', q⟩ := hsp
      exact ⟨σ', H', J'.ofTry ok, q⟩
    | cont =>
      obtain ⟨σ', H', J', q⟩ := hsp
      exact ⟨σ', H', J'.ofTry ok, q⟩
    | ret u =>
      obtain ⟨v, σ', H', J', r, q⟩ := hsp
      exact ⟨v, σ', H', J'.ofTry ok, r, q⟩
end
theorem s_asEnds {i : Nat} {D : Ends} {σ : L2.St} {H : Hp} (h : D.nx (σ.set i none) H) : (asEnds i D).nx σ H := h
end R

/-! exceptions made by hand, as values -/
namespace R
open PySem PySem.Spec PyProof.Rows L2
/-- an exception that was made, at a -/
def exq (a : Addr) (cls : Value) (d : Option Addr) : HO := .ext fun h => ∃ (oe : Obj) (vs : Array Value), h.get? a = some oe ∧ Zc cls d oe ∧ oe.data = .fields vs
theorem exq_at {P : Program} {w : World} {H : Hp} {h : Heap} {a : Addr} {cls : Value} {d : Option Addr} (hok : HOk P w H h) (he : H a = some (exq a cls d)) : ∃ (oe : Obj) (vs : Array Value), h.get? a = some oe ∧ Zc cls d oe ∧ oe.data = .fields vs := by
  have x : ObjOk P w H h a (.ext fun h => ∃ (oe : Obj) (vs : Array Value), h.get? a = some oe ∧ Zc cls d oe ∧ oe.data = .fields vs) := hok a _ he
  exact x.1
def tMkQ (t : L2.St → Hp → XK → Prop) : TE := fun σ H Q => t σ H fun cls d H' => ∀ a, H' a = none → Q (.ref a) (upd H' a (exq a cls d))
theorem pe_mk {X : Cx} {e : Expr} {t : L2.St → Hp → XK → Prop} (he : PMk X e t) : PE X e (tMkQ t) := by
  refine ⟨fun pins s σ H Q I h => ?_⟩
  refine thn (he pins s σ H _ I h) fun u s' ⟨a, oe, vs, sI, H', cls, d, eu, I1, kp, na, ha, hz, hd, _, nH, ho, hb, _, q⟩ => ?_
  subst eu
  have neA : ∀ {b : Addr} {o : Obj}, sI.heap.get? b = some o → b ≠ a := fun e z => by rw [z, na] at e; cases e
  have U : Un (frs X.stack) [] H' (upd H' a (exq a cls d)) sI.heap s'.heap := {
    keep := fun b o z n hf hx => kp b o z
    slot := fun b o z n hf hx => ⟨o.slots, kp b o z⟩
    free := fun b o z n hx => by rw [upd_ne (neA z)]; exact n
    there := fun b o z hx => ⟨o, kp b o z⟩
    tups := fun b xs z => by rw [upd_ne (ne_of_none z nH)]; exact z
    frzs := fun b o v z => by rw [upd_ne (ne_of_none z nH)]; exact z
    tbls := fun b ps z => ⟨#[], by rw [upd_ne (ne_of_none z nH), Array.append_empty]; exact z⟩ }
  have hok : HOk X.prog X.w (upd H' a (exq a cls d)) s'.heap := fun b o z => by
    by_cases hba : b = a
    · subst hba
      rw [upd_same] at z
      cases z
      exact ⟨⟨oe, vs, ha, hz, hd⟩, ⟨oe, ha⟩, fun h1 h2 ⟨oe', vs', g1, g2, g3⟩ k => ⟨oe', vs', k _ g1, g2, g3⟩⟩
    · rw [upd_ne hba] at z
      exact (I1.hok b o z).stay (fun c v hc y => kp c v y) (fun c hc => by rw [upd_ne (ne_of_none hc nH)]; exact hc) (fun c xs hc => by rw [upd_ne (ne_of_none hc nH)]; exact hc)
  exact ⟨.ref a, _, I1.call' (ch := []) ho U hok hb (fun b z => absurd z (by simp)), rfl, q a nH⟩
def tOat (K : PySem.W.Frag) (f : Str) (te : TE) : TE := fun σ H Q => te σ H fun x H1 => ∃ (a C dd : Addr) (fs : List (Str × V)) (v : V), x = .ref a ∧ H1 a = some (exq a (.ref C) (some dd)) ∧ H1 dd = some (.xd fs) ∧ XfC K C ∧ PySem.W.findIn K (.ref C) f = some none ∧ fs.lookup f = some v ∧ Q v H1
theorem pe_oat {X : Cx} {e : Expr} {te : TE} {pos : Pos} {n : Str} (he : PE X e te) (hb : attributeBase e n X.env (eval e X.env) = eval e X.env := by rfl) : PE X (.Attribute e n pos) (tOat X.K n te) := by
  refine ⟨fun pins s σ H Q I h => ?_⟩
  refine attr_of hb (thn (he.run pins s σ H _ I h) fun u s1 hh => ?_)
  obtain ⟨x, H1, I1, rx, a, C, dd, fs, v, ex, ha0, ea, T, hno, l, q⟩ := hh
  subst ex
  obtain rfl : u = Value.ref a := rx
  obtain ⟨oe, vs, ha, hz, hd⟩ := exq_at I1.hok ha0
  have hx : ObjOk X.prog X.w H1 s1.heap dd (.xd fs) := I1.hok dd _ ea
  obtain ⟨mA, hns, hr⟩ := hx
  obtain ⟨od, ho, hl⟩ := lookIn_ns hns
  obtain ⟨u, hu, ru⟩ := RelO.some_of (v := v) (o := mA n) (by rw [← l]; exact hr n)
  have J : PySem.W.InstAt s1.heap a oe C (some od) := ⟨ha, hz.1, by unfold PySem.W.notCls; rw [hd] <;> rfl, by rw [hz.2]; exact ho⟩
  exact HandSPX.exc_get I1.kIn J T.ga T.gg T.exC (PySem.W.findObj_own T.hdC hno rfl (by rw [hl, hu])) (handed_of ru) ⟨v, H1, I1.tok _, ru, q⟩
def rIsQ (K : PySem.W.Frag) : List V → Hp → VK → Prop := fun xs H Q => ∃ (a D : Addr) (d : Option Addr) (fs : List (Str × V)) (c : V) (cv : Value) (b : Bool), xs = [.ref a, c] ∧ H a = some (exq a (.ref D) d) ∧ IsX K D ∧ (∀ dd, d = some dd → H dd = some (.xd fs)) ∧ ClsV c cv ∧ PySem.W.kitOne K (.ref D) cv = some b ∧ Q (.bl b) H
theorem callIsQ {X : Cx} : CallR X (.builtin "isinstance") (rIsQ X.K) := by
  intro pins s σ H xs us Q I r h
  obtain ⟨a, D, d, fs, c, cv, b, rfl, ha, T, hdd, hcv, e, q⟩ := h
  obtain ⟨u1, u2, rfl, r1, r2⟩ := vals2 r
  cases (show u1 = Value.ref a from r1)
  have ec := hcv.eq r2
  subst ec
  obtain ⟨oe, vs, hget, hz, hv⟩ := exq_at I.hok ha
  have J : ∃ od, PySem.W.InstAt s.heap a oe D od := by
    obtain ⟨oc, dd, oda, osl⟩ := oe
    obtain ⟨h1, h2⟩ := hz
    dsimp only at h1 h2 hv
    subst h1 h2 hv
    cases dd with
    | none => exact ⟨none, hget, rfl, rfl, trivial⟩
    | some dx =>
      obtain ⟨mA, hns, _⟩ : ObjOk X.prog X.w H s.heap dx (.xd fs) := I.hok dx _ (hdd dx rfl)
      obtain ⟨o, _, _, ho, _⟩ := hns
      exact ⟨some o, hget, rfl, rfl, ho⟩
  obtain ⟨od, J⟩ := J
  exact PySem.W.kia_one (PySem.W.r_kit T) I.kIn J e (fun z => nomatch z) fun tk => ⟨.bl b, H, I.kept (t' := tk) fun _ _ z => z, rfl, q⟩
theorem s_mkq0 {C : Addr} {σ : L2.St} {H : Hp} {Q : VK} (h : ∀ (a : Addr) (H' : Hp), H a = none → H' a = some (exq a (.ref C) none) → Same H H' → Q (.ref a) H') : tMkQ (tRz C) σ H Q := fun a na => h a _ na upd_same (same_upd na)
theorem s_mkq {K : PySem.W.Frag} {C fI : Addr} {f : Str} {v : V} {σ : L2.St} {H : Hp} {Q : VK} (T : XIn K C fI f) (h : ∀ (a d : Addr) (H' : Hp), H' a = some (exq a (.ref C) (some d)) → H' d = some (.xd [(f, v)]) → Same H H' → Q (.ref a) H') :
    tMkQ (tMkO C (sp_init K C f) [] (tCons (tC v) tNil)) σ H Q := by
  show RzP C (sp_init K C f) (fun cls d H' => ∀ a, H' a = none → Q (.ref a) (upd H' a (exq a cls d))) [v] H
  refine s_raise T.oex T.noF fun d H' hd hx hs a na => ?_
  exact h a d _ upd_same (by rw [upd_ne (ne_of_none hx na)]; exact hx) (hs.trans (same_upd na))
theorem s_oat {K : PySem.W.Frag} {C fI : Addr} {f : Str} {v : V} {σ : L2.St} {H : Hp} {Q : VK} (T : XIn K C fI f) (h : ∀ H', Same H H' → Q v H') : tOat K f (tMkQ (tMkO C (sp_init K C f) [] (tCons (tC v) tNil))) σ H Q :=
  s_mkq T fun a d H' e1 e2 s => ⟨a, C, d, [(f, v)], v, rfl, e1, e2, T.xf, T.noF, by simp [List.lookup], h H' s⟩
end R

/-! own exceptions with two fields -/
namespace R
open PySem PySem.Spec PyProof.Rows L2
def sp_init2 (K : PySem.W.Frag) (C : Addr) (f g : Str) : Sp := fun vs H Q _ => ∃ (a : Addr) (v w : V), vs = [.ref a, v, w] ∧ OexC K C ∧ PySem.W.findIn K (.ref C) f = some none ∧ PySem.W.findIn K (.ref C) g = some none ∧ H a = some (exo a C none) ∧
  ∀ dx, H dx = none → dx ≠ a → Q .non (upd (upd (upd H dx (exd dx [(f, v)])) a (exo a C (some dx))) dx (exd dx [(g, w), (f, v)]))
theorem rd_init2 {K : PySem.W.Frag} {C : Addr} {f g m : Str} {vs : List V} {H : Hp} {Q : VK} {E : XK} (h : sp_init2 K C f g vs H Q E) :
    tSeq (tDrop (tVeI K (tCons (tVar 0) (tCons (tC (.str m)) tNil)))) (tSeq (tOst K f (tVar 0) (tVar 1)) (tOst K g (tVar 0) (tVar 2))) { nx := fun _ H' => Q .non H', rt := Q } (L2.start ["self", f, g] vs) H := by
  obtain ⟨a, v, w, rfl, T, hn, hm, ha, k⟩ := h
  exact ⟨_, rfl, a, C, [.str m], rfl, by simp, T, ha, _, rfl, _, rfl, a, C, rfl, T, hn, .inl ⟨ha, fun dx h1 h2 => ⟨_, rfl, _, rfl, a, C, rfl, T, hm, .inr ⟨dx, [(f, v)], upd_same, by rw [upd_ne h2, upd_same], by simp, k dx h1 h2⟩⟩⟩⟩
theorem s_raise2 {K : PySem.W.Frag} {H : Hp} {QX : XK} {C : Addr} {f g : Str} {v w : V} (T : OexC K C) (hn : PySem.W.findIn K (.ref C) f = some none) (hm : PySem.W.findIn K (.ref C) g = some none) (k : ∀ d H', H d = none → H' d = some (.xd [(g, w), (f, v)]) → Same H H' → QX (.ref C) (some d) H') : RzP C (sp_init2 K C f g) QX [v, w] H := by
  refine ⟨by simp, fun a ha => ⟨a, v, w, rfl, T, hn, hm, upd_same, fun dx hdx hne => ⟨rfl, dx, [(g, w), (f, v)], ?_, upd_same, ?_, ?_⟩⟩⟩
  · rw [upd_ne (Ne.symm hne), upd_same]
  · rw [upd_ne hne] at hdx; exact hdx
  · rw [upd_ne hne] at hdx
    refine k dx _ hdx upd_same fun b o e => ?_
    have n1 : b ≠ dx := ne_of_none e hdx
    have n2 : b ≠ a := ne_of_none e ha
    rw [upd_ne n1, del_ne n2, upd_ne n1, upd_ne n2, upd_ne n1, upd_ne n2]
    exact e
end R

namespace Tx
open PySem
/-! texts of things, as lists of signs -/
def isF (c : Nat) : Bool := decide (48 ≤ c) && decide (c ≤ 57)
def isA (c : Nat) : Bool := decide (97 ≤ c) && decide (c ≤ 122)
theorem isF_iff {c : Nat} : isF c = true ↔ 48 ≤ c ∧ c ≤ 57 := by simp [isF]
theorem isA_iff {c : Nat} : isA c = true ↔ 97 ≤ c ∧ c ≤ 122 := by simp [isA]
/-- the next sign is one of some -/
def sees (p : Nat → Bool) : List Nat → Bool
  | c :: _ => p c
  | [] => false
theorem sees_app {p : Nat → Bool} : ∀ {a r : List Nat}, a ≠ [] → sees p (a ++ r) = sees p a
  | _ :: _, _, _ => rfl
  | [], _, h => absurd rfl h
def is1 (c : Nat) : Nat → Bool := fun x => decide (x = c)
inductive Out where
  | ok (d : PyData) (r : List Nat)
  | no (r : List Nat)
inductive LOut where
  | ok (ds : List PyData) (r : List Nat)
  | no (r : List Nat)
/-- signs that are some, at most so many -/
def runM (p : Nat → Bool) (m : Nat) (cs : List Nat) : Option (List Nat × List Nat) := if (cs.takeWhile p).length ≤ m then some (cs.takeWhile p, cs.dropWhile p) else none
def numM (cs : List Nat) : Out :=
  if sees (is1 48) cs = true then (if sees isF cs.tail = true then .no cs.tail else .ok (.int 0) cs.tail)
  else if (cs.takeWhile isF).length ≤ 60 then .ok (.int (NumText.digitsVal (cs.takeWhile isF) : Nat)) (cs.dropWhile isF) else .no (cs.drop 60)
def negM (cs : List Nat) : Out :=
  if sees (is1 48) cs = true then .no cs
  else if sees isF cs = true then (match numM cs with
    | .ok (.int i) r => .ok (.int (0 - i)) r
    | o => o)
  else .ok .none cs
def wordM (cs : List Nat) : Out := if (cs.takeWhile isA).length ≤ 8 then .ok (.str ⟨(cs.takeWhile isA).toArray⟩) (cs.dropWhile isA) else .no (cs.drop 8)
mutual
/-- a thing is read so -/
inductive Th : Nat → List Nat → Out → Prop
  | num {n : Nat} {cs : List Nat} (h : sees isF cs = true) : Th n cs (numM cs)
  | neg {n : Nat} {cs : List Nat} : Th n (45 :: cs) (negM cs)
  | word {n : Nat} {cs : List Nat} (h : sees isA cs = true) : Th n cs (wordM cs)
  | deep {n : Nat} {cs : List Nat} (h : 80 ≤ n) : Th n (40 :: cs) (.no (40 :: cs))
  | nil {n : Nat} {cs : List Nat} (h : n < 80) : Th n (40 :: 41 :: cs) (.ok (.tuple []) cs)
  | row {n : Nat} {cs r : List Nat} {ds : List PyData} (h : n < 80) (hs : sees (is1 41) cs = false) (l : Ls (n + 1) cs (.ok ds r)) : Th n (40 :: cs) (.ok (.tuple ds) r)
  | rowNo {n : Nat} {cs r : List Nat} (h : n < 80) (hs : sees (is1 41) cs = false) (l : Ls (n + 1) cs (.no r)) : Th n (40 :: cs) (.no r)
  | other {n : Nat} {cs : List Nat} (h1 : sees isF cs = false) (h2 : sees (is1 45) cs = false) (h3 : sees isA cs = false) (h4 : sees (is1 40) cs = false) : Th n cs (.no cs)
/-- the things of a row, to behind its end -/
inductive Ls : Nat → List Nat → LOut → Prop
  | no {n : Nat} {cs r : List Nat} (h : Th n cs (.no r)) : Ls n cs (.no r)
  | last {n : Nat} {cs r : List Nat} {d : PyData} (h : Th n cs (.ok d (41 :: r))) : Ls n cs (.ok [d] r)
  | more {n : Nat} {cs r r' : List Nat} {d : PyData} {ds : List PyData} (h : Th n cs (.ok d (32 :: r))) (t : Ls n r (.ok ds r')) : Ls n cs (.ok (d :: ds) r')
  | moreNo {n : Nat} {cs r r' : List Nat} {d : PyData} (h : Th n cs (.ok d (32 :: r))) (t : Ls n r (.no r')) : Ls n cs (.no r')
  | bad {n : Nat} {cs r : List Nat} {d : PyData} (h : Th n cs (.ok d r)) (h1 : sees (is1 41) r = false) (h2 : sees (is1 32) r = false) : Ls n cs (.no r)
end
theorem sees_one {p : Nat → Bool} {c : Nat} {r : List Nat} : sees p (c :: r) = p c := rfl
theorem sees_cons {c : Nat} {cs : List Nat} (h : sees (is1 c) cs = true) : ∃ r, cs = c :: r := by
  cases cs with
  | nil => cases h
  | cons x r => exact ⟨r, by rw [of_decide_eq_true (show decide (x = c) = true from h)]⟩
mutual
theorem Th.det : ∀ {n : Nat} {cs : List Nat} {o o' : Out}, Th n cs o → Th n cs o' → o = o'
  | _, _, _, _, .num h, h' => by
    cases h' with
    | num _ => rfl
    | neg => exact absurd h (by simp [sees, isF, isA, is1])
    | word h2 => exact absurd h (by cases ‹List Nat› with
        | nil => cases h2
        | cons c r => intro z; have a := isF_iff.mp z; have b := isA_iff.mp h2; omega)
    | deep _ => exact absurd h (by simp [sees, isF, isA, is1])
    | nil _ => exact absurd h (by simp [sees, isF, isA, is1])
    | row _ _ _ => exact absurd h (by simp [sees, isF, isA, is1])
    | rowNo _ _ _ => exact absurd h (by simp [sees, isF, isA, is1])
    | other h1 _ _ _ => rw [h] at h1; cases h1
  | _, _, _, _, .neg, h' => by
    cases h' with
    | num h => exact absurd h (by simp [sees, isF, isA, is1])
    | neg => rfl
    | word h => exact absurd h (by simp [sees, isF, isA, is1])
    | other _ h _ _ => exact absurd h (by simp [sees, isF, isA, is1])
  | _, _, _, _, .word h, h' => by
    cases h' with
    | num h2 => exact absurd h (by cases ‹List Nat› with
        | nil => cases h2
        | cons c r => intro z; have a := isA_iff.mp z; have b := isF_iff.mp h2; omega)
    | neg => exact absurd h (by simp [sees, isF, isA, is1])
    | word _ => rfl
    | deep _ => exact absurd h (by simp [sees, isF, isA, is1])
    | nil _ => exact absurd h (by simp [sees, isF, isA, is1])
    | row _ _ _ => exact absurd h (by simp [sees, isF, isA, is1])
    | rowNo _ _ _ => exact absurd h (by simp [sees, isF, isA, is1])
    | other _ _ h1 _ => rw [h] at h1; cases h1
  | _, _, _, _, .deep h, h' => by
    cases h' with
    | num h => exact absurd h (by simp [sees, isF, isA, is1])
    | word h => exact absurd h (by simp [sees, isF, isA, is1])
    | deep _ => rfl
    | nil h2 => omega
    | row h2 _ _ => omega
    | rowNo h2 _ _ => omega
    | other _ _ _ h => exact absurd h (by simp [sees, isF, isA, is1])
  | _, _, _, _, .nil h, h' => by
    cases h' with
    | num h => exact absurd h (by simp [sees, isF, isA, is1])
    | word h => exact absurd h (by simp [sees, isF, isA, is1])
    | deep _ => omega
    | nil h2 => rfl
    | row _ h2 _ => exact absurd h2 (by simp [sees, isF, isA, is1])
    | rowNo _ h2 _ => exact absurd h2 (by simp [sees, isF, isA, is1])
    | other _ _ _ h => exact absurd h (by simp [sees, isF, isA, is1])
  | _, _, _, _, .row h hs l, h' => by
    cases h' with
    | num h => exact absurd h (by simp [sees, isF, isA, is1])
    | word h => exact absurd h (by simp [sees, isF, isA, is1])
    | deep _ => omega
    | nil h2 => exact absurd hs (by simp [sees, isF, isA, is1])
    | row _ h2 l2 => cases Ls.det l l2; rfl
    | rowNo _ h2 l2 => cases Ls.det l l2
    | other _ _ _ h => exact absurd h (by simp [sees, isF, isA, is1])
  | _, _, _, _, .rowNo h hs l, h' => by
    cases h' with
    | num h => exact absurd h (by simp [sees, isF, isA, is1])
    | word h => exact absurd h (by simp [sees, isF, isA, is1])
    | deep _ => omega
    | nil h2 => exact absurd hs (by simp [sees, isF, isA, is1])
    | row _ h2 l2 => cases Ls.det l l2
    | rowNo _ h2 l2 => cases Ls.det l l2; rfl
    | other _ _ _ h => exact absurd h (by simp [sees, isF, isA, is1])
  | _, _, _, _, .other h1 h2 h3 h4, h' => by
    cases h' with
    | num h => rw [h] at h1; cases h1
    | neg => exact absurd h2 (by simp [sees, isF, isA, is1])
    | word h => rw [h] at h3; cases h3
    | deep _ => rfl
    | nil _ => exact absurd h4 (by simp [sees, isF, isA, is1])
    | row _ _ _ => exact absurd h4 (by simp [sees, isF, isA, is1])
    | rowNo _ _ _ => exact absurd h4 (by simp [sees, isF, isA, is1])
    | other _ _ _ _ => rfl
theorem Ls.det : ∀ {n : Nat} {cs : List Nat} {o o' : LOut}, Ls n cs o → Ls n cs o' → o = o'
  | _, _, _, _, .no h, h' => by
    cases h' with
    | no h2 => cases Th.det h h2; rfl
    | last h2 => cases Th.det h h2
    | more h2 _ => cases Th.det h h2
    | moreNo h2 _ => cases Th.det h h2
    | bad h2 _ _ => cases Th.det h h2
  | _, _, _, _, .last h, h' => by
    cases h' with
    | no h2 => cases Th.det h h2
    | last h2 => cases Th.det h h2; rfl
    | more h2 _ => cases Th.det h h2
    | moreNo h2 _ => cases Th.det h h2
    | bad h2 a _ => cases Th.det h h2; exact absurd a (by simp [sees, isF, isA, is1])
  | _, _, _, _, .more h t, h' => by
    cases h' with
    | no h2 => cases Th.det h h2
    | last h2 => cases Th.det h h2
    | more h2 t2 => cases Th.det h h2; cases Ls.det t t2; rfl
    | moreNo h2 t2 => cases Th.det h h2; cases Ls.det t t2
    | bad h2 _ a => cases Th.det h h2; exact absurd a (by simp [sees, isF, isA, is1])
  | _, _, _, _, .moreNo h t, h' => by
    cases h' with
    | no h2 => cases Th.det h h2
    | last h2 => cases Th.det h h2
    | more h2 t2 => cases Th.det h h2; cases Ls.det t t2
    | moreNo h2 t2 => cases Th.det h h2; cases Ls.det t t2; rfl
    | bad h2 _ a => cases Th.det h h2; exact absurd a (by simp [sees, isF, isA, is1])
  | _, _, _, _, .bad h a b, h' => by
    cases h' with
    | no h2 => cases Th.det h h2
    | last h2 => cases Th.det h h2; exact absurd a (by simp [sees, isF, isA, is1])
    | more h2 _ => cases Th.det h h2; exact absurd b (by simp [sees, isF, isA, is1])
    | moreNo h2 _ => cases Th.det h h2; exact absurd b (by simp [sees, isF, isA, is1])
    | bad h2 _ _ => cases Th.det h h2; rfl
end
end Tx

namespace Tx
open PySem
theorem tw_app {p : Nat → Bool} : ∀ {a r : List Nat}, (∀ c ∈ a, p c = true) → sees p r = false → (a ++ r).takeWhile p = a ∧ (a ++ r).dropWhile p = r
  | [], [], _, _ => ⟨rfl, rfl⟩
  | [], c :: r, _, h => by
    have h : p c = false := h
    simp [List.takeWhile_cons, List.dropWhile_cons, h]
  | x :: a, r, h, hr => by
    have h1 := h x (by simp)
    obtain ⟨e1, e2⟩ := tw_app (a := a) (r := r) (fun c hc => h c (by simp [hc])) hr
    rw [List.cons_append, List.takeWhile_cons, List.dropWhile_cons, if_pos h1, if_pos h1, e1, e2]
    exact ⟨rfl, rfl⟩
/-- the signs of a whole number -/
def intL (i : Int) : List Nat := if i < 0 then 45 :: TL.numL i.natAbs else TL.numL i.natAbs
theorem tl_cat (a b : String) : TL.tl (Str.ofString (a ++ b)) = TL.tl (Str.ofString a) ++ TL.tl (Str.ofString b) := by
  rw [Str.ofString_eq_toList, Str.ofString_eq_toList, Str.ofString_eq_toList]
  simp [TL.tl]
theorem tl_int (i : Int) : TL.tl (Str.ofString (toString i)) = intL i := by
  unfold intL
  cases i with
  | ofNat n => rw [if_neg (by simp)]; exact TL.tl_num n
  | negSucc n =>
    rw [if_pos (by omega)]
    have e : toString (Int.negSucc n) = "-" ++ toString ((n + 1 : Nat) : Int) := rfl
    rw [e, tl_cat, TL.tl_num]
    rfl
mutual
/-- the text of a thing -/
def txt : PyData → List Nat
  | .none => [45]
  | .bool _ => []
  | .int i => intL i
  | .str x => TL.tl x
  | .list ds => 40 :: (TL.joinL [32] (txts ds) ++ [41])
  | .tuple ds => 40 :: (TL.joinL [32] (txts ds) ++ [41])
  | .dict _ => []
def txts : List PyData → List (List Nat)
  | [] => []
  | d :: ds => txt d :: txts ds
end
theorem txts_len : ∀ ds : List PyData, (txts ds).length = ds.length
  | [] => rfl
  | _ :: ds => by simp only [txts, List.length_cons, txts_len ds]
theorem txts_map : ∀ ds : List PyData, txts ds = ds.map txt
  | [] => rfl
  | _ :: ds => by simp only [txts, List.map_cons, txts_map ds]
mutual
/-- tuples in the place of lists -/
def tupd : PyData → PyData
  | .list ds => .tuple (tupds ds)
  | .tuple ds => .tuple (tupds ds)
  | .none => .none
  | .bool b => .bool b
  | .int i => .int i
  | .str x => .str x
  | .dict k => .dict k
def tupds : List PyData → List PyData
  | [] => []
  | d :: ds => tupd d :: tupds ds
end
theorem tupds_map : ∀ ds : List PyData, tupds ds = ds.map tupd
  | [] => rfl
  | _ :: ds => by simp only [tupds, List.map_cons, tupds_map ds]
/-- a thing that is read as it is shown, n deep at most -/
inductive Gd : Nat → PyData → Prop
  | non {n : Nat} : Gd n .none
  | int {n : Nat} {i : Int} (h : i.natAbs < 10 ^ 60) : Gd n (.int i)
  | str {n : Nat} {x : Str} (h : ∀ c ∈ TL.tl x, isA c = true) (h1 : TL.tl x ≠ []) (h8 : (TL.tl x).length ≤ 8) : Gd n (.str x)
  | lst {n : Nat} {ds : List PyData} (h : ∀ d ∈ ds, Gd n d) : Gd (n + 1) (.list ds)
  | tup {n : Nat} {ds : List PyData} (h : ∀ d ∈ ds, Gd n d) : Gd (n + 1) (.tuple ds)
theorem Gd.mono : ∀ {n m : Nat} {d : PyData}, Gd n d → n ≤ m → Gd m d := by
  intro n m d h
  induction h generalizing m with
  | non => intro _; exact .non
  | int h => intro _; exact .int h
  | str h h1 h8 => intro _; exact .str h h1 h8
  | lst _ ih =>
    intro e
    obtain ⟨k, rfl⟩ : ∃ k, m = k + 1 := ⟨m - 1, by omega⟩
    exact .lst fun d hd => ih d hd (by omega)
  | tup _ ih =>
    intro e
    obtain ⟨k, rfl⟩ : ∃ k, m = k + 1 := ⟨m - 1, by omega⟩
    exact .tup fun d hd => ih d hd (by omega)
theorem numL_F (n : Nat) : ∀ c ∈ TL.numL n, isF c = true := fun c hc => isF_iff.mpr (TL.numL_digits n c hc)
theorem numL_head {n : Nat} (h : 0 < n) : sees (is1 48) (TL.numL n) = false := by
  induction n using Nat.strongRecOn with
  | _ n ih =>
    by_cases c : n < 10
    · rw [TL.numL_lt c]
      exact decide_eq_false (by omega)
    · rw [TL.numL_step (by omega), sees_app (TL.numL_ne _)]
      exact ih (n / 10) (by omega) (by omega)
theorem sees_all {p : Nat → Bool} : ∀ {a : List Nat}, a ≠ [] → (∀ c ∈ a, p c = true) → sees p a = true
  | c :: _, _, h => h c (by simp)
  | [], h, _ => absurd rfl h
theorem numM_num {n : Nat} {r : List Nat} (hn : n < 10 ^ 60) (hr : sees isF r = false) : numM (TL.numL n ++ r) = .ok (.int (n : Int)) r := by
  unfold numM
  rcases Nat.eq_zero_or_pos n with z | z
  · subst z
    have e : TL.numL 0 = [48] := TL.numL_lt (by decide)
    rw [e, if_pos (show sees (is1 48) ([48] ++ r) = true from by simp [sees, is1])]
    show (if sees isF r = true then Out.no r else Out.ok (.int 0) r) = _
    rw [if_neg (by rw [hr]; exact Bool.false_ne_true)]
    rfl
  · rw [if_neg (by rw [sees_app (TL.numL_ne n), numL_head z]; exact Bool.false_ne_true)]
    obtain ⟨e1, e2⟩ := tw_app (numL_F n) hr
    rw [e1, e2, if_pos (TL.numL_len (by decide) hn), TL.numL_val]
theorem negM_num {n : Nat} {r : List Nat} (h0 : 0 < n) (hn : n < 10 ^ 60) (hr : sees isF r = false) : negM (TL.numL n ++ r) = .ok (.int (0 - (n : Int))) r := by
  unfold negM
  rw [if_neg (by rw [sees_app (TL.numL_ne n), numL_head h0]; exact Bool.false_ne_true), if_pos (by rw [sees_app (TL.numL_ne n)]; exact sees_all (TL.numL_ne n) (numL_F n)), numM_num hn hr]
/-- what may follow a thing's text -/
def Ends (r : List Nat) : Prop := sees isF r = false ∧ sees isA r = false
theorem ends_nil : Ends [] := ⟨rfl, rfl⟩
theorem ends_41 {r : List Nat} : Ends (41 :: r) := ⟨by simp [sees, isF], by simp [sees, isA]⟩
theorem ends_32 {r : List Nat} : Ends (32 :: r) := ⟨by simp [sees, isF], by simp [sees, isA]⟩
theorem not48 {r : List Nat} (h : sees isF r = false) : sees (is1 48) r = false := by
  cases r with
  | nil => rfl
  | cons c r =>
    have h : isF c = false := h
    refine decide_eq_false fun z => ?_
    subst z
    exact absurd h (by decide)
/-- a thing's text doesn't begin with the end of a row -/
theorem txt_41 {n : Nat} {d : PyData} {r : List Nat} (h : Gd n d) : sees (is1 41) (txt d ++ r) = false := by
  have num : ∀ n : Nat, sees (is1 41) (TL.numL n ++ r) = false := fun n => by
    rw [sees_app (TL.numL_ne n)]
    cases e : TL.numL n with
    | nil => rfl
    | cons c l =>
      have := TL.numL_digits n c (by rw [e]; simp)
      exact decide_eq_false (by omega)
  cases h with
  | non => simp [txt, sees, is1]
  | @int _ i h =>
    show sees (is1 41) (intL i ++ r) = false
    unfold intL
    split
    · simp [sees, is1]
    · exact num _
  | @str _ x h h1 h8 =>
    show sees (is1 41) (TL.tl x ++ r) = false
    rw [sees_app h1]
    cases e : TL.tl x with
    | nil => rfl
    | cons c l =>
      have := isA_iff.mp (h c (by rw [e]; simp))
      exact decide_eq_false (by omega)
  | lst _ => simp [txt, sees, is1]
  | tup _ => simp [txt, sees, is1]
theorem ls_of {n : Nat} : ∀ {ds : List PyData}, ds ≠ [] → (∀ d ∈ ds, ∀ r, Ends r → Th n (txt d ++ r) (.ok (tupd d) r)) → ∀ r, Ls n (TL.joinL [32] (txts ds) ++ 41 :: r) (.ok (tupds ds) r)
  | [], h, _, _ => absurd rfl h
  | [d], _, h, r => by
    show Ls n (txt d ++ 41 :: r) (.ok [tupd d] r)
    exact .last (h d (by simp) _ ends_41)
  | d :: e :: ds, _, h, r => by
    have e1 : TL.joinL [32] (txts (d :: e :: ds)) ++ 41 :: r = txt d ++ (32 :: (TL.joinL [32] (txts (e :: ds)) ++ 41 :: r)) := by
      show (txt d ++ ([32] ++ TL.joinL [32] (txts (e :: ds)))) ++ 41 :: r = _
      simp
    rw [e1]
    exact .more (h d (by simp) _ ends_32) (ls_of (by simp) (fun x hx => h x (by simp [hx])) r)
theorem th_of : ∀ {k : Nat} {d : PyData}, Gd k d → ∀ {n : Nat}, k + n ≤ 80 → ∀ r, Ends r → Th n (txt d ++ r) (.ok (tupd d) r) := by
  have row : ∀ {k : Nat} {ds : List PyData}, (∀ d ∈ ds, Gd k d) → (∀ d ∈ ds, ∀ {n : Nat}, k + n ≤ 80 → ∀ r, Ends r → Th n (txt d ++ r) (.ok (tupd d) r)) → ∀ {n : Nat}, k + 1 + n ≤ 80 → ∀ r, Th n (40 :: (TL.joinL [32] (txts ds) ++ [41]) ++ r) (.ok (.tuple (tupds ds)) r) := by
    intro k ds hg ih n hn r
    have e : 40 :: (TL.joinL [32] (txts ds) ++ [41]) ++ r = 40 :: (TL.joinL [32] (txts ds) ++ 41 :: r) := by simp
    rw [e]
    cases ds with
    | nil => exact .nil (by omega)
    | cons d ds =>
      refine .row (by omega) ?_ (ls_of (by simp) (fun x hx r hr => ih x hx (by omega) r hr) r)
      cases ds with
      | nil => exact txt_41 (hg d (by simp))
      | cons x ds =>
        have e1 : TL.joinL [32] (txts (d :: x :: ds)) ++ 41 :: r = txt d ++ (32 :: (TL.joinL [32] (txts (x :: ds)) ++ 41 :: r)) := by
          show (txt d ++ ([32] ++ TL.joinL [32] (txts (x :: ds)))) ++ 41 :: r = _
          simp
        rw [e1]
        exact txt_41 (hg d (by simp))
  intro k d h
  induction h with
  | non =>
    intro n _ r hr
    have e : negM r = .ok .none r := by
      unfold negM
      rw [if_neg (by rw [not48 hr.1]; exact Bool.false_ne_true), if_neg (by rw [hr.1]; exact Bool.false_ne_true)]
    have := @Th.neg n r
    rw [e] at this
    exact this
  | @int _ i h =>
    intro n _ r hr
    show Th n (intL i ++ r) (.ok (.int i) r)
    unfold intL
    split
    · rename_i c
      have := @Th.neg n (TL.numL i.natAbs ++ r)
      rw [negM_num (by omega) h hr.1, show 0 - (i.natAbs : Int) = i by omega] at this
      exact this
    · rename_i c
      have := @Th.num n (TL.numL i.natAbs ++ r) (by rw [sees_app (TL.numL_ne _)]; exact sees_all (TL.numL_ne _) (numL_F _))
      rw [numM_num h hr.1, show (i.natAbs : Int) = i by omega] at this
      exact this
  | @str _ x h h1 h8 =>
    intro n _ r hr
    show Th n (TL.tl x ++ r) (.ok (.str x) r)
    have := @Th.word n (TL.tl x ++ r) (by rw [sees_app h1]; exact sees_all h1 h)
    unfold wordM at this
    obtain ⟨e1, e2⟩ := tw_app h hr.2
    rw [e1, e2, if_pos h8] at this
    exact this
  | lst hg ih =>
    intro n hn r hr
    exact row hg (fun d hd n hn r hr => ih d hd hn r hr) hn r
  | tup hg ih =>
    intro n hn r hr
    exact row hg (fun d hd n hn r hr => ih d hd hn r hr) hn r
end Tx

namespace Tx
open PySem
/-! the reader's places -/
theorem tw_drop {p : Nat → Bool} : ∀ {cs : List Nat} {j : Nat}, j ≤ (cs.takeWhile p).length → (sees p (cs.drop j) = true ↔ j < (cs.takeWhile p).length)
  | [], j, h => by
    simp at h
    subst h
    simp [sees]
  | c :: cs, 0, _ => by
    rw [List.drop_zero, List.takeWhile_cons]
    show p c = true ↔ _
    by_cases hc : p c = true
    · simp [hc]
    · simp [hc]
  | c :: cs, j + 1, h => by
    rw [List.takeWhile_cons] at h ⊢
    by_cases hc : p c = true
    · rw [if_pos hc] at h ⊢
      rw [List.length_cons] at h ⊢
      rw [List.drop_succ_cons, tw_drop (by omega)]
      omega
    · rw [if_neg hc] at h
      simp at h
theorem tw_take {p : Nat → Bool} : ∀ {cs : List Nat}, cs.take (cs.takeWhile p).length = cs.takeWhile p
  | [] => rfl
  | c :: cs => by
    rw [List.takeWhile_cons]
    by_cases hc : p c = true
    · rw [if_pos hc, List.length_cons, List.take_succ_cons, tw_take]
    · rw [if_neg hc]; rfl
theorem tw_dropw {p : Nat → Bool} : ∀ {cs : List Nat}, cs.drop (cs.takeWhile p).length = cs.dropWhile p
  | [] => rfl
  | c :: cs => by
    rw [List.takeWhile_cons, List.dropWhile_cons]
    by_cases hc : p c = true
    · rw [if_pos hc, if_pos hc, List.length_cons, List.drop_succ_cons, tw_dropw]
    · rw [if_neg hc, if_neg hc]; rfl
theorem tw_le {p : Nat → Bool} {cs : List Nat} : (cs.takeWhile p).length ≤ cs.length := by
  have := congrArg List.length (tw_take (p := p) (cs := cs))
  rw [List.length_take] at this
  omega
theorem tw_mem {p : Nat → Bool} : ∀ {cs : List Nat} {c : Nat}, c ∈ cs.takeWhile p → p c = true
  | [], _, h => by simp at h
  | x :: cs, c, h => by
    rw [List.takeWhile_cons] at h
    by_cases hc : p x = true
    · rw [if_pos hc] at h
      rcases List.mem_cons.mp h with e | e
      · rw [e]; exact hc
      · exact tw_mem e
    · rw [if_neg hc] at h; simp at h
theorem tw_ne {p : Nat → Bool} {cs : List Nat} (h : sees p cs = true) : cs.takeWhile p ≠ [] := by
  cases cs with
  | nil => cases h
  | cons c r =>
    have h : p c = true := h
    rw [List.takeWhile_cons, if_pos h]; simp
theorem sees_congr {p q : Nat → Bool} (h : ∀ c, p c = q c) (cs : List Nat) : sees p cs = sees q cs := by
  cases cs with
  | nil => rfl
  | cons c r => exact h c
theorem sees_len {p : Nat → Bool} {cs : List Nat} (h : sees p cs = true) : 0 < cs.length := by
  cases cs with
  | nil => cases h
  | cons c r => simp
theorem sees_dlen {p : Nat → Bool} {cs : List Nat} {h : Nat} (e : sees p (cs.drop h) = true) : h < cs.length := by
  have := sees_len e
  rw [List.length_drop] at this
  omega
theorem negM_ok {cs r : List Nat} {i : Int} (h1 : sees (is1 48) cs = false) (h2 : sees isF cs = true) (e : numM cs = .ok (.int i) r) : negM cs = .ok (.int (0 - i)) r := by
  unfold negM
  rw [if_neg (by rw [h1]; exact Bool.false_ne_true), if_pos h2, e]
theorem negM_no {cs r : List Nat} (h1 : sees (is1 48) cs = false) (h2 : sees isF cs = true) (e : numM cs = .no r) : negM cs = .no r := by
  unfold negM
  rw [if_neg (by rw [h1]; exact Bool.false_ne_true), if_pos h2, e]
theorem joinL_len : ∀ {ls : List (List Nat)}, ls ≠ [] → (TL.joinL [32] ls).length + 1 = (ls.map (·.length)).sum + ls.length
  | [], h => absurd rfl h
  | [p], _ => by simp [TL.joinL]
  | p :: q :: r, _ => by
    have ih := joinL_len (ls := q :: r) (by simp)
    simp only [TL.joinL, List.length_append, List.length_cons, List.length_nil, List.map_cons, List.sum_cons] at ih ⊢
    omega
theorem sum_mem {l : List Nat} {x : Nat} (h : x ∈ l) : x ≤ l.sum := by
  induction l with
  | nil => cases h
  | cons y l ih =>
    rw [List.sum_cons]
    rcases List.mem_cons.mp h with e | e
    · omega
    · have := ih e; omega
/-- a thing that is shown: n deep at most, no truths -/
inductive Shw : Nat → PyData → Prop
  | non {n : Nat} : Shw n .none
  | int {n : Nat} {i : Int} (h : i.natAbs < 2 ^ 900) : Shw n (.int i)
  | str {n : Nat} (x : Str) : Shw n (.str x)
  | lst {n : Nat} {ds : List PyData} (h : ∀ d ∈ ds, Shw n d) : Shw (n + 1) (.list ds)
  | tup {n : Nat} {ds : List PyData} (h : ∀ d ∈ ds, Shw n d) : Shw (n + 1) (.tuple ds)
theorem Gd.shw {n : Nat} {d : PyData} (h : Gd n d) : Shw n d := by
  induction h with
  | non => exact .non
  | int h => exact .int (Nat.lt_trans h (by decide))
  | str _ _ _ => exact .str _
  | lst _ ih => exact .lst ih
  | tup _ ih => exact .tup ih
theorem Shw.mono : ∀ {n m : Nat} {d : PyData}, Shw n d → n ≤ m → Shw m d := by
  intro n m d h
  induction h generalizing m with
  | non => intro _; exact .non
  | int h => intro _; exact .int h
  | str x => intro _; exact .str x
  | lst _ ih =>
    intro e
    obtain ⟨k, rfl⟩ : ∃ k, m = k + 1 := ⟨m - 1, by omega⟩
    exact .lst fun d hd => ih d hd (by omega)
  | tup _ ih =>
    intro e
    obtain ⟨k, rfl⟩ : ∃ k, m = k + 1 := ⟨m - 1, by omega⟩
    exact .tup fun d hd => ih d hd (by omega)
/-- the text of a row -/
def rowL (ds : List PyData) : List Nat := 40 :: (TL.joinL [32] (txts ds) ++ [41])
theorem rowL_len (ds : List PyData) : (rowL ds).length = (TL.joinL [32] (txts ds)).length + 2 := by simp [rowL]
theorem row_sum {ds : List PyData} : ((txts ds).map (·.length)).sum + ds.length ≤ (rowL ds).length := by
  rw [rowL_len]
  cases ds with
  | nil => simp [txts, TL.joinL]
  | cons d ds =>
    have := joinL_len (ls := txts (d :: ds)) (by simp [txts])
    rw [txts_len] at this
    omega
theorem row_mem {ds : List PyData} {d : PyData} (h : d ∈ ds) : (txt d).length ≤ (rowL ds).length := by
  have h1 : (txt d).length ∈ (txts ds).map (·.length) := List.mem_map.mpr ⟨txt d, by rw [txts_map]; exact List.mem_map.mpr ⟨d, h, rfl⟩, rfl⟩
  have h2 := sum_mem h1
  have h3 := @row_sum ds
  omega
theorem row_count {ds : List PyData} : ds.length ≤ (rowL ds).length := by
  have h3 := @row_sum ds
  omega
mutual
theorem txt_tupd : ∀ d : PyData, txt (tupd d) = txt d
  | .none => rfl
  | .bool _ => rfl
  | .int _ => rfl
  | .str _ => rfl
  | .dict _ => rfl
  | .list ds => by simp only [tupd, txt, txts_tupd ds]
  | .tuple ds => by simp only [tupd, txt, txts_tupd ds]
theorem txts_tupd : ∀ ds : List PyData, txts (tupds ds) = txts ds
  | [] => rfl
  | d :: ds => by simp only [tupds, txts, txt_tupd d, txts_tupd ds]
end
theorem Gd.tupd {n : Nat} {d : PyData} (h : Gd n d) : Gd n (tupd d) := by
  induction h with
  | non => exact .non
  | int h => exact .int h
  | str h h1 h8 => exact .str h h1 h8
  | lst _ ih =>
    simp only [Tx.tupd]
    refine .tup fun e he => ?_
    rw [tupds_map] at he
    obtain ⟨d, hd, rfl⟩ := List.mem_map.mp he
    exact ih d hd
  | tup _ ih =>
    simp only [Tx.tupd]
    refine .tup fun e he => ?_
    rw [tupds_map] at he
    obtain ⟨d, hd, rfl⟩ := List.mem_map.mp he
    exact ih d hd
theorem th_full {k n : Nat} {d : PyData} (h : Gd k d) (hn : k + n ≤ 80) : Th n (txt d) (.ok (tupd d) []) := by
  have := th_of h hn [] ends_nil
  rwa [List.append_nil] at this
theorem digits_rep (k : Nat) : NumText.digitsVal (57 :: List.replicate k 48) = 9 * 10 ^ k := by
  have key : ∀ (k a : Nat), (List.replicate k 48).foldl (fun acc c => acc * 10 + (c - 48)) a = a * 10 ^ k := by
    intro k
    induction k with
    | zero => intro a; simp
    | succ k ih =>
      intro a
      rw [List.replicate_succ, List.foldl_cons, ih, Nat.pow_succ]
      simp only [Nat.sub_self, Nat.add_zero]
      rw [Nat.mul_assoc, Nat.mul_comm 10]
  unfold NumText.digitsVal
  rw [List.foldl_cons]
  exact key k _
end Tx

namespace Tx
open PySem
/-! a text read sign by sign -/
inductive Md where
  | start | first | minus | number | word | fin
  deriving DecidableEq
def stepA (m : Md) (n k c : Nat) : Option (Md × Nat × Nat) :=
  if m = .start ∨ m = .first then
    if c = 41 ∧ m = .first then some (.fin, n - 1, k)
    else if c = 40 ∧ n < 80 then some (.first, n + 1, k)
    else if c = 45 ∨ c = 48 then some (if c = 48 then .fin else .minus, n, k)
    else if isF c = true ∨ isA c = true then some (if isF c = true then .number else .word, n, 1)
    else none
  else if m = .minus ∧ isF c = true ∧ c ≠ 48 then some (.number, n, 1)
  else if (m = .number ∧ isF c = true ∧ k < 60) ∨ (m = .word ∧ isA c = true ∧ k < 8) then some (m, n, k + 1)
  else if 0 < n ∧ (c = 32 ∨ c = 41) then some (if c = 41 then .fin else .start, if c = 41 then n - 1 else n, k)
  else none
def aut : Md → Nat → Nat → List Nat → Option (List Nat)
  | m, n, _, [] => if 0 < n ∨ m = .start then some [] else none
  | m, n, k, c :: cs => match stepA m n k c with
    | none => some (c :: cs)
    | some (m', n', k') => aut m' n' k' cs
theorem aut_cons {m m' : Md} {n n' k k' c : Nat} {cs : List Nat} (h : stepA m n k c = some (m', n', k')) : aut m n k (c :: cs) = aut m' n' k' cs := by
  show (match stepA m n k c with
    | none => some (c :: cs)
    | some (m', n', k') => aut m' n' k' cs) = _
  rw [h]
theorem aut_no {m : Md} {n k c : Nat} {cs : List Nat} (h : stepA m n k c = none) : aut m n k (c :: cs) = some (c :: cs) := by
  show (match stepA m n k c with
    | none => some (c :: cs)
    | some (m', n', k') => aut m' n' k' cs) = _
  rw [h]
theorem step_tri {m : Md} {n c : Nat} (h1 : m ≠ .number) (h2 : m ≠ .word) : (∀ k, stepA m n k c = none) ∨ (∃ m' n', m' ≠ .number ∧ m' ≠ .word ∧ ∀ k, stepA m n k c = some (m', n', k)) ∨ (∃ m' n', ∀ k, stepA m n k c = some (m', n', 1)) := by
  have beg : ∀ m : Md, (m = .start ∨ m = .first) → ¬ (c = 41 ∧ m = .first) → (∀ k, stepA m n k c = none) ∨ (∃ m' n', m' ≠ .number ∧ m' ≠ .word ∧ ∀ k, stepA m n k c = some (m', n', k)) ∨ (∃ m' n', ∀ k, stepA m n k c = some (m', n', 1)) := fun m hm h41 => by
    by_cases a : c = 40 ∧ n < 80
    · exact .inr (.inl ⟨.first, n + 1, by simp, by simp, fun k => by unfold stepA; rw [if_pos hm, if_neg h41, if_pos a]⟩)
    · by_cases b : c = 48
      · exact .inr (.inl ⟨.fin, n, by simp, by simp, fun k => by unfold stepA; rw [if_pos hm, if_neg h41, if_neg a, if_pos (.inr b), if_pos b]⟩)
      · by_cases d : c = 45
        · exact .inr (.inl ⟨.minus, n, by simp, by simp, fun k => by unfold stepA; rw [if_pos hm, if_neg h41, if_neg a, if_pos (.inl d), if_neg b]⟩)
        · by_cases f : isF c = true ∨ isA c = true
          · exact .inr (.inr ⟨_, n, fun k => by unfold stepA; rw [if_pos hm, if_neg h41, if_neg a, if_neg (by omega), if_pos f]⟩)
          · exact .inl fun k => by unfold stepA; rw [if_pos hm, if_neg h41, if_neg a, if_neg (by omega), if_neg f]
  have fin : ∀ m : Md, ¬ (m = .start ∨ m = .first) → (∀ k, ¬ ((m = .number ∧ isF c = true ∧ k < 60) ∨ (m = .word ∧ isA c = true ∧ k < 8))) → ¬ (m = .minus ∧ isF c = true ∧ c ≠ 48) → (∀ k, stepA m n k c = none) ∨ (∃ m' n', m' ≠ .number ∧ m' ≠ .word ∧ ∀ k, stepA m n k c = some (m', n', k)) := fun m a1 a2 a3 => by
    by_cases g : 0 < n ∧ (c = 32 ∨ c = 41)
    · by_cases d : c = 41
      · exact .inr ⟨.fin, n - 1, by simp, by simp, fun k => by unfold stepA; rw [if_neg a1, if_neg a3, if_neg (a2 k), if_pos g, if_pos d, if_pos d]⟩
      · exact .inr ⟨.start, n, by simp, by simp, fun k => by unfold stepA; rw [if_neg a1, if_neg a3, if_neg (a2 k), if_pos g, if_neg d, if_neg d]⟩
    · exact .inl fun k => by unfold stepA; rw [if_neg a1, if_neg a3, if_neg (a2 k), if_neg g]
  cases m with
  | number => exact absurd rfl h1
  | word => exact absurd rfl h2
  | start => exact beg .start (.inl rfl) (by simp)
  | first =>
    by_cases h41 : c = 41
    · exact .inr (.inl ⟨.fin, n - 1, by simp, by simp, fun k => by unfold stepA; rw [if_pos (.inr rfl), if_pos ⟨h41, rfl⟩]⟩)
    · exact beg .first (.inr rfl) (by simp [h41])
  | minus =>
    by_cases g : isF c = true ∧ c ≠ 48
    · exact .inr (.inr ⟨.number, n, fun k => by unfold stepA; rw [if_neg (by simp), if_pos ⟨rfl, g⟩]⟩)
    · rcases fin .minus (by simp) (by simp) (by simp only [true_and]; exact g) with h | h
      · exact .inl h
      · exact .inr (.inl h)
  | fin =>
    rcases fin .fin (by simp) (by simp) (by simp) with h | h
    · exact .inl h
    · exact .inr (.inl h)
theorem aut_free : ∀ {cs : List Nat} {m : Md} {n k : Nat}, m ≠ .number → m ≠ .word → aut m n k cs = aut m n 0 cs
  | [], _, _, _, _, _ => rfl
  | c :: cs, m, n, k, h1, h2 => by
    rcases step_tri (n := n) (c := c) h1 h2 with h | ⟨m', n', a, b, h⟩ | ⟨m', n', h⟩
    · rw [aut_no (h k), aut_no (h 0)]
    · rw [aut_cons (h k), aut_cons (h 0)]
      exact aut_free a b
    · rw [aut_cons (h k), aut_cons (h 0)]
/-- what goes on behind a number, a word, a bare minus, as behind an end -/
theorem aut_end : ∀ {r : List Nat} {m : Md} {n k : Nat}, (m = .number ∧ (sees isF r = false ∨ k = 60)) ∨ (m = .word ∧ (sees isA r = false ∨ k = 8)) ∨ (m = .minus ∧ sees isF r = false) → aut m n k r = aut .fin n 0 r
  | [], m, n, k, h => by
    have : m ≠ .start := by rcases h with h | h | h <;> rw [h.1] <;> simp
    simp [aut, this]
  | c :: cs, m, n, k, h => by
    have e : stepA m n k c = if 0 < n ∧ (c = 32 ∨ c = 41) then some (if c = 41 then .fin else .start, if c = 41 then n - 1 else n, k) else none := by
      rcases h with ⟨rfl, h⟩ | ⟨rfl, h⟩ | ⟨rfl, h⟩
      · have : ¬ (isF c = true ∧ k < 60) := fun ⟨a, b⟩ => by
          rcases h with h | h
          · have h : isF c = false := h
            rw [h] at a; cases a
          · omega
        simp [stepA, this]
      · have : ¬ (isA c = true ∧ k < 8) := fun ⟨a, b⟩ => by
          rcases h with h | h
          · have h : isA c = false := h
            rw [h] at a; cases a
          · omega
        simp [stepA, this]
      · have h : isF c = false := h
        simp [stepA, h]
    have e2 : stepA .fin n 0 c = if 0 < n ∧ (c = 32 ∨ c = 41) then some (if c = 41 then .fin else .start, if c = 41 then n - 1 else n, 0) else none := by simp [stepA]
    by_cases g : 0 < n ∧ (c = 32 ∨ c = 41)
    · rw [if_pos g] at e e2
      rw [aut_cons e, aut_cons e2]
      exact aut_free (by split <;> simp) (by split <;> simp)
    · rw [if_neg g] at e e2
      rw [aut_no e, aut_no e2]
/-- on over figures -/
theorem aut_num {n : Nat} : ∀ {cs : List Nat} {k : Nat}, k ≤ 60 → (k + (cs.takeWhile isF).length ≤ 60 → aut .number n k cs = aut .fin n 0 (cs.dropWhile isF)) ∧ (60 < k + (cs.takeWhile isF).length → aut .number n k cs = some (cs.drop (60 - k)))
  | [], k, hk => ⟨fun _ => aut_end (.inl ⟨rfl, .inl rfl⟩), fun h => by simp at h; omega⟩
  | c :: cs, k, hk => by
    by_cases hc : isF c = true
    · rw [List.takeWhile_cons, List.dropWhile_cons, if_pos hc, if_pos hc, List.length_cons]
      by_cases h60 : k = 60
      · subst h60
        refine ⟨fun h => by omega, fun _ => ?_⟩
        have e : stepA .number n 60 c = none := by
          have := isF_iff.mp hc
          simp [stepA]
          intro _; omega
        rw [aut_no e]; rfl
      · have e : stepA .number n k c = some (.number, n, k + 1) := by
          simp [stepA, hc]; omega
        obtain ⟨i1, i2⟩ := aut_num (n := n) (cs := cs) (k := k + 1) (by omega)
        rw [aut_cons e]
        refine ⟨fun h => i1 (by omega), fun h => ?_⟩
        rw [i2 (by omega), show 60 - k = (60 - (k + 1)) + 1 by omega, List.drop_succ_cons]
    · rw [List.takeWhile_cons, List.dropWhile_cons, if_neg hc, if_neg hc]
      refine ⟨fun _ => aut_end (.inl ⟨rfl, .inl (by simpa [sees] using hc)⟩), fun h => by simp at h; omega⟩
theorem aut_word {n : Nat} : ∀ {cs : List Nat} {k : Nat}, k ≤ 8 → (k + (cs.takeWhile isA).length ≤ 8 → aut .word n k cs = aut .fin n 0 (cs.dropWhile isA)) ∧ (8 < k + (cs.takeWhile isA).length → aut .word n k cs = some (cs.drop (8 - k)))
  | [], k, hk => ⟨fun _ => aut_end (.inr (.inl ⟨rfl, .inl rfl⟩)), fun h => by simp at h; omega⟩
  | c :: cs, k, hk => by
    by_cases hc : isA c = true
    · rw [List.takeWhile_cons, List.dropWhile_cons, if_pos hc, if_pos hc, List.length_cons]
      by_cases h60 : k = 8
      · subst h60
        refine ⟨fun h => by omega, fun _ => ?_⟩
        have e : stepA .word n 8 c = none := by
          have := isA_iff.mp hc
          simp [stepA]
          intro _; omega
        rw [aut_no e]; rfl
      · have e : stepA .word n k c = some (.word, n, k + 1) := by
          simp [stepA, hc]; omega
        obtain ⟨i1, i2⟩ := aut_word (n := n) (cs := cs) (k := k + 1) (by omega)
        rw [aut_cons e]
        refine ⟨fun h => i1 (by omega), fun h => ?_⟩
        rw [i2 (by omega), show 8 - k = (8 - (k + 1)) + 1 by omega, List.drop_succ_cons]
    · rw [List.takeWhile_cons, List.dropWhile_cons, if_neg hc, if_neg hc]
      refine ⟨fun _ => aut_end (.inr (.inl ⟨rfl, .inl (by simpa [sees] using hc)⟩)), fun h => by simp at h; omega⟩
/-- where a thing may begin -/
def Beg (m : Md) (n : Nat) (cs : List Nat) : Prop := m = .start ∨ (m = .first ∧ 0 < n ∧ sees (is1 41) cs = false)
theorem Beg.step {m : Md} {n k c : Nat} {cs : List Nat} (h : Beg m n (c :: cs)) : stepA m n k c =
    if c = 40 ∧ n < 80 then some (.first, n + 1, k) else if c = 45 ∨ c = 48 then some (if c = 48 then .fin else .minus, n, k) else if isF c = true ∨ isA c = true then some (if isF c = true then .number else .word, n, 1) else none := by
  rcases h with rfl | ⟨rfl, _, h⟩
  · simp [stepA]
  · have : c ≠ 41 := fun z => by rw [z] at h; simp [sees, is1] at h
    simp [stepA, this]
theorem beg_nil {m : Md} {n k : Nat} (h : Beg m n []) : aut m n k [] = some [] := by
  rcases h with rfl | ⟨rfl, h, _⟩ <;> simp [aut, *]
/-- a number, told from its first figure on -/
theorem aut_numM {m : Md} {n k : Nat} {cs : List Nat} (hb : Beg m n cs ∨ (m = .minus ∧ sees (is1 48) cs = false)) (hF : sees isF cs = true) : (∀ d r, numM cs = .ok d r → aut m n k cs = aut .fin n 0 r) ∧ (∀ r, numM cs = .no r → aut m n k cs = some r) := by
  cases cs with
  | nil => cases hF
  | cons c cs =>
    have hF : isF c = true := hF
    have hc := isF_iff.mp hF
    by_cases h0 : c = 48
    · subst h0
      have e : stepA m n k 48 = some (.fin, n, k) := by
        rcases hb with hb | ⟨_, h⟩
        · rw [hb.step]; simp
        · simp [sees, is1] at h
      have en : numM (48 :: cs) = if sees isF cs = true then .no cs else .ok (.int 0) cs := by
        unfold numM
        rw [if_pos (by simp [sees, is1])]; rfl
      rw [aut_cons e, en]
      cases g : sees isF cs with
      | false =>
        simp only [Bool.false_eq_true, if_false]
        refine ⟨fun d r h => ?_, fun r h => (by cases h)⟩
        cases h
        exact aut_free (by simp) (by simp)
      | true =>
        simp only [if_true]
        refine ⟨fun d r h => (by cases h), fun r h => ?_⟩
        cases h
        cases cs with
        | nil => cases g
        | cons x cs =>
          have g : isF x = true := g
          have := isF_iff.mp g
          refine aut_no ?_
          simp [stepA]
          intro _; omega
    · have e : stepA m n k c = some (.number, n, 1) := by
        rcases hb with hb | ⟨rfl, _⟩
        · rw [hb.step]
          rw [if_neg (by omega), if_neg (by omega), if_pos (.inl hF), if_pos hF]
        · simp [stepA, hF, h0]
      obtain ⟨i1, i2⟩ := aut_num (n := n) (cs := cs) (k := 1) (by decide)
      have en : numM (c :: cs) = if ((c :: cs).takeWhile isF).length ≤ 60 then .ok (.int (NumText.digitsVal ((c :: cs).takeWhile isF) : Nat)) ((c :: cs).dropWhile isF) else .no ((c :: cs).drop 60) := by
        unfold numM
        rw [if_neg (by simpa [sees, is1] using h0)]
      rw [aut_cons e, en, List.takeWhile_cons, List.dropWhile_cons, if_pos hF, if_pos hF, List.length_cons]
      split
      · refine ⟨fun d r h => ?_, fun r h => (by cases h)⟩
        cases h
        exact i1 (by omega)
      · refine ⟨fun d r h => (by cases h), fun r h => ?_⟩
        cases h
        exact i2 (by omega)
mutual
theorem th_aut : ∀ {n : Nat} {cs : List Nat} {o : Out}, Th n cs o → ∀ {m : Md} {k : Nat}, Beg m n cs → aut m n k cs = (match o with
    | .ok _ r => aut .fin n 0 r
    | .no r => some r)
  | _, _, _, @Th.num n cs h, m, k, hb => by
    obtain ⟨i1, i2⟩ := aut_numM (k := k) (.inl hb) h
    cases e : numM cs with
    | ok d r => exact i1 d r e
    | no r => exact i2 r e
  | _, _, _, @Th.neg n cs, m, k, hb => by
    have e : stepA m n k 45 = some (.minus, n, k) := by rw [hb.step]; simp
    rw [aut_cons e]
    cases h0 : sees (is1 48) cs with
    | true =>
      obtain ⟨r, rfl⟩ := sees_cons h0
      have : negM (48 :: r) = .no (48 :: r) := by unfold negM; rw [if_pos h0]
      rw [this]
      refine aut_no ?_
      simp [stepA]
    | false =>
      cases h1 : sees isF cs with
      | true =>
        obtain ⟨i1, i2⟩ := aut_numM (m := .minus) (n := n) (k := k) (.inr ⟨rfl, h0⟩) h1
        have en : negM cs = (match numM cs with
          | .ok (.int i) r => .ok (.int (0 - i)) r
          | o => o) := by
          unfold negM
          rw [if_neg (by rw [h0]; exact Bool.false_ne_true), if_pos h1]
        rw [en]
        cases e : numM cs with
        | ok d r =>
          cases d <;> exact i1 _ r e
        | no r => exact i2 r e
      | false =>
        have : negM cs = .ok .none cs := by
          unfold negM
          rw [if_neg (by rw [h0]; exact Bool.false_ne_true), if_neg (by rw [h1]; exact Bool.false_ne_true)]
        rw [this]
        exact aut_end (.inr (.inr ⟨rfl, h1⟩))
  | _, _, _, @Th.word n cs h, m, k, hb => by
    cases cs with
    | nil => cases h
    | cons c cs =>
      have h : isA c = true := h
      have hc := isA_iff.mp h
      have hf : ¬ isF c = true := fun z => by have := isF_iff.mp z; omega
      have e : stepA m n k c = some (.word, n, 1) := by
        rw [hb.step, if_neg (by omega), if_neg (by omega), if_pos (.inr h), if_neg hf]
      obtain ⟨i1, i2⟩ := aut_word (n := n) (cs := cs) (k := 1) (by decide)
      rw [aut_cons e]
      unfold wordM
      rw [List.takeWhile_cons, List.dropWhile_cons, if_pos h, if_pos h, List.length_cons]
      split
      · rename_i o d r eo
        split at eo
        · cases eo; exact i1 (by omega)
        · cases eo
      · rename_i o r eo
        split at eo
        · cases eo
        · cases eo; exact i2 (by omega)
  | _, _, _, @Th.deep n cs h, m, k, hb => by
    refine aut_no ?_
    rw [hb.step, if_neg (by omega), if_neg (by decide), if_neg (by decide)]
  | _, _, _, @Th.nil n cs h, m, k, hb => by
    have e : stepA m n k 40 = some (.first, n + 1, k) := by rw [hb.step, if_pos ⟨rfl, h⟩]
    have e2 : stepA .first (n + 1) k 41 = some (.fin, n, k) := by simp [stepA]
    rw [aut_cons e, aut_cons e2]
    exact aut_free (by simp) (by simp)
  | _, _, _, @Th.row n cs r ds h hs l, m, k, hb => by
    have e : stepA m n k 40 = some (.first, n + 1, k) := by rw [hb.step, if_pos ⟨rfl, h⟩]
    rw [aut_cons e]
    exact ls_aut l (.inr ⟨rfl, by omega, hs⟩) (by omega)
  | _, _, _, @Th.rowNo n cs r h hs l, m, k, hb => by
    have e : stepA m n k 40 = some (.first, n + 1, k) := by rw [hb.step, if_pos ⟨rfl, h⟩]
    rw [aut_cons e]
    exact ls_aut l (.inr ⟨rfl, by omega, hs⟩) (by omega)
  | _, _, _, @Th.other n cs h1 h2 h3 h4, m, k, hb => by
    cases cs with
    | nil => exact beg_nil hb
    | cons c cs =>
      have h1 : isF c = false := h1
      have h2 : decide (c = 45) = false := h2
      have h3 : isA c = false := h3
      have h4 : decide (c = 40) = false := h4
      have h2 := of_decide_eq_false h2
      have h4 := of_decide_eq_false h4
      have h48 : c ≠ 48 := fun z => by rw [z] at h1; exact absurd h1 (by decide)
      refine aut_no ?_
      rw [hb.step, if_neg (by omega), if_neg (by omega), if_neg (by rw [h1, h3]; simp)]
theorem ls_aut : ∀ {n : Nat} {cs : List Nat} {o : LOut}, Ls n cs o → ∀ {m : Md} {k : Nat}, Beg m n cs → 0 < n → aut m n k cs = (match o with
    | .ok _ r => aut .fin (n - 1) 0 r
    | .no r => some r)
  | _, _, _, .no h, _, _, hb, _ => th_aut h hb
  | _, _, _, @Ls.last n cs r d h, m, k, hb, hn => by
    have h1 := th_aut h (k := k) hb
    dsimp only at h1 ⊢
    have e : stepA .fin n 0 41 = some (.fin, n - 1, 0) := by simp [stepA]; omega
    rw [h1, aut_cons e]
  | _, _, _, @Ls.more n cs r r' d ds h t, m, k, hb, hn => by
    have h1 := th_aut h (k := k) hb
    dsimp only at h1 ⊢
    have e : stepA .fin n 0 32 = some (.start, n, 0) := by simp [stepA]; omega
    rw [h1, aut_cons e]
    exact ls_aut t (.inl rfl) hn
  | _, _, _, @Ls.moreNo n cs r r' d h t, m, k, hb, hn => by
    have h1 := th_aut h (k := k) hb
    dsimp only at h1 ⊢
    have e : stepA .fin n 0 32 = some (.start, n, 0) := by simp [stepA]; omega
    rw [h1, aut_cons e]
    exact ls_aut t (.inl rfl) hn
  | _, _, _, @Ls.bad n cs r d h g1 g2, m, k, hb, hn => by
    have h1 := th_aut h (k := k) hb
    dsimp only at h1 ⊢
    rw [h1]
    cases r with
    | nil => simp [aut, hn]
    | cons c r =>
      have g1 : decide (c = 41) = false := g1
      have g2 : decide (c = 32) = false := g2
      have := of_decide_eq_false g1
      have := of_decide_eq_false g2
      refine aut_no ?_
      simp [stepA]
      omega
end
end Tx

namespace Tx
open PySem
theorem dv_snoc (l : List Nat) (c : Nat) : NumText.digitsVal (l ++ [c]) = NumText.digitsVal l * 10 + (c - 48) := by
  unfold NumText.digitsVal
  rw [List.foldl_append]; rfl
theorem rev_ind {α : Type} {P : List α → Prop} (h0 : P []) (h1 : ∀ l c, P l → P (l ++ [c])) : ∀ l, P l := fun l => by
  rw [← List.reverse_reverse l]
  induction l.reverse with
  | nil => exact h0
  | cons c l ih => rw [List.reverse_cons]; exact h1 _ _ ih
theorem dv_lt : ∀ (l : List Nat), (∀ c ∈ l, isF c = true) → NumText.digitsVal l < 10 ^ l.length := by
  refine rev_ind (fun _ => by decide) ?_
  · intro l c ih h
    have h1 := ih fun d hd => h d (by simp [hd])
    have h2 := isF_iff.mp (h c (by simp))
    rw [dv_snoc, List.length_append, List.length_cons, List.length_nil, Nat.pow_succ]
    omega
theorem dv_back : ∀ (l : List Nat), l ≠ [] → (∀ c ∈ l, isF c = true) → sees (is1 48) l = false → TL.numL (NumText.digitsVal l) = l ∧ 0 < NumText.digitsVal l := by
  refine rev_ind (fun h => absurd rfl h) ?_
  · intro l c ih _ h h0
    have hc := isF_iff.mp (h c (by simp))
    cases l with
    | nil =>
      have h0 : decide (c = 48) = false := h0
      have h0 := of_decide_eq_false h0
      have e : NumText.digitsVal ([] ++ [c]) = c - 48 := by rw [dv_snoc]; simp [NumText.digitsVal]
      rw [e, TL.numL_lt (by omega)]
      exact ⟨by rw [show 48 + (c - 48) = c by omega]; rfl, by omega⟩
    | cons x l =>
      rw [sees_app (by simp)] at h0
      obtain ⟨i1, i2⟩ := ih (by simp) (fun d hd => h d (by simp at hd ⊢; rcases hd with z | z <;> simp [z])) h0
      rw [dv_snoc, TL.numL_step (by omega), show (NumText.digitsVal (x :: l) * 10 + (c - 48)) / 10 = NumText.digitsVal (x :: l) by omega, show (NumText.digitsVal (x :: l) * 10 + (c - 48)) % 10 = c - 48 by omega, i1]
      exact ⟨by rw [show 48 + (c - 48) = c by omega], by omega⟩
theorem tw_split {p : Nat → Bool} (cs : List Nat) : cs = cs.takeWhile p ++ cs.dropWhile p := (List.takeWhile_append_dropWhile ..).symm
theorem numM_canon {cs r : List Nat} {d : PyData} (hF : sees isF cs = true) (h : numM cs = .ok d r) : ∃ k : Nat, k < 10 ^ 60 ∧ cs = TL.numL k ++ r ∧ d = .int (k : Int) ∧ (sees (is1 48) cs = false → 0 < k) := by
  unfold numM at h
  cases h0 : sees (is1 48) cs with
  | true =>
    rw [if_pos h0] at h
    obtain ⟨r', rfl⟩ := sees_cons h0
    split at h
    · cases h
    · cases h
      exact ⟨0, by decide, by rw [TL.numL_lt (by decide)]; rfl, rfl, fun z => nomatch z⟩
  | false =>
    rw [if_neg (by rw [h0]; exact Bool.false_ne_true)] at h
    split at h
    · rename_i hl
      cases h
      have hne := tw_ne hF
      have hall : ∀ c ∈ cs.takeWhile isF, isF c = true := fun c hc => tw_mem hc
      have h0' : sees (is1 48) (cs.takeWhile isF) = false := by
        rw [tw_split (p := isF) cs, sees_app hne] at h0
        exact h0
      obtain ⟨b1, b2⟩ := dv_back _ hne hall h0'
      refine ⟨_, Nat.lt_of_lt_of_le (dv_lt _ hall) (Nat.pow_le_pow_right (by decide) hl), ?_, rfl, fun _ => b2⟩
      rw [b1]
      exact tw_split cs
    · cases h
theorem negM_canon {cs r : List Nat} {d : PyData} (h : negM cs = .ok d r) : (d = .none ∧ cs = r) ∨ ∃ k : Nat, 0 < k ∧ k < 10 ^ 60 ∧ cs = TL.numL k ++ r ∧ d = .int (0 - (k : Int)) := by
  cases h0 : sees (is1 48) cs with
  | true =>
    unfold negM at h
    rw [if_pos h0] at h; cases h
  | false =>
    cases h1 : sees isF cs with
    | true =>
      cases e : numM cs with
      | ok d' r' =>
        obtain ⟨k, a1, a2, a3, a4⟩ := numM_canon h1 e
        subst a3
        rw [negM_ok h0 h1 e] at h
        cases h
        exact .inr ⟨k, a4 h0, a1, a2, rfl⟩
      | no r' => rw [negM_no h0 h1 e] at h; cases h
    | false =>
      unfold negM at h
      rw [if_neg (by rw [h0]; exact Bool.false_ne_true), if_neg (by rw [h1]; exact Bool.false_ne_true)] at h
      cases h
      exact .inl ⟨rfl, rfl⟩
mutual
theorem th_canon : ∀ {n : Nat} {cs : List Nat} {o : Out}, Th n cs o → n ≤ 80 → (match o with
    | .ok d r => cs = txt d ++ r ∧ Gd (80 - n) d ∧ tupd d = d
    | .no _ => True)
  | _, _, _, @Th.num n cs h, _ => by
    cases e : numM cs with
    | no r => trivial
    | ok d r =>
      obtain ⟨k, a1, a2, rfl, _⟩ := numM_canon h e
      refine ⟨?_, .int (by rw [Int.natAbs_natCast]; exact a1), rfl⟩
      show cs = intL (k : Int) ++ r
      unfold intL
      rw [if_neg (by omega), Int.natAbs_natCast]
      exact a2
  | _, _, _, @Th.neg n cs, _ => by
    cases e : negM cs with
    | no r => trivial
    | ok d r =>
      rcases negM_canon e with ⟨rfl, rfl⟩ | ⟨k, a1, a2, a3, rfl⟩
      · exact ⟨rfl, .non, rfl⟩
      · refine ⟨?_, .int (by omega), rfl⟩
        show 45 :: cs = intL (0 - (k : Int)) ++ r
        unfold intL
        rw [if_pos (by omega), show (0 - (k : Int)).natAbs = k by omega, a3]; rfl
  | _, _, _, @Th.word n cs h, _ => by
    unfold wordM
    split
    · rename_i o d r eo
      split at eo
      · rename_i hl
        cases eo
        exact ⟨tw_split cs, .str (fun c hc => tw_mem (p := isA) hc) (tw_ne h) hl, rfl⟩
      · cases eo
    · trivial
  | _, _, _, .deep _, _ => trivial
  | _, _, _, @Th.nil n cs h, _ => ⟨rfl, (Gd.tup (n := 0) (by simp)).mono (by omega), by simp only [tupd, tupds]⟩
  | _, _, _, @Th.row n cs r ds h hs l, _ => by
    obtain ⟨a1, a2, a3⟩ := ls_canon l (by omega)
    refine ⟨?_, ?_, ?_⟩
    · rw [a1]; simp [txt]
    · obtain ⟨j, e⟩ : ∃ j, 80 - n = j + 1 := ⟨80 - n - 1, by omega⟩
      rw [e]
      exact .tup fun d hd => by
        have := (a2 d hd).1
        rw [show 80 - (n + 1) = j by omega] at this
        exact this
    · simp only [tupd]
      rw [tupds_map, List.map_congr_left (g := id) fun d hd => (a2 d hd).2, List.map_id]
  | _, _, _, .rowNo _ _ _, _ => trivial
  | _, _, _, .other _ _ _ _, _ => trivial
theorem ls_canon : ∀ {n : Nat} {cs : List Nat} {o : LOut}, Ls n cs o → n ≤ 80 → (match o with
    | .ok ds r => cs = TL.joinL [32] (txts ds) ++ 41 :: r ∧ (∀ d ∈ ds, Gd (80 - n) d ∧ tupd d = d) ∧ ds ≠ []
    | .no _ => True)
  | _, _, _, .no _, _ => trivial
  | _, _, _, @Ls.last n cs r d h, hn => by
    obtain ⟨a1, a2, a3⟩ := th_canon h hn
    exact ⟨a1, by simpa using ⟨a2, a3⟩, by simp⟩
  | _, _, _, @Ls.more n cs r r' d ds h t, hn => by
    obtain ⟨a1, a2, a3⟩ := th_canon h hn
    obtain ⟨b1, b2, b3⟩ := ls_canon t hn
    refine ⟨?_, ?_, by simp⟩
    · rw [a1, b1]
      cases ds with
      | nil => exact absurd rfl b3
      | cons e ds =>
        show _ = (txt d ++ ([32] ++ TL.joinL [32] (txts (e :: ds)))) ++ 41 :: r'
        simp
    · intro e he
      rcases List.mem_cons.mp he with z | z
      · rw [z]; exact ⟨a2, a3⟩
      · exact b2 e z
  | _, _, _, .moreNo _ _, _ => trivial
  | _, _, _, .bad _ _ _, _ => trivial
end
theorem txt_ne {n : Nat} {d : PyData} (h : Gd n d) : txt d ≠ [] := by
  cases h with
  | non => simp [txt]
  | @int _ i h =>
    show intL i ≠ []
    unfold intL
    split
    · simp
    · exact TL.numL_ne _
  | str h h1 h8 => exact h1
  | lst _ => simp [txt]
  | tup _ => simp [txt]
theorem th_less {n : Nat} {cs r : List Nat} {d : PyData} (h : Th n cs (.ok d r)) (hn : n ≤ 80) : r.length < cs.length := by
  obtain ⟨a1, a2, _⟩ := th_canon h hn
  have := List.length_pos_iff.mpr (txt_ne a2)
  rw [a1, List.length_append]; omega
theorem ls_less {n : Nat} {cs r : List Nat} {ds : List PyData} (h : Ls n cs (.ok ds r)) (hn : n ≤ 80) : r.length < cs.length := by
  obtain ⟨a1, _⟩ := ls_canon h hn
  rw [a1]; simp; omega
theorem suf_drop {cs : List Nat} (k : Nat) : ∃ l, cs = l ++ cs.drop k := ⟨cs.take k, (List.take_append_drop k cs).symm⟩
theorem suf_tail {cs : List Nat} : ∃ l, cs = l ++ cs.tail := by
  cases cs with
  | nil => exact ⟨[], rfl⟩
  | cons c cs => exact ⟨[c], rfl⟩
theorem numM_suf {cs r : List Nat} (h : numM cs = .no r) : ∃ l, cs = l ++ r := by
  unfold numM at h
  split at h
  · split at h
    · cases h; exact suf_tail
    · cases h
  · split at h
    · cases h
    · cases h; exact suf_drop 60
theorem negM_suf {cs r : List Nat} (h : negM cs = .no r) : ∃ l, cs = l ++ r := by
  cases h0 : sees (is1 48) cs with
  | true =>
    unfold negM at h
    rw [if_pos h0] at h; cases h; exact ⟨[], rfl⟩
  | false =>
    cases h1 : sees isF cs with
    | true =>
      cases e : numM cs with
      | ok d' r' =>
        obtain ⟨k, _, _, rfl, _⟩ := numM_canon h1 e
        rw [negM_ok h0 h1 e] at h; cases h
      | no r' =>
        rw [negM_no h0 h1 e] at h; cases h
        exact numM_suf e
    | false =>
      unfold negM at h
      rw [if_neg (by rw [h0]; exact Bool.false_ne_true), if_neg (by rw [h1]; exact Bool.false_ne_true)] at h
      cases h
mutual
theorem th_suf : ∀ {n : Nat} {cs : List Nat} {o : Out}, Th n cs o → n ≤ 80 → (match o with
    | .ok _ _ => True
    | .no r => ∃ l, cs = l ++ r)
  | _, _, _, @Th.num n cs h, _ => by
    cases e : numM cs with
    | ok d r => trivial
    | no r => exact numM_suf e
  | _, _, _, @Th.neg n cs, _ => by
    cases e : negM cs with
    | ok d r => trivial
    | no r =>
      obtain ⟨l, h⟩ := negM_suf e
      exact ⟨45 :: l, by rw [h]; rfl⟩
  | _, _, _, @Th.word n cs h, _ => by
    unfold wordM
    split
    · trivial
    · rename_i o r eo
      split at eo
      · cases eo
      · cases eo; exact suf_drop 8
  | _, _, _, .deep _, _ => ⟨[], rfl⟩
  | _, _, _, .nil _, _ => trivial
  | _, _, _, .row _ _ _, _ => trivial
  | _, _, _, @Th.rowNo n cs r h hs l, _ => by
    obtain ⟨a, e⟩ := ls_suf l (by omega)
    exact ⟨40 :: a, by rw [e]; rfl⟩
  | _, _, _, .other _ _ _ _, _ => ⟨[], rfl⟩
theorem ls_suf : ∀ {n : Nat} {cs : List Nat} {o : LOut}, Ls n cs o → n ≤ 80 → (match o with
    | .ok _ _ => True
    | .no r => ∃ l, cs = l ++ r)
  | _, _, _, .no h, hn => th_suf h hn
  | _, _, _, .last _, _ => trivial
  | _, _, _, .more _ _, _ => trivial
  | _, _, _, @Ls.moreNo n cs r r' d h t, hn => by
    obtain ⟨a1, _⟩ := th_canon h hn
    obtain ⟨l, e⟩ := ls_suf t hn
    exact ⟨txt d ++ 32 :: l, by rw [a1, e]; simp⟩
  | _, _, _, @Ls.bad n cs r d h _ _, hn => by
    obtain ⟨a1, _⟩ := th_canon h hn
    exact ⟨txt d, a1⟩
end
/-- something comes of every text -/
theorem th_total : ∀ (m : Nat) (cs : List Nat), cs.length ≤ m → (∀ n, n ≤ 80 → ∃ o, Th n cs o) ∧ (∀ n, n ≤ 80 → ∃ o, Ls n cs o) := by
  intro m
  induction m with
  | zero =>
    intro cs hc
    have : cs = [] := by cases cs with
      | nil => rfl
      | cons c cs => simp at hc
    subst this
    exact ⟨fun n _ => ⟨_, .other rfl rfl rfl rfl⟩, fun n _ => ⟨_, .no (.other rfl rfl rfl rfl)⟩⟩
  | succ m ih =>
    intro cs hc
    have th : ∀ n, n ≤ 80 → ∃ o, Th n cs o := fun n hn => by
      cases h1 : sees isF cs with
      | true => exact ⟨_, .num h1⟩
      | false =>
      cases h2 : sees (is1 45) cs with
      | true =>
        obtain ⟨r, rfl⟩ := sees_cons h2
        exact ⟨_, .neg⟩
      | false =>
      cases h3 : sees isA cs with
      | true => exact ⟨_, .word h3⟩
      | false =>
      cases h4 : sees (is1 40) cs with
      | false => exact ⟨_, .other h1 h2 h3 h4⟩
      | true =>
        obtain ⟨r, rfl⟩ := sees_cons h4
        by_cases h80 : 80 ≤ n
        · exact ⟨_, .deep h80⟩
        · cases h5 : sees (is1 41) r with
          | true =>
            obtain ⟨r', rfl⟩ := sees_cons h5
            exact ⟨_, .nil (by omega)⟩
          | false =>
            obtain ⟨o, ho⟩ := (ih r (by simp at hc; omega)).2 (n + 1) (by omega)
            cases o with
            | ok ds r' => exact ⟨_, .row (by omega) h5 ho⟩
            | no r' => exact ⟨_, .rowNo (by omega) h5 ho⟩
    refine ⟨th, fun n hn => ?_⟩
    obtain ⟨o, ho⟩ := th n hn
    cases o with
    | no r => exact ⟨_, .no ho⟩
    | ok d r =>
      have hl := th_less ho hn
      cases h5 : sees (is1 41) r with
      | true =>
        obtain ⟨r', rfl⟩ := sees_cons h5
        exact ⟨_, .last ho⟩
      | false =>
      cases h6 : sees (is1 32) r with
      | false => exact ⟨_, .bad ho h5 h6⟩
      | true =>
        obtain ⟨r', rfl⟩ := sees_cons h6
        obtain ⟨o2, ho2⟩ := (ih r' (by simp at hl; omega)).2 n hn
        cases o2 with
        | ok ds r2 => exact ⟨_, .more ho ho2⟩
        | no r2 => exact ⟨_, .moreNo ho ho2⟩
theorem th_some (n : Nat) (cs : List Nat) (hn : n ≤ 80) : ∃ o, Th n cs o := (th_total cs.length cs (Nat.le_refl _)).1 n hn
/-- what a text is -/
theorem read_or (cs : List Nat) : (∃ d, Th 0 cs (.ok d []) ∧ cs = txt d ∧ Gd 80 d ∧ tupd d = d ∧ aut .start 0 0 cs = none) ∨ ∃ w, w ≤ cs.length ∧ (Th 0 cs (.no (cs.drop w)) ∨ ∃ d, Th 0 cs (.ok d (cs.drop w)) ∧ w < cs.length) ∧ aut .start 0 0 cs = some (cs.drop w) := by
  obtain ⟨o, ho⟩ := th_some 0 cs (by decide)
  have ha := th_aut ho (m := .start) (k := 0) (.inl rfl)
  have suf : ∀ {l r : List Nat}, cs = l ++ r → cs.drop l.length = r := fun e => by rw [e]; simp
  cases o with
  | ok d r =>
    obtain ⟨a1, a2, a3⟩ := th_canon ho (by decide)
    cases r with
    | nil => exact .inl ⟨d, ho, by simpa using a1, a2, a3, ha⟩
    | cons c r =>
      have e := suf a1
      have hl := congrArg List.length a1
      rw [List.length_append, List.length_cons] at hl
      refine .inr ⟨(txt d).length, by omega, .inr ⟨d, by rw [e]; exact ho, by omega⟩, ?_⟩
      rw [e]
      dsimp only at ha
      rw [ha]
      exact aut_no (by simp [stepA])
  | no r => 
    obtain ⟨l, e⟩ := th_suf ho (by decide)
    have e2 := suf e
    have hl := congrArg List.length e
    rw [List.length_append] at hl
    exact .inr ⟨l.length, by omega, .inl (by rw [e2]; exact ho), by rw [e2]; exact ha⟩
end Tx

namespace Tx
open PySem
/-! the words of a text whose brackets are set apart; the pile that makes the thing of them -/
def rp (a : Nat) (z : List Nat) (l : List Nat) : List Nat := l.flatMap fun c => if c = a then z else [c]
theorem replL_one (a : Nat) (z : List Nat) : ∀ l : List Nat, StrLaws.replL [a] z l = rp a z l
  | [] => StrLaws.replL_nil
  | c :: l => by
    have ih := replL_one a z l
    by_cases h : c = a
    · subst h
      rw [StrLaws.replL_hit (by simp) (by simp)]
      show z ++ StrLaws.replL [c] z l = rp c z (c :: l)
      rw [ih]
      simp [rp]
    · rw [StrLaws.replL_miss (by simpa using h), ih]
      simp [rp, h]
/-- both brackets set apart -/
def apart (l : List Nat) : List Nat := rp 41 [32, 41, 32] (rp 40 [32, 40, 32] l)
theorem apart_app (a b : List Nat) : apart (a ++ b) = apart a ++ apart b := by simp [apart, rp]
theorem apart_plain {l : List Nat} (h : ∀ c ∈ l, c ≠ 40 ∧ c ≠ 41) : apart l = l := by
  have e : ∀ (a : Nat) (z l : List Nat), (∀ c ∈ l, c ≠ a) → rp a z l = l := fun a z l h => by
    induction l with
    | nil => rfl
    | cons c l ih =>
      have h1 := h c (by simp)
      have h2 := ih fun d hd => h d (by simp [hd])
      unfold rp at h2 ⊢
      rw [List.flatMap_cons, if_neg h1, h2]; rfl
  unfold apart
  rw [e 40 _ l fun c hc => (h c hc).1, e 41 _ l fun c hc => (h c hc).2]
theorem apart_40 (l : List Nat) : apart (40 :: l) = [32, 40, 32] ++ apart l := by simp [apart, rp]
theorem apart_41 (l : List Nat) : apart (41 :: l) = [32, 41, 32] ++ apart l := by simp [apart, rp]
theorem apart_32 (l : List Nat) : apart (32 :: l) = [32] ++ apart l := by simp [apart, rp]
theorem apart_replace {x : Str} : TL.tl (Txt.replace (Txt.replace x "(" " ( ") ")" " ) ") = apart (TL.tl x) := by
  have e1 : TL.tl ("(" : Str) = [40] := by decide +kernel
  have e2 : TL.tl (")" : Str) = [41] := by decide +kernel
  have e3 : TL.tl (" ( " : Str) = [32, 40, 32] := by decide +kernel
  have e4 : TL.tl (" ) " : Str) = [32, 41, 32] := by decide +kernel
  unfold TL.tl at *
  rw [StrLaws.replace_list (by decide +kernel), StrLaws.replace_list (by decide +kernel), e1, e2, e3, e4, replL_one, replL_one]; rfl
mutual
def tks : PyData → List (List Nat)
  | .tuple ds => [40] :: (tksL ds ++ [[41]])
  | .none => [txt .none]
  | .bool b => [txt (.bool b)]
  | .int i => [txt (.int i)]
  | .str x => [txt (.str x)]
  | .list ds => [txt (.list ds)]
  | .dict k => [txt (.dict k)]
def tksL : List PyData → List (List Nat)
  | [] => []
  | d :: ds => tks d ++ tksL ds
end
theorem w_space (st : List (List Nat) × List Nat) : TL.wstep st 32 = (TL.wfin st, []) := by
  have h : Unicode.isSpace 32 = true := by decide +kernel
  unfold TL.wstep TL.wfin
  rw [if_pos h]
  obtain ⟨a, b⟩ := st
  by_cases c : b = []
  · subst c; simp
  · simp [c]
theorem w_word {ws : List (List Nat)} {a : List Nat} (h : ∀ c ∈ a, 33 ≤ c ∧ c ≤ 126) : a.foldl TL.wstep (ws, []) = (ws, a) := by
  rw [TL.wfold_word a ws [] fun c hc => PySem.W.KWk.nosp (h c hc).1 (h c hc).2]; rfl
/-- the signs of a thing that is no row -/
theorem atom_signs {n : Nat} {d : PyData} (h : Gd n d) : (∃ ds, d = .tuple ds ∨ d = .list ds) ∨ (∀ c ∈ txt d, 33 ≤ c ∧ c ≤ 126 ∧ c ≠ 40 ∧ c ≠ 41) := by
  cases h with
  | non => exact .inr (by simp [txt])
  | @int _ i h =>
    refine .inr fun c hc => ?_
    have hc : c ∈ intL i := hc
    unfold intL at hc
    have key : c ∈ TL.numL i.natAbs → 33 ≤ c ∧ c ≤ 126 ∧ c ≠ 40 ∧ c ≠ 41 := fun h => by
      have := TL.numL_digits _ _ h
      omega
    split at hc
    · rcases List.mem_cons.mp hc with z | z
      · subst z; decide
      · exact key z
    · exact key hc
  | str h h1 h8 =>
    refine .inr fun c hc => ?_
    have := isA_iff.mp (h c hc)
    omega
  | lst _ => exact .inl ⟨_, .inr rfl⟩
  | tup _ => exact .inl ⟨_, .inl rfl⟩
theorem tks_atom {d : PyData} (h : ∀ ds, d ≠ .tuple ds) : tks d = [txt d] := by
  cases d <;> first | rfl | exact absurd rfl (h _)
theorem tks_row {ds : List PyData} (ih : ∀ d ∈ ds, ∀ ws, TL.wfin ((apart (txt d)).foldl TL.wstep (ws, [])) = ws ++ tks d) : ∀ ws, TL.wfin ((apart (TL.joinL [32] (txts ds))).foldl TL.wstep (ws, [])) = ws ++ tksL ds := by
  induction ds with
  | nil => intro ws; simp [txts, TL.joinL, apart, rp, TL.wfin, tksL]
  | cons d ds ihl =>
    intro ws
    cases ds with
    | nil =>
      show TL.wfin ((apart (txt d)).foldl TL.wstep (ws, [])) = ws ++ (tks d ++ [])
      rw [List.append_nil]
      exact ih d (by simp) ws
    | cons e ds =>
      show TL.wfin ((apart (txt d ++ (32 :: TL.joinL [32] (txts (e :: ds))))).foldl TL.wstep (ws, [])) = ws ++ (tks d ++ tksL (e :: ds))
      rw [apart_app, apart_32, List.foldl_append, List.foldl_append, List.foldl_cons, List.foldl_nil, w_space, ih d (by simp) ws, ihl fun x hx => ih x (by simp [hx]), List.append_assoc]
theorem tks_words : ∀ {n : Nat} {d : PyData}, Gd n d → tupd d = d → ∀ ws, TL.wfin ((apart (txt d)).foldl TL.wstep (ws, [])) = ws ++ tks d := by
  have atom : ∀ {n : Nat} {d : PyData}, Gd n d → (∀ ds, d ≠ .tuple ds) → (∀ ds, d ≠ .list ds) → ∀ ws, TL.wfin ((apart (txt d)).foldl TL.wstep (ws, [])) = ws ++ tks d := fun h h1 h2 ws => by
    rcases atom_signs h with ⟨ds, z | z⟩ | z
    · exact absurd z (h1 ds)
    · exact absurd z (h2 ds)
    · rw [apart_plain fun c hc => ⟨(z c hc).2.2.1, (z c hc).2.2.2⟩, w_word fun c hc => ⟨(z c hc).1, (z c hc).2.1⟩, tks_atom h1]
      unfold TL.wfin
      rw [if_neg (txt_ne h)]
  intro n d h
  induction h with
  | non => intro _; exact atom (n := 0) .non (by simp) (by simp)
  | int h => intro _; exact atom (n := 0) (.int h) (by simp) (by simp)
  | str h h1 h8 => intro _; exact atom (n := 0) (.str h h1 h8) (by simp) (by simp)
  | lst _ _ => intro e; simp only [tupd] at e; cases e
  | @tup n ds hg ih =>
    intro e ws
    have e2 : ∀ d ∈ ds, tupd d = d := by
      simp only [tupd, PyData.tuple.injEq] at e
      rw [tupds_map] at e
      intro d hd
      obtain ⟨i, hi, rfl⟩ := List.getElem_of_mem hd
      have := congrArg (fun l => l[i]?) e
      simp only [List.getElem?_map, List.getElem?_eq_getElem hi, Option.map_some] at this
      exact Option.some.inj this
    show TL.wfin ((apart (40 :: (TL.joinL [32] (txts ds) ++ [41]))).foldl TL.wstep (ws, [])) = ws ++ tks (.tuple ds)
    have s40 : ∀ ws : List (List Nat), TL.wstep (ws, []) 40 = (ws, [40]) := fun ws => w_word (ws := ws) (a := [40]) (by simp)
    have s41 : ∀ ws : List (List Nat), TL.wstep (ws, []) 41 = (ws, [41]) := fun ws => w_word (ws := ws) (a := [41]) (by simp)
    have a41 : apart [41] = [32, 41, 32] := by simp [apart, rp]
    have f1 : TL.wfin (ws, []) = ws := rfl
    have f2 : TL.wfin (ws, [40]) = ws ++ [[40]] := rfl
    rw [apart_40, apart_app, a41, List.foldl_append, List.foldl_append]
    simp only [List.foldl_cons, List.foldl_nil, w_space, f1, s40, s41, f2]
    rw [tks_row (fun d hd ws => ih d hd (e2 d hd) ws)]
    simp only [tks]
    show TL.wfin (TL.wfin (ws ++ [[40]] ++ tksL ds, [41]), []) = _
    have f3 : ∀ ws : List (List Nat), TL.wfin (ws, [41]) = ws ++ [[41]] := fun _ => rfl
    have f4 : ∀ ws : List (List Nat), TL.wfin (ws, []) = ws := fun _ => rfl
    rw [f4, f3]
    simp
/-- the value of a word -/
def valM (t : List Nat) : Option PyData :=
  if t = [45] then some .none
  else if sees isA t = true ∧ t.length ≤ 8 then some (.str ⟨t.toArray⟩)
  else if t ≠ [] ∧ t.all isF = true ∧ t.length ≤ 60 then some (.int (NumText.digitsVal t : Nat))
  else if sees (is1 45) t = true ∧ t.tail ≠ [] ∧ t.tail.all isF = true ∧ t.length ≤ 61 then some (.int (-(NumText.digitsVal t.tail : Nat)))
  else none
def pstep (stk : List (List PyData)) (t : List Nat) : Option (List (List PyData)) :=
  if t = [40] then some ([] :: stk)
  else if t = [41] then (match stk with
    | top :: nxt :: r => some ((nxt ++ [.tuple top]) :: r)
    | _ => none)
  else (match stk with
    | top :: r => (valM t).map fun v => (top ++ [v]) :: r
    | _ => none)
def prun : List (List Nat) → List (List PyData) → Option (List (List PyData))
  | [], stk => some stk
  | t :: ts, stk => (pstep stk t).bind (prun ts)
theorem prun_app : ∀ (a b : List (List Nat)) (stk : List (List PyData)), prun (a ++ b) stk = (prun a stk).bind (prun b)
  | [], _, _ => rfl
  | t :: a, b, stk => by
    show (pstep stk t).bind (prun (a ++ b)) = ((pstep stk t).bind (prun a)).bind (prun b)
    cases pstep stk t with
    | none => rfl
    | some s => exact prun_app a b s
theorem valM_of {n : Nat} {d : PyData} (h : Gd n d) (h1 : ∀ ds, d ≠ .tuple ds) (h2 : ∀ ds, d ≠ .list ds) : valM (txt d) = some d ∧ txt d ≠ [40] ∧ txt d ≠ [41] := by
  refine ⟨?_, ?_, ?_⟩
  · cases h with
    | non => rfl
    | @int _ i h =>
      show valM (intL i) = _
      have hF := numL_F i.natAbs
      have hne := TL.numL_ne i.natAbs
      have hl := TL.numL_len (k := 60) (by decide) h
      have hA : sees isA (TL.numL i.natAbs) = false := by
        cases e : TL.numL i.natAbs with
        | nil => rfl
        | cons c l =>
          have := TL.numL_digits i.natAbs c (by rw [e]; simp)
          show isA c = false
          unfold isA; simp; omega
      have h45 : TL.numL i.natAbs ≠ [45] := fun z => by
        have := TL.numL_digits i.natAbs 45 (by rw [z]; simp)
        omega
      have hall : (TL.numL i.natAbs).all isF = true := List.all_eq_true.mpr hF
      unfold intL
      split
      · unfold valM
        rw [if_neg (by simpa using hne), if_neg (fun z => absurd z.1 (by simp [sees, isA])), if_neg (fun z => by have := List.all_eq_true.mp z.2.1 45 (by simp); exact absurd this (by decide)), if_pos ⟨by simp [sees, is1], hne, hall, by simpa using hl⟩]
        show some (PyData.int (-(NumText.digitsVal (TL.numL i.natAbs) : Nat))) = _
        rw [TL.numL_val, show -(i.natAbs : Int) = i by omega]
      · unfold valM
        rw [if_neg h45, if_neg (by rw [hA]; exact fun z => Bool.false_ne_true z.1), if_pos ⟨hne, hall, hl⟩, TL.numL_val, show (i.natAbs : Int) = i by omega]
    | @str _ x g g1 g8 =>
      show valM (TL.tl x) = _
      have hA := sees_all g1 g
      unfold valM
      rw [if_neg (fun z => by rw [z] at hA; simp [sees, isA] at hA), if_pos ⟨hA, g8⟩]
    | lst _ => exact absurd rfl (h2 _)
    | tup _ => exact absurd rfl (h1 _)
  · intro z
    rcases atom_signs h with ⟨ds, w | w⟩ | w
    · exact h1 ds w
    · exact h2 ds w
    · have := w 40 (by rw [z]; simp); omega
  · intro z
    rcases atom_signs h with ⟨ds, w | w⟩ | w
    · exact h1 ds w
    · exact h2 ds w
    · have := w 41 (by rw [z]; simp); omega
theorem prun_of : ∀ {n : Nat} {d : PyData}, Gd n d → tupd d = d → ∀ top r, prun (tks d) (top :: r) = some ((top ++ [d]) :: r) := by
  have atom : ∀ {n : Nat} {d : PyData}, Gd n d → (∀ ds, d ≠ .tuple ds) → (∀ ds, d ≠ .list ds) → ∀ top r, prun (tks d) (top :: r) = some ((top ++ [d]) :: r) := fun h h1 h2 top r => by
    obtain ⟨a, b, c⟩ := valM_of h h1 h2
    rw [tks_atom h1]
    show (pstep (top :: r) _).bind (prun []) = _
    unfold pstep
    rw [if_neg b, if_neg c, a]; rfl
  intro n d h
  induction h with
  | non => intro _; exact atom (n := 0) .non (by simp) (by simp)
  | int h => intro _; exact atom (n := 0) (.int h) (by simp) (by simp)
  | str h h1 h8 => intro _; exact atom (n := 0) (.str h h1 h8) (by simp) (by simp)
  | lst _ _ => intro e; simp only [tupd] at e; cases e
  | @tup n ds hg ih =>
    intro e top r
    have e2 : ∀ d ∈ ds, tupd d = d := by
      simp only [tupd, PyData.tuple.injEq] at e
      rw [tupds_map] at e
      intro d hd
      obtain ⟨i, hi, rfl⟩ := List.getElem_of_mem hd
      have := congrArg (fun l => l[i]?) e
      simp only [List.getElem?_map, List.getElem?_eq_getElem hi, Option.map_some] at this
      exact Option.some.inj this
    have row : ∀ (es : List PyData), (∀ d ∈ es, d ∈ ds) → ∀ t, prun (tksL es) (t :: top :: r) = some ((t ++ es) :: top :: r) := fun es => by
      induction es with
      | nil => intro _ t; simp [tksL, prun]
      | cons d es ih2 =>
        intro hm t
        have hd := hm d (by simp)
        simp only [tksL]
        rw [prun_app, ih d hd (e2 d hd)]
        show prun (tksL es) _ = _
        rw [ih2 (fun x hx => hm x (by simp [hx]))]
        simp
    simp only [tks]
    show (pstep (top :: r) [40]).bind (prun (tksL ds ++ [[41]])) = _
    show prun (tksL ds ++ [[41]]) ([] :: top :: r) = _
    rw [prun_app, row ds (fun _ h => h)]
    rfl
/-- the words of a text of a thing, and what the pile makes of them -/
theorem words_of {n : Nat} {d : PyData} {x : Str} (h : Gd n d) (e : tupd d = d) (hx : TL.tl x = txt d) : (Txt.words (Txt.replace (Txt.replace x "(" " ( ") ")" " ) ")).map TL.tl = tks d ∧ prun (tks d) [[]] = some [[d]] := by
  refine ⟨?_, prun_of h e [] []⟩
  rw [TL.words_tl, apart_replace, hx, tks_words h e]; rfl
end Tx

/-! a walk over a list or a tuple, whichever stands there -/
namespace R
open PySem PySem.Spec PyProof.Rows L2
def iAny (K : PySem.W.Frag) (te : TE) : TI := fun σ H R => te σ H fun x H1 => ∃ a, x = .ref a ∧ (((∃ xs, SqL K H1 a xs) ∧ R (Itl K a) H1) ∨ ((∃ xs, SqT K H1 a xs) ∧ R (Itt K a) H1))
theorem pi_any {X : Cx} {tg e : Expr} {te : TE} (he : PE X e te) : PI X tg e (iAny X.K te) := by
  refine ⟨fun pins s σ H R I h => thn (he.run pins s σ H _ I h) fun u s2 ⟨y, H2, J, ry, a, ey, q⟩ => ?_⟩
  subst ey
  cases ry
  rcases q with ⟨⟨xs, hx⟩, q⟩ | ⟨⟨xs, hx⟩, q⟩
  · obtain ⟨its, _, p, _⟩ := J.list hx
    refine wpAny_pyIter_list p.isList ⟨_, [s2.heap.objs.size], _, _, H2, rfl, J.kept (t' := s2.toks) (fun b o z => Heap.get?_push_of_some _ z), turn_list a _, ⟨_, Heap.get?_push_size _ rfl, rfl, rfl⟩, (fun b hb => ?_), q⟩
    obtain rfl := List.mem_singleton.mp hb
    exact J.fpOk (Nat.le_refl _) (J.hok.fresh (Nat.le_refl _))
  · obtain ⟨its, _, p, _⟩ := J.tuple hx
    refine wpAny_pyIter_tuple (show s2.heap.IsTuple a its.toArray from p) ⟨_, [s2.heap.objs.size], _, _, H2, rfl, J.kept (t' := s2.toks) (fun b o z => Heap.get?_push_of_some _ z), turn_tuple a _, ⟨_, Heap.get?_push_size _ rfl, rfl, rfl⟩, (fun b hb => ?_), q⟩
    obtain rfl := List.mem_singleton.mp hb
    exact J.fpOk (Nat.le_refl _) (J.hok.fresh (Nat.le_refl _))
theorem s_ianyL {K : PySem.W.Frag} {te : TE} {σ : L2.St} {H : Hp} {Q : It → Hp → Prop} (h : te σ H fun x H1 => ∃ a, x = .ref a ∧ (((∃ xs, SqL K H1 a xs) ∧ Q (Itl K a) H1) ∨ ((∃ xs, SqT K H1 a xs) ∧ Q (Itt K a) H1))) : iAny K te σ H Q := h
end R
namespace R
open PySem PySem.Spec PyProof.Rows L2
/-- a comprehension over a list or a tuple that stays -/
theorem s_lcAny {K : PySem.W.Frag} {g : TG} {tt : TT} {te : TE} {vs : List Nat} {σ : L2.St} {H : Hp} {Q : VK} {j : Nat} {a : Addr} {xs : List V} (hv : σ[j]? = some (some (.ref a))) (hx : (∀ H', Same H H' → SqL K H' a xs) ∨ ∀ H', Same H H' → SqT K H' a xs) (Pv : Addr → Nat → Hp → Prop)
    (hP : ∀ D i H', Pv D i H' → Same H H') (h0 : ∀ D, H D = none → Pv D 0 (upd H D (.lst [])))
    (hs : ∀ D i x H', xs[i]? = some x → Pv D i H' → g x (wipe σ vs) H' fun σ2 H2 => wipe σ2 vs = wipe σ vs ∧ tt σ2 H2 fun b H3 => if b = true then te σ2 H3 fun y H4 => ∃ acc, H4 D = some (.lst acc) ∧ acc.length < sizeLine ∧ Pv D (i + 1) (upd H4 D (.lst (acc ++ [y]))) else Pv D (i + 1) H3)
    (hd : ∀ D H', Pv D xs.length H' → Q (.ref D) H') : tLc (iAny K (tVar j)) g tt te vs σ H Q := by
  refine ⟨.ref a, hv, a, rfl, ?_⟩
  rcases hx with h | h
  · exact .inl ⟨⟨xs, h H fun _ _ z => z⟩, fun D nD => lc_list (Pv D) (h0 D nD) (fun i H' _ p => h H' (hP D i H' p)) (hs D) (hd D)⟩
  · exact .inr ⟨⟨xs, h H fun _ _ z => z⟩, fun D nD => lc_tup (Pv D) (h0 D nD) (fun i H' _ p => h H' (hP D i H' p)) (hs D) (hd D)⟩
end R

/-! a text, so many times -/
namespace R
open PySem PySem.Spec PyProof.Rows L2
def rRepS : V → V → Hp → VK → Prop := fun x y H Q => ∃ (z : Str) (k : Int), x = .str z ∧ y = .int k ∧ MulOk z k ∧ Q (.str (Txt.mul z k)) H
theorem op_repS {X : Cx} : OpR X (binaryOp .Mult) rRepS := fun _ _ _ _ _ _ _ _ _ I rx ry h => by
  obtain ⟨z, k, rfl, rfl, ok, q⟩ := h
  obtain ⟨t, rfl⟩ := rx
  obtain ⟨u, rfl⟩ := ry
  exact PySem.SB.mul ok fun t' n => ⟨.str (Txt.mul z k), _, I.tok _, ⟨_, rfl⟩, q⟩
theorem fold_rep (c : Nat) : ∀ (k : Nat) (a : Array Nat), (List.replicate k #[c]).foldl (· ++ ·) a = a ++ (List.replicate k c).toArray
  | 0, a => by simp
  | k + 1, a => by
    rw [List.replicate_succ, List.foldl_cons, fold_rep c k, List.replicate_succ]
    apply Array.toList_inj.mp
    simp
theorem rep_ok {c : Nat} {k : Nat} (h : k ≤ 1000) : MulOk (SX.S [c]) (k : Int) ∧ Txt.mul (SX.S [c]) (k : Int) = SX.S (List.replicate k c) := by
  have l1 : (SX.S [c]).length = 1 := rfl
  refine ⟨⟨?_, fun h1 _ => ?_, fun _ _ => ?_⟩, ?_⟩
  · simp; omega
  · rw [l1]
    have : (1000 : Int) ≤ (2 ^ 63 - 1) / (k : Int) := by
      rw [Int.le_ediv_iff_mul_le (by omega)]
      have : (1000 : Int) * k ≤ 1000 * 1000 := by omega
      omega
    omega
  · rw [l1]
    simp [Builtin.Str.tooLong]
    rw [sizeLine_eq]; omega
  · unfold Txt.mul
    by_cases h1 : (k : Int) < 1
    · rw [if_pos h1, show k = 0 by omega]; rfl
    · rw [if_neg h1]
      by_cases h2 : ((k : Int) == 1 || (SX.S [c]).length == 0) = true
      · rw [if_pos h2]
        have : k = 1 := by simp [l1] at h2; omega
        subst this; rfl
      · rw [if_neg h2, Int.toNat_natCast]
        show (⟨(List.replicate k #[c]).foldl (· ++ ·) #[]⟩ : Str) = _
        rw [fold_rep]; simp
theorem fold_size (a : Array Nat) : ∀ (k : Nat) (b : Array Nat), ((List.replicate k a).foldl (· ++ ·) b).size = b.size + k * a.size
  | 0, b => by simp
  | k + 1, b => by
    rw [List.replicate_succ, List.foldl_cons, fold_size a k, Array.size_append, Nat.add_mul]; omega
theorem rep_any {z : Str} {k : Int} (hz : z.length ≤ 10) (h1 : -1000 ≤ k) (h2 : k ≤ 1000) : MulOk z k ∧ (Txt.mul z k).length ≤ 10000 := by
  refine ⟨⟨?_, fun h3 _ => ?_, fun h3 _ => ?_⟩, ?_⟩
  · simp; omega
  · have : (1000 : Int) ≤ (2 ^ 63 - 1) / k := by
      rw [Int.le_ediv_iff_mul_le (by omega)]
      have : (1000 : Int) * k ≤ 1000 * 1000 := by omega
      omega
    omega
  · have : z.length * k.toNat ≤ 10 * 1000 := Nat.mul_le_mul hz (by omega)
    simp [Builtin.Str.tooLong]
    rw [sizeLine_eq]; omega
  · unfold Txt.mul
    split
    · simp [Str.length, Str.empty]
    · split
      · omega
      · show ((List.replicate k.toNat z.cps).foldl (· ++ ·) #[]).size ≤ 10000
        rw [fold_size]
        have : k.toNat * z.length ≤ 1000 * 10 := Nat.mul_le_mul (by omega) hz
        have e : z.cps.size = z.length := rfl
        rw [e]
        simp; omega
end R

/-! a def whose loop goes over the words of a text that is replaced in: a sign of identity is out when its body begins -/
namespace R
open PySem PySem.Spec PyProof.Rows L2
theorem pssT_nox {X : Cx} {st : List Stmt} {t : TS} (h : PSsT X.nox st t) : PSsT X st t := fun pins s σ H D h0 I hw =>
  wpAny_mono (h pins s σ H D h0 (I.wish _) hw) (fun _ _ q => q.unwish) fun _ _ z => False.elim z
section
variable {P : Program} {w : World} {K : PySem.W.Frag} {mg : Str → Option Value} {base : Heap} {x qual : Str} {params : Arguments} {body : List Stmt} {scope : Scope} {dvs : List V} {kws : List (Str × V)} {f : Addr} {fd : FuncData}
theorem okT {CX : CXT} {N ps : List Str} {k : Nat} {sp : Sp} (F : FunD K x qual params body scope dvs kws f fd) (S : FnScope N ps scope) (hnc : ∀ y ∈ scope.names, y.2 ≠ .cell) (hps : 1 ≤ ps.length) (len : ∀ vs H Q E, sp vs H Q E → vs.length = ps.length)
    (go : ∀ (cdv : Value) (A : Around) (outer : List Env) (s : Shared) (H : Hp) (vs : List V) (Q : VK) (E : XK), Room k (A.deeper (envOfC qual scope s.heap.objs.size f cdv)) → sp vs H Q E →
      ∃ t, PSsT (cxOf CX P w K mg base N qual scope f cdv A outer s H E) body t ∧ t { nx := fun _ H' => Q .non H', rt := Q } (L2.start N vs) H) : FnOk P w K mg base CX (k + 1) f fd ps sp := by
  obtain ⟨_, _, _, _, _, _, _, cdv, _, _, rfl, at_, rec_, -⟩ := F.ex
  exact L2.fn_ofT at_ rec_ S hnc hps len fun A outer s H vs Q E room want => go cdv A outer s H vs Q E room want
end
def rWords : V → List V → Hp → VK → Prop := fun x xs H Q => ∃ a, x = .str a ∧ xs = [] ∧ a.length + 2 ≤ sizeLine ∧ rNewStrs (Txt.words a) H Q
theorem pet_words {X : Cx} {o : Expr} {to : TE} {apos pos : Pos} (ho : PET X o to) (hb : attributeBase o "split" X.env (eval o X.env) = eval o X.env := by rfl) (hl : (apos.endLine == pos.line) = true := by rfl) :
    PET X (.Call (.Attribute o "split" apos) [] [] pos) (tM0 rWords to) := fun pins s σ H Q h0 I h =>
  PySem.Call_method0 hb hl (thn (ho pins s σ H _ h0 I h) fun v s1 ⟨y, H1, J, ry, ⟨a, ey⟩, q⟩ => by
    subst ey
    obtain ⟨t, rfl⟩ := _root_.id ry
    exact ⟨"str", _, F.plainAttrs_str, F.slot_str_split, F.type_str_split, typeIs_str _ _ _, (fun _ e => nomatch e), Calls.callWith_builtin rfl (PySem.evalArgs_none (mt_words pins s1 σ H1 _ [] _ [] Q J ry .nil q))⟩)
end R

/-! a caught error handed to a def of the suite; list.count of flat things -/
namespace R
open PySem PySem.Spec PyProof.Rows L2
section
variable {P : Program} {w : World} {K : PySem.W.Frag} {mg : Str → Option Value} {base : Heap} {CX : CXT} {k : Nat} {f : Addr} {fd : FuncData} {ps : List Str} {sp : Sp} {pin : Addr × Obj}
/-- what a def keeps while an object stands pinned -/
structure FnHeld (P : Program) (w : World) (K : PySem.W.Frag) (mg : Str → Option Value) (base : Heap) (CX : CXT) (k : Nat) (f : Addr) (fd : FuncData) (ps : List Str) (pin : Addr × Obj) (sp : Sp) : Prop where
  many : ∀ vs H Q E, sp vs H Q E → vs.length = ps.length
  goes : ∀ (A : Around) (out : List Env) (st : Shared) (H : Hp) (ar : Args) (us : List Value) (vs : List V) (Q : VK) (E : XK), L2H.RoomH k A → L2H.PinOk out H st pin → Env0 P w K mg base A out st H → BindsTo st fd ar (ps.zip us) → Vals vs us → sp vs H Q E →
    codeAny (model P w) A (.call (.ref f) ar) (CR CX out P w H st Q E) st
theorem held_ok {x qual : Str} {params : Arguments} {body : List Stmt} {scope : Scope} {dvs : List V} {kws : List (Str × V)} {N : List Str} (F : FunD K x qual params body scope dvs kws f fd) (sc : FnScope N ps scope) (many : ∀ vs H Q E, sp vs H Q E → vs.length = ps.length)
    (bd : ∀ (cdv : Value) (A : Around) (out : List Env) (st : Shared) (H : Hp) (vs : List V) (Q : VK) (E : XK), L2H.RoomH k (A.deeper (envOfC qual scope st.heap.objs.size f cdv)) → sp vs H Q E →
      ∃ t, PSs (L2H.cxH CX P w K mg base N qual scope f cdv A out st H E pin) body t ∧ t { nx := fun _ H' => Q .non H', rt := Q } (L2.start N vs) H) : FnHeld P w K mg base CX (k + 1) f fd ps pin sp := by
  obtain ⟨oc, od, dV, kV, doc, pm, an, cdv, ct, osl, rfl, lkp, hco, _, _⟩ := F.ex
  refine ⟨many, fun A out st H ar us vs Q E room pk e0 bnd rel want => ?_⟩
  have same_len := many _ _ _ _ want
  have kin : K.In st.heap := e0.mod.kin.keeps fun b o e => (e0.bs b o e).1
  have nolim : st.heap.NoLimit := e0.mod.nolimit.keeps fun b o e => (e0.bs b o e).1
  have kinds : ∀ y ∈ ps.zip us, scope.names.lookup y.1 = some .local ∨ (scope.names.lookup y.1 = some .cell ∧ ((cellsFrom (st.heap.objs.size + 1) scope.names []).lookup y.1).isSome = true) := fun ⟨n, v⟩ hy => (sc.par n (List.of_mem_zip hy).1).imp id fun q => ⟨q, PySem.W.cellsFrom_some _ _ _ (.inl q)⟩
  refine codeAny_call_function room.depth (kin _ _ lkp) rfl sc.co sc.gen rfl (PySem.W.codeRec_of kin hco) (bnd _ _ _ _ (wpAny_newFunctionEnv_cells sc.kind kinds fun env he st1 x => ?_))
  subst he
  obtain ⟨t, ht, hq⟩ := bd cdv A out st H vs Q E (room.deeper _) want
  refine ⟨nolim.keeps x.toInCall.keep, codeAny_func (wpAny_mono (ht.run [] st1 _ H _ (L2H.inv_startH sc pk e0 same_len rel x) hq) (fun fl s' hs => ?_) fun e s' hs => hs)⟩
  cases fl with
  | ret u => obtain ⟨v, σ', H', J, rv, q⟩ := hs; exact ⟨v, H', J.os, J.bare, J.base, J.hok, rv, q⟩
  | next => obtain ⟨σ', H', J, q⟩ := hs; exact ⟨V.non, H', J.os, J.bare, J.base, J.hok, rfl, q⟩
  | brk => obtain ⟨_, _, _, q⟩ := hs; exact q.elim
  | cont => obtain ⟨_, _, _, q⟩ := hs; exact q.elim
end
section
variable {X : Cx} {CX : CXT} {k : Nat} {f : Addr} {fd : FuncData} {ps : List Str} {sp : Sp} {E : XK} {x : Str} {q pos : Pos} {e : Expr} {es : List Expr} {t : TA} {pin : Addr × Obj}
theorem room_in {A : Around} {h : Option Value} (r : Room k A) : L2H.RoomH k (A.mark h) := ⟨r.dp, r.un⟩
theorem pe_callHeld (F : FnHeld X.prog X.w X.K X.mg X.base CX k f fd ps pin sp) (mem : pin ∈ X.pn) (room : L2H.RoomH k X.A) (hg : Gl X x) (hm : X.mg x = some (.ref f)) (hk : PySem.W.keepIn X.K (.ref f) = true) (hb : Binds X.K fd ps []) (hx : Passes CX X E) (ha : PA X (e :: es) t)
    (hdb : (x == ("__debug__" : Str)) = false := by decide) (he : starEach (e :: es) X.env = (false, eval e X.env) :: starEach es X.env := by rfl) (hpl : (backTo pos (starEach es X.env)).any (·.1) = false := by rfl) : PE X (.Call (.Name x q) (e :: es) [] pos) (tCall sp [] E t) := by
  refine ⟨fun pins st σ H Q I h => wpAny_Call_Name_kw (ld_glob I hg hm (PySem.W.callWith_K (h₀ := X.base) I.ok.mod.kin hk (thn (ha.run pos pins st σ H _ I h) fun us s1 ⟨vs, H1, I1, rel, want⟩ => ⟨I1.kIn, ?_⟩) he hpl) hdb)⟩
  have want : sp vs H1 Q E := by
    have w0 : sp (vs ++ []) H1 Q E := want
    rw [List.append_nil] at w0; exact w0
  have hl : us.length = ps.length := by rw [← rel.length]; exact F.many _ _ _ _ want
  have bnd := hb s1 us I1.kIn (by rw [List.append_nil]; exact hl)
  rw [List.append_nil] at bnd
  have P1 := I1.pin pin (List.mem_append_left _ mem)
  refine wpAny_call (codeAny_mono (F.goes X.A X.stack s1 H1 ⟨us, []⟩ us vs Q E room ⟨P1.1, P1.2.1, fun z => (List.mem_cons.mp (I1.stkSub pin.1 z)).elim P1.2.2.1 P1.2.2.2.1, P1.2.2.2.2⟩ I1.env0 bnd rel want) fun r s' hq => ?_)
  cases r with
  | error e => exact hx pins σ H1 s1 e s' I1 hq
  | ok fl =>
    cases fl with
    | ret u => exact I1.after hq
    | next => exact False.elim hq
    | brk => exact False.elim hq
    | cont => exact False.elim hq
theorem callIsP {a : Addr} {cls : Value} {oe : Obj} {d : Option Addr} (mem : (a, oe) ∈ X.pn) (hz : Zc cls d oe) (hf : ∃ vs, oe.data = .fields vs) : CallR X (.builtin "isinstance") (rIsA X.K cls d a) := by
  intro pins st σ H xs us Q I r h
  obtain ⟨D, rfl, T, fs, hdd, c, cv, b, rfl, hcv, e, q⟩ := h
  obtain ⟨u1, u2, rfl, r1, r2⟩ := vals2 r
  cases (show u1 = Value.ref a from r1)
  have ec := hcv.eq r2
  subst ec
  have J : ∃ od, PySem.W.InstAt st.heap a oe D od := by
    obtain ⟨hget, _⟩ := I.pin (a, oe) (List.mem_append_left _ mem)
    obtain ⟨vs, hv⟩ := hf
    obtain ⟨oc, dd, oda, osl⟩ := oe
    obtain ⟨h1, h2⟩ := hz
    dsimp only at h1 h2 hv
    subst h1 h2 hv
    cases dd with
    | none => exact ⟨none, hget, rfl, rfl, trivial⟩
    | some dx =>
      obtain ⟨mA, hns, _⟩ : ObjOk X.prog X.w H st.heap dx (.xd fs) := I.hok dx _ (hdd dx rfl)
      obtain ⟨o, _, _, ho, _⟩ := hns
      exact ⟨some o, hget, rfl, rfl, ho⟩
  obtain ⟨od, J⟩ := J
  exact PySem.W.kia_one (PySem.W.r_kit T) I.kIn J e (fun z => nomatch z) fun tk => ⟨.bl b, H, I.kept (t' := tk) fun _ _ z => z, rfl, q⟩
def rCntF (K : PySem.W.Frag) : V → List V → Hp → VK → Prop := fun x xs H Q => ∃ (p : Addr) (ys : List V) (y : V), x = .ref p ∧ xs = [y] ∧ SqL K H p ys ∧ flatV y = true ∧ ys.all flatV = true ∧ Q (.int (ys.countP (fun z => eqV z y) : Nat)) H
theorem countU {y : V} : ∀ {ys : List V} {us : List Value}, Vals ys us → ys.all flatV = true → us.countP (eqU y) = ys.countP fun z => eqV z y
  | _, _, .nil, _ => rfl
  | v :: ys, u :: us, .cons r t, fl => by
    rw [List.all_cons, Bool.and_eq_true] at fl
    rw [List.countP_cons, List.countP_cons, countU t fl.2, eqU_of r fl.1]
theorem mt_countF : MtR X "list.count" (rCntF X.K) := by
  intro pins st σ H x xs v us Q I rx rxs h
  obtain ⟨p, ys, y, rfl, rfl, hs, fy, fys, want⟩ := h
  cases rx
  obtain ⟨u, rfl, ru⟩ := rxs.one
  obtain ⟨its, rv, ⟨⟨cls, dd, data, sl⟩, n, ho, hc, hdn, hd⟩, hlen⟩ := I.list hs
  simp only at hc hd
  subst hc hd
  refine call_meets PySem.F.slot_list_count ⟨_, ho, rfl⟩ PySem.F.entry_list_count (PySem.F.args_list_count_2 _ _) (SeqAt.list_countAt p its.toArray n dd sl u (eqU y)) ⟨ho, fun u' hu' => mem_eqAt ru fy rv fys u' (by simpa using hu'), ⟨.int (ys.countP (fun z => eqV z y) : Nat), H, I.tok _, ⟨st.toks, ?_⟩, want⟩⟩
  show Value.int ((its.toArray.toList.countP (eqU y) : Nat) : Int) st.toks = _
  rw [countU rv fys]
end
end R

namespace C
open PySem PySem.Spec PyProof.Rows L2 R

def top (i : Nat) : Stmt := PySem.Challenge.pw_rootprime_k79_texts_of_no_thing.main.body.getD i (.Pass ⟨0, 0, 0, 0⟩)
abbrev FnP (K : PySem.W.Frag) (x : Str) (st : Stmt) (f : Addr) (fd : FuncData) : Prop := FunD K x x (defArgs st) (defBody st) (defScope st) [] [] f fd
abbrev s_Reader___init__ : Stmt := inClass (top 18) 0
abbrev N_Reader___init__ : List Str := ["self", "text"]
theorem sc_Reader___init__ : FnScope N_Reader___init__ ["self", "text"] (defScope s_Reader___init__) := ⟨rfl, rfl, rfl, by decide +kernel, rfl, by decide +kernel, by decide +kernel⟩
abbrev s_Reader_sees : Stmt := inClass (top 18) 1
abbrev N_Reader_sees : List Str := ["self", "signs"]
theorem sc_Reader_sees : FnScope N_Reader_sees ["self", "signs"] (defScope s_Reader_sees) := ⟨rfl, rfl, rfl, by decide +kernel, rfl, by decide +kernel, by decide +kernel⟩
abbrev s_Reader_fails : Stmt := inClass (top 18) 2
abbrev N_Reader_fails : List Str := ["self"]
theorem sc_Reader_fails : FnScope N_Reader_fails ["self"] (defScope s_Reader_fails) := ⟨rfl, rfl, rfl, by decide +kernel, rfl, by decide +kernel, by decide +kernel⟩
abbrev s_Reader_run : Stmt := inClass (top 18) 3
abbrev N_Reader_run : List Str := ["self", "signs", "most", "start"]
theorem sc_Reader_run : FnScope N_Reader_run ["self", "signs", "most"] (defScope s_Reader_run) := ⟨rfl, rfl, rfl, by decide +kernel, rfl, by decide +kernel, by decide +kernel⟩
abbrev s_Reader_number : Stmt := inClass (top 18) 4
abbrev N_Reader_number : List Str := ["self"]
theorem sc_Reader_number : FnScope N_Reader_number ["self"] (defScope s_Reader_number) := ⟨rfl, rfl, rfl, by decide +kernel, rfl, by decide +kernel, by decide +kernel⟩
abbrev s_Reader_below : Stmt := inClass (top 18) 5
abbrev N_Reader_below : List Str := ["self"]
theorem sc_Reader_below : FnScope N_Reader_below ["self"] (defScope s_Reader_below) := ⟨rfl, rfl, rfl, by decide +kernel, rfl, by decide +kernel, by decide +kernel⟩
abbrev s_Reader_row : Stmt := inClass (top 18) 6
abbrev N_Reader_row : List Str := ["self", "deep", "things"]
theorem sc_Reader_row : FnScope N_Reader_row ["self", "deep"] (defScope s_Reader_row) := ⟨rfl, rfl, rfl, by decide +kernel, rfl, by decide +kernel, by decide +kernel⟩
abbrev s_Reader_thing : Stmt := inClass (top 18) 7
abbrev N_Reader_thing : List Str := ["self", "deep"]
theorem sc_Reader_thing : FnScope N_Reader_thing ["self", "deep"] (defScope s_Reader_thing) := ⟨rfl, rfl, rfl, by decide +kernel, rfl, by decide +kernel, by decide +kernel⟩
abbrev s_read : Stmt := top 19
abbrev N_read : List Str := ["text", "reader", "found"]
theorem sc_read : FnScope N_read ["text"] (defScope s_read) := ⟨rfl, rfl, rfl, by decide +kernel, rfl, by decide +kernel, by decide +kernel⟩
abbrev s__law_tape : Stmt := top 21
abbrev N__law_tape : List Str := ["_law_script"]
theorem sc__law_tape : FnScope N__law_tape ["_law_script"] (defScope s__law_tape) := ⟨rfl, rfl, rfl, by decide +kernel, rfl, by decide +kernel, by decide +kernel⟩
abbrev s__law_draw : Stmt := top 22
abbrev N__law_draw : List Str := ["_law_tape_here", "_law_many", "_law_found", "_law_spot", "_law_cells", "_law_cell", "_law_seed"]
theorem sc__law_draw : FnScope N__law_draw ["_law_tape_here", "_law_many"] (defScope s__law_draw) := ⟨rfl, rfl, rfl, by decide +kernel, rfl, by decide +kernel, by decide +kernel⟩
abbrev s__law_letters : Stmt := top 23
abbrev N__law_letters : List Str := ["_law_tape_here", "_law_word_here", "_law_turn"]
theorem sc__law_letters : FnScope N__law_letters ["_law_tape_here"] (defScope s__law_letters) := ⟨rfl, rfl, rfl, by decide +kernel, rfl, by decide +kernel, by decide +kernel⟩
abbrev s__law_leaf : Stmt := top 24
abbrev N__law_leaf : List Str := ["_law_tape_here", "_law_way"]
theorem sc__law_leaf : FnScope N__law_leaf ["_law_tape_here"] (defScope s__law_leaf) := ⟨rfl, rfl, rfl, by decide +kernel, rfl, by decide +kernel, by decide +kernel⟩
abbrev s__law_thing : Stmt := top 25
abbrev N__law_thing : List Str := ["_law_tape_here", "_law_deep", "_law_things", "_law_turn"]
theorem sc__law_thing : FnScope N__law_thing ["_law_tape_here", "_law_deep"] (defScope s__law_thing) := ⟨rfl, rfl, rfl, by decide +kernel, rfl, by decide +kernel, by decide +kernel⟩
abbrev s__law_deep_thing : Stmt := top 26
abbrev N__law_deep_thing : List Str := ["_law_tape_here", "_law_thing_here", "_law_wraps", "_law_turn"]
theorem sc__law_deep_thing : FnScope N__law_deep_thing ["_law_tape_here"] (defScope s__law_deep_thing) := ⟨rfl, rfl, rfl, by decide +kernel, rfl, by decide +kernel, by decide +kernel⟩
abbrev s__law_written : Stmt := top 27
abbrev N__law_written : List Str := ["_law_thing_here", "_law_one"]
theorem sc__law_written : FnScope N__law_written ["_law_thing_here"] (defScope s__law_written) := ⟨rfl, rfl, rfl, by decide +kernel, rfl, by decide +kernel, by decide +kernel⟩
abbrev s__law_first_wrong : Stmt := top 28
abbrev N__law_first_wrong : List Str := ["_law_text_here", "_law_deep", "_law_mode", "_law_many", "_law_at", "_law_sign", "_law_figure", "_law_letter"]
theorem sc__law_first_wrong : FnScope N__law_first_wrong ["_law_text_here"] (defScope s__law_first_wrong) := ⟨rfl, rfl, rfl, by decide +kernel, rfl, by decide +kernel, by decide +kernel⟩
abbrev s__law_value : Stmt := top 29
abbrev N__law_value : List Str := ["_law_word_here"]
theorem sc__law_value : FnScope N__law_value ["_law_word_here"] (defScope s__law_value) := ⟨rfl, rfl, rfl, by decide +kernel, rfl, by decide +kernel, by decide +kernel⟩
abbrev s__law_built : Stmt := top 30
abbrev N__law_built : List Str := ["_law_text_here", "_law_pile", "_law_word_here"]
theorem sc__law_built : FnScope N__law_built ["_law_text_here"] (defScope s__law_built) := ⟨rfl, rfl, rfl, by decide +kernel, rfl, by decide +kernel, by decide +kernel⟩
abbrev s__law_same : Stmt := top 31
abbrev N__law_same : List Str := ["_law_found", "_law_due", "_law_one", "_law_other"]
theorem sc__law_same : FnScope N__law_same ["_law_found", "_law_due"] (defScope s__law_same) := ⟨rfl, rfl, rfl, by decide +kernel, rfl, by decide +kernel, by decide +kernel⟩
abbrev s__law_word : Stmt := top 32
abbrev N__law_word : List Str := ["_law_e", "_law_kinds", "_law_words"]
theorem sc__law_word : FnScope N__law_word ["_law_e"] (defScope s__law_word) := ⟨rfl, rfl, rfl, by decide +kernel, rfl, by decide +kernel, by decide +kernel⟩
abbrev s__law_text : Stmt := top 33
abbrev N__law_text : List Str := ["_law_tape_here", "_law_way", "_law_many"]
theorem sc__law_text : FnScope N__law_text ["_law_tape_here"] (defScope s__law_text) := ⟨rfl, rfl, rfl, by decide +kernel, rfl, by decide +kernel, by decide +kernel⟩
abbrev s__law_signs : Stmt := top 34
abbrev N__law_signs : List Str := ["_law_some"]
theorem sc__law_signs : FnScope N__law_signs [] (defScope s__law_signs) := ⟨rfl, rfl, rfl, by decide +kernel, rfl, by decide +kernel, by decide +kernel⟩
abbrev s__law_changed : Stmt := top 35
abbrev N__law_changed : List Str := ["_law_tape_here", "_law_text_here", "_law_signs_here", "_law_turn", "_law_at", "_law_sign", "_law_way"]
theorem sc__law_changed : FnScope N__law_changed ["_law_tape_here", "_law_text_here"] (defScope s__law_changed) := ⟨rfl, rfl, rfl, by decide +kernel, rfl, by decide +kernel, by decide +kernel⟩
abbrev s__law_read : Stmt := top 36
abbrev N__law_read : List Str := ["_law_text_here", "_law_found", "_law_e"]
theorem sc__law_read : FnScope N__law_read ["_law_text_here"] (defScope s__law_read) := ⟨rfl, rfl, rfl, by decide +kernel, rfl, by decide +kernel, by decide +kernel⟩
abbrev s_law : Stmt := top 37
abbrev N_law : List Str := ["_law_script", "_law_tape_here", "_law_made", "_law_turn", "_law_text_here", "_law_wrong", "_law_due"]
theorem sc_law : FnScope N_law ["_law_script"] (defScope s_law) := ⟨rfl, rfl, rfl, by decide +kernel, rfl, by decide +kernel, by decide +kernel⟩
abbrev s_init_TooFar : Stmt := inClass (top 3) 0
theorem sc_init_TooFar : FnScope ["self", "part"] ["self", "part"] (defScope s_init_TooFar) := ⟨rfl, rfl, rfl, by decide +kernel, rfl, by decide +kernel, by decide +kernel⟩
abbrev s_init_NoPrime : Stmt := inClass (top 4) 0
theorem sc_init_NoPrime : FnScope ["self", "divisor"] ["self", "divisor"] (defScope s_init_NoPrime) := ⟨rfl, rfl, rfl, by decide +kernel, rfl, by decide +kernel, by decide +kernel⟩
abbrev s_init_NoInverse : Stmt := inClass (top 5) 0
theorem sc_init_NoInverse : FnScope ["self", "divisor"] ["self", "divisor"] (defScope s_init_NoInverse) := ⟨rfl, rfl, rfl, by decide +kernel, rfl, by decide +kernel, by decide +kernel⟩
abbrev s_init_NoRoot : Stmt := inClass (top 8) 0
theorem sc_init_NoRoot : FnScope ["self", "rest"] ["self", "rest"] (defScope s_init_NoRoot) := ⟨rfl, rfl, rfl, by decide +kernel, rfl, by decide +kernel, by decide +kernel⟩
abbrev s_init_TooMany : Stmt := inClass (top 9) 0
theorem sc_init_TooMany : FnScope ["self", "many"] ["self", "many"] (defScope s_init_TooMany) := ⟨rfl, rfl, rfl, by decide +kernel, rfl, by decide +kernel, by decide +kernel⟩
abbrev s_init_NoText : Stmt := inClass (top 10) 0
theorem sc_init_NoText : FnScope ["self", "line", "word"] ["self", "line", "word"] (defScope s_init_NoText) := ⟨rfl, rfl, rfl, by decide +kernel, rfl, by decide +kernel, by decide +kernel⟩
def fn : List He5.DefA := [⟨fun K => He.ma K (He.ga K "Reader") "__init__", "__init__", "Reader.__init__", defArgs s_Reader___init__, defBody s_Reader___init__, defScope s_Reader___init__, [], []⟩,
  ⟨fun K => He.ma K (He.ga K "Reader") "sees", "sees", "Reader.sees", defArgs s_Reader_sees, defBody s_Reader_sees, defScope s_Reader_sees, [], []⟩,
  ⟨fun K => He.ma K (He.ga K "Reader") "fails", "fails", "Reader.fails", defArgs s_Reader_fails, defBody s_Reader_fails, defScope s_Reader_fails, [], []⟩,
  ⟨fun K => He.ma K (He.ga K "Reader") "run", "run", "Reader.run", defArgs s_Reader_run, defBody s_Reader_run, defScope s_Reader_run, [], []⟩,
  ⟨fun K => He.ma K (He.ga K "Reader") "number", "number", "Reader.number", defArgs s_Reader_number, defBody s_Reader_number, defScope s_Reader_number, [], []⟩,
  ⟨fun K => He.ma K (He.ga K "Reader") "below", "below", "Reader.below", defArgs s_Reader_below, defBody s_Reader_below, defScope s_Reader_below, [], []⟩,
  ⟨fun K => He.ma K (He.ga K "Reader") "row", "row", "Reader.row", defArgs s_Reader_row, defBody s_Reader_row, defScope s_Reader_row, [], []⟩,
  ⟨fun K => He.ma K (He.ga K "Reader") "thing", "thing", "Reader.thing", defArgs s_Reader_thing, defBody s_Reader_thing, defScope s_Reader_thing, [], []⟩,
  ⟨fun K => He.ga K "read", "read", "read", defArgs s_read, defBody s_read, defScope s_read, [], []⟩,
  ⟨fun K => He.ga K "_law_tape", "_law_tape", "_law_tape", defArgs s__law_tape, defBody s__law_tape, defScope s__law_tape, [], []⟩,
  ⟨fun K => He.ga K "_law_draw", "_law_draw", "_law_draw", defArgs s__law_draw, defBody s__law_draw, defScope s__law_draw, [], []⟩,
  ⟨fun K => He.ga K "_law_letters", "_law_letters", "_law_letters", defArgs s__law_letters, defBody s__law_letters, defScope s__law_letters, [], []⟩,
  ⟨fun K => He.ga K "_law_leaf", "_law_leaf", "_law_leaf", defArgs s__law_leaf, defBody s__law_leaf, defScope s__law_leaf, [], []⟩,
  ⟨fun K => He.ga K "_law_thing", "_law_thing", "_law_thing", defArgs s__law_thing, defBody s__law_thing, defScope s__law_thing, [], []⟩,
  ⟨fun K => He.ga K "_law_deep_thing", "_law_deep_thing", "_law_deep_thing", defArgs s__law_deep_thing, defBody s__law_deep_thing, defScope s__law_deep_thing, [], []⟩,
  ⟨fun K => He.ga K "_law_written", "_law_written", "_law_written", defArgs s__law_written, defBody s__law_written, defScope s__law_written, [], []⟩,
  ⟨fun K => He.ga K "_law_first_wrong", "_law_first_wrong", "_law_first_wrong", defArgs s__law_first_wrong, defBody s__law_first_wrong, defScope s__law_first_wrong, [], []⟩,
  ⟨fun K => He.ga K "_law_value", "_law_value", "_law_value", defArgs s__law_value, defBody s__law_value, defScope s__law_value, [], []⟩,
  ⟨fun K => He.ga K "_law_built", "_law_built", "_law_built", defArgs s__law_built, defBody s__law_built, defScope s__law_built, [], []⟩,
  ⟨fun K => He.ga K "_law_same", "_law_same", "_law_same", defArgs s__law_same, defBody s__law_same, defScope s__law_same, [], []⟩,
  ⟨fun K => He.ga K "_law_word", "_law_word", "_law_word", defArgs s__law_word, defBody s__law_word, defScope s__law_word, [], []⟩,
  ⟨fun K => He.ga K "_law_text", "_law_text", "_law_text", defArgs s__law_text, defBody s__law_text, defScope s__law_text, [], []⟩,
  ⟨fun K => He.ga K "_law_signs", "_law_signs", "_law_signs", defArgs s__law_signs, defBody s__law_signs, defScope s__law_signs, [], []⟩,
  ⟨fun K => He.ga K "_law_changed", "_law_changed", "_law_changed", defArgs s__law_changed, defBody s__law_changed, defScope s__law_changed, [], []⟩,
  ⟨fun K => He.ga K "_law_read", "_law_read", "_law_read", defArgs s__law_read, defBody s__law_read, defScope s__law_read, [], []⟩,
  ⟨fun K => He.ga K "law", "law", "law", defArgs s_law, defBody s_law, defScope s_law, [], []⟩,
  ⟨fun K => He.ma K (He.ga K "TooFar") "__init__", "__init__", "TooFar.__init__", defArgs s_init_TooFar, defBody s_init_TooFar, defScope s_init_TooFar, [], []⟩,
  ⟨fun K => He.ma K (He.ga K "NoPrime") "__init__", "__init__", "NoPrime.__init__", defArgs s_init_NoPrime, defBody s_init_NoPrime, defScope s_init_NoPrime, [], []⟩,
  ⟨fun K => He.ma K (He.ga K "NoInverse") "__init__", "__init__", "NoInverse.__init__", defArgs s_init_NoInverse, defBody s_init_NoInverse, defScope s_init_NoInverse, [], []⟩,
  ⟨fun K => He.ma K (He.ga K "NoRoot") "__init__", "__init__", "NoRoot.__init__", defArgs s_init_NoRoot, defBody s_init_NoRoot, defScope s_init_NoRoot, [], []⟩,
  ⟨fun K => He.ma K (He.ga K "TooMany") "__init__", "__init__", "TooMany.__init__", defArgs s_init_TooMany, defBody s_init_TooMany, defScope s_init_TooMany, [], []⟩,
  ⟨fun K => He.ma K (He.ga K "NoText") "__init__", "__init__", "NoText.__init__", defArgs s_init_NoText, defBody s_init_NoText, defScope s_init_NoText, [], []⟩]
def fa : List FB := [fun K => (He.Fa.glo "read").ok K, fun K => (He.Fa.glo "_law_tape").ok K, fun K => (He.Fa.glo "_law_draw").ok K, fun K => (He.Fa.glo "_law_letters").ok K, fun K => (He.Fa.glo "_law_leaf").ok K, fun K => (He.Fa.glo "_law_thing").ok K, fun K => (He.Fa.glo "_law_deep_thing").ok K, fun K => (He.Fa.glo "_law_written").ok K, fun K => (He.Fa.glo "_law_first_wrong").ok K, fun K => (He.Fa.glo "_law_value").ok K, fun K => (He.Fa.glo "_law_built").ok K, fun K => (He.Fa.glo "_law_same").ok K, fun K => (He.Fa.glo "_law_word").ok K, fun K => (He.Fa.glo "_law_text").ok K, fun K => (He.Fa.glo "_law_signs").ok K, fun K => (He.Fa.glo "_law_changed").ok K, fun K => (He.Fa.glo "_law_read").ok K, fun K => (He.Fa.glo "law").ok K, fun K => (He.Fa.glo "PrimeError").ok K, fun K => (He.Fa.glo "NoNumber").ok K, fun K => (He.Fa.glo "TooFar").ok K, fun K => (He.Fa.glo "NoPrime").ok K, fun K => (He.Fa.glo "NoInverse").ok K, fun K => (He.Fa.glo "Nought").ok K, fun K => (He.Fa.glo "NoOrder").ok K, fun K => (He.Fa.glo "NoRoot").ok K, fun K => (He.Fa.glo "TooMany").ok K, fun K => (He.Fa.glo "NoText").ok K, fun K => (He.Fa.glo "NoRow").ok K, fun K => (He.Fa.glo "Reader").ok K, fun K => (He.Fa.cls "Reader").ok K, fun K => (He.Fa.mkr "Reader").ok K, fun K => (He.Fa.noat "Reader" "here").ok K, fun K => (He.Fa.noat "Reader" "text").ok K, fun K => (He.Fa.meth "Reader" "sees").ok K, fun K => (He.Fa.meth "Reader" "fails").ok K, fun K => (He.Fa.meth "Reader" "run").ok K, fun K => (He.Fa.meth "Reader" "number").ok K, fun K => (He.Fa.meth "Reader" "below").ok K, fun K => (He.Fa.meth "Reader" "row").ok K, fun K => (He.Fa.meth "Reader" "thing").ok K, fun K => (He.Fa.free "len").ok K, fun K => (He.Fa.free "int").ok K, fun K => (He.Fa.free "tuple").ok K, fun K => (He.Fa.free "range").ok K, fun K => (He.Fa.free "isinstance").ok K, fun K => (He.Fa.free "str").ok K, fun K => (He.Fa.free "list").ok K, fun K => (He.Fa.free "all").ok K, fun K => (He.Fa.free "bool").ok K, fun K => (He.Fa.free "zip").ok K, fun K => (He.Fa.free "ValueError").ok K, fun K => (He.Fa.int "MOST_FIGURES" 60).ok K, fun K => (He.Fa.int "MOST_LETTERS" 8).ok K, fun K => (He.Fa.int "MOST_DEEP" 80).ok K, fun K => (He.Fa.str "FIGURES" "0123456789").ok K, fun K => (He.Fa.str "LETTERS" "abcdefghijklmnopqrstuvwxyz").ok K, fun K => xinB "TooFar" "part" K, fun K => baseB (He.ga K "PrimeError") K, fun K => xinB "NoPrime" "divisor" K, fun K => xinB "NoInverse" "divisor" K, fun K => xinB "NoRoot" "rest" K, fun K => xinB "TooMany" "many" K, fun K => xinB "NoText" "line" K, fun K => xinB "NoText" "word" K, fun K => (He.Fa.exc "PrimeError").ok K, fun K => (He.Fa.exc "NoNumber").ok K, fun K => (He.Fa.exc "Nought").ok K, fun K => (He.Fa.exc "NoOrder").ok K, fun K => (He.Fa.exc "NoRow").ok K, fun K => (He.Fa.exm "NoText" "PrimeError" true).ok K, fun K => kitcB "NoText" "Nought" false K, fun K => isxB "NoText" K, fun K => kitcB "NoText" "TooMany" false K, fun K => kitcB "NoText" "TooFar" false K, fun K => kitcB "NoText" "NoText" true K, fun K => kitcB "NoText" "NoRow" false K, fun K => kitcB "NoText" "NoNumber" false K, fun K => kitcB "NoText" "NoPrime" false K, fun K => kitcB "NoText" "NoInverse" false K, fun K => kitcB "NoText" "NoOrder" false K, fun K => kitcB "NoText" "NoRoot" false K, fun K => kittB "NoText" "ValueError" true K]
structure Txt (K : PySem.W.Frag) (mg : Str → Option Value) : Prop where
  c : Told fa fn K
  gl : ∀ {x : Str}, (He.Fa.glo x).ok K = true → mg x = some (.ref (He.ga K x))
  fr : ∀ {x : Str}, (He.Fa.free x).ok K = true → mg x = none
  int_ok : ∀ {x : Str} {i : Int}, (He.Fa.int x i).ok K = true → ∃ t, mg x = some (.int i t)
  str_ok : ∀ {x z : Str}, (He.Fa.str x z).ok K = true → ∃ t, mg x = some (.str z t)
section
variable {P : Program} {w : World} {K : PySem.W.Frag} {mg : Str → Option Value} {base : Heap}
theorem F0_Reader___init__ (T : Txt K mg) : ∃ fd, FunD K "__init__" "Reader.__init__" (defArgs s_Reader___init__) (defBody s_Reader___init__) (defScope s_Reader___init__) [] [] (He.ma K (He.ga K "Reader") "__init__") fd := T.c.dfn 0 rfl
noncomputable def fd_Reader___init__ (T : Txt K mg) : FuncData := (F0_Reader___init__ T).choose
theorem F_Reader___init__ (T : Txt K mg) : FunD K "__init__" "Reader.__init__" (defArgs s_Reader___init__) (defBody s_Reader___init__) (defScope s_Reader___init__) [] [] (He.ma K (He.ga K "Reader") "__init__") (fd_Reader___init__ T) := (F0_Reader___init__ T).choose_spec
theorem kp_Reader___init__ (T : Txt K mg) : PySem.W.keepIn K (.ref (He.ma K (He.ga K "Reader") "__init__")) = true := (F_Reader___init__ T).kp
theorem B_Reader___init__ (T : Txt K mg) : Binds K (fd_Reader___init__ T) ["self", "text"] [] := (F_Reader___init__ T).bindsN fun _ _ _ _ _ _ us hl => match us, hl with | [_, _], _ => rfl
theorem F0_Reader_sees (T : Txt K mg) : ∃ fd, FunD K "sees" "Reader.sees" (defArgs s_Reader_sees) (defBody s_Reader_sees) (defScope s_Reader_sees) [] [] (He.ma K (He.ga K "Reader") "sees") fd := T.c.dfn 1 rfl
noncomputable def fd_Reader_sees (T : Txt K mg) : FuncData := (F0_Reader_sees T).choose
theorem F_Reader_sees (T : Txt K mg) : FunD K "sees" "Reader.sees" (defArgs s_Reader_sees) (defBody s_Reader_sees) (defScope s_Reader_sees) [] [] (He.ma K (He.ga K "Reader") "sees") (fd_Reader_sees T) := (F0_Reader_sees T).choose_spec
theorem m_Reader_sees (T : Txt K mg) : Meth K (He.ga K "Reader") "sees" (He.ma K (He.ga K "Reader") "sees") := He.meth_ok (T.c.fact 34 rfl)
theorem kp_Reader_sees (T : Txt K mg) : PySem.W.keepIn K (.ref (He.ma K (He.ga K "Reader") "sees")) = true := (F_Reader_sees T).kp
theorem B_Reader_sees (T : Txt K mg) : Binds K (fd_Reader_sees T) ["self", "signs"] [] := (F_Reader_sees T).bindsN fun _ _ _ _ _ _ us hl => match us, hl with | [_, _], _ => rfl
theorem F0_Reader_fails (T : Txt K mg) : ∃ fd, FunD K "fails" "Reader.fails" (defArgs s_Reader_fails) (defBody s_Reader_fails) (defScope s_Reader_fails) [] [] (He.ma K (He.ga K "Reader") "fails") fd := T.c.dfn 2 rfl
noncomputable def fd_Reader_fails (T : Txt K mg) : FuncData := (F0_Reader_fails T).choose
theorem F_Reader_fails (T : Txt K mg) : FunD K "fails" "Reader.fails" (defArgs s_Reader_fails) (defBody s_Reader_fails) (defScope s_Reader_fails) [] [] (He.ma K (He.ga K "Reader") "fails") (fd_Reader_fails T) := (F0_Reader_fails T).choose_spec
theorem m_Reader_fails (T : Txt K mg) : Meth K (He.ga K "Reader") "fails" (He.ma K (He.ga K "Reader") "fails") := He.meth_ok (T.c.fact 35 rfl)
theorem kp_Reader_fails (T : Txt K mg) : PySem.W.keepIn K (.ref (He.ma K (He.ga K "Reader") "fails")) = true := (F_Reader_fails T).kp
theorem B_Reader_fails (T : Txt K mg) : Binds K (fd_Reader_fails T) ["self"] [] := (F_Reader_fails T).bindsN fun _ _ _ _ _ _ us hl => match us, hl with | [_], _ => rfl
theorem F0_Reader_run (T : Txt K mg) : ∃ fd, FunD K "run" "Reader.run" (defArgs s_Reader_run) (defBody s_Reader_run) (defScope s_Reader_run) [] [] (He.ma K (He.ga K "Reader") "run") fd := T.c.dfn 3 rfl
noncomputable def fd_Reader_run (T : Txt K mg) : FuncData := (F0_Reader_run T).choose
theorem F_Reader_run (T : Txt K mg) : FunD K "run" "Reader.run" (defArgs s_Reader_run) (defBody s_Reader_run) (defScope s_Reader_run) [] [] (He.ma K (He.ga K "Reader") "run") (fd_Reader_run T) := (F0_Reader_run T).choose_spec
theorem m_Reader_run (T : Txt K mg) : Meth K (He.ga K "Reader") "run" (He.ma K (He.ga K "Reader") "run") := He.meth_ok (T.c.fact 36 rfl)
theorem kp_Reader_run (T : Txt K mg) : PySem.W.keepIn K (.ref (He.ma K (He.ga K "Reader") "run")) = true := (F_Reader_run T).kp
theorem B_Reader_run (T : Txt K mg) : Binds K (fd_Reader_run T) ["self", "signs", "most"] [] := (F_Reader_run T).bindsN fun _ _ _ _ _ _ us hl => match us, hl with | [_, _, _], _ => rfl
theorem F0_Reader_number (T : Txt K mg) : ∃ fd, FunD K "number" "Reader.number" (defArgs s_Reader_number) (defBody s_Reader_number) (defScope s_Reader_number) [] [] (He.ma K (He.ga K "Reader") "number") fd := T.c.dfn 4 rfl
noncomputable def fd_Reader_number (T : Txt K mg) : FuncData := (F0_Reader_number T).choose
theorem F_Reader_number (T : Txt K mg) : FunD K "number" "Reader.number" (defArgs s_Reader_number) (defBody s_Reader_number) (defScope s_Reader_number) [] [] (He.ma K (He.ga K "Reader") "number") (fd_Reader_number T) := (F0_Reader_number T).choose_spec
theorem m_Reader_number (T : Txt K mg) : Meth K (He.ga K "Reader") "number" (He.ma K (He.ga K "Reader") "number") := He.meth_ok (T.c.fact 37 rfl)
theorem kp_Reader_number (T : Txt K mg) : PySem.W.keepIn K (.ref (He.ma K (He.ga K "Reader") "number")) = true := (F_Reader_number T).kp
theorem B_Reader_number (T : Txt K mg) : Binds K (fd_Reader_number T) ["self"] [] := (F_Reader_number T).bindsN fun _ _ _ _ _ _ us hl => match us, hl with | [_], _ => rfl
theorem F0_Reader_below (T : Txt K mg) : ∃ fd, FunD K "below" "Reader.below" (defArgs s_Reader_below) (defBody s_Reader_below) (defScope s_Reader_below) [] [] (He.ma K (He.ga K "Reader") "below") fd := T.c.dfn 5 rfl
noncomputable def fd_Reader_below (T : Txt K mg) : FuncData := (F0_Reader_below T).choose
theorem F_Reader_below (T : Txt K mg) : FunD K "below" "Reader.below" (defArgs s_Reader_below) (defBody s_Reader_below) (defScope s_Reader_below) [] [] (He.ma K (He.ga K "Reader") "below") (fd_Reader_below T) := (F0_Reader_below T).choose_spec
theorem m_Reader_below (T : Txt K mg) : Meth K (He.ga K "Reader") "below" (He.ma K (He.ga K "Reader") "below") := He.meth_ok (T.c.fact 38 rfl)
theorem kp_Reader_below (T : Txt K mg) : PySem.W.keepIn K (.ref (He.ma K (He.ga K "Reader") "below")) = true := (F_Reader_below T).kp
theorem B_Reader_below (T : Txt K mg) : Binds K (fd_Reader_below T) ["self"] [] := (F_Reader_below T).bindsN fun _ _ _ _ _ _ us hl => match us, hl with | [_], _ => rfl
theorem F0_Reader_row (T : Txt K mg) : ∃ fd, FunD K "row" "Reader.row" (defArgs s_Reader_row) (defBody s_Reader_row) (defScope s_Reader_row) [] [] (He.ma K (He.ga K "Reader") "row") fd := T.c.dfn 6 rfl
noncomputable def fd_Reader_row (T : Txt K mg) : FuncData := (F0_Reader_row T).choose
theorem F_Reader_row (T : Txt K mg) : FunD K "row" "Reader.row" (defArgs s_Reader_row) (defBody s_Reader_row) (defScope s_Reader_row) [] [] (He.ma K (He.ga K "Reader") "row") (fd_Reader_row T) := (F0_Reader_row T).choose_spec
theorem m_Reader_row (T : Txt K mg) : Meth K (He.ga K "Reader") "row" (He.ma K (He.ga K "Reader") "row") := He.meth_ok (T.c.fact 39 rfl)
theorem kp_Reader_row (T : Txt K mg) : PySem.W.keepIn K (.ref (He.ma K (He.ga K "Reader") "row")) = true := (F_Reader_row T).kp
theorem B_Reader_row (T : Txt K mg) : Binds K (fd_Reader_row T) ["self", "deep"] [] := (F_Reader_row T).bindsN fun _ _ _ _ _ _ us hl => match us, hl with | [_, _], _ => rfl
theorem F0_Reader_thing (T : Txt K mg) : ∃ fd, FunD K "thing" "Reader.thing" (defArgs s_Reader_thing) (defBody s_Reader_thing) (defScope s_Reader_thing) [] [] (He.ma K (He.ga K "Reader") "thing") fd := T.c.dfn 7 rfl
noncomputable def fd_Reader_thing (T : Txt K mg) : FuncData := (F0_Reader_thing T).choose
theorem F_Reader_thing (T : Txt K mg) : FunD K "thing" "Reader.thing" (defArgs s_Reader_thing) (defBody s_Reader_thing) (defScope s_Reader_thing) [] [] (He.ma K (He.ga K "Reader") "thing") (fd_Reader_thing T) := (F0_Reader_thing T).choose_spec
theorem m_Reader_thing (T : Txt K mg) : Meth K (He.ga K "Reader") "thing" (He.ma K (He.ga K "Reader") "thing") := He.meth_ok (T.c.fact 40 rfl)
theorem kp_Reader_thing (T : Txt K mg) : PySem.W.keepIn K (.ref (He.ma K (He.ga K "Reader") "thing")) = true := (F_Reader_thing T).kp
theorem B_Reader_thing (T : Txt K mg) : Binds K (fd_Reader_thing T) ["self", "deep"] [] := (F_Reader_thing T).bindsN fun _ _ _ _ _ _ us hl => match us, hl with | [_, _], _ => rfl
theorem F0_read (T : Txt K mg) : ∃ fd, FnP K "read" s_read (He.ga K "read") fd := T.c.dfn 8 rfl
noncomputable def fd_read (T : Txt K mg) : FuncData := (F0_read T).choose
theorem F_read (T : Txt K mg) : FnP K "read" s_read (He.ga K "read") (fd_read T) := (F0_read T).choose_spec
theorem g_read (T : Txt K mg) : mg "read" = some (.ref (He.ga K "read")) := T.gl (T.c.fact 0 rfl)
theorem kp_read (T : Txt K mg) : PySem.W.keepIn K (.ref (He.ga K "read")) = true := (F_read T).kp
theorem B_read (T : Txt K mg) : Binds K (fd_read T) ["text"] [] := (F_read T).bindsN fun _ _ _ _ _ _ us hl => match us, hl with | [_], _ => rfl
theorem F0__law_tape (T : Txt K mg) : ∃ fd, FnP K "_law_tape" s__law_tape (He.ga K "_law_tape") fd := T.c.dfn 9 rfl
noncomputable def fd__law_tape (T : Txt K mg) : FuncData := (F0__law_tape T).choose
theorem F__law_tape (T : Txt K mg) : FnP K "_law_tape" s__law_tape (He.ga K "_law_tape") (fd__law_tape T) := (F0__law_tape T).choose_spec
theorem g__law_tape (T : Txt K mg) : mg "_law_tape" = some (.ref (He.ga K "_law_tape")) := T.gl (T.c.fact 1 rfl)
theorem kp__law_tape (T : Txt K mg) : PySem.W.keepIn K (.ref (He.ga K "_law_tape")) = true := (F__law_tape T).kp
theorem B__law_tape (T : Txt K mg) : Binds K (fd__law_tape T) ["_law_script"] [] := (F__law_tape T).bindsN fun _ _ _ _ _ _ us hl => match us, hl with | [_], _ => rfl
theorem F0__law_draw (T : Txt K mg) : ∃ fd, FnP K "_law_draw" s__law_draw (He.ga K "_law_draw") fd := T.c.dfn 10 rfl
noncomputable def fd__law_draw (T : Txt K mg) : FuncData := (F0__law_draw T).choose
theorem F__law_draw (T : Txt K mg) : FnP K "_law_draw" s__law_draw (He.ga K "_law_draw") (fd__law_draw T) := (F0__law_draw T).choose_spec
theorem g__law_draw (T : Txt K mg) : mg "_law_draw" = some (.ref (He.ga K "_law_draw")) := T.gl (T.c.fact 2 rfl)
theorem kp__law_draw (T : Txt K mg) : PySem.W.keepIn K (.ref (He.ga K "_law_draw")) = true := (F__law_draw T).kp
theorem B__law_draw (T : Txt K mg) : Binds K (fd__law_draw T) ["_law_tape_here", "_law_many"] [] := (F__law_draw T).bindsN fun _ _ _ _ _ _ us hl => match us, hl with | [_, _], _ => rfl
theorem F0__law_letters (T : Txt K mg) : ∃ fd, FnP K "_law_letters" s__law_letters (He.ga K "_law_letters") fd := T.c.dfn 11 rfl
noncomputable def fd__law_letters (T : Txt K mg) : FuncData := (F0__law_letters T).choose
theorem F__law_letters (T : Txt K mg) : FnP K "_law_letters" s__law_letters (He.ga K "_law_letters") (fd__law_letters T) := (F0__law_letters T).choose_spec
theorem g__law_letters (T : Txt K mg) : mg "_law_letters" = some (.ref (He.ga K "_law_letters")) := T.gl (T.c.fact 3 rfl)
theorem kp__law_letters (T : Txt K mg) : PySem.W.keepIn K (.ref (He.ga K "_law_letters")) = true := (F__law_letters T).kp
theorem B__law_letters (T : Txt K mg) : Binds K (fd__law_letters T) ["_law_tape_here"] [] := (F__law_letters T).bindsN fun _ _ _ _ _ _ us hl => match us, hl with | [_], _ => rfl
theorem F0__law_leaf (T : Txt K mg) : ∃ fd, FnP K "_law_leaf" s__law_leaf (He.ga K "_law_leaf") fd := T.c.dfn 12 rfl
noncomputable def fd__law_leaf (T : Txt K mg) : FuncData := (F0__law_leaf T).choose
theorem F__law_leaf (T : Txt K mg) : FnP K "_law_leaf" s__law_leaf (He.ga K "_law_leaf") (fd__law_leaf T) := (F0__law_leaf T).choose_spec
theorem g__law_leaf (T : Txt K mg) : mg "_law_leaf" = some (.ref (He.ga K "_law_leaf")) := T.gl (T.c.fact 4 rfl)
theorem kp__law_leaf (T : Txt K mg) : PySem.W.keepIn K (.ref (He.ga K "_law_leaf")) = true := (F__law_leaf T).kp
theorem B__law_leaf (T : Txt K mg) : Binds K (fd__law_leaf T) ["_law_tape_here"] [] := (F__law_leaf T).bindsN fun _ _ _ _ _ _ us hl => match us, hl with | [_], _ => rfl
theorem F0__law_thing (T : Txt K mg) : ∃ fd, FnP K "_law_thing" s__law_thing (He.ga K "_law_thing") fd := T.c.dfn 13 rfl
noncomputable def fd__law_thing (T : Txt K mg) : FuncData := (F0__law_thing T).choose
theorem F__law_thing (T : Txt K mg) : FnP K "_law_thing" s__law_thing (He.ga K "_law_thing") (fd__law_thing T) := (F0__law_thing T).choose_spec
theorem g__law_thing (T : Txt K mg) : mg "_law_thing" = some (.ref (He.ga K "_law_thing")) := T.gl (T.c.fact 5 rfl)
theorem kp__law_thing (T : Txt K mg) : PySem.W.keepIn K (.ref (He.ga K "_law_thing")) = true := (F__law_thing T).kp
theorem B__law_thing (T : Txt K mg) : Binds K (fd__law_thing T) ["_law_tape_here", "_law_deep"] [] := (F__law_thing T).bindsN fun _ _ _ _ _ _ us hl => match us, hl with | [_, _], _ => rfl
theorem F0__law_deep_thing (T : Txt K mg) : ∃ fd, FnP K "_law_deep_thing" s__law_deep_thing (He.ga K "_law_deep_thing") fd := T.c.dfn 14 rfl
noncomputable def fd__law_deep_thing (T : Txt K mg) : FuncData := (F0__law_deep_thing T).choose
theorem F__law_deep_thing (T : Txt K mg) : FnP K "_law_deep_thing" s__law_deep_thing (He.ga K "_law_deep_thing") (fd__law_deep_thing T) := (F0__law_deep_thing T).choose_spec
theorem g__law_deep_thing (T : Txt K mg) : mg "_law_deep_thing" = some (.ref (He.ga K "_law_deep_thing")) := T.gl (T.c.fact 6 rfl)
theorem kp__law_deep_thing (T : Txt K mg) : PySem.W.keepIn K (.ref (He.ga K "_law_deep_thing")) = true := (F__law_deep_thing T).kp
theorem B__law_deep_thing (T : Txt K mg) : Binds K (fd__law_deep_thing T) ["_law_tape_here"] [] := (F__law_deep_thing T).bindsN fun _ _ _ _ _ _ us hl => match us, hl with | [_], _ => rfl
theorem F0__law_written (T : Txt K mg) : ∃ fd, FnP K "_law_written" s__law_written (He.ga K "_law_written") fd := T.c.dfn 15 rfl
noncomputable def fd__law_written (T : Txt K mg) : FuncData := (F0__law_written T).choose
theorem F__law_written (T : Txt K mg) : FnP K "_law_written" s__law_written (He.ga K "_law_written") (fd__law_written T) := (F0__law_written T).choose_spec
theorem g__law_written (T : Txt K mg) : mg "_law_written" = some (.ref (He.ga K "_law_written")) := T.gl (T.c.fact 7 rfl)
theorem kp__law_written (T : Txt K mg) : PySem.W.keepIn K (.ref (He.ga K "_law_written")) = true := (F__law_written T).kp
theorem B__law_written (T : Txt K mg) : Binds K (fd__law_written T) ["_law_thing_here"] [] := (F__law_written T).bindsN fun _ _ _ _ _ _ us hl => match us, hl with | [_], _ => rfl
theorem F0__law_first_wrong (T : Txt K mg) : ∃ fd, FnP K "_law_first_wrong" s__law_first_wrong (He.ga K "_law_first_wrong") fd := T.c.dfn 16 rfl
noncomputable def fd__law_first_wrong (T : Txt K mg) : FuncData := (F0__law_first_wrong T).choose
theorem F__law_first_wrong (T : Txt K mg) : FnP K "_law_first_wrong" s__law_first_wrong (He.ga K "_law_first_wrong") (fd__law_first_wrong T) := (F0__law_first_wrong T).choose_spec
theorem g__law_first_wrong (T : Txt K mg) : mg "_law_first_wrong" = some (.ref (He.ga K "_law_first_wrong")) := T.gl (T.c.fact 8 rfl)
theorem kp__law_first_wrong (T : Txt K mg) : PySem.W.keepIn K (.ref (He.ga K "_law_first_wrong")) = true := (F__law_first_wrong T).kp
theorem B__law_first_wrong (T : Txt K mg) : Binds K (fd__law_first_wrong T) ["_law_text_here"] [] := (F__law_first_wrong T).bindsN fun _ _ _ _ _ _ us hl => match us, hl with | [_], _ => rfl
theorem F0__law_value (T : Txt K mg) : ∃ fd, FnP K "_law_value" s__law_value (He.ga K "_law_value") fd := T.c.dfn 17 rfl
noncomputable def fd__law_value (T : Txt K mg) : FuncData := (F0__law_value T).choose
theorem F__law_value (T : Txt K mg) : FnP K "_law_value" s__law_value (He.ga K "_law_value") (fd__law_value T) := (F0__law_value T).choose_spec
theorem g__law_value (T : Txt K mg) : mg "_law_value" = some (.ref (He.ga K "_law_value")) := T.gl (T.c.fact 9 rfl)
theorem kp__law_value (T : Txt K mg) : PySem.W.keepIn K (.ref (He.ga K "_law_value")) = true := (F__law_value T).kp
theorem B__law_value (T : Txt K mg) : Binds K (fd__law_value T) ["_law_word_here"] [] := (F__law_value T).bindsN fun _ _ _ _ _ _ us hl => match us, hl with | [_], _ => rfl
theorem F0__law_built (T : Txt K mg) : ∃ fd, FnP K "_law_built" s__law_built (He.ga K "_law_built") fd := T.c.dfn 18 rfl
noncomputable def fd__law_built (T : Txt K mg) : FuncData := (F0__law_built T).choose
theorem F__law_built (T : Txt K mg) : FnP K "_law_built" s__law_built (He.ga K "_law_built") (fd__law_built T) := (F0__law_built T).choose_spec
theorem g__law_built (T : Txt K mg) : mg "_law_built" = some (.ref (He.ga K "_law_built")) := T.gl (T.c.fact 10 rfl)
theorem kp__law_built (T : Txt K mg) : PySem.W.keepIn K (.ref (He.ga K "_law_built")) = true := (F__law_built T).kp
theorem B__law_built (T : Txt K mg) : Binds K (fd__law_built T) ["_law_text_here"] [] := (F__law_built T).bindsN fun _ _ _ _ _ _ us hl => match us, hl with | [_], _ => rfl
theorem F0__law_same (T : Txt K mg) : ∃ fd, FnP K "_law_same" s__law_same (He.ga K "_law_same") fd := T.c.dfn 19 rfl
noncomputable def fd__law_same (T : Txt K mg) : FuncData := (F0__law_same T).choose
theorem F__law_same (T : Txt K mg) : FnP K "_law_same" s__law_same (He.ga K "_law_same") (fd__law_same T) := (F0__law_same T).choose_spec
theorem g__law_same (T : Txt K mg) : mg "_law_same" = some (.ref (He.ga K "_law_same")) := T.gl (T.c.fact 11 rfl)
theorem kp__law_same (T : Txt K mg) : PySem.W.keepIn K (.ref (He.ga K "_law_same")) = true := (F__law_same T).kp
theorem B__law_same (T : Txt K mg) : Binds K (fd__law_same T) ["_law_found", "_law_due"] [] := (F__law_same T).bindsN fun _ _ _ _ _ _ us hl => match us, hl with | [_, _], _ => rfl
theorem F0__law_word (T : Txt K mg) : ∃ fd, FnP K "_law_word" s__law_word (He.ga K "_law_word") fd := T.c.dfn 20 rfl
noncomputable def fd__law_word (T : Txt K mg) : FuncData := (F0__law_word T).choose
theorem F__law_word (T : Txt K mg) : FnP K "_law_word" s__law_word (He.ga K "_law_word") (fd__law_word T) := (F0__law_word T).choose_spec
theorem g__law_word (T : Txt K mg) : mg "_law_word" = some (.ref (He.ga K "_law_word")) := T.gl (T.c.fact 12 rfl)
theorem kp__law_word (T : Txt K mg) : PySem.W.keepIn K (.ref (He.ga K "_law_word")) = true := (F__law_word T).kp
theorem B__law_word (T : Txt K mg) : Binds K (fd__law_word T) ["_law_e"] [] := (F__law_word T).bindsN fun _ _ _ _ _ _ us hl => match us, hl with | [_], _ => rfl
theorem F0__law_text (T : Txt K mg) : ∃ fd, FnP K "_law_text" s__law_text (He.ga K "_law_text") fd := T.c.dfn 21 rfl
noncomputable def fd__law_text (T : Txt K mg) : FuncData := (F0__law_text T).choose
theorem F__law_text (T : Txt K mg) : FnP K "_law_text" s__law_text (He.ga K "_law_text") (fd__law_text T) := (F0__law_text T).choose_spec
theorem g__law_text (T : Txt K mg) : mg "_law_text" = some (.ref (He.ga K "_law_text")) := T.gl (T.c.fact 13 rfl)
theorem kp__law_text (T : Txt K mg) : PySem.W.keepIn K (.ref (He.ga K "_law_text")) = true := (F__law_text T).kp
theorem B__law_text (T : Txt K mg) : Binds K (fd__law_text T) ["_law_tape_here"] [] := (F__law_text T).bindsN fun _ _ _ _ _ _ us hl => match us, hl with | [_], _ => rfl
theorem F0__law_signs (T : Txt K mg) : ∃ fd, FnP K "_law_signs" s__law_signs (He.ga K "_law_signs") fd := T.c.dfn 22 rfl
noncomputable def fd__law_signs (T : Txt K mg) : FuncData := (F0__law_signs T).choose
theorem F__law_signs (T : Txt K mg) : FnP K "_law_signs" s__law_signs (He.ga K "_law_signs") (fd__law_signs T) := (F0__law_signs T).choose_spec
theorem g__law_signs (T : Txt K mg) : mg "_law_signs" = some (.ref (He.ga K "_law_signs")) := T.gl (T.c.fact 14 rfl)
theorem kp__law_signs (T : Txt K mg) : PySem.W.keepIn K (.ref (He.ga K "_law_signs")) = true := (F__law_signs T).kp
theorem B__law_signs (T : Txt K mg) : Binds K (fd__law_signs T) [] [] := (F__law_signs T).bindsN fun _ _ _ _ _ _ us hl => match us, hl with | [], _ => rfl
theorem F0__law_changed (T : Txt K mg) : ∃ fd, FnP K "_law_changed" s__law_changed (He.ga K "_law_changed") fd := T.c.dfn 23 rfl
noncomputable def fd__law_changed (T : Txt K mg) : FuncData := (F0__law_changed T).choose
theorem F__law_changed (T : Txt K mg) : FnP K "_law_changed" s__law_changed (He.ga K "_law_changed") (fd__law_changed T) := (F0__law_changed T).choose_spec
theorem g__law_changed (T : Txt K mg) : mg "_law_changed" = some (.ref (He.ga K "_law_changed")) := T.gl (T.c.fact 15 rfl)
theorem kp__law_changed (T : Txt K mg) : PySem.W.keepIn K (.ref (He.ga K "_law_changed")) = true := (F__law_changed T).kp
theorem B__law_changed (T : Txt K mg) : Binds K (fd__law_changed T) ["_law_tape_here", "_law_text_here"] [] := (F__law_changed T).bindsN fun _ _ _ _ _ _ us hl => match us, hl with | [_, _], _ => rfl
theorem F0__law_read (T : Txt K mg) : ∃ fd, FnP K "_law_read" s__law_read (He.ga K "_law_read") fd := T.c.dfn 24 rfl
noncomputable def fd__law_read (T : Txt K mg) : FuncData := (F0__law_read T).choose
theorem F__law_read (T : Txt K mg) : FnP K "_law_read" s__law_read (He.ga K "_law_read") (fd__law_read T) := (F0__law_read T).choose_spec
theorem g__law_read (T : Txt K mg) : mg "_law_read" = some (.ref (He.ga K "_law_read")) := T.gl (T.c.fact 16 rfl)
theorem kp__law_read (T : Txt K mg) : PySem.W.keepIn K (.ref (He.ga K "_law_read")) = true := (F__law_read T).kp
theorem B__law_read (T : Txt K mg) : Binds K (fd__law_read T) ["_law_text_here"] [] := (F__law_read T).bindsN fun _ _ _ _ _ _ us hl => match us, hl with | [_], _ => rfl
theorem F0_law (T : Txt K mg) : ∃ fd, FnP K "law" s_law (He.ga K "law") fd := T.c.dfn 25 rfl
noncomputable def fd_law (T : Txt K mg) : FuncData := (F0_law T).choose
theorem F_law (T : Txt K mg) : FnP K "law" s_law (He.ga K "law") (fd_law T) := (F0_law T).choose_spec
theorem g_law (T : Txt K mg) : mg "law" = some (.ref (He.ga K "law")) := T.gl (T.c.fact 17 rfl)
theorem kp_law (T : Txt K mg) : PySem.W.keepIn K (.ref (He.ga K "law")) = true := (F_law T).kp
theorem B_law (T : Txt K mg) : Binds K (fd_law T) ["_law_script"] [] := (F_law T).bindsN fun _ _ _ _ _ _ us hl => match us, hl with | [_], _ => rfl
theorem g_PrimeError (T : Txt K mg) : mg "PrimeError" = some (.ref (He.ga K "PrimeError")) := T.gl (T.c.fact 18 rfl)
theorem g_NoNumber (T : Txt K mg) : mg "NoNumber" = some (.ref (He.ga K "NoNumber")) := T.gl (T.c.fact 19 rfl)
theorem g_TooFar (T : Txt K mg) : mg "TooFar" = some (.ref (He.ga K "TooFar")) := T.gl (T.c.fact 20 rfl)
theorem g_NoPrime (T : Txt K mg) : mg "NoPrime" = some (.ref (He.ga K "NoPrime")) := T.gl (T.c.fact 21 rfl)
theorem g_NoInverse (T : Txt K mg) : mg "NoInverse" = some (.ref (He.ga K "NoInverse")) := T.gl (T.c.fact 22 rfl)
theorem g_Nought (T : Txt K mg) : mg "Nought" = some (.ref (He.ga K "Nought")) := T.gl (T.c.fact 23 rfl)
theorem g_NoOrder (T : Txt K mg) : mg "NoOrder" = some (.ref (He.ga K "NoOrder")) := T.gl (T.c.fact 24 rfl)
theorem g_NoRoot (T : Txt K mg) : mg "NoRoot" = some (.ref (He.ga K "NoRoot")) := T.gl (T.c.fact 25 rfl)
theorem g_TooMany (T : Txt K mg) : mg "TooMany" = some (.ref (He.ga K "TooMany")) := T.gl (T.c.fact 26 rfl)
theorem g_NoText (T : Txt K mg) : mg "NoText" = some (.ref (He.ga K "NoText")) := T.gl (T.c.fact 27 rfl)
theorem g_NoRow (T : Txt K mg) : mg "NoRow" = some (.ref (He.ga K "NoRow")) := T.gl (T.c.fact 28 rfl)
theorem g_Reader (T : Txt K mg) : mg "Reader" = some (.ref (He.ga K "Reader")) := T.gl (T.c.fact 29 rfl)
theorem c_Reader (T : Txt K mg) : Cls K (He.ga K "Reader") := He.cls_ok (T.c.fact 30 rfl)
theorem mk_Reader (T : Txt K mg) : Mk K (He.ga K "Reader") (He.ma K (He.ga K "Reader") "__init__") := He.mkr_ok (T.c.fact 31 rfl)
theorem n_Reader_here (T : Txt K mg) : NoAttr K (He.ga K "Reader") "here" := He.noat_ok (T.c.fact 32 rfl)
theorem n_Reader_text (T : Txt K mg) : NoAttr K (He.ga K "Reader") "text" := He.noat_ok (T.c.fact 33 rfl)
theorem x_TooFar (T : Txt K mg) : XIn K (He.ga K "TooFar") (He.ma K (He.ga K "TooFar") "__init__") "part" := xin_of (T.c.fact 57 rfl)
theorem F0_init_TooFar (T : Txt K mg) : ∃ fd, FunD K "__init__" "TooFar.__init__" (defArgs s_init_TooFar) (defBody s_init_TooFar) (defScope s_init_TooFar) [] [] (He.ma K (He.ga K "TooFar") "__init__") fd := T.c.dfn 26 rfl
noncomputable def fd_init_TooFar (T : Txt K mg) : FuncData := (F0_init_TooFar T).choose
theorem F_init_TooFar (T : Txt K mg) : FunD K "__init__" "TooFar.__init__" (defArgs s_init_TooFar) (defBody s_init_TooFar) (defScope s_init_TooFar) [] [] (He.ma K (He.ga K "TooFar") "__init__") (fd_init_TooFar T) := (F0_init_TooFar T).choose_spec
theorem B_init_TooFar (T : Txt K mg) : Binds K (fd_init_TooFar T) ["self", "part"] [] := (F_init_TooFar T).bindsN fun _ _ _ _ _ _ us hl => match us, hl with | [_, _], _ => rfl
theorem ok_init_TooFar (T : Txt K mg) : FnOk P w K mg base CX0 1 (He.ma K (He.ga K "TooFar") "__init__") (fd_init_TooFar T) ["self", "part"] (sp_init K (He.ga K "TooFar") "part") := by
  refine (F_init_TooFar T).ok sc_init_TooFar (fun vs H Q E h => ?_) (fun cdv A outer s H vs Q E hr h => ⟨_, PSs.nox (pss_cons (ps_expr (pe_cinit rfl (g_PrimeError T) (base_of (T.c.fact (t := fun K => baseB (He.ga K "PrimeError") K) 58 rfl)) (pa_cons (pv 0) (pa_cons pe_str pa_nil)))) (pss_one (ps_ost (pv 0) (pv 1)))), ?_⟩)
  · obtain ⟨_, _, rfl, _⟩ := h; rfl
  · exact rd_init h
theorem x_NoPrime (T : Txt K mg) : XIn K (He.ga K "NoPrime") (He.ma K (He.ga K "NoPrime") "__init__") "divisor" := xin_of (T.c.fact 59 rfl)
theorem F0_init_NoPrime (T : Txt K mg) : ∃ fd, FunD K "__init__" "NoPrime.__init__" (defArgs s_init_NoPrime) (defBody s_init_NoPrime) (defScope s_init_NoPrime) [] [] (He.ma K (He.ga K "NoPrime") "__init__") fd := T.c.dfn 27 rfl
noncomputable def fd_init_NoPrime (T : Txt K mg) : FuncData := (F0_init_NoPrime T).choose
theorem F_init_NoPrime (T : Txt K mg) : FunD K "__init__" "NoPrime.__init__" (defArgs s_init_NoPrime) (defBody s_init_NoPrime) (defScope s_init_NoPrime) [] [] (He.ma K (He.ga K "NoPrime") "__init__") (fd_init_NoPrime T) := (F0_init_NoPrime T).choose_spec
theorem B_init_NoPrime (T : Txt K mg) : Binds K (fd_init_NoPrime T) ["self", "divisor"] [] := (F_init_NoPrime T).bindsN fun _ _ _ _ _ _ us hl => match us, hl with | [_, _], _ => rfl
theorem ok_init_NoPrime (T : Txt K mg) : FnOk P w K mg base CX0 1 (He.ma K (He.ga K "NoPrime") "__init__") (fd_init_NoPrime T) ["self", "divisor"] (sp_init K (He.ga K "NoPrime") "divisor") := by
  refine (F_init_NoPrime T).ok sc_init_NoPrime (fun vs H Q E h => ?_) (fun cdv A outer s H vs Q E hr h => ⟨_, PSs.nox (pss_cons (ps_expr (pe_cinit rfl (g_PrimeError T) (base_of (T.c.fact (t := fun K => baseB (He.ga K "PrimeError") K) 58 rfl)) (pa_cons (pv 0) (pa_cons pe_str pa_nil)))) (pss_one (ps_ost (pv 0) (pv 1)))), ?_⟩)
  · obtain ⟨_, _, rfl, _⟩ := h; rfl
  · exact rd_init h
theorem x_NoInverse (T : Txt K mg) : XIn K (He.ga K "NoInverse") (He.ma K (He.ga K "NoInverse") "__init__") "divisor" := xin_of (T.c.fact 60 rfl)
theorem F0_init_NoInverse (T : Txt K mg) : ∃ fd, FunD K "__init__" "NoInverse.__init__" (defArgs s_init_NoInverse) (defBody s_init_NoInverse) (defScope s_init_NoInverse) [] [] (He.ma K (He.ga K "NoInverse") "__init__") fd := T.c.dfn 28 rfl
noncomputable def fd_init_NoInverse (T : Txt K mg) : FuncData := (F0_init_NoInverse T).choose
theorem F_init_NoInverse (T : Txt K mg) : FunD K "__init__" "NoInverse.__init__" (defArgs s_init_NoInverse) (defBody s_init_NoInverse) (defScope s_init_NoInverse) [] [] (He.ma K (He.ga K "NoInverse") "__init__") (fd_init_NoInverse T) := (F0_init_NoInverse T).choose_spec
theorem B_init_NoInverse (T : Txt K mg) : Binds K (fd_init_NoInverse T) ["self", "divisor"] [] := (F_init_NoInverse T).bindsN fun _ _ _ _ _ _ us hl => match us, hl with | [_, _], _ => rfl
theorem ok_init_NoInverse (T : Txt K mg) : FnOk P w K mg base CX0 1 (He.ma K (He.ga K "NoInverse") "__init__") (fd_init_NoInverse T) ["self", "divisor"] (sp_init K (He.ga K "NoInverse") "divisor") := by
  refine (F_init_NoInverse T).ok sc_init_NoInverse (fun vs H Q E h => ?_) (fun cdv A outer s H vs Q E hr h => ⟨_, PSs.nox (pss_cons (ps_expr (pe_cinit rfl (g_PrimeError T) (base_of (T.c.fact (t := fun K => baseB (He.ga K "PrimeError") K) 58 rfl)) (pa_cons (pv 0) (pa_cons pe_str pa_nil)))) (pss_one (ps_ost (pv 0) (pv 1)))), ?_⟩)
  · obtain ⟨_, _, rfl, _⟩ := h; rfl
  · exact rd_init h
theorem x_NoRoot (T : Txt K mg) : XIn K (He.ga K "NoRoot") (He.ma K (He.ga K "NoRoot") "__init__") "rest" := xin_of (T.c.fact 61 rfl)
theorem F0_init_NoRoot (T : Txt K mg) : ∃ fd, FunD K "__init__" "NoRoot.__init__" (defArgs s_init_NoRoot) (defBody s_init_NoRoot) (defScope s_init_NoRoot) [] [] (He.ma K (He.ga K "NoRoot") "__init__") fd := T.c.dfn 29 rfl
noncomputable def fd_init_NoRoot (T : Txt K mg) : FuncData := (F0_init_NoRoot T).choose
theorem F_init_NoRoot (T : Txt K mg) : FunD K "__init__" "NoRoot.__init__" (defArgs s_init_NoRoot) (defBody s_init_NoRoot) (defScope s_init_NoRoot) [] [] (He.ma K (He.ga K "NoRoot") "__init__") (fd_init_NoRoot T) := (F0_init_NoRoot T).choose_spec
theorem B_init_NoRoot (T : Txt K mg) : Binds K (fd_init_NoRoot T) ["self", "rest"] [] := (F_init_NoRoot T).bindsN fun _ _ _ _ _ _ us hl => match us, hl with | [_, _], _ => rfl
theorem ok_init_NoRoot (T : Txt K mg) : FnOk P w K mg base CX0 1 (He.ma K (He.ga K "NoRoot") "__init__") (fd_init_NoRoot T) ["self", "rest"] (sp_init K (He.ga K "NoRoot") "rest") := by
  refine (F_init_NoRoot T).ok sc_init_NoRoot (fun vs H Q E h => ?_) (fun cdv A outer s H vs Q E hr h => ⟨_, PSs.nox (pss_cons (ps_expr (pe_cinit rfl (g_PrimeError T) (base_of (T.c.fact (t := fun K => baseB (He.ga K "PrimeError") K) 58 rfl)) (pa_cons (pv 0) (pa_cons pe_str pa_nil)))) (pss_one (ps_ost (pv 0) (pv 1)))), ?_⟩)
  · obtain ⟨_, _, rfl, _⟩ := h; rfl
  · exact rd_init h
theorem x_TooMany (T : Txt K mg) : XIn K (He.ga K "TooMany") (He.ma K (He.ga K "TooMany") "__init__") "many" := xin_of (T.c.fact 62 rfl)
theorem F0_init_TooMany (T : Txt K mg) : ∃ fd, FunD K "__init__" "TooMany.__init__" (defArgs s_init_TooMany) (defBody s_init_TooMany) (defScope s_init_TooMany) [] [] (He.ma K (He.ga K "TooMany") "__init__") fd := T.c.dfn 30 rfl
noncomputable def fd_init_TooMany (T : Txt K mg) : FuncData := (F0_init_TooMany T).choose
theorem F_init_TooMany (T : Txt K mg) : FunD K "__init__" "TooMany.__init__" (defArgs s_init_TooMany) (defBody s_init_TooMany) (defScope s_init_TooMany) [] [] (He.ma K (He.ga K "TooMany") "__init__") (fd_init_TooMany T) := (F0_init_TooMany T).choose_spec
theorem B_init_TooMany (T : Txt K mg) : Binds K (fd_init_TooMany T) ["self", "many"] [] := (F_init_TooMany T).bindsN fun _ _ _ _ _ _ us hl => match us, hl with | [_, _], _ => rfl
theorem ok_init_TooMany (T : Txt K mg) : FnOk P w K mg base CX0 1 (He.ma K (He.ga K "TooMany") "__init__") (fd_init_TooMany T) ["self", "many"] (sp_init K (He.ga K "TooMany") "many") := by
  refine (F_init_TooMany T).ok sc_init_TooMany (fun vs H Q E h => ?_) (fun cdv A outer s H vs Q E hr h => ⟨_, PSs.nox (pss_cons (ps_expr (pe_cinit rfl (g_PrimeError T) (base_of (T.c.fact (t := fun K => baseB (He.ga K "PrimeError") K) 58 rfl)) (pa_cons (pv 0) (pa_cons pe_str pa_nil)))) (pss_one (ps_ost (pv 0) (pv 1)))), ?_⟩)
  · obtain ⟨_, _, rfl, _⟩ := h; rfl
  · exact rd_init h
theorem x_NoText (T : Txt K mg) : XIn K (He.ga K "NoText") (He.ma K (He.ga K "NoText") "__init__") "line" := xin_of (T.c.fact 63 rfl)
theorem y_NoText (T : Txt K mg) : XIn K (He.ga K "NoText") (He.ma K (He.ga K "NoText") "__init__") "word" := xin_of (T.c.fact 64 rfl)
theorem F0_init_NoText (T : Txt K mg) : ∃ fd, FunD K "__init__" "NoText.__init__" (defArgs s_init_NoText) (defBody s_init_NoText) (defScope s_init_NoText) [] [] (He.ma K (He.ga K "NoText") "__init__") fd := T.c.dfn 31 rfl
noncomputable def fd_init_NoText (T : Txt K mg) : FuncData := (F0_init_NoText T).choose
theorem F_init_NoText (T : Txt K mg) : FunD K "__init__" "NoText.__init__" (defArgs s_init_NoText) (defBody s_init_NoText) (defScope s_init_NoText) [] [] (He.ma K (He.ga K "NoText") "__init__") (fd_init_NoText T) := (F0_init_NoText T).choose_spec
theorem B_init_NoText (T : Txt K mg) : Binds K (fd_init_NoText T) ["self", "line", "word"] [] := (F_init_NoText T).bindsN fun _ _ _ _ _ _ us hl => match us, hl with | [_, _, _], _ => rfl
theorem ok_init_NoText (T : Txt K mg) : FnOk P w K mg base CX0 1 (He.ma K (He.ga K "NoText") "__init__") (fd_init_NoText T) ["self", "line", "word"] (R.sp_init2 K (He.ga K "NoText") "line" "word") := by
  refine (F_init_NoText T).ok sc_init_NoText (fun vs H Q E h => ?_) (fun cdv A outer s H vs Q E hr h => ⟨_, PSs.nox (pss_cons (ps_expr (pe_cinit rfl (g_PrimeError T) (base_of (T.c.fact (t := fun K => baseB (He.ga K "PrimeError") K) 58 rfl)) (pa_cons (pv 0) (pa_cons pe_str pa_nil)))) (pss_cons (ps_ost (pv 0) (pv 1)) (pss_one (ps_ost (pv 0) (pv 2))))), ?_⟩)
  · obtain ⟨_, _, _, rfl, _⟩ := h; rfl
  · exact R.rd_init2 h
theorem z_PrimeError (T : Txt K mg) : Exc0 K (He.ga K "PrimeError") := exc0_of (T.c.fact 65 rfl)
theorem z_NoNumber (T : Txt K mg) : Exc0 K (He.ga K "NoNumber") := exc0_of (T.c.fact 66 rfl)
theorem z_Nought (T : Txt K mg) : Exc0 K (He.ga K "Nought") := exc0_of (T.c.fact 67 rfl)
theorem z_NoOrder (T : Txt K mg) : Exc0 K (He.ga K "NoOrder") := exc0_of (T.c.fact 68 rfl)
theorem z_NoRow (T : Txt K mg) : Exc0 K (He.ga K "NoRow") := exc0_of (T.c.fact 69 rfl)
theorem k_NoText_Nought (T : Txt K mg) : PySem.W.kitOne K (.ref (He.ga K "NoText")) (.ref (He.ga K "Nought")) = some false := kitc_of (T.c.fact 71 rfl)
theorem i_NoText (T : Txt K mg) : IsX K (He.ga K "NoText") := isx_of (T.c.fact 72 rfl)
theorem k_NoText_TooMany (T : Txt K mg) : PySem.W.kitOne K (.ref (He.ga K "NoText")) (.ref (He.ga K "TooMany")) = some false := kitc_of (T.c.fact 73 rfl)
theorem k_NoText_TooFar (T : Txt K mg) : PySem.W.kitOne K (.ref (He.ga K "NoText")) (.ref (He.ga K "TooFar")) = some false := kitc_of (T.c.fact 74 rfl)
theorem k_NoText_NoText (T : Txt K mg) : PySem.W.kitOne K (.ref (He.ga K "NoText")) (.ref (He.ga K "NoText")) = some true := kitc_of (T.c.fact 75 rfl)
theorem k_NoText_NoRow (T : Txt K mg) : PySem.W.kitOne K (.ref (He.ga K "NoText")) (.ref (He.ga K "NoRow")) = some false := kitc_of (T.c.fact 76 rfl)
theorem k_NoText_NoNumber (T : Txt K mg) : PySem.W.kitOne K (.ref (He.ga K "NoText")) (.ref (He.ga K "NoNumber")) = some false := kitc_of (T.c.fact 77 rfl)
theorem k_NoText_NoPrime (T : Txt K mg) : PySem.W.kitOne K (.ref (He.ga K "NoText")) (.ref (He.ga K "NoPrime")) = some false := kitc_of (T.c.fact 78 rfl)
theorem k_NoText_NoInverse (T : Txt K mg) : PySem.W.kitOne K (.ref (He.ga K "NoText")) (.ref (He.ga K "NoInverse")) = some false := kitc_of (T.c.fact 79 rfl)
theorem k_NoText_NoOrder (T : Txt K mg) : PySem.W.kitOne K (.ref (He.ga K "NoText")) (.ref (He.ga K "NoOrder")) = some false := kitc_of (T.c.fact 80 rfl)
theorem k_NoText_NoRoot (T : Txt K mg) : PySem.W.kitOne K (.ref (He.ga K "NoText")) (.ref (He.ga K "NoRoot")) = some false := kitc_of (T.c.fact 81 rfl)
theorem k_NoText_ValueError (T : Txt K mg) : PySem.W.kitOne K (.ref (He.ga K "NoText")) (.type "ValueError") = some true := kitt_of (T.c.fact 82 rfl)
theorem e_NoText_PrimeError (T : Txt K mg) : PySem.W.exmOne K (.ref (He.ga K "NoText")) (.ref (He.ga K "PrimeError")) = some true := He.exm_ok (T.c.fact 70 rfl)
/-- the tape of a law's draws: n of them are still let -/
def TpQ (H : Hp) (s q : Addr) (n : Nat) : Prop := ∃ (cs : List Int) (spot left : Int), H s = some (.dK [(.inr "cells", .ref q), (.inr "spot", .int spot), (.inr "left", .int left)]) ∧ H q = some (.lst (cs.map V.int)) ∧ cs.length ≤ 63 ∧ 0 ≤ spot ∧ spot + n ≤ 2 ^ 40
theorem TpQ.fr {H H' : Hp} {s q : Addr} {n : Nat} (h : TpQ H s q n) (e1 : ∀ o, H s = some o → H' s = some o) (e2 : ∀ o, H q = some o → H' q = some o) : TpQ H' s q n := by
  obtain ⟨cs, spot, left, h1, h2, h3⟩ := h
  exact ⟨cs, spot, left, e1 _ h1, e2 _ h2, h3⟩
theorem TpQ.same {H H' : Hp} {s q : Addr} {n : Nat} (h : TpQ H s q n) (e : Same H H') : TpQ H' s q n := h.fr (fun _ z => e _ _ z) fun _ z => e _ _ z
theorem TpQ.mono {H : Hp} {s q : Addr} {n m : Nat} (h : TpQ H s q n) (e : m ≤ n) : TpQ H s q m := by
  obtain ⟨cs, spot, left, h1, h2, h3, h4, h5⟩ := h
  exact ⟨cs, spot, left, h1, h2, h3, h4, by omega⟩
theorem TpQ.sx {H : Hp} {s q : Addr} {n : Nat} (h : TpQ H s q n) : ∃ kvs, H s = some (.dK kvs) ∧ kvs.head? = some (.inr "cells", .ref q) := by
  obtain ⟨cs, spot, left, h1, _⟩ := h
  exact ⟨_, h1, rfl⟩
theorem TpQ.qx {H : Hp} {s q : Addr} {n : Nat} (h : TpQ H s q n) : ∃ xs, H q = some (.lst xs) := by
  obtain ⟨cs, spot, left, _, h2, _⟩ := h
  exact ⟨_, h2⟩
def ivV : V → Int
  | .int i => i
  | _ => 0
/-- _law_tape(script) -/
def sp__law_tape (K : PySem.W.Frag) : Sp := fun vs H Q _ => ∃ (a : Addr) (ns : List Int), vs = [.ref a] ∧ ns.length ≤ 63 ∧ SqL K H a (ns.map V.int) ∧ ∀ s q H', H s = none → Same H H' → TpQ H' s q 1000000 → Q (.ref s) H'
theorem ok__law_tape (T : Txt K mg) : FnOk P w K mg base CX0 1 (He.ga K "_law_tape") (fd__law_tape T) ["_law_script"] (sp__law_tape K) := by
  refine (F__law_tape T).ok sc__law_tape (fun vs H Q E h => ?_) (fun cdv A outer s H vs Q E hr h => ⟨_, PSs.nox (pss_one (ps_ret (pe_disp (pps_cons pe_str (pe_slice sl_list (pv 0) po_none (po_some pe_int)) (pps_cons pe_str pe_int (pps_cons pe_str pe_int pps_nil))) rfl rfl (by simp) (by decide)))), ?_⟩)
  · obtain ⟨a, ns, rfl, _⟩ := h; rfl
  · obtain ⟨a, ns, rfl, hl, hS, k⟩ := h
    walk_at "g"
    refine s_disp fun p H1 np hd s1 => ?_
    walk_at "g"
    refine mkSl (s1.seq hS) fun q H2 nq eq s2 => ?_
    have zl := cutV_length (ns.map V.int) none (some 63)
    rw [List.length_map] at zl
    have npq : p ≠ q := fun z => by rw [← z, hd] at nq; cases nq
    have ecs : cutV (ns.map V.int) none (some 63) = ((cutV (ns.map V.int) none (some 63)).map ivV).map V.int := by
      rw [List.map_map]
      refine ((List.map_congr_left fun x hx => ?_).trans (List.map_id _)).symm
      obtain ⟨c, e, _⟩ := of_mem_ints (cutV_mem hx)
      rw [e]; rfl
    walk_at "g"
    refine mkDisp [(.inr "cells", .ref q), (.inr "spot", .int 0), (.inr "left", .int 0)] (s2 _ _ hd) rfl (by simp) fun H3 e3 s3 => ?_
    refine k p q H3 np (s3 H np (s1.trans s2)) ⟨(cutV (ns.map V.int) none (some 63)).map ivV, 0, 0, e3, ?_, ?_, Int.le_refl _, by decide⟩
    · rw [← ecs]
      refine s3 (fun b => if b = q then H2 q else none) (if_neg npq) (fun b o hb => ?_) q _ ((if_pos rfl).trans eq)
      have hb : (if b = q then H2 q else none) = some o := hb
      by_cases c : b = q
      · rw [if_pos c] at hb; rw [c]; exact hb
      · rw [if_neg c] at hb; cases hb
    · rw [List.length_map]; omega

/-- _law_draw(tape, many): a number from 0 to below many -/
def sp__law_draw (K : PySem.W.Frag) : Sp := fun vs H Q _ => ∃ (s q : Addr) (m : Int) (n : Nat), vs = [.ref s, .int m] ∧ 0 < m ∧ m < 2 ^ 900 ∧ 0 < n ∧ TpQ H s q n ∧ ∀ (z : Int) H', 0 ≤ z → z < m → TpQ H' s q (n - 1) → SameB s H H' → Q (.int z) H'
theorem tp_upd {H : Hp} {s q : Addr} {cs : List Int} {o : HO} {kvs : List (Key × V)} (h1 : H s = some (.dK kvs)) (h2 : H q = some (.lst (cs.map V.int))) : upd H s o q = some (.lst (cs.map V.int)) := by
  have : q ≠ s := fun z => by rw [z, h1] at h2; cases h2
  rw [upd_ne this]; exact h2
theorem ok__law_draw (T : Txt K mg) : FnOk P w K mg base CX0 1 (He.ga K "_law_draw") (fd__law_draw T) ["_law_tape_here", "_law_many"] (sp__law_draw K) := by
  refine (F__law_draw T).ok sc__law_draw (fun vs H Q E h => ?_) (fun cdv A outer s H vs Q E hr h => ⟨_, PSs.nox (pss_cons (ps_if (pt_cmpR op_gt (pe_dget (hu_of hr) (pv 0) pe_str (fun _ _ => rfl)) pe_int (nomark _)) (pss_cons (ps_set (i := 2) sc__law_draw.nd rfl (Or.inl rfl) (pe_op op_mod (pe_dget (hu_of hr) (pv 0) pe_str (fun _ _ => rfl)) (pv 1)))
      (pss_cons (ps_dput (hu_of hr) (pv 0) pe_str (pe_op op_fdivW (pe_dget (hu_of hr) (pv 0) pe_str (fun _ _ => rfl)) (pv 1)) rfl)
      (pss_one (ps_ret (pv 2))))) pss_nil)
      (pss_cons (ps_set (i := 3) sc__law_draw.nd rfl (Or.inl rfl) (pe_dget (hu_of hr) (pv 0) pe_str (fun _ _ => rfl)))
      (pss_cons (ps_dput (hu_of hr) (pv 0) pe_str (pe_op op_add (pv 3) pe_int) rfl)
      (pss_cons (ps_set (i := 4) sc__law_draw.nd rfl (Or.inl rfl) (pe_dget (hu_of hr) (pv 0) pe_str (fun _ _ => rfl)))
      (pss_cons (ps_set (i := 5) sc__law_draw.nd rfl (Or.inl rfl) pe_int)
      (pss_cons (ps_if (pt_cmpR op_gt (pe_callB callLen rfl (T.fr (T.c.fact 41 rfl)) boot_len (pa_cons (pv 4) pa_nil)) pe_int (nomark _)) (pss_one (ps_set (i := 5) sc__law_draw.nd rfl (Or.inl rfl) (pe_ix ix_seq (pv 4) (pe_op op_mod (pv 3) (pe_callB callLen rfl (T.fr (T.c.fact 41 rfl)) boot_len (pa_cons (pv 4) pa_nil))) (fun _ _ => rfl)))) pss_nil)
      (pss_cons (ps_if (PW.pt (pw_and (pt_cmpR op_gt (pv 5) pe_int (nomark _)) (pw_and (pt_cmpR op_eq (pe_op op_mod (pv 5) pe_int) pe_int (nomark _)) (pw_and1 (pt_cmpR op_lt (pv 3) (pe_callB callLen rfl (T.fr (T.c.fact 41 rfl)) boot_len (pa_cons (pv 4) pa_nil)) (nomark _)))))) (pss_cons (ps_dput (hu_of hr) (pv 0) pe_str (pe_op op_fdivW (pe_op op_fdivW (pv 5) pe_int) (pv 1)) rfl)
      (pss_one (ps_ret (pe_op op_mod (pe_op op_fdivW (pv 5) pe_int) (pv 1))))) pss_nil)
      (pss_cons (ps_set (i := 6) sc__law_draw.nd rfl (Or.inl rfl) (pe_op op_mod (pe_op op_mulW (pe_op op_add (pe_op op_add (pe_op op_add (pe_op op_mod (pv 5) pe_int) (pe_op op_mulW (pe_op op_mulW pe_int (pv 3)) (pv 3))) (pe_op op_mulW pe_int (pv 3))) pe_int) pe_int) pe_int))
      (pss_one (ps_ret (pe_op op_mod (pe_op op_fdivW (pe_op op_mod (pe_op op_mulW (pv 6) (pe_op op_add (pv 6) pe_int)) pe_int) pe_int) (pv 1)))))))))))), ?_⟩)
  · obtain ⟨s, q, m, n, rfl, _⟩ := h; rfl
  · obtain ⟨s, q, m, n, rfl, m0, m1, n0, ⟨cs, spot, left, hd, hq, hc, sp0, sp1⟩, k⟩ := h
    have hl : ∀ a b : Int, ([(.inr "cells", .ref q), (.inr "spot", .int a), (.inr "left", .int b)] : List (Key × V)).length < sizeLine := fun a b => small1000 (by simp)
    have v1 : ∀ a b : Int, valV ([(.inr "cells", .ref q), (.inr "spot", .int a), (.inr "left", .int b)] : List (Key × V)) (.inr "left") = some (.int b) := fun a b => by rfl
    have v2 : ∀ a b : Int, valV ([(.inr "cells", .ref q), (.inr "spot", .int a), (.inr "left", .int b)] : List (Key × V)) (.inr "spot") = some (.int a) := fun a b => by rfl
    have v3 : ∀ a b : Int, valV ([(.inr "cells", .ref q), (.inr "spot", .int a), (.inr "left", .int b)] : List (Key × V)) (.inr "cells") = some (.ref q) := fun a b => by rfl
    have p1 : ∀ a b x : Int, putK ([(.inr "cells", .ref q), (.inr "spot", .int a), (.inr "left", .int b)] : List (Key × V)) (.inr "left") (.int x) = [(.inr "cells", .ref q), (.inr "spot", .int a), (.inr "left", .int x)] := fun a b x => by rfl
    have p2 : ∀ a b x : Int, putK ([(.inr "cells", .ref q), (.inr "spot", .int a), (.inr "left", .int b)] : List (Key × V)) (.inr "spot") (.int x) = [(.inr "cells", .ref q), (.inr "spot", .int x), (.inr "left", .int b)] := fun a b x => by rfl
    walk_at "g"
    refine s_dgetS hd (v1 _ _) ?_
    walk_at "g"
    refine s_ite (fun c => ?_) (fun c => ?_)
    · walk_at "g"
      refine s_dgetS hd (v1 _ _) ?_
      walk_at "g"
      refine s_i (by omega) ?_
      walk_at "g"
      refine s_dgetS hd (v1 _ _) ?_
      walk_at "g"
      refine s_i (divW m0 (by omega)) ?_
      walk_at "g"
      refine s_dputS hd (hl _ _) ?_
      walk_at "g"
      rw [p1]
      exact k _ _ (Int.emod_nonneg _ (by omega)) (Int.emod_lt_of_pos _ m0) ⟨cs, spot, _, upd_same, tp_upd hd hq, hc, sp0, by omega⟩ SameB.put
    walk_at "g"
    refine s_dgetS hd (v2 _ _) ?_
    walk_at "g"
    refine s_dputS hd (hl _ _) ?_
    walk_at "g"
    rw [p2]
    have hd2 : upd H s (.dK [(.inr "cells", .ref q), (.inr "spot", .int (spot + 1)), (.inr "left", .int left)]) s = some (.dK [(.inr "cells", .ref q), (.inr "spot", .int (spot + 1)), (.inr "left", .int left)]) := upd_same
    have hq2 := tp_upd (o := .dK [(.inr "cells", .ref q), (.inr "spot", .int (spot + 1)), (.inr "left", .int left)]) hd hq
    have s2 : SameB s H (upd H s (.dK [(.inr "cells", .ref q), (.inr "spot", .int (spot + 1)), (.inr "left", .int left)])) := SameB.put
    generalize upd H s (.dK [(.inr "cells", .ref q), (.inr "spot", .int (spot + 1)), (.inr "left", .int left)]) = H2 at hd2 hq2 s2 ⊢
    refine s_dgetS hd2 (v3 _ _) ?_
    walk_at "h"
    refine s_join (fun σ' H' => H' = H2 ∧ ∃ c : Int, σ' = [some (.ref s), some (.int m), none, some (.int spot), some (.ref q), some (.int c), none]) ?_ fun N J => ?_
    case refine_2 =>
      walk_at "g"
      refine s_lenL (SqL.of hq2) ?_
      rw [List.length_map]
      walk_at "g"
      refine s_ite (fun c1 => ?_) (fun c1 => ?_)
      · have hc0 : 0 < cs.length := by omega
        walk_at "g"
        refine s_lenL (SqL.of hq2) ?_
        rw [List.length_map]
        walk_at "g"
        refine s_i (by omega) ?_
        walk_at "g"
        refine s_pickN (P := fun _ => True) cs hq2 ⟨Int.emod_nonneg _ (by omega), Int.emod_lt_of_pos _ (by omega)⟩ (fun _ _ => trivial) fun c _ => ?_
        walk_at "g"
        exact J _ _ ⟨rfl, c, rfl⟩
      · walk_at "g"
        exact J _ _ ⟨rfl, 0, rfl⟩
    rintro σ' H' ⟨rfl, c, rfl⟩
    have hss : (7919 * spot * spot).natAbs < 2 ^ 200 := by
      obtain ⟨t, rfl⟩ := Int.eq_ofNat_of_zero_le sp0
      have h1 : t ≤ 2 ^ 40 := by omega
      have h2 := Nat.mul_le_mul h1 h1
      have h3 : (7919 * (t : Int) * (t : Int)) = ((7919 * (t * t) : Nat) : Int) := by push_cast; rw [Int.mul_assoc]
      rw [h3]
      have : (2 : Nat) ^ 40 * 2 ^ 40 = 2 ^ 80 := by decide
      omega
    walk_at "g"
    refine s_ite (fun c1 => ?_) (fun c1 => ?_)
    · walk_at "g"
      refine s_ite (fun c2 => ?_) (fun c2 => ?_)
      · walk_at "g"
        refine s_lenL (SqL.of hq2) ?_
        rw [List.length_map]
        walk_at "g"
        refine s_ite (fun c3 => ?_) (fun c3 => ?_)
        · walk_at "g"
          refine s_i (divW m0 (by omega)) ?_
          walk_at "g"
          refine s_dputS hd2 (hl _ _) ?_
          walk_at "g"
          rw [p1]
          refine s_i (by omega) ?_
          exact k _ _ (Int.emod_nonneg _ (by omega)) (Int.emod_lt_of_pos _ m0) ⟨cs, spot + 1, _, upd_same, tp_upd hd2 hq2, hc, by omega, by omega⟩ (s2.trans SameB.put)
        · walk_at "g"
          try refine s_i (mulW (by omega) (by omega)) ?_
          walk_at "g"
          generalize hsd : (c % 2147483629 + 7919 * spot * spot + 48271 * spot + 1) * 69621 % 2147483647 = sd
          have sd0 : 0 ≤ sd := by rw [← hsd]; exact Int.emod_nonneg _ (by decide)
          have sd1 : sd < 2147483647 := by rw [← hsd]; exact Int.emod_lt_of_pos _ (by decide)
          clear hsd
          try refine s_i (mulW (by omega) (by omega)) ?_
          walk_at "g"
          refine s_i (by omega) ?_
          exact k _ _ (Int.emod_nonneg _ (by omega)) (Int.emod_lt_of_pos _ m0) ⟨cs, spot + 1, left, hd2, hq2, hc, by omega, by omega⟩ s2
      · walk_at "g"
        try refine s_i (mulW (by omega) (by omega)) ?_
        walk_at "g"
        generalize hsd : (c % 2147483629 + 7919 * spot * spot + 48271 * spot + 1) * 69621 % 2147483647 = sd
        have sd0 : 0 ≤ sd := by rw [← hsd]; exact Int.emod_nonneg _ (by decide)
        have sd1 : sd < 2147483647 := by rw [← hsd]; exact Int.emod_lt_of_pos _ (by decide)
        clear hsd
        try refine s_i (mulW (by omega) (by omega)) ?_
        walk_at "g"
        refine s_i (by omega) ?_
        exact k _ _ (Int.emod_nonneg _ (by omega)) (Int.emod_lt_of_pos _ m0) ⟨cs, spot + 1, left, hd2, hq2, hc, by omega, by omega⟩ s2
    · walk_at "g"
      try refine s_i (mulW (by omega) (by omega)) ?_
      walk_at "g"
      generalize hsd : (c % 2147483629 + 7919 * spot * spot + 48271 * spot + 1) * 69621 % 2147483647 = sd
      have sd0 : 0 ≤ sd := by rw [← hsd]; exact Int.emod_nonneg _ (by decide)
      have sd1 : sd < 2147483647 := by rw [← hsd]; exact Int.emod_lt_of_pos _ (by decide)
      clear hsd
      try refine s_i (mulW (by omega) (by omega)) ?_
      walk_at "g"
      refine s_i (by omega) ?_
      exact k _ _ (Int.emod_nonneg _ (by omega)) (Int.emod_lt_of_pos _ m0) ⟨cs, spot + 1, left, hd2, hq2, hc, by omega, by omega⟩ s2

/-! data of any kind, as they lie in the heap; F tells of which lists -/
mutual
inductive DaF (F : Addr → Prop) (H : Hp) : V → PyData → Prop
  | non : DaF F H .non .none
  | bl (b : Bool) : DaF F H (.bl b) (.bool b)
  | int (i : Int) : DaF F H (.int i) (.int i)
  | str (x : Str) : DaF F H (.str x) (.str x)
  | lst {a : Addr} {xs : List V} {ds : List PyData} (e : H a = some (.lst xs)) (h : DaL F H xs ds) (f : F a) : DaF F H (.ref a) (.list ds)
  | tup {a : Addr} {xs : List V} {ds : List PyData} (e : H a = some (.tup xs)) (h : DaL F H xs ds) : DaF F H (.ref a) (.tuple ds)
inductive DaL (F : Addr → Prop) (H : Hp) : List V → List PyData → Prop
  | nil : DaL F H [] []
  | cons {v : V} {d : PyData} {vs : List V} {ds : List PyData} (h : DaF F H v d) (t : DaL F H vs ds) : DaL F H (v :: vs) (d :: ds)
end
/-- data with any lists; data without lists -/
abbrev Da (H : Hp) : V → PyData → Prop := DaF (fun _ => True) H
abbrev Tu (H : Hp) : V → PyData → Prop := DaF (fun _ => False) H
mutual
theorem DaF.same {F : Addr → Prop} {H H' : Hp} (s : Same H H') : ∀ {v : V} {d : PyData}, DaF F H v d → DaF F H' v d
  | _, _, .non => .non
  | _, _, .bl b => .bl b
  | _, _, .int i => .int i
  | _, _, .str x => .str x
  | _, _, .lst e h f => .lst (s _ _ e) (DaL.same s h) f
  | _, _, .tup e h => .tup (s _ _ e) (DaL.same s h)
theorem DaL.same {F : Addr → Prop} {H H' : Hp} (s : Same H H') : ∀ {vs : List V} {ds : List PyData}, DaL F H vs ds → DaL F H' vs ds
  | _, _, .nil => .nil
  | _, _, .cons h t => .cons (DaF.same s h) (DaL.same s t)
end
mutual
theorem DaF.mono {F G : Addr → Prop} {H : Hp} (g : ∀ a, F a → G a) : ∀ {v : V} {d : PyData}, DaF F H v d → DaF G H v d
  | _, _, .non => .non
  | _, _, .bl b => .bl b
  | _, _, .int i => .int i
  | _, _, .str x => .str x
  | _, _, .lst e h f => .lst e (DaL.mono g h) (g _ f)
  | _, _, .tup e h => .tup e (DaL.mono g h)
theorem DaL.mono {F G : Addr → Prop} {H : Hp} (g : ∀ a, F a → G a) : ∀ {vs : List V} {ds : List PyData}, DaL F H vs ds → DaL G H vs ds
  | _, _, .nil => .nil
  | _, _, .cons h t => .cons (DaF.mono g h) (DaL.mono g t)
end
mutual
/-- a list that is none of them may change -/
theorem DaF.upd {F : Addr → Prop} {H : Hp} {p : Addr} {o : HO} {zs : List V} (hp : H p = some (.lst zs)) (n : ¬ F p) : ∀ {v : V} {d : PyData}, DaF F H v d → DaF F (L2.upd H p o) v d
  | _, _, .non => .non
  | _, _, .bl b => .bl b
  | _, _, .int i => .int i
  | _, _, .str x => .str x
  | _, _, @DaF.lst _ _ a _ _ e h f => .lst (by rw [upd_ne (show a ≠ p from fun z => n (z ▸ f))]; exact e) (DaL.upd hp n h) f
  | _, _, .tup e h => .tup (by rw [upd_ne (fun z => by rw [z, hp] at e; cases e)]; exact e) (DaL.upd hp n h)
theorem DaL.upd {F : Addr → Prop} {H : Hp} {p : Addr} {o : HO} {zs : List V} (hp : H p = some (.lst zs)) (n : ¬ F p) : ∀ {vs : List V} {ds : List PyData}, DaL F H vs ds → DaL F (L2.upd H p o) vs ds
  | _, _, .nil => .nil
  | _, _, .cons h t => .cons (DaF.upd hp n h) (DaL.upd hp n t)
end
mutual
theorem DaF.dp (K : PySem.W.Frag) {F : Addr → Prop} {H : Hp} : ∀ {v : V} {d : PyData}, DaF F H v d → Dp K H v d
  | _, _, .non => .non
  | _, _, .bl b => .bl b
  | _, _, .int i => .int i
  | _, _, .str x => .str x
  | _, _, .lst e h _ => .lst (SqL.of e) (DaL.dp K h)
  | _, _, .tup e h => .tup (SqT.of e) (DaL.dp K h)
theorem DaL.dp (K : PySem.W.Frag) {F : Addr → Prop} {H : Hp} : ∀ {vs : List V} {ds : List PyData}, DaL F H vs ds → DpAll K H vs ds
  | _, _, .nil => .nil
  | _, _, .cons h t => .cons (DaF.dp K h) (DaL.dp K t)
end
theorem DaF.any {F : Addr → Prop} {H : Hp} {v : V} {d : PyData} (h : DaF F H v d) : Da H v d := h.mono fun _ _ => trivial
theorem DaL.any {F : Addr → Prop} {H : Hp} {vs : List V} {ds : List PyData} (h : DaL F H vs ds) : DaL (fun _ => True) H vs ds := h.mono fun _ _ => trivial
theorem DaL.len {F : Addr → Prop} {H : Hp} : ∀ {vs : List V} {ds : List PyData}, DaL F H vs ds → vs.length = ds.length
  | _, _, .nil => rfl
  | _, _, .cons _ t => by rw [List.length_cons, List.length_cons, DaL.len t]
theorem DaL.get {F : Addr → Prop} {H : Hp} : ∀ {vs : List V} {ds : List PyData} {i : Nat} {v : V}, DaL F H vs ds → vs[i]? = some v → ∃ d, ds[i]? = some d ∧ DaF F H v d
  | _, _, _, _, .nil, e => by simp at e
  | _, _, 0, _, .cons h _, e => by simp at e; subst e; exact ⟨_, rfl, h⟩
  | _, _, i + 1, v, .cons _ t, e => by
    obtain ⟨d, h1, h2⟩ := DaL.get (i := i) t (by simpa using e)
    exact ⟨d, by simpa using h1, h2⟩
theorem DaL.get' {F : Addr → Prop} {H : Hp} : ∀ {vs : List V} {ds : List PyData} {i : Nat} {d : PyData}, DaL F H vs ds → ds[i]? = some d → ∃ v, vs[i]? = some v ∧ DaF F H v d
  | _, _, _, _, .nil, e => by simp at e
  | _, _, 0, _, .cons h _, e => by simp at e; subst e; exact ⟨_, rfl, h⟩
  | _, _, i + 1, d, .cons _ t, e => by
    obtain ⟨v, h1, h2⟩ := DaL.get' (i := i) t (by simpa using e)
    exact ⟨v, by simpa using h1, h2⟩
theorem DaL.app {F : Addr → Prop} {H : Hp} {ys : List V} {es : List PyData} (h' : DaL F H ys es) : ∀ {vs : List V} {ds : List PyData}, DaL F H vs ds → DaL F H (vs ++ ys) (ds ++ es)
  | _, _, .nil => h'
  | _, _, .cons h t => .cons h (DaL.app h' t)
theorem DaL.take {F : Addr → Prop} {H : Hp} : ∀ {vs : List V} {ds : List PyData} (n : Nat), DaL F H vs ds → DaL F H (vs.take n) (ds.take n)
  | _, _, 0, _ => by simp; exact .nil
  | _, _, _ + 1, .nil => .nil
  | _, _, n + 1, .cons h t => .cons h (DaL.take n t)
theorem DaL.drop {F : Addr → Prop} {H : Hp} : ∀ {vs : List V} {ds : List PyData} (n : Nat), DaL F H vs ds → DaL F H (vs.drop n) (ds.drop n)
  | _, _, 0, h => h
  | _, _, _ + 1, .nil => .nil
  | _, _, n + 1, .cons _ t => DaL.drop n t
theorem DaL.cut {F : Addr → Prop} {H : Hp} {vs : List V} {ds : List PyData} (h : DaL F H vs ds) (lo hi : Option Int) : ∃ n m, DaL F H (cutV vs lo hi) ((ds.drop n).take m) := ⟨_, _, (h.drop _).take _⟩
theorem DaL.rev {F : Addr → Prop} {H : Hp} : ∀ {vs : List V} {ds : List PyData}, DaL F H vs ds → DaL F H vs.reverse ds.reverse
  | _, _, .nil => .nil
  | _, _, .cons h t => by rw [List.reverse_cons, List.reverse_cons]; exact DaL.app (.cons h .nil) (DaL.rev t)
theorem DaL.two {F : Addr → Prop} {H : Hp} {vs : List V} {d e : PyData} {ds : List PyData} (h : DaL F H vs (d :: e :: ds)) : ∃ x y ys, vs = x :: y :: ys ∧ DaF F H x d ∧ DaF F H y e ∧ DaL F H ys ds := by
  cases h with
  | cons h t => cases t with
    | cons h2 t => exact ⟨_, _, _, rfl, h, h2, t⟩
theorem DaL.three {F : Addr → Prop} {H : Hp} {vs : List V} {d e f : PyData} {ds : List PyData} (h : DaL F H vs (d :: e :: f :: ds)) : ∃ x y z ys, vs = x :: y :: z :: ys ∧ DaF F H x d ∧ DaF F H y e ∧ DaF F H z f ∧ DaL F H ys ds := by
  obtain ⟨x, y, ys, rfl, h1, h2, h3⟩ := h.two
  cases h3 with
  | cons h3 t => exact ⟨_, _, _, _, rfl, h1, h2, h3, t⟩
/-- the kind's name -/
def tyN : PyData → String
  | .none => "NoneType"
  | .bool _ => "bool"
  | .int _ => "int"
  | .str _ => "str"
  | .list _ => "list"
  | .tuple _ => "tuple"
  | .dict _ => "dict"
theorem DaF.ty {K : PySem.W.Frag} {F : Addr → Prop} {H : Hp} {v : V} {d : PyData} (h : DaF F H v d) : TyOf K H v (.type (tyN d)) := by
  cases h with
  | non => exact .non
  | bl b => exact .bl b
  | int i => exact .int i
  | str x => exact .str x
  | lst e _ => exact .lst e
  | tup e _ => exact .tup e
def isInt : PyData → Bool
  | .int _ => true
  | .bool _ => true
  | _ => false
def isBool : PyData → Bool
  | .bool _ => true
  | _ => false
def isTup : PyData → Bool
  | .tuple _ => true
  | _ => false
def isLst : PyData → Bool
  | .list _ => true
  | _ => false
theorem kb_si : kitB "str" "int" = some false := by decide +kernel
theorem kb_sb : kitB "str" "bool" = some false := by decide +kernel
theorem kb_st : kitB "str" "tuple" = some false := by decide +kernel
theorem kb_sl : kitB "str" "list" = some false := by decide +kernel
theorem kb_lb : kitB "list" "bool" = some false := by decide +kernel
theorem kb_tb : kitB "tuple" "bool" = some false := by decide +kernel
section
variable {K : PySem.W.Frag} {F : Addr → Prop} {H : Hp} {Q : VK} {v : V} {d : PyData}
theorem s_isiInt (h : DaF F H v d) (q : Q (.bl (isInt d)) H) : rIsi K [v, .ty "int"] H Q := by
  cases h with
  | non => exact s_isi .non kb_ni q
  | bl b => exact s_isi (.bl b) kb_bi q
  | int i => exact s_isi (.int i) kb_ii q
  | str x => exact s_isi (.str x) kb_si q
  | lst e _ => exact s_isi (.lst e) kb_li q
  | tup e _ => exact s_isi (.tup e) kb_ti q
theorem s_isiBool (h : DaF F H v d) (q : Q (.bl (isBool d)) H) : rIsi K [v, .ty "bool"] H Q := by
  cases h with
  | non => exact s_isi .non kb_nb q
  | bl b => exact s_isi (.bl b) kb_bb q
  | int i => exact s_isi (.int i) kb_ib q
  | str x => exact s_isi (.str x) kb_sb q
  | lst e _ => exact s_isi (.lst e) kb_lb q
  | tup e _ => exact s_isi (.tup e) kb_tb q
theorem s_isiTup (h : DaF F H v d) (q : Q (.bl (isTup d)) H) : rIsi K [v, .ty "tuple"] H Q := by
  cases h with
  | non => exact s_isi .non kb_nt q
  | bl b => exact s_isi (.bl b) kb_bt q
  | int i => exact s_isi (.int i) kb_it q
  | str x => exact s_isi (.str x) kb_st q
  | lst e _ => exact s_isi (.lst e) kb_lt q
  | tup e _ => exact s_isi (.tup e) kb_tt q
theorem s_isiLst (h : DaF F H v d) (q : Q (.bl (isLst d)) H) : rIsi K [v, .ty "list"] H Q := by
  cases h with
  | non => exact s_isi .non kb_nl q
  | bl b => exact s_isi (.bl b) kb_bl q
  | int i => exact s_isi (.int i) kb_il q
  | str x => exact s_isi (.str x) kb_sl q
  | lst e _ => exact s_isi (.lst e) kb_ll q
  | tup e _ => exact s_isi (.tup e) kb_tl q
end
/-- not too deep, not too long, no great numbers -/
inductive Bd : Nat → PyData → Prop
  | non {n : Nat} : Bd n .none
  | bl {n : Nat} (b : Bool) : Bd n (.bool b)
  | int {n : Nat} {i : Int} (h : i.natAbs < 2 ^ 300) : Bd n (.int i)
  | str {n : Nat} (x : Str) (h : PyData.strOk x = true) : Bd n (.str x)
  | lst {n : Nat} {ds : List PyData} (l : ds.length ≤ 999) (h : ∀ d ∈ ds, Bd n d) : Bd (n + 1) (.list ds)
  | tup {n : Nat} {ds : List PyData} (l : ds.length ≤ 999) (h : ∀ d ∈ ds, Bd n d) : Bd (n + 1) (.tuple ds)
theorem Bd.mono : ∀ {n m : Nat} {d : PyData}, Bd n d → n ≤ m → Bd m d := by
  intro n m d h
  induction h generalizing m with
  | non => intro _; exact .non
  | bl b => intro _; exact .bl b
  | int h => intro _; exact .int h
  | str x h => intro _; exact .str x h
  | lst l _ ih =>
    intro e
    obtain ⟨k, rfl⟩ : ∃ k, m = k + 1 := ⟨m - 1, by omega⟩
    exact .lst l fun d hd => ih d hd (by omega)
  | tup l _ ih =>
    intro e
    obtain ⟨k, rfl⟩ : ∃ k, m = k + 1 := ⟨m - 1, by omega⟩
    exact .tup l fun d hd => ih d hd (by omega)
theorem Bd.tup_inv {n : Nat} {ds : List PyData} (h : Bd n (.tuple ds)) : ∃ m, n = m + 1 ∧ ds.length ≤ 999 ∧ ∀ d ∈ ds, Bd m d := by
  cases h with
  | tup l h => exact ⟨_, rfl, l, h⟩
theorem Bd.lst_inv {n : Nat} {ds : List PyData} (h : Bd n (.list ds)) : ∃ m, n = m + 1 ∧ ds.length ≤ 999 ∧ ∀ d ∈ ds, Bd m d := by
  cases h with
  | lst l h => exact ⟨_, rfl, l, h⟩
theorem Bd.int_inv {n : Nat} {i : Int} (h : Bd n (.int i)) : i.natAbs < 2 ^ 300 := by
  cases h with
  | int h => exact h
theorem Bd.lay {n : Nat} {d : PyData} (h : Bd n d) : d.canLay0 = true ∧ d.depth ≤ n := by
  induction h with
  | non => exact ⟨by simp [PyData.canLay0], by simp [PyData.depth]⟩
  | bl b => exact ⟨by simp [PyData.canLay0], by simp [PyData.depth]⟩
  | int h => exact ⟨by simp [PyData.canLay0], by simp [PyData.depth]⟩
  | str x h => exact ⟨by simp [PyData.canLay0, h], by simp [PyData.depth]⟩
  | lst l _ ih => exact ⟨by simp only [PyData.canLay0]; exact layAll fun d hd => (ih d hd).1, by simp only [PyData.depth]; have := depAll fun d hd => (ih d hd).2; omega⟩
  | tup l _ ih => exact ⟨by simp only [PyData.canLay0]; exact layAll fun d hd => (ih d hd).1, by simp only [PyData.depth]; have := depAll fun d hd => (ih d hd).2; omega⟩
theorem Bd.shaped {n : Nat} {d : PyData} (h : Bd n d) (hn : n ≤ 64) : SeqAt.shaped d = true := by
  unfold SeqAt.shaped
  rw [h.lay.1, Bool.true_and]
  exact decide_eq_true (Nat.le_trans h.lay.2 hn)
/-- a whole number from l on -/
def isW (l : Int) : PyData → Bool
  | .int i => decide (l ≤ i)
  | _ => false
/-- a tuple of k things -/
def isR (k : Int) : PyData → Bool
  | .tuple ds => decide ((ds.length : Int) = k)
  | _ => false
theorem isW_inv {l : Int} {d : PyData} (h : isW l d = true) : ∃ i, d = .int i ∧ l ≤ i := by
  cases d <;> first | exact ⟨_, rfl, of_decide_eq_true h⟩ | cases h
theorem isR_inv {k : Int} {d : PyData} (h : isR k d = true) : ∃ ds, d = .tuple ds ∧ (ds.length : Int) = k := by
  cases d <;> first | exact ⟨_, rfl, of_decide_eq_true h⟩ | cases h
theorem isW_int (l i : Int) : isW l (.int i) = decide (l ≤ i) := rfl
theorem isR_tup (k : Int) (ds : List PyData) : isR k (.tuple ds) = decide ((ds.length : Int) = k) := rfl
/-- the same, to be computed -/
def bdB : Nat → PyData → Bool
  | _, .none => true
  | _, .bool _ => true
  | _, .int i => decide (i.natAbs < 2 ^ 300)
  | _, .str x => PyData.strOk x
  | n + 1, .list ds => decide (ds.length ≤ 999) && ds.all (bdB n)
  | n + 1, .tuple ds => decide (ds.length ≤ 999) && ds.all (bdB n)
  | _, _ => false
theorem bdB_ok : ∀ {n : Nat} {d : PyData}, bdB n d = true → Bd n d
  | _, .none, _ => .non
  | _, .bool b, _ => .bl b
  | _, .int i, h => .int (by simpa [bdB] using h)
  | _, .str x, h => .str x (by simpa [bdB] using h)
  | n + 1, .list ds, h => by
    simp only [bdB, Bool.and_eq_true, decide_eq_true_eq, List.all_eq_true] at h
    exact .lst h.1 fun d hd => bdB_ok (h.2 d hd)
  | n + 1, .tuple ds, h => by
    simp only [bdB, Bool.and_eq_true, decide_eq_true_eq, List.all_eq_true] at h
    exact .tup h.1 fun d hd => bdB_ok (h.2 d hd)
  | 0, .list _, h => by simp [bdB] at h
  | 0, .tuple _, h => by simp [bdB] at h
  | 0, .dict _, h => by simp [bdB] at h
  | _ + 1, .dict _, h => by simp [bdB] at h

open Tx
/-- a reader of the text S at r, at the place h -/
def RdAt (K : PySem.W.Frag) (H : Hp) (r : Addr) (S : Str) (h : Nat) : Prop := ∃ dx, H r = some (.ins (He.ga K "Reader") dx [("text", .str S), ("here", .int (h : Nat))])
theorem RdAt.same {K : PySem.W.Frag} {H H' : Hp} {r : Addr} {S : Str} {h : Nat} (e : RdAt K H r S h) (s : Same H H') : RdAt K H' r S h := by
  obtain ⟨dx, e⟩ := e
  exact ⟨dx, s _ _ e⟩
theorem RdAt.upd {K : PySem.W.Frag} {H : Hp} {r l : Addr} {S : Str} {h : Nat} {o : HO} {xs : List V} (e : RdAt K H r S h) (hl : H l = some (.lst xs)) : RdAt K (L2.upd H l o) r S h := by
  obtain ⟨dx, e⟩ := e
  exact ⟨dx, by rw [upd_ne (fun z => by rw [z, hl] at e; cases e)]; exact e⟩
/-- what is not at r is not at a reader -/
theorem RdAt.new {K : PySem.W.Frag} {H : Hp} {r b : Addr} {S : Str} {h : Nat} (e : RdAt K H r S h) (n : H b = none) : b ≠ r := fun z => by
  obtain ⟨dx, e⟩ := e
  rw [z, e] at n; cases n
theorem RdAt.tup {K : PySem.W.Frag} {H H' : Hp} {r b : Addr} {S : Str} {h : Nat} {xs : List V} (e : RdAt K H r S h) (s : SameB r H H') (hb : H b = some (.tup xs)) : H' b = some (.tup xs) := s b _ (fun z => by
  obtain ⟨dx, e⟩ := e
  rw [z, e] at hb; cases hb) hb
theorem RdAt.lst {K : PySem.W.Frag} {H H' : Hp} {r b : Addr} {S : Str} {h : Nat} {xs : List V} (e : RdAt K H r S h) (s : SameB r H H') (hb : H b = some (.lst xs)) : H' b = some (.lst xs) := s b _ (fun z => by
  obtain ⟨dx, e⟩ := e
  rw [z, e] at hb; cases hb) hb
mutual
theorem DaF.rd {K : PySem.W.Frag} {F : Addr → Prop} {H H' : Hp} {r : Addr} {S : Str} {h : Nat} (R : RdAt K H r S h) (s : SameB r H H') : ∀ {v : V} {d : PyData}, DaF F H v d → DaF F H' v d
  | _, _, .non => .non
  | _, _, .bl b => .bl b
  | _, _, .int i => .int i
  | _, _, .str x => .str x
  | _, _, .lst e h f => .lst (R.lst s e) (DaL.rd R s h) f
  | _, _, .tup e h => .tup (R.tup s e) (DaL.rd R s h)
theorem DaL.rd {K : PySem.W.Frag} {F : Addr → Prop} {H H' : Hp} {r : Addr} {S : Str} {h : Nat} (R : RdAt K H r S h) (s : SameB r H H') : ∀ {vs : List V} {ds : List PyData}, DaL F H vs ds → DaL F H' vs ds
  | _, _, .nil => .nil
  | _, _, .cons h t => .cons (DaF.rd R s h) (DaL.rd R s t)
end
/-- refused at the place w -/
def NoTB (K : PySem.W.Frag) (H : Hp) (r : Addr) (w : Int) (E : XK) : Prop := ∀ d H', H d = none → SameB r H H' → H' d = some (.xd [("word", .int w), ("line", .int 0)]) → E (.ref (He.ga K "NoText")) (some d) H'
theorem NoTB.of {K : PySem.W.Frag} {H H1 : Hp} {r : Addr} {w : Int} {E : XK} {S : Str} {h : Nat} (k : NoTB K H r w E) (R : RdAt K H1 r S h) (s : SameB r H H1) : NoTB K H1 r w E := fun d H' nd s' e => k d H' (by
  cases c : H d with
  | none => rfl
  | some o =>
    have := s d o (R.new nd) c
    rw [nd] at this; cases this) (s.trans s') e
/-- Reader(text) -/
def sp_Reader___init__ (K : PySem.W.Frag) : Sp := fun vs H Q _ => ∃ (x dx : Addr) (S : Str), vs = [.ref x, .str S] ∧ H x = some (.ins (He.ga K "Reader") dx []) ∧ ∀ H', RdAt K H' x S 0 → SameB x H H' → Q .non H'
theorem ok_Reader___init__ (T : Txt K mg) : FnOk P w K mg base CX0 1 (He.ma K (He.ga K "Reader") "__init__") (fd_Reader___init__ T) ["self", "text"] (sp_Reader___init__ K) := by
  refine (F_Reader___init__ T).ok sc_Reader___init__ (fun vs H Q E h => ?_) (fun cdv A outer s H vs Q E hr h => ⟨_, PSs.nox (pss_cons (ps_fld (pv 0) (pv 1) rfl)
      (pss_one (ps_fld (pv 0) pe_int rfl))), ?_⟩)
  · obtain ⟨x, dx, S, rfl, _⟩ := h; rfl
  · obtain ⟨x, dx, S, rfl, e, k⟩ := h
    walk_at "G"
    refine mkSFld e (c_Reader T) (n_Reader_text T) (by simp) ?_
    walk_at "G"
    refine mkSFld (C := He.ga K "Reader") (dx := dx) (fs := [("text", .str S)]) upd_same (c_Reader T) (n_Reader_here T) (by simp) ?_
    walk_at "G"
    exact k _ ⟨dx, upd_same⟩ (SameB.put.trans SameB.put)
theorem mkReader {K : PySem.W.Frag} {H : Hp} {Q : VK} {E : XK} {S : Str} (k : ∀ x H', H x = none → RdAt K H' x S 0 → Same H H' → Q (.ref x) H') : MakeQ (He.ga K "Reader") (sp_Reader___init__ K) E Q [.str S] H := fun x dx nx ndx nex =>
  ⟨x, dx, S, rfl, upd_same, fun H' e1 s => ⟨rfl, k x H' nx e1 fun b o e => by
    have hbx : b ≠ x := ne_of_none e nx
    have hbd : b ≠ dx := ne_of_none e ndx
    exact s b o hbx (by rw [upd_ne hbx, upd_ne hbd]; exact e)⟩⟩
/-- some signs, as a test -/
def inZ (z : Str) (c : Nat) : Bool := decide (c ∈ TL.tl z)
/-- reader.sees(signs) -/
def sp_Reader_sees (K : PySem.W.Frag) : Sp := fun vs H Q _ => ∃ (r : Addr) (S z : Str) (h : Nat), vs = [.ref r, .str z] ∧ RdAt K H r S h ∧ S.length ≤ sizeLine ∧ Q (.bl (sees (inZ z) ((TL.tl S).drop h))) H
theorem ok_Reader_sees (T : Txt K mg) : FnOk P w K mg base CX0 1 (He.ma K (He.ga K "Reader") "sees") (fd_Reader_sees T) ["self", "signs"] (sp_Reader_sees K) := by
  refine (F_Reader_sees T).ok sc_Reader_sees (fun vs H Q E h => ?_) (fun cdv A outer s H vs Q E hr h => ⟨_, PSs.nox (pss_one (ps_ret (pe_and (pe_cmpR op_lt (pe_fld (pv 0) rfl) (pe_callB call_len_str rfl (T.fr (T.c.fact 41 rfl)) boot_len (pa_cons (pe_fld (pv 0) rfl) pa_nil)) (nomark _)) (pe_one (pe_cmpR op_inS (pe_ix ix_str (pe_fld (pv 0) rfl) (pe_fld (pv 0) rfl) (fun _ _ => rfl)) (pv 1) rfl))))), ?_⟩)
  · obtain ⟨r, S, z, h, rfl, _⟩ := h; rfl
  · obtain ⟨r, S, z, h, rfl, ⟨dx, e⟩, hl, k⟩ := h
    have eL : S.length = (TL.tl S).length := Array.length_toList.symm
    walk_at "G"
    refine mkFld e (c_Reader T) (n_Reader_here T) (by rfl) ?_
    walk_at "G"
    refine mkFld e (c_Reader T) (n_Reader_text T) (by rfl) ?_
    walk_at "G"
    refine ⟨S, rfl, hl, ?_⟩
    walk_at "G"
    refine s_ite (fun c => ?_) (fun c => ?_)
    · have hlt : h < (TL.tl S).length := by omega
      walk_at "G"
      refine mkFld e (c_Reader T) (n_Reader_text T) (by rfl) ?_
      walk_at "G"
      refine mkFld e (c_Reader T) (n_Reader_here T) (by rfl) ?_
      refine ⟨S, h, (TL.tl S)[h], rfl, rfl, hl, atI0 h rfl (List.getElem?_eq_getElem hlt), ?_⟩
      walk_at "G"
      refine ⟨_, z, rfl, rfl, ?_⟩
      rw [List.drop_eq_getElem_cons hlt] at k
      exact k
    · rw [List.drop_eq_nil_of_le (by omega)] at k
      exact k
/-- reader.fails() -/
def sp_Reader_fails (K : PySem.W.Frag) : Sp := fun vs H _ E => ∃ (r : Addr) (S : Str) (h : Nat), vs = [.ref r] ∧ RdAt K H r S h ∧ NoTB K H r h E
theorem ok_Reader_fails (T : Txt K mg) : FnOk P w K mg base (L2.CX P w) 4 (He.ma K (He.ga K "Reader") "fails") (fd_Reader_fails T) ["self"] (sp_Reader_fails K) := by
  refine (F_Reader_fails T).ok sc_Reader_fails (fun vs H Q E h => ?_) (fun cdv A outer s H vs Q E hr h => ⟨_, (pss_one (ps_raise rfl (takes_of rfl rfl rfl rfl) (pmk_oex (x_NoText T).oex (x_NoText T).iC (x_NoText T).tI (ok_init_NoText T) (hr.mono (by decide)) (B_init_NoText T) .nil pass0 rfl (g_NoText T) (pa_cons pe_int (pa_cons (pe_fld (pv 0) rfl) pa_nil))))), ?_⟩)
  · obtain ⟨r, S, h, rfl, _⟩ := h; rfl
  · obtain ⟨r, S, h, rfl, ⟨dx, e⟩, k⟩ := h
    walk_at "G"
    refine mkFld e (c_Reader T) (n_Reader_here T) (by rfl) ?_
    walk_at "G"
    refine R.s_raise2 (x_NoText T).oex (x_NoText T).noF (y_NoText T).noF fun d H1 nd he s => ?_
    exact k d H1 nd (SameB.of s) he

open Tx
theorem cut_mid {S : Str} {a b : Nat} (h1 : a ≤ b) (h2 : b ≤ S.length) : cutS S (some (a : Int)) (some (b : Int)) = ⟨(((TL.tl S).drop a).take (b - a)).toArray⟩ := by
  unfold cutS
  rw [HT.sIx_nat, HT.sIx_nat, Nat.min_eq_left (show a ≤ S.length by omega), Nat.min_eq_left h2]
theorem inF (c : Nat) : inZ "0123456789" c = isF c := by
  have e : TL.tl ("0123456789" : Str) = [48, 49, 50, 51, 52, 53, 54, 55, 56, 57] := by decide +kernel
  unfold inZ isF
  rw [e, ← Bool.decide_and]
  refine decide_eq_decide.mpr ?_
  simp only [List.mem_cons, List.not_mem_nil, or_false]
  omega
theorem inA (c : Nat) : inZ "abcdefghijklmnopqrstuvwxyz" c = isA c := by
  have e : TL.tl ("abcdefghijklmnopqrstuvwxyz" : Str) = [97, 98, 99, 100, 101, 102, 103, 104, 105, 106, 107, 108, 109, 110, 111, 112, 113, 114, 115, 116, 117, 118, 119, 120, 121, 122] := by decide +kernel
  unfold inZ isA
  rw [e, ← Bool.decide_and]
  refine decide_eq_decide.mpr ?_
  simp only [List.mem_cons, List.not_mem_nil, or_false]
  omega
theorem inOne {z : Str} {k : Nat} (e : TL.tl z = [k]) (c : Nat) : inZ z c = is1 k c := by
  unfold inZ is1
  rw [e]
  simp
theorem in0 (c : Nat) : inZ "0" c = is1 48 c := inOne (by decide +kernel) c
theorem inM (c : Nat) : inZ "-" c = is1 45 c := inOne (by decide +kernel) c
theorem inO (c : Nat) : inZ "(" c = is1 40 c := inOne (by decide +kernel) c
theorem inC (c : Nat) : inZ ")" c = is1 41 c := inOne (by decide +kernel) c
theorem inB (c : Nat) : inZ " " c = is1 32 c := inOne (by decide +kernel) c
/-- reader.run(signs, most) -/
def sp_Reader_run (K : PySem.W.Frag) : Sp := fun vs H Q E => ∃ (r : Addr) (S z : Str) (h m : Nat), vs = [.ref r, .str z, .int (m : Nat)] ∧ RdAt K H r S h ∧ S.length ≤ sizeLine ∧ h ≤ S.length ∧
  (∀ H', (((TL.tl S).drop h).takeWhile (inZ z)).length ≤ m → RdAt K H' r S (h + (((TL.tl S).drop h).takeWhile (inZ z)).length) → SameB r H H' → Q (.str ⟨(((TL.tl S).drop h).takeWhile (inZ z)).toArray⟩) H') ∧
  (m < (((TL.tl S).drop h).takeWhile (inZ z)).length → NoTB K H r ((h + m : Nat) : Int) E)
theorem ok_Reader_run (T : Txt K mg) : FnOk P w K mg base (L2.CX P w) 5 (He.ma K (He.ga K "Reader") "run") (fd_Reader_run T) ["self", "signs", "most"] (sp_Reader_run K) := by
  refine (F_Reader_run T).ok sc_Reader_run (fun vs H Q E h => ?_) (fun cdv A outer s H vs Q E hr h => ⟨_, (pss_cons (ps_set (i := 3) sc_Reader_run.nd rfl (Or.inl rfl) (pe_fld (pv 0) rfl))
      (pss_cons (ps_while (passes_of rfl) (pt_val (pe_meth (pv 0) (c_Reader T) (m_Reader_sees T) (ok_Reader_sees T) (hr.mono (by decide)) (B_Reader_sees T) .nil pass0 (pa_cons (pv 1) pa_nil))) (pss_cons (ps_if (pt_cmpR op_eq (pe_op op_sub (pe_fld (pv 0) rfl) (pv 3)) (pv 2) (nomark _)) (pss_one (ps_expr (pe_meth0 (pv 0) (c_Reader T) (m_Reader_fails T) (ok_Reader_fails T) (hr.mono (by decide)) (B_Reader_fails T) .nil (passes_call (takes_of rfl rfl rfl rfl) (fun _ _ _ _ h => h))))) pss_nil)
      (pss_one (ps_fld (pv 0) (pe_op op_add (pe_fld (pv 0) rfl) pe_int) rfl))))
      (pss_one (ps_ret (pe_slice sl_str (pe_fld (pv 0) rfl) (po_some (pv 3)) (po_some (pe_fld (pv 0) rfl))))))), ?_⟩)
  · obtain ⟨r, S, z, h, m, rfl, _⟩ := h; rfl
  · obtain ⟨r, S, z, h, m, rfl, hR, hl, hh, k1, k2⟩ := h
    have eL : S.length = (TL.tl S).length := Array.length_toList.symm
    obtain ⟨dx, e⟩ := hR
    walk_at "G"
    refine mkFld e (c_Reader T) (n_Reader_here T) (by rfl) ?_
    walk_at "G"
    have hwl := tw_le (p := inZ z) (cs := (TL.tl S).drop h)
    rw [List.length_drop] at hwl
    have e0 : (((TL.tl S).drop h).takeWhile (inZ z)) = ((TL.tl S).drop h).takeWhile (inZ z) := rfl
    generalize hw : (((TL.tl S).drop h).takeWhile (inZ z)).length = n at hwl k1 k2
    refine s_while (fun σ H' => ∃ j : Nat, σ = [some (.ref r), some (.str z), some (.int (m : Nat)), some (.int (h : Nat))] ∧ j ≤ m ∧ j ≤ n ∧ RdAt K H' r S (h + j) ∧ SameB r H H') (fun σ H' => match H' r with
      | some (.ins _ _ [_, (_, .int i)]) => (h + n + 1 : Nat) - i.toNat
      | _ => 0) ⟨0, rfl, Nat.zero_le _, Nat.zero_le _, ⟨dx, e⟩, SameB.refl _ _⟩ ?_
    rintro σ H' ⟨j, rfl, jm, jn, hR1, s1⟩
    have hR1' := hR1
    obtain ⟨dx1, e1⟩ := hR1
    walk_at "G"
    refine mkMeth e1 (by rfl) ?_
    walk_at "G"
    refine ⟨r, S, z, h + j, rfl, hR1', hl, ?_⟩
    have ed : (TL.tl S).drop (h + j) = ((TL.tl S).drop h).drop j := by rw [List.drop_drop]
    have hs := tw_drop (p := inZ z) (cs := (TL.tl S).drop h) (j := j) (by omega)
    rw [← ed, hw] at hs
    cases c : sees (inZ z) ((TL.tl S).drop (h + j)) with
    | true =>
      have hj := hs.mp c
      walk_at "G"
      refine mkFld e1 (c_Reader T) (n_Reader_here T) (by rfl) ?_
      walk_at "G"
      refine s_ite (fun c2 => ?_) (fun c2 => ?_)
      · have ejm : j = m := by omega
        subst ejm
        walk_at "G"
        refine mkMeth e1 (by rfl) ?_
        walk_at "G"
        exact ⟨r, S, h + j, rfl, hR1', (k2 hj).of hR1' s1⟩
      · walk_at "G"
        refine mkFld e1 (c_Reader T) (n_Reader_here T) (by rfl) ?_
        walk_at "G"
        refine mkSFld e1 (c_Reader T) (n_Reader_here T) (by simp) ?_
        walk_at "G"
        refine ⟨⟨j + 1, rfl, by omega, by omega, ⟨dx1, ?_⟩, s1.trans SameB.put⟩, ?_⟩
        · rw [upd_same]; rfl
        · rw [upd_same, e1]
          show h + n + 1 - (((h + j : Nat) : Int) + 1).toNat < h + n + 1 - ((h + j : Nat) : Int).toNat
          omega
    | false =>
      have hj : j = n := by
        have : ¬ j < n := fun z => by rw [hs.mpr z] at c; cases c
        omega
      subst hj
      walk_at "G"
      refine mkFld e1 (c_Reader T) (n_Reader_text T) (by rfl) ?_
      walk_at "G"
      refine mkFld e1 (c_Reader T) (n_Reader_here T) (by rfl) ?_
      walk_at "G"
      refine ⟨S, rfl, hl, ?_⟩
      rw [cut_mid (by omega) (by omega), show h + j - h = (((TL.tl S).drop h).takeWhile (inZ z)).length by omega, tw_take]
      exact k1 H' jm hR1' s1
theorem drop_tail {l : List Nat} {h : Nat} : l.drop (h + 1) = (l.drop h).tail := by rw [List.tail_drop]
theorem tw_congr {p q : Nat → Bool} (h : ∀ c, p c = q c) : p = q := funext h
/-- reader.number(), where a figure stands -/
def sp_Reader_number (K : PySem.W.Frag) : Sp := fun vs H Q E => ∃ (r : Addr) (S : Str) (h : Nat), vs = [.ref r] ∧ RdAt K H r S h ∧ S.length ≤ sizeLine ∧ sees isF ((TL.tl S).drop h) = true ∧
  (∀ (i : Int) (rest : List Nat) (h' : Nat) H', numM ((TL.tl S).drop h) = .ok (.int i) rest → rest = (TL.tl S).drop h' → h < h' → h' ≤ S.length → RdAt K H' r S h' → SameB r H H' → Q (.int i) H') ∧
  (∀ (rest : List Nat) (w : Nat), numM ((TL.tl S).drop h) = .no rest → rest = (TL.tl S).drop w → w ≤ S.length → NoTB K H r w E)
theorem ok_Reader_number (T : Txt K mg) : FnOk P w K mg base (L2.CX P w) 6 (He.ma K (He.ga K "Reader") "number") (fd_Reader_number T) ["self"] (sp_Reader_number K) := by
  refine (F_Reader_number T).ok sc_Reader_number (fun vs H Q E h => ?_) (fun cdv A outer s H vs Q E hr h => ⟨_, (pss_cons (ps_if (pt_not (pt_val (pe_meth (pv 0) (c_Reader T) (m_Reader_sees T) (ok_Reader_sees T) (hr.mono (by decide)) (B_Reader_sees T) .nil pass0 (pa_cons pe_str pa_nil)))) (pss_one (ps_ret (pe_callTy call_int_str rfl (T.fr (T.c.fact 42 rfl)) boot_int (pa_cons (pe_meth (pv 0) (c_Reader T) (m_Reader_run T) (ok_Reader_run T) (hr.mono (by decide)) (B_Reader_run T) .nil (passes_call (takes_of rfl rfl rfl rfl) (fun _ _ _ _ h => h)) (pa_cons (pe_glob (v := .str "0123456789") rfl (T.str_ok (T.c.fact 55 rfl)).choose_spec ⟨_, rfl⟩) (pa_cons (pe_glob (v := .int 60) rfl (T.int_ok (T.c.fact 52 rfl)).choose_spec ⟨_, rfl⟩) pa_nil))) pa_nil)))) pss_nil)
      (pss_cons (ps_fld (pv 0) (pe_op op_add (pe_fld (pv 0) rfl) pe_int) rfl)
      (pss_cons (ps_if (pt_val (pe_meth (pv 0) (c_Reader T) (m_Reader_sees T) (ok_Reader_sees T) (hr.mono (by decide)) (B_Reader_sees T) .nil pass0 (pa_cons (pe_glob (v := .str "0123456789") rfl (T.str_ok (T.c.fact 55 rfl)).choose_spec ⟨_, rfl⟩) pa_nil))) (pss_one (ps_expr (pe_meth0 (pv 0) (c_Reader T) (m_Reader_fails T) (ok_Reader_fails T) (hr.mono (by decide)) (B_Reader_fails T) .nil (passes_call (takes_of rfl rfl rfl rfl) (fun _ _ _ _ h => h))))) pss_nil)
      (pss_one (ps_ret pe_int))))), ?_⟩)
  · obtain ⟨r, S, h, rfl, _⟩ := h; rfl
  · obtain ⟨r, S, h, rfl, hR, hl, hF, k1, k2⟩ := h
    have eL : S.length = (TL.tl S).length := Array.length_toList.symm
    have hR' := hR
    have hlt : h < (TL.tl S).length := sees_dlen hF
    obtain ⟨dx, e⟩ := hR
    walk_at "G"
    refine mkMeth e (by rfl) ?_
    walk_at "G"
    refine ⟨r, S, "0", h, rfl, hR', hl, ?_⟩
    rw [sees_congr in0]
    cases c : sees (is1 48) ((TL.tl S).drop h) with
    | true =>
      walk_at "G"
      refine mkFld e (c_Reader T) (n_Reader_here T) (by rfl) ?_
      walk_at "G"
      refine mkSFld e (c_Reader T) (n_Reader_here T) (by simp) ?_
      have e1 : RdAt K (upd H r (.ins (He.ga K "Reader") dx (putF "here" (.int ((h : Int) + 1)) [("text", .str S), ("here", .int (h : Nat))]))) r S (h + 1) := ⟨dx, by rw [upd_same]; rfl⟩
      have s1 : SameB r H (upd H r (.ins (He.ga K "Reader") dx (putF "here" (.int ((h : Int) + 1)) [("text", .str S), ("here", .int (h : Nat))]))) := SameB.put
      show tSeq _ _ _ _ (upd H r (.ins (He.ga K "Reader") dx (putF "here" (.int ((h : Int) + 1)) [("text", .str S), ("here", .int (h : Nat))])))
      generalize upd H r (.ins (He.ga K "Reader") dx (putF "here" (.int ((h : Int) + 1)) [("text", .str S), ("here", .int (h : Nat))])) = H1 at e1 s1 ⊢
      have e1' := e1
      obtain ⟨dx1, e1⟩ := e1
      have en : numM ((TL.tl S).drop h) = if sees isF ((TL.tl S).drop (h + 1)) = true then .no ((TL.tl S).drop (h + 1)) else .ok (.int 0) ((TL.tl S).drop (h + 1)) := by
        unfold numM
        rw [if_pos c, drop_tail]
      walk_at "G"
      refine mkMeth e1 (by rfl) ?_
      walk_at "G"
      refine ⟨r, S, "0123456789", h + 1, rfl, e1', hl, ?_⟩
      rw [sees_congr inF]
      cases c2 : sees isF ((TL.tl S).drop (h + 1)) with
      | true =>
        walk_at "G"
        refine mkMeth e1 (by rfl) ?_
        walk_at "G"
        rw [c2, if_pos rfl] at en
        exact ⟨r, S, h + 1, rfl, e1', (k2 _ (h + 1) en rfl (by omega)).of e1' s1⟩
      | false =>
        rw [c2, if_neg Bool.false_ne_true] at en
        walk_at "G"
        exact k1 0 _ (h + 1) H1 en rfl (by omega) (by omega) e1' s1
    | false =>
      have en : numM ((TL.tl S).drop h) = if (((TL.tl S).drop h).takeWhile isF).length ≤ 60 then .ok (.int (NumText.digitsVal (((TL.tl S).drop h).takeWhile isF) : Nat)) (((TL.tl S).drop h).dropWhile isF) else .no (((TL.tl S).drop h).drop 60) := by
        unfold numM
        rw [if_neg (by rw [c]; exact Bool.false_ne_true)]
      have hwl := tw_le (p := isF) (cs := (TL.tl S).drop h)
      rw [List.length_drop] at hwl
      have hne := tw_ne hF
      have hpos : 0 < (((TL.tl S).drop h).takeWhile isF).length := List.length_pos_iff.mpr hne
      walk_at "G"
      refine mkMeth e (by rfl) ?_
      walk_at "G"
      refine ⟨r, S, "0123456789", h, 60, rfl, hR', hl, by omega, fun H1 hm e1 s1 => ?_, fun hm => ?_⟩
      · rw [tw_congr inF] at hm e1 ⊢
        walk_at "G"
        refine ⟨_, _, rfl, SX.int_S (a := ((TL.tl S).drop h).takeWhile isF) (List.all_eq_true.mpr fun c hc => tw_mem (p := isF) hc) hne (by omega), by rw [SX.S_len]; omega, ?_⟩
        walk_at "G"
        rw [if_pos hm] at en
        exact k1 _ _ _ H1 en (by rw [← tw_dropw, List.drop_drop]) (by omega) (by omega) e1 s1
      · rw [tw_congr inF] at hm
        rw [if_neg (by omega)] at en
        exact k2 _ (h + 60) en (by rw [List.drop_drop]) (by omega)
/-- reader.below(), where a - stands -/
def sp_Reader_below (K : PySem.W.Frag) : Sp := fun vs H Q E => ∃ (r : Addr) (S : Str) (h : Nat), vs = [.ref r] ∧ RdAt K H r S h ∧ S.length ≤ sizeLine ∧ h < S.length ∧
  (∀ (d : PyData) (v : V) (rest : List Nat) (h' : Nat) H', negM ((TL.tl S).drop (h + 1)) = .ok d rest → rest = (TL.tl S).drop h' → h < h' → h' ≤ S.length → Tu H' v d → RdAt K H' r S h' → SameB r H H' → Q v H') ∧
  (∀ (rest : List Nat) (w : Nat), negM ((TL.tl S).drop (h + 1)) = .no rest → rest = (TL.tl S).drop w → w ≤ S.length → NoTB K H r w E)
theorem ok_Reader_below (T : Txt K mg) : FnOk P w K mg base (L2.CX P w) 7 (He.ma K (He.ga K "Reader") "below") (fd_Reader_below T) ["self"] (sp_Reader_below K) := by
  refine (F_Reader_below T).ok sc_Reader_below (fun vs H Q E h => ?_) (fun cdv A outer s H vs Q E hr h => ⟨_, (pss_cons (ps_fld (pv 0) (pe_op op_add (pe_fld (pv 0) rfl) pe_int) rfl)
      (pss_cons (ps_if (pt_val (pe_meth (pv 0) (c_Reader T) (m_Reader_sees T) (ok_Reader_sees T) (hr.mono (by decide)) (B_Reader_sees T) .nil pass0 (pa_cons pe_str pa_nil))) (pss_one (ps_expr (pe_meth0 (pv 0) (c_Reader T) (m_Reader_fails T) (ok_Reader_fails T) (hr.mono (by decide)) (B_Reader_fails T) .nil (passes_call (takes_of rfl rfl rfl rfl) (fun _ _ _ _ h => h))))) pss_nil)
      (pss_cons (ps_if (pt_val (pe_meth (pv 0) (c_Reader T) (m_Reader_sees T) (ok_Reader_sees T) (hr.mono (by decide)) (B_Reader_sees T) .nil pass0 (pa_cons (pe_glob (v := .str "0123456789") rfl (T.str_ok (T.c.fact 55 rfl)).choose_spec ⟨_, rfl⟩) pa_nil))) (pss_one (ps_ret (pe_op op_sub pe_int (pe_meth0 (pv 0) (c_Reader T) (m_Reader_number T) (ok_Reader_number T) (hr.mono (by decide)) (B_Reader_number T) .nil (passes_call (takes_of rfl rfl rfl rfl) (fun _ _ _ _ h => h)))))) pss_nil)
      (pss_one (ps_ret pe_non))))), ?_⟩)
  · obtain ⟨r, S, h, rfl, _⟩ := h; rfl
  · obtain ⟨r, S, h, rfl, hR, hl, hlt, k1, k2⟩ := h
    have eL : S.length = (TL.tl S).length := Array.length_toList.symm
    have hR' := hR
    obtain ⟨dx, e⟩ := hR
    walk_at "G"
    refine mkFld e (c_Reader T) (n_Reader_here T) (by rfl) ?_
    walk_at "G"
    refine mkSFld e (c_Reader T) (n_Reader_here T) (by simp) ?_
    have e1 : RdAt K (upd H r (.ins (He.ga K "Reader") dx (putF "here" (.int ((h : Int) + 1)) [("text", .str S), ("here", .int (h : Nat))]))) r S (h + 1) := ⟨dx, by rw [upd_same]; rfl⟩
    have s1 : SameB r H (upd H r (.ins (He.ga K "Reader") dx (putF "here" (.int ((h : Int) + 1)) [("text", .str S), ("here", .int (h : Nat))]))) := SameB.put
    show tSeq _ _ _ _ (upd H r (.ins (He.ga K "Reader") dx (putF "here" (.int ((h : Int) + 1)) [("text", .str S), ("here", .int (h : Nat))])))
    generalize upd H r (.ins (He.ga K "Reader") dx (putF "here" (.int ((h : Int) + 1)) [("text", .str S), ("here", .int (h : Nat))])) = H1 at e1 s1 ⊢
    have e1' := e1
    obtain ⟨dx1, e1⟩ := e1
    walk_at "G"
    refine mkMeth e1 (by rfl) ?_
    walk_at "G"
    refine ⟨r, S, "0", h + 1, rfl, e1', hl, ?_⟩
    rw [sees_congr in0]
    cases c : sees (is1 48) ((TL.tl S).drop (h + 1)) with
    | true =>
      have en : negM ((TL.tl S).drop (h + 1)) = .no ((TL.tl S).drop (h + 1)) := by unfold negM; rw [if_pos c]
      walk_at "G"
      refine mkMeth e1 (by rfl) ?_
      walk_at "G"
      exact ⟨r, S, h + 1, rfl, e1', (k2 _ (h + 1) en rfl (by omega)).of e1' s1⟩
    | false =>
      walk_at "G"
      refine mkMeth e1 (by rfl) ?_
      walk_at "G"
      refine ⟨r, S, "0123456789", h + 1, rfl, e1', hl, ?_⟩
      rw [sees_congr inF]
      cases c2 : sees isF ((TL.tl S).drop (h + 1)) with
      | true =>
        walk_at "G"
        refine mkMeth e1 (by rfl) ?_
        walk_at "G"
        refine ⟨r, S, h + 1, rfl, e1', hl, c2, fun i rest h' H2 hn hr hh1 hh2 e2 s2 => ?_, fun rest w hn hr hw => ?_⟩
        · walk_at "G"
          exact k1 (.int (0 - i)) _ rest h' H2 (negM_ok c c2 hn) hr (by omega) hh2 (.int _) e2 (s1.trans s2)
        · exact (k2 rest w (negM_no c c2 hn) hr hw).of e1' s1
      | false =>
        have en : negM ((TL.tl S).drop (h + 1)) = .ok .none ((TL.tl S).drop (h + 1)) := by
          unfold negM
          rw [if_neg (by rw [c]; exact Bool.false_ne_true), if_neg (by rw [c2]; exact Bool.false_ne_true)]
        walk_at "G"
        exact k1 .none _ _ (h + 1) H1 en rfl (by omega) (by omega) .non e1' s1

open Tx
def LOut.pre (ds : List PyData) : LOut → LOut
  | .ok es r => .ok (ds ++ es) r
  | .no r => .no r
/-- the levels that are left -/
def sp_Reader_thing (K : PySem.W.Frag) (k : Nat) : Sp := fun vs H Q E => ∃ (r : Addr) (S : Str) (h n : Nat), vs = [.ref r, .int (n : Nat)] ∧ n + k = 81 ∧ 0 < k ∧ RdAt K H r S h ∧ S.length ≤ sizeLine ∧ h ≤ S.length ∧
  (∀ (d : PyData) (v : V) (rest : List Nat) (h' : Nat) H', Th n ((TL.tl S).drop h) (.ok d rest) → rest = (TL.tl S).drop h' → h < h' → h' ≤ S.length → Tu H' v d → RdAt K H' r S h' → SameB r H H' → Q v H') ∧
  (∀ (rest : List Nat) (w : Nat), Th n ((TL.tl S).drop h) (.no rest) → rest = (TL.tl S).drop w → w ≤ S.length → NoTB K H r w E)
def sp_Reader_row (K : PySem.W.Frag) (k : Nat) : Sp := fun vs H Q E => ∃ (r : Addr) (S : Str) (h n : Nat), vs = [.ref r, .int ((n + 1 : Nat) : Int)] ∧ n + k = 81 ∧ 0 < k ∧ RdAt K H r S (h + 1) ∧ S.length ≤ sizeLine ∧ h + 1 ≤ S.length ∧ (TL.tl S).drop h = 40 :: (TL.tl S).drop (h + 1) ∧
  (∀ (d : PyData) (v : V) (rest : List Nat) (h' : Nat) H', Th n ((TL.tl S).drop h) (.ok d rest) → rest = (TL.tl S).drop h' → h < h' → h' ≤ S.length → Tu H' v d → RdAt K H' r S h' → SameB r H H' → Q v H') ∧
  (∀ (rest : List Nat) (w : Nat), Th n ((TL.tl S).drop h) (.no rest) → rest = (TL.tl S).drop w → w ≤ S.length → NoTB K H r w E)
theorem s_wmid {c : TT} {tb : TS} {D : Ends} {σ : L2.St} {H : Hp} (P : L2.St → Hp → Prop) (h1 : ∀ σ' H', P σ' H' → D.nx σ' H') (h2 : ∀ N : L2.St → Hp → Prop, (∀ σ' H', P σ' H' → N σ' H') → tWhile c tb { D with nx := N } σ H) : tWhile c tb D σ H := h2 D.nx h1
theorem s_ct {c : TT} {σ : L2.St} {H : Hp} {QB : Bool → Hp → Prop} (P : Bool → Prop) (h1 : ∀ QB' : Bool → Hp → Prop, (∀ b, P b → QB' b H) → c σ H QB') (h2 : ∀ b, P b → QB b H) : c σ H QB := h1 QB h2
theorem ok_rowS (T : Txt K mg) {k : Nat} (IH : FnOk P w K mg base (L2.CX P w) (2 * k + 8) (He.ma K (He.ga K "Reader") "thing") (fd_Reader_thing T) ["self", "deep"] (sp_Reader_thing K k)) : FnOk P w K mg base (L2.CX P w) (2 * k + 9) (He.ma K (He.ga K "Reader") "row") (fd_Reader_row T) ["self", "deep"] (sp_Reader_row K (k + 1)) := by
  refine (F_Reader_row T).ok sc_Reader_row (fun vs H Q E h => ?_) (fun cdv A outer s H vs Q E hr h => ⟨_, (pss_cons (ps_if (pt_cmpR op_gt (pv 1) (pe_glob (v := .int 80) rfl (T.int_ok (T.c.fact 54 rfl)).choose_spec ⟨_, rfl⟩) (nomark _)) (pss_one (ps_raise rfl (takes_of rfl rfl rfl rfl) (pmk_oex (x_NoText T).oex (x_NoText T).iC (x_NoText T).tI (ok_init_NoText T) (hr.mono (by omega)) (B_init_NoText T) .nil pass0 rfl (g_NoText T) (pa_cons pe_int (pa_cons (pe_op op_sub (pe_fld (pv 0) rfl) pe_int) pa_nil))))) pss_nil)
      (pss_cons (ps_set (i := 2) sc_Reader_row.nd rfl (Or.inl rfl) (pe_lst pa_nil))
      (pss_cons (ps_while (passes_of rfl) (PW.pt (pw_or (pt_not (pt_val (pe_meth (pv 0) (c_Reader T) (m_Reader_sees T) (ok_Reader_sees T) (hr.mono (by omega)) (B_Reader_sees T) .nil pass0 (pa_cons pe_str pa_nil)))) (pw_or1 (pt_cmpR op_gt (pe_callB callLen rfl (T.fr (T.c.fact 41 rfl)) boot_len (pa_cons (pv 2) pa_nil)) pe_int (nomark _))))) (pss_cons (ps_expr (pe_bm PySem.F.plainAttrs_list PySem.F.slot_list_append PySem.F.type_list_append mt_append (pv 2) (pa_cons (pe_meth (pv 0) (c_Reader T) (m_Reader_thing T) (IH) (hr.mono (by omega)) (B_Reader_thing T) .nil (passes_call (takes_of rfl rfl rfl rfl) (fun _ _ _ _ h => h)) (pa_cons (pv 1) pa_nil)) pa_nil)))
      (pss_cons (ps_if (pt_val (pe_meth (pv 0) (c_Reader T) (m_Reader_sees T) (ok_Reader_sees T) (hr.mono (by omega)) (B_Reader_sees T) .nil pass0 (pa_cons pe_str pa_nil))) (pss_one (ps_break)) pss_nil)
      (pss_cons (ps_if (pt_not (pt_val (pe_meth (pv 0) (c_Reader T) (m_Reader_sees T) (ok_Reader_sees T) (hr.mono (by omega)) (B_Reader_sees T) .nil pass0 (pa_cons pe_str pa_nil)))) (pss_one (ps_expr (pe_meth0 (pv 0) (c_Reader T) (m_Reader_fails T) (ok_Reader_fails T) (hr.mono (by omega)) (B_Reader_fails T) .nil (passes_call (takes_of rfl rfl rfl rfl) (fun _ _ _ _ h => h))))) pss_nil)
      (pss_one (ps_fld (pv 0) (pe_op op_add (pe_fld (pv 0) rfl) pe_int) rfl))))))
      (pss_cons (ps_fld (pv 0) (pe_op op_add (pe_fld (pv 0) rfl) pe_int) rfl)
      (pss_one (ps_ret (pe_callTy callTup rfl (T.fr (T.c.fact 43 rfl)) boot_tuple (pa_cons (pv 2) pa_nil)))))))), ?_⟩)
  · obtain ⟨r, S, h, n, rfl, _⟩ := h; rfl
  · obtain ⟨r, S, h, n, rfl, hnk, _, hR, hl, hh, hop, k1, k2⟩ := h
    have eL : S.length = (TL.tl S).length := Array.length_toList.symm
    have hR' := hR
    obtain ⟨dx, e⟩ := hR
    walk_at "G"
    refine s_ite (fun c => ?_) (fun c => ?_)
    · have hn80 : 80 ≤ n := by omega
      walk_at "G"
      refine mkFld e (c_Reader T) (n_Reader_here T) (by rfl) ?_
      walk_at "G"
      refine R.s_raise2 (x_NoText T).oex (x_NoText T).noF (y_NoText T).noF fun d H1 nd he s => ?_
      refine k2 _ h (by rw [hop]; exact .deep hn80) hop.symm (by omega) d H1 nd (SameB.of s) ?_
      rw [he]
      congr 5
      omega
    · have hn80 : n < 80 := by omega
      obtain ⟨k, rfl⟩ : ∃ j, k = j + 1 := ⟨k - 1, by omega⟩
      walk_at "G"
      refine mkL (by simp) fun L H1 nL eL1 s1 => ?_
      walk_at "J"
      refine s_wmid (fun σ H' => ∃ (hc : Nat) (vs : List V) (ds : List PyData), σ = [some (.ref r), some (.int ((n + 1 : Nat) : Int)), some (.ref L)] ∧ RdAt K H' r S hc ∧ hc < S.length ∧ h < hc ∧ H' L = some (.lst vs) ∧ DaL (fun _ => False) H' vs ds ∧ SameB r H H' ∧
        Th n ((TL.tl S).drop h) (.ok (.tuple ds) ((TL.tl S).drop (hc + 1)))) ?_ fun N J => ?_
      · rintro σ H2 ⟨hc, vs, ds, rfl, hR2, hcl, hch, eL2, hds, s2, ht⟩
        have hR2' := hR2
        obtain ⟨dx2, e2⟩ := hR2
        walk_at "G"
        refine mkFld e2 (c_Reader T) (n_Reader_here T) (by rfl) ?_
        walk_at "G"
        refine mkSFld e2 (c_Reader T) (n_Reader_here T) (by simp) ?_
        have e3 : RdAt K (upd H2 r (.ins (He.ga K "Reader") dx2 (putF "here" (.int ((hc : Int) + 1)) [("text", .str S), ("here", .int (hc : Nat))]))) r S (hc + 1) := ⟨dx2, by rw [upd_same]; rfl⟩
        have s3 : SameB r H2 (upd H2 r (.ins (He.ga K "Reader") dx2 (putF "here" (.int ((hc : Int) + 1)) [("text", .str S), ("here", .int (hc : Nat))]))) := SameB.put
        generalize upd H2 r (.ins (He.ga K "Reader") dx2 (putF "here" (.int ((hc : Int) + 1)) [("text", .str S), ("here", .int (hc : Nat))])) = H3 at e3 s3 ⊢
        have eL3 := hR2'.lst s3 eL2
        have hds3 := hds.rd hR2' s3
        walk_at "G"
        refine s_tupL (SqL.of eL3) fun W nW => ?_
        have s4 : Same H3 (upd H3 W (.tup vs)) := same_upd nW
        have eW : upd H3 W (.tup vs) W = some (.tup vs) := upd_same
        generalize upd H3 W (.tup vs) = H4 at s4 eW ⊢
        exact k1 (.tuple ds) _ _ (hc + 1) H4 ht rfl (by omega) (by omega) (.tup eW (hds3.same s4)) (e3.same s4) (s2.trans (s3.trans (SameB.of s4)))
      · refine s_while (fun σ H' => ∃ (hc : Nat) (vs : List V) (ds : List PyData), σ = [some (.ref r), some (.int ((n + 1 : Nat) : Int)), some (.ref L)] ∧ RdAt K H' r S hc ∧ hc ≤ S.length ∧ h + 1 + ds.length ≤ hc ∧ H' L = some (.lst vs) ∧ DaL (fun _ => False) H' vs ds ∧ SameB r H H' ∧
          (ds = [] → hc = h + 1) ∧ (ds ≠ [] → sees (is1 41) ((TL.tl S).drop (h + 1)) = false) ∧ ∀ o, Ls (n + 1) ((TL.tl S).drop hc) o → Ls (n + 1) ((TL.tl S).drop (h + 1)) (LOut.pre ds o)) (fun σ H' => match H' r with
          | some (.ins _ _ [_, (_, .int i)]) => (S.length + 1 : Nat) - i.toNat
          | _ => 0) ⟨h + 1, [], [], rfl, hR'.same s1, hh, by simp, eL1, .nil, SameB.of s1, fun _ => rfl, fun z => absurd rfl z, fun o ho => by cases o <;> exact ho⟩ ?_
        rintro σ H2 ⟨hc, vs, ds, rfl, hR2, hcl, hch, eL2, hds, s2, hd0, hd1, htr⟩
        have hR2' := hR2
        obtain ⟨dx2, e2⟩ := hR2
        have hvl : vs.length = ds.length := hds.len
        refine s_ct (fun b => b = true ∧ (ds = [] → sees (is1 41) ((TL.tl S).drop (h + 1)) = false) ∨ b = false ∧ ds = [] ∧ sees (is1 41) ((TL.tl S).drop hc) = true) (fun QB' hQ => ?_) ?_
        · walk_at "G"
          refine mkMeth e2 (by rfl) ?_
          walk_at "G"
          refine ⟨r, S, ")", hc, rfl, hR2', hl, ?_⟩
          rw [sees_congr inC]
          cases c : sees (is1 41) ((TL.tl S).drop hc) with
          | false =>
            walk_at "G"
            refine hQ true (.inl ⟨rfl, fun z => ?_⟩)
            rw [← hd0 z]; exact c
          | true =>
            walk_at "G"
            refine s_lenL (SqL.of eL2) ?_
            walk_at "G"
            cases ds with
            | nil =>
              rw [hvl]
              exact hQ _ (.inr ⟨by simp, rfl, c⟩)
            | cons d ds =>
              rw [hvl]
              exact hQ _ (.inl ⟨by simp, fun z => nomatch z⟩)
        rintro b (⟨rfl, hb⟩ | ⟨rfl, hb, hs⟩)
        · have hno : sees (is1 41) ((TL.tl S).drop (h + 1)) = false := by
            by_cases z : ds = []
            · exact hb z
            · exact hd1 z
          have rowOk : ∀ {es : List PyData} {rest : List Nat}, Ls (n + 1) ((TL.tl S).drop (h + 1)) (.ok es rest) → Th n ((TL.tl S).drop h) (.ok (.tuple es) rest) := fun l => by rw [hop]; exact .row hn80 hno l
          have rowNo : ∀ {rest : List Nat}, Ls (n + 1) ((TL.tl S).drop (h + 1)) (.no rest) → Th n ((TL.tl S).drop h) (.no rest) := fun l => by rw [hop]; exact .rowNo hn80 hno l
          walk_at "J"
          refine ⟨s_tyL eL2, ?_⟩
          walk_at "J"
          refine mkMeth e2 (by rfl) ?_
          walk_at "J"
          refine ⟨r, S, hc, n + 1, rfl, by omega, by omega, hR2', hl, hcl, fun d v rest h3 H3 ht hr h31 h32 hv hR3 s3 => ?_, fun rest w ht hr hw => ?_⟩
          · subst hr
            have eL3 := hR2'.lst s3 eL2
            have hds3 := hds.rd hR2' s3
            walk_at "J"
            refine s_append eL3 (by rw [hvl]; omega) ?_
            have hR4 := hR3.upd (o := .lst (vs ++ [v])) eL3
            have eL4 : upd H3 L (.lst (vs ++ [v])) L = some (.lst (vs ++ [v])) := upd_same
            have hds4 : DaL (fun _ => False) (upd H3 L (.lst (vs ++ [v]))) (vs ++ [v]) (ds ++ [d]) := DaL.app (.cons (hv.upd eL3 (fun z => z)) .nil) (hds3.upd eL3 (fun z => z))
            have s4 : SameB r H (upd H3 L (.lst (vs ++ [v]))) := SameB.updn (s2.trans s3) nL
            generalize upd H3 L (.lst (vs ++ [v])) = H4 at hR4 eL4 hds4 s4 ⊢
            have hR4' := hR4
            obtain ⟨dx4, e4⟩ := hR4
            walk_at "G"
            refine mkMeth e4 (by rfl) ?_
            walk_at "G"
            refine ⟨r, S, ")", h3, rfl, hR4', hl, ?_⟩
            rw [sees_congr inC]
            cases c : sees (is1 41) ((TL.tl S).drop h3) with
            | true =>
              obtain ⟨r', er⟩ := sees_cons c
              have e5 : (TL.tl S).drop (h3 + 1) = r' := by rw [drop_tail, er]; rfl
              walk_at "G"
              refine J _ _ ⟨h3, _, ds ++ [d], rfl, hR4', sees_dlen c |> (by omega : _ → _), by omega, eL4, hds4, s4, ?_⟩
              refine rowOk (htr (.ok [d] _) (.last ?_))
              rw [e5, ← er]
              exact ht
            | false =>
              walk_at "G"
              refine mkMeth e4 (by rfl) ?_
              walk_at "G"
              refine ⟨r, S, " ", h3, rfl, hR4', hl, ?_⟩
              rw [sees_congr inB]
              cases c2 : sees (is1 32) ((TL.tl S).drop h3) with
              | false =>
                walk_at "G"
                refine mkMeth e4 (by rfl) ?_
                walk_at "G"
                exact ⟨r, S, h3, rfl, hR4', (k2 _ h3 (rowNo (htr _ (.bad ht c c2))) rfl h32).of hR4' s4⟩
              | true =>
                obtain ⟨r', er⟩ := sees_cons c2
                have e5 : (TL.tl S).drop (h3 + 1) = r' := by rw [drop_tail, er]; rfl
                have hlt3 := sees_dlen c2
                walk_at "G"
                refine mkFld e4 (c_Reader T) (n_Reader_here T) (by rfl) ?_
                walk_at "G"
                refine mkSFld e4 (c_Reader T) (n_Reader_here T) (by simp) ?_
                have e6 : RdAt K (upd H4 r (.ins (He.ga K "Reader") dx4 (putF "here" (.int ((h3 : Int) + 1)) [("text", .str S), ("here", .int (h3 : Nat))]))) r S (h3 + 1) := ⟨dx4, by rw [upd_same]; rfl⟩
                have s6 : SameB r H4 (upd H4 r (.ins (He.ga K "Reader") dx4 (putF "here" (.int ((h3 : Int) + 1)) [("text", .str S), ("here", .int (h3 : Nat))]))) := SameB.put
                have hmu : (match (upd H4 r (.ins (He.ga K "Reader") dx4 (putF "here" (.int ((h3 : Int) + 1)) [("text", .str S), ("here", .int (h3 : Nat))]))) r with
                  | some (.ins _ _ [_, (_, .int i)]) => (S.length + 1 : Nat) - i.toNat
                  | _ => 0) < (match H2 r with
                  | some (.ins _ _ [_, (_, .int i)]) => (S.length + 1 : Nat) - i.toNat
                  | _ => 0) := by
                  rw [upd_same, e2]
                  show S.length + 1 - ((h3 : Int) + 1).toNat < S.length + 1 - (hc : Int).toNat
                  omega
                generalize upd H4 r (.ins (He.ga K "Reader") dx4 (putF "here" (.int ((h3 : Int) + 1)) [("text", .str S), ("here", .int (h3 : Nat))])) = H5 at e6 s6 hmu ⊢
                walk_at "G"
                refine ⟨⟨h3 + 1, _, ds ++ [d], rfl, e6, by omega, by rw [List.length_append]; simp only [List.length_cons, List.length_nil]; omega, hR4'.lst s6 eL4, hds4.rd hR4' s6, s4.trans s6, fun z => absurd z (by simp), fun _ => hno, fun o ho => ?_⟩, hmu⟩
                rw [e5] at ho
                rw [er] at ht
                cases o with
                | ok es r2 => 
                  have := htr _ (.more ht ho)
                  simpa [LOut.pre] using this
                | no r2 => exact htr _ (.moreNo ht ho)
          · exact (k2 rest w (rowNo (htr _ (.no ht))) hr hw).of hR2' s2
        · walk_at "G"
          refine J _ _ ⟨hc, vs, ds, rfl, hR2', ?_, ?_, eL2, hds, s2, ?_⟩
          · have := sees_dlen hs
            omega
          · omega
          · subst hb
            obtain ⟨r', er⟩ := sees_cons hs
            have e1 := hd0 rfl
            subst e1
            have e3 : (TL.tl S).drop (h + 1 + 1) = r' := by rw [drop_tail, er]; rfl
            rw [hop, er, e3]
            exact .nil hn80

open Tx
theorem ok_thingS (T : Txt K mg) {k : Nat} (IH : FnOk P w K mg base (L2.CX P w) (2 * k + 9) (He.ma K (He.ga K "Reader") "row") (fd_Reader_row T) ["self", "deep"] (sp_Reader_row K (k + 1))) : FnOk P w K mg base (L2.CX P w) (2 * k + 10) (He.ma K (He.ga K "Reader") "thing") (fd_Reader_thing T) ["self", "deep"] (sp_Reader_thing K (k + 1)) := by
  refine (F_Reader_thing T).ok sc_Reader_thing (fun vs H Q E h => ?_) (fun cdv A outer s H vs Q E hr h => ⟨_, (pss_cons (ps_if (pt_val (pe_meth (pv 0) (c_Reader T) (m_Reader_sees T) (ok_Reader_sees T) (hr.mono (by omega)) (B_Reader_sees T) .nil pass0 (pa_cons (pe_glob (v := .str "0123456789") rfl (T.str_ok (T.c.fact 55 rfl)).choose_spec ⟨_, rfl⟩) pa_nil))) (pss_one (ps_ret (pe_meth0 (pv 0) (c_Reader T) (m_Reader_number T) (ok_Reader_number T) (hr.mono (by omega)) (B_Reader_number T) .nil (passes_call (takes_of rfl rfl rfl rfl) (fun _ _ _ _ h => h))))) pss_nil)
      (pss_cons (ps_if (pt_val (pe_meth (pv 0) (c_Reader T) (m_Reader_sees T) (ok_Reader_sees T) (hr.mono (by omega)) (B_Reader_sees T) .nil pass0 (pa_cons pe_str pa_nil))) (pss_one (ps_ret (pe_meth0 (pv 0) (c_Reader T) (m_Reader_below T) (ok_Reader_below T) (hr.mono (by omega)) (B_Reader_below T) .nil (passes_call (takes_of rfl rfl rfl rfl) (fun _ _ _ _ h => h))))) pss_nil)
      (pss_cons (ps_if (pt_val (pe_meth (pv 0) (c_Reader T) (m_Reader_sees T) (ok_Reader_sees T) (hr.mono (by omega)) (B_Reader_sees T) .nil pass0 (pa_cons (pe_glob (v := .str "abcdefghijklmnopqrstuvwxyz") rfl (T.str_ok (T.c.fact 56 rfl)).choose_spec ⟨_, rfl⟩) pa_nil))) (pss_one (ps_ret (pe_meth (pv 0) (c_Reader T) (m_Reader_run T) (ok_Reader_run T) (hr.mono (by omega)) (B_Reader_run T) .nil (passes_call (takes_of rfl rfl rfl rfl) (fun _ _ _ _ h => h)) (pa_cons (pe_glob (v := .str "abcdefghijklmnopqrstuvwxyz") rfl (T.str_ok (T.c.fact 56 rfl)).choose_spec ⟨_, rfl⟩) (pa_cons (pe_glob (v := .int 8) rfl (T.int_ok (T.c.fact 53 rfl)).choose_spec ⟨_, rfl⟩) pa_nil))))) pss_nil)
      (pss_cons (ps_if (pt_not (pt_val (pe_meth (pv 0) (c_Reader T) (m_Reader_sees T) (ok_Reader_sees T) (hr.mono (by omega)) (B_Reader_sees T) .nil pass0 (pa_cons pe_str pa_nil)))) (pss_one (ps_expr (pe_meth0 (pv 0) (c_Reader T) (m_Reader_fails T) (ok_Reader_fails T) (hr.mono (by omega)) (B_Reader_fails T) .nil (passes_call (takes_of rfl rfl rfl rfl) (fun _ _ _ _ h => h))))) pss_nil)
      (pss_cons (ps_fld (pv 0) (pe_op op_add (pe_fld (pv 0) rfl) pe_int) rfl)
      (pss_one (ps_ret (pe_meth (pv 0) (c_Reader T) (m_Reader_row T) (IH) (hr.mono (by omega)) (B_Reader_row T) .nil (passes_call (takes_of rfl rfl rfl rfl) (fun _ _ _ _ h => h)) (pa_cons (pe_op op_add (pv 1) pe_int) pa_nil))))))))), ?_⟩)
  · obtain ⟨r, S, h, n, rfl, _⟩ := h; rfl
  · obtain ⟨r, S, h, n, rfl, hnk, _, hR, hl, hh, k1, k2⟩ := h
    have eL : S.length = (TL.tl S).length := Array.length_toList.symm
    have hR' := hR
    obtain ⟨dx, e⟩ := hR
    walk_at "G"
    refine mkMeth e (by rfl) ?_
    walk_at "G"
    refine ⟨r, S, "0123456789", h, rfl, hR', hl, ?_⟩
    rw [sees_congr inF]
    cases c1 : sees isF ((TL.tl S).drop h) with
    | true =>
      have ht := @Th.num n _ c1
      walk_at "G"
      refine mkMeth e (by rfl) ?_
      walk_at "G"
      refine ⟨r, S, h, rfl, hR', hl, c1, fun i rest h' H1 hn hr hh1 hh2 e1 s1 => ?_, fun rest w hn hr hw => ?_⟩
      · rw [hn] at ht
        exact k1 _ _ rest h' H1 ht hr hh1 hh2 (.int i) e1 s1
      · rw [hn] at ht
        exact k2 rest w ht hr hw
    | false =>
      walk_at "G"
      refine mkMeth e (by rfl) ?_
      walk_at "G"
      refine ⟨r, S, "-", h, rfl, hR', hl, ?_⟩
      rw [sees_congr inM]
      cases c2 : sees (is1 45) ((TL.tl S).drop h) with
      | true =>
        obtain ⟨r', er⟩ := sees_cons c2
        have e5 : (TL.tl S).drop (h + 1) = r' := by rw [drop_tail, er]; rfl
        have hlt := sees_dlen c2
        have ht := @Th.neg n r'
        rw [← er, ← e5] at ht
        walk_at "G"
        refine mkMeth e (by rfl) ?_
        walk_at "G"
        refine ⟨r, S, h, rfl, hR', hl, by omega, fun d v rest h' H1 hn hr hh1 hh2 hv e1 s1 => ?_, fun rest w hn hr hw => ?_⟩
        · rw [hn] at ht
          exact k1 _ _ rest h' H1 ht hr hh1 hh2 hv e1 s1
        · rw [hn] at ht
          exact k2 rest w ht hr hw
      | false =>
        walk_at "G"
        refine mkMeth e (by rfl) ?_
        walk_at "G"
        refine ⟨r, S, "abcdefghijklmnopqrstuvwxyz", h, rfl, hR', hl, ?_⟩
        rw [sees_congr inA]
        cases c3 : sees isA ((TL.tl S).drop h) with
        | true =>
          have ht := @Th.word n _ c3
          unfold wordM at ht
          have hwl := tw_le (p := isA) (cs := (TL.tl S).drop h)
          rw [List.length_drop] at hwl
          have hpos : 0 < (((TL.tl S).drop h).takeWhile isA).length := List.length_pos_iff.mpr (tw_ne c3)
          walk_at "G"
          refine mkMeth e (by rfl) ?_
          walk_at "G"
          refine ⟨r, S, "abcdefghijklmnopqrstuvwxyz", h, 8, rfl, hR', hl, hh, fun H1 hm e1 s1 => ?_, fun hm => ?_⟩
          · rw [tw_congr inA] at hm e1 ⊢
            rw [if_pos hm] at ht
            exact k1 _ _ _ _ H1 ht (by rw [← tw_dropw, List.drop_drop]) (by omega) (by omega) (.str _) e1 s1
          · rw [tw_congr inA] at hm
            rw [if_neg (by omega)] at ht
            exact k2 _ (h + 8) ht (by rw [List.drop_drop]) (by omega)
        | false =>
          walk_at "G"
          refine mkMeth e (by rfl) ?_
          walk_at "G"
          refine ⟨r, S, "(", h, rfl, hR', hl, ?_⟩
          rw [sees_congr inO]
          cases c4 : sees (is1 40) ((TL.tl S).drop h) with
          | false =>
            walk_at "G"
            refine mkMeth e (by rfl) ?_
            walk_at "G"
            exact ⟨r, S, h, rfl, hR', k2 _ h (.other c1 c2 c3 c4) rfl hh⟩
          | true =>
            obtain ⟨r', er⟩ := sees_cons c4
            have e5 : (TL.tl S).drop (h + 1) = r' := by rw [drop_tail, er]; rfl
            have hlt := sees_dlen c4
            walk_at "G"
            refine mkFld e (c_Reader T) (n_Reader_here T) (by rfl) ?_
            walk_at "G"
            refine mkSFld e (c_Reader T) (n_Reader_here T) (by simp) ?_
            have e6 : RdAt K (upd H r (.ins (He.ga K "Reader") dx (putF "here" (.int ((h : Int) + 1)) [("text", .str S), ("here", .int (h : Nat))]))) r S (h + 1) := ⟨dx, by rw [upd_same]; rfl⟩
            have s6 : SameB r H (upd H r (.ins (He.ga K "Reader") dx (putF "here" (.int ((h : Int) + 1)) [("text", .str S), ("here", .int (h : Nat))]))) := SameB.put
            generalize upd H r (.ins (He.ga K "Reader") dx (putF "here" (.int ((h : Int) + 1)) [("text", .str S), ("here", .int (h : Nat))])) = H5 at e6 s6 ⊢
            have e6' := e6
            obtain ⟨dx5, e6⟩ := e6
            walk_at "G"
            refine mkMeth e6 (by rfl) ?_
            walk_at "G"
            refine ⟨r, S, h, n, rfl, hnk, by omega, e6', hl, by omega, by rw [er, e5], fun d v rest h' H6 ht hr hh1 hh2 hv e7 s7 => ?_, fun rest w ht hr hw => ?_⟩
            · exact k1 d v rest h' H6 ht hr hh1 hh2 hv e7 (s6.trans s7)
            · exact (k2 rest w ht hr hw).of e6' s6
theorem thing0 (T : Txt K mg) : FnOk P w K mg base (L2.CX P w) (2 * 0 + 8) (He.ma K (He.ga K "Reader") "thing") (fd_Reader_thing T) ["self", "deep"] (sp_Reader_thing K 0) :=
  ⟨fun _ _ _ _ ⟨_, _, _, _, _, _, h, _⟩ => absurd h (by decide), fun _ _ _ _ _ _ _ _ _ _ _ _ _ ⟨_, _, _, _, _, _, h, _⟩ => absurd h (by decide)⟩
theorem thingK (T : Txt K mg) : ∀ k : Nat, FnOk P w K mg base (L2.CX P w) (2 * k + 8) (He.ma K (He.ga K "Reader") "thing") (fd_Reader_thing T) ["self", "deep"] (sp_Reader_thing K k)
  | 0 => thing0 T
  | k + 1 => ok_thingS T (ok_rowS T (thingK T k))
theorem ok_Reader_thing (T : Txt K mg) : FnOk P w K mg base (L2.CX P w) 170 (He.ma K (He.ga K "Reader") "thing") (fd_Reader_thing T) ["self", "deep"] (sp_Reader_thing K 81) := thingK T 81
/-- a text is no thing's: where -/
def RdNo (cs : List Nat) (w : Nat) : Prop := w ≤ cs.length ∧ (Th 0 cs (.no (cs.drop w)) ∨ ∃ d, Th 0 cs (.ok d (cs.drop w)) ∧ w < cs.length)
/-- read(text) -/
def sp_read (K : PySem.W.Frag) : Sp := fun vs H Q E => ∃ S : Str, vs = [.str S] ∧ S.length ≤ sizeLine ∧
  (∀ (d : PyData) (v : V) H', Th 0 (TL.tl S) (.ok d []) → Tu H' v d → Same H H' → Q v H') ∧
  (∀ w d H', RdNo (TL.tl S) w → H d = none → Same H H' → H' d = some (.xd [("word", .int (w : Nat)), ("line", .int 0)]) → E (.ref (He.ga K "NoText")) (some d) H')
theorem ok_read (T : Txt K mg) : FnOk P w K mg base (L2.CX P w) 171 (He.ga K "read") (fd_read T) ["text"] (sp_read K) := by
  refine (F_read T).ok sc_read (fun vs H Q E h => ?_) (fun cdv A outer s H vs Q E hr h => ⟨_, (pss_cons (ps_set (i := 1) sc_read.nd rfl (Or.inl rfl) (pe_make (mk_Reader T) (ok_Reader___init__ T) (hr.mono (by decide)) rfl (g_Reader T) (B_Reader___init__ T) .nil pass0 (pa_cons (pv 0) pa_nil)))
      (pss_cons (ps_set (i := 2) sc_read.nd rfl (Or.inl rfl) (pe_meth (pv 1) (c_Reader T) (m_Reader_thing T) (ok_Reader_thing T) (hr.mono (by decide)) (B_Reader_thing T) .nil (passes_call (takes_of rfl rfl rfl rfl) (fun _ _ _ _ h => h)) (pa_cons pe_int pa_nil)))
      (pss_cons (ps_if (pt_cmpR op_lt (pe_fld (pv 1) rfl) (pe_callB call_len_str rfl (T.fr (T.c.fact 41 rfl)) boot_len (pa_cons (pv 0) pa_nil)) (nomark _)) (pss_one (ps_expr (pe_meth0 (pv 1) (c_Reader T) (m_Reader_fails T) (ok_Reader_fails T) (hr.mono (by decide)) (B_Reader_fails T) .nil (passes_call (takes_of rfl rfl rfl rfl) (fun _ _ _ _ h => h))))) pss_nil)
      (pss_one (ps_ret (pv 2)))))), ?_⟩)
  · obtain ⟨S, rfl, _⟩ := h; rfl
  · obtain ⟨S, rfl, hl, k1, k2⟩ := h
    have eL : S.length = (TL.tl S).length := Array.length_toList.symm
    walk_at "G"
    refine mkReader fun r H1 nr hR s1 => ?_
    have hR' := hR
    obtain ⟨dx, e⟩ := hR
    have full : ∀ {H2 : Hp}, SameB r H1 H2 → Same H H2 := fun s => s.same nr s1
    have err : ∀ (H2 : Hp) (h : Nat), RdAt K H2 r S h → SameB r H1 H2 → ∀ w, RdNo (TL.tl S) w → NoTB K H2 r (w : Int) (fun c d H' => E c d H') := fun H2 h hR2 s2 w hw d H3 nd s3 e3 => k2 w d H3 hw (by
      cases c : H d with
      | none => rfl
      | some o =>
        have := full s2 d o c
        rw [nd] at this; cases this) (full (s2.trans s3)) e3
    walk_at "G"
    refine mkMeth e (by rfl) ?_
    walk_at "G"
    refine ⟨r, S, 0, 0, rfl, rfl, by decide, hR', hl, Nat.zero_le _, fun d v rest h' H2 ht hr hh1 hh2 hv hR2 s2 => ?_, fun rest w ht hr hw => ?_⟩
    · rw [List.drop_zero] at ht
      subst hr
      have hR2' := hR2
      obtain ⟨dx2, e2⟩ := hR2
      walk_at "G"
      refine mkFld e2 (c_Reader T) (n_Reader_here T) (by rfl) ?_
      walk_at "G"
      refine ⟨S, rfl, hl, ?_⟩
      walk_at "G"
      refine s_ite (fun c => ?_) (fun c => ?_)
      · walk_at "G"
        refine mkMeth e2 (by rfl) ?_
        walk_at "G"
        exact ⟨r, S, h', rfl, hR2', err H2 h' hR2' s2 h' ⟨by omega, .inr ⟨d, ht, by omega⟩⟩⟩
      · walk_at "G"
        rw [List.drop_eq_nil_of_le (by omega)] at ht
        exact k1 d v H2 ht hv (full s2)
    · rw [List.drop_zero] at ht
      subst hr
      exact err H1 0 hR' (SameB.refl _ _) w ⟨by omega, .inl ht⟩

open Tx
theorem s_isNs {H : Hp} {Q : VK} {x : Str} (h : Q (.bl false) H) : L2.rIsN (.str x) .non H Q := ⟨rfl, by rw [decide_eq_false (by intro z; cases z)]; exact h⟩
def isStr : PyData → Bool
  | .str _ => true
  | _ => false
theorem kb_ss : kitB "str" "str" = some true := by decide +kernel
theorem kb_ns : kitB "NoneType" "str" = some false := by decide +kernel
theorem kb_is : kitB "int" "str" = some false := by decide +kernel
theorem kb_bs : kitB "bool" "str" = some false := by decide +kernel
theorem kb_ls : kitB "list" "str" = some false := by decide +kernel
theorem kb_ts : kitB "tuple" "str" = some false := by decide +kernel
theorem s_isiStr {K : PySem.W.Frag} {F : Addr → Prop} {H : Hp} {Q : VK} {v : V} {d : PyData} (h : DaF F H v d) (q : Q (.bl (isStr d)) H) : rIsi K [v, .ty "str"] H Q := by
  cases h with
  | non => exact s_isi .non kb_ns q
  | bl b => exact s_isi (.bl b) kb_bs q
  | int i => exact s_isi (.int i) kb_is q
  | str x => exact s_isi (.str x) kb_ss q
  | lst e _ => exact s_isi (.lst e) kb_ls q
  | tup e _ => exact s_isi (.tup e) kb_ts q
/-- isinstance(thing, (tuple, list)) -/
theorem s_isiTL {K : PySem.W.Frag} {F : Addr → Prop} {H : Hp} {Q : VK} {v : V} {d : PyData} {tp : Addr} (ht : H tp = some (.tup [.ty "tuple", .ty "list"])) (h : DaF F H v d) (q : Q (.bl (isTup d || isLst d)) H) : rIsiT K [v, .ref tp] H Q := by
  cases h with
  | non => exact s_isiT2 ht .non kb_nt kb_nl q
  | bl b => exact s_isiT2 ht (.bl b) kb_bt kb_bl q
  | int i => exact s_isiT2 ht (.int i) kb_it kb_il q
  | str x => exact s_isiT2 ht (.str x) kb_st kb_sl q
  | lst e _ => exact s_isiT2 ht (.lst e) kb_lt kb_ll q
  | tup e _ => exact s_isiT2 ht (.tup e) kb_tt kb_tl q
/-- a list or a tuple of things, shown -/
theorem int_txt (i : Int) : (toString i : Str) = ⟨(intL i).toArray⟩ := TL.ext_tl (by rw [tl_int])
theorem tl_mk (l : List Nat) : TL.tl ⟨l.toArray⟩ = l := rfl
theorem row_txt (ys : List Str) (ds : List PyData) (h : ys = (txts ds).map SX.S) : ((("(" : Str) ++ Txt.join " " ys) ++ (")" : Str)) = SX.S (rowL ds) := by
  refine TL.ext_tl ?_
  have e1 : TL.tl ("(" : Str) = [40] := by decide +kernel
  have e2 : TL.tl (")" : Str) = [41] := by decide +kernel
  have e3 : TL.tl (" " : Str) = [32] := by decide +kernel
  rw [TL.tl_append, TL.tl_append, TL.join_eq, TL.tl_join, e1, e2, e3, h, SX.map_S_tl]
  show [40] ++ _ ++ [41] = rowL ds
  simp [rowL]
theorem S_lenT (l : List Nat) : (SX.S l).length = l.length := SX.S_len l

open Tx
/-- _law_written(thing), fewer than k deep -/
def sp__law_written (k : Nat) : Sp := fun vs H Q _ => ∃ (v : V) (d : PyData) (n : Nat), vs = [v] ∧ n < k ∧ Da H v d ∧ Shw n d ∧ (txt d).length ≤ 16000000 ∧ ∀ H', Same H H' → Q (.str (SX.S (txt d))) H'
theorem ok_writtenS (T : Txt K mg) {k : Nat} (IH : FnOk P w K mg base CX0 (k + 1) (He.ga K "_law_written") (fd__law_written T) ["_law_thing_here"] (sp__law_written k)) : FnOk P w K mg base CX0 (k + 2) (He.ga K "_law_written") (fd__law_written T) ["_law_thing_here"] (sp__law_written (k + 1)) := by
  refine (F__law_written T).ok sc__law_written (fun vs H Q E h => ?_) (fun cdv A outer s H vs Q E hr h => ⟨_, PSs.nox (pss_cons (ps_if (pt_cmpR op_isN1 (pv 0) pe_non (nomark _)) (pss_one (ps_ret pe_str)) pss_nil)
      (pss_cons (ps_if (pt_val (pe_callB call_isi rfl (T.fr (T.c.fact 45 rfl)) boot_isinstance (pa_cons (pv 0) (pa_cons (pe_bltn (v := .ty "str") rfl (T.fr (T.c.fact 46 rfl)) boot_str rfl) pa_nil)))) (pss_one (ps_ret (pv 0))) pss_nil)
      (pss_cons (ps_if (PW.pt (pw_or (pt_val (pe_callB call_isi rfl (T.fr (T.c.fact 45 rfl)) boot_isinstance (pa_cons (pv 0) (pa_cons (pe_bltn (v := .ty "tuple") rfl (T.fr (T.c.fact 43 rfl)) boot_tuple rfl) pa_nil)))) (pw_or1 (pt_val (pe_callB call_isi rfl (T.fr (T.c.fact 45 rfl)) boot_isinstance (pa_cons (pv 0) (pa_cons (pe_bltn (v := .ty "list") rfl (T.fr (T.c.fact 47 rfl)) boot_list rfl) pa_nil))))))) (pss_one (ps_ret (pe_op op_add_str (pe_op op_add_str pe_str (pe_join pe_str (pe_lc (own := [("_law_one", 1)]) (tt := tYes) rfl sc__law_written.nd (R.pi_any (pv 0)) (blkOk_by (N := N__law_written) (sc := defScope s__law_written) (by decide +kernel)) (fun _ _ _ _ _ => (pg_name (i := 1) sc__law_written.nd rfl (Or.inl rfl))) (fun _ _ _ _ _ => pts_nil) (fun _ _ _ _ _ => (pe_call (IH) (hr.mono (by omega)) rfl (g__law_written T) (kp__law_written T) (B__law_written T) .nil pass0 (pa_cons (pv 1) pa_nil)))))) pe_str))) pss_nil)
      (pss_one (ps_ret (pe_callTy call_str_int rfl (T.fr (T.c.fact 46 rfl)) boot_str (pa_cons (pv 0) pa_nil))))))), ?_⟩)
  · obtain ⟨v, d, n, rfl, _⟩ := h; rfl
  · obtain ⟨v, d, n, rfl, hn, hv, hs, hl, k1⟩ := h
    by_cases hr : (isTup d || isLst d) = true
    · obtain ⟨m, ds, a, xs, rfl, hds, rfl, ea, hdl, et, es⟩ : ∃ m ds a xs, n = m + 1 ∧ (∀ d ∈ ds, Shw m d) ∧ v = .ref a ∧ (H a = some (.lst xs) ∨ H a = some (.tup xs)) ∧ DaL (fun _ => True) H xs ds ∧ txt d = rowL ds ∧ isStr d = false := by
        cases hs with
        | lst hds => cases hv with
          | lst e h f => exact ⟨_, _, _, _, rfl, hds, rfl, .inl e, h, rfl, rfl⟩
        | tup hds => cases hv with
          | tup e h => exact ⟨_, _, _, _, rfl, hds, rfl, .inr e, h, rfl, rfl⟩
        | non => cases hr
        | int _ => cases hr
        | str _ => cases hr
      rw [et] at hl k1
      have hxl := hdl.len
      have hct := @row_count ds
      walk_at "G"
      refine s_isiStr hv ?_
      rw [es]
      walk_at "h"
      refine s_if ?_
      refine s_ct (fun b => b = true) (fun QB' hQ => ?_) ?_
      · walk_at "G"
        refine s_isiTup hv ?_
        cases ct : isTup d with
        | true =>
          walk_at "G"
          exact hQ _ rfl
        | false =>
          rw [ct, Bool.false_or] at hr
          walk_at "G"
          refine s_isiLst hv ?_
          rw [hr]
          walk_at "G"
          exact hQ _ rfl
      rintro b rfl
      have s1 : Same H H := Same.refl _
      walk_at "G"
      refine ⟨⟨_, rfl⟩, ?_⟩
      refine R.s_lcAny (xs := xs) rfl (ea.imp (fun e H' s' => SqL.of (s' _ _ (s1 _ _ e))) fun e H' s' => SqT.of (s' _ _ (s1 _ _ e))) (fun D i H' => Same H H' ∧ H D = none ∧ H' D = some (.lst ((((txts ds).take i).map SX.S).map V.str))) (fun D i H' h => h.1) (fun D nD => ⟨same_upd nD, nD, by rw [upd_same]; simp⟩) ?_ ?_
      · rintro D i x H2 hx ⟨s2, nD, eD⟩
        obtain ⟨d', hd', hda⟩ := hdl.get hx
        have hmem := List.mem_of_getElem? hd'
        have hil : i < ds.length := (List.getElem?_eq_some_iff.mp hd').1
        have hrm := row_mem hmem
        walk_at "G"
        refine ⟨rfl, ?_⟩
        walk_at "G"
        refine ⟨x, d', m, rfl, by omega, hda.same (s1.trans s2), hds d' hmem, by omega, fun H3 s3 => ⟨_, s3 _ _ eD, ?_, same_upd' (s2.trans s3) nD, nD, ?_⟩⟩
        · rw [List.length_map, List.length_map, List.length_take, txts_len, sizeLine_eq]; omega
        · rw [upd_same, take_more (x := txt d') (by rw [txts_map, List.getElem?_map, hd']; rfl), List.map_append, List.map_append]; rfl
      · rintro D H2 ⟨s2, nD, eD⟩
        rw [List.take_of_length_le (by rw [txts_len]; omega)] at eD
        refine ⟨_, D, (txts ds).map SX.S, rfl, rfl, .inl (SqL.of eD), ?_, ?_⟩
        · have := @row_sum ds
          rw [SX.lens, List.length_map, txts_len]
          show _ + ds.length * (Str.length " ") ≤ _
          rw [show Str.length " " = 1 by decide +kernel]
          omega
        · have hjl : (TL.joinL [32] (txts ds)).length + 2 ≤ 16000000 := by rw [rowL_len] at hl; exact hl
          have e3 : TL.tl (" " : Str) = [32] := by decide +kernel
          have ej : Txt.join " " ((txts ds).map SX.S) = SX.S (TL.joinL [32] (txts ds)) := TL.ext_tl (by rw [TL.join_eq, TL.tl_join, e3, SX.map_S_tl])
          have l1 : Str.length "(" = 1 := by decide +kernel
          have l2 : Str.length ")" = 1 := by decide +kernel
          have lj : (Txt.join " " ((txts ds).map SX.S)).length = (TL.joinL [32] (txts ds)).length := by rw [ej]; exact SX.S_len _
          refine ⟨_, _, rfl, rfl, by rw [lj, l1, sizeLine_eq]; omega, _, _, rfl, rfl, ?_, ?_⟩
          · show ((SX.S [40]) ++ Txt.join " " ((txts ds).map SX.S)).length + Str.length ")" ≤ sizeLine
            rw [ej, SX.S_cat, SX.S_len, l2, sizeLine_eq]
            simp only [List.length_append, List.length_cons, List.length_nil]
            omega
          · have er := row_txt _ ds rfl
            show Q (.str _) H2
            rw [er]
            exact k1 H2 (s1.trans s2)
    · cases hs with
      | non =>
        cases hv
        walk_at "G"
        exact k1 H (Same.refl _)
      | str x =>
        cases hv
        walk_at "G"
        refine s_isNs ?_
        walk_at "G"
        refine s_isi (.str x) kb_ss ?_
        walk_at "G"
        exact k1 H (Same.refl _)
      | @int _ i hi =>
        cases hv
        walk_at "G"
        refine s_isi (.int i) kb_is ?_
        walk_at "G"
        refine s_isiTup (.int i : Da H (.int i) (.int i)) ?_
        rw [show isTup (.int i) = false from rfl]
        walk_at "G"
        refine s_isiLst (.int i : Da H (.int i) (.int i)) ?_
        rw [show isLst (.int i) = false from rfl]
        walk_at "G"
        refine ⟨i, rfl, Nat.lt_of_lt_of_le (PySem.Flt.log2_lt_of (by decide) hi) (by decide), ?_⟩
        rw [int_txt]
        exact k1 H (Same.refl _)
      | lst _ => exact absurd rfl hr
      | tup _ => exact absurd rfl hr
theorem written0 (T : Txt K mg) : FnOk P w K mg base CX0 1 (He.ga K "_law_written") (fd__law_written T) ["_law_thing_here"] (sp__law_written 0) :=
  ⟨fun _ _ _ _ ⟨_, _, _, _, h, _⟩ => absurd h (by omega), fun _ _ _ _ _ _ _ _ _ _ _ _ _ ⟨_, _, _, _, h, _⟩ => absurd h (by omega)⟩
theorem writtenK (T : Txt K mg) : ∀ k : Nat, FnOk P w K mg base CX0 (k + 1) (He.ga K "_law_written") (fd__law_written T) ["_law_thing_here"] (sp__law_written k)
  | 0 => written0 T
  | k + 1 => ok_writtenS T (writtenK T k)
theorem ok__law_written (T : Txt K mg) : FnOk P w K mg base CX0 91 (He.ga K "_law_written") (fd__law_written T) ["_law_thing_here"] (sp__law_written 90) := writtenK T 90

/-- n deep at most, rows not too long -/
inductive Nst : Nat → PyData → Prop
  | atom {n : Nat} {d : PyData} (h1 : isTup d = false) (h2 : isLst d = false) : Nst n d
  | lst {n : Nat} {ds : List PyData} (l : ds.length ≤ 16000000) (h : ∀ d ∈ ds, Nst n d) : Nst (n + 1) (.list ds)
  | tup {n : Nat} {ds : List PyData} (l : ds.length ≤ 16000000) (h : ∀ d ∈ ds, Nst n d) : Nst (n + 1) (.tuple ds)
theorem s_eqAtom {F G : Addr → Prop} {H : Hp} {Q : VK} {x y : V} {d : PyData} (h1 : isTup d = false) (h2 : isLst d = false) (hx : DaF F H x d) (hy : DaF G H y d) (q : Q (.bl true) H) : rEq x y H Q := by
  cases hx with
  | non => cases hy; exact ⟨rfl, by simpa using q⟩
  | bl b => cases hy; exact ⟨rfl, by simpa using q⟩
  | int i => cases hy; exact ⟨rfl, by simpa using q⟩
  | str z => cases hy; exact ⟨rfl, by simpa using q⟩
  | lst _ _ _ => cases h2
  | tup _ _ => cases h1
/-- _law_same(found, due) of the same thing twice, fewer than k deep -/
def sp__law_same (k : Nat) : Sp := fun vs H Q _ => ∃ (x y : V) (d : PyData) (n : Nat), vs = [x, y] ∧ n < k ∧ Da H x d ∧ Da H y d ∧ Nst n d ∧ ∀ H', Same H H' → Q (.bl true) H'
theorem ok_sameS (T : Txt K mg) {k : Nat} (IH : FnOk P w K mg base CX0 (k + 1) (He.ga K "_law_same") (fd__law_same T) ["_law_found", "_law_due"] (sp__law_same k)) : FnOk P w K mg base CX0 (k + 2) (He.ga K "_law_same") (fd__law_same T) ["_law_found", "_law_due"] (sp__law_same (k + 1)) := by
  refine (F__law_same T).ok sc__law_same (fun vs H Q E h => ?_) (fun cdv A outer s H vs Q E hr h => ⟨_, PSs.nox (pss_cons (ps_if (PW.pt (pw_or (pt_val (pe_callB call_isi rfl (T.fr (T.c.fact 45 rfl)) boot_isinstance (pa_cons (pv 1) (pa_cons (pe_bltn (v := .ty "tuple") rfl (T.fr (T.c.fact 43 rfl)) boot_tuple rfl) pa_nil)))) (pw_or1 (pt_val (pe_callB call_isi rfl (T.fr (T.c.fact 45 rfl)) boot_isinstance (pa_cons (pv 1) (pa_cons (pe_bltn (v := .ty "list") rfl (T.fr (T.c.fact 47 rfl)) boot_list rfl) pa_nil))))))) (pss_cons (ps_if (PW.pt (pw_or (pt_cmpR op_ne (pe_callB call_isi rfl (T.fr (T.c.fact 45 rfl)) boot_isinstance (pa_cons (pv 0) (pa_cons (pe_bltn (v := .ty "tuple") rfl (T.fr (T.c.fact 43 rfl)) boot_tuple rfl) pa_nil))) (pe_callB call_isi rfl (T.fr (T.c.fact 45 rfl)) boot_isinstance (pa_cons (pv 1) (pa_cons (pe_bltn (v := .ty "tuple") rfl (T.fr (T.c.fact 43 rfl)) boot_tuple rfl) pa_nil))) (nomark _)) (pw_or1 (pt_cmpR op_ne (pe_callB call_isi rfl (T.fr (T.c.fact 45 rfl)) boot_isinstance (pa_cons (pv 0) (pa_cons (pe_bltn (v := .ty "list") rfl (T.fr (T.c.fact 47 rfl)) boot_list rfl) pa_nil))) (pe_callB call_isi rfl (T.fr (T.c.fact 45 rfl)) boot_isinstance (pa_cons (pv 1) (pa_cons (pe_bltn (v := .ty "list") rfl (T.fr (T.c.fact 47 rfl)) boot_list rfl) pa_nil))) (nomark _))))) (pss_one (ps_ret pe_bl)) pss_nil)
      (pss_one (ps_ret (pe_and (pe_cmpR op_eq (pe_callB callLen rfl (T.fr (T.c.fact 41 rfl)) boot_len (pa_cons (pv 0) pa_nil)) (pe_callB callLen rfl (T.fr (T.c.fact 41 rfl)) boot_len (pa_cons (pv 1) pa_nil)) (nomark _)) (pe_one (pe_callB (cr_all rfl) rfl (T.fr (T.c.fact 48 rfl)) boot_all (pa_cons (pe_lc (own := [("_law_one", 2), ("_law_other", 3)]) (tt := tYes) (g := gTup K 2 (gCons (gName 2) (gCons (gName 3) gNil))) rfl sc__law_same.nd (RZ.pi_zipA rfl (T.fr (T.c.fact 50 rfl)) (pa_cons (pv 0) (pa_cons (pv 1) pa_nil))) (blkOk_by (N := N__law_same) (sc := defScope s__law_same) (by decide +kernel)) (fun _ _ _ _ _ => (pg_tup rfl (pgs_cons (pg_name (i := 2) sc__law_same.nd rfl (Or.inl rfl)) (pgs_cons (pg_name (i := 3) sc__law_same.nd rfl (Or.inl rfl)) pgs_nil)))) (fun _ _ _ _ _ => pts_nil) (fun _ _ _ _ _ => (pe_call (IH) (hr.mono (by omega)) rfl (g__law_same T) (kp__law_same T) (B__law_same T) .nil pass0 (pa_cons (pv 2) (pa_cons (pv 3) pa_nil))))) pa_nil))))))) pss_nil)
      (pss_one (ps_ret (pe_and (pe_cmpR op_eq (pe_callB call_isi rfl (T.fr (T.c.fact 45 rfl)) boot_isinstance (pa_cons (pv 0) (pa_cons (pe_bltn (v := .ty "bool") rfl (T.fr (T.c.fact 49 rfl)) boot_bool rfl) pa_nil))) (pe_callB call_isi rfl (T.fr (T.c.fact 45 rfl)) boot_isinstance (pa_cons (pv 1) (pa_cons (pe_bltn (v := .ty "bool") rfl (T.fr (T.c.fact 49 rfl)) boot_bool rfl) pa_nil))) (nomark _)) (pe_one (pe_cmpR op_eq (pv 0) (pv 1) (nomark _))))))), ?_⟩)
  · obtain ⟨x, y, d, n, rfl, _⟩ := h; rfl
  · obtain ⟨x, y, d, n, rfl, hn, hx, hy, hs, k1⟩ := h
    cases hs with
    | atom h1 h2 =>
      walk_at "g"
      refine s_isiTup hy ?_
      rw [h1]
      walk_at "g"
      refine s_isiLst hy ?_
      rw [h2]
      walk_at "g"
      refine s_isiBool hx ?_
      walk_at "g"
      refine s_isiBool hy ?_
      walk_at "g"
      try refine s_itP rfl ?_
      walk_at "g"
      exact s_eqAtom h1 h2 hx hy (k1 H (Same.refl _))
    | @tup m ds hdl hds =>
      cases hx with
      | @tup p xs _ ep hxs =>
      cases hy with
      | @tup q ys _ eq hys =>
      have hxl := hxs.len
      have hyl := hys.len
      walk_at "g"
      refine s_isi (.tup eq) kb_tt ?_
      walk_at "g"
      refine s_isi (.tup ep) kb_tt ?_
      walk_at "g"
      refine s_isi (.tup eq) kb_tt ?_
      walk_at "g"
      refine s_isi (.tup ep) kb_tl ?_
      walk_at "g"
      refine s_isi (.tup eq) kb_tl ?_
      walk_at "g"
      refine s_lenT (SqT.of ep) ?_
      walk_at "g"
      refine s_lenT (SqT.of eq) ?_
      walk_at "g"
      refine s_itP (by omega) ?_
      walk_at "g"
      refine s_lc ?_
      walk_at "g"
      refine ⟨p, q, xs, ys, rfl, .inr ⟨SqT.of ep, SqT.of eq, fun D hD => ?_⟩⟩
      refine lc_it (walk_zipT (xs := xs) (ys := ys) (n := xs.length) (by omega)) (fun i H3 => Same H H3 ∧ H3 D = some (.lst ((List.replicate i true).map V.bl))) ⟨same_upd hD, upd_same⟩ (fun i H3 _ I => ⟨SqT.of (I.1 _ _ ep), SqT.of (I.1 _ _ eq)⟩) ?_ ?_
      · rintro i x H3 H4 hi ⟨s3, hb⟩ ⟨T2, x1, y1, rfl, nT, rfl, hx, hy⟩
        obtain ⟨d1, hd1, hdd⟩ := hxs.get hx
        obtain ⟨e1, he1, hee⟩ := hys.get hy
        rw [hd1] at he1
        cases he1
        have S4 : Same H3 (upd H3 T2 (.tup [x1, y1])) := same_upd nT
        have e4 : upd H3 T2 (.tup [x1, y1]) T2 = some (.tup [x1, y1]) := upd_same
        generalize upd H3 T2 (.tup [x1, y1]) = H4 at S4 e4 ⊢
        have hil : i < xs.length := (List.getElem?_eq_some_iff.mp hx).1
        refine s_gtup (SqT.of e4) rfl ?_
        walk_at "g"
        refine ⟨rfl, ?_⟩
        walk_at "g"
        refine ⟨x1, y1, d1, m, rfl, by omega, hdd.same (s3.trans S4), hee.same (s3.trans S4), hds d1 (List.mem_of_getElem? hd1), fun H5 s5 => ?_⟩
        refine ⟨_, s5 _ _ (S4 _ _ hb), by rw [List.length_map, List.length_replicate, sizeLine_eq]; omega, same_upd' (s3.trans (S4.trans s5)) hD, ?_⟩
        rw [upd_same, List.replicate_succ', List.map_append]; rfl
      · rintro H3 ⟨s3, hb⟩
        refine ⟨D, _, rfl, SqL.of hb, ?_⟩
        rw [show ((List.replicate xs.length true).all id) = true by simp]
        exact k1 H3 s3
    | @lst m ds hdl hds =>
      cases hx with
      | @lst p xs _ ep hxs _ =>
      cases hy with
      | @lst q ys _ eq hys _ =>
      have hxl := hxs.len
      have hyl := hys.len
      walk_at "g"
      refine s_isi (.lst eq) kb_lt ?_
      walk_at "g"
      refine s_isi (.lst eq) kb_ll ?_
      walk_at "g"
      refine s_isi (.lst ep) kb_lt ?_
      walk_at "g"
      refine s_isi (.lst eq) kb_lt ?_
      walk_at "g"
      refine s_isi (.lst ep) kb_ll ?_
      walk_at "g"
      refine s_isi (.lst eq) kb_ll ?_
      walk_at "g"
      refine s_lenL (SqL.of ep) ?_
      walk_at "g"
      refine s_lenL (SqL.of eq) ?_
      walk_at "g"
      refine s_itP (by omega) ?_
      walk_at "g"
      refine s_lc ?_
      walk_at "g"
      refine ⟨p, q, xs, ys, rfl, .inl ⟨SqL.of ep, SqL.of eq, fun D hD => ?_⟩⟩
      refine lc_it (walk_zip (xs := xs) (ys := ys) (n := xs.length) (by omega)) (fun i H3 => Same H H3 ∧ H3 D = some (.lst ((List.replicate i true).map V.bl))) ⟨same_upd hD, upd_same⟩ (fun i H3 _ I => ⟨SqL.of (I.1 _ _ ep), SqL.of (I.1 _ _ eq)⟩) ?_ ?_
      · rintro i x H3 H4 hi ⟨s3, hb⟩ ⟨T2, x1, y1, rfl, nT, rfl, hx, hy⟩
        obtain ⟨d1, hd1, hdd⟩ := hxs.get hx
        obtain ⟨e1, he1, hee⟩ := hys.get hy
        rw [hd1] at he1
        cases he1
        have S4 : Same H3 (upd H3 T2 (.tup [x1, y1])) := same_upd nT
        have e4 : upd H3 T2 (.tup [x1, y1]) T2 = some (.tup [x1, y1]) := upd_same
        generalize upd H3 T2 (.tup [x1, y1]) = H4 at S4 e4 ⊢
        have hil : i < xs.length := (List.getElem?_eq_some_iff.mp hx).1
        refine s_gtup (SqT.of e4) rfl ?_
        walk_at "g"
        refine ⟨rfl, ?_⟩
        walk_at "g"
        refine ⟨x1, y1, d1, m, rfl, by omega, hdd.same (s3.trans S4), hee.same (s3.trans S4), hds d1 (List.mem_of_getElem? hd1), fun H5 s5 => ?_⟩
        refine ⟨_, s5 _ _ (S4 _ _ hb), by rw [List.length_map, List.length_replicate, sizeLine_eq]; omega, same_upd' (s3.trans (S4.trans s5)) hD, ?_⟩
        rw [upd_same, List.replicate_succ', List.map_append]; rfl
      · rintro H3 ⟨s3, hb⟩
        refine ⟨D, _, rfl, SqL.of hb, ?_⟩
        rw [show ((List.replicate xs.length true).all id) = true by simp]
        exact k1 H3 s3
theorem same0 (T : Txt K mg) : FnOk P w K mg base CX0 1 (He.ga K "_law_same") (fd__law_same T) ["_law_found", "_law_due"] (sp__law_same 0) :=
  ⟨fun _ _ _ _ ⟨_, _, _, _, _, h, _⟩ => absurd h (by omega), fun _ _ _ _ _ _ _ _ _ _ _ _ _ ⟨_, _, _, _, _, h, _⟩ => absurd h (by omega)⟩
theorem sameK (T : Txt K mg) : ∀ k : Nat, FnOk P w K mg base CX0 (k + 1) (He.ga K "_law_same") (fd__law_same T) ["_law_found", "_law_due"] (sp__law_same k)
  | 0 => same0 T
  | k + 1 => ok_sameS T (sameK T k)
theorem ok__law_same (T : Txt K mg) : FnOk P w K mg base CX0 91 (He.ga K "_law_same") (fd__law_same T) ["_law_found", "_law_due"] (sp__law_same 90) := sameK T 90
theorem Nst.mono : ∀ {n m : Nat} {d : PyData}, Nst n d → n ≤ m → Nst m d := by
  intro n m d h
  induction h generalizing m with
  | atom h1 h2 => intro _; exact .atom h1 h2
  | lst l _ ih =>
    intro e
    obtain ⟨k, rfl⟩ : ∃ k, m = k + 1 := ⟨m - 1, by omega⟩
    exact .lst l fun d hd => ih d hd (by omega)
  | tup l _ ih =>
    intro e
    obtain ⟨k, rfl⟩ : ∃ k, m = k + 1 := ⟨m - 1, by omega⟩
    exact .tup l fun d hd => ih d hd (by omega)

mutual
theorem DaF.stay {F : Addr → Prop} {H H' : Hp} (kt : ∀ b r, H b = some (.tup r) → H' b = some (.tup r)) (kl : ∀ b r, H b = some (.lst r) → H' b = some (.lst r)) : ∀ {v : V} {d : PyData}, DaF F H v d → DaF F H' v d
  | _, _, .non => .non
  | _, _, .bl b => .bl b
  | _, _, .int i => .int i
  | _, _, .str x => .str x
  | _, _, .lst e h f => .lst (kl _ _ e) (DaL.stay kt kl h) f
  | _, _, .tup e h => .tup (kt _ _ e) (DaL.stay kt kl h)
theorem DaL.stay {F : Addr → Prop} {H H' : Hp} (kt : ∀ b r, H b = some (.tup r) → H' b = some (.tup r)) (kl : ∀ b r, H b = some (.lst r) → H' b = some (.lst r)) : ∀ {vs : List V} {ds : List PyData}, DaL F H vs ds → DaL F H' vs ds
  | _, _, .nil => .nil
  | _, _, .cons h t => .cons (DaF.stay kt kl h) (DaL.stay kt kl t)
end
theorem TpQ.ns {H : Hp} {s q b : Addr} {n : Nat} (h : TpQ H s q n) (e : H b = none) : b ≠ s ∧ b ≠ q := by
  obtain ⟨cs, spot, left, h1, h2, _⟩ := h
  exact ⟨fun z => (by rw [z, h1] at e; cases e), fun z => (by rw [z, h2] at e; cases e)⟩
theorem TpQ.nl {H : Hp} {s q b : Addr} {n : Nat} {xs : List V} (h : TpQ H s q n) (e : H b = some (.lst xs)) : b ≠ s := by
  obtain ⟨cs, spot, left, h1, _⟩ := h
  exact fun z => by rw [z, h1] at e; cases e
theorem TpQ.nt {H : Hp} {s q b : Addr} {n : Nat} {xs : List V} (h : TpQ H s q n) (e : H b = some (.tup xs)) : b ≠ s := by
  obtain ⟨cs, spot, left, h1, _⟩ := h
  exact fun z => by rw [z, h1] at e; cases e
theorem DaF.tq {F : Addr → Prop} {H H' : Hp} {s q : Addr} {n : Nat} {v : V} {d : PyData} (h : DaF F H v d) (st : TpQ H s q n) (sb : SameB s H H') : DaF F H' v d := h.stay (fun _ _ e => sb _ _ (st.nt e) e) fun _ _ e => sb _ _ (st.nl e) e
theorem DaL.tq {F : Addr → Prop} {H H' : Hp} {s q : Addr} {n : Nat} {vs : List V} {ds : List PyData} (h : DaL F H vs ds) (st : TpQ H s q n) (sb : SameB s H H') : DaL F H' vs ds := h.stay (fun _ _ e => sb _ _ (st.nt e) e) fun _ _ e => sb _ _ (st.nl e) e
theorem TpQ.updL {H : Hp} {s q L : Addr} {n : Nat} {xs : List V} {o : HO} (h : TpQ H s q n) (e : H L = some (.lst xs)) (ne : L ≠ q) : TpQ (upd H L o) s q n := by
  have hs := h.nl e
  exact h.fr (fun o2 z => by rw [upd_ne (Ne.symm hs)]; exact z) fun o2 z => by rw [upd_ne (Ne.symm ne)]; exact z
theorem TpQ.fresh {H H' : Hp} {s q a : Addr} {n m : Nat} (h : TpQ H s q n) (sb : SameB s H H') (t : TpQ H' s q m) (e : H' a = none) : H a = none := by
  cases c : H a with
  | none => rfl
  | some o =>
    have := sb a o (t.ns e).1 c
    rw [e] at this; cases this

open Tx
/-- _law_letters(tape): a word of one to eight small letters -/
def sp__law_letters : Sp := fun vs H Q _ => ∃ (s q : Addr) (n : Nat), vs = [.ref s] ∧ 9 ≤ n ∧ TpQ H s q n ∧ ∀ (z : Str) H', (∀ c ∈ TL.tl z, isA c = true) → TL.tl z ≠ [] → (TL.tl z).length ≤ 8 → TpQ H' s q (n - 9) → SameB s H H' → Q (.str z) H'
theorem ok__law_letters (T : Txt K mg) : FnOk P w K mg base CX0 2 (He.ga K "_law_letters") (fd__law_letters T) ["_law_tape_here"] sp__law_letters := by
  refine (F__law_letters T).ok sc__law_letters (fun vs H Q E h => ?_) (fun cdv A outer s H vs Q E hr h => ⟨_, PSs.nox (pss_cons (ps_set (i := 1) sc__law_letters.nd rfl (Or.inl rfl) pe_str)
      (pss_cons (ps_for PassesOwn.never rfl (pi_range1 rfl (T.fr (T.c.fact 44 rfl)) (pa_cons (pe_op op_add pe_int (pe_call (ok__law_draw T) (hr.mono (by decide)) rfl (g__law_draw T) (kp__law_draw T) (B__law_draw T) .nil pass0 (pa_cons (pv 0) (pa_cons pe_int pa_nil)))) pa_nil)) (pg_name (i := 2) sc__law_letters.nd rfl (Or.inl rfl)) (pss_one (ps_set (i := 1) sc__law_letters.nd rfl (Or.inl rfl) (pe_op op_add_str (pv 1) (pe_ix ix_str pe_str (pe_call (ok__law_draw T) (hr.mono (by decide)) rfl (g__law_draw T) (kp__law_draw T) (B__law_draw T) .nil pass0 (pa_cons (pv 0) (pa_cons pe_int pa_nil))) (fun _ _ => rfl))))))
      (pss_one (ps_ret (pv 1))))), ?_⟩)
  · obtain ⟨s, q, n, rfl, _⟩ := h; rfl
  · obtain ⟨s, q, n, rfl, hn, ht, k⟩ := h
    have el : TL.tl ("" : Str) = [] := by decide +kernel
    have ea : ("abcdefghijklmnopqrstuvwxyz" : Str).cps.toList.length = 26 := by decide +kernel
    have ez : ("abcdefghijklmnopqrstuvwxyz" : Str).length = 26 := by decide +kernel
    walk_at "g"
    refine ⟨s, q, 8, n, rfl, by decide, by decide, by omega, ht, fun y H1 y0 y1 t1 s1 => ?_⟩
    walk_at "g"
    refine mkR1 (1 + y).toNat rfl (by omega) (by omega) ?_
    refine for_range (n := (1 + y).toNat) (fun i σ H' => SameB s H H' ∧ TpQ H' s q (n - 1 - i) ∧ ∃ (z : Str) (v : Option V), σ = [some (.ref s), some (.str z), v] ∧ (∀ c ∈ TL.tl z, isA c = true) ∧ (TL.tl z).length = i) ⟨s1, t1, _, _, rfl, by rw [el]; simp, by rw [el]; rfl⟩ ?_ ?_
    · rintro i σ H' hi ⟨s2, t2, z, v, rfl, hz, hl⟩
      walk_at "g"
      refine ⟨s, q, 26, n - 1 - i, rfl, by decide, by decide, by omega, t2, fun x H2 x0 x1 t3 s3 => ?_⟩
      obtain ⟨x, rfl⟩ := Int.eq_ofNat_of_zero_le x0
      have hx : x < ("abcdefghijklmnopqrstuvwxyz" : Str).cps.toList.length := by omega
      refine ⟨_, (x : Int), ("abcdefghijklmnopqrstuvwxyz" : Str).cps.toList[x], rfl, rfl, by rw [ez, sizeLine_eq]; decide, atI0 x rfl (List.getElem?_eq_getElem hx), ?_⟩
      have hc : isA (("abcdefghijklmnopqrstuvwxyz" : Str).cps.toList[x]) = true := by
        rw [← inA]
        exact decide_eq_true (List.getElem_mem hx)
      generalize ("abcdefghijklmnopqrstuvwxyz" : Str).cps.toList[x] = c at hc ⊢
      have zl : z.length = i := by rw [← hl]; exact Array.length_toList.symm
      refine ⟨z, ⟨#[c]⟩, rfl, rfl, by rw [zl, sizeLine_eq]; show i + 1 ≤ _; omega, ?_⟩
      have e1 : TL.tl (z ++ (⟨#[c]⟩ : Str)) = TL.tl z ++ [c] := TL.tl_append _ _
      walk_at "g"
      refine ⟨s2.trans s3, by rw [show n - 1 - (i + 1) = n - 1 - i - 1 by omega]; exact t3, _, _, rfl, ?_, ?_⟩
      · rw [e1]
        intro d hd
        rcases List.mem_append.mp hd with z1 | z1
        · exact hz d z1
        · rw [List.mem_singleton.mp z1]; exact hc
      · rw [e1, List.length_append, hl]; rfl
    · rintro σ H' ⟨s2, t2, z, v, rfl, hz, hl⟩
      walk_at "g"
      exact k z H' hz (fun e => by rw [e] at hl; simp at hl; omega) (by omega) (t2.mono (by omega)) s2
/-- a leaf -/
def Leaf (v : V) (d : PyData) : Prop := (∀ (F : Addr → Prop) (H : Hp), DaF F H v d) ∧ Gd 0 d ∧ isTup d = false ∧ isLst d = false ∧ (txt d).length ≤ 61
theorem leaf_int {i : Int} (h : i.natAbs < 10 ^ 60) : Leaf (.int i) (.int i) := ⟨fun _ _ => .int i, .int h, rfl, rfl, by
  have h1 := TL.numL_len (n := i.natAbs) (k := 60) (by decide) h
  show (intL i).length ≤ 61
  unfold intL
  split
  · rw [List.length_cons]; omega
  · omega⟩
/-- _law_leaf(tape) -/
def sp__law_leaf : Sp := fun vs H Q _ => ∃ (s q : Addr) (n : Nat), vs = [.ref s] ∧ 10 ≤ n ∧ TpQ H s q n ∧ ∀ (v : V) (d : PyData) H', Leaf v d → TpQ H' s q (n - 10) → SameB s H H' → Q v H'
theorem ok__law_leaf (T : Txt K mg) : FnOk P w K mg base CX0 3 (He.ga K "_law_leaf") (fd__law_leaf T) ["_law_tape_here"] sp__law_leaf := by
  refine (F__law_leaf T).ok sc__law_leaf (fun vs H Q E h => ?_) (fun cdv A outer s H vs Q E hr h => ⟨_, PSs.nox (pss_cons (ps_set (i := 1) sc__law_leaf.nd rfl (Or.inl rfl) (pe_call (ok__law_draw T) (hr.mono (by decide)) rfl (g__law_draw T) (kp__law_draw T) (B__law_draw T) .nil pass0 (pa_cons (pv 0) (pa_cons pe_int pa_nil))))
      (pss_cons (ps_if (pt_cmpR op_eq (pv 1) pe_int (nomark _)) (pss_one (ps_ret pe_non)) pss_nil)
      (pss_cons (ps_if (pt_cmpR op_eq (pv 1) pe_int (nomark _)) (pss_one (ps_ret (pe_call (ok__law_letters T) (hr.mono (by decide)) rfl (g__law_letters T) (kp__law_letters T) (B__law_letters T) .nil pass0 (pa_cons (pv 0) pa_nil)))) pss_nil)
      (pss_cons (ps_if (pt_cmpR op_eq (pv 1) pe_int (nomark _)) (pss_one (ps_ret (pe_op op_sub (pe_op op_sub (pe_op op_pow pe_int pe_int) pe_int) (pe_call (ok__law_draw T) (hr.mono (by decide)) rfl (g__law_draw T) (kp__law_draw T) (B__law_draw T) .nil pass0 (pa_cons (pv 0) (pa_cons pe_int pa_nil)))))) pss_nil)
      (pss_cons (ps_if (pt_cmpR op_eq (pv 1) pe_int (nomark _)) (pss_one (ps_ret (pe_op op_add (pe_op op_sub pe_int (pe_op op_pow pe_int pe_int)) (pe_call (ok__law_draw T) (hr.mono (by decide)) rfl (g__law_draw T) (kp__law_draw T) (B__law_draw T) .nil pass0 (pa_cons (pv 0) (pa_cons pe_int pa_nil)))))) pss_nil)
      (pss_one (ps_ret (pe_op op_sub (pe_call (ok__law_draw T) (hr.mono (by decide)) rfl (g__law_draw T) (kp__law_draw T) (B__law_draw T) .nil pass0 (pa_cons (pv 0) (pa_cons pe_int pa_nil))) pe_int)))))))), ?_⟩)
  · obtain ⟨s, q, n, rfl, _⟩ := h; rfl
  · obtain ⟨s, q, n, rfl, hn, ht, k⟩ := h
    walk_at "g"
    refine ⟨s, q, 8, n, rfl, by decide, by decide, by omega, ht, fun y H1 y0 y1 t1 s1 => ?_⟩
    walk_at "g"
    refine s_ite (fun _ => ?_) (fun _ => ?_)
    · walk_at "g"
      exact k .non .none H1 ⟨fun _ _ => .non, .non, rfl, rfl, by simp [txt]⟩ (t1.mono (by omega)) s1
    walk_at "g"
    refine s_ite (fun _ => ?_) (fun _ => ?_)
    · walk_at "g"
      refine ⟨s, q, n - 1, rfl, by omega, t1, fun z H2 h1 h2 h3 t2 s2 => ?_⟩
      exact k _ (.str z) H2 ⟨fun _ _ => .str z, .str h1 h2 h3, rfl, rfl, by show (TL.tl z).length ≤ 61; omega⟩ (t2.mono (by omega)) (s1.trans s2)
    walk_at "g"
    refine s_ite (fun _ => ?_) (fun _ => ?_)
    · walk_at "g"
      refine ⟨s, q, 3, n - 1, rfl, by decide, by decide, by omega, t1, fun y H2 y0 y1 t2 s2 => ?_⟩
      walk_at "g"
      exact k _ _ H2 (leaf_int (by omega)) (t2.mono (by omega)) (s1.trans s2)
    walk_at "g"
    refine s_ite (fun _ => ?_) (fun _ => ?_)
    · walk_at "g"
      refine ⟨s, q, 3, n - 1, rfl, by decide, by decide, by omega, t1, fun y H2 y0 y1 t2 s2 => ?_⟩
      walk_at "g"
      exact k _ _ H2 (leaf_int (by omega)) (t2.mono (by omega)) (s1.trans s2)
    walk_at "g"
    refine ⟨s, q, 2001, n - 1, rfl, by decide, by decide, by omega, t1, fun y H2 y0 y1 t2 s2 => ?_⟩
    walk_at "g"
    exact k _ _ H2 (leaf_int (by omega)) (t2.mono (by omega)) (s1.trans s2)
def cost : Nat → Nat
  | 0 => 10
  | k + 1 => 4 * cost k + 13
def wid : Nat → Nat
  | 0 => 61
  | k + 1 => 4 * wid k + 6
theorem cost_pos (k : Nat) : 10 ≤ cost k := by cases k <;> simp [cost] <;> omega
theorem wid_pos (k : Nat) : 61 ≤ wid k := by
  induction k with
  | zero => simp [wid]
  | succ k ih => simp only [wid]; omega
theorem row_le {ds : List PyData} {m w : Nat} (h : ∀ d ∈ ds, (txt d).length ≤ w) (hl : ds.length ≤ m) : (rowL ds).length ≤ m * w + m + 2 := by
  rw [rowL_len]
  have h1 : ((txts ds).map (·.length)).sum ≤ ds.length * w := by
    rw [txts_map]
    clear hl
    induction ds with
    | nil => simp
    | cons d ds ih =>
      have := h d (by simp)
      have := ih fun e he => h e (by simp [he])
      simp only [List.map_cons, List.sum_cons, List.length_cons, Nat.add_mul, Nat.one_mul]
      omega
  have h2 := Nat.mul_le_mul_right w hl
  cases ds with
  | nil => simp [txts, TL.joinL]
  | cons d ds =>
    have := joinL_len (ls := txts (d :: ds)) (by simp [txts])
    rw [txts_len] at this
    omega
/-- _law_thing(tape, deep) -/
def sp__law_thing (k : Nat) : Sp := fun vs H Q _ => ∃ (s q : Addr) (n j : Nat), vs = [.ref s, .int (j : Nat)] ∧ j < k ∧ cost j ≤ n ∧ TpQ H s q n ∧ ∀ (v : V) (d : PyData) H', DaF (fun a => H a = none) H' v d → Gd j d → (txt d).length ≤ wid j → TpQ H' s q (n - cost j) → SameB s H H' → Q v H'
theorem ok_thgS (T : Txt K mg) {k : Nat} (IH : FnOk P w K mg base CX0 (k + 10) (He.ga K "_law_thing") (fd__law_thing T) ["_law_tape_here", "_law_deep"] (sp__law_thing k)) : FnOk P w K mg base CX0 (k + 11) (He.ga K "_law_thing") (fd__law_thing T) ["_law_tape_here", "_law_deep"] (sp__law_thing (k + 1)) := by
  refine (F__law_thing T).ok sc__law_thing (fun vs H Q E h => ?_) (fun cdv A outer s H vs Q E hr h => ⟨_, PSs.nox (pss_cons (ps_if (PW.pt (pw_or (pt_cmpR op_eq (pv 1) pe_int (nomark _)) (pw_or1 (pt_cmpR op_eq (pe_call (ok__law_draw T) (hr.mono (by omega)) rfl (g__law_draw T) (kp__law_draw T) (B__law_draw T) .nil pass0 (pa_cons (pv 0) (pa_cons pe_int pa_nil))) pe_int (nomark _))))) (pss_one (ps_ret (pe_call (ok__law_leaf T) (hr.mono (by omega)) rfl (g__law_leaf T) (kp__law_leaf T) (B__law_leaf T) .nil pass0 (pa_cons (pv 0) pa_nil)))) pss_nil)
      (pss_cons (ps_set (i := 2) sc__law_thing.nd rfl (Or.inl rfl) (pe_lst pa_nil))
      (pss_cons (ps_for PassesOwn.never rfl (pi_range1 rfl (T.fr (T.c.fact 44 rfl)) (pa_cons (pe_call (ok__law_draw T) (hr.mono (by omega)) rfl (g__law_draw T) (kp__law_draw T) (B__law_draw T) .nil pass0 (pa_cons (pv 0) (pa_cons pe_int pa_nil))) pa_nil)) (pg_name (i := 3) sc__law_thing.nd rfl (Or.inl rfl)) (pss_one (ps_expr (pe_bm PySem.F.plainAttrs_list PySem.F.slot_list_append PySem.F.type_list_append mt_append (pv 2) (pa_cons (pe_call (IH) (hr.mono (by omega)) rfl (g__law_thing T) (kp__law_thing T) (B__law_thing T) .nil pass0 (pa_cons (pv 0) (pa_cons (pe_op op_sub (pv 1) pe_int) pa_nil))) pa_nil)))))
      (pss_one (ps_ret (pe_ifExp (pt_cmpR op_eq (pe_call (ok__law_draw T) (hr.mono (by omega)) rfl (g__law_draw T) (kp__law_draw T) (B__law_draw T) .nil pass0 (pa_cons (pv 0) (pa_cons pe_int pa_nil))) pe_int (nomark _)) (pv 2) (pe_callTy callTup rfl (T.fr (T.c.fact 43 rfl)) boot_tuple (pa_cons (pv 2) pa_nil)))))))), ?_⟩)
  · obtain ⟨s, q, n, j, rfl, _⟩ := h; rfl
  · obtain ⟨s, q, n, j, rfl, hj, hc, ht, k1⟩ := h
    have hcp := cost_pos j
    have leaf : ∀ (H1 : Hp) (m : Nat), TpQ H1 s q m → n - 1 ≤ m + 0 → 10 ≤ m → SameB s H H1 → (0 < j ∨ m = n) → sp__law_leaf [.ref s] H1 Q (fun _ _ _ => False) := fun H1 m t1 hm h10 s1 hjm => by
      refine ⟨s, q, m, rfl, h10, t1, fun v d H2 hl t2 s2 => ?_⟩
      refine k1 v d H2 (hl.1 _ _) (hl.2.1.mono (Nat.zero_le _)) (Nat.le_trans hl.2.2.2.2 (wid_pos j)) (t2.mono ?_) (s1.trans s2)
      · rcases hjm with z | z
        · obtain ⟨i, rfl⟩ : ∃ i, j = i + 1 := ⟨j - 1, by omega⟩
          have := cost_pos i
          simp only [cost]; omega
        · omega
    walk_at "g"
    refine s_ite (fun c => ?_) (fun c => ?_)
    · walk_at "g"
      exact leaf H n ht (by omega) (by omega) (SameB.refl _ _) (.inr rfl)
    obtain ⟨i, rfl⟩ : ∃ i, j = i + 1 := ⟨j - 1, by omega⟩
    have hci := cost_pos i
    simp only [cost] at hc k1
    walk_at "g"
    refine ⟨s, q, 3, n, rfl, by decide, by decide, by omega, ht, fun y H1 y0 y1 t1 s1 => ?_⟩
    walk_at "g"
    refine s_ite (fun _ => ?_) (fun _ => ?_)
    · walk_at "g"
      exact leaf H1 (n - 1) t1 (by omega) (by omega) s1 (.inl (by omega))
    walk_at "g"
    refine mkL (by simp) fun L H2 nL eL s2 => ?_
    have nLH : H L = none := ht.fresh s1 t1 nL
    have nLs : L ≠ s := (t1.ns nL).1
    have nLq : L ≠ q := (t1.ns nL).2
    walk_at "g"
    refine ⟨s, q, 5, n - 1, rfl, by decide, by decide, by omega, t1.same s2, fun y2 H3 y20 y21 t3 s3 => ?_⟩
    have S3 : SameB s H H3 := s1.trans ((SameB.of s2).trans s3)
    walk_at "g"
    refine mkR1 y2.toNat rfl (by omega) (by omega) ?_
    refine for_range (n := y2.toNat) (fun r σ H' => SameB s H H' ∧ TpQ H' s q (n - 2 - r * cost i) ∧ ∃ (ws : List V) (ds : List PyData) (v : Option V), σ = [some (.ref s), some (.int ((i + 1 : Nat) : Int)), some (.ref L), v] ∧ H' L = some (.lst ws) ∧ DaL (fun a => H a = none ∧ a ≠ L) H' ws ds ∧ (∀ d ∈ ds, Gd i d ∧ (txt d).length ≤ wid i) ∧ ds.length = r) ⟨S3, t3.mono (by omega), [], [], _, rfl, s3 _ _ nLs eL, .nil, (by simp), rfl⟩ ?_ ?_
    · rintro r σ H4 hr ⟨s4, t4, ws, ds, v, rfl, eL4, hds, hdd, hdl⟩
      have hr4 : r ≤ 3 := by omega
      have hrc : (r + 1) * cost i ≤ 4 * cost i := Nat.mul_le_mul_right _ (by omega)
      rw [Nat.add_mul, Nat.one_mul] at hrc
      walk_at "g"
      refine ⟨s_tyL eL4, ?_⟩
      walk_at "g"
      refine ⟨s, q, n - 2 - r * cost i, i, by rw [show ((i + 1 : Nat) : Int) - 1 = (i : Int) by omega]; rfl, by omega, by omega, t4, fun v' d H5 hv hg hw t5 s5 => ?_⟩
      have eL5 := s5 _ _ nLs eL4
      walk_at "g"
      refine s_append eL5 (by rw [hds.len, sizeLine_eq]; omega) ?_
      walk_at "g"
      have hds5 : DaL (fun a => H a = none ∧ a ≠ L) H5 ws ds := hds.tq t4 s5
      have hv5 : DaF (fun a => H a = none ∧ a ≠ L) H5 v' d := hv.mono fun a e => ⟨ht.fresh s4 t4 e, fun z => by rw [z, eL4] at e; cases e⟩
      refine ⟨SameB.updn (s4.trans s5) nLH, (t5.mono (by rw [Nat.add_mul]; omega)).updL eL5 nLq, _, _, _, rfl, upd_same, DaL.app (.cons (hv5.upd eL5 (fun z => z.2 rfl)) .nil) (hds5.upd eL5 (fun z => z.2 rfl)), ?_, by rw [List.length_append, hdl]; rfl⟩
      intro e he
      rcases List.mem_append.mp he with z1 | z1
      · exact hdd e z1
      · rw [List.mem_singleton.mp z1]; exact ⟨hg, hw⟩
    · rintro σ H4 ⟨s4, t4, ws, ds, v, rfl, eL4, hds, hdd, hdl⟩
      have hr4 : y2.toNat ≤ 4 := by omega
      have hrc : y2.toNat * cost i ≤ 4 * cost i := Nat.mul_le_mul_right _ hr4
      have hrow := row_le (m := 4) (fun d hd => (hdd d hd).2) (by omega)
      walk_at "g"
      refine ⟨s, q, 4, n - 2 - y2.toNat * cost i, rfl, by decide, by decide, by omega, t4, fun y3 H5 y30 y31 t5 s5 => ?_⟩
      have eL5 := s5 _ _ nLs eL4
      have hds5 : DaL (fun a => H a = none ∧ a ≠ L) H5 ws ds := hds.tq t4 s5
      walk_at "g"
      refine s_ite (fun _ => ?_) (fun _ => ?_)
      · walk_at "g"
        exact k1 _ (.list ds) H5 (.lst eL5 (hds5.mono fun a e => e.1) nLH) (.lst fun d hd => (hdd d hd).1) (by show (rowL ds).length ≤ _; simp only [wid]; omega) (t5.mono (by omega)) (s4.trans s5)
      · walk_at "g"
        refine s_tupL (SqL.of eL5) fun W nW => ?_
        have s6 : Same H5 (upd H5 W (.tup ws)) := same_upd nW
        have eW : upd H5 W (.tup ws) W = some (.tup ws) := upd_same
        exact k1 _ (.tuple ds) _ (.tup eW ((hds5.mono fun a e => e.1).same s6)) (.tup fun d hd => (hdd d hd).1) (by show (rowL ds).length ≤ _; simp only [wid]; omega) ((t5.mono (by omega)).same s6) ((s4.trans s5).trans (SameB.of s6))
theorem thg0 (T : Txt K mg) : FnOk P w K mg base CX0 10 (He.ga K "_law_thing") (fd__law_thing T) ["_law_tape_here", "_law_deep"] (sp__law_thing 0) :=
  ⟨fun _ _ _ _ ⟨_, _, _, _, h, _⟩ => absurd h (by omega), fun _ _ _ _ _ _ _ _ _ _ _ _ _ ⟨_, _, _, _, h, _⟩ => absurd h (by omega)⟩
theorem ok__law_thing (T : Txt K mg) : FnOk P w K mg base CX0 15 (He.ga K "_law_thing") (fd__law_thing T) ["_law_tape_here", "_law_deep"] (sp__law_thing 5) := ok_thgS T (ok_thgS T (ok_thgS T (ok_thgS T (ok_thgS T (thg0 T)))))

open Tx
theorem gd_nst {n : Nat} {d : PyData} (h : Gd n d) (l : (txt d).length ≤ 16000000) : Nst n d := by
  induction h with
  | non => exact .atom rfl rfl
  | int h => exact .atom rfl rfl
  | str h h1 h8 => exact .atom rfl rfl
  | @lst n ds h ih =>
    have l : (rowL ds).length ≤ 16000000 := l
    exact .lst (Nat.le_trans row_count l) fun d hd => ih d hd (Nat.le_trans (row_mem hd) l)
  | @tup n ds h ih =>
    have l : (rowL ds).length ≤ 16000000 := l
    exact .tup (Nat.le_trans row_count l) fun d hd => ih d hd (Nat.le_trans (row_mem hd) l)
theorem leaf_sh {d : PyData} (h : Gd 0 d) : SeqAt.shaped d = true := by
  cases h with
  | non => rfl
  | int h => rfl
  | @str _ x h _ _ =>
    have : PyData.strOk x = true := by
      unfold PyData.strOk
      rw [← Array.all_toList, List.all_eq_true]
      intro c hc
      have := isA_iff.mp (h c hc)
      exact decide_eq_true (by omega)
    exact (Bd.str (n := 1) x this).shaped (by decide)
theorem leaf_eqv {d : PyData} (h : isTup d = false) : PyData.eqv d (.tuple []) = false := by
  cases d <;> first | rfl | (simp [PyData.eqv]; done) | cases h
theorem s_joinE {te : TE} {σ : L2.St} {H : Hp} {Q : VK} (P : V → Hp → Prop) (h1 : ∀ v H', P v H' → Q v H') (h2 : ∀ Q' : VK, (∀ v H', P v H' → Q' v H') → te σ H Q') : te σ H Q := h2 Q h1
/-- _law_deep_thing(tape) -/
def sp__law_deep_thing : Sp := fun vs H Q _ => ∃ (s q : Addr) (n : Nat), vs = [.ref s] ∧ 5000 ≤ n ∧ TpQ H s q n ∧ ∀ (v : V) (d : PyData) H', Da H' v d → Gd 80 d → (txt d).length ≤ 20000 → TpQ H' s q (n - 5000) → SameB s H H' → Q v H'
theorem ok__law_deep_thing (T : Txt K mg) : FnOk P w K mg base CX0 16 (He.ga K "_law_deep_thing") (fd__law_deep_thing T) ["_law_tape_here"] sp__law_deep_thing := by
  refine (F__law_deep_thing T).ok sc__law_deep_thing (fun vs H Q E h => ?_) (fun cdv A outer s H vs Q E hr h => ⟨_, PSs.nox (pss_cons (ps_set (i := 1) sc__law_deep_thing.nd rfl (Or.inl rfl) (pe_call (ok__law_thing T) (hr.mono (by decide)) rfl (g__law_thing T) (kp__law_thing T) (B__law_thing T) .nil pass0 (pa_cons (pv 0) (pa_cons (pe_op op_add pe_int (pe_call (ok__law_draw T) (hr.mono (by decide)) rfl (g__law_draw T) (kp__law_draw T) (B__law_draw T) .nil pass0 (pa_cons (pv 0) (pa_cons pe_int pa_nil)))) pa_nil))))
      (pss_cons (ps_if (pt_cmpR op_eq (pe_call (ok__law_draw T) (hr.mono (by decide)) rfl (g__law_draw T) (kp__law_draw T) (B__law_draw T) .nil pass0 (pa_cons (pv 0) (pa_cons pe_int pa_nil))) pe_int (nomark _)) (pss_cons (ps_set (i := 2) sc__law_deep_thing.nd rfl (Or.inl rfl) (pe_op op_add pe_int (pe_call (ok__law_draw T) (hr.mono (by decide)) rfl (g__law_draw T) (kp__law_draw T) (B__law_draw T) .nil pass0 (pa_cons (pv 0) (pa_cons pe_int pa_nil)))))
      (pss_cons (ps_set (i := 1) sc__law_deep_thing.nd rfl (Or.inl rfl) (pe_ifExp (pt_cmpR op_gt (pe_call (ok__law_draw T) (hr.mono (by decide)) rfl (g__law_draw T) (kp__law_draw T) (B__law_draw T) .nil pass0 (pa_cons (pv 0) (pa_cons pe_int pa_nil))) pe_int (nomark _)) (pe_call (ok__law_leaf T) (hr.mono (by decide)) rfl (g__law_leaf T) (kp__law_leaf T) (B__law_leaf T) .nil pass0 (pa_cons (pv 0) pa_nil)) (pe_tup pa_nil)))
      (pss_one (ps_for PassesOwn.never rfl (pi_range1 rfl (T.fr (T.c.fact 44 rfl)) (pa_cons (pe_op op_sub (pv 2) (pe_callTy callInt1 rfl (T.fr (T.c.fact 42 rfl)) boot_int (pa_cons (pe_cmpR (op_eqD hr.units) (pv 1) (pe_tup pa_nil) (nomark _)) pa_nil))) pa_nil)) (pg_name (i := 3) sc__law_deep_thing.nd rfl (Or.inl rfl)) (pss_one (ps_set (i := 1) sc__law_deep_thing.nd rfl (Or.inl rfl) (pe_ifExp (pt_cmpR op_eq (pe_call (ok__law_draw T) (hr.mono (by decide)) rfl (g__law_draw T) (kp__law_draw T) (B__law_draw T) .nil pass0 (pa_cons (pv 0) (pa_cons pe_int pa_nil))) pe_int (nomark _)) (pe_tup (pa_cons (pv 1) pa_nil)) (pe_tup (pa_cons (pe_call (ok__law_draw T) (hr.mono (by decide)) rfl (g__law_draw T) (kp__law_draw T) (B__law_draw T) .nil pass0 (pa_cons (pv 0) (pa_cons pe_int pa_nil))) (pa_cons (pv 1) pa_nil)))))))))) pss_nil)
      (pss_one (ps_ret (pv 1))))), ?_⟩)
  · obtain ⟨s, q, n, rfl, _⟩ := h; rfl
  · obtain ⟨s, q, n, rfl, hn, ht, k⟩ := h
    have c4 : ∀ j, j ≤ 4 → cost j ≤ 3665 ∧ wid j ≤ 17000 := fun j hj => by
      have : j = 0 ∨ j = 1 ∨ j = 2 ∨ j = 3 ∨ j = 4 := by omega
      rcases this with rfl | rfl | rfl | rfl | rfl <;> decide
    walk_at "g"
    refine ⟨s, q, 4, n, rfl, by decide, by decide, by omega, ht, fun y H1 y0 y1 t1 s1 => ?_⟩
    obtain ⟨y, rfl⟩ := Int.eq_ofNat_of_zero_le y0
    obtain ⟨cj, wj⟩ := c4 (1 + y) (by omega)
    walk_at "g"
    refine ⟨s, q, n - 1, 1 + y, by push_cast; rfl, by omega, by omega, t1, fun v d H2 hv hg hw t2 s2 => ?_⟩
    walk_at "g"
    refine ⟨s, q, 4, n - 1 - cost (1 + y), rfl, by decide, by decide, by omega, t2, fun y2 H3 y20 y21 t3 s3 => ?_⟩
    have hv3 := hv.tq t2 s3
    have S3 := s1.trans (s2.trans s3)
    walk_at "g"
    refine s_ite (fun _ => ?_) (fun _ => ?_)
    · walk_at "g"
      refine ⟨s, q, 5, n - 1 - cost (1 + y) - 1, rfl, by decide, by decide, by omega, t3, fun x H4 x0 x1 t4 s4 => ?_⟩
      obtain ⟨x, rfl⟩ := Int.eq_ofNat_of_zero_le x0
      with_reducible refine s_i0 ?_
      walk_at "c"
      with_reducible refine s_asg ?_
      refine s_joinE (fun v0 H6 => ∃ (d0 : PyData) (b : Nat), Da H6 v0 d0 ∧ Gd b d0 ∧ (txt d0).length ≤ 61 ∧ TpQ H6 s q (n - 4000) ∧ SameB s H H6 ∧ SeqAt.shaped d0 = true ∧ (b = 0 ∧ PyData.eqv d0 (.tuple []) = false ∨ b = 1 ∧ PyData.eqv d0 (.tuple []) = true)) ?_ fun Q' hQ => ?_
      case refine_2 =>
        walk_at "g"
        refine ⟨s, q, 3, n - 1 - cost (1 + y) - 1 - 1, rfl, by decide, by decide, by omega, t4, fun x2 H5 x20 x21 t5 s5 => ?_⟩
        have S5 := S3.trans (s4.trans s5)
        walk_at "g"
        refine s_ite (fun _ => ?_) (fun _ => ?_)
        · refine s_call ?_
          walk_at "g"
          refine ⟨s, q, _, rfl, by omega, t5, fun v0 d0 H6 hl t6 s6 => ?_⟩
          exact hQ v0 H6 ⟨d0, 0, hl.1 _ _, hl.2.1, hl.2.2.2.2, t6.mono (by omega), S5.trans s6, leaf_sh hl.2.1, .inl ⟨rfl, leaf_eqv hl.2.2.1⟩⟩
        · walk_at "g"
          refine mkT (by simp) fun W H6 nW eW s6 => ?_
          exact hQ _ H6 ⟨.tuple [], 1, .tup eW .nil, .tup (by simp), by decide, (t5.same s6).mono (by omega), S5.trans (SameB.of s6), rfl, .inr ⟨rfl, rfl⟩⟩
      rintro v0 H6 ⟨d0, b, hv0, hg0, hw0, t6, S6, sh0, hb⟩
      walk_at "g"
      refine mkT (by simp) fun W H7 nW eW s7 => ?_
      refine s_eqD d0 (.tuple []) ((hv0.same s7).dp K) ((DaF.tup eW .nil : Da H7 _ _).dp K) sh0 rfl ?_
      walk_at "g"
      obtain ⟨m, hm, hbm⟩ : ∃ m : Nat, ((76 : Int) + x) - (if PyData.eqv d0 (.tuple []) = true then 1 else 0) = m ∧ b + m ≤ 80 := by
        rcases hb with ⟨rfl, hb⟩ | ⟨rfl, hb⟩
        · exact ⟨76 + x, by rw [hb, if_neg Bool.false_ne_true]; omega, by omega⟩
        · exact ⟨75 + x, by rw [hb, if_pos rfl]; omega, by omega⟩
      rw [hm]
      refine mkR1 m (by omega) (by omega) (by omega) ?_
      refine for_range (n := m) (fun i σ H' => SameB s H H' ∧ TpQ H' s q (n - 4000 - 2 * i) ∧ ∃ (v1 : V) (d1 : PyData) (r : Option V), σ = [some (.ref s), some v1, some (.int (76 + x)), r] ∧ Da H' v1 d1 ∧ Gd (b + i) d1 ∧ (txt d1).length ≤ 61 + 4 * i) ⟨S6.trans (SameB.of s7), t6.same s7, _, d0, _, rfl, hv0.same s7, hg0, by omega⟩ ?_ ?_
      · rintro i σ H8 hi ⟨s8, t8, v1, d1, r, rfl, hv1, hg1, hw1⟩
        walk_at "c"
        with_reducible refine s_asg ?_
        refine s_joinE (fun v2 H9 => ∃ d2, Da H9 v2 d2 ∧ Gd (b + i + 1) d2 ∧ (txt d2).length ≤ 65 + 4 * i ∧ TpQ H9 s q (n - 4000 - 2 * (i + 1)) ∧ SameB s H H9) ?_ fun Q' hQ => ?_
        case refine_2 =>
          walk_at "g"
          refine ⟨s, q, 2, _, rfl, by decide, by decide, by omega, t8, fun x2 H9 x20 x21 t9 s9 => ?_⟩
          have hv9 := hv1.tq t8 s9
          walk_at "g"
          refine s_ite (fun _ => ?_) (fun _ => ?_)
          · walk_at "g"
            refine mkT (by simp) fun W H10 nW eW s10 => ?_
            refine hQ _ H10 ⟨.tuple [d1], .tup eW (.cons (hv9.same s10) .nil), .tup (by simpa using hg1), ?_, (t9.same s10).mono (by omega), s8.trans (s9.trans (SameB.of s10))⟩
            show (rowL [d1]).length ≤ _
            rw [rowL_len]
            show (txt d1).length + 2 ≤ _
            omega
          · walk_at "g"
            refine ⟨s, q, 9, _, rfl, by decide, by decide, by omega, t9, fun x3 H10 x30 x31 t10 s10 => ?_⟩
            have hv10 := hv9.tq t9 s10
            walk_at "g"
            refine mkT (by simp) fun W H11 nW eW s11 => ?_
            obtain ⟨x3, rfl⟩ := Int.eq_ofNat_of_zero_le x30
            refine hQ _ H11 ⟨.tuple [.int (x3 : Int), d1], .tup eW (.cons (.int _) (.cons (hv10.same s11) .nil)), .tup ?_, ?_, (t10.same s11).mono (by omega), s8.trans (s9.trans (s10.trans (SameB.of s11)))⟩
            · intro e he
              simp only [List.mem_cons, List.not_mem_nil, or_false] at he
              rcases he with z | z
              · rw [z]; exact .int (by omega)
              · rw [z]; exact hg1
            · show (rowL [.int (x3 : Int), d1]).length ≤ _
              have h1 : (txt (.int (x3 : Int))).length = 1 := by
                show (intL (x3 : Int)).length = 1
                unfold intL
                rw [if_neg (by omega), Int.natAbs_natCast, TL.numL_lt (by omega)]; rfl
              rw [rowL_len]
              show (txt (.int (x3 : Int)) ++ ([32] ++ txt d1)).length + 2 ≤ _
              rw [List.length_append, List.length_append, h1, List.length_cons, List.length_nil]
              omega
        rintro v2 H9 ⟨d2, hv2, hg2, hw2, t9, s9⟩
        walk_at "g"
        exact ⟨s9, t9, _, d2, _, rfl, hv2, hg2, by omega⟩
      · rintro σ H8 ⟨s8, t8, v1, d1, r, rfl, hv1, hg1, hw1⟩
        walk_at "g"
        exact k v1 d1 H8 hv1 (hg1.mono hbm) (by omega) (t8.mono (by omega)) s8
    · walk_at "g"
      exact k v d H3 hv3.any (hg.mono (by omega)) (by omega) (t3.mono (by omega)) S3

open Tx
def mdS : Md → Str
  | .start => "start"
  | .first => "first"
  | .minus => "minus"
  | .number => "number"
  | .word => "word"
  | .fin => "end"
theorem md_start {m : Md} : decide (mdS m = ("start" : Str)) = decide (m = .start) := by cases m <;> decide +kernel
theorem md_first {m : Md} : decide (mdS m = ("first" : Str)) = decide (m = .first) := by cases m <;> decide +kernel
theorem md_minus {m : Md} : decide (mdS m = ("minus" : Str)) = decide (m = .minus) := by cases m <;> decide +kernel
theorem md_number {m : Md} : decide (mdS m = ("number" : Str)) = decide (m = .number) := by cases m <;> decide +kernel
theorem md_word {m : Md} : decide (mdS m = ("word" : Str)) = decide (m = .word) := by cases m <;> decide +kernel
theorem sg_eq (c k : Nat) : decide ((⟨#[c]⟩ : Str) = ⟨#[k]⟩) = decide (c = k) := by
  refine decide_eq_decide.mpr ⟨fun h => ?_, fun h => by rw [h]⟩
  have := congrArg (fun s : Str => s.cps.toList) h
  simpa using this
theorem sg41 (c : Nat) : decide ((⟨#[c]⟩ : Str) = (")" : Str)) = decide (c = 41) := by rw [show (")" : Str) = ⟨#[41]⟩ by decide +kernel]; exact sg_eq c 41
theorem sg40 (c : Nat) : decide ((⟨#[c]⟩ : Str) = ("(" : Str)) = decide (c = 40) := by rw [show ("(" : Str) = ⟨#[40]⟩ by decide +kernel]; exact sg_eq c 40
theorem sg45 (c : Nat) : decide ((⟨#[c]⟩ : Str) = ("-" : Str)) = decide (c = 45) := by rw [show ("-" : Str) = ⟨#[45]⟩ by decide +kernel]; exact sg_eq c 45
theorem sg48 (c : Nat) : decide ((⟨#[c]⟩ : Str) = ("0" : Str)) = decide (c = 48) := by rw [show ("0" : Str) = ⟨#[48]⟩ by decide +kernel]; exact sg_eq c 48
theorem in_strs (a : Str) (ns : List Str) : inV (.str a) (ns.map V.str) = decide (a ∈ ns) := by
  unfold inV
  induction ns with
  | nil => simp
  | cons n ns ih =>
    rw [List.map_cons, List.any_cons, ih]
    simp only [eqV, List.mem_cons]
    by_cases h : a = n
    · subst h; simp
    · simp [h, Ne.symm h]
theorem s_inTS {K : PySem.W.Frag} {H : Hp} {Q : VK} {p : Addr} {a : Str} {ns : List Str} (hp : H p = some (.tup (ns.map V.str))) (h : Q (.bl (decide (a ∈ ns))) H) : rIn K false (.str a) (.ref p) H Q :=
  ⟨p, ns.map V.str, rfl, .inr (SqT.of hp), rfl, by simp [flatV], by rw [if_neg Bool.false_ne_true, in_strs]; exact h⟩
theorem md_beg {m : Md} : decide (mdS m ∈ [("start" : Str), "first"]) = decide (m = .start ∨ m = .first) := by cases m <;> decide +kernel
theorem inBC (c : Nat) : decide (c ∈ (" )" : Str).cps.toList) = decide (c = 32 ∨ c = 41) := by
  have e : (" )" : Str).cps.toList = [32, 41] := by decide +kernel
  rw [e]; simp
/-- _law_first_wrong(text) -/
def sp__law_first_wrong : Sp := fun vs H Q _ => ∃ S : Str, vs = [.str S] ∧ S.length ≤ 10000000 ∧
  (∀ w H', w ≤ S.length → aut .start 0 0 (TL.tl S) = some ((TL.tl S).drop w) → Same H H' → Q (.int (w : Nat)) H') ∧ (∀ H', aut .start 0 0 (TL.tl S) = none → Same H H' → Q .non H')
theorem ok__law_first_wrong (T : Txt K mg) : FnOk P w K mg base CX0 1 (He.ga K "_law_first_wrong") (fd__law_first_wrong T) ["_law_text_here"] sp__law_first_wrong := by
  refine (F__law_first_wrong T).ok sc__law_first_wrong (fun vs H Q E h => ?_) (fun cdv A outer s H vs Q E hr h => ⟨_, PSs.nox (pss_cons (ps_set (i := 1) sc__law_first_wrong.nd rfl (Or.inl rfl) pe_int)
      (pss_cons (ps_set (i := 2) sc__law_first_wrong.nd rfl (Or.inl rfl) pe_str)
      (pss_cons (ps_set (i := 3) sc__law_first_wrong.nd rfl (Or.inl rfl) pe_int)
      (pss_cons (ps_for PassesOwn.never rfl (pi_range1 rfl (T.fr (T.c.fact 44 rfl)) (pa_cons (pe_callB call_len_str rfl (T.fr (T.c.fact 41 rfl)) boot_len (pa_cons (pv 0) pa_nil)) pa_nil)) (pg_name (i := 4) sc__law_first_wrong.nd rfl (Or.inl rfl)) (pss_cons (ps_set (i := 5) sc__law_first_wrong.nd rfl (Or.inl rfl) (pe_ix ix_str (pv 0) (pv 4) (fun _ _ => rfl)))
      (pss_cons (ps_set (i := 6) sc__law_first_wrong.nd rfl (Or.inl rfl) (pe_cmpR op_inS (pv 5) pe_str rfl))
      (pss_cons (ps_set (i := 7) sc__law_first_wrong.nd rfl (Or.inl rfl) (pe_cmpR op_inS (pv 5) pe_str rfl))
      (pss_one (ps_if (pt_cmpR op_in_seq (pv 2) (pe_tup (pa_cons pe_str (pa_cons pe_str pa_nil))) rfl) (pss_one (ps_if (PW.pt (pw_and (pt_cmpR op_eq (pv 5) pe_str (nomark _)) (pw_and1 (pt_cmpR op_eq (pv 2) pe_str (nomark _))))) (pss_cons (ps_set (i := 1) sc__law_first_wrong.nd rfl (Or.inl rfl) (pe_op op_sub (pv 1) pe_int))
      (pss_one (ps_set (i := 2) sc__law_first_wrong.nd rfl (Or.inl rfl) pe_str))) (pss_one (ps_if (PW.pt (pw_and (pt_cmpR op_eq (pv 5) pe_str (nomark _)) (pw_and1 (pt_cmpR op_lt (pv 1) pe_int (nomark _))))) (pss_cons (ps_set (i := 1) sc__law_first_wrong.nd rfl (Or.inl rfl) (pe_op op_add (pv 1) pe_int))
      (pss_one (ps_set (i := 2) sc__law_first_wrong.nd rfl (Or.inl rfl) pe_str))) (pss_one (ps_if (PW.pt (pw_or (pt_cmpR op_eq (pv 5) pe_str (nomark _)) (pw_or1 (pt_cmpR op_eq (pv 5) pe_str (nomark _))))) (pss_one (ps_set (i := 2) sc__law_first_wrong.nd rfl (Or.inl rfl) (pe_ix ix_seq (pe_lst (pa_cons pe_str (pa_cons pe_str pa_nil))) (pe_callTy callInt1 rfl (T.fr (T.c.fact 42 rfl)) boot_int (pa_cons (pe_cmpR op_eq (pv 5) pe_str (nomark _)) pa_nil)) (fun _ _ => rfl)))) (pss_one (ps_if (PW.pt (pw_or (pt_val (pv 6)) (pw_or1 (pt_val (pv 7))))) (pss_cons (ps_set (i := 2) sc__law_first_wrong.nd rfl (Or.inl rfl) (pe_ix ix_seq (pe_lst (pa_cons pe_str (pa_cons pe_str pa_nil))) (pe_callTy callInt1 rfl (T.fr (T.c.fact 42 rfl)) boot_int (pa_cons (pv 6) pa_nil)) (fun _ _ => rfl)))
      (pss_one (ps_set (i := 3) sc__law_first_wrong.nd rfl (Or.inl rfl) pe_int))) (pss_one (ps_ret (pv 4))))))))))) (pss_one (ps_if (PW.pt (pw_and (pt_cmpR op_eq (pv 2) pe_str (nomark _)) (pw_and (pt_val (pv 6)) (pw_and1 (pt_cmpR op_ne (pv 5) pe_str (nomark _)))))) (pss_cons (ps_set (i := 2) sc__law_first_wrong.nd rfl (Or.inl rfl) pe_str)
      (pss_one (ps_set (i := 3) sc__law_first_wrong.nd rfl (Or.inl rfl) pe_int))) (pss_one (ps_if (PW.pt (pw_or (PW.pt (pw_and (pt_cmpR op_eq (pv 2) pe_str (nomark _)) (pw_and (pt_val (pv 6)) (pw_and1 (pt_cmpR op_lt (pv 3) pe_int (nomark _)))))) (pw_or1 (PW.pt (pw_and (pt_cmpR op_eq (pv 2) pe_str (nomark _)) (pw_and (pt_val (pv 7)) (pw_and1 (pt_cmpR op_lt (pv 3) pe_int (nomark _))))))))) (pss_one (ps_set (i := 3) sc__law_first_wrong.nd rfl (Or.inl rfl) (pe_op op_add (pv 3) pe_int))) (pss_one (ps_if (PW.pt (pw_and (pt_cmpR op_gt (pv 1) pe_int (nomark _)) (pw_and1 (pt_cmpR op_inS (pv 5) pe_str rfl)))) (pss_cons (ps_set (i := 1) sc__law_first_wrong.nd rfl (Or.inl rfl) (pe_op op_sub (pv 1) (pe_callTy callInt1 rfl (T.fr (T.c.fact 42 rfl)) boot_int (pa_cons (pe_cmpR op_eq (pv 5) pe_str (nomark _)) pa_nil))))
      (pss_one (ps_set (i := 2) sc__law_first_wrong.nd rfl (Or.inl rfl) (pe_ix ix_seq (pe_lst (pa_cons pe_str (pa_cons pe_str pa_nil))) (pe_callTy callInt1 rfl (T.fr (T.c.fact 42 rfl)) boot_int (pa_cons (pe_cmpR op_eq (pv 5) pe_str (nomark _)) pa_nil)) (fun _ _ => rfl))))) (pss_one (ps_ret (pv 4)))))))))))))))
      (pss_cons (ps_if (PW.pt (pw_or (pt_cmpR op_gt (pv 1) pe_int (nomark _)) (pw_or1 (pt_cmpR op_eq (pv 2) pe_str (nomark _))))) (pss_one (ps_ret (pe_callB call_len_str rfl (T.fr (T.c.fact 41 rfl)) boot_len (pa_cons (pv 0) pa_nil)))) pss_nil)
      (pss_one (ps_ret pe_non))))))), ?_⟩)
  · obtain ⟨S, rfl, _⟩ := h; rfl
  · obtain ⟨S, rfl, hl, k1, k2⟩ := h
    have eL : S.length = (TL.tl S).length := Array.length_toList.symm
    have hsl : S.length ≤ sizeLine := by rw [sizeLine_eq]; omega
    walk_at "g"
    refine ⟨S, rfl, hsl, ?_⟩
    walk_at "g"
    refine mkR1 S.length (by omega) (by omega) (by omega) ?_
    refine for_range (n := S.length) (fun i σ H' => Same H H' ∧ ∃ (m : Md) (n k : Nat) (r4 r5 r6 r7 : Option V), σ = [some (.str S), some (.int (n : Nat)), some (.str (mdS m)), some (.int (k : Nat)), r4, r5, r6, r7] ∧ (m = .first → 0 < n) ∧ aut m n k ((TL.tl S).drop i) = aut .start 0 0 (TL.tl S)) ⟨Same.refl _, .start, 0, 0, _, _, _, _, rfl, (fun z => nomatch z), by rw [List.drop_zero]⟩ ?_ ?_
    · rintro i σ H1 hi ⟨s1, m, n, k, r4, r5, r6, r7, rfl, hfn, ha⟩
      have hlt : i < (TL.tl S).length := by omega
      rw [List.drop_eq_getElem_cons hlt] at ha
      walk_at "g"
      refine ⟨S, (0 : Int) + i, (TL.tl S)[i], rfl, rfl, hsl, atI0 i (by omega) (List.getElem?_eq_getElem hlt), ?_⟩
      have hdr := List.drop_eq_getElem_cons hlt
      generalize (TL.tl S)[i] = c at ha hdr ⊢
      walk_at "g"
      refine ⟨c, _, rfl, rfl, ?_⟩
      rw [show decide (c ∈ ("0123456789" : Str).cps.toList) = isF c from inF c]
      walk_at "g"
      refine ⟨c, _, rfl, rfl, ?_⟩
      rw [show decide (c ∈ ("abcdefghijklmnopqrstuvwxyz" : Str).cps.toList) = isA c from inA c]
      walk_at "g"
      refine mkT (by simp) fun W H2 nW eW s2 => ?_
      refine s_inTS (ns := ["start", "first"]) eW ?_
      rw [md_beg]
      have S2 := s1.trans s2
      -- one sign more
      have next : ∀ {m' : Md} {n' k' : Nat} {H3 : Hp} (r5 r6 r7 : Option V), Same H2 H3 → stepA m n k c = some (m', n', k') → (m' = .first → 0 < n') →
          Same H H3 ∧ ∃ (m : Md) (n k : Nat) (r4 r5' r6' r7' : Option V), [some (.str S), some (.int (n' : Nat)), some (.str (mdS m')), some (.int (k' : Nat)), some (.int ((0 : Int) + i)), r5, r6, r7] = [some (.str S), some (.int (n : Nat)), some (.str (mdS m)), some (.int (k : Nat)), r4, r5', r6', r7'] ∧ (m = .first → 0 < n) ∧ aut m n k ((TL.tl S).drop (i + 1)) = aut .start 0 0 (TL.tl S) := fun r5 r6 r7 s3 hs hf =>
        ⟨S2.trans s3, _, _, _, _, _, _, _, rfl, hf, by rw [← ha, aut_cons hs]⟩
      have stop : ∀ {H3 : Hp}, Same H2 H3 → stepA m n k c = none → Q (.int ((0 : Int) + i)) H3 := fun s3 hs => by
        have := k1 i _ (by omega) (by rw [← ha, aut_no hs, hdr]) (S2.trans s3)
        rwa [Int.zero_add]
      by_cases hb : m = .start ∨ m = .first
      · walk_at "h"
        refine s_itP hb ?_
        refine s_if ?_
        refine s_ct (fun b => b = decide (c = 41 ∧ m = .first)) (fun QB' hQ => ?_) ?_
        · walk_at "g"
          rw [sg41]
          refine s_ite (fun g => ?_) (fun g => ?_)
          · walk_at "g"
            rw [md_first]
            exact hQ _ (by rw [Bool.eq_iff_iff]; simp [*]; try omega)
          · exact hQ _ (by rw [Bool.eq_iff_iff]; simp [*]; try omega)
        rintro b rfl
        refine s_ite (fun g1 => ?_) (fun g1 => ?_)
        · have hn := hfn g1.2
          walk_at "g"
          rw [show (n : Int) - 1 = ((n - 1 : Nat) : Int) by omega]
          exact next _ _ _ (Same.refl _) (m' := .fin) (by unfold stepA; rw [if_pos hb, if_pos g1]) (by simp)
        refine s_if ?_
        refine s_ct (fun b => b = decide (c = 40 ∧ n < 80)) (fun QB' hQ => ?_) ?_
        · walk_at "g"
          rw [sg40]
          refine s_ite (fun g => ?_) (fun g => ?_)
          · walk_at "g"
            exact hQ _ (by rw [Bool.eq_iff_iff]; simp [*]; try omega)
          · exact hQ _ (by rw [Bool.eq_iff_iff]; simp [*]; try omega)
        rintro b rfl
        refine s_ite (fun g2 => ?_) (fun g2 => ?_)
        · walk_at "g"
          exact next _ _ _ (Same.refl _) (m' := .first) (n' := n + 1) (by unfold stepA; rw [if_pos hb, if_neg g1, if_pos g2]) (by simp)
        refine s_if ?_
        refine s_ct (fun b => b = decide (c = 45 ∨ c = 48)) (fun QB' hQ => ?_) ?_
        · walk_at "g"
          rw [sg45]
          refine s_ite (fun g => ?_) (fun g => ?_)
          · exact hQ _ (by rw [Bool.eq_iff_iff]; simp [*]; try omega)
          · walk_at "g"
            rw [sg48]
            exact hQ _ (by rw [Bool.eq_iff_iff]; simp [*]; try omega)
        rintro b rfl
        refine s_ite (fun g3 => ?_) (fun g3 => ?_)
        · walk_at "g"
          refine mkL (by simp) fun L H3 nL eL3 s3 => ?_
          walk_at "g"
          rw [sg48]
          by_cases h48 : c = 48
          · rw [decide_eq_true h48, if_pos rfl]
            refine s_ixL (SqL.of eL3) (atI0 1 rfl rfl) ?_
            walk_at "g"
            exact next _ _ _ s3 (m' := .fin) (n' := n) (k' := k) (by unfold stepA; rw [if_pos hb, if_neg g1, if_neg g2, if_pos g3, if_pos h48]) (by simp)
          · rw [decide_eq_false h48, if_neg Bool.false_ne_true]
            refine s_ixL (SqL.of eL3) (atI0 0 rfl rfl) ?_
            walk_at "g"
            exact next _ _ _ s3 (m' := .minus) (n' := n) (k' := k) (by unfold stepA; rw [if_pos hb, if_neg g1, if_neg g2, if_pos g3, if_neg h48]) (by simp)
        refine s_if ?_
        refine s_ct (fun b => b = decide (isF c = true ∨ isA c = true)) (fun QB' hQ => ?_) ?_
        · walk_at "g"
          cases hf : isF c with
          | true =>
            walk_at "g"
            exact hQ _ (by rw [Bool.eq_iff_iff]; simp [*]; try omega)
          | false =>
            walk_at "g"
            exact hQ _ (by rw [Bool.eq_iff_iff]; simp [*]; try omega)
        rintro b rfl
        refine s_ite (fun g4 => ?_) (fun g4 => ?_)
        · walk_at "g"
          refine mkL (by simp) fun L H3 nL eL3 s3 => ?_
          walk_at "g"
          by_cases hf : isF c = true
          · have hf2 := hf
            generalize isF c = fc at hf ⊢
            subst hf
            rw [if_pos rfl]
            refine s_ixL (SqL.of eL3) (atI0 1 rfl rfl) ?_
            walk_at "g"
            exact next _ _ _ s3 (m' := .number) (n' := n) (k' := 1) (by unfold stepA; rw [if_pos hb, if_neg g1, if_neg g2, if_neg g3, if_pos g4, if_pos hf2]) (by simp)
          · have hf2 := hf
            have hf : isF c = false := by simpa using hf
            generalize isF c = fc at hf ⊢
            subst hf
            rw [if_neg Bool.false_ne_true]
            refine s_ixL (SqL.of eL3) (atI0 0 rfl rfl) ?_
            walk_at "g"
            exact next _ _ _ s3 (m' := .word) (n' := n) (k' := 1) (by unfold stepA; rw [if_pos hb, if_neg g1, if_neg g2, if_neg g3, if_pos g4, if_neg hf2]) (by simp)
        · walk_at "g"
          exact stop (Same.refl _) (by unfold stepA; rw [if_pos hb, if_neg g1, if_neg g2, if_neg g3, if_neg g4])
      · walk_at "h"
        refine s_itN hb ?_
        refine s_if ?_
        refine s_ct (fun b => b = decide (m = .minus ∧ isF c = true ∧ c ≠ 48)) (fun QB' hQ => ?_) ?_
        · walk_at "g"
          rw [md_minus]
          refine s_ite (fun g => ?_) (fun g => ?_)
          · walk_at "g"
            cases hf : isF c with
            | true =>
              walk_at "g"
              rw [sg48]
              exact hQ _ (by rw [Bool.eq_iff_iff]; simp [*]; try omega)
            | false =>
              walk_at "g"
              exact hQ _ (by rw [Bool.eq_iff_iff]; simp [*]; try omega)
          · exact hQ _ (by rw [Bool.eq_iff_iff]; simp [*]; try omega)
        rintro b rfl
        refine s_ite (fun g1 => ?_) (fun g1 => ?_)
        · walk_at "g"
          exact next _ _ _ (Same.refl _) (m' := .number) (n' := n) (k' := 1) (by unfold stepA; rw [if_neg hb, if_pos g1]) (by simp)
        refine s_if ?_
        refine s_ct (fun b => b = decide ((m = .number ∧ isF c = true ∧ k < 60) ∨ (m = .word ∧ isA c = true ∧ k < 8))) (fun QB' hQ => ?_) ?_
        · have second : ∀ {t : TT} {σ : L2.St}, True := trivial
          walk_at "g"
          rw [md_number]
          by_cases gm : m = .number
          · subst gm
            refine s_itP rfl ?_
            walk_at "g"
            cases hf : isF c with
            | true =>
              walk_at "g"
              refine s_ite (fun g => ?_) (fun g => ?_)
              · exact hQ _ (by rw [Bool.eq_iff_iff]; simp [*]; try omega)
              · walk_at "g"
                rw [md_word]
                walk_at "g"
                exact hQ _ (by rw [Bool.eq_iff_iff]; simp [*]; try omega)
            | false =>
              walk_at "g"
              rw [md_word]
              walk_at "g"
              exact hQ _ (by rw [Bool.eq_iff_iff]; simp [*]; try omega)
          · refine s_itN gm ?_
            walk_at "g"
            rw [md_word]
            refine s_ite (fun g => ?_) (fun g => ?_)
            · walk_at "g"
              cases hf : isA c with
              | true =>
                walk_at "g"
                exact hQ _ (by rw [Bool.eq_iff_iff]; simp [*]; try omega)
              | false =>
                walk_at "g"
                exact hQ _ (by rw [Bool.eq_iff_iff]; simp [*]; try omega)
            · exact hQ _ (by rw [Bool.eq_iff_iff]; simp [*]; try omega)
        rintro b rfl
        refine s_ite (fun g2 => ?_) (fun g2 => ?_)
        · walk_at "g"
          exact next _ _ _ (Same.refl _) (m' := m) (n' := n) (k' := k + 1) (by unfold stepA; rw [if_neg hb, if_neg g1, if_pos g2]) hfn
        refine s_if ?_
        refine s_ct (fun b => b = decide (0 < n ∧ (c = 32 ∨ c = 41))) (fun QB' hQ => ?_) ?_
        · walk_at "g"
          refine s_ite (fun g => ?_) (fun g => ?_)
          · walk_at "g"
            refine ⟨c, _, rfl, rfl, ?_⟩
            rw [inBC]
            walk_at "g"
            exact hQ _ (by rw [Bool.eq_iff_iff]; simp [*]; try omega)
          · exact hQ _ (by rw [Bool.eq_iff_iff]; simp [*]; try omega)
        rintro b rfl
        refine s_ite (fun g3 => ?_) (fun g3 => ?_)
        · walk_at "g"
          rw [sg41]
          walk_at "g"
          refine mkL (by simp) fun L H3 nL eL3 s3 => ?_
          walk_at "g"
          rw [sg41]
          by_cases h41 : c = 41
          · rw [decide_eq_true h41, if_pos rfl]
            rw [show (n : Int) - 1 = ((n - 1 : Nat) : Int) by omega]
            refine s_ixL (SqL.of eL3) (atI0 1 rfl rfl) ?_
            walk_at "g"
            exact next _ _ _ s3 (m' := .fin) (n' := n - 1) (k' := k) (by unfold stepA; rw [if_neg hb, if_neg g1, if_neg g2, if_pos g3, if_pos h41, if_pos h41]) (by simp)
          · rw [decide_eq_false h41, if_neg Bool.false_ne_true]
            rw [show (n : Int) - 0 = (n : Int) by omega]
            refine s_ixL (SqL.of eL3) (atI0 0 rfl rfl) ?_
            walk_at "g"
            exact next _ _ _ s3 (m' := .start) (n' := n) (k' := k) (by unfold stepA; rw [if_neg hb, if_neg g1, if_neg g2, if_pos g3, if_neg h41, if_neg h41]) (by simp)
        · walk_at "g"
          exact stop (Same.refl _) (by unfold stepA; rw [if_neg hb, if_neg g1, if_neg g2, if_neg g3])
    · rintro σ H1 ⟨s1, m, n, k, r4, r5, r6, r7, rfl, hfn, ha⟩
      rw [List.drop_eq_nil_of_le (by omega)] at ha
      have hlen : ∀ H2, Same H H2 → aut .start 0 0 (TL.tl S) = some [] → Q (.int (S.length : Nat)) H2 := fun H2 s2 h => k1 S.length H2 (Nat.le_refl _) (by rw [h, List.drop_eq_nil_of_le (by omega)]) s2
      walk_at "g"
      refine s_ite (fun g => ?_) (fun g => ?_)
      · walk_at "g"
        refine ⟨S, rfl, hsl, ?_⟩
        exact hlen H1 s1 (by rw [← ha]; simp only [aut]; rw [if_pos (.inl (by omega))])
      · walk_at "g"
        rw [md_start]
        refine s_ite (fun g2 => ?_) (fun g2 => ?_)
        · walk_at "g"
          refine ⟨S, rfl, hsl, ?_⟩
          exact hlen H1 s1 (by rw [← ha]; simp only [aut]; rw [if_pos (.inr g2)])
        · walk_at "g"
          exact k2 H1 (by rw [← ha]; simp only [aut]; rw [if_neg (by rintro (z | z) <;> first | omega | exact g2 z)]) s1

open Tx
theorem sees_get {p : Nat → Bool} {l : List Nat} (h : 0 < l.length) : sees p l = p l[0] := by
  cases l with
  | nil => simp at h
  | cons c l => rfl
/-- _law_value(word) -/
def sp__law_value : Sp := fun vs H Q _ => ∃ (t : Str) (d : PyData), vs = [.str t] ∧ valM (TL.tl t) = some d ∧ ∀ v, (∀ (F : Addr → Prop) (H : Hp), DaF F H v d) → Q v H
theorem ok__law_value (T : Txt K mg) : FnOk P w K mg base CX0 1 (He.ga K "_law_value") (fd__law_value T) ["_law_word_here"] sp__law_value := by
  refine (F__law_value T).ok sc__law_value (fun vs H Q E h => ?_) (fun cdv A outer s H vs Q E hr h => ⟨_, PSs.nox (pss_cons (ps_if (pt_cmpR op_eq (pv 0) pe_str (nomark _)) (pss_one (ps_ret pe_non)) pss_nil)
      (pss_one (ps_ret (pe_ifExp (pt_cmpR op_inS (pe_ix ix_str (pv 0) pe_int (fun _ _ => rfl)) pe_str rfl) (pv 0) (pe_callTy call_int_str rfl (T.fr (T.c.fact 42 rfl)) boot_int (pa_cons (pv 0) pa_nil)))))), ?_⟩)
  · obtain ⟨t, d, rfl, _⟩ := h; rfl
  · obtain ⟨t, d, rfl, hv, k⟩ := h
    have em : ("-" : Str) = ⟨#[45]⟩ := by decide +kernel
    have tE : ∀ {l : List Nat}, TL.tl t = l → t = ⟨l.toArray⟩ := fun h => by rw [← h]
    walk_at "g"
    rw [em]
    unfold valM at hv
    by_cases h1 : TL.tl t = [45]
    · rw [if_pos h1] at hv
      cases hv
      refine s_itP (tE h1) ?_
      walk_at "g"
      exact k _ fun _ _ => .non
    · rw [if_neg h1] at hv
      refine s_itN (fun z => h1 (by rw [z])) ?_
      have hne : TL.tl t ≠ [] := fun z => by rw [z] at hv; simp [sees] at hv
      have hlen : (TL.tl t).length ≤ 61 := by
        split at hv
        · omega
        · split at hv
          · omega
          · split at hv
            · omega
            · cases hv
      have eL : t.length = (TL.tl t).length := Array.length_toList.symm
      have hpos : 0 < (TL.tl t).length := List.length_pos_iff.mpr hne
      walk_at "g"
      refine ⟨t, 0, (TL.tl t)[0], rfl, rfl, by rw [sizeLine_eq]; omega, atI0 0 rfl (List.getElem?_eq_getElem hpos), ?_⟩
      have h0 : sees isA (TL.tl t) = isA (TL.tl t)[0] := sees_get hpos
      have h4 : sees (is1 45) (TL.tl t) = is1 45 (TL.tl t)[0] := sees_get hpos
      generalize (TL.tl t)[0] = c at h0 h4 ⊢
      walk_at "g"
      refine ⟨c, _, rfl, rfl, ?_⟩
      rw [show decide (c ∈ ("abcdefghijklmnopqrstuvwxyz" : Str).cps.toList) = isA c from inA c, ← h0]
      have number : ∀ (i : Int) (Q' : VK), PySem.intText? t = some i → Q' (.int i) H → ∃ (a : Str) (n : Int), [V.str t] = [V.str a] ∧ PySem.intText? a = some n ∧ a.length ≤ 640 ∧ Q' (.int n) H := fun i Q' h q => ⟨t, i, rfl, h, by omega, q⟩
      cases hA : sees isA (TL.tl t) with
      | true =>
        rw [hA] at hv
        walk_at "g"
        by_cases h8 : (TL.tl t).length ≤ 8
        · rw [if_pos ⟨rfl, h8⟩] at hv
          cases hv
          exact k _ fun _ _ => .str t
        · rw [if_neg (fun z => h8 z.2), if_neg, if_neg] at hv
          · cases hv
          · intro z
            rw [h0] at hA
            rw [h4] at z
            have a := isA_iff.mp hA
            have b : c = 45 := of_decide_eq_true z.1
            omega
          · intro z
            rw [h0] at hA
            have a := isA_iff.mp hA
            cases e : TL.tl t with
            | nil => exact hne e
            | cons x l =>
              have : sees isA (TL.tl t) = isA x := by rw [e]; rfl
              rw [h0, hA] at this
              have b := List.all_eq_true.mp z.2.1 x (by rw [e]; simp)
              have a := isA_iff.mp this.symm
              have b := isF_iff.mp b
              omega
      | false =>
        rw [hA, if_neg (by simp)] at hv
        walk_at "g"
        split at hv
        · rename_i g
          cases hv
          refine ⟨t, _, rfl, intText_digits (x := t) (fun c hc => isF_iff.mp (List.all_eq_true.mp g.2.1 c hc)) g.1 (by omega), by omega, ?_⟩
          walk_at "g"
          exact k _ fun _ _ => .int _
        · split at hv
          · rename_i g
            cases hv
            obtain ⟨r, er⟩ := sees_cons g.1
            have et : (TL.tl t).tail = r := by rw [er]; rfl
            rw [et] at g k
            refine ⟨t, _, rfl, intText_neg (x := t) (cs := r) er (fun c hc => isF_iff.mp (List.all_eq_true.mp g.2.2.1 c hc)) g.2.1 (by omega), by omega, ?_⟩
            walk_at "g"
            exact k _ fun _ _ => .int _
          · cases hv
/-- the pile's rows -/
def Els (H : Hp) (ps : List (Addr × List PyData)) : Prop := ∀ x ∈ ps, ∃ ws, H x.1 = some (.lst ws) ∧ DaL (fun _ => False) H ws x.2
theorem Els.same {H H' : Hp} {ps : List (Addr × List PyData)} (h : Els H ps) (s : Same H H') : Els H' ps := fun x hx => by
  obtain ⟨ws, e, d⟩ := h x hx
  exact ⟨ws, s _ _ e, d.same s⟩
theorem Els.upd {H : Hp} {L : Addr} {zs : List V} {o : HO} {ps : List (Addr × List PyData)} (h : Els H ps) (e : H L = some (.lst zs)) (n : ∀ x ∈ ps, x.1 ≠ L) : Els (L2.upd H L o) ps := fun x hx => by
  obtain ⟨ws, e2, d⟩ := h x hx
  exact ⟨ws, by rw [upd_ne (n x hx)]; exact e2, d.upd e fun z => z⟩
theorem atI_neg2 {α : Type} {l : List α} {a b : α} : atI ((a :: b :: l).reverse) (-2) = some b := by
  rw [List.reverse_cons, List.reverse_cons]
  unfold atI ixN
  simp
  rw [if_pos (by omega)]
  show (l.reverse ++ [b, a])[(-2 + ((l.length : Int) + 2)).toNat]? = some b
  rw [show (-2 + ((l.length : Int) + 2)).toNat = l.reverse.length by simp; omega]
  simp
theorem atI_rev1 {α : Type} {l : List α} {a : α} : atI ((a :: l).reverse) (-1) = some a := atI_neg1 (by simp)
/-- _law_built(text), the text a thing's -/
def sp__law_built : Sp := fun vs H Q _ => ∃ (S : Str) (d : PyData), vs = [.str S] ∧ TL.tl S = txt d ∧ Gd 80 d ∧ tupd d = d ∧ S.length ≤ 100000 ∧ ∀ v H', Tu H' v d → Same H H' → Q v H'
theorem ok__law_built (T : Txt K mg) : FnOk P w K mg base CX0 2 (He.ga K "_law_built") (fd__law_built T) ["_law_text_here"] sp__law_built := by
  refine R.okT (F__law_built T) sc__law_built (by decide +kernel) (by decide) (fun vs H Q E h => ?_) (fun cdv A outer s H vs Q E hr h => ⟨_, (R.pssT_nox (psst_cons (PST.of (ps_set (i := 1) sc__law_built.nd rfl (Or.inl rfl) (pe_lst (pa_cons (pe_lst pa_nil) pa_nil)))) (psst_cons (pst_for PassesOwn.never rfl (pit_list (R.pet_words (CwR.pet_replT (CwR.pet_replC (pv 0))))) (pg_name (i := 2) sc__law_built.nd rfl (Or.inl rfl)) (pss_one (ps_if (pt_cmpR op_eq (pv 2) pe_str (nomark _)) (pss_one (ps_expr (pe_bm PySem.F.plainAttrs_list PySem.F.slot_list_append PySem.F.type_list_append mt_append (pv 1) (pa_cons (pe_lst pa_nil) pa_nil)))) (pss_one (ps_if (pt_cmpR op_eq (pv 2) pe_str (nomark _)) (pss_one (ps_expr (pe_bm PySem.F.plainAttrs_list PySem.F.slot_list_append PySem.F.type_list_append mt_append (pe_ix ix_seq (pv 1) (pe_un un_neg pe_int) (fun _ _ => rfl)) (pa_cons (pe_callTy callTup rfl (T.fr (T.c.fact 43 rfl)) boot_tuple (pa_cons (pe_bm0 PySem.F.plainAttrs_list PySem.F.slot_list_pop PySem.F.type_list_pop mt_pop (pv 1)) pa_nil)) pa_nil)))) (pss_one (ps_expr (pe_bm PySem.F.plainAttrs_list PySem.F.slot_list_append PySem.F.type_list_append mt_append (pe_ix ix_seq (pv 1) (pe_un un_neg pe_int) (fun _ _ => rfl)) (pa_cons (pe_call (ok__law_value T) (hr.mono (by decide)) rfl (g__law_value T) (kp__law_value T) (B__law_value T) .nil pass0 (pa_cons (pv 2) pa_nil)) pa_nil))))))))) (PSsT.of (pss_one (ps_ret (pe_ix ix_seq (pe_ix ix_seq (pv 1) pe_int (fun _ _ => rfl)) pe_int (fun _ _ => rfl)))))))), ?_⟩)
  · obtain ⟨S, d, rfl, _⟩ := h; rfl
  · obtain ⟨S, d, rfl, hS, hg, hd, hl, k⟩ := h
    obtain ⟨hw, hrun⟩ := words_of hg hd hS
    walk_at "g"
    refine mkL (by simp) fun A0 H1 nA eA s1 => ?_
    walk_at "g"
    refine mkL (by simp) fun P0 H2 nP eP s2 => ?_
    walk_at "g"
    have l3 : (" ( " : Str).length = 3 := by decide +kernel
    have l4 : (" ) " : Str).length = 3 := by decide +kernel
    have b1 := TK.replace_len S "(" " ( "
    have b2 := TK.replace_len (Txt.replace S "(" " ( ") ")" " ) "
    rw [l3] at b1
    rw [l4] at b2
    refine ⟨.str S, rfl, S, rfl, by rw [l3]; omega, _, rfl, by rw [l4]; omega, ⟨_, rfl⟩, _, rfl, rfl, by rw [sizeLine_eq]; omega, fun W nW => ?_⟩
    have hwl : (Txt.words (Txt.replace (Txt.replace S "(" " ( ") ")" " ) ")).length ≤ 1700000 := Nat.le_trans (words_le _) (by omega)
    clear b1 b2
    generalize Txt.words (Txt.replace (Txt.replace S "(" " ( ") ")" " ) ") = ws at hw hwl ⊢
    have s3 : Same H2 (L2.upd H2 W (.lst (ws.map V.str))) := same_upd nW
    have eW : L2.upd H2 W (.lst (ws.map V.str)) W = some (.lst (ws.map V.str)) := upd_same
    generalize L2.upd H2 W (.lst (ws.map V.str)) = H3 at s3 eW ⊢
    have nP0 : H P0 = none := Same.none s1 nP
    have nW0 : H W = none := Same.none s1 (Same.none s2 nW)
    have hPA : A0 ≠ P0 := fun z => by rw [← z, eA] at nP; cases nP
    have hWP : P0 ≠ W := fun z => by rw [← z, eP] at nW; cases nW
    have hWA : A0 ≠ W := fun z => by rw [← z, s2 _ _ eA] at nW; cases nW
    have hlen : ws.length = (tks d).length := by rw [← hw, List.length_map]
    refine ⟨W, rfl, ⟨_, SqL.of eW⟩, ?_⟩
    refine for_list (fun i σ H' => Same H H' ∧ H' W = some (.lst (ws.map V.str)) ∧ ∃ (ps : List (Addr × List PyData)) (r : Option V), σ = [some (.str S), some (.ref P0), r] ∧ prun ((tks d).drop i) (ps.map (·.2)) = some [[d]] ∧ H' P0 = some (.lst ((ps.map fun x => V.ref x.1).reverse)) ∧ Els H' ps ∧ (ps.map (·.1)).Nodup ∧ (∀ x ∈ ps, x.1 ≠ P0 ∧ x.1 ≠ W ∧ H x.1 = none) ∧ ps.length ≤ i + 1 ∧ ∀ x ∈ ps, x.2.length ≤ i) ⟨s1.trans (s2.trans s3), eW, [(A0, [])], none, rfl, by rw [List.drop_zero]; exact hrun, s3 _ _ eP, fun x hx => by
      rw [List.mem_singleton.mp hx]; exact ⟨[], (s2.trans s3) _ _ eA, .nil⟩, by simp, fun x hx => by rw [List.mem_singleton.mp hx]; exact ⟨hPA, hWA, nA⟩, by simp, by simp⟩ (fun i σ H' _ I => SqL.of I.2.1) ?_ ?_
    · rintro i x σ H4 hi ⟨s4, eW4, ps, r, rfl, hr, eP4, hE, nd, hps, hpl, hdl⟩
      rw [List.getElem?_map] at hi
      obtain ⟨wd, hwd, rfl⟩ := Option.map_eq_some_iff.mp hi
      have htk : (tks d)[i]? = some (TL.tl wd) := by rw [← hw, List.getElem?_map, hwd]; rfl
      have hil : i < (tks d).length := (List.getElem?_eq_some_iff.mp htk).1
      have hdr : (tks d).drop i = TL.tl wd :: (tks d).drop (i + 1) := by
        rw [List.drop_eq_getElem_cons hil]
        rw [List.getElem?_eq_getElem hil] at htk
        rw [Option.some.inj htk]
      rw [hdr] at hr
      have hr : (pstep (ps.map (·.2)) (TL.tl wd)).bind (prun ((tks d).drop (i + 1))) = some [[d]] := hr
      have ewd : ∀ {l : List Nat}, TL.tl wd = l ↔ wd = ⟨l.toArray⟩ := fun {l} => ⟨fun h => by rw [← h], fun h => by rw [h]⟩
      have e40 : ("(" : Str) = ⟨#[40]⟩ := by decide +kernel
      have e41 : (")" : Str) = ⟨#[41]⟩ := by decide +kernel
      unfold pstep at hr
      walk_at "g"
      rw [e40]
      refine s_ite (fun c => ?_) (fun c => ?_)
      · rw [if_pos (ewd.mpr c)] at hr
        walk_at "g"
        refine ⟨s_tyL eP4, ?_⟩
        walk_at "g"
        refine mkL (by simp) fun N0 H5 nN eN s5 => ?_
        have eP5 := s5 _ _ eP4
        walk_at "g"
        refine s_append eP5 (by rw [List.length_reverse, List.length_map, sizeLine_eq]; omega) ?_
        walk_at "g"
        have nNP : N0 ≠ P0 := fun z => by rw [z, eP4] at nN; cases nN
        have nNW : N0 ≠ W := fun z => by rw [z, eW4] at nN; cases nN
        have nN0 : H N0 = none := Same.none s4 nN
        refine ⟨same_upd' (s4.trans s5) nP0, by rw [upd_ne (Ne.symm hWP)]; exact s5 _ _ eW4, (N0, []) :: ps, _, rfl, hr, ?_, ?_, ?_, ?_, by simp; omega, ?_⟩
        · rw [upd_same, List.map_cons, List.reverse_cons]
        · refine Els.upd (fun x hx => ?_) eP5 fun x hx => ?_
          · rcases List.mem_cons.mp hx with z | z
            · rw [z]; exact ⟨[], eN, .nil⟩
            · exact (hE.same s5) x z
          · rcases List.mem_cons.mp hx with z | z
            · rw [z]; exact nNP
            · exact (hps x z).1
        · rw [List.map_cons]
          refine List.nodup_cons.mpr ⟨fun z => ?_, nd⟩
          obtain ⟨x, hx, ex⟩ := List.mem_map.mp z
          obtain ⟨zs, e, _⟩ := hE x hx
          rw [ex, nN] at e; cases e
        · intro x hx
          rcases List.mem_cons.mp hx with z | z
          · rw [z]; exact ⟨nNP, nNW, nN0⟩
          · exact hps x z
        · intro x hx
          rcases List.mem_cons.mp hx with z | z
          · rw [z]; simp
          · have := hdl x z; omega
      · rw [if_neg (fun z => c (ewd.mp z))] at hr
        walk_at "g"
        rw [e41]
        refine s_ite (fun c1 => ?_) (fun c1 => ?_)
        · rw [if_pos (ewd.mpr c1)] at hr
          obtain ⟨⟨a1, d1⟩, ⟨a2, d2⟩, ps, rfl⟩ : ∃ x y l, ps = x :: y :: l := by
            cases ps with
            | nil => simp at hr
            | cons x ps => cases ps with
              | nil => simp at hr
              | cons y ps => exact ⟨x, y, ps, rfl⟩
          have hr : prun ((tks d).drop (i + 1)) ((d2 ++ [.tuple d1]) :: ps.map (·.2)) = some [[d]] := hr
          obtain ⟨w1, e1, h1⟩ := hE (a1, d1) (by simp)
          obtain ⟨w2, e2, h2⟩ := hE (a2, d2) (by simp)
          have e1 : H4 a1 = some (.lst w1) := e1
          have e2 : H4 a2 = some (.lst w2) := e2
          have q1 := hps (a1, d1) (by simp)
          have q2 := hps (a2, d2) (by simp)
          have nd1 := List.nodup_cons.mp (by rw [List.map_cons] at nd; exact nd)
          have nd2 := List.nodup_cons.mp (by have := nd1.2; rw [List.map_cons] at this; exact this)
          have n12 : a1 ≠ a2 := fun z => nd1.1 (by rw [List.map_cons, ← z]; exact List.mem_cons_self)
          have hl2 := hdl (a2, d2) (by simp)
          have hlw := h2.len
          have hl2 : d2.length ≤ i := hl2
          have hlw : w2.length = d2.length := hlw
          walk_at "g"
          refine s_ixL (SqL.of eP4) (by rw [List.map_cons, List.map_cons]; exact atI_neg2) ?_
          refine ⟨s_tyL e2, ?_⟩
          walk_at "g"
          refine ⟨s_tyL eP4, ?_⟩
          refine ⟨P0, _, .ref a1, rfl, rfl, eP4, ?_, ?_⟩
          · have := (atI_rev1 (a := V.ref a1) (l := V.ref a2 :: ps.map fun x => V.ref x.1))
            rw [List.map_cons, List.map_cons, List.reverse_cons (a := V.ref a1), List.length_append, List.length_cons, List.length_nil, Nat.add_sub_cancel, List.getElem?_append_right (Nat.le_refl _), Nat.sub_self]
            rfl
          have eP5 : L2.upd H4 P0 (.lst (((a1, d1) :: (a2, d2) :: ps).map fun x => V.ref x.1).reverse.dropLast) P0 = some (.lst (((a2, d2) :: ps).map fun x => V.ref x.1).reverse) := by
            rw [upd_same, List.map_cons, List.reverse_cons, List.dropLast_concat]
          have E5 : Els (L2.upd H4 P0 (.lst (((a1, d1) :: (a2, d2) :: ps).map fun x => V.ref x.1).reverse.dropLast)) ((a1, d1) :: (a2, d2) :: ps) := hE.upd eP4 fun x hx => (hps x hx).1
          have W5 : L2.upd H4 P0 (.lst (((a1, d1) :: (a2, d2) :: ps).map fun x => V.ref x.1).reverse.dropLast) W = some (.lst (ws.map V.str)) := by rw [upd_ne (Ne.symm hWP)]; exact eW4
          have s5 : Same H (L2.upd H4 P0 (.lst (((a1, d1) :: (a2, d2) :: ps).map fun x => V.ref x.1).reverse.dropLast)) := same_upd' s4 nP0
          generalize L2.upd H4 P0 (.lst (((a1, d1) :: (a2, d2) :: ps).map fun x => V.ref x.1).reverse.dropLast) = H5 at eP5 E5 W5 s5 ⊢
          obtain ⟨w1, e1, h1⟩ := E5 (a1, d1) (by simp)
          obtain ⟨w2', e2, h2⟩ := E5 (a2, d2) (by simp)
          have e1 : H5 a1 = some (.lst w1) := e1
          have e2 : H5 a2 = some (.lst w2') := e2
          have h1 : DaL (fun _ => False) H5 w1 d1 := h1
          have h2 : DaL (fun _ => False) H5 w2' d2 := h2
          have hlw := h2.len
          walk_at "g"
          refine s_tupL (SqL.of e1) fun U nU => ?_
          have s6 : Same H5 (L2.upd H5 U (.tup w1)) := same_upd nU
          have eU : L2.upd H5 U (.tup w1) U = some (.tup w1) := upd_same
          generalize L2.upd H5 U (.tup w1) = H6 at s6 eU ⊢
          have e26 := s6 _ _ e2
          walk_at "g"
          refine s_append e26 (by rw [hlw, sizeLine_eq]; omega) ?_
          walk_at "g"
          have hd1 : DaF (fun _ => False) H6 (.ref U) (.tuple d1) := .tup eU (h1.same s6)
          refine ⟨same_upd' (s5.trans s6) q2.2.2, by rw [upd_ne (Ne.symm q2.2.1)]; exact s6 _ _ W5, (a2, d2 ++ [PyData.tuple d1]) :: ps, _, rfl, hr, by rw [upd_ne (Ne.symm q2.1)]; exact s6 _ _ eP5, ?_, ?_, ?_, by simp at hpl ⊢; omega, ?_⟩
          · intro x hx
            rcases List.mem_cons.mp hx with z | z
            · rw [z]
              exact ⟨_, upd_same, DaL.app (.cons (hd1.upd e26 fun z => z) .nil) ((h2.same s6).upd e26 fun z => z)⟩
            · refine Els.upd (fun y hy => (E5.same s6) y (by simp [hy])) e26 (fun y hy => ?_) x z
              exact fun w => nd2.1 (List.mem_map.mpr ⟨y, hy, w⟩)
          · rw [List.map_cons]
            exact List.nodup_cons.mpr nd2
          · intro x hx
            rcases List.mem_cons.mp hx with z | z
            · rw [z]; exact q2
            · exact hps x (by simp [z])
          · intro x hx
            rcases List.mem_cons.mp hx with z | z
            · rw [z]; simp; omega
            · have := hdl x (by simp [z]); omega
        · rw [if_neg (fun z => c1 (ewd.mp z))] at hr
          obtain ⟨⟨a1, d1⟩, ps, rfl⟩ : ∃ x l, ps = x :: l := by
            cases ps with
            | nil => simp at hr
            | cons x ps => exact ⟨x, ps, rfl⟩
          have hr : ((valM (TL.tl wd)).map fun v => (d1 ++ [v]) :: ps.map (·.2)).bind (prun ((tks d).drop (i + 1))) = some [[d]] := hr
          cases hv : valM (TL.tl wd) with
          | none => rw [hv] at hr; cases hr
          | some v0 =>
          rw [hv] at hr
          have hr : prun ((tks d).drop (i + 1)) ((d1 ++ [v0]) :: ps.map (·.2)) = some [[d]] := hr
          obtain ⟨w1, e1, h1⟩ := hE (a1, d1) (by simp)
          have e1 : H4 a1 = some (.lst w1) := e1
          have h1 : DaL (fun _ => False) H4 w1 d1 := h1
          have q1 := hps (a1, d1) (by simp)
          have nd1 := List.nodup_cons.mp (by rw [List.map_cons] at nd; exact nd)
          have hl1 : d1.length ≤ i := hdl (a1, d1) (by simp)
          have hlw := h1.len
          walk_at "g"
          refine s_ixL (SqL.of eP4) (by rw [List.map_cons]; exact atI_rev1) ?_
          refine ⟨s_tyL e1, ?_⟩
          walk_at "g"
          refine ⟨wd, v0, rfl, hv, fun u hu => ?_⟩
          walk_at "g"
          refine s_append e1 (by rw [hlw, sizeLine_eq]; omega) ?_
          walk_at "g"
          refine ⟨same_upd' s4 q1.2.2, by rw [upd_ne (Ne.symm q1.2.1)]; exact eW4, (a1, d1 ++ [v0]) :: ps, _, rfl, hr, by rw [upd_ne (Ne.symm q1.1)]; exact eP4, ?_, ?_, ?_, by simp at hpl ⊢; omega, ?_⟩
          · intro x hx
            rcases List.mem_cons.mp hx with z | z
            · rw [z]
              exact ⟨_, upd_same, DaL.app (.cons (hu _ _) .nil) (h1.upd e1 fun z => z)⟩
            · refine Els.upd (fun y hy => hE y (by simp [hy])) e1 (fun y hy => ?_) x z
              exact fun w => nd1.1 (List.mem_map.mpr ⟨y, hy, w⟩)
          · rw [List.map_cons]
            exact List.nodup_cons.mpr nd1
          · intro x hx
            rcases List.mem_cons.mp hx with z | z
            · rw [z]; exact q1
            · exact hps x (by simp [z])
          · intro x hx
            rcases List.mem_cons.mp hx with z | z
            · rw [z]; simp; omega
            · have := hdl x (by simp [z]); omega
    · rintro σ H4 ⟨s4, eW4, ps, r, rfl, hr, eP4, hE, nd, hps, hpl, hdl⟩
      rw [List.drop_eq_nil_of_le (by rw [List.length_map]; omega)] at hr
      have hr : some (ps.map (·.2)) = some [[d]] := hr
      obtain ⟨a1, rfl⟩ : ∃ a, ps = [(a, [d])] := by
        have := Option.some.inj hr
        cases ps with
        | nil => simp at this
        | cons x ps => cases ps with
          | cons y ps => simp at this
          | nil =>
            obtain ⟨a, b⟩ := x
            simp at this
            exact ⟨a, by rw [this]⟩
      obtain ⟨w1, e1, h1⟩ := hE (a1, [d]) (by simp)
      have e1 : H4 a1 = some (.lst w1) := e1
      cases h1 with
      | cons h1 ht =>
      cases ht
      walk_at "g"
      refine s_ixL (SqL.of eP4) (atI0 0 rfl rfl) ?_
      walk_at "g"
      refine s_ixL (SqL.of e1) (atI0 0 rfl rfl) ?_
      walk_at "g"
      exact k _ H4 h1 s4

open Tx
theorem tlen (z : Str) : (TL.tl z).length = z.length := Array.length_toList
theorem cat_len (a b : Str) : (a ++ b).length = a.length + b.length := by rw [← tlen, TL.tl_append, List.length_append, tlen, tlen]
theorem cut_to (x : Str) (a : Nat) : (cutS x none (some (a : Int))).length = min a x.length := by
  unfold cutS
  rw [HT.sIx_nat, HT.sIx_none]
  show ((x.cps.toList.drop 0).take (min a x.length - 0)).toArray.size = _
  have e : x.cps.size = x.length := rfl
  simp [e]
  try omega
theorem cut_from (x : Str) (a : Nat) : (cutS x (some (a : Int)) none).length = x.length - a := by
  unfold cutS
  rw [HT.sIx_nat, HT.sIx_none]
  show ((x.cps.toList.drop (min a x.length)).take (x.length - min a x.length)).toArray.size = _
  have e : x.cps.size = x.length := rfl
  simp [e]
  try omega
/-- _law_text(tape): any text, not too long -/
def sp__law_text : Sp := fun vs H Q _ => ∃ (s q : Addr) (n : Nat), vs = [.ref s] ∧ 5100 ≤ n ∧ TpQ H s q n ∧ ∀ (z : Str) H', z.length ≤ 31000 → TpQ H' s q (n - 5100) → SameB s H H' → Q (.str z) H'
theorem ok__law_text (T : Txt K mg) : FnOk P w K mg base CX0 92 (He.ga K "_law_text") (fd__law_text T) ["_law_tape_here"] sp__law_text := by
  refine (F__law_text T).ok sc__law_text (fun vs H Q E h => ?_) (fun cdv A outer s H vs Q E hr h => ⟨_, PSs.nox (pss_cons (ps_set (i := 1) sc__law_text.nd rfl (Or.inl rfl) (pe_call (ok__law_draw T) (hr.mono (by decide)) rfl (g__law_draw T) (kp__law_draw T) (B__law_draw T) .nil pass0 (pa_cons (pv 0) (pa_cons pe_int pa_nil))))
      (pss_cons (ps_if (pt_cmpR op_eq (pv 1) pe_int (nomark _)) (pss_cons (ps_set (i := 2) sc__law_text.nd rfl (Or.inl rfl) (pe_call (ok__law_draw T) (hr.mono (by decide)) rfl (g__law_draw T) (kp__law_draw T) (B__law_draw T) .nil pass0 (pa_cons (pv 0) (pa_cons pe_int pa_nil))))
      (pss_one (ps_ret (pe_op op_add_str (pe_op op_add_str (pe_op R.op_repS pe_str (pv 2)) (pe_ix ix_seq (pe_lst (pa_cons pe_str (pa_cons pe_str (pa_cons pe_str pa_nil)))) (pe_call (ok__law_draw T) (hr.mono (by decide)) rfl (g__law_draw T) (kp__law_draw T) (B__law_draw T) .nil pass0 (pa_cons (pv 0) (pa_cons pe_int pa_nil))) (fun _ _ => rfl))) (pe_op R.op_repS pe_str (pe_op op_sub (pe_op op_add (pv 2) (pe_call (ok__law_draw T) (hr.mono (by decide)) rfl (g__law_draw T) (kp__law_draw T) (B__law_draw T) .nil pass0 (pa_cons (pv 0) (pa_cons pe_int pa_nil)))) pe_int)))))) pss_nil)
      (pss_cons (ps_if (pt_cmpR op_eq (pv 1) pe_int (nomark _)) (pss_one (ps_ret (pe_op op_add_str (pe_op op_add_str (pe_ix ix_seq (pe_lst (pa_cons pe_str (pa_cons pe_str (pa_cons pe_str (pa_cons pe_str pa_nil))))) (pe_call (ok__law_draw T) (hr.mono (by decide)) rfl (g__law_draw T) (kp__law_draw T) (B__law_draw T) .nil pass0 (pa_cons (pv 0) (pa_cons pe_int pa_nil))) (fun _ _ => rfl)) (pe_op R.op_repS pe_str (pe_op op_add pe_int (pe_call (ok__law_draw T) (hr.mono (by decide)) rfl (g__law_draw T) (kp__law_draw T) (B__law_draw T) .nil pass0 (pa_cons (pv 0) (pa_cons pe_int pa_nil)))))) pe_str))) pss_nil)
      (pss_cons (ps_if (pt_cmpR op_eq (pv 1) pe_int (nomark _)) (pss_one (ps_ret (pe_op op_add_str (pe_op op_add_str (pe_op op_add_str (pe_op op_add_str pe_str (pe_slice sl_str pe_str po_none (po_some (pe_op op_add pe_int (pe_call (ok__law_draw T) (hr.mono (by decide)) rfl (g__law_draw T) (kp__law_draw T) (B__law_draw T) .nil pass0 (pa_cons (pv 0) (pa_cons pe_int pa_nil))))))) pe_str) (pe_op R.op_repS pe_str (pe_call (ok__law_draw T) (hr.mono (by decide)) rfl (g__law_draw T) (kp__law_draw T) (B__law_draw T) .nil pass0 (pa_cons (pv 0) (pa_cons pe_int pa_nil))))) pe_str))) pss_nil)
      (pss_one (ps_ret (pe_call (ok__law_written T) (hr.mono (by decide)) rfl (g__law_written T) (kp__law_written T) (B__law_written T) .nil pass0 (pa_cons (pe_call (ok__law_deep_thing T) (hr.mono (by decide)) rfl (g__law_deep_thing T) (kp__law_deep_thing T) (B__law_deep_thing T) .nil pass0 (pa_cons (pv 0) pa_nil)) pa_nil)))))))), ?_⟩)
  · obtain ⟨s, q, n, rfl, _⟩ := h; rfl
  · obtain ⟨s, q, n, rfl, hn, ht, k⟩ := h
    have l1 : ∀ {z : Str} {m : Nat}, z.length ≤ m → m ≤ 31000 → z.length ≤ sizeLine := fun h1 h2 => by rw [sizeLine_eq]; omega
    walk_at "g"
    refine ⟨s, q, 8, n, rfl, by decide, by decide, by omega, ht, fun y H1 y0 y1 t1 s1 => ?_⟩
    walk_at "g"
    refine s_ite (fun _ => ?_) (fun _ => ?_)
    · walk_at "g"
      refine ⟨s, q, 91, _, rfl, by decide, by decide, by omega, t1, fun x H2 x0 x1 t2 s2 => ?_⟩
      obtain ⟨ok1, le1⟩ := R.rep_any (z := "(") (k := x) (by decide +kernel) (by omega) (by omega)
      walk_at "g"
      refine ⟨_, _, rfl, rfl, ok1, ?_⟩
      walk_at "g"
      refine mkL (by simp) fun L H3 nL eL s3 => ?_
      walk_at "g"
      refine ⟨s, q, 3, _, rfl, by decide, by decide, by omega, t2.same s3, fun x2 H4 x20 x21 t4 s4 => ?_⟩
      have eL4 := s4 _ _ (t2.ns nL).1 eL
      have pick : ∃ z : Str, z.length ≤ 2 ∧ atI [V.str "", .str "1", .str "()"] x2 = some (.str z) := by
        have : x2 = 0 ∨ x2 = 1 ∨ x2 = 2 := by omega
        rcases this with rfl | rfl | rfl
        · exact ⟨_, by decide +kernel, rfl⟩
        · exact ⟨_, by decide +kernel, rfl⟩
        · exact ⟨_, by decide +kernel, rfl⟩
      obtain ⟨z, hz, ez⟩ := pick
      refine s_ixL (SqL.of eL4) ez ?_
      refine ⟨_, _, rfl, rfl, by rw [sizeLine_eq]; omega, ?_⟩
      walk_at "g"
      refine ⟨s, q, 3, _, rfl, by decide, by decide, by omega, t4, fun x3 H5 x30 x31 t5 s5 => ?_⟩
      obtain ⟨ok2, le2⟩ := R.rep_any (z := ")") (k := x + x3 - 1) (by decide +kernel) (by omega) (by omega)
      walk_at "g"
      refine ⟨_, _, rfl, rfl, ok2, ?_⟩
      refine ⟨_, _, rfl, rfl, by rw [cat_len, sizeLine_eq]; omega, ?_⟩
      exact k _ H5 (by rw [cat_len, cat_len]; omega) (t5.mono (by omega)) (s1.trans (s2.trans ((SameB.of s3).trans (s4.trans s5))))
    walk_at "g"
    refine s_ite (fun _ => ?_) (fun _ => ?_)
    · walk_at "g"
      refine mkL (by simp) fun L H3 nL eL s3 => ?_
      walk_at "g"
      refine ⟨s, q, 4, _, rfl, by decide, by decide, by omega, t1.same s3, fun x2 H4 x20 x21 t4 s4 => ?_⟩
      have eL4 := s4 _ _ (t1.ns nL).1 eL
      have pick : ∃ z : Str, z.length ≤ 2 ∧ atI [V.str "", .str "-", .str "(", .str "(-"] x2 = some (.str z) := by
        have : x2 = 0 ∨ x2 = 1 ∨ x2 = 2 ∨ x2 = 3 := by omega
        rcases this with rfl | rfl | rfl | rfl
        · exact ⟨_, by decide +kernel, rfl⟩
        · exact ⟨_, by decide +kernel, rfl⟩
        · exact ⟨_, by decide +kernel, rfl⟩
        · exact ⟨_, by decide +kernel, rfl⟩
      obtain ⟨z, hz, ez⟩ := pick
      refine s_ixL (SqL.of eL4) ez ?_
      walk_at "g"
      refine ⟨s, q, 3, _, rfl, by decide, by decide, by omega, t4, fun x3 H5 x30 x31 t5 s5 => ?_⟩
      obtain ⟨ok2, le2⟩ := R.rep_any (z := "1234567890") (k := 5 + x3) (by decide +kernel) (by omega) (by omega)
      walk_at "g"
      refine ⟨_, _, rfl, rfl, ok2, ?_⟩
      refine ⟨_, _, rfl, rfl, by rw [sizeLine_eq]; omega, ?_⟩
      have l2 : Str.length ")" = 1 := by decide +kernel
      walk_at "g"
      refine ⟨_, _, rfl, rfl, by rw [cat_len, l2, sizeLine_eq]; omega, ?_⟩
      exact k _ H5 (by rw [cat_len, cat_len, l2]; omega) (t5.mono (by omega)) (s1.trans ((SameB.of s3).trans (s4.trans s5)))
    walk_at "g"
    refine s_ite (fun _ => ?_) (fun _ => ?_)
    · walk_at "g"
      refine ⟨s, q, 5, _, rfl, by decide, by decide, by omega, t1, fun x2 H4 x20 x21 t4 s4 => ?_⟩
      walk_at "g"
      have l11 : Str.length "abcdefghijk" = 11 := by decide +kernel
      have lo : Str.length "(" = 1 := by decide +kernel
      have lc : Str.length ")" = 1 := by decide +kernel
      have lb : Str.length " " = 1 := by decide +kernel
      refine ⟨_, rfl, by rw [l11, sizeLine_eq]; decide, ?_⟩
      have lz := cutS_length "abcdefghijk" none (some (6 + x2))
      rw [l11] at lz
      refine ⟨_, _, rfl, rfl, by rw [lo, sizeLine_eq]; omega, ?_⟩
      walk_at "g"
      refine ⟨_, _, rfl, rfl, by rw [cat_len, lo, lb, sizeLine_eq]; omega, ?_⟩
      walk_at "g"
      refine ⟨s, q, 3, _, rfl, by decide, by decide, by omega, t4, fun x3 H5 x30 x31 t5 s5 => ?_⟩
      obtain ⟨ok2, le2⟩ := R.rep_any (z := "0") (k := x3) (by decide +kernel) (by omega) (by omega)
      walk_at "g"
      refine ⟨_, _, rfl, rfl, ok2, ?_⟩
      refine ⟨_, _, rfl, rfl, by rw [cat_len, cat_len, lo, lb, sizeLine_eq]; omega, ?_⟩
      walk_at "g"
      refine ⟨_, _, rfl, rfl, by rw [cat_len, cat_len, cat_len, lo, lb, lc, sizeLine_eq]; omega, ?_⟩
      exact k _ H5 (by rw [cat_len, cat_len, cat_len, cat_len, lo, lb, lc]; omega) (t5.mono (by omega)) (s1.trans (s4.trans s5))
    walk_at "g"
    refine ⟨s, q, n - 1, rfl, by omega, t1, fun v d H2 hv hg hw t2 s2 => ?_⟩
    walk_at "g"
    refine ⟨v, d, 80, rfl, by decide, hv, hg.shw, by omega, fun H3 s3 => ?_⟩
    exact k _ H3 (by rw [SX.S_len]; omega) ((t2.mono (by omega)).same s3) (s1.trans (s2.trans (SameB.of s3)))
/-- _law_signs() -/
def sp__law_signs : Sp := fun vs H Q _ => vs = [] ∧ ∀ z : Str, z.length = 95 → Q (.str z) H
theorem ok__law_signs (T : Txt K mg) : FnOk P w K mg base CX0 1 (He.ga K "_law_signs") (fd__law_signs T) [] sp__law_signs := by
  refine (F__law_signs T).ok sc__law_signs (fun vs H Q E h => ?_) (fun cdv A outer s H vs Q E hr h => ⟨_, PSs.nox (pss_cons (ps_set (i := 0) sc__law_signs.nd rfl (Or.inl rfl) pe_str)
      (pss_one (ps_ret (pe_op op_add_str (pv 0) pe_str)))), ?_⟩)
  · obtain ⟨rfl, _⟩ := h; rfl
  · obtain ⟨rfl, k⟩ := h
    walk_at "g"
    refine ⟨_, _, rfl, rfl, by rw [sizeLine_eq]; decide +kernel, ?_⟩
    exact k _ (by decide +kernel)
/-- _law_changed(tape, text) -/
def sp__law_changed : Sp := fun vs H Q _ => ∃ (s q : Addr) (n : Nat) (z : Str), vs = [.ref s, .str z] ∧ 30 ≤ n ∧ z.length ≤ 31000 ∧ TpQ H s q n ∧ ∀ (z : Str) H', z.length ≤ 31010 → TpQ H' s q (n - 30) → SameB s H H' → Q (.str z) H'
theorem ok__law_changed (T : Txt K mg) : FnOk P w K mg base CX0 2 (He.ga K "_law_changed") (fd__law_changed T) ["_law_tape_here", "_law_text_here"] sp__law_changed := by
  refine (F__law_changed T).ok sc__law_changed (fun vs H Q E h => ?_) (fun cdv A outer s H vs Q E hr h => ⟨_, PSs.nox (pss_cons (ps_set (i := 2) sc__law_changed.nd rfl (Or.inl rfl) pe_str)
      (pss_cons (ps_for PassesOwn.never rfl (pi_range1 rfl (T.fr (T.c.fact 44 rfl)) (pa_cons (pe_call (ok__law_draw T) (hr.mono (by decide)) rfl (g__law_draw T) (kp__law_draw T) (B__law_draw T) .nil pass0 (pa_cons (pv 0) (pa_cons pe_int pa_nil))) pa_nil)) (pg_name (i := 3) sc__law_changed.nd rfl (Or.inl rfl)) (pss_cons (ps_set (i := 4) sc__law_changed.nd rfl (Or.inl rfl) (pe_call (ok__law_draw T) (hr.mono (by decide)) rfl (g__law_draw T) (kp__law_draw T) (B__law_draw T) .nil pass0 (pa_cons (pv 0) (pa_cons (pe_op op_add (pe_callB call_len_str rfl (T.fr (T.c.fact 41 rfl)) boot_len (pa_cons (pv 1) pa_nil)) pe_int) pa_nil))))
      (pss_cons (ps_set (i := 5) sc__law_changed.nd rfl (Or.inl rfl) (pe_ix ix_str (pv 2) (pe_call (ok__law_draw T) (hr.mono (by decide)) rfl (g__law_draw T) (kp__law_draw T) (B__law_draw T) .nil pass0 (pa_cons (pv 0) (pa_cons (pe_callB call_len_str rfl (T.fr (T.c.fact 41 rfl)) boot_len (pa_cons (pv 2) pa_nil)) pa_nil))) (fun _ _ => rfl)))
      (pss_cons (ps_if (pt_cmpR op_eq (pe_call (ok__law_draw T) (hr.mono (by decide)) rfl (g__law_draw T) (kp__law_draw T) (B__law_draw T) .nil pass0 (pa_cons (pv 0) (pa_cons pe_int pa_nil))) pe_int (nomark _)) (pss_one (ps_set (i := 5) sc__law_changed.nd rfl (Or.inl rfl) (pe_ix ix_str (pe_call0 (ok__law_signs T) (hr.mono (by decide)) rfl (g__law_signs T) (kp__law_signs T) (B__law_signs T) .nil pass0) (pe_call (ok__law_draw T) (hr.mono (by decide)) rfl (g__law_draw T) (kp__law_draw T) (B__law_draw T) .nil pass0 (pa_cons (pv 0) (pa_cons pe_int pa_nil))) (fun _ _ => rfl)))) pss_nil)
      (pss_cons (ps_set (i := 6) sc__law_changed.nd rfl (Or.inl rfl) (pe_call (ok__law_draw T) (hr.mono (by decide)) rfl (g__law_draw T) (kp__law_draw T) (B__law_draw T) .nil pass0 (pa_cons (pv 0) (pa_cons pe_int pa_nil))))
      (pss_one (ps_set (i := 1) sc__law_changed.nd rfl (Or.inl rfl) (pe_op op_add_str (pe_op op_add_str (pe_slice sl_str (pv 1) po_none (po_some (pv 4))) (pe_ix ix_seq (pe_lst (pa_cons (pv 5) (pa_cons pe_str (pa_cons (pv 5) pa_nil)))) (pv 6) (fun _ _ => rfl))) (pe_slice sl_str (pv 1) (po_some (pe_op op_add (pv 4) (pe_ix ix_seq (pe_lst (pa_cons pe_int (pa_cons pe_int (pa_cons pe_int pa_nil)))) (pv 6) (fun _ _ => rfl)))) po_none)))))))))
      (pss_cons (ps_if (pt_cmpR op_eq (pe_call (ok__law_draw T) (hr.mono (by decide)) rfl (g__law_draw T) (kp__law_draw T) (B__law_draw T) .nil pass0 (pa_cons (pv 0) (pa_cons pe_int pa_nil))) pe_int (nomark _)) (pss_one (ps_set (i := 1) sc__law_changed.nd rfl (Or.inl rfl) (pe_slice sl_str (pv 1) po_none (po_some (pe_call (ok__law_draw T) (hr.mono (by decide)) rfl (g__law_draw T) (kp__law_draw T) (B__law_draw T) .nil pass0 (pa_cons (pv 0) (pa_cons (pe_op op_add (pe_callB call_len_str rfl (T.fr (T.c.fact 41 rfl)) boot_len (pa_cons (pv 1) pa_nil)) pe_int) pa_nil))))))) pss_nil)
      (pss_one (ps_ret (pv 1)))))), ?_⟩)
  · obtain ⟨s, q, n, z, rfl, _⟩ := h; rfl
  · obtain ⟨s, q, n, z, rfl, hn, hz, ht, k⟩ := h
    have l21 : Str.length "()- 0123456789azA\n*+(" = 21 := by decide +kernel
    walk_at "g"
    refine ⟨s, q, 4, n, rfl, by decide, by decide, by omega, ht, fun y H1 y0 y1 t1 s1 => ?_⟩
    walk_at "g"
    refine mkR1 y.toNat rfl (by omega) (by omega) ?_
    refine for_range (n := y.toNat) (fun i σ H' => SameB s H H' ∧ TpQ H' s q (n - 1 - 6 * i) ∧ ∃ (x : Str) (r3 r4 r5 r6 : Option V), σ = [some (.ref s), some (.str x), some (.str "()- 0123456789azA\n*+("), r3, r4, r5, r6] ∧ x.length ≤ 31000 + i) ⟨s1, t1, _, _, _, _, _, rfl, hz⟩ ?_ ?_
    · rintro i σ H2 hi ⟨s2, t2, x, r3, r4, r5, r6, rfl, hx⟩
      walk_at "g"
      refine ⟨x, rfl, by rw [sizeLine_eq]; omega, ?_⟩
      walk_at "g"
      refine ⟨s, q, _, _, rfl, by omega, by omega, by omega, t2, fun a1 H3 a10 a11 t3 s3 => ?_⟩
      walk_at "g"
      refine ⟨_, rfl, by rw [l21, sizeLine_eq]; decide, ?_⟩
      rw [l21]
      refine ⟨s, q, 21, _, rfl, by decide, by decide, by omega, t3, fun a2 H4 a20 a21 t4 s4 => ?_⟩
      obtain ⟨a2, rfl⟩ := Int.eq_ofNat_of_zero_le a20
      have h21 : a2 < ("()- 0123456789azA\n*+(" : Str).cps.toList.length := by rw [tlen, l21]; omega
      refine ⟨_, (a2 : Int), _, rfl, rfl, by rw [l21, sizeLine_eq]; decide, atI0 a2 rfl (List.getElem?_eq_getElem h21), ?_⟩
      generalize ("()- 0123456789azA\n*+(" : Str).cps.toList[a2] = c
      walk_at "h"
      refine s_join (fun σ' H' => SameB s H H' ∧ TpQ H' s q (n - 1 - 6 * i - 4) ∧ ∃ (g : Nat), σ' = [some (.ref s), some (.str x), some (.str "()- 0123456789azA\n*+("), some (.int ((0 : Int) + i)), some (.int a1), some (.str ⟨#[g]⟩), r6]) ?_ fun N J => ?_
      case refine_2 =>
        walk_at "g"
        refine ⟨s, q, 3, _, rfl, by decide, by decide, by omega, t4, fun a3 H5 a30 a31 t5 s5 => ?_⟩
        walk_at "g"
        refine s_ite (fun _ => ?_) (fun _ => ?_)
        · walk_at "g"
          refine ⟨rfl, fun zz hzz => ?_⟩
          walk_at "g"
          refine ⟨s, q, 95, _, rfl, by decide, by decide, by omega, t5, fun a4 H6 a40 a41 t6 s6 => ?_⟩
          obtain ⟨a4, rfl⟩ := Int.eq_ofNat_of_zero_le a40
          have h95 : a4 < zz.cps.toList.length := by rw [tlen, hzz]; omega
          refine ⟨_, (a4 : Int), _, rfl, rfl, by rw [hzz, sizeLine_eq]; decide, atI0 a4 rfl (List.getElem?_eq_getElem h95), ?_⟩
          walk_at "g"
          exact J _ _ ⟨s2.trans (s3.trans (s4.trans (s5.trans s6))), t6.mono (by omega), _, rfl⟩
        · walk_at "g"
          exact J _ _ ⟨s2.trans (s3.trans (s4.trans s5)), t5.mono (by omega), c, rfl⟩
      rintro σ' H5 ⟨s5, t5, g, rfl⟩
      walk_at "g"
      refine ⟨s, q, 3, _, rfl, by decide, by decide, by omega, t5, fun a5 H6 a50 a51 t6 s6 => ?_⟩
      obtain ⟨a1, rfl⟩ := Int.eq_ofNat_of_zero_le a10
      walk_at "g"
      refine ⟨x, rfl, by rw [sizeLine_eq]; omega, ?_⟩
      walk_at "g"
      refine mkL (by simp) fun L H7 nL eL s7 => ?_
      walk_at "g"
      have lg : (⟨#[g]⟩ : Str).length = 1 := rfl
      have pick : ∃ z : Str, z.length ≤ 1 ∧ atI [V.str ⟨#[g]⟩, .str "", .str ⟨#[g]⟩] a5 = some (.str z) := by
        have : a5 = 0 ∨ a5 = 1 ∨ a5 = 2 := by omega
        rcases this with rfl | rfl | rfl
        · exact ⟨⟨#[g]⟩, Nat.le_refl 1, rfl⟩
        · exact ⟨_, by decide +kernel, rfl⟩
        · exact ⟨⟨#[g]⟩, Nat.le_refl 1, rfl⟩
      obtain ⟨z1, hz1, ez1⟩ := pick
      refine s_ixL (SqL.of eL) ez1 ?_
      have hc1 := cut_to x a1
      refine ⟨_, _, rfl, rfl, by rw [sizeLine_eq]; omega, ?_⟩
      walk_at "g"
      refine mkL (by simp) fun L2 H8 nL2 eL2 s8 => ?_
      walk_at "g"
      have pick2 : ∃ m : Nat, atI [V.int 0, .int 1, .int 1] a5 = some (.int (m : Nat)) := by
        have : a5 = 0 ∨ a5 = 1 ∨ a5 = 2 := by omega
        rcases this with rfl | rfl | rfl
        · exact ⟨0, rfl⟩
        · exact ⟨1, rfl⟩
        · exact ⟨1, rfl⟩
      obtain ⟨m2, em2⟩ := pick2
      refine s_ixL (SqL.of eL2) em2 ?_
      walk_at "g"
      rw [show (a1 : Int) + (m2 : Int) = ((a1 + m2 : Nat) : Int) by push_cast; rfl]
      refine ⟨x, rfl, by rw [sizeLine_eq]; omega, ?_⟩
      have hc2 := cut_from x (a1 + m2)
      refine ⟨_, _, rfl, rfl, by rw [cat_len, sizeLine_eq]; omega, ?_⟩
      walk_at "g"
      exact ⟨s5.trans (s6.trans (SameB.of (s7.trans s8))), (t6.same (s7.trans s8)).mono (by omega), _, _, _, _, _, rfl, by rw [cat_len, cat_len]; omega⟩
    · rintro σ H2 ⟨s2, t2, x, r3, r4, r5, r6, rfl, hx⟩
      walk_at "g"
      refine ⟨s, q, 4, _, rfl, by decide, by decide, by omega, t2, fun a1 H3 a10 a11 t3 s3 => ?_⟩
      walk_at "g"
      refine s_ite (fun _ => ?_) (fun _ => ?_)
      · walk_at "g"
        refine ⟨x, rfl, by rw [sizeLine_eq]; omega, ?_⟩
        walk_at "g"
        refine ⟨s, q, _, _, rfl, by omega, by omega, by omega, t3, fun a2 H4 a20 a21 t4 s4 => ?_⟩
        walk_at "g"
        refine ⟨x, rfl, by rw [sizeLine_eq]; omega, ?_⟩
        walk_at "g"
        exact k _ H4 (Nat.le_trans (cutS_length _ _ _) (by omega)) (t4.mono (by omega)) (s2.trans (s3.trans s4))
      · walk_at "g"
        exact k x H3 (by omega) (t3.mono (by omega)) (s2.trans s3)

/-- an error made by hand, at a -/
def ErAt (K : PySem.W.Frag) (H : Hp) (a D : Addr) : Prop := ∃ (d : Option Addr) (fs : List (Str × V)), H a = some (R.exq a (.ref D) d) ∧ ∀ dd, d = some dd → H dd = some (.xd fs)
theorem ErAt.same {K : PySem.W.Frag} {H H' : Hp} {a D : Addr} (h : ErAt K H a D) (s : Same H H') : ErAt K H' a D := by
  obtain ⟨d, fs, e1, e2⟩ := h
  exact ⟨d, fs, s _ _ e1, fun dd e => s _ _ (e2 dd e)⟩
theorem s_isQ {K : PySem.W.Frag} {H : Hp} {Q : VK} {a D : Addr} {c : V} {cv : Value} {b : Bool} (h : ErAt K H a D) (hx : IsX K D) (hc : ClsV c cv) (hk : PySem.W.kitOne K (.ref D) cv = some b) (q : Q (.bl b) H) : R.rIsQ K [.ref a, c] H Q := by
  obtain ⟨d, fs, e1, e2⟩ := h
  exact ⟨a, D, d, fs, c, cv, b, rfl, e1, hx, e2, hc, hk, q⟩
theorem s_oatE {K : PySem.W.Frag} {H : Hp} {Q : VK} {σ : L2.St} {te : TE} {C fI a : Addr} {f : Str} {d : Addr} {fs : List (Str × V)} {v : V} (T : XIn K C fI f) (e1 : H a = some (R.exq a (.ref C) (some d))) (e2 : H d = some (.xd fs)) (l : fs.lookup f = some v) (q : Q v H) (h : ∀ Q' : VK, Q' (.ref a) H → te σ H Q') : R.tOat K f te σ H Q := h _ ⟨a, C, d, fs, v, rfl, e1, e2, T.xf, T.noF, l, q⟩
theorem s_mkqT {C : Addr} {sp : Sp} {ta : TA} {σ : L2.St} {H : Hp} {Q : VK} (h : tMkO C sp [] ta σ H fun cls d H' => ∀ a, H' a = none → Q (.ref a) (upd H' a (R.exq a cls d))) : R.tMkQ (tMkO C sp [] ta) σ H Q := h

def words5 : List Str := ["nought", "many", "far", "text", "row"]
/-- what a refusal's class is among those asked -/
structure KindsOf (K : PySem.W.Frag) (D : Addr) (j : Nat) : Prop where
  isx : IsX K D
  k0 : PySem.W.kitOne K (.ref D) (.ref (He.ga K "Nought")) = some (decide (0 = j))
  k1 : PySem.W.kitOne K (.ref D) (.ref (He.ga K "TooMany")) = some (decide (1 = j))
  k2 : PySem.W.kitOne K (.ref D) (.ref (He.ga K "TooFar")) = some (decide (2 = j))
  k3 : PySem.W.kitOne K (.ref D) (.ref (He.ga K "NoText")) = some (decide (3 = j))
  k4 : PySem.W.kitOne K (.ref D) (.ref (He.ga K "NoRow")) = some (decide (4 = j))
  k5 : PySem.W.kitOne K (.ref D) (.ref (He.ga K "NoNumber")) = some false
  k6 : PySem.W.kitOne K (.ref D) (.ref (He.ga K "NoPrime")) = some false
  k7 : PySem.W.kitOne K (.ref D) (.ref (He.ga K "NoInverse")) = some false
  k8 : PySem.W.kitOne K (.ref D) (.ref (He.ga K "NoOrder")) = some false
  k9 : PySem.W.kitOne K (.ref D) (.ref (He.ga K "NoRoot")) = some false
  kv : PySem.W.kitOne K (.ref D) (.type "ValueError") = some true
/-- _law_word(e) of a caught refusal -/
def sp__law_word (K : PySem.W.Frag) (a : Addr) (cls : Value) (d : Option Addr) : Sp := fun vs H Q _ => ∃ (D : Addr) (fs : List (Str × V)) (j : Nat), vs = [.ref a] ∧ cls = .ref D ∧ (∀ dd, d = some dd → H dd = some (.xd fs)) ∧ KindsOf K D j ∧ j < 5 ∧ ∀ w H', words5[j]? = some w → Same H H' → Q (.str w) H'
theorem okh__law_word (T : Txt K mg) {a : Addr} {cls : Value} {oe : Obj} {d : Option Addr} (hz : Zc cls d oe) (hf : ∃ vs, oe.data = .fields vs) : FnHeld P w K mg base CX0 1 (He.ga K "_law_word") (fd__law_word T) ["_law_e"] (a, oe) (sp__law_word K a cls d) := by
  refine held_ok (F__law_word T) sc__law_word (fun vs H Q E h => ?_) (fun cdv A out s H vs Q E hr h => ⟨_, PSs.nox (pss_cons (ps_set (i := 1) sc__law_word.nd rfl (Or.inl rfl) (pe_lst (pa_cons (pe_callB (callIsP List.mem_cons_self hz hf) rfl (T.fr (T.c.fact 45 rfl)) boot_isinstance (pa_cons (pv 0) (pa_cons (pe_glob (v := .ref (He.ga K "Nought")) rfl (g_Nought T) rfl) pa_nil))) (pa_cons (pe_callB (callIsP List.mem_cons_self hz hf) rfl (T.fr (T.c.fact 45 rfl)) boot_isinstance (pa_cons (pv 0) (pa_cons (pe_glob (v := .ref (He.ga K "TooMany")) rfl (g_TooMany T) rfl) pa_nil))) (pa_cons (pe_callB (callIsP List.mem_cons_self hz hf) rfl (T.fr (T.c.fact 45 rfl)) boot_isinstance (pa_cons (pv 0) (pa_cons (pe_glob (v := .ref (He.ga K "TooFar")) rfl (g_TooFar T) rfl) pa_nil))) (pa_cons (pe_callB (callIsP List.mem_cons_self hz hf) rfl (T.fr (T.c.fact 45 rfl)) boot_isinstance (pa_cons (pv 0) (pa_cons (pe_glob (v := .ref (He.ga K "NoText")) rfl (g_NoText T) rfl) pa_nil))) pa_nil))))))
      (pss_cons (ps_set (i := 1) sc__law_word.nd rfl (Or.inl rfl) (pe_op op_cat (pv 1) (pe_lst (pa_cons (pe_callB (callIsP List.mem_cons_self hz hf) rfl (T.fr (T.c.fact 45 rfl)) boot_isinstance (pa_cons (pv 0) (pa_cons (pe_glob (v := .ref (He.ga K "NoRow")) rfl (g_NoRow T) rfl) pa_nil))) (pa_cons (pe_callB (callIsP List.mem_cons_self hz hf) rfl (T.fr (T.c.fact 45 rfl)) boot_isinstance (pa_cons (pv 0) (pa_cons (pe_glob (v := .ref (He.ga K "NoNumber")) rfl (g_NoNumber T) rfl) pa_nil))) (pa_cons (pe_callB (callIsP List.mem_cons_self hz hf) rfl (T.fr (T.c.fact 45 rfl)) boot_isinstance (pa_cons (pv 0) (pa_cons (pe_glob (v := .ref (He.ga K "NoPrime")) rfl (g_NoPrime T) rfl) pa_nil))) (pa_cons (pe_callB (callIsP List.mem_cons_self hz hf) rfl (T.fr (T.c.fact 45 rfl)) boot_isinstance (pa_cons (pv 0) (pa_cons (pe_glob (v := .ref (He.ga K "NoInverse")) rfl (g_NoInverse T) rfl) pa_nil))) pa_nil)))))))
      (pss_cons (ps_set (i := 1) sc__law_word.nd rfl (Or.inl rfl) (pe_op op_cat (pv 1) (pe_lst (pa_cons (pe_callB (callIsP List.mem_cons_self hz hf) rfl (T.fr (T.c.fact 45 rfl)) boot_isinstance (pa_cons (pv 0) (pa_cons (pe_glob (v := .ref (He.ga K "NoOrder")) rfl (g_NoOrder T) rfl) pa_nil))) (pa_cons (pe_callB (callIsP List.mem_cons_self hz hf) rfl (T.fr (T.c.fact 45 rfl)) boot_isinstance (pa_cons (pv 0) (pa_cons (pe_glob (v := .ref (He.ga K "NoRoot")) rfl (g_NoRoot T) rfl) pa_nil))) (pa_cons (pe_not (pe_callB (callIsP List.mem_cons_self hz hf) rfl (T.fr (T.c.fact 45 rfl)) boot_isinstance (pa_cons (pv 0) (pa_cons (pe_bltn (v := .ty "ValueError") rfl (T.fr (T.c.fact 51 rfl)) (by decide +kernel) rfl) pa_nil)))) pa_nil))))))
      (pss_cons (ps_set (i := 2) sc__law_word.nd rfl (Or.inl rfl) (pe_lst (pa_cons pe_str (pa_cons pe_str (pa_cons pe_str (pa_cons pe_str (pa_cons pe_str pa_nil)))))))
      (pss_cons (ps_if (PW.pt (pw_and (pt_cmpR op_eq (pe_bm PySem.F.plainAttrs_list PySem.F.slot_list_count PySem.F.type_list_count mt_countF (pv 1) (pa_cons pe_bl pa_nil)) pe_int (nomark _)) (pw_and1 (pt_cmpR op_in_seq pe_bl (pe_slice sl_list (pv 1) po_none (po_some pe_int)) rfl)))) (pss_one (ps_ret (pe_ix ix_seq (pv 2) (pe_bm PySem.F.plainAttrs_list PySem.F.slot_list_index PySem.F.type_list_index mt_index (pv 1) (pa_cons pe_bl pa_nil)) (fun _ _ => rfl)))) pss_nil)
      (pss_one (ps_ret pe_str))))))), ?_⟩)
  · obtain ⟨D, fs, j, rfl, _⟩ := h; rfl
  · obtain ⟨D, fs, j, rfl, rfl, hd, kd, hj, k⟩ := h
    have h5 : j = 0 ∨ j = 1 ∨ j = 2 ∨ j = 3 ∨ j = 4 := by omega
    walk_at "g"
    refine s_isA kd.isx hd (.own _) kd.k0 ?_
    walk_at "g"
    refine s_isA kd.isx hd (.own _) kd.k1 ?_
    walk_at "g"
    refine s_isA kd.isx hd (.own _) kd.k2 ?_
    walk_at "g"
    refine s_isA kd.isx hd (.own _) kd.k3 ?_
    walk_at "g"
    refine mkL (by simp) fun l1 H1 n1 e1 s1 => ?_
    have hd1 : ∀ dd, d = some dd → H1 dd = some (.xd fs) := fun dd e => s1 _ _ (hd dd e)
    walk_at "g"
    refine s_isA kd.isx hd1 (.own _) kd.k4 ?_
    walk_at "g"
    refine s_isA kd.isx hd1 (.own _) kd.k5 ?_
    walk_at "g"
    refine s_isA kd.isx hd1 (.own _) kd.k6 ?_
    walk_at "g"
    refine s_isA kd.isx hd1 (.own _) kd.k7 ?_
    walk_at "g"
    refine mkL (by simp) fun l2 H2 n2 e2 s2 => ?_
    walk_at "g"
    refine mkCat (s2 _ _ e1) e2 (by simp) fun l3 H3 n3 e3 s3 => ?_
    have hd3 : ∀ dd, d = some dd → H3 dd = some (.xd fs) := fun dd e => s3 _ _ (s2 _ _ (hd1 dd e))
    walk_at "g"
    refine s_isA kd.isx hd3 (.own _) kd.k8 ?_
    walk_at "g"
    refine s_isA kd.isx hd3 (.own _) kd.k9 ?_
    walk_at "g"
    refine s_isA kd.isx hd3 (.ty _) kd.kv ?_
    walk_at "g"
    refine mkL (by simp) fun l4 H4 n4 e4 s4 => ?_
    walk_at "g"
    refine mkCat (s4 _ _ e3) e4 (by simp) fun l5 H5 n5 e5 s5 => ?_
    walk_at "g"
    refine mkL (by simp) fun l6 H6 n6 e6 s6 => ?_
    have e5' := s6 _ _ e5
    have e5' : H6 l5 = some (.lst [.bl (decide (0 = j)), .bl (decide (1 = j)), .bl (decide (2 = j)), .bl (decide (3 = j)), .bl (decide (4 = j)), .bl false, .bl false, .bl false, .bl false, .bl false, .bl false]) := e5'
    walk_at "g"
    refine ⟨s_tyL e5', ?_⟩
    walk_at "g"
    refine ⟨l5, _, .bl true, rfl, rfl, SqL.of e5', rfl, by rfl, ?_⟩
    walk_at "g"
    refine s_itP (by rcases h5 with rfl | rfl | rfl | rfl | rfl <;> rfl) ?_
    walk_at "g"
    refine mkSl (SqL.of e5') fun l7 H7 n7 e7 s7 => ?_
    have e7 : H7 l7 = some (.lst [.bl (decide (0 = j)), .bl (decide (1 = j)), .bl (decide (2 = j)), .bl (decide (3 = j)), .bl (decide (4 = j))]) := e7
    refine ⟨l7, _, rfl, .inl (SqL.of e7), rfl, by rfl, ?_⟩
    have hin : inV (.bl true) [.bl (decide (0 = j)), .bl (decide (1 = j)), .bl (decide (2 = j)), .bl (decide (3 = j)), .bl (decide (4 = j))] = true := by rcases h5 with rfl | rfl | rfl | rfl | rfl <;> rfl
    rw [hin, if_neg Bool.false_ne_true]
    walk_at "g"
    refine ⟨s_tyL (s7 _ _ e5'), ?_⟩
    walk_at "g"
    refine ⟨l5, _, .bl true, j, .bl true, rfl, rfl, SqL.of (s7 _ _ e5'), rfl, by rfl, by rcases h5 with rfl | rfl | rfl | rfl | rfl <;> rfl, rfl, fun m z hm hz => ?_, ?_⟩
    · rcases h5 with rfl | rfl | rfl | rfl | rfl
      · omega
      · obtain rfl : m = 0 := by omega
        cases hz; rfl
      · rcases (show m = 0 ∨ m = 1 by omega) with rfl | rfl <;> (cases hz; rfl)
      · rcases (show m = 0 ∨ m = 1 ∨ m = 2 by omega) with rfl | rfl | rfl <;> (cases hz; rfl)
      · rcases (show m = 0 ∨ m = 1 ∨ m = 2 ∨ m = 3 by omega) with rfl | rfl | rfl | rfl <;> (cases hz; rfl)
    · obtain ⟨w, hw⟩ : ∃ w, words5[j]? = some w := by rcases h5 with rfl | rfl | rfl | rfl | rfl <;> exact ⟨_, rfl⟩
      refine s_ixL (SqL.of (s7 _ _ e6)) (atI_nat (j := j) (v := .str w) (by rcases h5 with rfl | rfl | rfl | rfl | rfl <;> (cases hw; rfl))) ?_
      exact k w _ hw (s1.trans (s2.trans (s3.trans (s4.trans (s5.trans (s6.trans s7))))))

/-- _law_word(e) of an error made by hand -/
def sp_wordq (K : PySem.W.Frag) : Sp := fun vs H Q _ => ∃ (a D : Addr) (j : Nat), vs = [.ref a] ∧ ErAt K H a D ∧ KindsOf K D j ∧ j < 5 ∧ ∀ w H', words5[j]? = some w → Same H H' → Q (.str w) H'
theorem ok_wordq (T : Txt K mg) : FnOk P w K mg base CX0 1 (He.ga K "_law_word") (fd__law_word T) ["_law_e"] (sp_wordq K) := by
  refine (F__law_word T).ok sc__law_word (fun vs H Q E h => ?_) (fun cdv A outer s H vs Q E hr h => ⟨_, PSs.nox (pss_cons (ps_set (i := 1) sc__law_word.nd rfl (Or.inl rfl) (pe_lst (pa_cons (pe_callB callIsQ rfl (T.fr (T.c.fact 45 rfl)) boot_isinstance (pa_cons (pv 0) (pa_cons (pe_glob (v := .ref (He.ga K "Nought")) rfl (g_Nought T) rfl) pa_nil))) (pa_cons (pe_callB callIsQ rfl (T.fr (T.c.fact 45 rfl)) boot_isinstance (pa_cons (pv 0) (pa_cons (pe_glob (v := .ref (He.ga K "TooMany")) rfl (g_TooMany T) rfl) pa_nil))) (pa_cons (pe_callB callIsQ rfl (T.fr (T.c.fact 45 rfl)) boot_isinstance (pa_cons (pv 0) (pa_cons (pe_glob (v := .ref (He.ga K "TooFar")) rfl (g_TooFar T) rfl) pa_nil))) (pa_cons (pe_callB callIsQ rfl (T.fr (T.c.fact 45 rfl)) boot_isinstance (pa_cons (pv 0) (pa_cons (pe_glob (v := .ref (He.ga K "NoText")) rfl (g_NoText T) rfl) pa_nil))) pa_nil))))))
      (pss_cons (ps_set (i := 1) sc__law_word.nd rfl (Or.inl rfl) (pe_op op_cat (pv 1) (pe_lst (pa_cons (pe_callB callIsQ rfl (T.fr (T.c.fact 45 rfl)) boot_isinstance (pa_cons (pv 0) (pa_cons (pe_glob (v := .ref (He.ga K "NoRow")) rfl (g_NoRow T) rfl) pa_nil))) (pa_cons (pe_callB callIsQ rfl (T.fr (T.c.fact 45 rfl)) boot_isinstance (pa_cons (pv 0) (pa_cons (pe_glob (v := .ref (He.ga K "NoNumber")) rfl (g_NoNumber T) rfl) pa_nil))) (pa_cons (pe_callB callIsQ rfl (T.fr (T.c.fact 45 rfl)) boot_isinstance (pa_cons (pv 0) (pa_cons (pe_glob (v := .ref (He.ga K "NoPrime")) rfl (g_NoPrime T) rfl) pa_nil))) (pa_cons (pe_callB callIsQ rfl (T.fr (T.c.fact 45 rfl)) boot_isinstance (pa_cons (pv 0) (pa_cons (pe_glob (v := .ref (He.ga K "NoInverse")) rfl (g_NoInverse T) rfl) pa_nil))) pa_nil)))))))
      (pss_cons (ps_set (i := 1) sc__law_word.nd rfl (Or.inl rfl) (pe_op op_cat (pv 1) (pe_lst (pa_cons (pe_callB callIsQ rfl (T.fr (T.c.fact 45 rfl)) boot_isinstance (pa_cons (pv 0) (pa_cons (pe_glob (v := .ref (He.ga K "NoOrder")) rfl (g_NoOrder T) rfl) pa_nil))) (pa_cons (pe_callB callIsQ rfl (T.fr (T.c.fact 45 rfl)) boot_isinstance (pa_cons (pv 0) (pa_cons (pe_glob (v := .ref (He.ga K "NoRoot")) rfl (g_NoRoot T) rfl) pa_nil))) (pa_cons (pe_not (pe_callB callIsQ rfl (T.fr (T.c.fact 45 rfl)) boot_isinstance (pa_cons (pv 0) (pa_cons (pe_bltn (v := .ty "ValueError") rfl (T.fr (T.c.fact 51 rfl)) (by decide +kernel) rfl) pa_nil)))) pa_nil))))))
      (pss_cons (ps_set (i := 2) sc__law_word.nd rfl (Or.inl rfl) (pe_lst (pa_cons pe_str (pa_cons pe_str (pa_cons pe_str (pa_cons pe_str (pa_cons pe_str pa_nil)))))))
      (pss_cons (ps_if (PW.pt (pw_and (pt_cmpR op_eq (pe_bm PySem.F.plainAttrs_list PySem.F.slot_list_count PySem.F.type_list_count mt_countF (pv 1) (pa_cons pe_bl pa_nil)) pe_int (nomark _)) (pw_and1 (pt_cmpR op_in_seq pe_bl (pe_slice sl_list (pv 1) po_none (po_some pe_int)) rfl)))) (pss_one (ps_ret (pe_ix ix_seq (pv 2) (pe_bm PySem.F.plainAttrs_list PySem.F.slot_list_index PySem.F.type_list_index mt_index (pv 1) (pa_cons pe_bl pa_nil)) (fun _ _ => rfl)))) pss_nil)
      (pss_one (ps_ret pe_str))))))), ?_⟩)
  · obtain ⟨a, D, j, rfl, _⟩ := h; rfl
  · obtain ⟨a, D, j, rfl, hE, kd, hj, k⟩ := h
    have h5 : j = 0 ∨ j = 1 ∨ j = 2 ∨ j = 3 ∨ j = 4 := by omega
    walk_at "g"
    refine s_isQ hE kd.isx (.own _) kd.k0 ?_
    walk_at "g"
    refine s_isQ hE kd.isx (.own _) kd.k1 ?_
    walk_at "g"
    refine s_isQ hE kd.isx (.own _) kd.k2 ?_
    walk_at "g"
    refine s_isQ hE kd.isx (.own _) kd.k3 ?_
    walk_at "g"
    refine mkL (by simp) fun l1 H1 n1 e1 s1 => ?_
    have hE1 := hE.same s1
    walk_at "g"
    refine s_isQ hE1 kd.isx (.own _) kd.k4 ?_
    walk_at "g"
    refine s_isQ hE1 kd.isx (.own _) kd.k5 ?_
    walk_at "g"
    refine s_isQ hE1 kd.isx (.own _) kd.k6 ?_
    walk_at "g"
    refine s_isQ hE1 kd.isx (.own _) kd.k7 ?_
    walk_at "g"
    refine mkL (by simp) fun l2 H2 n2 e2 s2 => ?_
    walk_at "g"
    refine mkCat (s2 _ _ e1) e2 (by simp) fun l3 H3 n3 e3 s3 => ?_
    have hE3 := hE1.same (s2.trans s3)
    walk_at "g"
    refine s_isQ hE3 kd.isx (.own _) kd.k8 ?_
    walk_at "g"
    refine s_isQ hE3 kd.isx (.own _) kd.k9 ?_
    walk_at "g"
    refine s_isQ hE3 kd.isx (.ty _) kd.kv ?_
    walk_at "g"
    refine mkL (by simp) fun l4 H4 n4 e4 s4 => ?_
    walk_at "g"
    refine mkCat (s4 _ _ e3) e4 (by simp) fun l5 H5 n5 e5 s5 => ?_
    walk_at "g"
    refine mkL (by simp) fun l6 H6 n6 e6 s6 => ?_
    have e5' := s6 _ _ e5
    have e5' : H6 l5 = some (.lst [.bl (decide (0 = j)), .bl (decide (1 = j)), .bl (decide (2 = j)), .bl (decide (3 = j)), .bl (decide (4 = j)), .bl false, .bl false, .bl false, .bl false, .bl false, .bl false]) := e5'
    walk_at "g"
    refine ⟨s_tyL e5', ?_⟩
    walk_at "g"
    refine ⟨l5, _, .bl true, rfl, rfl, SqL.of e5', rfl, by rfl, ?_⟩
    walk_at "g"
    refine s_itP (by rcases h5 with rfl | rfl | rfl | rfl | rfl <;> rfl) ?_
    walk_at "g"
    refine mkSl (SqL.of e5') fun l7 H7 n7 e7 s7 => ?_
    have e7 : H7 l7 = some (.lst [.bl (decide (0 = j)), .bl (decide (1 = j)), .bl (decide (2 = j)), .bl (decide (3 = j)), .bl (decide (4 = j))]) := e7
    refine ⟨l7, _, rfl, .inl (SqL.of e7), rfl, by rfl, ?_⟩
    have hin : inV (.bl true) [.bl (decide (0 = j)), .bl (decide (1 = j)), .bl (decide (2 = j)), .bl (decide (3 = j)), .bl (decide (4 = j))] = true := by rcases h5 with rfl | rfl | rfl | rfl | rfl <;> rfl
    rw [hin, if_neg Bool.false_ne_true]
    walk_at "g"
    refine ⟨s_tyL (s7 _ _ e5'), ?_⟩
    walk_at "g"
    refine ⟨l5, _, .bl true, j, .bl true, rfl, rfl, SqL.of (s7 _ _ e5'), rfl, by rfl, by rcases h5 with rfl | rfl | rfl | rfl | rfl <;> rfl, rfl, fun m z hm hz => ?_, ?_⟩
    · rcases h5 with rfl | rfl | rfl | rfl | rfl
      · omega
      · obtain rfl : m = 0 := by omega
        cases hz; rfl
      · rcases (show m = 0 ∨ m = 1 by omega) with rfl | rfl <;> (cases hz; rfl)
      · rcases (show m = 0 ∨ m = 1 ∨ m = 2 by omega) with rfl | rfl | rfl <;> (cases hz; rfl)
      · rcases (show m = 0 ∨ m = 1 ∨ m = 2 ∨ m = 3 by omega) with rfl | rfl | rfl | rfl <;> (cases hz; rfl)
    · obtain ⟨w, hw⟩ : ∃ w, words5[j]? = some w := by rcases h5 with rfl | rfl | rfl | rfl | rfl <;> exact ⟨_, rfl⟩
      refine s_ixL (SqL.of (s7 _ _ e6)) (atI_nat (j := j) (v := .str w) (by rcases h5 with rfl | rfl | rfl | rfl | rfl <;> (cases hw; rfl))) ?_
      exact k w _ hw (s1.trans (s2.trans (s3.trans (s4.trans (s5.trans (s6.trans s7))))))

theorem kind_NoText (T : Txt K mg) : KindsOf K (He.ga K "NoText") 3 := ⟨i_NoText T, k_NoText_Nought T, k_NoText_TooMany T, k_NoText_TooFar T, k_NoText_NoText T, k_NoText_NoRow T, k_NoText_NoNumber T, k_NoText_NoPrime T, k_NoText_NoInverse T, k_NoText_NoOrder T, k_NoText_NoRoot T, k_NoText_ValueError T⟩
theorem s_xfL {a C d : Addr} {f : Str} {v : V} {fs : List (Str × V)} {i : Nat} {σ : L2.St} {H : Hp} {Q : VK} (e : σ[i]? = some (some (.ref a))) (hx : H d = some (.xd fs)) (l : fs.lookup f = some v) (h : Q v H) : tXf a (.ref C) (some d) C f (tVar i) σ H Q := ⟨_, e, rfl, rfl, d, _, v, rfl, hx, l, h⟩
open Tx
/-- _law_read(text) -/
def sp__law_read (K : PySem.W.Frag) : Sp := fun vs H Q _ => ∃ S : Str, vs = [.str S] ∧ S.length ≤ sizeLine ∧
  (∀ d v F H', Th 0 (TL.tl S) (.ok d []) → Same H H' → Tu H' v d → H' F = some (.lst [v, .non]) → Q (.ref F) H') ∧
  (∀ w F W H', RdNo (TL.tl S) w → Same H H' → H' F = some (.lst [.non, .ref W]) → H' W = some (.tup [.int 0, .int (w : Nat)]) → Q (.ref F) H')
theorem ok__law_read (T : Txt K mg) : FnOk P w K mg base CX0 172 (He.ga K "_law_read") (fd__law_read T) ["_law_text_here"] (sp__law_read K) := by
  refine (F__law_read T).ok sc__law_read (fun vs H Q E h => ?_) (fun cdv A outer s H vs Q E hr h => ⟨_, PSs.nox (pss_cons (ps_set (i := 1) sc__law_read.nd rfl (Or.inl rfl) (pe_lst (pa_cons pe_non (pa_cons pe_non pa_nil))))
      (pss_cons (ps_try_as (i := 2) (Wout := fun _ _ _ _ => False) rfl rfl sc__law_read.nd rfl rfl ⟨rfl, by decide, .inl (g_PrimeError T)⟩ takes0 (fun W pn xe tk po => (pss_one (ps_asg (pe_callS (ok_read T) (hr.mono (by decide)) rfl (g_read T) (kp_read T) (B_read T) (fun σ => passAt tk σ) (pa_cons (pv 0) pa_nil)) (pg_sub (pv 1) pe_int set_list)))) (fun a oe cls d pn hz hf => (pss_cons (ps_asg (pe_callHeld (okh__law_word T hz hf) List.mem_cons_self (room_in (hr.mono (by decide))) rfl (g__law_word T) (kp__law_word T) (B__law_word T) pass0 (pa_cons (pv 2) pa_nil)) (pg_sub (pv 1) pe_int set_list))
      (pss_one (ps_if (pt_cmpR op_eq (pe_ix (R.ix_seqK K rfl) (pv 1) pe_int (fun _ _ => rfl)) pe_str (nomark _)) (pss_one (ps_asg (pe_tup (pa_cons (pe_xf (x_NoText T).xf (x_NoText T).noF hz hf (pv 2)) (pa_cons (pe_xf (x_NoText T).xf (y_NoText T).noF hz hf (pv 2)) pa_nil))) (pg_sub (pv 1) pe_int set_list))) pss_nil)))))
      (pss_one (ps_ret (pv 1))))), ?_⟩)
  · obtain ⟨S, rfl, _⟩ := h; rfl
  · obtain ⟨S, rfl, hl, k1, k2⟩ := h
    walk_at "g"
    refine mkL (by simp) fun F H1 nF eF s1 => ?_
    walk_at "g"
    refine ⟨S, rfl, hl, fun d v H2 hth hv s2 => ?_, fun w x H2 hno nx s2 hx => ?_⟩
    · have eF2 := s2 _ _ eF
      walk_at "g"
      refine s_setL 0 eF2 (by rfl) ?_
      walk_at "g"
      exact k1 d v F _ hth (same_upd' (s1.trans s2) nF) (hv.upd eF2 fun z => z) upd_same
    · refine ⟨true, e_NoText_PrimeError T, fun _ a0 ha0 => ?_, fun z => Bool.noConfusion z⟩
      have eF2 := s2 _ _ eF
      walk_at "g"
      refine ⟨_, _, 3, rfl, rfl, (fun dd e => by cases e; exact hx), kind_NoText T, by decide, fun wd H3 hwd s3 => ?_⟩
      cases hwd
      have eF3 := s3 _ _ eF2
      walk_at "g"
      refine s_setL 1 eF3 (by rfl) ?_
      have nFx : x ≠ F := fun z => by rw [z, s1.free nx |> fun _ => eF] at nx; cases nx
      have hx3 : L2.upd H3 F (.lst ([V.non, V.non].set 1 (V.str "text"))) x = some (.xd [("word", .int (w : Nat)), ("line", .int 0)]) := by rw [upd_ne nFx]; exact s3 _ _ hx
      have eF4 : L2.upd H3 F (.lst ([V.non, V.non].set 1 (V.str "text"))) F = some (.lst [V.non, V.str "text"]) := upd_same
      have s4 : Same H (L2.upd H3 F (.lst ([V.non, V.non].set 1 (V.str "text")))) := same_upd' (s1.trans (s2.trans s3)) nF
      generalize L2.upd H3 F (.lst ([V.non, V.non].set 1 (V.str "text"))) = H4 at hx3 eF4 s4 ⊢
      walk_at "g"
      refine s_ixL (SqL.of eF4) (atI0 1 rfl rfl) ?_
      walk_at "g"
      refine s_xfL rfl hx3 (by rfl) ?_
      walk_at "g"
      refine s_xfL rfl hx3 (by rfl) ?_
      walk_at "g"
      refine mkT (by simp) fun W H5 nW eW s5 => ?_
      have eF5 := s5 _ _ eF4
      walk_at "g"
      refine s_setL 1 eF5 (by rfl) ?_
      have nWF : W ≠ F := fun z => by rw [z, eF4] at nW; cases nW
      walk_at "g"
      exact k2 w F W _ hno (same_upd' (s4.trans s5) nF) upd_same (by rw [upd_ne nWF]; exact eW)

open Tx
theorem words_none (d : PyData) (h : Gd 80 d) (hl : (txt d).length ≤ 31010) : Nst 80 d := gd_nst h (by omega)
theorem s_oatY {K : PySem.W.Frag} {H : Hp} {Q : VK} {σ : L2.St} {te : TE} {C fI a : Addr} {f : Str} {d : Addr} {fs : List (Str × V)} {v : V} (T : XIn K C fI f) (e1 : H a = some (R.exq a (.ref C) (some d))) (e2 : H d = some (.xd fs)) (l : fs.lookup f = some v) (q : Q v H) (h : ∀ Q' : VK, Q' (.ref a) H → te σ H Q') : R.tOat K f te σ H Q := h _ ⟨a, C, d, fs, v, rfl, e1, e2, T.xf, T.noF, l, q⟩
/-- the law -/
def sp_law (K : PySem.W.Frag) : Sp := fun vs H Q _ => ∃ (a : Addr) (ns : List Int), vs = [.ref a] ∧ ns.length ≤ 63 ∧ SqL K H a (ns.map V.int) ∧ ∀ H', Q (.bl true) H'
theorem ok_law (T : Txt K mg) : FnOk P w K mg base CX0 173 (He.ga K "law") (fd_law T) ["_law_script"] (sp_law K) := by
  refine (F_law T).ok sc_law (fun vs H Q E h => ?_) (fun cdv A outer s H vs Q E hr h => ⟨_, PSs.nox (pss_cons (ps_set (i := 1) sc_law.nd rfl (Or.inl rfl) (pe_call (ok__law_tape T) (hr.mono (by decide)) rfl (g__law_tape T) (kp__law_tape T) (B__law_tape T) .nil pass0 (pa_cons (pv 0) pa_nil)))
      (pss_cons (ps_set (i := 2) sc_law.nd rfl (Or.inl rfl) (pe_mk (pmk_oex (x_NoText T).oex (x_NoText T).iC (x_NoText T).tI (ok_init_NoText T) (hr.mono (by decide)) (B_init_NoText T) .nil pass0 rfl (g_NoText T) (pa_cons (pe_call (ok__law_draw T) (hr.mono (by decide)) rfl (g__law_draw T) (kp__law_draw T) (B__law_draw T) .nil pass0 (pa_cons (pv 1) (pa_cons pe_int pa_nil))) (pa_cons (pe_op op_add pe_int (pe_call (ok__law_draw T) (hr.mono (by decide)) rfl (g__law_draw T) (kp__law_draw T) (B__law_draw T) .nil pass0 (pa_cons (pv 1) (pa_cons pe_int pa_nil)))) pa_nil)))))
      (pss_cons (ps_if (pt_not (pt_val (pe_call (ok__law_same T) (hr.mono (by decide)) rfl (g__law_same T) (kp__law_same T) (B__law_same T) .nil pass0 (pa_cons (pe_tup (pa_cons (pe_cmpR op_lt (pe_oat (pv 2)) pe_int (nomark _)) (pa_cons (pe_op op_fdivW (pe_oat (pv 2)) pe_int) (pa_cons (pe_call (ok_wordq T) (hr.mono (by decide)) rfl (g__law_word T) (kp__law_word T) (B__law_word T) .nil pass0 (pa_cons (pv 2) pa_nil)) pa_nil)))) (pa_cons (pe_tup (pa_cons pe_bl (pa_cons pe_int (pa_cons pe_str pa_nil)))) pa_nil))))) (pss_one (ps_ret pe_bl)) pss_nil)
      (pss_cons (ps_for PassesOwn.never rfl (pi_range1 rfl (T.fr (T.c.fact 44 rfl)) (pa_cons pe_int pa_nil)) (pg_name (i := 3) sc_law.nd rfl (Or.inl rfl)) (pss_cons (ps_set (i := 4) sc_law.nd rfl (Or.inl rfl) (pe_call (ok__law_changed T) (hr.mono (by decide)) rfl (g__law_changed T) (kp__law_changed T) (B__law_changed T) .nil pass0 (pa_cons (pv 1) (pa_cons (pe_call (ok__law_text T) (hr.mono (by decide)) rfl (g__law_text T) (kp__law_text T) (B__law_text T) .nil pass0 (pa_cons (pv 1) pa_nil)) pa_nil))))
      (pss_cons (ps_set (i := 5) sc_law.nd rfl (Or.inl rfl) (pe_call (ok__law_first_wrong T) (hr.mono (by decide)) rfl (g__law_first_wrong T) (kp__law_first_wrong T) (B__law_first_wrong T) .nil pass0 (pa_cons (pv 4) pa_nil)))
      (pss_cons (ps_set (i := 6) sc_law.nd rfl (Or.inl rfl) (pe_lst (pa_cons pe_non (pa_cons (pe_tup (pa_cons pe_int (pa_cons (pv 5) pa_nil))) pa_nil))))
      (pss_cons (ps_if (pt_cmpR op_isN1 (pv 5) pe_non (nomark _)) (pss_one (ps_set (i := 6) sc_law.nd rfl (Or.inl rfl) (pe_lst (pa_cons (pe_call (ok__law_built T) (hr.mono (by decide)) rfl (g__law_built T) (kp__law_built T) (B__law_built T) .nil pass0 (pa_cons (pv 4) pa_nil)) (pa_cons pe_non pa_nil))))) pss_nil)
      (pss_one (ps_if (pt_not (pt_val (pe_call (ok__law_same T) (hr.mono (by decide)) rfl (g__law_same T) (kp__law_same T) (B__law_same T) .nil pass0 (pa_cons (pe_call (ok__law_read T) (hr.mono (by decide)) rfl (g__law_read T) (kp__law_read T) (B__law_read T) .nil pass0 (pa_cons (pv 4) pa_nil)) (pa_cons (pv 6) pa_nil))))) (pss_one (ps_ret pe_bl)) pss_nil)))))))
      (pss_one (ps_ret pe_bl)))))), ?_⟩)
  · obtain ⟨a, ns, rfl, _⟩ := h; rfl
  · obtain ⟨a, ns, rfl, hlen, hS, k⟩ := h
    walk_at "g"
    refine ⟨a, ns, rfl, hlen, hS, fun s q H1 ns1 s1 ht => ?_⟩
    walk_at "g"
    refine s_mkqT ?_
    walk_at "g"
    refine ⟨s, q, 60, _, rfl, by decide, by decide, by decide, ht, fun y H2 y0 y1 t2 s2 => ?_⟩
    walk_at "g"
    refine ⟨s, q, 9, _, rfl, by decide, by decide, by decide, t2, fun x H3 x0 x1 t3 s3 => ?_⟩
    walk_at "g"
    refine R.s_raise2 (x_NoText T).oex (x_NoText T).noF (y_NoText T).noF fun X1 H4 nX1 eX1 s4 => fun a1 na1 => ?_
    have s5 : Same H4 (upd H4 a1 (R.exq a1 (.ref (He.ga K "NoText")) (some X1))) := same_upd na1
    have e5 : upd H4 a1 (R.exq a1 (.ref (He.ga K "NoText")) (some X1)) a1 = some (R.exq a1 (.ref (He.ga K "NoText")) (some X1)) := upd_same
    generalize upd H4 a1 (R.exq a1 (.ref (He.ga K "NoText")) (some X1)) = H5 at s5 e5 ⊢
    have eX5 := s5 _ _ eX1
    walk_at "g"
    refine s_oatE (x_NoText T) e5 eX5 (by rfl) ?_ (fun Q' q' => ⟨_, rfl, q'⟩)
    walk_at "g"
    refine s_oatE (y_NoText T) e5 eX5 (by rfl) ?_ (fun Q' q' => ⟨_, rfl, q'⟩)
    walk_at "g"
    refine ⟨a1, He.ga K "NoText", 3, rfl, ⟨some X1, _, e5, fun dd e => by cases e; exact eX5⟩, kind_NoText T, by decide, fun wd H6 hwd s6 => ?_⟩
    cases hwd
    walk_at "g"
    refine mkT (by simp) fun T1 H7 nT1 eT1 s7 => ?_
    walk_at "g"
    refine mkT (by simp) fun T2 H8 nT2 eT2 s8 => ?_
    rw [decide_eq_true (show y < 60 from y1), show ((100 : Int) + x) / 10 = 10 by omega] at eT1
    have hT1 : Da H8 (.ref T1) (.tuple [.bool true, .int 10, .str "text"]) := .tup (s8 _ _ eT1) (.cons (.bl _) (.cons (.int _) (.cons (.str _) .nil)))
    have hT2 : Da H8 (.ref T2) (.tuple [.bool true, .int 10, .str "text"]) := .tup eT2 (.cons (.bl _) (.cons (.int _) (.cons (.str _) .nil)))
    walk_at "g"
    refine ⟨_, _, _, 1, rfl, by decide, hT1, hT2, .tup (by decide) (by
      intro e he
      simp only [List.mem_cons, List.not_mem_nil, or_false] at he
      rcases he with rfl | rfl | rfl <;> exact .atom rfl rfl), fun H9 s9 => ?_⟩
    have t9 := t3.same (s4.trans (s5.trans (s6.trans (s7.trans (s8.trans s9)))))
    walk_at "g"
    refine mkR1 4 rfl (by decide) (by decide) ?_
    refine for_range (n := 4) (fun i σ H' => TpQ H' s q (999990 - 5200 * i) ∧ ∃ r1 r2 r3 r4 : Option V, σ = [some (.ref a), some (.ref s), some (.ref a1), r1, r2, r3, r4]) ⟨t9.mono (by decide), _, _, _, _, rfl⟩ ?_ ?_
    · rintro i σ G1 hi ⟨u1, r1, r2, r3, r4, rfl⟩
      walk_at "g"
      refine ⟨s, q, _, rfl, by omega, u1, fun z0 G2 hz0 u2 v2 => ?_⟩
      walk_at "g"
      refine ⟨s, q, _, z0, rfl, by omega, hz0, u2, fun z G3 hz u3 v3 => ?_⟩
      have hzl : z.length = (TL.tl z).length := (tlen z).symm
      have fin : ∀ {G : Hp} (x4 x5 x6 : Option V), Same G3 G → TpQ G s q (999990 - 5200 * (i + 1)) ∧ ∃ r1 r2 r3 r4 : Option V, [some (V.ref a), some (.ref s), some (.ref a1), some (.int ((0 : Int) + i)), x4, x5, x6] = [some (V.ref a), some (.ref s), some (.ref a1), r1, r2, r3, r4] := fun x4 x5 x6 g => ⟨(u3.same g).mono (by omega), _, _, _, _, rfl⟩
      walk_at "g"
      rcases read_or (TL.tl z) with ⟨d, hth, htx, hg, htd, hau⟩ | ⟨w, hwl, hno, hau⟩
      · refine ⟨z, rfl, by omega, fun w' G4 _ h4 => (by rw [hau] at h4; cases h4), fun G4 _ g4 => ?_⟩
        walk_at "g"
        refine mkT (by simp) fun W1 G5 nW1 eW1 g5 => ?_
        walk_at "g"
        refine mkL (by simp) fun L1 G6 nL1 eL1 g6 => ?_
        walk_at "g"
        refine ⟨z, d, rfl, htx, hg, htd, by omega, fun v G7 hv g7 => ?_⟩
        walk_at "g"
        refine mkL (by simp) fun L2 G8 nL2 eL2 g8 => ?_
        walk_at "g"
        refine ⟨z, rfl, by rw [sizeLine_eq]; omega, fun d2 v2 F G9 hth2 g9 hv2 eF => ?_, fun w F W G9 hno2 => ?_⟩
        · have e := Th.det hth2 hth
          cases e
          have ht : (txt d).length ≤ 31010 := by rw [← htx, tlen]; exact hz
          walk_at "g"
          have hF : Da G9 (.ref F) (.list [d, .none]) := .lst eF (.cons hv2.any (.cons .non .nil)) trivial
          have hL : Da G9 (.ref L2) (.list [d, .none]) := .lst (g9 _ _ eL2) (.cons ((hv.same g8).same g9).any (.cons .non .nil)) trivial
          refine ⟨_, _, _, 81, rfl, by decide, hF, hL, .lst (by simp) (by
            intro e he
            simp only [List.mem_cons, List.not_mem_nil, or_false] at he
            rcases he with rfl | rfl
            · exact words_none _ hg ht
            · exact .atom rfl rfl), fun G10 g10 => ?_⟩
          walk_at "g"
          exact fin _ _ _ (g4.trans (g5.trans (g6.trans (g7.trans (g8.trans (g9.trans g10))))))
        · exfalso
          rcases hno2.2 with h | ⟨d', h, hl⟩
          · cases Th.det h hth
          · have e := Th.det h hth
            have e1 : (TL.tl z).drop w = [] := by injection e
            have := congrArg List.length e1
            rw [List.length_drop, List.length_nil] at this
            omega
      · refine ⟨z, rfl, by omega, fun w' G4 hw' h4 g4 => ?_, fun G4 h4 => (by rw [hau] at h4; cases h4)⟩
        obtain rfl : w' = w := by
          have e1 := Option.some.inj (h4.symm.trans hau)
          have := congrArg List.length e1
          rw [List.length_drop, List.length_drop] at this
          omega
        walk_at "g"
        refine mkT (by simp) fun W1 G5 nW1 eW1 g5 => ?_
        walk_at "g"
        refine mkL (by simp) fun L1 G6 nL1 eL1 g6 => ?_
        walk_at "g"
        refine ⟨z, rfl, by rw [sizeLine_eq]; omega, fun d2 v2 F G9 hth2 => ?_, fun w2 F W G9 hno2 g9 eF eW => ?_⟩
        · exfalso
          rcases hno with h | ⟨d', h, hl⟩
          · cases Th.det h hth2
          · have e := Th.det h hth2
            have e1 : (TL.tl z).drop w' = [] := by injection e
            have := congrArg List.length e1
            rw [List.length_drop, List.length_nil] at this
            omega
        · obtain rfl : w2 = w' := by
            have key : ∀ u, RdNo (TL.tl z) u → aut .start 0 0 (TL.tl z) = some ((TL.tl z).drop u) := fun u hu => by
              rcases hu.2 with h | ⟨d', h, hl⟩
              · exact th_aut h (.inl rfl)
              · have := th_aut h (m := .start) (k := 0) (.inl rfl)
                rw [this, List.drop_eq_getElem_cons hl]
                exact aut_no (by simp [stepA])
            have e1 := Option.some.inj ((key w2 hno2).symm.trans hau)
            have := congrArg List.length e1
            have := hno2.1
            rw [List.length_drop, List.length_drop] at *
            omega
          walk_at "g"
          have hF : Da G9 (.ref F) (.list [.none, .tuple [.int 0, .int (w2 : Nat)]]) := .lst eF (.cons .non (.cons (.tup eW (.cons (.int _) (.cons (.int _) .nil))) .nil)) trivial
          have hL : Da G9 (.ref L1) (.list [.none, .tuple [.int 0, .int (w2 : Nat)]]) := .lst (g9 _ _ eL1) (.cons .non (.cons (.tup (g9 _ _ (g6 _ _ eW1)) (.cons (.int _) (.cons (.int _) .nil))) .nil)) trivial
          refine ⟨_, _, _, 2, rfl, by decide, hF, hL, .lst (by simp) (by
            intro e he
            simp only [List.mem_cons, List.not_mem_nil, or_false] at he
            rcases he with rfl | rfl
            · exact .atom rfl rfl
            · refine .tup (by simp) ?_
              intro e he
              simp only [List.mem_cons, List.not_mem_nil, or_false] at he
              rcases he with rfl | rfl <;> exact .atom rfl rfl), fun G10 g10 => ?_⟩
          walk_at "g"
          exact fin _ _ _ (g4.trans (g5.trans (g6.trans (g9.trans g10))))
    · rintro σ G1 ⟨u1, r1, r2, r3, r4, rfl⟩
      walk_at "g"
      exact k G1
theorem law_end {K : PySem.W.Frag} {H : Hp} {a : Addr} {ns : List Int} (hl : ns.length ≤ 63) (hb : ∀ z ∈ ns, Builtin.Int.intBits z ≤ 1048576) (hS : SqL K H a (ns.map V.int)) : sp_law K [.ref a] H (fun v _ => v = .bl true) fun _ _ _ => False :=
  ⟨a, ns, rfl, hl, hS, fun _ => rfl⟩

theorem facts {h : Heap} {f : Addr} (X : K.In h) (G : h.Ns mainGlobals mg) (hfa : mg ("law" : Str) = some (.ref f)) (c : Told fa fn K) :
    ∃ fd : FuncData, (∀ (s : Shared) (v : Value), BindsTo s fd ⟨[v], []⟩ [("_law_script", v)]) ∧ ∀ base : Heap, K.In base → base.Ns mainGlobals mg → FnOk P w K mg base CX0 173 f fd ["_law_script"] (sp_law K) := by
  have T : Txt K mg := ⟨c, fun z => He.glo_ok X G z, fun z => He.free_ok X G z, fun z => He.int_ok X G z, fun z => He.str_ok X G z⟩
  have e := hfa.symm.trans (g_law T)
  cases e
  have b := FunD.bindsA (ps := ["_law_script"]) (F_law T) fun _ _ _ _ _ _ us hl => match us, hl with | [_], _ => rfl
  exact ⟨fd_law T, fun s v => b s [v] rfl, fun base _ _ => ok_law T⟩
end
abbrev RR : PySem.W.OpenRow := PySem.W.OpenLaw.row PySem.Challenge.rw_rootprime_k79_texts_of_no_thing
abbrev hk : PySem.W.Hook := hookR 5 fa fn
def ob (s : PySem.W.SharedT) : He.AlD := toldG 5 fa fn (HandSHeadRun.getT s)
theorem ob_eq (s : PySem.W.SharedT) : ob s = hk.obs s.abs := toldG_eq (HandSHeadRun.getT_eq s)
theorem run (w : World) : HandSHeadRun.RunEq RR (PySem.W.view RR.prog [37]) hk ob 6840 ("read" :: "_law_tape" :: "_law_draw" :: "_law_letters" :: "_law_leaf" :: "_law_thing" :: "_law_deep_thing" :: "_law_written" :: "_law_first_wrong" :: "_law_value" :: "_law_built" :: "_law_same" :: "_law_word" :: "_law_text" :: "_law_signs" :: "_law_changed" :: "_law_read" :: "PrimeError" :: "NoNumber" :: "TooFar" :: "NoPrime" :: "NoInverse" :: "Nought" :: "NoOrder" :: "NoRoot" :: "TooMany" :: "NoText" :: "NoRow" :: "Reader" :: "FIGURES" :: "LETTERS" :: "MOST_FIGURES" :: "MOST_LETTERS" :: "MOST_DEEP" :: []) w := by
  intro os
  kernel_rfl
end C
open PySem PySem.W PySem.Calls PyProof.Rows
set_option maxRecDepth 100000 in
set_option maxHeartbeats 0 in
theorem PySem.Challenge.cw_rootprime_k79_texts_of_no_thing_holds : PySem.Challenge.rw_rootprime_k79_texts_of_no_thing.Holds := by
  w_on; o_law
  refine HandSHeadRun.head_any (r := OpenLaw.row PySem.Challenge.rw_rootprime_k79_texts_of_no_thing) (q := view (OpenLaw.row PySem.Challenge.rw_rootprime_k79_texts_of_no_thing).prog [37]) (H := C.hk) (ob := C.ob) (M := 6840) (loose := ("read" :: "_law_tape" :: "_law_draw" :: "_law_letters" :: "_law_leaf" :: "_law_thing" :: "_law_deep_thing" :: "_law_written" :: "_law_first_wrong" :: "_law_value" :: "_law_built" :: "_law_same" :: "_law_word" :: "_law_text" :: "_law_signs" :: "_law_changed" :: "_law_read" :: "PrimeError" :: "NoNumber" :: "TooFar" :: "NoPrime" :: "NoInverse" :: "Nought" :: "NoOrder" :: "NoRoot" :: "TooMany" :: "NoText" :: "NoRow" :: "Reader" :: "FIGURES" :: "LETTERS" :: "MOST_FIGURES" :: "MOST_LETTERS" :: "MOST_DEEP" :: [])) (d := HandSHeadRun.topDef (OpenLaw.row PySem.Challenge.rw_rootprime_k79_texts_of_no_thing).prog 37) (kwd := []) C.ob_eq
    (by kernel_rfl) (fun s => by kernel_rfl) C.run (by kernel_rfl) (by kernel_rfl) (by kernel_rfl) (by rfl) (by first | assumption | decide +kernel) (by decide +kernel) ⟨rfl, rfl, rfl, rfl, rfl, by decide +kernel⟩ ?hw ?hc
  case hw => w_witness2
  case hc =>
    refine R.walk_ofEB (l := PySem.Challenge.rw_rootprime_k79_texts_of_no_thing) (n := 63) (k := 173) (prm := "_law_script") (CX := fun w => L2.CX0) rfl (by decide) (by kernel_rfl) ⟨rfl, by decide, by decide⟩ ?F (fun _ _ _ _ _ z => z)
    intro w mg fa h Y G hmg0
    obtain ⟨K, KX, c⟩ := Y
    have hmg : mg ("law" : PySem.Str) = some (.ref fa) := by
      have e : (HandSHeadRun.topDef (OpenLaw.row PySem.Challenge.rw_rootprime_k79_texts_of_no_thing).prog 37).name = ("law" : PySem.Str) := by kernel_rfl
      rw [← e]
      exact hmg0
    obtain ⟨fd, hb, hF⟩ := C.facts (P := (PySem.Challenge.rw_rootprime_k79_texts_of_no_thing).prog) (w := w) KX G hmg c
    exact ⟨K, fd, (C.sp_law K), KX, hb, fun H a ns hl hbits hO hS => C.law_end hl hbits hS, hF⟩

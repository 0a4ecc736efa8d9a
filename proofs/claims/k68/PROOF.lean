import PyProof.Rows.All
import Wide.All
import OpenK.AllK
import Wide.FinOn
import HandS.ForMost
import HandS.ForExc
import HandS.Wide
import HandS.IsInst
import HandS.Style
import HandS.Flow
import HandS.Conv
import HandS.Defaults
import HandS.Head0
import HandS.Head1
import HandS.Head2
import HandS.HeadEnd
import HandS.HeadHook1
import HandS.HeadHook2
import HandS.EndBits
import HandS.ExcInit
import HandS.ExcField
import HandS.ExcOwn
import HandS.ExcIs
import HandS.TryOnly
import HandS.WordsExc
import HandS.ClsMeth
import HandS.HeadNt
import HandS.Steps
import HandS.Zip
import HandS.Walk
import HandS.Small
import HandS.NoneIn
import HandS.TryMany
import HandS.TupAny
import HandS.SortInts
import HandS.SetKeys
import HandS.Iter
import PyProof.DictMoreH
import HandS.DictTup
import HandS.TupLen
import HandS.Strs
import HandS.HotCalls
import HandS.CallSlots
import KE.GoesMore
import KE.DataFind
import HandS.SetFor
import PySem.Challenge.RW_rootprime_k68_roots_by_small_primes

set_option Elab.async false
set_option linter.all false
set_option maxRecDepth 100000
set_option maxHeartbeats 4000000
set_option exponentiation.threshold 5000

namespace R
open PySem PySem.Spec PyProof.Rows L2
/-! steps of a reading -/
section
variable {t u : TS} {D : Ends} {σ : L2.St} {H : Hp} {Q : VK} {te ta tb : TE} {g : TG} {i j : Nat} {v x y : V} {r : R2} {c c' : TT} {tl : TA} {QL : List V → Hp → Prop} {QB : Bool → Hp → Prop} {QS : L2.St → Hp → Prop} {a b : Int} {C : Int → Int → Prop} {f : Int → Int → V}
theorem s_seq (h : t { D with nx := u D } σ H) : tSeq t u D σ H := h
theorem s_asg (h : te σ H fun x H1 => g x σ H1 D.nx) : tAsg te g D σ H := h
theorem s_drop (h : te σ H fun _ H1 => D.nx σ H1) : tDrop te D σ H := h
theorem s_ret (h : te σ H D.rt) : tRet te D σ H := h
theorem s_next (h : D.nx σ H) : tNext D σ H := h
theorem s_if (h : c σ H fun b H1 => if b = true then t D σ H1 else u D σ H1) : tIfS c t u D σ H := h
theorem s_gname (h : QS (σ.set i (some v)) H) : gName i v σ H QS := h
theorem s_var (e : σ[i]? = some (some v)) (h : Q v H) : tVar i σ H Q := ⟨v, e, h⟩
theorem s_c (h : Q v H) : tC v σ H Q := h
theorem s_op (h : ta σ H fun x H1 => tb σ H1 fun y H2 => r x y H2 Q) : tOp r ta tb σ H Q := h
theorem s_un {r : V → Hp → VK → Prop} (h : ta σ H fun x H1 => r x H1 Q) : tUn r ta σ H Q := h
theorem s_i0 (h : Q (f a b) H) : rI0 f (.int a) (.int b) H Q := ⟨a, b, rfl, rfl, h⟩
theorem s_i (hc : C a b) (h : Q (f a b) H) : rI C f (.int a) (.int b) H Q := ⟨a, b, rfl, rfl, hc, h⟩
theorem s_u {f : Int → V} (h : Q (f a) H) : rU f (.int a) H Q := ⟨a, rfl, h⟩
theorem s_cons (h : te σ H fun x H1 => tl σ H1 fun xs H2 => QL (x :: xs) H2) : tCons te tl σ H QL := h
theorem s_nil (h : QL [] H) : tNil σ H QL := h
theorem s_test (h : ta σ H fun x H' => ∃ k, x = .bl k ∧ QB k H') : tTest ta σ H QB := h
theorem s_tB (h : ta σ H fun x H' => ∃ k, x = .bl k ∧ QB k H') : tB ta σ H QB := h
theorem s_bl {k : Bool} {P : Bool → Prop} (h : P k) : ∃ k', V.bl k = .bl k' ∧ P k' := ⟨k, rfl, h⟩
theorem s_andc (h : c σ H fun b H1 => if b = true then c' σ H1 QB else QB false H1) : tAnd c c' σ H QB := h
theorem s_orc (h : c σ H fun b H1 => if b = true then QB true H1 else c' σ H1 QB) : tOr c c' σ H QB := h
theorem s_notc (h : c σ H fun b H1 => QB (!b) H1) : tNot c σ H QB := h
theorem s_andv (h : ta σ H fun x H1 => ∃ c, x = .bl c ∧ if c = true then tb σ H1 Q else Q (.bl false) H1) : tAndV ta tb σ H Q := h
theorem s_orv (h : ta σ H fun x H1 => ∃ c, x = .bl c ∧ if c = true then Q (.bl true) H1 else tb σ H1 Q) : tOrV ta tb σ H Q := h
theorem s_notv (h : ta σ H fun x H1 => ∃ c, x = .bl c ∧ Q (.bl (!c)) H1) : tNotV ta σ H Q := h
theorem s_ifx {t : TT} (h : t σ H fun c H1 => if c = true then ta σ H1 Q else tb σ H1 Q) : tIf t ta tb σ H Q := h
theorem s_eqI (h : Q (.bl (decide (a = b))) H) : rEq (.int a) (.int b) H Q := ⟨rfl, by
  have e : decide (V.int a = V.int b) = decide (a = b) := by simp
  rw [e]; exact h⟩
theorem s_neI (h : Q (.bl (!decide (a = b))) H) : rNe (.int a) (.int b) H Q := ⟨rfl, by
  have e : decide (V.int a = V.int b) = decide (a = b) := by simp
  rw [e]; exact h⟩
theorem s_eqS {a b : Str} (h : Q (.bl (decide (a = b))) H) : rEq (.str a) (.str b) H Q := ⟨rfl, by
  have e : decide (V.str a = V.str b) = decide (a = b) := by simp
  rw [e]; exact h⟩
theorem s_neS {a b : Str} (h : Q (.bl (!decide (a = b))) H) : rNe (.str a) (.str b) H Q := ⟨rfl, by
  have e : decide (V.str a = V.str b) = decide (a = b) := by simp
  rw [e]; exact h⟩
theorem s_eqB {a b : Bool} (h : Q (.bl (decide (a = b))) H) : rEq (.bl a) (.bl b) H Q := ⟨rfl, by
  have e : decide (V.bl a = V.bl b) = decide (a = b) := by simp
  rw [e]; exact h⟩
theorem s_neB {a b : Bool} (h : Q (.bl (!decide (a = b))) H) : rNe (.bl a) (.bl b) H Q := ⟨rfl, by
  have e : decide (V.bl a = V.bl b) = decide (a = b) := by simp
  rw [e]; exact h⟩
def MkT (Q : VK) (xs : List V) (H : Hp) : Prop := xs.length ≤ sizeLine ∧ ∀ p, H p = none → Q (.ref p) (upd H p (.tup xs))
def MkL (Q : VK) (xs : List V) (H : Hp) : Prop := xs.length ≤ sizeLine ∧ ∀ p, H p = none → Q (.ref p) (upd H p (.lst xs))
theorem s_tup (h : tl σ H fun xs H1 => MkT Q xs H1) : tTup tl σ H Q := h
theorem s_lst (h : tl σ H fun xs H1 => MkL Q xs H1) : tLst tl σ H Q := h
theorem len_le {α : Type} {xs : List α} (h : xs.length ≤ 1000) : xs.length ≤ sizeLine := Nat.le_of_lt (small1000 h)
theorem s_par (h : tl σ H fun vs H1 => ∃ v w, vs = [v, w] ∧ D.nx ((σ.set i (some v)).set j (some w)) H1) : tPar i j tl D σ H := h
theorem s_par_ {P : V → V → Prop} (h : P x y) : ∃ v w, [x, y] = [v, w] ∧ P v w := ⟨x, y, rfl, h⟩
theorem s_par3 {l : Nat} (h : tl σ H fun vs H1 => ∃ u v w, vs = [u, v, w] ∧ D.nx (((σ.set i (some u)).set j (some v)).set l (some w)) H1) : tPar3 i j l tl D σ H := h
theorem s_par3_ {z : V} {P : V → V → V → Prop} (h : P x y z) : ∃ u v w, [x, y, z] = [u, v, w] ∧ P u v w := ⟨x, y, z, rfl, h⟩
theorem s_cb {r : List V → Hp → VK → Prop} (h : tl σ H fun vs H1 => r vs H1 Q) : tCB r tl σ H Q := h
theorem s_call {sp : Sp} {dvs : List V} {E : XK} (h : tl σ H fun vs H1 => sp (vs ++ dvs) H1 Q E) : tCall sp dvs E tl σ H Q := h
theorem s_callS {sp : Sp} {E : L2.St → XK} (h : tl σ H fun vs H1 => sp vs H1 Q (E σ)) : tCallS sp E tl σ H Q := h
theorem s_chain {r' : R2} {tc : TE} (h : ta σ H fun x H1 => tb σ H1 fun y H2 => r x y H2 fun z H3 => ∃ k, z = .bl k ∧ (if k = true then tc σ H3 fun w' H4 => r' y w' H4 Q else Q (.bl false) H3)) : tChain r r' ta tb tc σ H Q := h
theorem s_iteT {A B : Prop} (h : A) : if true = true then A else B := by rw [if_pos rfl]; exact h
theorem s_iteF {A B : Prop} (h : B) : if false = true then A else B := by rw [if_neg Bool.false_ne_true]; exact h
theorem s_iteNT {A B : Prop} (h : B) : if (!true) = true then A else B := h
theorem s_iteNF {A B : Prop} (h : A) : if (!false) = true then A else B := h
theorem s_ite {A B p : Prop} [Decidable p] (h1 : p → A) (h2 : ¬p → B) : if decide p = true then A else B := by
  by_cases h : p
  · rw [decide_eq_true h, if_pos rfl]; exact h1 h
  · rw [decide_eq_false h, if_neg Bool.false_ne_true]; exact h2 h
theorem s_iten {A B p : Prop} [Decidable p] (h1 : ¬p → A) (h2 : p → B) : if (!decide p) = true then A else B := by
  by_cases h : p
  · rw [decide_eq_true h]; exact s_iteF (h2 h)
  · rw [decide_eq_false h]; exact s_iteT (h1 h)
theorem s_iteb {A B : Prop} {b : Bool} (h1 : b = true → A) (h2 : b = false → B) : if b = true then A else B := by
  cases b
  · exact s_iteF (h2 rfl)
  · exact s_iteT (h1 rfl)
theorem s_itP {A B p : Prop} [Decidable p] (hp : p) (h : A) : if decide p = true then A else B := s_ite (fun _ => h) fun n => absurd hp n
theorem s_itN {A B p : Prop} [Decidable p] (hp : ¬p) (h : B) : if decide p = true then A else B := s_ite (fun n => absurd n hp) fun _ => h
theorem s_itnP {A B p : Prop} [Decidable p] (hp : p) (h : B) : if (!decide p) = true then A else B := s_iten (fun n => absurd hp n) fun _ => h
theorem s_itnN {A B p : Prop} [Decidable p] (hp : ¬p) (h : A) : if (!decide p) = true then A else B := s_iten (fun _ => h) fun n => absurd n hp
theorem s_btT {p : Prop} [Decidable p] {P : Bool → Prop} (hp : p) (h : P true) : P (decide p) := by rw [decide_eq_true hp]; exact h
theorem s_btF {p : Prop} [Decidable p] {P : Bool → Prop} (hp : ¬p) (h : P false) : P (decide p) := by rw [decide_eq_false hp]; exact h
theorem s_ixL {K : PySem.W.Frag} {p : Addr} {xs : List V} {n : Int} (h1 : SqL K H p xs) (h2 : atI xs n = some v) (h : Q v H) : rIx K (.ref p) (.int n) H Q := .inl ⟨p, xs, n, v, rfl, rfl, h1, h2, h⟩
theorem s_ixT {K : PySem.W.Frag} {p : Addr} {xs : List V} {n : Int} (h1 : SqT K H p xs) (h2 : atI xs n = some v) (h : Q v H) : rIx K (.ref p) (.int n) H Q := .inr (.inl ⟨p, xs, n, v, rfl, rfl, h1, h2, h⟩)
theorem s_isi {K : PySem.W.Frag} {a b : String} {bb : Bool} (ht : TyOf K H x (.type a)) (hk : kitB a b = some bb) (h : Q (.bl bb) H) : rIsi K [x, .ty b] H Q := ⟨x, .ty b, .type a, .type b, bb, rfl, .ty b, .base ht, kit_ty hk, h⟩
theorem kb_ii : kitB "int" "int" = some true := by decide +kernel
theorem kb_ib : kitB "int" "bool" = some false := by decide +kernel
theorem kb_bi : kitB "bool" "int" = some true := by decide +kernel
theorem kb_bb : kitB "bool" "bool" = some true := by decide +kernel
theorem kb_tt : kitB "tuple" "tuple" = some true := by decide +kernel
theorem kb_ll : kitB "list" "list" = some true := by decide +kernel
theorem kb_ti : kitB "tuple" "int" = some false := by decide +kernel
theorem kb_tl : kitB "tuple" "list" = some false := by decide +kernel
theorem kb_lt : kitB "list" "tuple" = some false := by decide +kernel
theorem kb_li : kitB "list" "int" = some false := by decide +kernel
theorem kb_ni : kitB "NoneType" "int" = some false := by decide +kernel
theorem s_isi_ii {K : PySem.W.Frag} (h : Q (.bl true) H) : rIsi K [.int a, .ty "int"] H Q := s_isi (.int a) kb_ii h
theorem s_isi_ib {K : PySem.W.Frag} (h : Q (.bl false) H) : rIsi K [.int a, .ty "bool"] H Q := s_isi (.int a) kb_ib h
theorem s_p10 {n : Nat} (h : Q (.int (10 ^ n)) H) (hn : n ≤ 1000 := by decide) : rI CPow (fun i j => V.int (i ^ j.toNat)) (.int 10) (.int (n : Int)) H Q :=
  ⟨10, n, rfl, rfl, ⟨by omega, by omega, by decide⟩, h⟩
theorem s_pow {e : Int} {n : Nat} (he : e = n) (hn : n ≤ 1000) (ha : a.natAbs < 2 ^ 64) (h : Q (.int (a ^ n)) H) : rI CPow (fun i j => V.int (i ^ j.toNat)) (.int a) (.int e) H Q :=
  ⟨a, e, rfl, rfl, ⟨by omega, by omega, ha⟩, by subst he; exact h⟩
theorem s_p10_4 (h : Q (.int (10 ^ 4)) H) : rI CPow (fun i j => V.int (i ^ j.toNat)) (.int 10) (.int 4) H Q := s_p10 (n := 4) h
theorem s_p10_5 (h : Q (.int (10 ^ 5)) H) : rI CPow (fun i j => V.int (i ^ j.toNat)) (.int 10) (.int 5) H Q := s_p10 (n := 5) h
theorem s_p10_6 (h : Q (.int (10 ^ 6)) H) : rI CPow (fun i j => V.int (i ^ j.toNat)) (.int 10) (.int 6) H Q := s_p10 (n := 6) h
theorem s_p10_8 (h : Q (.int (10 ^ 8)) H) : rI CPow (fun i j => V.int (i ^ j.toNat)) (.int 10) (.int 8) H Q := s_p10 (n := 8) h
theorem s_p10_9 (h : Q (.int (10 ^ 9)) H) : rI CPow (fun i j => V.int (i ^ j.toNat)) (.int 10) (.int 9) H Q := s_p10 (n := 9) h
theorem s_p10_12 (h : Q (.int (10 ^ 12)) H) : rI CPow (fun i j => V.int (i ^ j.toNat)) (.int 10) (.int 12) H Q := s_p10 (n := 12) h
theorem s_p10_18 (h : Q (.int (10 ^ 18)) H) : rI CPow (fun i j => V.int (i ^ j.toNat)) (.int 10) (.int 18) H Q := s_p10 (n := 18) h
theorem s_p10_29 (h : Q (.int (10 ^ 29)) H) : rI CPow (fun i j => V.int (i ^ j.toNat)) (.int 10) (.int 29) H Q := s_p10 (n := 29) h
theorem s_p10_30 (h : Q (.int (10 ^ 30)) H) : rI CPow (fun i j => V.int (i ^ j.toNat)) (.int 10) (.int 30) H Q := s_p10 (n := 30) h
theorem s_p10_39 (h : Q (.int (10 ^ 39)) H) : rI CPow (fun i j => V.int (i ^ j.toNat)) (.int 10) (.int 39) H Q := s_p10 (n := 39) h
theorem s_p10_40 (h : Q (.int (10 ^ 40)) H) : rI CPow (fun i j => V.int (i ^ j.toNat)) (.int 10) (.int 40) H Q := s_p10 (n := 40) h
theorem s_p10_49 (h : Q (.int (10 ^ 49)) H) : rI CPow (fun i j => V.int (i ^ j.toNat)) (.int 10) (.int 49) H Q := s_p10 (n := 49) h
theorem s_p10_50 (h : Q (.int (10 ^ 50)) H) : rI CPow (fun i j => V.int (i ^ j.toNat)) (.int 10) (.int 50) H Q := s_p10 (n := 50) h
theorem s_p10_51 (h : Q (.int (10 ^ 51)) H) : rI CPow (fun i j => V.int (i ^ j.toNat)) (.int 10) (.int 51) H Q := s_p10 (n := 51) h
theorem s_p10_58 (h : Q (.int (10 ^ 58)) H) : rI CPow (fun i j => V.int (i ^ j.toNat)) (.int 10) (.int 58) H Q := s_p10 (n := 58) h
theorem s_p10_59 (h : Q (.int (10 ^ 59)) H) : rI CPow (fun i j => V.int (i ^ j.toNat)) (.int 10) (.int 59) H Q := s_p10 (n := 59) h
theorem s_p10_60 (h : Q (.int (10 ^ 60)) H) : rI CPow (fun i j => V.int (i ^ j.toNat)) (.int 10) (.int 60) H Q := s_p10 (n := 60) h
theorem s_pow7 (ha : a.natAbs < 2 ^ 64) (h : Q (.int (a ^ 7)) H) : rI CPow (fun i j => V.int (i ^ j.toNat)) (.int a) (.int 7) H Q := s_pow (n := 7) rfl (by decide) ha h
theorem s_pickN {K : PySem.W.Frag} {p : Addr} {n : Int} {P : Int → Prop} (ns : List Int) (hp : H p = some (.lst (ns.map V.int))) (hn : 0 ≤ n ∧ n < ns.length) (ha : ∀ z ∈ ns, P z) (h : ∀ z, P z → Q (.int z) H) : rIx K (.ref p) (.int n) H Q := by
  obtain ⟨k, rfl⟩ := Int.eq_ofNat_of_zero_le hn.1
  have hk : k < ns.length := by omega
  exact s_ixL (SqL.of hp) (atI_nat (j := k) (v := .int ns[k]) (by rw [List.getElem?_map, List.getElem?_eq_getElem hk]; rfl)) (h _ (ha _ (List.getElem_mem hk)))
theorem s_pick2 {K : PySem.W.Frag} {p : Addr} {n : Int} {P : Int → Prop} (hp : H p = some (.lst [.int a, .int b])) (hn : 0 ≤ n ∧ n < 2) (ha : P a) (hb : P b) (h : ∀ z, P z → Q (.int z) H) : rIx K (.ref p) (.int n) H Q := by
  have e : n = 0 ∨ n = 1 := by omega
  rcases e with rfl | rfl
  · exact s_ixL (SqL.of hp) (atI_nat (j := 0) rfl) (h a ha)
  · exact s_ixL (SqL.of hp) (atI_nat (j := 1) rfl) (h b hb)
theorem s_andJ {b c : Bool} (hc : ∀ Q' : VK, Q' (.bl c) H → tb σ H Q') (h : Q (.bl (b && c)) H) : if b = true then tb σ H Q else Q (.bl false) H := by
  cases b
  · exact s_iteF h
  · exact s_iteT (hc _ h)
theorem s_orJ {b c : Bool} (hc : ∀ Q' : VK, Q' (.bl c) H → tb σ H Q') (h : Q (.bl (b || c)) H) : if b = true then Q (.bl true) H else tb σ H Q := by
  cases b
  · exact s_iteF (hc _ h)
  · exact s_iteT h
theorem s_blT {p : Prop} [Decidable p] (hp : p) (h : Q (.bl true) H) : Q (.bl (decide p)) H := by rw [decide_eq_true hp]; exact h
theorem s_blF {p : Prop} [Decidable p] (hp : ¬p) (h : Q (.bl false) H) : Q (.bl (decide p)) H := by rw [decide_eq_false hp]; exact h
theorem s_sl {r : V → Option Int → Option Int → Hp → VK → Prop} {tlo thi : TO} (h : te σ H fun x H1 => tlo σ H1 fun l H2 => thi σ H2 fun u H3 => r x l u H3 Q) : L2.tSl r te tlo thi σ H Q := h
theorem s_nopart {QO : Option Int → Hp → Prop} (h : QO none H) : tNoPart σ H QO := h
theorem s_part {QO : Option Int → Hp → Prop} (h : te σ H fun x H1 => ∃ i, x = .int i ∧ QO (some i) H1) : tPart te σ H QO := h
theorem s_int_ {P : Int → Prop} (h : P a) : ∃ i, V.int a = .int i ∧ P i := ⟨a, rfl, h⟩
theorem s_slL {K : PySem.W.Frag} {p : Addr} {xs : List V} {lo hi : Option Int} (hs : SqL K H p xs) (h : ∀ l, H l = none → Q (.ref l) (upd H l (.lst (cutV xs lo hi)))) : rSlL K (.ref p) lo hi H Q := ⟨p, xs, rfl, hs, h⟩
theorem s_for {wi : TI} {tb : TS} (h : wi σ H fun J H1 => ∃ W : Nat → Nat → L2.St → Hp → Prop, (∃ m, W 0 m σ H1) ∧ ∀ i m σ H, W i m σ H →
  (J.stop i H ∧ D.nx σ H) ∨ (J.go i H ∧ ∃ N : L2.St → Hp → Prop, (∀ σ' H', N σ' H' → ∃ m', m' < m ∧ W (i + 1) m' σ' H') ∧ ∀ x H', J.yld i H x H' → g x σ H' fun σ2 H2 => tb { D with nx := N, ct := N, bk := D.nx } σ2 H2)) : tFor wi g tb D σ H := h
theorem s_ilist {K : PySem.W.Frag} {RI : It → Hp → Prop} (h : te σ H fun x H1 => ∃ a, x = .ref a ∧ (∃ xs, SqL K H1 a xs) ∧ RI (Itl K a) H1) : iList K te σ H RI := h
theorem s_itup {K : PySem.W.Frag} {RI : It → Hp → Prop} (h : te σ H fun x H1 => ∃ a, x = .ref a ∧ (∃ xs, SqT K H1 a xs) ∧ RI (Itt K a) H1) : iTup K te σ H RI := h
theorem s_ref_ {p : Addr} {P : Addr → Prop} (h : P p) : ∃ i, V.ref p = .ref i ∧ P i := ⟨p, rfl, h⟩
theorem s_join (P : L2.St → Hp → Prop) (h1 : ∀ σ' H', P σ' H' → D.nx σ' H') (h2 : ∀ N : L2.St → Hp → Prop, (∀ σ' H', P σ' H' → N σ' H') → tIfS c t u { D with nx := N } σ H) : tIfS c t u D σ H := h2 D.nx h1
theorem s_yes (h : QB true H) : tYes σ H QB := h
theorem s_gtup {K : PySem.W.Frag} {n : Nat} {t : TGs} {p : Addr} {xs : List V} (h1 : SqT K H p xs) (h2 : xs.length = n) (h : t xs σ H QS) : gTup K n t (.ref p) σ H QS := ⟨p, xs, rfl, h1, h2, h⟩
theorem s_gcons {t : TG} {u : TGs} {r : List V} (h : t v σ H fun σ' H' => u r σ' H' QS) : gCons t u (v :: r) σ H QS := ⟨v, r, rfl, h⟩
theorem s_gnil (h : QS σ H) : gNil [] σ H QS := ⟨rfl, h⟩
theorem s_append {p : Addr} {xs : List V} (hp : H p = some (.lst xs)) (hl : xs.length < sizeLine) (h : Q .non (upd H p (.lst (xs ++ [x])))) : rAppend (.ref p) [x] H Q := ⟨p, xs, x, rfl, rfl, hp, hl, h⟩
theorem s_tyL {K : PySem.W.Frag} {p : Addr} {xs : List V} (hp : H p = some (.lst xs)) : tyV K "list" (.ref p) H := Or.inl ⟨rfl, _, Or.inl (Or.inl hp)⟩
theorem s_bm {K : PySem.W.Frag} {T : String} {r : V → List V → Hp → VK → Prop} (h : ta σ H fun x H1 => tyV K T x H1 ∧ tl σ H1 fun xs H2 => r x xs H2 Q) : tBM K T r ta tl σ H Q := h
end
/-! rules by name -/
def rAbs : List V → Hp → VK → Prop := fun xs H Q => ∃ i, xs = [.int i] ∧ Q (.int (if i < 0 then -i else i)) H
def rMax2 : List V → Hp → VK → Prop := fun xs H Q => ∃ i j, xs = [.int i, .int j] ∧ Q (.int (if j > i then j else i)) H
def rMin2 : List V → Hp → VK → Prop := fun xs H Q => ∃ i j, xs = [.int i, .int j] ∧ Q (.int (if j < i then j else i)) H
def rLenS (K : PySem.W.Frag) : List V → Hp → VK → Prop := fun xs H Q => ∃ p ys, xs = [.ref p] ∧ (SqL K H p ys ∨ SqT K H p ys) ∧ Q (.int ys.length) H
def rTupOf (K : PySem.W.Frag) : List V → Hp → VK → Prop := fun xs H Q => ∃ p ys, xs = [.ref p] ∧ ((SqL K H p ys ∧ ∀ l, H l = none → Q (.ref l) (upd H l (.tup ys))) ∨ (SqT K H p ys ∧ Q (.ref p) H))
def rLstOf (K : PySem.W.Frag) : List V → Hp → VK → Prop := fun xs H Q => ∃ p ys, xs = [.ref p] ∧ (SqL K H p ys ∨ SqT K H p ys) ∧ ∀ l, H l = none → Q (.ref l) (upd H l (.lst ys))
def rInt1 : List V → Hp → VK → Prop := fun xs H Q => (∃ i, xs = [.int i] ∧ Q (.int i) H) ∨ ∃ k, xs = [.bl k] ∧ Q (.int (if k then 1 else 0)) H
def rIns : V → List V → Hp → VK → Prop := fun x vs H Q => ∃ (l : Addr) (xs : List V) (i : Int) (y : V), x = .ref l ∧ vs = [.int i, y] ∧ H l = some (.lst xs) ∧ xs.length < sizeLine ∧ 0 ≤ i ∧ i < 2 ^ 63 ∧ Q .non (upd H l (.lst (xs.take i.toNat ++ [y] ++ xs.drop i.toNat)))
section
variable {X : Cx}
theorem mtIns : MtR X "list.insert" rIns := mt_insert
theorem callInt1 : CallR X (.type "int") rInt1 := call_int1
theorem callAbs : CallR X (.builtin "abs") rAbs := call_abs
theorem callMax2 (hc : X.calm = true) : CallR X (.builtin "max") rMax2 := call_max2 hc
theorem callMin2 (hc : X.calm = true) : CallR X (.builtin "min") rMin2 := call_min2 hc
theorem callLen : CallR X (.builtin "len") (rLenS X.K) := call_len_seq
theorem callTup : CallR X (.type "tuple") (rTupOf X.K) := call_tuple_of
theorem callLst : CallR X (.type "list") (rLstOf X.K) := call_list_of
end
section
variable {H : Hp} {Q : VK} {a b : Int} {K : PySem.W.Frag} {p : Addr} {xs : List V}
theorem s_intB {k : Bool} (h : Q (.int (if k then 1 else 0)) H) : rInt1 [.bl k] H Q := .inr ⟨k, rfl, h⟩
theorem s_abs (h : Q (.int (if a < 0 then -a else a)) H) : rAbs [.int a] H Q := ⟨a, rfl, h⟩
theorem s_max (h : Q (.int (if b > a then b else a)) H) : rMax2 [.int a, .int b] H Q := ⟨a, b, rfl, h⟩
theorem s_min (h : Q (.int (if b < a then b else a)) H) : rMin2 [.int a, .int b] H Q := ⟨a, b, rfl, h⟩
theorem s_ins0 {y : V} (hp : H p = some (.lst xs)) (hl : xs.length < sizeLine) (h : Q .non (upd H p (.lst (y :: xs)))) : rIns (.ref p) [.int 0, y] H Q := ⟨p, xs, 0, y, rfl, rfl, hp, hl, by decide, by decide, h⟩
theorem s_lenL (hs : SqL K H p xs) (h : Q (.int xs.length) H) : rLenS K [.ref p] H Q := ⟨p, xs, rfl, .inl hs, h⟩
theorem s_lenT (hs : SqT K H p xs) (h : Q (.int xs.length) H) : rLenS K [.ref p] H Q := ⟨p, xs, rfl, .inr hs, h⟩
theorem s_tupL (hs : SqL K H p xs) (h : ∀ l, H l = none → Q (.ref l) (upd H l (.tup xs))) : rTupOf K [.ref p] H Q := ⟨p, xs, rfl, .inl ⟨hs, h⟩⟩
theorem s_lstL (hs : SqL K H p xs) (h : ∀ l, H l = none → Q (.ref l) (upd H l (.lst xs))) : rLstOf K [.ref p] H Q := ⟨p, xs, rfl, .inl hs, h⟩
theorem s_lstT (hs : SqT K H p xs) (h : ∀ l, H l = none → Q (.ref l) (upd H l (.lst xs))) : rLstOf K [.ref p] H Q := ⟨p, xs, rfl, .inr hs, h⟩
end
/-! heaps -/
theorem same_upd {H : Hp} {p : Addr} {o : HO} (h : H p = none) : Same H (upd H p o) := fun b u e => by rw [upd_ne (ne_of_none e h)]; exact e
theorem same_upd' {H H' : Hp} {p : Addr} {o : HO} (s : Same H H') (h : H p = none) : Same H (upd H' p o) := fun b u e => by rw [upd_ne (ne_of_none e h)]; exact s b u e
theorem same_new {H H' : Hp} {p : Addr} {o : HO} (s : Same H H') (h : H' p = none) : Same H (upd H' p o) := s.trans (same_upd h)
theorem Same.none {H H' : Hp} (s : Same H H') {p : Addr} (h : H' p = none) : H p = none := s.free h
theorem atI0 {α : Type} {xs : List α} {v : α} {n : Int} (k : Nat) (hn : n = k) (h : xs[k]? = some v) : atI xs n = some v := by subst hn; exact atI_nat h
theorem cutV_mem {xs : List V} {lo hi : Option Int} {x : V} (h : x ∈ cutV xs lo hi) : x ∈ xs := List.mem_of_mem_drop (List.mem_of_mem_take h)
theorem get_mem {xs : List V} {i : Nat} {x : V} (h : xs[i]? = some x) : x ∈ xs := List.mem_of_getElem? h
theorem of_mem_ints {ns : List Int} {x : V} (h : x ∈ ns.map V.int) : ∃ c, x = .int c ∧ c ∈ ns := by
  obtain ⟨c, h1, h2⟩ := List.mem_map.mp h
  exact ⟨c, h2.symm, h1⟩
section
variable {H : Hp} {Q : VK} {K : PySem.W.Frag} {p : Addr} {xs : List V}
theorem mkT (hl : xs.length ≤ 1000) (h : ∀ p H', H p = none → H' p = some (.tup xs) → Same H H' → Q (.ref p) H') : MkT Q xs H := ⟨len_le hl, fun p hp => h p _ hp upd_same (same_upd hp)⟩
theorem mkL (hl : xs.length ≤ 1000) (h : ∀ p H', H p = none → H' p = some (.lst xs) → Same H H' → Q (.ref p) H') : MkL Q xs H := ⟨len_le hl, fun p hp => h p _ hp upd_same (same_upd hp)⟩
theorem mkCat {q : Addr} {zs : List V} (h1 : H p = some (.lst xs)) (h2 : H q = some (.lst zs)) (hl : xs.length + zs.length ≤ 1000) (h : ∀ l H', H l = none → H' l = some (.lst (xs ++ zs)) → Same H H' → Q (.ref l) H') : rCat (.ref p) (.ref q) H Q := ⟨p, q, xs, zs, rfl, rfl, h1, h2, Nat.le_trans hl (Nat.le_of_lt (small1000 (Nat.le_refl _))), fun l hl => h l _ hl upd_same (same_upd hl)⟩
theorem mkSlT {lo hi : Option Int} (hs : SqT K H p xs) (hn : ¬ (HT.sIx xs.length 0 lo = 0 ∧ HT.sIx xs.length xs.length hi = xs.length)) (h : ∀ l H', H l = none → H' l = some (.tup (cutV xs lo hi)) → Same H H' → Q (.ref l) H') : rSlT K (.ref p) lo hi H Q := ⟨p, xs, rfl, hs, hn, fun l hl => h l _ hl upd_same (same_upd hl)⟩
theorem mkSl {lo hi : Option Int} (hs : SqL K H p xs) (h : ∀ l H', H l = none → H' l = some (.lst (cutV xs lo hi)) → Same H H' → Q (.ref l) H') : rSlL K (.ref p) lo hi H Q := s_slL hs fun l hl => h l _ hl upd_same (same_upd hl)
end
theorem s_eqD {K : PySem.W.Frag} {H : Hp} {Q : VK} {x y : V} (d e : PyData) (hd : Dp K H x d) (he : Dp K H y e) (h1 : SeqAt.shaped d = true) (h2 : SeqAt.shaped e = true) (h : Q (.bl (PyData.eqv d e)) H) : rEqD K x y H Q := ⟨d, e, hd, he, h1, h2, h⟩
theorem s_neD {K : PySem.W.Frag} {H : Hp} {Q : VK} {x y : V} (d e : PyData) (hd : Dp K H x d) (he : Dp K H y e) (h1 : SeqAt.shaped d = true) (h2 : SeqAt.shaped e = true) (h : Q (.bl (!PyData.eqv d e)) H) : rNeD K x y H Q := ⟨d, e, hd, he, h1, h2, h⟩
theorem dp_tup1 {K : PySem.W.Frag} {H : Hp} {p : Addr} {a : Int} (h : H p = some (.tup [.int a])) : Dp K H (.ref p) (.tuple [.int a]) := .tup (SqT.of h) (.cons (.int a) .nil)
theorem dp_tup2 {K : PySem.W.Frag} {H : Hp} {p : Addr} {a b : Int} (h : H p = some (.tup [.int a, .int b])) : Dp K H (.ref p) (.tuple [.int a, .int b]) := .tup (SqT.of h) (.cons (.int a) (.cons (.int b) .nil))
theorem atI_neg1 {α : Type} {xs : List α} {v : α} (h : xs.getLast? = some v) : atI xs (-1) = some v := by
  rcases List.eq_nil_or_concat xs with e | ⟨ys, y, e⟩
  · subst e; simp at h
  · rw [List.concat_eq_append] at e
    subst e
    rw [List.getLast?_concat] at h
    cases h
    exact atI_last ys v
/-! all stands but what lies at one place -/
def SameB (p : Addr) (H H' : Hp) : Prop := ∀ b o, b ≠ p → H b = some o → H' b = some o
theorem SameB.refl (p : Addr) (H : Hp) : SameB p H H := fun _ _ _ h => h
theorem SameB.trans {p : Addr} {H H1 H2 : Hp} (a : SameB p H H1) (b : SameB p H1 H2) : SameB p H H2 := fun c o n h => b c o n (a c o n h)
theorem SameB.of {p : Addr} {H H1 : Hp} (a : Same H H1) : SameB p H H1 := fun c o _ h => a c o h
theorem SameB.put {p : Addr} {H : Hp} {o : HO} : SameB p H (upd H p o) := fun c u n h => by rw [upd_ne n]; exact h
theorem SameB.same {p : Addr} {H H1 H2 : Hp} (n : H p = none) (a : SameB p H1 H2) (s : Same H H1) : Same H H2 := fun c o h => a c o (ne_of_none h n) (s c o h)
theorem SameB.updn {p l : Addr} {H H' : Hp} {o : HO} (h : SameB p H H') (n : H l = none) : SameB p H (upd H' l o) := fun b u hb e => by rw [upd_ne (ne_of_none e n)]; exact h b u hb e
theorem ixN_nat {n d : Nat} (h : d < n) : ixN n (d : Int) = some d := by
  unfold ixN
  rw [if_pos (by omega), if_pos (by omega)]; simp
/-! ranges -/
section
variable {H : Hp} {σ : L2.St} {ta : TA} {RI : It → Hp → Prop}
def RngQ1 (RI : It → Hp → Prop) (vs : List V) (H : Hp) : Prop := ∃ j : Int, vs = [.int j] ∧ -(2 ^ 62) ≤ j ∧ j < 2 ^ 62 ∧ RI (Itr 0 j.toNat) H
def RngQ2 (RI : It → Hp → Prop) (vs : List V) (H : Hp) : Prop := ∃ i j : Int, vs = [.int i, .int j] ∧ (-(2 ^ 62) ≤ i ∧ i < 2 ^ 62 ∧ -(2 ^ 62) ≤ j ∧ j < 2 ^ 62) ∧ RI (Itr i (j - i).toNat) H
theorem s_rng1 (h : ta σ H fun vs H1 => RngQ1 RI vs H1) : iRng1 ta σ H RI := h
theorem s_rng2 (h : ta σ H fun vs H1 => RngQ2 RI vs H1) : iRng2 ta σ H RI := h
theorem mkR1 {j : Int} (n : Nat) (e : j.toNat = n) (h1 : -(2 ^ 62) ≤ j) (h2 : j < 2 ^ 62) (h : RI (Itr 0 n) H) : RngQ1 RI [.int j] H := ⟨j, rfl, h1, h2, by rw [e]; exact h⟩
theorem mkR2 {i j : Int} (n : Nat) (e : (j - i).toNat = n) (h1 : -(2 ^ 62) ≤ i ∧ i < 2 ^ 62 ∧ -(2 ^ 62) ≤ j ∧ j < 2 ^ 62) (h : RI (Itr i n) H) : RngQ2 RI [.int i, .int j] H := ⟨i, j, rfl, h1, by rw [e]; exact h⟩
end
section
variable {to ti : TE} {t : TSet} {v : V} {σ : L2.St} {H : Hp} {QS : L2.St → Hp → Prop} {p : Addr} {xs : List V} {k : Int} {QH : Hp → Prop}
theorem s_gsub (h : to σ H fun o H1 => ti σ H1 fun i H2 => t o i v H2 fun H3 => QS σ H3) : gSub to ti t v σ H QS := h
theorem s_setL (j : Nat) (hp : H p = some (.lst xs)) (hj : ixN xs.length k = some j) (h : QH (upd H p (.lst (xs.set j v)))) : rSetL (.ref p) (.int k) v H QH := ⟨p, xs, k, j, rfl, rfl, hp, hj, h⟩
end
/-! dicts -/
section
variable {H : Hp} {Q : VK} {p : Addr} {kvs : List (Key × V)} {k : Key} {v : V} {td ty tv : TE} {σ : L2.St} {D : Ends}
def DGetQ (Q : VK) (x y : V) (H : Hp) : Prop := ∃ a v, x = .ref a ∧ DGet H a y (some v) ∧ Q v H
theorem s_dget (h : td σ H fun x H1 => ty σ H1 fun y H2 => DGetQ Q x y H2) : tDGet td ty σ H Q := h
theorem s_dgetS {x : Str} (hd : H p = some (.dK kvs)) (hv : valV kvs (.inr x) = some v) (h : Q v H) : DGetQ Q (.ref p) (.str x) H := ⟨p, v, rfl, by rw [← hv]; exact DGet.k (k := .inr x) hd, h⟩
theorem s_dgetI {i : Int} (hd : H p = some (.dK kvs)) (hv : valV kvs (.inl i) = some v) (h : Q v H) : DGetQ Q (.ref p) (.int i) H := ⟨p, v, rfl, by rw [← hv]; exact DGet.k (k := .inl i) hd, h⟩
def DispQ (Q : VK) (p : Addr) (ps : List (V × V)) (H2 : Hp) : Prop := H2 p = some (.dK []) ∧ ∃ kvs : List (Key × V), ps = kvs.map (fun kv => (kV kv.1, kv.2)) ∧ kvs.length ≤ 15 ∧ Q (.ref p) (upd H2 p (.dK (mergeK [] kvs)))
theorem s_disp {trs : List (TE × TE)} (h : ∀ p H1, H p = none → H1 p = some (.dK []) → Same H H1 → tPairs trs σ H1 fun ps H2 => DispQ Q p ps H2) : tDisp trs σ H Q := fun p hp => h p _ hp upd_same (same_upd hp)
theorem s_pn {QP : List (V × V) → Hp → Prop} (h : QP [] H) : tPairs [] σ H QP := h
theorem s_pc {tk : TE} {r : List (TE × TE)} {QP : List (V × V) → Hp → Prop} (h : tk σ H fun x H1 => tv σ H1 fun y H2 => tPairs r σ H2 fun ps H3 => QP ((x, y) :: ps) H3) : tPairs ((tk, tv) :: r) σ H QP := h
theorem mkDisp {ps : List (V × V)} (kvs : List (Key × V)) (hd : H p = some (.dK [])) (e : ps = kvs.map (fun kv => (kV kv.1, kv.2))) (hl : kvs.length ≤ 15) (h : ∀ H', H' p = some (.dK (mergeK [] kvs)) → (∀ H0, H0 p = none → Same H0 H → Same H0 H') → Q (.ref p) H') : DispQ Q p ps H :=
  ⟨hd, kvs, e, hl, h _ upd_same fun H0 n s => same_upd' s n⟩
def DPutQ (P : Hp → Prop) (x y v : V) (H3 : Hp) : Prop := ∃ a H4, x = .ref a ∧ DPut H3 a y v H4 ∧ P H4
theorem s_dput (h : tv σ H fun v H1 => td σ H1 fun x H2 => ty σ H2 fun y H3 => DPutQ (D.nx σ) x y v H3) : sDPut td ty tv D σ H := h
theorem s_dputS {P : Hp → Prop} {x : Str} (hd : H p = some (.dK kvs)) (hl : kvs.length < sizeLine) (h : P (upd H p (.dK (putK kvs (.inr x) v)))) : DPutQ P (.ref p) (.str x) v H := ⟨p, _, rfl, DPut.k (k := .inr x) hd hl, h⟩
theorem s_dputI {P : Hp → Prop} {i : Int} (hd : H p = some (.dK kvs)) (hl : kvs.length < sizeLine) (h : P (upd H p (.dK (putK kvs (.inl i) v)))) : DPutQ P (.ref p) (.int i) v H := ⟨p, _, rfl, DPut.k (k := .inl i) hd hl, h⟩
end
mutual
theorem eqv_refl : ∀ d : PyData, PyData.canLay0 d = true → PyData.eqv d d = true
  | .none, _ => by simp [PyData.eqv]
  | .bool b, _ => by simp [PyData.eqv]
  | .int i, _ => by simp [PyData.eqv]
  | .str x, _ => by simp [PyData.eqv]
  | .list xs, h => by simp only [PyData.eqv]; exact eqv_refls xs (by simpa [PyData.canLay0] using h)
  | .tuple xs, h => by simp only [PyData.eqv]; exact eqv_refls xs (by simpa [PyData.canLay0] using h)
  | .dict _, h => by simp [PyData.canLay0] at h
theorem eqv_refls : ∀ ds : List PyData, PyData.canLayAll0 ds = true → PyData.eqvAll ds ds = true
  | [], _ => by simp [PyData.eqvAll]
  | d :: ds, h => by
    simp only [PyData.canLayAll0, Bool.and_eq_true] at h
    simp only [PyData.eqvAll, Bool.and_eq_true]
    exact ⟨eqv_refl d h.1, eqv_refls ds h.2⟩
end
theorem layAll {ds : List PyData} (h : ∀ d ∈ ds, PyData.canLay0 d = true) : PyData.canLayAll0 ds = true := by
  induction ds with
  | nil => simp [PyData.canLayAll0]
  | cons d ds ih =>
    simp only [PyData.canLayAll0, Bool.and_eq_true]
    exact ⟨h d (by simp), ih fun e he => h e (by simp [he])⟩
theorem depAll {ds : List PyData} {n : Nat} (h : ∀ d ∈ ds, PyData.depth d ≤ n) : PyData.depthAll ds ≤ n := by
  induction ds with
  | nil => simp [PyData.depthAll]
  | cons d ds ih =>
    simp only [PyData.depthAll]
    exact Nat.max_le.mpr ⟨h d (by simp), ih fun e he => h e (by simp [he])⟩
theorem shapedL {ds : List PyData} (h : ∀ d ∈ ds, PyData.canLay0 d = true ∧ PyData.depth d ≤ 63) : SeqAt.shaped (.list ds) = true := by
  unfold SeqAt.shaped
  simp only [PyData.canLay0, PyData.depth, Bool.and_eq_true]
  exact ⟨layAll fun d hd => (h d hd).1, decide_eq_true (Nat.succ_le_succ (depAll fun d hd => (h d hd).2))⟩
theorem shapedT {ds : List PyData} (h : ∀ d ∈ ds, PyData.canLay0 d = true ∧ PyData.depth d ≤ 63) : SeqAt.shaped (.tuple ds) = true := by
  unfold SeqAt.shaped
  simp only [PyData.canLay0, PyData.depth, Bool.and_eq_true]
  exact ⟨layAll fun d hd => (h d hd).1, decide_eq_true (Nat.succ_le_succ (depAll fun d hd => (h d hd).2))⟩
theorem eqv_shaped {d : PyData} (h : SeqAt.shaped d = true) : PyData.eqv d d = true := eqv_refl d (SeqAt.canLay_of_shaped h)
theorem in_ints (a : Int) (ns : List Int) : inV (.int a) (ns.map V.int) = decide (a ∈ ns) := by
  unfold inV
  induction ns with
  | nil => simp
  | cons n ns ih =>
    rw [List.map_cons, List.any_cons, ih]
    simp only [eqV, List.mem_cons]
    by_cases h : a = n
    · subst h; simp
    · simp [h, Ne.symm h]
theorem flat_ints (ns : List Int) : (ns.map V.int).all flatV = true := by simp [flatV]
theorem s_inL {K : PySem.W.Frag} {H : Hp} {Q : VK} {p : Addr} {a : Int} {ns : List Int} (hp : H p = some (.lst (ns.map V.int))) (h : Q (.bl (decide (a ∈ ns))) H) : rIn K false (.int a) (.ref p) H Q :=
  ⟨p, ns.map V.int, rfl, .inl (SqL.of hp), rfl, flat_ints ns, by rw [if_neg Bool.false_ne_true, in_ints]; exact h⟩
theorem s_notInL {K : PySem.W.Frag} {H : Hp} {Q : VK} {p : Addr} {a : Int} {ns : List Int} (hp : H p = some (.lst (ns.map V.int))) (h : Q (.bl (!decide (a ∈ ns))) H) : rIn K true (.int a) (.ref p) H Q :=
  ⟨p, ns.map V.int, rfl, .inl (SqL.of hp), rfl, flat_ints ns, by rw [if_pos rfl, in_ints]; exact h⟩
theorem paired_mono {α β : Type} {F G : α → β → Prop} (h : ∀ a b, F a b → G a b) : ∀ {xs : List α} {ys : List β}, Paired F xs ys → Paired G xs ys
  | _, _, .nil => .nil
  | _, _, .cons f r => .cons (h _ _ f) (paired_mono h r)
theorem paired_take {α β : Type} {F : α → β → Prop} : ∀ {xs : List α} {ys : List β} (n : Nat), Paired F xs ys → Paired F (xs.take n) (ys.take n)
  | _, _, 0, _ => by simp; exact .nil
  | _, _, _ + 1, .nil => .nil
  | _, _, n + 1, .cons f r => .cons f (paired_take n r)
theorem s_isiT2 {K : PySem.W.Frag} {H : Hp} {Q : VK} {x : V} {tp : Addr} {a b1 b2 : String} {r1 r2 : Bool} (ht : H tp = some (.tup [.ty b1, .ty b2])) (tx : TyOf K H x (.type a)) (k1 : kitB a b1 = some r1) (k2 : kitB a b2 = some r2) (h : Q (.bl (r1 || r2)) H) : rIsiT K [x, .ref tp] H Q :=
  ⟨x, tp, [.ty b1, .ty b2], .type a, [.type b1, .type b2], r1 || r2, rfl, ht, .cons (.ty b1) (.cons (.ty b2) .nil), .base tx,
    kitAny_cons (kit_ty k1) (fun e => kitAny_cons (kit_ty k2) (fun e2 => by rw [e, e2]; exact kitAny_nil) (fun e2 => by rw [e2]; simp)) (fun e => by rw [e]; rfl), h⟩
theorem s_isiT2F {K : PySem.W.Frag} {H : Hp} {Q : VK} {x : V} {tp : Addr} {a b1 b2 : String} (ht : H tp = some (.tup [.ty b1, .ty b2])) (tx : TyOf K H x (.type a)) (k1 : kitB a b1 = some false) (k2 : kitB a b2 = some false) (h : Q (.bl false) H) : rIsiT K [x, .ref tp] H Q := s_isiT2 ht tx k1 k2 h
theorem kb_nl : kitB "NoneType" "list" = some false := by decide +kernel
theorem kb_nt : kitB "NoneType" "tuple" = some false := by decide +kernel
theorem kb_nb : kitB "NoneType" "bool" = some false := by decide +kernel
theorem kb_il : kitB "int" "list" = some false := by decide +kernel
theorem kb_it : kitB "int" "tuple" = some false := by decide +kernel
theorem kb_bl : kitB "bool" "list" = some false := by decide +kernel
theorem kb_bt : kitB "bool" "tuple" = some false := by decide +kernel
theorem lookup1 {f : Str} {v : V} : List.lookup f [(f, v)] = some v := by simp [List.lookup]
theorem s_xf {a C d : Addr} {f : Str} {v : V} {i : Nat} {σ : L2.St} {H : Hp} {Q : VK} (e : σ[i]? = some (some (.ref a))) (hx : H d = some (.xd [(f, v)])) (h : Q v H) : tXf a (.ref C) (some d) C f (tVar i) σ H Q := ⟨_, e, rfl, rfl, d, _, v, rfl, hx, lookup1, h⟩
/-- a list (or tuple) of tuples -/
abbrev TupsIn (H : Hp) : List V → List (List V) → Prop := Paired fun (x : V) (r : List V) => ∃ t, x = .ref t ∧ H t = some (.tup r)
theorem TupsIn.same {H H' : Hp} (s : Same H H') : ∀ {xs : List V} {rs : List (List V)}, TupsIn H xs rs → TupsIn H' xs rs
  | _, _, .nil => .nil
  | _, _, .cons ⟨t, e, h⟩ r => .cons ⟨t, e, s _ _ h⟩ (TupsIn.same s r)
theorem TupsIn.upd {H : Hp} {p : Addr} {o : HO} {zs : List V} (hp : H p = some (.lst zs)) : ∀ {xs : List V} {rs : List (List V)}, TupsIn H xs rs → TupsIn (L2.upd H p o) xs rs
  | _, _, .nil => .nil
  | _, _, .cons ⟨t, e, h⟩ r => .cons ⟨t, e, by rw [upd_ne (fun z => by rw [z, hp] at h; cases h)]; exact h⟩ (TupsIn.upd hp r)
theorem paired_snoc {α β : Type} {F : α → β → Prop} {x : α} {y : β} : ∀ {xs : List α} {ys : List β}, Paired F xs ys → F x y → Paired F (xs ++ [x]) (ys ++ [y])
  | _, _, .nil, f => .cons f .nil
  | _, _, .cons a r, f => .cons a (paired_snoc r f)
theorem paired_set {α β : Type} {F : α → β → Prop} {x : α} {y : β} : ∀ {xs : List α} {ys : List β} (j : Nat), Paired F xs ys → F x y → Paired F (xs.set j x) (ys.set j y)
  | _, _, _, .nil, _ => .nil
  | _, _, 0, .cons _ r, f => .cons f r
  | _, _, j + 1, .cons a r, f => .cons a (paired_set j r f)
theorem TupsIn.app {H H1 : Hp} {l t : Addr} {xs r : List V} {rs : List (List V)} (hl : H l = some (.lst xs)) (ht : TupsIn H xs rs) (s : Same H H1) (nt : H t = none) (et : H1 t = some (.tup r)) :
    TupsIn (L2.upd H1 l (.lst (xs ++ [.ref t]))) (xs ++ [.ref t]) (rs ++ [r]) :=
  paired_snoc (TupsIn.upd (s _ _ hl) (ht.same s)) ⟨t, rfl, by rw [upd_ne (ne_of_none hl nt).symm]; exact et⟩
theorem TupsIn.put {H H1 : Hp} {l t : Addr} {xs r : List V} {rs : List (List V)} (j : Nat) (hl : H l = some (.lst xs)) (ht : TupsIn H xs rs) (s : Same H H1) (nt : H t = none) (et : H1 t = some (.tup r)) :
    TupsIn (L2.upd H1 l (.lst (xs.set j (.ref t)))) (xs.set j (.ref t)) (rs.set j r) :=
  paired_set j (TupsIn.upd (s _ _ hl) (ht.same s)) ⟨t, rfl, by rw [upd_ne (ne_of_none hl nt).symm]; exact et⟩
theorem take_more {α : Type} {xs : List α} {i : Nat} {x : α} (h : xs[i]? = some x) : xs.take (i + 1) = xs.take i ++ [x] := by
  rw [List.take_succ, h]; rfl
theorem pget {α β : Type} {F : α → β → Prop} : ∀ {xs : List α} {ys : List β} {i : Nat} {x : α}, Paired F xs ys → xs[i]? = some x → ∃ y, ys[i]? = some y ∧ F x y
  | _, _, _, _, .nil, e => by simp at e
  | _, _, 0, _, .cons f _, e => by simp at e; subst e; exact ⟨_, rfl, f⟩
  | _, _, i + 1, x, .cons _ r, e => by
    obtain ⟨y, h1, h2⟩ := pget (i := i) r (by simpa using e)
    exact ⟨y, by simpa using h1, h2⟩
theorem pget' {α β : Type} {F : α → β → Prop} : ∀ {xs : List α} {ys : List β} {i : Nat} {y : β}, Paired F xs ys → ys[i]? = some y → ∃ x, xs[i]? = some x ∧ F x y
  | _, _, _, _, .nil, e => by simp at e
  | _, _, 0, _, .cons f _, e => by simp at e; subst e; exact ⟨_, rfl, f⟩
  | _, _, i + 1, x, .cons _ r, e => by
    obtain ⟨y, h1, h2⟩ := pget' (i := i) r (by simpa using e)
    exact ⟨y, by simpa using h1, h2⟩
theorem s_isN {H : Hp} {Q : VK} (h : Q (.bl true) H) : L2.rIsN .non .non H Q := ⟨rfl, by rw [decide_eq_true rfl]; exact h⟩
theorem s_isNi {H : Hp} {Q : VK} {i : Int} (h : Q (.bl false) H) : L2.rIsN (.int i) .non H Q := ⟨rfl, by rw [decide_eq_false (by intro z; cases z)]; exact h⟩
def RgQ (Q : VK) (x y : V) (H : Hp) : Prop := ∃ i j, x = .int i ∧ y = .int j ∧ RgOk i j ∧ ∀ q, H q = none → Q (.ref q) (upd H q (.lst (rgV i j)))
theorem s_bm0 {K : PySem.W.Frag} {T : String} {r : V → List V → Hp → VK → Prop} {ta : TE} {σ : L2.St} {H : Hp} {Q : VK} (h : ta σ H fun x H1 => tyV K T x H1 ∧ r x [] H1 Q) : tBM0 K T r ta σ H Q := h
theorem s_lrg2 {ta tb : TE} {σ : L2.St} {H : Hp} {Q : VK} (h : ta σ H fun x H1 => tb σ H1 fun y H2 => RgQ Q x y H2) : tLstRg (tRg2 ta tb) σ H Q := h
theorem s_lc {wi : TI} {g : TG} {tt : TT} {te : TE} {vs : List Nat} {σ : L2.St} {H : Hp} {Q : VK} (h : wi σ H fun J H1 => tLc (fun _ _ R => R J H1) g tt te vs σ H1 Q) : tLc wi g tt te vs σ H Q := h
theorem call_isiK (K : PySem.W.Frag) {X : Cx} (h : X.K = K) : CallR X (.builtin "isinstance") (rIsi K) := h ▸ call_isi
theorem ix_seqK (K : PySem.W.Frag) {X : Cx} (h : X.K = K) : IxR X (rIx K) := h ▸ ix_seq
theorem s_isNb {H : Hp} {Q : VK} {i : Bool} (h : Q (.bl false) H) : L2.rIsN (.bl i) .non H Q := ⟨rfl, by rw [decide_eq_false (by intro z; cases z)]; exact h⟩
theorem s_isNr {H : Hp} {Q : VK} {i : Addr} (h : Q (.bl false) H) : L2.rIsN (.ref i) .non H Q := ⟨rfl, by rw [decide_eq_false (by intro z; cases z)]; exact h⟩
theorem s_notN {H : Hp} {Q : VK} (h : Q (.bl false) H) : L2.rNotN .non .non H Q := ⟨rfl, by rw [decide_eq_true rfl]; exact h⟩
theorem s_notNi {H : Hp} {Q : VK} {i : Int} (h : Q (.bl true) H) : L2.rNotN (.int i) .non H Q := ⟨rfl, by rw [decide_eq_false (by intro z; cases z)]; exact h⟩
theorem s_notNr {H : Hp} {Q : VK} {i : Addr} (h : Q (.bl true) H) : L2.rNotN (.ref i) .non H Q := ⟨rfl, by rw [decide_eq_false (by intro z; cases z)]; exact h⟩
theorem fn_or {P : Program} {w : World} {K : PySem.W.Frag} {mg : Str → Option Value} {base : Heap} {CX : CXT} {k : Nat} {f : Addr} {fd : FuncData} {ps : List Str} {sp sp1 sp2 : Sp} (F1 : FnOk P w K mg base CX k f fd ps sp1) (F2 : FnOk P w K mg base CX k f fd ps sp2)
    (h : ∀ vs H Q E, sp vs H Q E → sp1 vs H Q E ∨ sp2 vs H Q E) : FnOk P w K mg base CX k f fd ps sp :=
  ⟨fun vs H Q E q => (h vs H Q E q).elim (F1.len vs H Q E) (F2.len vs H Q E), fun A outer s H args us vs Q E hr he hb hv hs => (h vs H Q E hs).elim (F1.run A outer s H args us vs Q E hr he hb hv) (F2.run A outer s H args us vs Q E hr he hb hv)⟩
/-! loops -/
section
variable {c : TT} {tb : TS} {D : Ends} {σ : L2.St} {H : Hp}
/-- the int in a slot -/
def iv (σ : L2.St) (i : Nat) : Int := match σ[i]? with
  | some (some (V.int r)) => r
  | _ => 0
def WW (Pv : L2.St → Hp → Prop) (μ : L2.St → Hp → Nat) : Nat → L2.St → Hp → Prop := fun m σ H => m = μ σ H ∧ Pv σ H
theorem s_while (Pv : L2.St → Hp → Prop) (μ : L2.St → Hp → Nat) (h0 : Pv σ H)
    (hs : ∀ σ H, Pv σ H → c σ H fun b H1 => if b = true then ∃ N : L2.St → Hp → Prop, (∀ σ' H', N σ' H' → ∃ m', m' < μ σ H ∧ WW Pv μ m' σ' H') ∧ tb { D with nx := N, ct := N, bk := D.nx } σ H1 else D.nx σ H1) : tWhile c tb D σ H :=
  ⟨WW Pv μ, ⟨_, rfl, h0⟩, fun m σ H ⟨e, p⟩ => by subst e; exact hs σ H p⟩
theorem s_turn {Pv : L2.St → Hp → Prop} {μ : L2.St → Hp → Nat} {m : Nat} (h : tb { D with nx := fun σ' H' => Pv σ' H' ∧ μ σ' H' < m, ct := fun σ' H' => Pv σ' H' ∧ μ σ' H' < m, bk := D.nx } σ H) :
    ∃ N : L2.St → Hp → Prop, (∀ σ' H', N σ' H' → ∃ m', m' < m ∧ WW Pv μ m' σ' H') ∧ tb { D with nx := N, ct := N, bk := D.nx } σ H := ⟨_, fun σ' H' p => ⟨_, p.2, rfl, p.1⟩, h⟩
end
/-! numbers -/
def CDivF (_ j : Int) : Prop := j ≠ 0 ∧ j.natAbs.log2 < 9000
section
variable {X : Cx}
theorem op_divF : OpR X (binaryOp .FloorDiv) (rI CDivF fun i j => .int (i.fdiv j)) := opI fun _ _ _ _ _ _ _ hc q => floordiv_int hc.1 q (.inl (PyProof.noPylong_of_log2 hc.2))
end
theorem divW {a j : Int} (h : 0 < j) (h2 : j.natAbs < 2 ^ 2000) : CDivW a j := wide_div h h2 (by decide) (by decide)
theorem divF {a j : Int} (h : j ≠ 0) (h2 : j.natAbs < 2 ^ 2000) : CDivF a j := ⟨h, Nat.lt_of_lt_of_le (PySem.Flt.log2_lt_of (by decide) h2) (by decide)⟩
theorem mulW {a b : Int} (h1 : a.natAbs < 2 ^ 2000) (h2 : b.natAbs < 2 ^ 2000) : CMulW a b := wide_mul h1 h2 (by decide) (by decide) (by decide)
/-- a law over a head by facts: its last step, the script's sizes told -/
theorem walk_ofEB {l : PySem.W.OpenLaw} {n k : Nat} {qv : Program} {ls : List Str} {XP : (Str → Option Value) → Heap → Prop} {YP : World → Heap → Prop} {dr : DefRec} {CX : World → CXT} {prm : Str}
    (hmost : l.most = some n) (hline : n ≤ sizeLine) (hnod : dr.params.defaults = []) (room : Room k callerA)
    (F : ∀ (w : World) (mg : Str → Option Value) (fa : Addr) (hp : Heap), YP w hp → hp.Ns mainGlobals mg → mg dr.name = some (.ref fa) →
      ∃ (Kf : PySem.W.Frag) (fdt : FuncData) (sp : Sp), Kf.In hp ∧ (∀ (s : Shared) (u : Value), BindsTo s fdt ⟨[u], []⟩ [(prm, u)]) ∧
        (∀ (H : Hp) (a : Addr) (ns : List Int), ns.length ≤ n → (∀ z ∈ ns, Builtin.Int.intBits z ≤ 1048576) → Only H → SqL Kf H a (ns.map V.int) → sp [.ref a] H (fun v _ => v = .bl true) fun _ _ _ => False) ∧
        ∀ base : Heap, Kf.In base → base.Ns mainGlobals mg → FnOk l.prog w Kf mg base (CX w) k fa fdt [prm] sp)
    (none_out : ∀ (w : World) (H : Hp) (s : Shared) (e : Value) (s' : Shared), CX w [] H s (fun _ _ _ => False) e s' → False) :
    PySem.W.WalkO qv ls XP YP l.row.toRowW dr [] (fun f vs => PySem.call f vs) := by
  refine Att.attach_callB hmost hnod fun w s₀ s₁ mg _ fa _ _ _ _ a _ ns G Y _ _ _ gN ob1 xis len bits run => ?_
  obtain ⟨Kf, fdt, sp, kin, bnd, last, fok⟩ := F w mg fa _ Y G.T.g gN
  exact law_call kin G.T.g G.T.b G.T.builtins G.T.nolimit run ob1 xis (Nat.le_trans len hline) room fok bnd (fun H only sq => last H a ns len bits only sq) fun H e s' => none_out w H s₁ e s'
theorem cx0_no {P : Program} (w : World) (H : Hp) (s : Shared) (e : Value) (s' : Shared) (h : CX0 [] H s (fun _ _ _ => False) e s') : False := h
/-! what the head tells: facts as tests of the written part, defs at any address -/
abbrev FB := PySem.W.Frag → Bool
def toldR (fb : List FB) (fn : List He5.DefA) (K : PySem.W.Frag) : He.AlD := ((fb.all fun t => t K) && (fn.all fun e => e.ok K), fn.map fun e => He5.fnA K (e.at_ K))
def dueR (fn : List He5.DefA) : He.AlD := (true, fn.map He5.DefA.val)
def Told (fb : List FB) (fn : List He5.DefA) (K : PySem.W.Frag) : Prop := toldR fb fn K = dueR fn
def toldG (n : Nat) (fb : List FB) (fn : List He5.DefA) (g : Addr → Option Obj) : He.AlD := toldR fb fn (He.frG g (He5.asA g n))
def hookR (n : Nat) (fb : List FB) (fn : List He5.DefA) : PySem.W.Hook where
  α := He.AlD
  obs := fun st => toldG n fb fn st.heap.get?
  val := fun _ => dueR fn
  says := fun _ hp => ∃ Kf : PySem.W.Frag, Kf.In hp ∧ Told fb fn Kf
  of := fun _ _ eq => ⟨_, He.frG_in, eq⟩
  keeps := fun _ _ _ ⟨Kf, hin, tl⟩ kp => ⟨Kf, PySem.W.Frag.In.keeps hin kp, tl⟩
theorem toldG_eq {n : Nat} {fb : List FB} {fn : List He5.DefA} {g : Addr → Option Obj} {st : Shared} (h : ∀ a, g a = st.heap.get? a) : toldG n fb fn g = (hookR n fb fn).obs st := by
  have eg : g = st.heap.get? := funext h
  rw [eg] <;> rfl
theorem Told.fact {fb : List FB} {fn : List He5.DefA} {K : PySem.W.Frag} (tl : Told fb fn K) (i : Nat) {t : FB} (h : fb[i]? = some t := by rfl) : t K = true := by
  have e0 : ((fb.all fun t => t K) && (fn.all fun e => e.ok K)) = true := congrArg Prod.fst tl
  exact List.all_eq_true.mp (Bool.and_eq_true_iff.mp e0).1 t (List.mem_of_getElem? h)
theorem Told.dfn {fb : List FB} {fn : List He5.DefA} {K : PySem.W.Frag} (tl : Told fb fn K) (i : Nat) {e : He5.DefA} (h : fn[i]? = some e := by rfl) : ∃ fd, FunD K e.name e.qual e.params e.body e.scope (e.dvs K) (e.kws K) (e.at_ K) fd := by
  have e0 : ((fb.all fun t => t K) && (fn.all fun e => e.ok K)) = true := congrArg Prod.fst tl
  have e1 : fn.map (fun e => He5.fnA K (e.at_ K)) = fn.map He5.DefA.val := congrArg Prod.snd tl
  have e2 := congrArg (fun l => l[i]?) e1
  simp only [List.getElem?_map, h, Option.map_some] at e2
  exact He5.DefA.funD (Option.some.inj e2) (List.all_eq_true.mp (Bool.and_eq_true_iff.mp e0).2 e (List.mem_of_getElem? h))
/-! own exception classes whose __init__ calls their base's and keeps one field -/
def oexB (C : Addr) : FB := fun K => (match K.lookup C with
  | some ⟨.type tn, _, .cls cd, sl⟩ => (match cd.mro, sl.toList with
    | .ref C' :: bm, [_, _, _, _, some (.builtin n), _] => decide (tn = "type") && (C' == C && (decide (n = "ValueError.__new__") && (!cd.hasDel && (cd.hasDict && PySem.HandSPX.refsVE bm))))
    | _, _ => false)
  | _ => false) && (decide (PySem.W.findIn K (.ref C) "__setattr__" = some (some (.builtin "object.__setattr__"))) && (decide (PySem.W.subIn K (.ref C) (.type "BaseException") = some true) && (decide (PySem.W.typeIn K (.ref C) = some (.type "type")) && PySem.W.keepIn K (.ref C))))
theorem oex_of {K : PySem.W.Frag} {C : Addr} (h : oexB C K = true) : OexC K C := by
  unfold oexB at h
  simp only [Bool.and_eq_true, decide_eq_true_eq] at h
  obtain ⟨h1, h2, h3, h4, h5⟩ := h
  refine ⟨?_, h2, h3, h4, h5⟩
  split at h1
  · rename_i tn dd cd sl ho
    split at h1
    · rename_i C' bm k0 k1 k2 k3 n k5 hm hs
      simp only [Bool.and_eq_true, beq_iff_eq, Bool.not_eq_true', decide_eq_true_eq] at h1
      obtain ⟨rfl, rfl, rfl, hdel, hdct, hr⟩ := h1
      obtain ⟨nm, bs, mro, ns, qn, hd, sn, sub, ab, col, del⟩ := cd
      dsimp only at hm hdel hdct
      subst hm hdel hdct
      have hsl : sl = #[k0, k1, k2, k3, some (.builtin "ValueError.__new__"), k5] := by
        obtain ⟨l⟩ := sl
        simp only at hs
        rw [hs]
      subst hsl
      exact ⟨nm, qn, ns, bs, bm, sn, sub, ab, col, dd, k0, k1, k2, k3, k5, ho, hr⟩
    · cases h1
  · cases h1
/-- the base P, whose __init__ is called through it -/
def baseB (C : Addr) : FB := fun K => PySem.W.readsIn K C (.type "type") && (decide (PySem.W.specialIn K (.ref C) "__getattribute__" = some (some (.builtin "type.__getattribute__"))) && (match PySem.W.findCls K (.ref C) (.type "type") "__init__" with
  | some (.val (.builtin n)) => decide (n = "ValueError.__init__")
  | _ => false))
structure BaseC (K : PySem.W.Frag) (C : Addr) : Prop where
  rd : PySem.W.readsIn K C (.type "type") = true
  ga : PySem.W.specialIn K (.ref C) "__getattribute__" = some (some (.builtin "type.__getattribute__"))
  at_ : PySem.W.findCls K (.ref C) (.type "type") "__init__" = some (.val (.builtin "ValueError.__init__"))
theorem base_of {K : PySem.W.Frag} {C : Addr} (h : baseB C K = true) : BaseC K C := by
  unfold baseB at h
  simp only [Bool.and_eq_true, decide_eq_true_eq] at h
  obtain ⟨h1, h2, h3⟩ := h
  refine ⟨h1, h2, ?_⟩
  split at h3
  · rename_i n e
    rw [e, of_decide_eq_true h3]
  · cases h3
section
variable {X : Cx} {e : Expr} {es : List Expr} {ta : TA} {p1 p2 pos : Pos}
/-- P.__init__(self, ..) -/
theorem pe_cinit {x : Str} {C : Addr} {pl : Sem Bool} (hg : Gl X x) (hm : X.mg x = some (.ref C)) (r : BaseC X.K C) (ha : PA X (e :: es) ta) (hdb : (x == ("__debug__" : Str)) = false := by decide)
    (hc : eval (.Call (.Attribute (.Name x p1) "__init__" p2) (e :: es) [] pos) X.env = (do
      let ov ← eval (.Name x p1) X.env
      standAt p2.atName
      let (f, fst) ← holding [ov] (getMethod ov "__init__" pl)
      callWith pos f fst (backTo pos (starEach (e :: es) X.env)) (backToKw pos (keywordEach [] X.env))) := by rfl)
    (he : starEach (e :: es) X.env = (false, eval e X.env) :: starEach es X.env := by rfl) (hpl : (backTo pos (starEach es X.env)).any (·.1) = false := by rfl) :
    PE X (.Call (.Attribute (.Name x p1) "__init__" p2) (e :: es) [] pos) (tVeI X.K ta) := by
  refine ⟨fun pins s σ H Q I h => ?_⟩
  refine PySem.W.methodCall_KW (ld_glob I hg hm ?_ hdb) hc
  refine PySem.W.method_cls I.kIn r.ga (PySem.W.cls_value I.kIn r.rd r.at_ (by decide +kernel) ?_)
  show wpAny _ _ (callWith pos (Value.builtin "ValueError.__init__") [] (backTo pos (starEach (e :: es) X.env)) []) _ _ _
  refine PyProof.Rows.callWith_method1 (thn (ha.run pos pins _ σ H _ (I.tok _) h) fun us s1 ⟨vs, H1, I1, r1, a, C, ws, ev, hl, T, ea, q⟩ => ?_) he hpl
  subst ev
  cases r1 with
  | @cons _ u0 _ ur ra rw' =>
    obtain rfl : u0 = Value.ref a := ra
    have hlen : ur.length ≤ sizeLine := by rw [← Paired.length rw']; exact len_le hl
    exact oinit_ok T I1 ea hlen fun s' J => ⟨.non, H1, J, rfl, q⟩
end
/-! isinstance of a caught own error, with or without a dict of its own -/
structure IsX (K : PySem.W.Frag) (D : Addr) : Prop where
  ga : PySem.W.findIn K (.ref D) "__getattribute__" = some (some (.builtin "BaseException.__getattribute__"))
  gg : PySem.W.findIn K (.ref D) "__getattr__" = some none
  sub : PySem.W.subIn K (.ref D) (.type "BaseException") = some true
  dct : PySem.W.hasDictIn K D = true
  cl : PySem.W.findIn K (.ref D) "__class__" = some (some (.builtin "object.__class__"))
  gt : PySem.W.specialIn K (.builtin "object.__class__") "__get__" = some (some (.builtin "getset_descriptor.__get__"))
  tk : PySem.W.takesIn K (.builtin "object.__class__") = some true
  mro : PySem.W.mroIn K D (.type "object") = some true
def isxB (x : Str) : FB := fun K => decide (PySem.W.findIn K (.ref (He.ga K x)) "__getattribute__" = some (some (.builtin "BaseException.__getattribute__"))) && (decide (PySem.W.findIn K (.ref (He.ga K x)) "__getattr__" = some none) &&
  (decide (PySem.W.subIn K (.ref (He.ga K x)) (.type "BaseException") = some true) && (PySem.W.hasDictIn K (He.ga K x) && (decide (PySem.W.findIn K (.ref (He.ga K x)) "__class__" = some (some (.builtin "object.__class__"))) &&
  (decide (PySem.W.specialIn K (.builtin "object.__class__") "__get__" = some (some (.builtin "getset_descriptor.__get__"))) && (decide (PySem.W.takesIn K (.builtin "object.__class__") = some true) && decide (PySem.W.mroIn K (He.ga K x) (.type "object") = some true)))))))
theorem isx_of {K : PySem.W.Frag} {x : Str} (h : isxB x K = true) : IsX K (He.ga K x) := by
  unfold isxB at h
  simp only [Bool.and_eq_true, decide_eq_true_eq] at h
  obtain ⟨h1, h2, h3, h4, h5, h6, h7, h8⟩ := h
  exact ⟨h1, h2, h3, h4, h5, h6, h7, h8⟩
end R
namespace PySem.W
open PySem PySem.Spec PySem.Calls PyProof.Rows
section
variable {prog : Program} {w : World} {A : Around} {E : Value → Shared → Prop} {s : Shared} {K : Frag} {x D : Addr} {ox : Obj} {od : Option Obj}
theorem r_findcls (T : R.IsX K D) : findObj K D od "__class__" = some (.bind (.builtin "getset_descriptor.__get__") (.builtin "object.__class__")) := by
  obtain ⟨cd, e1, _⟩ := any_some T.dct
  unfold findObj
  simp [e1, T.cl, T.gt, T.tk]
theorem r_readcls {Q : Option Value → Shared → Prop} (T : R.IsX K D) (X : K.In s.heap) (I : InstAt s.heap x ox D od) (h : Q (some (.ref D)) { s with toks := s.toks + 1 }) : wpAny (model prog w) A (getAttr? (.ref x) "__class__") Q E s := by
  obtain ⟨hp, gn, dr, tk, os⟩ := s
  have l0 := I.type (M := model prog w)
  have l1 := looks_findIn (M := model prog w) X T.ga
  have l2 := looks_findIn (M := model prog w) X T.gg
  have l3 := looks_find (M := model prog w) X I (r_findcls (od := od) T)
  have lsub : Looks (model prog w) hp (isInstance (.ref x) (.type "BaseException")) true := l0.andThen (looks_subIn X T.sub)
  have n1 : (Value.builtin "BaseException.__getattribute__" == Value.builtin "object.__getattribute__") = false := by decide +kernel
  have n2 : (onTheHeap (Value.ref D) && Value.builtin "BaseException.__getattribute__" == Value.builtin "object.__getattribute__") = false := by rw [n1]; rfl
  have n3 : (false && onTheHeap (Value.builtin "BaseException.__getattribute__")) = false := rfl
  unfold getAttr? getAttrBy? getAttrBy
  refine wpAny_bind (wpAny_mkText (wpAny_bind (wpAny_attempt (wpAny_holding (wpAny_bind (l0.at (wpAny_bind (l1.at ?_))))))))
  show wpAny _ _ (if (onTheHeap (Value.ref D) && Value.builtin "BaseException.__getattribute__" == Value.builtin "object.__getattribute__") = true then _ else _) _ _ _
  rw [n2, if_neg Bool.false_ne_true]
  unfold getAttrByItsOwn hookBefore
  refine wpAny_bind ?_
  rw [if_pos (show onTheHeap (Value.ref D) = true from rfl)]
  refine l2.at ?_
  refine wpAny_bind (wpAny_attempt (wpAny_holding ?_))
  unfold callGetattribute
  rw [n3, if_neg Bool.false_ne_true]
  unfold boundAndCalled
  rw [PySem.F.excAttr_ValueError.ga.bind (.ref x)]
  refine wpAny_bind (wpAny_pure ?_)
  show wpAny _ _ (call (.builtin "BaseException.__getattribute__") [.ref x, .str "__class__" tk]) _ _ _
  refine wpAny_call (codeAny_call_builtin PySem.F.excAttr_ValueError.ga.plain PySem.F.entry_bexc_ga ?_)
  refine @check_slot (model prog w) _ _ ⟨hp, gn, dr, tk + 1, os⟩ "BaseException.__getattribute__" "BaseException" "__getattribute__" (.ref x) [.str "__class__" tk] [] _ (by decide +kernel) (by decide +kernel) lsub (PySem.F.args_bexc_ga (.ref x) (.str "__class__" tk)) ?_
  unfold Builtin.«object.__getattribute__»
  refine wpAny_bind (wpAny_of_eq (a := ((Value.ref x : Value), [Value.str "__class__" tk])) (by first | rfl | (simp only [slotArgs]; rfl)) ?_)
  refine wpAny_bind (wpAny_pure (wpAny_bind (l0.at (wpAny_bind (l3.at ?_)))))
  show wpAny _ _ (holding [Value.builtin "object.__class__"] (call (.builtin "getset_descriptor.__get__") [.builtin "object.__class__", .ref x, .ref D]) >>= ret) _ _ _
  refine wpAny_bind (wpAny_holding (wpAny_call (class_get (s := ⟨hp, gn, dr, tk + 1, os⟩) (ox := ox) (od := od) X I T.mro ?_)))
  refine wpAny_pure ?_
  show wpAny _ _ (handedOut (.ref D)) _ _ _
  rw [handedOut_of (v := .ref D) rfl]
  first
    | exact wpAny_pure (wpAny_pure h)
    | exact wpAny_pure h
    | exact wpAny_pure (wpAny_bind (wpAny_pure (wpAny_pure h)))
theorem r_kit (T : R.IsX K D) : KitX K (.ref x) (.ref D) (fun hp => InstAt hp x ox D od) where
  ty := fun _ _ _ I => I.type
  it := fun _ _ X _ => by
    obtain ⟨cd, e1, _⟩ := any_some T.dct
    unfold clsIn at e1
    split at e1
    · rename_i _ _ _ _ at_
      intro A' Q' E' s' k q
      unfold isType loadHead
      exact wpAny_bind (wpAny_loadPart (k _ _ (X _ _ at_)) (wpAny_pure q))
    · cases e1
  ne := fun hp tp dd its n sl X at_tp => by
    obtain ⟨cd, e1, _⟩ := any_some T.dct
    refine Bool.eq_false_iff.mpr fun q => ?_
    obtain rfl : D = tp := Value.ref.inj (beq_iff_eq.mp q)
    unfold clsIn at e1
    split at e1
    · rename_i _ _ _ _ at_
      exact nomatch (X _ _ at_).symm.trans at_tp
    · cases e1
  ca := fun X I k => r_readcls T X I k
end
end PySem.W
namespace R
open PySem PySem.Spec PyProof.Rows L2
theorem callIsX {X : Cx} {a D : Addr} {oe : Obj} {d : Option Addr} {pn : List (Addr × Obj)} (T : IsX X.K D) (hz : Zc (.ref D) d oe) (hf : ∃ vs, oe.data = .fields vs) :
    CallR (X.suite a ((a, oe) :: pn)) (.builtin "isinstance") (fun xs H Q => ∃ fs, (∀ dd, d = some dd → H dd = some (.xd fs)) ∧ rIsE X.K D a xs H Q) := by
  intro pins s σ H xs us Q I r h
  obtain ⟨fs, hdd, c, cv, b, rfl, hcv, e, q⟩ := h
  cases r with
  | cons rx rr =>
    cases rr with
    | cons rt rr =>
      cases rr
      cases rx
      have ec := hcv _ rt
      subst ec
      obtain ⟨hget, _⟩ := I.pin (a, oe) (List.mem_append.mpr (.inl List.mem_cons_self))
      obtain ⟨vs, hv⟩ := hf
      have J : ∃ od, PySem.W.InstAt s.heap a oe D od := by
        obtain ⟨oc, dd, oda, osl⟩ := oe
        obtain ⟨h1, h2⟩ := hz
        dsimp only at h1 h2 hv
        subst h1 h2 hv
        cases dd with
        | none => exact ⟨none, hget, rfl, rfl, trivial⟩
        | some dx =>
          obtain ⟨mA, hns, _⟩ : ObjOk X.prog X.w H s.heap dx (.xd fs) := I.hok dx _ (hdd dx rfl)
          obtain ⟨o, _, _, ho, _⟩ := hns
          exact ⟨some o, hget, rfl, rfl, ho⟩
      obtain ⟨od, J⟩ := J
      exact PySem.W.kia_one (PySem.W.r_kit T) I.kIn J e (fun z => nomatch z) fun tk => ⟨.bl b, H, I.kept (t' := tk) fun _ _ z => z, rfl, q⟩
/-- isinstance(e, C), e the error that the suite holds: what is asked -/
def rIsXd (K : PySem.W.Frag) (D a : Addr) (d : Option Addr) : List V → Hp → VK → Prop := fun xs H Q => ∃ fs, (∀ dd, d = some dd → H dd = some (.xd fs)) ∧ rIsE K D a xs H Q
/-- what such a class is, its __init__ at fI, its field f -/
structure XIn (K : PySem.W.Frag) (C fI : Addr) (f : Str) : Prop where
  oex : OexC K C
  iC : PySem.W.findIn K (.ref C) "__init__" = some (some (.ref fI))
  tI : PySem.W.typeIn K (.ref fI) = some (.type "function")
  noF : PySem.W.findIn K (.ref C) f = some none
  xf : XfC K C
def xinB (x f : Str) : FB := fun K => oexB (He.ga K x) K && (decide (PySem.W.findIn K (.ref (He.ga K x)) "__init__" = some (some (.ref (He.ma K (He.ga K x) "__init__")))) && (decide (PySem.W.typeIn K (.ref (He.ma K (He.ga K x) "__init__")) = some (.type "function")) &&
  (decide (PySem.W.findIn K (.ref (He.ga K x)) f = some none) && xfB K (He.ga K x))))
theorem xin_of {K : PySem.W.Frag} {x f : Str} (h : xinB x f K = true) : XIn K (He.ga K x) (He.ma K (He.ga K x) "__init__") f := by
  unfold xinB at h
  simp only [Bool.and_eq_true, decide_eq_true_eq] at h
  obtain ⟨h1, h2, h3, h4, h5⟩ := h
  exact ⟨oex_of h1, h2, h3, h4, xfB_ok h5⟩
/-- __init__(self, v) of a class at C: the field is kept -/
def sp_init (K : PySem.W.Frag) (C : Addr) (f : Str) : Sp := fun vs H Q _ => ∃ (a : Addr) (v : V), vs = [.ref a, v] ∧ OexC K C ∧ PySem.W.findIn K (.ref C) f = some none ∧ H a = some (exo a C none) ∧
  ∀ dx, H dx = none → dx ≠ a → Q .non (upd (upd H dx (exd dx [(f, v)])) a (exo a C (some dx)))
theorem rd_init {K : PySem.W.Frag} {C : Addr} {f m : Str} {vs : List V} {H : Hp} {Q : VK} {E : XK} (h : sp_init K C f vs H Q E) :
    tSeq (tDrop (tVeI K (tCons (tVar 0) (tCons (tC (.str m)) tNil)))) (tOst K f (tVar 0) (tVar 1)) { nx := fun _ H' => Q .non H', rt := Q } (L2.start ["self", f] vs) H := by
  obtain ⟨a, v, rfl, T, hn, ha, k⟩ := h
  exact ⟨_, rfl, a, C, [.str m], rfl, by simp, T, ha, _, rfl, _, rfl, a, C, rfl, T, hn, .inl ⟨ha, fun dx h1 h2 => k dx h1 h2⟩⟩
section
variable {ta : TA} {σ : L2.St} {H : Hp} {QX : XK}
def RzP (C : Addr) (sp : Sp) (QX : XK) (vs : List V) (H1 : Hp) : Prop := vs.length ≤ 1000 ∧ ∀ a, H1 a = none → sp (.ref a :: (vs ++ [])) (upd H1 a (exo a C none))
  (fun v H2 => v = .non ∧ ∃ (d : Addr) (fs : List (Str × V)), H2 a = some (exo a C (some d)) ∧ H2 d = some (exd d fs) ∧ H1 d = none ∧ QX (.ref C) (some d) (upd (del H2 a) d (.xd fs))) (fun _ _ _ => False)
theorem s_mko {C : Addr} {sp : Sp} (h : ta σ H fun vs H1 => RzP C sp QX vs H1) : tMkO C sp [] ta σ H QX := h
theorem s_raise {K : PySem.W.Frag} {C : Addr} {f : Str} {v : V} (T : OexC K C) (hn : PySem.W.findIn K (.ref C) f = some none) (k : ∀ d H', H d = none → H' d = some (.xd [(f, v)]) → Same H H' → QX (.ref C) (some d) H') : RzP C (sp_init K C f) QX [v] H := by
  refine ⟨by simp, fun a ha => ⟨a, v, rfl, T, hn, upd_same, fun dx hdx hne => ⟨rfl, dx, [(f, v)], upd_same, ?_, ?_, ?_⟩⟩⟩
  · rw [upd_ne hne, upd_same]
  · rw [upd_ne hne] at hdx; exact hdx
  · rw [upd_ne hne] at hdx
    refine k dx _ hdx upd_same fun b o e => ?_
    have n1 : b ≠ dx := ne_of_none e hdx
    have n2 : b ≠ a := ne_of_none e ha
    rw [upd_ne n1, del_ne n2, upd_ne n2, upd_ne n1, upd_ne n2]
    exact e
end
/-! own exceptions without fields; isinstance of a caught error of any own class -/
section
variable {X : Cx} {C : Addr} {bmB : List Value} {B newId initId : String}
/-- X() -/
theorem pmk_own0 {x : Str} {p pos : Pos} (F : ExcBaseFacts B newId initId bmB) (q : PySem.W.excIn X.K C bmB newId = true) (gC : X.mg x = some (.ref C)) (kC : PySem.W.keepIn X.K (.ref C) = true) (r : Raises X (.ref C)) (hg : Gl X x)
    (hdb : (x == ("__debug__" : Str)) = false := by decide) : PMk X (.Call (.Name x p) [] [] pos) (fun _ H Q => Q (.ref C) none H) := by
  intro pins s σ H Q I h
  refine wpAny_Call_Name_kw (ld_glob I hg gC ?_ hdb)
  refine PySem.W.callWith_K0 I.kIn kC ?_
  obtain ⟨bm, N, nm, qn, bs, hdct, sn, sub, ab, col, dd, k0, k1, k2, k3, k5, mN, hC, hN, hni, T⟩ := exc_obj I.kIn q
  refine wpAny_call_exc_subT F T hC hN hni (fun h' e hm => ?_) (Nat.zero_le _)
  exact mk_of I hm r h (I.hok.gone hm.new)
end
def tRz (C : Addr) : L2.St → Hp → XK → Prop := fun _ H Q => Q (.ref C) none H
theorem s_rz {C : Addr} {σ : L2.St} {H : Hp} {Q : XK} (h : Q (.ref C) none H) : tRz C σ H Q := h
/-- a class without fields, raised -/
structure Exc0 (K : PySem.W.Frag) (C : Addr) : Prop where
  ex : PySem.W.excIn K C He.veBase "ValueError.__new__" = true
  kp : PySem.W.keepIn K (.ref C) = true
  sb : PySem.W.subIn K (.ref C) (.type "BaseException") = some true
  ty : PySem.W.typeIn K (.ref C) = some (.type "type")
theorem exc0_of {K : PySem.W.Frag} {x : Str} (c : (He.Fa.exc x).ok K = true) : Exc0 K (He.ga K x) := by
  obtain ⟨h1, h2, h3, h4⟩ := He.exc_ok c
  exact ⟨h1, h2, h3, h4⟩
theorem pmk_z {X : Cx} {C : Addr} {x : Str} {p pos : Pos} (F : Exc0 X.K C) (gC : X.mg x = some (.ref C)) (hg : Gl X x) (hdb : (x == ("__debug__" : Str)) = false := by decide) : PMk X (.Call (.Name x p) [] [] pos) (tRz C) :=
  pmk_own0 PySem.F.excBase_ValueError F.ex gC F.kp (raises_own F.sb F.ty) hg hdb
theorem pmk_zs {X : Cx} {C : Addr} {x m : Str} {j : Nat} {p p2 pos : Pos} (F : Exc0 X.K C) (gC : X.mg x = some (.ref C)) (hg : Gl X x) (hdb : (x == ("__debug__" : Str)) = false := by decide) : PMk X (.Call (.Name x p) [.Constant (.str m) j p2] [] pos) (tRz C) :=
  L2.pmk_own PySem.F.excBase_ValueError F.ex gC F.kp (raises_own F.sb F.ty) hg hdb
def kitcB (x y : Str) (b : Bool) : FB := fun K => decide (PySem.W.kitOne K (.ref (He.ga K x)) (.ref (He.ga K y)) = some b)
def kittB (x : Str) (y : String) (b : Bool) : FB := fun K => decide (PySem.W.kitOne K (.ref (He.ga K x)) (.type y) = some b)
theorem kitc_of {K : PySem.W.Frag} {x y : Str} {b : Bool} (h : kitcB x y b K = true) : PySem.W.kitOne K (.ref (He.ga K x)) (.ref (He.ga K y)) = some b := of_decide_eq_true h
theorem kitt_of {K : PySem.W.Frag} {x : Str} {y : String} {b : Bool} (h : kittB x y b K = true) : PySem.W.kitOne K (.ref (He.ga K x)) (.type y) = some b := of_decide_eq_true h
/-- isinstance(e, c) in an except suite, the class of e told in the reading -/
def rIsA (K : PySem.W.Frag) (cls : Value) (d : Option Addr) (a : Addr) : List V → Hp → VK → Prop := fun xs H Q => ∃ D, cls = .ref D ∧ IsX K D ∧ ∃ fs, (∀ dd, d = some dd → H dd = some (.xd fs)) ∧
  ∃ (c : V) (cv : Value) (b : Bool), xs = [.ref a, c] ∧ ClsV c cv ∧ PySem.W.kitOne K (.ref D) cv = some b ∧ Q (.bl b) H
def rIsAT (K : PySem.W.Frag) (cls : Value) (d : Option Addr) (a : Addr) : List V → Hp → VK → Prop := fun xs H Q => ∃ D, cls = .ref D ∧ IsX K D ∧ ∃ fs, (∀ dd, d = some dd → H dd = some (.xd fs)) ∧
  ∃ (tp : Addr) (cs : List V) (us : List Value) (b : Bool), xs = [.ref a, .ref tp] ∧ H tp = some (.tup cs) ∧ Paired ClsV cs us ∧ PySem.W.kitAny K (.ref D) us = some b ∧ Q (.bl b) H
section
variable {X : Cx} {a : Addr} {cls : Value} {oe : Obj} {d : Option Addr} {pn : List (Addr × Obj)}
theorem inst_of {D : Addr} {pins : List (Addr × Obj)} {σ : L2.St} {H : Hp} {s : Shared} {fs : List (Str × V)} (I : Inv (X.suite a ((a, oe) :: pn)) pins σ H s) (hz : Zc (.ref D) d oe) (hf : ∃ vs, oe.data = .fields vs) (hdd : ∀ dd, d = some dd → H dd = some (.xd fs)) : ∃ od, PySem.W.InstAt s.heap a oe D od := by
  obtain ⟨hget, _⟩ := I.pin (a, oe) (List.mem_append.mpr (.inl List.mem_cons_self))
  obtain ⟨vs, hv⟩ := hf
  obtain ⟨oc, dd, oda, osl⟩ := oe
  obtain ⟨h1, h2⟩ := hz
  dsimp only at h1 h2 hv
  subst h1 h2 hv
  cases dd with
  | none => exact ⟨none, hget, rfl, rfl, trivial⟩
  | some dx =>
    obtain ⟨mA, hns, _⟩ : ObjOk X.prog X.w H s.heap dx (.xd fs) := I.hok dx _ (hdd dx rfl)
    obtain ⟨o, _, _, ho, _⟩ := hns
    exact ⟨some o, hget, rfl, rfl, ho⟩
theorem callIsA (hz : Zc cls d oe) (hf : ∃ vs, oe.data = .fields vs) : CallR (X.suite a ((a, oe) :: pn)) (.builtin "isinstance") (rIsA X.K cls d a) := by
  intro pins s σ H xs us Q I r h
  obtain ⟨D, rfl, T, fs, hdd, c, cv, b, rfl, hcv, e, q⟩ := h
  obtain ⟨u1, u2, rfl, r1, r2⟩ := vals2 r
  cases (show u1 = Value.ref a from r1)
  have ec := hcv.eq r2
  subst ec
  obtain ⟨od, J⟩ := inst_of I hz hf hdd
  exact PySem.W.kia_one (PySem.W.r_kit T) I.kIn J e (fun z => nomatch z) fun tk => ⟨.bl b, H, I.kept (t' := tk) fun _ _ z => z, rfl, q⟩
theorem callIsAT (hz : Zc cls d oe) (hf : ∃ vs, oe.data = .fields vs) : CallR (X.suite a ((a, oe) :: pn)) (.builtin "isinstance") (rIsAT X.K cls d a) := by
  intro pins s σ H xs us Q I r h
  obtain ⟨D, rfl, T, fs, hdd, tp, cs, ws, b, rfl, hT, k, e, q⟩ := h
  obtain ⟨u1, u2, rfl, r1, r2⟩ := vals2 r
  cases (show u1 = Value.ref a from r1)
  cases (show u2 = Value.ref tp from r2)
  obtain ⟨od, J⟩ := inst_of I hz hf hdd
  obtain ⟨_, its, rv, o, h1, h2, n, h3⟩ := (show ObjOk X.prog X.w H s.heap tp (.tup cs) from I.hok tp _ hT)
  have e3 := ClsV.all k rv
  subst e3
  obtain ⟨oc, od', dt, sl⟩ := o
  simp only at h2 h3
  subst h2 h3
  exact PySem.W.kia_tup (PySem.W.r_kit T) I.kIn J h1 e (fun z => nomatch z) fun tk => ⟨.bl b, H, I.kept (t' := tk) fun _ _ z => z, rfl, q⟩
end
section
variable {K : PySem.W.Frag} {a D : Addr} {d : Option Addr} {H : Hp} {Q : VK} {fs : List (Str × V)} {b b1 b2 : Bool}
theorem s_isA {c : V} {cv : Value} (T : IsX K D) (hd : ∀ dd, d = some dd → H dd = some (.xd fs)) (hc : ClsV c cv) (e : PySem.W.kitOne K (.ref D) cv = some b) (h : Q (.bl b) H) : rIsA K (.ref D) d a [.ref a, c] H Q := ⟨D, rfl, T, fs, hd, c, cv, b, rfl, hc, e, h⟩
theorem s_isA0 {c : V} {cv : Value} (T : IsX K D) (hc : ClsV c cv) (e : PySem.W.kitOne K (.ref D) cv = some b) (h : Q (.bl b) H) : rIsA K (.ref D) none a [.ref a, c] H Q := s_isA (fs := []) T (fun _ z => nomatch z) hc e h
theorem s_isAT2 {tp : Addr} {c1 c2 : V} {v1 v2 : Value} (T : IsX K D) (hd : ∀ dd, d = some dd → H dd = some (.xd fs)) (ht : H tp = some (.tup [c1, c2])) (h1 : ClsV c1 v1) (h2 : ClsV c2 v2) (e1 : PySem.W.kitOne K (.ref D) v1 = some b1) (e2 : PySem.W.kitOne K (.ref D) v2 = some b2)
    (h : Q (.bl (b1 || b2)) H) : rIsAT K (.ref D) d a [.ref a, .ref tp] H Q :=
  ⟨D, rfl, T, fs, hd, tp, _, [v1, v2], b1 || b2, rfl, ht, .cons h1 (.cons h2 .nil), kitAny_cons e1 (fun q => kitAny_cons e2 (fun q2 => by rw [q, q2]; exact kitAny_nil) (fun q2 => by rw [q2]; simp)) (fun q => by rw [q]; rfl), h⟩
theorem s_isAT20 {tp : Addr} {c1 c2 : V} {v1 v2 : Value} (T : IsX K D) (ht : H tp = some (.tup [c1, c2])) (h1 : ClsV c1 v1) (h2 : ClsV c2 v2) (e1 : PySem.W.kitOne K (.ref D) v1 = some b1) (e2 : PySem.W.kitOne K (.ref D) v2 = some b2)
    (h : Q (.bl (b1 || b2)) H) : rIsAT K (.ref D) none a [.ref a, .ref tp] H Q := s_isAT2 (fs := []) T (fun _ z => nomatch z) ht h1 h2 e1 e2 h
end
/-! zip of two tuples, walked -/
theorem walk_zipT {K : PySem.W.Frag} {a b : Addr} {xs ys : List V} {n : Nat} (hn : n = min xs.length ys.length) : Walk (RZ.ItzT K a b) n (fun H => SqT K H a xs ∧ SqT K H b ys) (YPair (fun i => xs[i]?) (fun i => ys[i]?)) := by
  subst hn
  refine ⟨fun i _ hi q => ?_, fun _ q => ⟨xs, ys, q.1, q.2, by omega⟩, fun i H v H' _ q y => ?_⟩
  · have h1 : i < xs.length := by omega
    have h2 : i < ys.length := by omega
    exact ⟨xs, ys, xs[i], ys[i], q.1, q.2, by simp [h1], by simp [h2]⟩
  · obtain ⟨T, x, z, h1, h2, h3, h4, h5⟩ := y
    exact ⟨T, x, z, h1, h2, h3, h4 xs q.1, h5 ys q.2⟩
def ZipQ (K : PySem.W.Frag) (R : It → Hp → Prop) (vs : List V) (H1 : Hp) : Prop := ∃ a b xs ys, vs = [.ref a, .ref b] ∧ ((SqL K H1 a xs ∧ SqL K H1 b ys ∧ R (Itz K a b) H1) ∨ (SqT K H1 a xs ∧ SqT K H1 b ys ∧ R (RZ.ItzT K a b) H1))
theorem s_izip {K : PySem.W.Frag} {ta : TA} {σ : L2.St} {H : Hp} {R : It → Hp → Prop} (h : ta σ H fun vs H1 => ZipQ K R vs H1) : RZ.iZipA K ta σ H R := h
theorem s_gunl {K : PySem.W.Frag} {n : Nat} {t : TGs} {p : Addr} {xs : List V} {σ : L2.St} {H : Hp} {QS : L2.St → Hp → Prop} (h1 : SqL K H p xs) (h2 : xs.length = n) (h : t xs σ H QS) : L2.gUnl K n t (.ref p) σ H QS := ⟨p, xs, rfl, h1, h2, h⟩
/-! dicts with tuple keys: pop of a key that is there; fields; makings -/
def rPop1T : V → List V → Hp → VK → Prop := fun x xs H Q => ∃ (a : Addr) (kvs : List (List L2.Key × V)) (k : List L2.Key) (b : Addr) (v : V), x = .ref a ∧ xs = [.ref b] ∧ H a = some (.dT kvs) ∧ H b = some (.tup (k.map kV)) ∧ valV kvs k = some v ∧ Q v (upd H a (.dT (dropK kvs k)))
theorem mt_pop1T {X : Cx} (hu : X.A.units + 1 < cLine) : MtR X "dict.pop" rPop1T := by
  intro pins s σ H x xs v us Q I rx rxs h
  obtain ⟨a, kvs, k, b, v0, rfl, rfl, ha, hb, ev, q⟩ := h
  cases rx
  obtain ⟨u1, rfl, r1⟩ := vals1 rxs
  cases r1
  obtain ⟨z, hd, xs', rel, dd⟩ := dt_of I.hok ha
  have hz : xs'.length ≤ sizeLine := by rw [← Paired.length rel]; exact z
  have r := rel.val k
  rw [ev] at r
  obtain ⟨p, hp, rv⟩ : ∃ p, atKey xs' k = some p ∧ RelV v0 p.2 := by
    cases e : atKey xs' k with
    | none => rw [e] at r; exact r.elim
    | some p => rw [e] at r; exact ⟨p, rfl, r⟩
  refine call_pop_heap (knd := tupleKind (mixKind X.prog X.w)) (k := k) (more := []) (.inl rfl) (PySem.F.args_dict_pop_2 _ _) (tupleKind_room_in1 hu) (key_of I.hok hb) hd dd hp (fun h' dd' hs => ?_) hz
  obtain ⟨o, es, ep, hq, h2, h3, h4, _, h5⟩ := dd'
  have rel' : KT (upd H a (.dT (dropK kvs k))) (dropK kvs k) (withoutH xs' k) := (L2.DX.KT_drop k rel).keeps fun c ys ec => by rw [upd_ne (ne_of ec ha fun z => nomatch z)]; exact ec
  have I2 := d_write (t' := s.toks + (tupleKind (mixKind X.prog X.w)).draws k) (ob := .dT (dropK kvs k)) I (by rw [ha]; exact True.intro) hs ⟨o, hq⟩ (show ObjOk X.prog X.w (upd H a (.dT (dropK kvs k))) h' a (.dT (dropK kvs k)) from ⟨Nat.le_trans (dropK_le kvs k) z, hd, _, rel', o, es, ep, hq, h2, h3, h4, h5⟩)
  exact ⟨v0, _, I2, rv, q⟩
section
variable {K : PySem.W.Frag} {te tv : TE} {ta : TA} {f m : Str} {σ : L2.St} {H : Hp} {Q : VK} {D : Ends} {a C dx : Addr} {fs : List (Str × V)} {v y : V} {sp : Sp} {E : XK}
def FldQ (K : PySem.W.Frag) (f : Str) (Q : VK) (x : V) (H1 : Hp) : Prop := ∃ a C dx fs v, x = .ref a ∧ H1 a = some (.ins C dx fs) ∧ Cls K C ∧ NoAttr K C f ∧ fs.lookup f = some v ∧ Q v H1
theorem s_fld (h : te σ H fun x H1 => FldQ K f Q x H1) : tFld K te f σ H Q := h
theorem mkFld (ha : H a = some (.ins C dx fs)) (c : Cls K C) (n : NoAttr K C f) (l : fs.lookup f = some v) (h : Q v H) : FldQ K f Q (.ref a) H := ⟨a, C, dx, fs, v, rfl, ha, c, n, l, h⟩
def SFldQ (K : PySem.W.Frag) (f : Str) (P : Hp → Prop) (y x : V) (H2 : Hp) : Prop := ∃ a C dx fs, x = .ref a ∧ H2 a = some (.ins C dx fs) ∧ Cls K C ∧ NoAttr K C f ∧ fs.length < 1000 ∧ P (upd H2 a (.ins C dx (putF f y fs)))
theorem s_sfld (h : tv σ H fun y H1 => te σ H1 fun x H2 => SFldQ K f (D.nx σ) y x H2) : sFld K te tv f D σ H := h
theorem mkSFld {P : Hp → Prop} (ha : H a = some (.ins C dx fs)) (c : Cls K C) (n : NoAttr K C f) (l : fs.length < 1000) (h : P (upd H a (.ins C dx (putF f y fs)))) : SFldQ K f P y (.ref a) H := ⟨a, C, dx, fs, rfl, ha, c, n, l, h⟩
def MethQ (C : Addr) (m : Str) (sp : Sp) (E : XK) (ta : TA) (σ : L2.St) (Q : VK) (x : V) (H1 : Hp) : Prop := ∃ a dx fs, x = .ref a ∧ H1 a = some (.ins C dx fs) ∧ fs.lookup m = none ∧ ta σ H1 fun vs H2 => sp (x :: (vs ++ [])) H2 Q E
theorem s_meth (h : te σ H fun x H1 => MethQ C m sp E ta σ Q x H1) : tMeth C m sp [] E te ta σ H Q := h
theorem mkMeth (ha : H a = some (.ins C dx fs)) (l : fs.lookup m = none) (h : ta σ H fun vs H2 => sp (.ref a :: (vs ++ [])) H2 Q E) : MethQ C m sp E ta σ Q (.ref a) H := ⟨a, dx, fs, rfl, ha, l, h⟩
def MakeQ (C : Addr) (sp : Sp) (E : XK) (Q : VK) (vs : List V) (H1 : Hp) : Prop := ∀ x dx, H1 x = none → H1 dx = none → dx ≠ x → sp (.ref x :: (vs ++ [])) (upd (upd H1 dx (.own x)) x (.ins C dx [])) (fun v H2 => v = .non ∧ Q (.ref x) H2) E
theorem s_make (h : ta σ H fun vs H1 => MakeQ C sp E Q vs H1) : tMake C sp [] E ta σ H Q := h
theorem s_dnewT (h : ∀ p H', H p = none → H' p = some (.dT []) → Same H H' → Q (.ref p) H') : tDNewT σ H Q := fun p hp => h p _ hp upd_same (same_upd hp)
theorem s_lenD {kvs : List (L2.Key × V)} (hd : H a = some (.dK kvs)) (h : Q (.int kvs.length) H) : ∃ a' kvs', [V.ref a] = [V.ref a'] ∧ H a' = some (.dK kvs') ∧ Q (.int kvs'.length) H := ⟨a, kvs, rfl, hd, h⟩
def DInQ (Q : VK) (y x : V) (H2 : Hp) : Prop := ∃ a o, x = .ref a ∧ DGet H2 a y o ∧ Q (.bl o.isSome) H2
theorem s_din {ty td : TE} (h : ty σ H fun y H1 => td σ H1 fun x H2 => DInQ Q y x H2) : tDIn ty td σ H Q := h
def DNotInQ (Q : VK) (y x : V) (H2 : Hp) : Prop := ∃ a o, x = .ref a ∧ DGet H2 a y o ∧ Q (.bl (!o.isSome)) H2
theorem s_dnotin {ty td : TE} (h : ty σ H fun y H1 => td σ H1 fun x H2 => DNotInQ Q y x H2) : tDNotIn ty td σ H Q := h
end
end R
/-! the walk of a reading, as far as nothing is asked -/
local macro_rules | `(tactic| walk_at "g1") => `(tactic| first
  | with_reducible refine R.s_seq ?_
  | with_reducible refine R.s_asg ?_
  | ((with_reducible apply R.s_var); focus rfl)
  | with_reducible refine R.s_gname ?_
  | with_reducible refine R.s_op ?_
  | with_reducible refine R.s_c ?_
  | with_reducible refine R.s_cons ?_
  | with_reducible refine R.s_nil ?_
  | with_reducible refine R.s_i0 ?_
  | with_reducible refine R.s_p10_60 ?_
  | with_reducible refine R.s_p10_18 ?_
  | with_reducible refine R.s_p10_8 ?_
  | with_reducible refine R.s_p10_9 ?_
  | with_reducible refine R.s_p10_59 ?_
  | with_reducible refine R.s_p10_6 ?_
  | with_reducible refine R.s_p10_5 ?_
  | with_reducible refine R.s_p10_4 ?_
  | with_reducible refine R.s_p10_12 ?_
  | with_reducible refine R.s_p10_29 ?_
  | with_reducible refine R.s_p10_30 ?_
  | with_reducible refine R.s_p10_39 ?_
  | with_reducible refine R.s_p10_40 ?_
  | with_reducible refine R.s_p10_49 ?_
  | with_reducible refine R.s_p10_50 ?_
  | with_reducible refine R.s_p10_51 ?_
  | with_reducible refine R.s_p10_58 ?_
  | ((with_reducible refine R.s_pow7 ?_ ?_); focus omega)
  | ((with_reducible refine R.s_i ?_ ?_); focus (first | decide | exact R.mulW (by omega) (by omega) | exact R.divW (by decide) (by decide)))
  | with_reducible refine R.s_test ?_
  | with_reducible refine R.s_bl ?_
  | with_reducible refine R.s_ret ?_
  | with_reducible refine R.s_next ?_
  | with_reducible refine R.s_drop ?_
  | with_reducible refine R.s_un ?_
  | with_reducible refine R.s_u ?_
  | with_reducible refine R.s_tB ?_
  | with_reducible refine R.s_andc ?_
  | with_reducible refine R.s_orc ?_
  | with_reducible refine R.s_notc ?_
  | with_reducible refine R.s_andv ?_
  | with_reducible refine R.s_orv ?_
  | with_reducible refine R.s_notv ?_
  | with_reducible refine R.s_ifx ?_
  | with_reducible refine R.s_eqI ?_
  | with_reducible refine R.s_neI ?_
  | with_reducible refine R.s_eqB ?_
  | with_reducible refine R.s_eqS ?_
  | with_reducible refine R.s_neS ?_
  | with_reducible refine R.s_neB ?_
  | with_reducible refine R.s_tup ?_
  | with_reducible refine R.s_lst ?_
  | with_reducible refine R.s_par ?_
  | with_reducible refine R.s_par_ ?_
  | with_reducible refine R.s_par3 ?_
  | with_reducible refine R.s_par3_ ?_
  | with_reducible refine R.s_cb ?_
  | with_reducible refine R.s_call ?_
  | with_reducible refine R.s_turn ?_
  | with_reducible refine R.s_isi_ii ?_
  | with_reducible refine R.s_isi_ib ?_
  | with_reducible refine R.s_bm ?_
  | with_reducible refine R.s_intB ?_
  | with_reducible refine R.s_rng1 ?_
  | with_reducible refine R.s_rng2 ?_
  | with_reducible refine R.s_dget ?_
  | with_reducible refine R.s_gsub ?_
  | with_reducible refine R.s_pc ?_
  | with_reducible refine R.s_pn ?_
  | with_reducible refine R.s_dput ?_
  | with_reducible refine R.s_isN ?_
  | with_reducible refine R.s_isNi ?_
  | with_reducible refine R.s_isNr ?_
  | with_reducible refine R.s_isNb ?_
  | with_reducible refine R.s_bm0 ?_
  | with_reducible refine R.s_lrg2 ?_
  | with_reducible refine R.s_notN ?_
  | with_reducible refine R.s_notNi ?_
  | with_reducible refine R.s_notNr ?_
  | with_reducible refine R.s_chain ?_
  | with_reducible refine R.s_callS ?_
  | with_reducible refine R.s_mko ?_
  | with_reducible refine R.s_rz ?_
  | with_reducible refine R.s_izip ?_
  | with_reducible refine R.s_sl ?_
  | with_reducible refine R.s_nopart ?_
  | with_reducible refine R.s_part ?_
  | with_reducible refine R.s_int_ ?_
  | with_reducible refine R.s_ilist ?_
  | with_reducible refine R.s_itup ?_
  | with_reducible refine R.s_ref_ ?_
  | with_reducible refine R.s_for ?_
  | with_reducible refine R.s_yes ?_
  | with_reducible refine R.s_gcons ?_
  | with_reducible refine R.s_gnil ?_
  | with_reducible refine R.s_abs ?_
  | with_reducible refine R.s_max ?_
  | with_reducible refine R.s_min ?_
  | with_reducible refine R.s_iteT ?_
  | with_reducible refine R.s_iteF ?_
  | with_reducible refine R.s_iteNT ?_
  | with_reducible refine R.s_iteNF ?_
  | ((with_reducible refine R.s_itnP ?_ ?_); focus (with_reducible rfl))
  | ((with_reducible refine R.s_itP ?_ ?_); focus (with_reducible rfl)))
local macro_rules | `(tactic| walk_at "g") => `(tactic| repeat (first | walk_at "g1" | with_reducible refine R.s_if ?_))
local macro_rules | `(tactic| walk_at "h") => `(tactic| repeat (walk_at "g1"))
local macro_rules | `(tactic| walk_at "g2") => `(tactic| first
  | with_reducible refine R.s_fld ?_
  | with_reducible refine R.s_sfld ?_
  | with_reducible refine R.s_meth ?_
  | with_reducible refine R.s_make ?_
  | with_reducible refine R.s_din ?_
  | with_reducible refine R.s_dnotin ?_)
local macro_rules | `(tactic| walk_at "G") => `(tactic| repeat (first | walk_at "g1" | walk_at "g2" | with_reducible refine R.s_if ?_))
local macro_rules | `(tactic| walk_at "J") => `(tactic| repeat (first | walk_at "g1" | walk_at "g2"))

/-! the divisor of two numbers: what the loop keeps -/
namespace M
/-- what is told of a and b -/
structure DivOk (a b g u v : Int) : Prop where
  hg : g = (Int.gcd a b : Nat)
  eq : u * a + v * b = g
  hu : u.natAbs ≤ max 1 b.natAbs
  hv : v.natAbs ≤ max 1 a.natAbs
/-- behind the first turn: s the sign of g and rest, t that of u -/
structure DivIn (a b g u v r x y s t : Int) (G R U X q : Nat) : Prop where
  hs : s = 1 ∨ s = -1
  ht : t = 1 ∨ t = -1
  hg : g = s * G
  hr : r = s * R
  hu : u = t * U
  hx : x = -(t * X)
  lt : R < G
  px : 0 < X
  det : X * G + U * R = b.natAbs
  gcd : Nat.gcd G R = Int.gcd a b
  e1 : u * a + v * b = g
  e2 : x * a + y * b = r
  last : (U = 0 ∧ v = 1 ∧ g = b) ∨ (0 < U ∧ U * (q * G + R) ≤ b.natAbs ∧ G < q * G + R)
def DivSt (a b g u v r x y : Int) : Prop :=
  (g = a ∧ u = 1 ∧ v = 0 ∧ r = b ∧ x = 0 ∧ y = 1) ∨ (b ≠ 0 ∧ ∃ s t G R U X q, DivIn a b g u v r x y s t G R U X q)
theorem nabs_sign {s : Int} (hs : s = 1 ∨ s = -1) (n : Nat) : (s * (n : Int)).natAbs = n := by
  rcases hs with rfl | rfl <;> omega
theorem fdiv_sign {s : Int} (hs : s = 1 ∨ s = -1) (G R : Nat) : (s * (G : Int)).fdiv (s * R) = ((G / R : Nat) : Int) := by
  rcases hs with rfl | rfl
  · rw [Int.one_mul, Int.one_mul]; exact (Int.ofNat_fdiv G R).symm
  · rw [Int.neg_one_mul, Int.neg_one_mul, Int.neg_fdiv_neg]; exact (Int.ofNat_fdiv G R).symm
theorem fdiv_le (g r : Int) : (g.fdiv r).natAbs ≤ g.natAbs := by
  rcases Int.lt_trichotomy r 0 with h | h | h
  · have e : g.fdiv r = (-g).fdiv (-r) := (Int.neg_fdiv_neg g r).symm
    rw [e, Int.fdiv_eq_ediv_of_nonneg _ (by omega)]
    have := Int.natAbs_ediv_le_natAbs (-g) (-r)
    omega
  · subst h; simp
  · rw [Int.fdiv_eq_ediv_of_nonneg _ (by omega)]
    exact Int.natAbs_ediv_le_natAbs g r
theorem gcd_sub (a b q : Int) : Int.gcd b (a - q * b) = Int.gcd a b := by
  rw [Int.gcd_sub_mul_right_right]
  exact Int.gcd_comm _ _
theorem fmod_sign (a : Int) {b : Int} (hb : b ≠ 0) : ∃ s R, (s = 1 ∨ s = -1) ∧ b = s * (b.natAbs : Int) ∧ a - a.fdiv b * b = s * ((R : Nat) : Int) ∧ R < b.natAbs := by
  have e : a - a.fdiv b * b = a.fmod b := by rw [Int.fmod_def, Int.mul_comm]
  by_cases h : 0 < b
  · have h1 := Int.fmod_lt_of_pos a h
    have h2 := Int.fmod_nonneg_of_pos a h
    exact ⟨1, (a.fmod b).toNat, .inl rfl, by omega, by rw [e]; omega, by omega⟩
  · have h0 : 0 < -b := by omega
    have e2 : a.fmod b = -((-a).fmod (-b)) := by rw [Int.neg_fmod_neg]; omega
    have h1 := Int.fmod_lt_of_pos (-a) h0
    have h2 := Int.fmod_nonneg_of_pos (-a) h0
    exact ⟨-1, ((-a).fmod (-b)).toNat, .inr rfl, by omega, by rw [e, e2]; omega, by omega⟩
theorem gcd_signs {s : Int} (hs : s = 1 ∨ s = -1) (G R : Nat) : Int.gcd (s * (G : Int)) (s * R) = Nat.gcd G R := by
  unfold Int.gcd
  rw [nabs_sign hs, nabs_sign hs]
theorem div_step {a b g u v r x y : Int} (h : DivSt a b g u v r x y) (hr : r ≠ 0) :
    DivSt a b r x y (g - g.fdiv r * r) (u - g.fdiv r * x) (v - g.fdiv r * y) ∧ (g - g.fdiv r * r).natAbs < r.natAbs := by
  rcases h with ⟨rfl, rfl, rfl, rfl, rfl, rfl⟩ | ⟨hb, s, t, G, R, U, X, q, I⟩
  · obtain ⟨s, R, hs, e1, e2, lt⟩ := fmod_sign g hr
    refine ⟨.inr ⟨hr, s, -1, r.natAbs, R, 0, 1, 0, ⟨hs, .inr rfl, e1, e2, by omega, by omega, lt, by omega, by omega, ?_, by omega, ?_, .inl ⟨rfl, rfl, rfl⟩⟩⟩, ?_⟩
    · have h1 := gcd_sub g r (g.fdiv r)
      rw [e2] at h1
      conv at h1 => lhs; arg 1; rw [e1]
      rw [gcd_signs hs] at h1
      exact h1
    · grind
    · rw [e2, nabs_sign hs]; exact lt
  · obtain ⟨hs, ht, hg, hr', hu, hx, lt, px, det, gcd, e1, e2, last⟩ := I
    have hR : 0 < R := by
      rcases Nat.eq_zero_or_pos R with z | z
      · subst z; rw [hr'] at hr; exact absurd (by simp) hr
      · exact z
    have ed : g.fdiv r = ((G / R : Nat) : Int) := by rw [hg, hr']; exact fdiv_sign hs G R
    have dm := Nat.div_add_mod G R
    have ml := Nat.mod_lt G hR
    have hq : 0 < G / R := Nat.div_pos (Nat.le_of_lt lt) hR
    generalize hQ : G / R = Q at *
    generalize hS : G % R = S at *
    have er : g - (Q : Int) * r = s * (S : Int) := by
      have : (G : Int) = R * Q + S := by rw [← dm]; push_cast; rfl
      rw [hg, hr', this]; grind
    rw [ed]
    refine ⟨.inr ⟨hb, s, -t, R, S, X, U + Q * X, Q, ⟨hs, by omega, hr', er, by rw [hx]; grind, ?_, ml, Nat.add_pos_right _ (Nat.mul_pos hq px), ?_, ?_, e2, by grind, .inr ⟨px, ?_, ?_⟩⟩⟩, ?_⟩
    · rw [hu, hx]; push_cast; grind
    · rw [← det, ← dm]; grind
    · rw [← gcd, ← hS, Nat.gcd_comm G R, Nat.gcd_rec R G, Nat.gcd_comm]
    · rw [← det]
      have : Q * R + S = G := by rw [Nat.mul_comm]; exact dm
      rw [this]; omega
    · have : Q * R + S = G := by rw [Nat.mul_comm]; exact dm
      omega
    · rw [er, hr', nabs_sign hs, nabs_sign hs]; exact ml
/-- the sizes in the loop -/
theorem div_sizes {a b g u v r x y : Int} (h : DivSt a b g u v r x y) : x.natAbs ≤ max 1 b.natAbs ∧ u.natAbs ≤ max 1 b.natAbs ∧ y.natAbs ≤ 1 + a.natAbs ∧ v.natAbs ≤ 1 + a.natAbs ∧ g.natAbs ≤ max a.natAbs b.natAbs ∧ r.natAbs ≤ b.natAbs := by
  rcases h with ⟨rfl, rfl, rfl, rfl, rfl, rfl⟩ | ⟨hb, s, t, G, R, U, X, q, I⟩
  · omega
  · obtain ⟨hs, ht, hg, hr', hu, hx, lt, px, det, gcd, e1, e2, last⟩ := I
    have ex : x.natAbs = X := by rw [hx, Int.natAbs_neg]; exact nabs_sign ht X
    have eu : u.natAbs = U := by rw [hu]; exact nabs_sign ht U
    have eg : g.natAbs = G := by rw [hg]; exact nabs_sign hs G
    have er : r.natAbs = R := by rw [hr']; exact nabs_sign hs R
    have hG : 0 < G := by omega
    have hX : X ≤ X * G := Nat.le_mul_of_pos_right X hG
    have hB : 0 < b.natAbs := by omega
    -- v b = g - u a
    have k : ∀ (z w c : Int), z * a + w * b = c → z.natAbs ≤ b.natAbs → c.natAbs ≤ b.natAbs → w.natAbs ≤ 1 + a.natAbs := fun z w c e hz hc => by
      have e' : w * b = c - z * a := by omega
      have e3 : (w * b).natAbs ≤ c.natAbs + (z * a).natAbs := by rw [e']; omega
      rw [Int.natAbs_mul, Int.natAbs_mul] at e3
      have e4 : z.natAbs * a.natAbs ≤ b.natAbs * a.natAbs := Nat.mul_le_mul_right _ hz
      have e5 : w.natAbs * b.natAbs ≤ (1 + a.natAbs) * b.natAbs := by
        have : (1 + a.natAbs) * b.natAbs = b.natAbs + b.natAbs * a.natAbs := by grind
        omega
      exact Nat.le_of_mul_le_mul_right e5 hB
    have hXb : X ≤ b.natAbs := by omega
    have hGb : g.natAbs ≤ b.natAbs ∧ U ≤ b.natAbs := by
      rcases last with ⟨h1, h2, h3⟩ | ⟨hU, h1, h2⟩
      · rw [h3]; omega
      · have hX1 : G ≤ X * G := Nat.le_mul_of_pos_left G px
        have : U ≤ U * (q * G + R) := Nat.le_mul_of_pos_right U (by omega)
        omega
    have hRb : r.natAbs ≤ b.natAbs := by omega
    have k1 := k u v g e1 (by omega) hGb.1
    have k2 := k x y r e2 (by omega) hRb
    omega
theorem div_half {a b g u v : Int} (e1 : u * a + v * b = g) (hb : 0 < b.natAbs) (h1 : 2 * g.natAbs ≤ b.natAbs) (h2 : 2 * u.natAbs ≤ b.natAbs) : 2 * v.natAbs ≤ 1 + a.natAbs := by
  have e' : v * b = g - u * a := by omega
  have e3 : (v * b).natAbs ≤ g.natAbs + (u * a).natAbs := by rw [e']; omega
  rw [Int.natAbs_mul, Int.natAbs_mul] at e3
  have e4 : 2 * u.natAbs * a.natAbs ≤ b.natAbs * a.natAbs := Nat.mul_le_mul_right _ h2
  have x0 : 2 * u.natAbs * a.natAbs = 2 * (u.natAbs * a.natAbs) := Nat.mul_assoc _ _ _
  have x1 : (1 + a.natAbs) * b.natAbs = b.natAbs + b.natAbs * a.natAbs := by rw [Nat.add_mul, Nat.one_mul, Nat.mul_comm a.natAbs]
  have x2 : (2 * v.natAbs) * b.natAbs = 2 * (v.natAbs * b.natAbs) := Nat.mul_assoc _ _ _
  have e6 : (2 * v.natAbs) * b.natAbs ≤ (1 + a.natAbs) * b.natAbs := by omega
  exact Nat.le_of_mul_le_mul_right e6 hb
theorem div_end {a b g u v r x y : Int} (h : DivSt a b g u v r x y) (hr : r = 0) : Int.gcd a b = g.natAbs ∧ u * a + v * b = g ∧ u.natAbs ≤ max 1 b.natAbs ∧ v.natAbs ≤ max 1 a.natAbs := by
  rcases h with ⟨rfl, rfl, rfl, rfl, rfl, rfl⟩ | ⟨hb, s, t, G, R, U, X, q, I⟩
  · subst hr
    refine ⟨by simp, by omega, by omega, by omega⟩
  · have hsz := div_sizes (.inr ⟨hb, s, t, G, R, U, X, q, I⟩)
    obtain ⟨hs, ht, hg, hr', hu, hx, lt, px, det, gcd, e1, e2, last⟩ := I
    have er : r.natAbs = R := by rw [hr']; exact nabs_sign hs R
    have hR : R = 0 := by omega
    subst hR
    have eg : g.natAbs = G := by rw [hg]; exact nabs_sign hs G
    have eu : u.natAbs = U := by rw [hu]; exact nabs_sign ht U
    refine ⟨by rw [← gcd, eg]; simp, e1, hsz.2.1, ?_⟩
    rcases last with ⟨h1, h2, h3⟩ | ⟨hU, h1, h2⟩
    · rw [h2]; omega
    · have hq : 2 ≤ q := by
        rcases Nat.lt_or_ge q 2 with z | z
        · have : q = 0 ∨ q = 1 := by omega
          rcases this with rfl | rfl <;> omega
        · exact z
      have h3 : 2 * G ≤ q * G := Nat.mul_le_mul_right G hq
      have h4 : U * (2 * G) ≤ b.natAbs := Nat.le_trans (Nat.mul_le_mul_left U (by omega)) h1
      have z1 : 2 * G ≤ U * (2 * G) := Nat.le_mul_of_pos_left _ hU
      have z2 : U * (2 * G) = 2 * U * G := by grind
      have z3 : 2 * U ≤ 2 * U * G := Nat.le_mul_of_pos_right _ (by omega)
      have z4 := div_half e1 (by omega) (by omega) (by omega)
      have ha : a.natAbs = 0 → v.natAbs ≤ 1 := by omega
      omega
theorem div_told {a b g u v r x y : Int} (h : DivSt a b g u v r x y) (hr : r = 0) : (g < 0 → DivOk a b (-g) (-u) (-v)) ∧ (¬ g < 0 → DivOk a b g u v) := by
  obtain ⟨k1, k2, k3, k4⟩ := div_end h hr
  refine ⟨fun z => ⟨by omega, ?_, by omega, by omega⟩, fun z => ⟨by omega, k2, k3, k4⟩⟩
  rw [← k2, Int.neg_mul, Int.neg_mul]; omega
end M

/-! powers by n -/
namespace M
/-- the rest of a power -/
def pw (n a : Int) (e : Nat) : Int := a ^ e % n
theorem pw_range {n : Int} (hn : 0 < n) (a : Int) (e : Nat) : 0 ≤ pw n a e ∧ pw n a e < n := ⟨Int.emod_nonneg _ (by omega), Int.emod_lt_of_pos _ hn⟩
theorem pow_emod (a n : Int) (e : Nat) : (a % n) ^ e % n = a ^ e % n := by
  induction e with
  | zero => rw [Int.pow_zero, Int.pow_zero]
  | succ e ih => rw [Int.pow_succ, Int.pow_succ, Int.mul_emod, ih, Int.emod_emod_of_dvd _ (Int.dvd_refl n), ← Int.mul_emod]
theorem pw_mod (n a : Int) (e : Nat) : pw n (a % n) e = pw n a e := pow_emod a n e
/-- what the loop keeps: found * base ^ e -/
theorem pw_turn {n f b : Int} {e : Nat} {r : Int} (h : f * b ^ e % n = r) :
    (e % 2 = 1 → (f * b % n) * (b * b % n) ^ (e / 2) % n = r) ∧ (e % 2 ≠ 1 → f * (b * b % n) ^ (e / 2) % n = r) := by
  have sq : (b * b) ^ (e / 2) = b ^ (2 * (e / 2)) := by rw [Int.pow_mul, Int.pow_succ, Int.pow_succ, Int.pow_zero, Int.one_mul]
  constructor
  · intro ho
    have ee : e = 2 * (e / 2) + 1 := by omega
    rw [Int.mul_emod, Int.emod_emod_of_dvd _ (Int.dvd_refl n), pow_emod, ← Int.mul_emod, sq, ← h]
    conv => rhs; rw [ee, Int.pow_succ]
    congr 1
    grind
  · intro ho
    have ee : e = 2 * (e / 2) := by omega
    rw [Int.mul_emod, pow_emod, ← Int.mul_emod, sq, ← ee, h]
theorem pw_end {n f : Int} (h0 : 0 ≤ f) (h1 : f < n) {b r : Int} (h : f * b ^ 0 % n = r) : f = r := by
  rw [← h, Int.pow_zero, Int.mul_one, Int.emod_eq_of_lt h0 h1]
theorem pw_one {n a : Int} {e : Nat} : 1 % n * (a % n) ^ e % n = pw n a e := by
  rw [Int.mul_emod, Int.emod_emod_of_dvd _ (Int.dvd_refl n), pow_emod, ← Int.mul_emod, Int.one_mul]; rfl
theorem pw_mul (n a : Int) (e : Nat) : pw n a e * a % n = pw n a (e + 1) := by
  unfold pw
  rw [Int.mul_emod, Int.emod_emod_of_dvd _ (Int.dvd_refl n), ← Int.mul_emod, Int.pow_succ]
theorem pw_zero (n a : Int) : pw n a 0 = 1 % n := by unfold pw; rw [Int.pow_zero]
theorem gcd_mod (a n : Int) : Int.gcd (a % n) n = Int.gcd a n := by
  have e : a % n = a - n * (a / n) := by have := Int.emod_add_mul_ediv a n; omega
  rw [e, Int.gcd_comm, Int.gcd_sub_mul_left_right, Int.gcd_comm]
theorem inv_of {n a g u v : Int} (hn : 0 < n) (h : DivOk (a % n) n g u v) (hg : Int.gcd a n = 1) : (u % n * a - 1) % n = 0 := by
  have e := h.eq
  have hg' : g = 1 := by rw [h.hg, gcd_mod, hg]; rfl
  refine Int.emod_eq_zero_of_dvd ?_
  have e1 : a % n = a - n * (a / n) := by have := Int.emod_add_mul_ediv a n; omega
  have e2 : u % n = u - n * (u / n) := by have := Int.emod_add_mul_ediv u n; omega
  refine ⟨-(v) + u * (a / n) - (u / n) * a, ?_⟩
  rw [hg', e1] at e
  rw [e2]
  grind
theorem gcd_pos {a n : Int} (hn : 0 < n) : 0 < Int.gcd a n := Int.gcd_pos_of_ne_zero_right a (by omega)
/-- numbers with the same product by n -/
theorem inv_unit {n a b : Int} (h : (b * a - 1) % n = 0) : b * a % n = 1 % n := by
  have := Int.emod_emod_of_dvd (b * a) (Int.dvd_refl n)
  exact Int.emod_eq_emod_iff_emod_sub_eq_zero.mpr h
theorem inv_pow {n a b : Int} (h : (b * a - 1) % n = 0) (e : Nat) : (pw n b e * pw n a e - 1) % n = 0 := by
  have e1 : b * a % n = 1 % n := inv_unit h
  refine Int.emod_eq_emod_iff_emod_sub_eq_zero.mp ?_
  unfold pw
  rw [← Int.mul_emod, ← Int.mul_pow, ← pow_emod, e1, pow_emod, Int.one_pow]
theorem back_ok {n a b : Int} (hn : 0 < n) (h : (b * a - 1) % n = 0) (e : Nat) : (pw n b (e + 1) * pw n a e * a - 1) % n = 0 := by
  have k := inv_pow h (e + 1)
  rw [← pw_mul n a e] at k
  refine Int.emod_eq_emod_iff_emod_sub_eq_zero.mp ?_
  rw [← Int.emod_eq_emod_iff_emod_sub_eq_zero.mpr k, Int.mul_assoc, Int.mul_emod]
  conv => rhs; rw [Int.mul_emod, Int.emod_emod_of_dvd _ (Int.dvd_refl n)]
theorem gcd_abs (a : Int) {n : Int} (hn : 0 < n) : Nat.gcd n.natAbs (a.natAbs % n.natAbs) = Int.gcd a n := by
  rw [Nat.gcd_comm, ← Nat.gcd_rec, Nat.gcd_comm]; rfl
theorem pw_add (n a : Int) (e f : Nat) : pw n a (e + f) = pw n a e * pw n a f % n := by
  unfold pw
  rw [← Int.mul_emod, Int.pow_add]
theorem pw_pw (n a : Int) (e f : Nat) : pw n a (e * f) = pw n (pw n a e) f := by
  unfold pw
  rw [pow_emod, ← Int.pow_mul]
theorem pw_prod (n a b : Int) (e : Nat) : pw n (a * b) e = pw n a e * pw n b e % n := by
  unfold pw
  rw [← Int.mul_emod, Int.mul_pow]
theorem pw_congr {n a b : Int} (h : a % n = b % n) (e : Nat) : pw n a e = pw n b e := by rw [← pw_mod n a, ← pw_mod n b, h]
theorem inv_unique {n a b c : Int} (b0 : 0 ≤ b) (b1 : b < n) (c0 : 0 ≤ c) (c1 : c < n) (hb : (b * a - 1) % n = 0) (hc : (c * a - 1) % n = 0) : b = c := by
  have h1 : (b - c) % n = 0 := by
    obtain ⟨x, hx⟩ := Int.dvd_of_emod_eq_zero hb
    obtain ⟨y, hy⟩ := Int.dvd_of_emod_eq_zero hc
    refine Int.emod_eq_zero_of_dvd ⟨c * x - b * y, ?_⟩
    have e : b - c = c * (b * a - 1) - b * (c * a - 1) := by grind
    rw [e, hx, hy]; grind
  have h2 := Int.emod_eq_emod_iff_emod_sub_eq_zero.mpr h1
  rw [Int.emod_eq_of_lt b0 b1, Int.emod_eq_of_lt c0 c1] at h2
  exact h2
theorem emod_one_of {n x : Int} (h : (x - 1) % n = 0) : x % n = 1 % n := Int.emod_eq_emod_iff_emod_sub_eq_zero.mpr h
end M

/-! places put together -/
namespace M
theorem snoc_ind {α : Type} {motive : List α → Prop} (l : List α) (nil : motive []) (append_singleton : ∀ (l : List α) (a : α), motive l → motive (l ++ [a])) : motive l := by
  have h : ∀ r : List α, motive r.reverse := fun r => by
    induction r with
    | nil => exact nil
    | cons a r ih => rw [List.reverse_cons]; exact append_singleton _ _ ih
  have := h l.reverse
  rwa [List.reverse_reverse] at this
/-- alike by the greatest number that divides both moduli -/
def alike (m r n s : Int) : Prop := (r - s) % (Int.gcd m n : Nat) = 0
instance (m r n s : Int) : Decidable (alike m r n s) := by unfold alike; exact inferInstance
/-- G divides lcm a b: then it divides what gcd G a and gcd G b both divide -/
theorem dvd_of_parts {G a b y : Nat} (h : G ∣ Nat.lcm a b) (h1 : Nat.gcd G a ∣ y) (h2 : Nat.gcd G b ∣ y) : G ∣ y := by
  rcases Nat.eq_zero_or_pos G with z | hG
  · subst z
    have hl : Nat.lcm a b = 0 := Nat.eq_zero_of_zero_dvd h
    have : a = 0 ∨ b = 0 := by
      rcases Nat.eq_zero_or_pos a with q | q
      · exact .inl q
      · rcases Nat.eq_zero_or_pos b with q2 | q2
        · exact .inr q2
        · exact absurd hl (Nat.ne_of_gt (Nat.lcm_pos q q2))
    rcases this with rfl | rfl
    · simpa using h1
    · simpa using h2
  · have key : G ∣ Nat.lcm (Nat.gcd G a) (Nat.gcd G b) := by
      -- gcd G a * gcd G b = G * gcd G (gcd a b)
      have e1 : Nat.gcd (Nat.gcd G a) (Nat.gcd G b) = Nat.gcd G (Nat.gcd a b) := by
        apply Nat.dvd_antisymm
        · refine Nat.dvd_gcd (Nat.dvd_trans (Nat.gcd_dvd_left _ _) (Nat.gcd_dvd_left _ _)) (Nat.dvd_gcd ?_ ?_)
          · exact Nat.dvd_trans (Nat.gcd_dvd_left _ _) (Nat.gcd_dvd_right _ _)
          · exact Nat.dvd_trans (Nat.gcd_dvd_right _ _) (Nat.gcd_dvd_right _ _)
        · refine Nat.dvd_gcd (Nat.dvd_gcd (Nat.gcd_dvd_left _ _) ?_) (Nat.dvd_gcd (Nat.gcd_dvd_left _ _) ?_)
          · exact Nat.dvd_trans (Nat.gcd_dvd_right _ _) (Nat.gcd_dvd_left _ _)
          · exact Nat.dvd_trans (Nat.gcd_dvd_right _ _) (Nat.gcd_dvd_right _ _)
      have e2 : G * Nat.gcd G (Nat.gcd a b) ∣ Nat.gcd G a * Nat.gcd G b := by
        have l1 : G * Nat.gcd G (Nat.gcd a b) = Nat.gcd (G * G) (Nat.gcd (G * a) (G * b)) := by rw [Nat.gcd_mul_left, Nat.gcd_mul_left]
        have l2 : Nat.gcd G a * Nat.gcd G b = Nat.gcd (Nat.gcd (G * G) (G * b)) (Nat.gcd (a * G) (a * b)) := by rw [Nat.gcd_mul_left, Nat.gcd_mul_left, Nat.gcd_mul_right]
        rw [l1, l2]
        refine Nat.dvd_gcd (Nat.dvd_gcd ?_ ?_) (Nat.dvd_gcd ?_ ?_)
        · exact Nat.gcd_dvd_left _ _
        · exact Nat.dvd_trans (Nat.gcd_dvd_right _ _) (Nat.gcd_dvd_right _ _)
        · exact Nat.dvd_trans (Nat.gcd_dvd_right _ _) (by rw [Nat.mul_comm a G]; exact Nat.gcd_dvd_left _ _)
        · have e3 : a * b = Nat.gcd a b * Nat.lcm a b := (Nat.gcd_mul_lcm a b).symm
          rw [e3, Nat.mul_comm (Nat.gcd a b)]
          have e5 : Nat.gcd (G * G) (Nat.gcd (G * a) (G * b)) ∣ G * Nat.gcd a b := by
            refine Nat.dvd_trans (Nat.gcd_dvd_right _ _) ?_
            rw [Nat.gcd_mul_left]
            exact Nat.dvd_refl _
          exact Nat.dvd_trans e5 (Nat.mul_dvd_mul_right h _)
      have gp : 0 < Nat.gcd G (Nat.gcd a b) := Nat.gcd_pos_of_pos_left _ hG
      have e4 : Nat.gcd (Nat.gcd G a) (Nat.gcd G b) * Nat.lcm (Nat.gcd G a) (Nat.gcd G b) = Nat.gcd G a * Nat.gcd G b := Nat.gcd_mul_lcm _ _
      rw [e1] at e4
      rw [← e4, Nat.mul_comm G] at e2
      exact Nat.dvd_of_mul_dvd_mul_left gp e2
    exact Nat.dvd_trans key (Nat.lcm_dvd h1 h2)
/-- the join of two places -/
structure Joined (m r n s w x : Int) : Prop where
  hw : w = (Nat.lcm m.natAbs n.natAbs : Nat)
  x0 : 0 ≤ x
  x1 : x < w
  e1 : (x - r) % m = 0
  e2 : (x - s) % n = 0
theorem lcm_step {m n : Int} (hm : 0 < m) (hn : 0 < n) : m * (n / (Int.gcd m n : Nat)) = (Nat.lcm m.natAbs n.natAbs : Nat) := by
  obtain ⟨a, rfl⟩ := Int.eq_ofNat_of_zero_le (Int.le_of_lt hm)
  obtain ⟨b, rfl⟩ := Int.eq_ofNat_of_zero_le (Int.le_of_lt hn)
  show (a : Int) * ((b : Int) / ((Nat.gcd a b : Nat) : Int)) = ((Nat.lcm a b : Nat) : Int)
  rw [← Int.natCast_ediv, ← Int.natCast_mul]
  congr 1
  unfold Nat.lcm
  exact (Nat.mul_div_assoc a (Nat.gcd_dvd_right a b)).symm
theorem join_ok {m r n s i : Int} (hm : 0 < m) (hn : 0 < n) (ha : alike m r n s) (hi : (i * (m / (Int.gcd m n : Nat)) - 1) % (n / (Int.gcd m n : Nat)) = 0) :
    Joined m r n s (m * (n / (Int.gcd m n : Nat))) ((r + m * ((s - r) / (Int.gcd m n : Nat) * i % (n / (Int.gcd m n : Nat)))) % (m * (n / (Int.gcd m n : Nat)))) := by
  have gp : 0 < (Int.gcd m n : Nat) := Int.gcd_pos_of_ne_zero_left n (by omega)
  have gd1 : ((Int.gcd m n : Nat) : Int) ∣ m := Int.gcd_dvd_left ..
  have gd2 : ((Int.gcd m n : Nat) : Int) ∣ n := Int.gcd_dvd_right ..
  have ha' : ((Int.gcd m n : Nat) : Int) ∣ s - r := by
    have : ((Int.gcd m n : Nat) : Int) ∣ r - s := Int.dvd_of_emod_eq_zero ha
    have e : s - r = -(r - s) := by omega
    rw [e]; exact (Int.dvd_neg).mpr this
  have hl := lcm_step hm hn
  generalize ((Int.gcd m n : Nat) : Int) = g at *
  obtain ⟨a, rfl⟩ := gd1
  obtain ⟨b, rfl⟩ := gd2
  obtain ⟨c, hc⟩ := ha'
  have g0 : g ≠ 0 := by
    intro z; subst z; simp at hm
  rw [Int.mul_ediv_cancel_left _ g0] at hi hl ⊢
  rw [Int.mul_ediv_cancel_left _ g0] at hi
  rw [hc, Int.mul_ediv_cancel_left _ g0]
  have hw : 0 < g * a * b := by
    have hb : 0 < b * g := by rw [Int.mul_comm]; exact hn
    rw [hl]
    exact Int.natCast_pos.mpr (Nat.lcm_pos (by omega) (by omega))
  have hwne : g * a * b ≠ 0 := by omega
  refine ⟨hl, Int.emod_nonneg _ hwne, Int.emod_lt_of_pos _ hw, ?_, ?_⟩
  · -- by m
    refine Int.emod_eq_zero_of_dvd ?_
    have e := Int.emod_add_mul_ediv (r + g * a * (c * i % b)) (g * a * b)
    refine ⟨(c * i % b) - b * ((r + g * a * (c * i % b)) / (g * a * b)), ?_⟩
    grind
  · refine Int.emod_eq_zero_of_dvd ?_
    have e := Int.emod_add_mul_ediv (r + g * a * (c * i % b)) (g * a * b)
    have e2 := Int.emod_add_mul_ediv (c * i) b
    obtain ⟨k, hk⟩ := Int.dvd_of_emod_eq_zero hi
    -- a (c i - b q) = c + b (c k - a q)
    refine ⟨c * k - a * (c * i / b) - a * ((r + g * a * (c * i % b)) / (g * a * b)), ?_⟩
    generalize (r + g * a * (c * i % b)) / (g * a * b) = Q at *
    generalize (r + g * a * (c * i % b)) % (g * a * b) = X at *
    generalize c * i % b = T at *
    generalize c * i / b = Q2 at *
    have e3 : g * b * (c * k - a * Q2 - a * Q) = g * (c * (b * k)) - g * a * (b * Q2) - g * a * b * Q := by grind
    rw [e3, ← hk]
    grind
/-- the least number that all moduli divide -/
def lcmL (pl : List (Int × Int)) : Nat := pl.foldl (fun w q => Nat.lcm w q.1.natAbs) 1
theorem lcmL_snoc (pl : List (Int × Int)) (q : Int × Int) : lcmL (pl ++ [q]) = Nat.lcm (lcmL pl) q.1.natAbs := by unfold lcmL; rw [List.foldl_append]; rfl
theorem dvd_of_all (y : Nat) : ∀ (pl : List (Int × Int)) (G : Nat), G ∣ lcmL pl → (∀ q ∈ pl, Nat.gcd G q.1.natAbs ∣ y) → G ∣ y := by
  intro pl
  induction pl using snoc_ind with
  | nil => intro G h _; exact Nat.dvd_trans h (Nat.one_dvd y)
  | append_singleton pl q ih =>
    intro G h hq
    rw [lcmL_snoc] at h
    refine dvd_of_parts h (ih _ (Nat.gcd_dvd_right _ _) fun p hp => ?_) (hq q (by simp))
    refine Nat.dvd_trans (Nat.dvd_gcd ?_ (Nat.gcd_dvd_right _ _)) (hq p (by simp [hp]))
    exact Nat.dvd_trans (Nat.gcd_dvd_left _ _) (Nat.gcd_dvd_left _ _)
/-- places put together so far -/
structure Put (pl : List (Int × Int)) (w x : Int) : Prop where
  hw : w = (lcmL pl : Nat)
  x0 : 0 ≤ x
  x1 : x < w
  at_ : ∀ q ∈ pl, (x - q.2) % q.1 = 0
theorem put_nil : Put [] 1 0 := ⟨rfl, by decide, by decide, by simp⟩
theorem put_pos {pl : List (Int × Int)} {w x : Int} (h : Put pl w x) : 0 < w := by have := h.x0; have := h.x1; omega
theorem put_alike {pl : List (Int × Int)} {w x n s : Int} (h : Put pl w x) (ha : ∀ q ∈ pl, alike q.1 q.2 n s) : alike w x n s := by
  have key : Int.gcd w n ∣ (x - s).natAbs := by
    refine dvd_of_all _ pl _ ?_ fun q hq => ?_
    · have e : w.natAbs = lcmL pl := by have := h.hw; omega
      rw [← e]; exact Nat.gcd_dvd_left _ _
    · have d1 : Nat.gcd (Int.gcd w n) q.1.natAbs ∣ q.1.natAbs := Nat.gcd_dvd_right _ _
      have d2 : Nat.gcd (Int.gcd w n) q.1.natAbs ∣ Int.gcd q.1 n := Nat.dvd_gcd d1 (Nat.dvd_trans (Nat.gcd_dvd_left _ _) (Nat.gcd_dvd_right _ _))
      have z1 : ((Nat.gcd (Int.gcd w n) q.1.natAbs : Nat) : Int) ∣ x - q.2 := Int.dvd_trans (Int.ofNat_dvd_left.mpr d1) (Int.dvd_of_emod_eq_zero (h.at_ q hq))
      have z2 : ((Nat.gcd (Int.gcd w n) q.1.natAbs : Nat) : Int) ∣ q.2 - s := Int.dvd_trans (Int.natCast_dvd_natCast.mpr d2) (Int.dvd_of_emod_eq_zero (ha q hq))
      have z3 := Int.dvd_add z1 z2
      rw [show x - q.2 + (q.2 - s) = x - s by omega] at z3
      exact Int.ofNat_dvd_left.mp z3
  exact Int.emod_eq_zero_of_dvd (Int.ofNat_dvd_left.mpr key)
theorem put_more {pl : List (Int × Int)} {w x n s w' x' : Int} (h : Put pl w x) (j : Joined w x n s w' x') : Put (pl ++ [(n, s)]) w' x' := by
  refine ⟨?_, j.x0, j.x1, fun q hq => ?_⟩
  · rw [j.hw, lcmL_snoc]
    have e : w.natAbs = lcmL pl := by have := h.hw; omega
    rw [e]
  · rcases List.mem_append.mp hq with z | z
    · have hd : q.1 ∣ w := by
        -- each modulus divides the whole
        have hh := h.hw
        have : ∀ (l : List (Int × Int)) (p : Int × Int), p ∈ l → p.1.natAbs ∣ lcmL l := by
          intro l
          induction l using snoc_ind with
          | nil => intro p hp; simp at hp
          | append_singleton l r ih =>
            intro p hp
            rw [lcmL_snoc]
            rcases List.mem_append.mp hp with u | u
            · exact Nat.dvd_trans (ih p u) (Nat.dvd_lcm_left _ _)
            · rw [List.mem_singleton.mp u]; exact Nat.dvd_lcm_right _ _
        rw [hh]
        exact Int.ofNat_dvd_right.mpr (this pl q z)
      have e1 : w ∣ x' - x := Int.dvd_of_emod_eq_zero j.e1
      have e2 : q.1 ∣ x - q.2 := Int.dvd_of_emod_eq_zero (h.at_ q z)
      have e3 := Int.dvd_add (Int.dvd_trans hd e1) e2
      rw [show x' - x + (x - q.2) = x' - q.2 by omega] at e3
      exact Int.emod_eq_zero_of_dvd e3
    · rw [List.mem_singleton.mp z]; exact j.e2
/-- no two of them are apart -/
def allAlike (pl : List (Int × Int)) : Prop := ∀ (i j : Nat) (p q : Int × Int), i < j → pl[i]? = some p → pl[j]? = some q → alike p.1 p.2 q.1 q.2
def alikeBefore (pl : List (Int × Int)) (i j : Nat) : Prop := ∀ (i' j' : Nat) (p q : Int × Int), i' < j' → (i' < i ∨ i' = i ∧ j' < j) → pl[i']? = some p → pl[j']? = some q → alike p.1 p.2 q.1 q.2
def firstApart (pl : List (Int × Int)) (i j : Nat) : Prop := i < j ∧ (∃ p q, pl[i]? = some p ∧ pl[j]? = some q ∧ ¬alike p.1 p.2 q.1 q.2) ∧ alikeBefore pl i j
theorem before_row {pl : List (Int × Int)} {i : Nat} (h : alikeBefore pl i pl.length) : alikeBefore pl (i + 1) (i + 2) := fun i' j' p q l o hp hq => by
  have hj : j' < pl.length := (List.getElem?_eq_some_iff.mp hq).1
  refine h i' j' p q l ?_ hp hq
  omega
theorem before_one {pl : List (Int × Int)} {i j : Nat} {p q : Int × Int} (h : alikeBefore pl i j) (hp : pl[i]? = some p) (hq : pl[j]? = some q) (ha : alike p.1 p.2 q.1 q.2) : alikeBefore pl i (j + 1) := fun i' j' p' q' l o hp' hq' => by
  by_cases e : i' = i ∧ j' = j
  · obtain ⟨rfl, rfl⟩ := e
    rw [hp] at hp'; rw [hq] at hq'
    cases hp'; cases hq'; exact ha
  · exact h i' j' p' q' l (by omega) hp' hq'
theorem before_zero (pl : List (Int × Int)) : alikeBefore pl 0 1 := fun i' j' p q l o hp hq => by omega
theorem before_all {pl : List (Int × Int)} {j : Nat} (h : alikeBefore pl pl.length j) : allAlike pl := fun i' j' p q l hp hq => by
  have hj : i' < pl.length := (List.getElem?_eq_some_iff.mp hp).1
  exact h i' j' p q l (.inl hj) hp hq
theorem put_le {pl : List (Int × Int)} {w x : Int} (h : Put pl w x) (hm : ∀ q ∈ pl, 0 < q.1 ∧ q.1 < 2 ^ 60) (hl : pl.length ≤ 12) : w < 2 ^ 721 := by
  have key : ∀ l : List (Int × Int), (∀ q ∈ l, 0 < q.1 ∧ q.1 < 2 ^ 60) → lcmL l ≤ 2 ^ (60 * l.length) := fun l => by
    refine snoc_ind (motive := fun l => (∀ q ∈ l, 0 < q.1 ∧ q.1 < 2 ^ 60) → lcmL l ≤ 2 ^ (60 * l.length)) l (fun _ => by decide) (fun l q ih hq => ?_)
    rw [lcmL_snoc, List.length_append]
    have h1 := ih fun p hp => hq p (by simp [hp])
    have h2 := hq q (by simp)
    have h3 : Nat.lcm (lcmL l) q.1.natAbs ≤ lcmL l * q.1.natAbs := Nat.div_le_self _ _
    have h4 : lcmL l * q.1.natAbs ≤ 2 ^ (60 * l.length) * 2 ^ 60 := Nat.mul_le_mul h1 (by omega)
    rw [← Nat.pow_add] at h4
    exact Nat.le_trans h3 h4
  have h1 := key pl hm
  have h2 : 2 ^ (60 * pl.length) ≤ 2 ^ 720 := Nat.pow_le_pow_right (by decide) (by omega)
  have h3 := h.hw
  have h4 : lcmL pl ≤ 2 ^ 720 := Nat.le_trans h1 h2
  have h5 : (2 : Nat) ^ 720 < 2 ^ 721 := Nat.pow_lt_pow_right (by decide) (by decide)
  have h6 : ((lcmL pl : Nat) : Int) < ((2 ^ 721 : Nat) : Int) := Int.ofNat_lt.mpr (Nat.lt_of_le_of_lt h4 h5)
  rw [h3]
  exact_mod_cast h6
theorem put_two {c d : Nat} {r s w x : Int} (h : Put [((c : Int), r), ((d : Int), s)] w x) : w = (c : Int) / ((Nat.gcd c d : Nat) : Int) * d := by
  rw [h.hw, ← Int.natCast_ediv, ← Int.natCast_mul]
  congr 1
  show Nat.lcm (Nat.lcm 1 c) d = _
  rw [Nat.lcm_one_left]
  unfold Nat.lcm
  rw [Nat.mul_comm c d, Nat.mul_div_assoc d (Nat.gcd_dvd_left c d), Nat.mul_comm]
theorem put_unique {pl : List (Int × Int)} {w x w' x' : Int} (h : Put pl w x) (h' : Put pl w' x') : w = w' ∧ x = x' := by
  have ew : w = w' := by rw [h.hw, h'.hw]
  refine ⟨ew, ?_⟩
  have key : ∀ (y : Int) (l : List (Int × Int)), (∀ q ∈ l, q.1 ∣ y) → ((lcmL l : Nat) : Int) ∣ y := fun y l => by
    refine snoc_ind (motive := fun l => (∀ q ∈ l, q.1 ∣ y) → ((lcmL l : Nat) : Int) ∣ y) l (fun _ => Int.one_dvd _) (fun l q ih hq => ?_)
    rw [lcmL_snoc]
    have h1 := ih fun p hp => hq p (by simp [hp])
    have h2 := hq q (by simp)
    exact Int.ofNat_dvd_left.mpr (Nat.lcm_dvd (Int.ofNat_dvd_left.mp h1) (Int.natAbs_dvd_natAbs.mpr h2))
  have d := key (x - x') pl fun q hq => by
    have d1 := Int.dvd_of_emod_eq_zero (h.at_ q hq)
    have d2 := Int.dvd_of_emod_eq_zero (h'.at_ q hq)
    have d3 := Int.dvd_sub d1 d2
    rw [show x - q.2 - (x' - q.2) = x - x' by omega] at d3
    exact d3
  rw [← h.hw] at d
  have z := Int.emod_eq_emod_iff_emod_sub_eq_zero.mpr (Int.emod_eq_zero_of_dvd d)
  have a0 := h.x0
  have a1 := h.x1
  have b0 := h'.x0
  have b1 := h'.x1
  rw [Int.emod_eq_of_lt a0 a1, Int.emod_eq_of_lt b0 (by omega)] at z
  exact z
theorem lcm_lt (pl : List (Int × Int)) (hm : ∀ q ∈ pl, 0 < q.1 ∧ q.1 < 2 ^ 60) (hl : pl.length ≤ 12) : lcmL pl < 2 ^ 721 := by
  have key : ∀ l : List (Int × Int), (∀ q ∈ l, 0 < q.1 ∧ q.1 < 2 ^ 60) → lcmL l ≤ 2 ^ (60 * l.length) := fun l => by
    refine snoc_ind (motive := fun l => (∀ q ∈ l, 0 < q.1 ∧ q.1 < 2 ^ 60) → lcmL l ≤ 2 ^ (60 * l.length)) l (fun _ => by decide) (fun l q ih hq => ?_)
    rw [lcmL_snoc, List.length_append]
    have h1 := ih fun p hp => hq p (by simp [hp])
    have h2 := hq q (by simp)
    have h3 : Nat.lcm (lcmL l) q.1.natAbs ≤ lcmL l * q.1.natAbs := Nat.div_le_self _ _
    have h4 : lcmL l * q.1.natAbs ≤ 2 ^ (60 * l.length) * 2 ^ 60 := Nat.mul_le_mul h1 (by omega)
    rw [← Nat.pow_add] at h4
    exact Nat.le_trans h3 h4
  have h1 := key pl hm
  have h2 : 2 ^ (60 * pl.length) ≤ 2 ^ 720 := Nat.pow_le_pow_right (by decide) (by omega)
  have h5 : (2 : Nat) ^ 720 < 2 ^ 721 := Nat.pow_lt_pow_right (by decide) (by decide)
  exact Nat.lt_of_le_of_lt (Nat.le_trans h1 h2) h5
theorem lcm_pos (pl : List (Int × Int)) (hm : ∀ q ∈ pl, 0 < q.1) : 0 < lcmL pl := by
  refine snoc_ind (motive := fun l => (∀ q ∈ l, 0 < q.1) → 0 < lcmL l) pl (fun _ => by decide) (fun l q ih hq => ?_) hm
  rw [lcmL_snoc]
  have := hq q (by simp)
  exact Nat.lcm_pos (ih fun p hp => hq p (by simp [hp])) (by omega)
theorem first_unique {pl : List (Int × Int)} {i j i' j' : Nat} (h : firstApart pl i j) (h' : firstApart pl i' j') : i = i' ∧ j = j' := by
  obtain ⟨l, ⟨p, q, hp, hq, z⟩, b⟩ := h
  obtain ⟨l', ⟨p', q', hp', hq', z'⟩, b'⟩ := h'
  by_cases c : i < i' ∨ i = i' ∧ j < j'
  · exact absurd (b' i j p q l c hp hq) z
  · by_cases c' : i' < i ∨ i' = i ∧ j' < j
    · exact absurd (b i' j' p' q' l' c' hp' hq') z'
    · omega
end M

/-! primes -/
namespace M
def Prime (p : Nat) : Prop := 2 ≤ p ∧ ∀ d, d ∣ p → d = 1 ∨ d = p
theorem Prime.pos {p : Nat} (h : Prime p) : 0 < p := by have := h.1; omega
theorem Prime.coprime {p a : Nat} (h : Prime p) (ha : ¬ p ∣ a) : Nat.gcd p a = 1 := by
  rcases h.2 _ (Nat.gcd_dvd_left p a) with e | e
  · exact e
  · exact absurd (e ▸ Nat.gcd_dvd_right p a) ha
theorem Prime.dvd_mul {p a b : Nat} (h : Prime p) (hd : p ∣ a * b) : p ∣ a ∨ p ∣ b := by
  by_cases ha : p ∣ a
  · exact .inl ha
  · exact .inr (Nat.Coprime.dvd_of_dvd_mul_left (h.coprime ha) hd)
theorem Prime.dvd_pow {p a : Nat} (h : Prime p) : ∀ {e : Nat}, p ∣ a ^ e → p ∣ a
  | 0, hd => by
    rw [Nat.pow_zero] at hd
    have := Nat.le_of_dvd (by decide) hd
    have := h.1; omega
  | e + 1, hd => by
    rw [Nat.pow_succ] at hd
    rcases h.dvd_mul hd with z | z
    · exact h.dvd_pow z
    · exact z
theorem Prime.eq_of_dvd {p q : Nat} (hp : Prime p) (hq : Prime q) (h : p ∣ q) : p = q := by
  rcases hq.2 p h with e | e
  · have := hp.1; omega
  · exact e
/-- each number from 2 on has a least divisor, a prime -/
theorem exists_prime : ∀ (n : Nat), 2 ≤ n → ∃ p, Prime p ∧ p ∣ n := by
  intro n
  induction n using Nat.strongRecOn with
  | _ n ih =>
    intro hn
    by_cases h : ∃ d, d ∣ n ∧ d ≠ 1 ∧ d ≠ n
    · obtain ⟨d, h1, h2, h3⟩ := h
      have hd : d ≤ n := Nat.le_of_dvd (by omega) h1
      have h0 : d ≠ 0 := fun z => by rw [z] at h1; have := Nat.eq_zero_of_zero_dvd h1; omega
      obtain ⟨p, hp, hpd⟩ := ih d (by omega) (by omega)
      exact ⟨p, hp, Nat.dvd_trans hpd h1⟩
    · refine ⟨n, ⟨hn, fun d hd => ?_⟩, Nat.dvd_refl n⟩
      by_cases h1 : d = 1
      · exact .inl h1
      · by_cases h2 : d = n
        · exact .inr h2
        · exact absurd ⟨d, hd, h1, h2⟩ h
/-- no lesser divisor from 2 to the root -/
theorem prime_of_no {n : Nat} (hn : 2 ≤ n) (h : ∀ d, 2 ≤ d → d * d ≤ n → ¬ d ∣ n) : Prime n := by
  obtain ⟨p, hp, hd⟩ := exists_prime n hn
  obtain ⟨c, hc⟩ := hd
  by_cases e : c = 1
  · subst e
    rw [Nat.mul_one] at hc
    rw [hc]; exact hp
  · exfalso
    have hc0 : 2 ≤ c := by
      rcases Nat.lt_or_ge c 2 with z | z
      · have : c = 0 ∨ c = 1 := by omega
        rcases this with rfl | rfl
        · omega
        · exact absurd rfl e
      · exact z
    have hp2 := hp.1
    rcases Nat.le_total p c with z | z
    · refine h p hp2 ?_ ⟨c, hc⟩
      rw [hc]; exact Nat.mul_le_mul_left p z
    · refine h c hc0 ?_ ⟨p, by rw [hc, Nat.mul_comm]⟩
      rw [hc]; exact Nat.mul_le_mul_right c z
/-- powers of a prime: what is left without it -/
theorem split_prime {q : Nat} (hq : Prime q) : ∀ (n : Nat), 0 < n → ∃ k m, n = q ^ k * m ∧ ¬ q ∣ m ∧ 0 < m := by
  intro n
  induction n using Nat.strongRecOn with
  | _ n ih =>
    intro hn
    by_cases h : q ∣ n
    · obtain ⟨c, hc⟩ := h
      have hc0 : 0 < c := by
        rcases Nat.eq_zero_or_pos c with z | z
        · rw [z] at hc; omega
        · exact z
      have hq2 := hq.1
      have hlt : c < n := by
        rw [hc]
        have : 2 * c ≤ q * c := Nat.mul_le_mul_right c hq2
        omega
      obtain ⟨k, m, h1, h2, h3⟩ := ih c hlt hc0
      exact ⟨k + 1, m, by rw [hc, h1, Nat.pow_succ]; grind, h2, h3⟩
    · exact ⟨0, n, by simp, h, hn⟩
theorem coprime_pow {q m : Nat} (hq : Prime q) (h : ¬ q ∣ m) (k : Nat) : Nat.gcd (q ^ k) m = 1 := Nat.Coprime.pow_left k (hq.coprime h)
/-- n divides m where each power of a prime that divides n does -/
theorem dvd_of_prime_powers : ∀ (n m : Nat), 0 < n → (∀ q k, Prime q → q ^ k ∣ n → q ^ k ∣ m) → n ∣ m := by
  intro n
  induction n using Nat.strongRecOn with
  | _ n ih =>
    intro m hn h
    by_cases h1 : n = 1
    · rw [h1]; exact Nat.one_dvd m
    · obtain ⟨q, hq, hd⟩ := exists_prime n (by omega)
      obtain ⟨k, c, e, hc, hc0⟩ := split_prime hq n hn
      have hk : 0 < k := by
        rcases Nat.eq_zero_or_pos k with z | z
        · rw [z, Nat.pow_zero, Nat.one_mul] at e; rw [e] at hd; exact absurd hd hc
        · exact z
      have hlt : c < n := by
        rw [e]
        have : q ^ 1 ≤ q ^ k := Nat.pow_le_pow_right hq.pos hk
        have h2 := hq.1
        rw [Nat.pow_one] at this
        have : 2 * c ≤ q ^ k * c := Nat.mul_le_mul_right c (by omega)
        omega
      have d1 : q ^ k ∣ m := h q k hq ⟨c, e⟩
      have d2 : c ∣ m := ih c hlt m hc0 fun r j hr hj => h r j hr (Nat.dvd_trans hj ⟨q ^ k, by rw [e, Nat.mul_comm]⟩)
      rw [e]
      exact Nat.Coprime.mul_dvd_of_dvd_of_dvd (coprime_pow hq hc k) d1 d2
end M

/-! numbers parted into primes -/
namespace M
def prodL : List (Nat × Nat) → Nat
  | [] => 1
  | x :: l => x.1 ^ x.2 * prodL l
theorem prodL_app (l m : List (Nat × Nat)) : prodL (l ++ m) = prodL l * prodL m := by
  induction l with
  | nil => simp [prodL]
  | cons x l ih => simp only [List.cons_append, prodL, ih]; grind
structure IsFac (n : Nat) (l : List (Nat × Nat)) : Prop where
  sorted : l.Pairwise (fun x y => x.1 < y.1)
  primes : ∀ x ∈ l, Prime x.1 ∧ 0 < x.2
  prod : prodL l = n
/-- so far: the primes below d are taken out -/
structure Fac (n0 : Nat) (l : List (Nat × Nat)) (n d : Nat) : Prop where
  sorted : l.Pairwise (fun x y => x.1 < y.1)
  below : ∀ x ∈ l, x.1 < d
  primes : ∀ x ∈ l, Prime x.1 ∧ 0 < x.2
  prod : prodL l * n = n0
  no : ∀ e, 2 ≤ e → e < d → ¬ e ∣ n
  npos : 0 < n
  dtwo : 2 ≤ d
theorem fac_start {n : Nat} (h : 0 < n) : Fac n [] n 2 := ⟨.nil, by simp, by simp, by simp [prodL], fun e h1 h2 => by omega, h, Nat.le_refl 2⟩
theorem fac_end {n0 n d : Nat} {l : List (Nat × Nat)} (h : Fac n0 l n d) (hn : n ≤ 1) : IsFac n0 l := by
  have : n = 1 := by have := h.npos; omega
  subst this
  exact ⟨h.sorted, h.primes, by rw [← h.prod, Nat.mul_one]⟩
section
variable {n0 n d : Nat} {l : List (Nat × Nat)}
theorem fac_le (h : Fac n0 l n d) (hn : 1 < n) : d ≤ n := by
  rcases Nat.lt_or_ge n d with z | z
  · exact absurd (Nat.dvd_refl n) (h.no n hn z)
  · exact z
/-- beyond the root what is left is a prime -/
theorem fac_jump (h : Fac n0 l n d) (hn : 1 < n) (hd : n < d * d) : Fac n0 l n n := by
  have hl := fac_le h hn
  refine ⟨h.sorted, fun x hx => Nat.lt_of_lt_of_le (h.below x hx) hl, h.primes, h.prod, fun e h1 h2 hd' => ?_, h.npos, hn⟩
  obtain ⟨c, hc⟩ := hd'
  have e1 : d ≤ e := by
    rcases Nat.lt_or_ge e d with z | z
    · exact absurd ⟨c, hc⟩ (h.no e h1 z)
    · exact z
  have c2 : 2 ≤ c := by
    rcases Nat.lt_or_ge c 2 with z | z
    · have : c = 0 ∨ c = 1 := by omega
      rcases this with rfl | rfl <;> omega
    · exact z
  have e2 : d ≤ c := by
    rcases Nat.lt_or_ge c d with z | z
    · exact absurd ⟨e, by rw [hc, Nat.mul_comm]⟩ (h.no c c2 z)
    · exact z
  have := Nat.mul_le_mul e1 e2
  omega
theorem fac_prime (h : Fac n0 l n d) (hd : d ∣ n) : Prime d := prime_of_no h.dtwo fun e h1 h2 h3 => by
  have : e < d := by
    rcases Nat.lt_or_ge e d with z | z
    · exact z
    · have := Nat.mul_le_mul z h1
      have h4 := h.dtwo
      have h5 : d * 2 ≤ e * e := Nat.le_trans this (Nat.le_refl _)
      omega
  exact h.no e h1 this (Nat.dvd_trans h3 hd)
theorem dvd_pow_self (d : Nat) {k : Nat} (hk : 0 < k) : d ∣ d ^ k := by
  obtain ⟨j, rfl⟩ : ∃ j, k = j + 1 := ⟨k - 1, by omega⟩
  rw [Nat.pow_succ]; exact Nat.dvd_mul_left d _
/-- d taken out k times, m left -/
theorem fac_step {k m : Nat} (h : Fac n0 l n d) (e : n = d ^ k * m) (hm : ¬ d ∣ m) : Fac n0 (if 0 < k then l ++ [(d, k)] else l) m (d + 1) := by
  have m0 : 0 < m := Nat.pos_of_ne_zero fun z => by rw [z, Nat.mul_zero] at e; have := h.npos; omega
  have hno : ∀ f, 2 ≤ f → f < d + 1 → ¬ f ∣ m := fun f h1 h2 h3 => by
    by_cases hf : f = d
    · exact hm (hf ▸ h3)
    · exact h.no f h1 (by omega) (by rw [e]; exact Nat.dvd_trans h3 (Nat.dvd_mul_left m _))
  have hd2 := h.dtwo
  by_cases hk : 0 < k
  · rw [if_pos hk]
    have hdn : d ∣ n := by
      rw [e]
      exact Nat.dvd_trans (dvd_pow_self d hk) (Nat.dvd_mul_right _ _)
    refine ⟨?_, fun x hx => ?_, fun x hx => ?_, ?_, hno, m0, by omega⟩
    · refine List.pairwise_append.mpr ⟨h.sorted, List.pairwise_singleton _ _, fun x hx y hy => ?_⟩
      rw [List.mem_singleton.mp hy]; exact h.below x hx
    · rcases List.mem_append.mp hx with z | z
      · have := h.below x z; omega
      · rw [List.mem_singleton.mp z]; exact Nat.lt_succ_self d
    · rcases List.mem_append.mp hx with z | z
      · exact h.primes x z
      · rw [List.mem_singleton.mp z]; exact ⟨fac_prime h hdn, hk⟩
    · rw [prodL_app, ← h.prod, e]; simp only [prodL]; grind
  · have k0 : k = 0 := by omega
    subst k0
    rw [if_neg (by omega)]
    have e' : n = m := by rw [e, Nat.pow_zero, Nat.one_mul]
    exact ⟨h.sorted, fun x hx => by have := h.below x hx; omega, h.primes, by rw [← e']; exact h.prod, hno, m0, by omega⟩
/-- an even number more may be left out -/
theorem fac_odd (h : Fac n0 l n d) (h2 : 2 < d) (he : d % 2 = 0) : Fac n0 l n (d + 1) := by
  refine ⟨h.sorted, fun x hx => by have := h.below x hx; omega, h.primes, h.prod, fun f h1 h3 h4 => ?_, h.npos, by omega⟩
  by_cases hf : f = d
  · have : 2 ∣ f := by rw [hf]; exact Nat.dvd_of_mod_eq_zero he
    exact h.no 2 (by decide) h2 (Nat.dvd_trans this h4)
  · exact h.no f h1 (by omega) h4
end
/-! what a parting tells -/
theorem prodL_dvd {l : List (Nat × Nat)} {x : Nat × Nat} (h : x ∈ l) : x.1 ^ x.2 ∣ prodL l := by
  induction l with
  | nil => simp at h
  | cons y l ih =>
    rcases List.mem_cons.mp h with z | z
    · rw [z]; exact Nat.dvd_mul_right _ _
    · exact Nat.dvd_trans (ih z) (Nat.dvd_mul_left _ _)
theorem fac_dvd {n : Nat} {l : List (Nat × Nat)} (h : IsFac n l) {x : Nat × Nat} (hx : x ∈ l) : x.1 ∣ n := by
  rw [← h.prod]
  refine Nat.dvd_trans ?_ (prodL_dvd hx)
  obtain ⟨j, e⟩ : ∃ j, x.2 = j + 1 := ⟨x.2 - 1, by have := (h.primes x hx).2; omega⟩
  rw [e, Nat.pow_succ]; exact Nat.dvd_mul_left _ _
theorem prime_in {l : List (Nat × Nat)} {q : Nat} (hq : Prime q) (hl : ∀ x ∈ l, Prime x.1 ∧ 0 < x.2) (h : q ∣ prodL l) : ∃ k, (q, k) ∈ l := by
  induction l with
  | nil =>
    simp only [prodL] at h
    have := Nat.le_of_dvd (by decide) h
    have := hq.1; omega
  | cons x l ih =>
    simp only [prodL] at h
    rcases hq.dvd_mul h with z | z
    · have := hq.eq_of_dvd (hl x (by simp)).1 (hq.dvd_pow z)
      exact ⟨x.2, by rw [this]; simp⟩
    · obtain ⟨k, hk⟩ := ih (fun y hy => hl y (by simp [hy])) z
      exact ⟨k, by simp [hk]⟩
theorem fac_prime_in {n q : Nat} {l : List (Nat × Nat)} (h : IsFac n l) (hq : Prime q) (hd : q ∣ n) : ∃ k, (q, k) ∈ l := prime_in hq h.primes (by rw [h.prod]; exact hd)
theorem Fac.of {n : Nat} {l : List (Nat × Nat)} (h : IsFac n l) (hn : 0 < n) : ∃ d, Fac n l 1 d := by
  have : ∃ d, ∀ x ∈ l, x.1 < d := by
    have key : ∀ l : List (Nat × Nat), ∃ d, ∀ x ∈ l, x.1 < d := fun l => by
      induction l with
      | nil => exact ⟨0, by simp⟩
      | cons y l ih =>
        obtain ⟨d, hd⟩ := ih
        exact ⟨d + y.1 + 1, fun x hx => by
          rcases List.mem_cons.mp hx with z | z
          · rw [z]; omega
          · have := hd x z; omega⟩
    exact key l
  obtain ⟨d, hd⟩ := this
  refine ⟨d + 2, h.sorted, fun x hx => by have := hd x hx; omega, h.primes, by rw [Nat.mul_one]; exact h.prod, fun e h1 h2 h3 => ?_, by decide, by omega⟩
  have := Nat.le_of_dvd (by decide) h3
  omega
end M

/-! orders by a prime, and a number of the order p - 1 -/
namespace M
/-! roots of a polynomial by a prime -/
def ev (l : List Int) (x : Int) : Int := l.foldr (fun c acc => c + x * acc) 0
theorem ev_cons (c : Int) (l : List Int) (x : Int) : ev (c :: l) x = c + x * ev l x := rfl
def sd (r : Int) : List Int → List Int
  | [] => []
  | [_] => []
  | _ :: d :: l => ev (d :: l) r :: sd r (d :: l)
def lead (l : List Int) : Int := l.getLast?.getD 0
theorem sd_len (r : Int) : ∀ (c : Int) (l : List Int), (sd r (c :: l)).length = l.length
  | _, [] => rfl
  | _, d :: l => by rw [sd, List.length_cons, List.length_cons, sd_len r d l]
theorem sd_ev (r x : Int) : ∀ (c : Int) (l : List Int), ev (c :: l) x - ev (c :: l) r = (x - r) * ev (sd r (c :: l)) x
  | c, [] => by simp [ev, sd]
  | c, d :: l => by
    have ih := sd_ev r x d l
    show (c + x * ev (d :: l) x) - (c + r * ev (d :: l) r) = (x - r) * (ev (d :: l) r + x * ev (sd r (d :: l)) x)
    generalize ev (d :: l) x = A at *
    generalize ev (d :: l) r = B at *
    generalize ev (sd r (d :: l)) x = C at *
    grind
theorem sd_lead (r : Int) : ∀ (c d : Int) (l : List Int), lead (sd r (c :: d :: l)) = lead (c :: d :: l)
  | c, d, [] => by simp [sd, lead, ev]
  | c, d, e :: l => by
    have ih := sd_lead r d e l
    rw [sd]
    unfold lead at *
    rw [List.getLast?_cons_cons] 
    have h : sd r (d :: e :: l) ≠ [] := by rw [sd]; simp
    rw [List.getLast?_cons_of_ne_nil h]
    exact ih
theorem dvd_mul_int {p : Nat} (hp : Prime p) {a b : Int} (h : (p : Int) ∣ a * b) : (p : Int) ∣ a ∨ (p : Int) ∣ b := by
  have h1 := Int.ofNat_dvd_left.mp h
  rw [Int.natAbs_mul] at h1
  rcases hp.dvd_mul h1 with z | z
  · exact .inl (Int.ofNat_dvd_left.mpr z)
  · exact .inr (Int.ofNat_dvd_left.mpr z)
/-- as many roots, apart by p, as coefficients: the leading one is divided -/
theorem roots_lead {p : Nat} (hp : Prime p) : ∀ (d : Nat) (c : List Int) (rs : List Int), c.length = d + 1 → rs.length = d + 1 → rs.Pairwise (fun x y => ¬ (p : Int) ∣ y - x) → (∀ r ∈ rs, (p : Int) ∣ ev c r) → (p : Int) ∣ lead c
  | 0, c, rs, hc, hr, _, h => by
    match c, rs, hc, hr with
    | [c], [r], _, _ =>
      have := h r (by simp)
      simpa [ev, lead] using this
  | d + 1, c, rs, hc, hr, hd, h => by
    match c, rs, hc, hr with
    | c0 :: c1 :: c, r :: rs, hc, hr =>
      rw [← sd_lead r c0 c1 c]
      rw [List.pairwise_cons] at hd
      refine roots_lead hp d (sd r (c0 :: c1 :: c)) rs (by rw [sd_len]; simpa using hc) (by simpa using hr) hd.2 fun s hs => ?_
      have e := sd_ev r s c0 (c1 :: c)
      have h1 := Int.dvd_sub (h s (by simp [hs])) (h r (by simp))
      rw [e] at h1
      rcases dvd_mul_int hp h1 with z | z
      · exact absurd z (hd.1 s hs)
      · exact z
theorem ev_xn (m : Nat) (x : Int) : ev (List.replicate m 0 ++ [1]) x = x ^ m := by
  induction m with
  | zero => simp [ev]
  | succ m ih =>
    rw [List.replicate_succ, List.cons_append, ev_cons, ih, Int.pow_succ]
    grind
/-- at most m numbers, apart by p, whose power to m is 1 -/
theorem roots_le {p m : Nat} (hp : Prime p) (hm : 0 < m) {rs : List Int} (hd : rs.Pairwise (fun x y => ¬ (p : Int) ∣ y - x)) (h : ∀ r ∈ rs, (p : Int) ∣ r ^ m - 1) : rs.length ≤ m := by
  rcases Nat.lt_or_ge m rs.length with z | z
  · exfalso
    obtain ⟨k, rfl⟩ : ∃ k, m = k + 1 := ⟨m - 1, by omega⟩
    have hl := roots_lead hp (k + 1) ((-1) :: (List.replicate k 0 ++ [1])) (rs.take (k + 2)) (by simp) (by rw [List.length_take]; omega)
      (hd.sublist (List.take_sublist _ _)) fun r hr => by
        have h1 := h r (List.mem_of_mem_take hr)
        rw [ev_cons, ev_xn]
        have e : -1 + r * r ^ k = r ^ (k + 1) - 1 := by rw [Int.pow_succ]; grind
        rw [e]; exact h1
    have e : lead ((-1) :: (List.replicate k 0 ++ [1])) = 1 := by
      unfold lead
      rw [← List.cons_append, List.getLast?_concat]; rfl
    rw [e] at hl
    have h2 := Int.le_of_dvd (by decide) hl
    have := hp.1
    omega
  · exact z
/-! pigeons -/
theorem pig : ∀ (n : Nat) (l : List Nat), l.Nodup → (∀ x ∈ l, x < n) → l.length ≤ n
  | 0, l, _, h => by
    match l with
    | [] => exact Nat.le_refl 0
    | x :: l => exact absurd (h x (by simp)) (by omega)
  | n + 1, l, hd, h => by
    by_cases hn : n ∈ l
    · obtain ⟨a, b, e⟩ := List.append_of_mem hn
      subst e
      have h1 := pig n (a ++ b) (by
        have := List.nodup_append.mp hd
        have h2 := List.nodup_cons.mp this.2.1
        refine List.nodup_append.mpr ⟨this.1, h2.2, fun x hx y hy => this.2.2 x hx y (by simp [hy])⟩) fun x hx => by
          have h2 : x < n + 1 := h x (by rcases List.mem_append.mp hx with z | z <;> simp [z])
          have h3 : x ≠ n := fun e => by
            subst e
            have := List.nodup_append.mp hd
            rcases List.mem_append.mp hx with z | z
            · exact this.2.2 x z x (by simp) rfl
            · exact (List.nodup_cons.mp this.2.1).1 z
          omega
      rw [List.length_append] at h1 ⊢
      rw [List.length_cons]; omega
    · exact Nat.le_succ_of_le (pig n l hd fun x hx => by
        have h2 := h x hx
        have h3 : x ≠ n := fun e => hn (e ▸ hx)
        omega)
end M

/-! orders -/
namespace M
def is1 (p : Nat) (a : Int) (e : Nat) : Prop := (p : Int) ∣ a ^ e - 1
def un (p : Nat) (a : Int) : Prop := ¬ (p : Int) ∣ a
structure Ord (p : Nat) (a : Int) (m : Nat) : Prop where
  pos : 0 < m
  one : is1 p a m
  least : ∀ f, 0 < f → is1 p a f → m ≤ f
theorem exists_min {P : Nat → Prop} : ∀ n, P n → ∃ m, P m ∧ ∀ k, P k → m ≤ k := by
  intro n
  induction n using Nat.strongRecOn with
  | _ n ih =>
    intro h
    by_cases c : ∃ k, P k ∧ k < n
    · obtain ⟨k, h1, h2⟩ := c
      exact ih k h2 h1
    · exact ⟨n, h, fun k hk => by
        rcases Nat.lt_or_ge k n with z | z
        · exact absurd ⟨k, hk, z⟩ c
        · exact z⟩
theorem exists_max {P : Nat → Prop} (B : Nat) (hB : ∀ n, P n → n ≤ B) {n : Nat} (h : P n) : ∃ m, P m ∧ ∀ k, P k → k ≤ m := by
  obtain ⟨d, ⟨m, hm, e⟩, hd⟩ := exists_min (P := fun d => ∃ m, P m ∧ d = B - m) (B - n) ⟨n, h, rfl⟩
  refine ⟨m, hm, fun k hk => ?_⟩
  have h1 := hd (B - k) ⟨k, hk, rfl⟩
  have := hB k hk
  have := hB m hm
  omega
section
variable {p : Nat} {a b : Int} {e f m n : Nat}
theorem one_zero : is1 p a 0 := by unfold is1; rw [Int.pow_zero]; simp
theorem one_add (h : is1 p a e) (h' : is1 p a f) : is1 p a (e + f) := by
  unfold is1 at *
  have : a ^ (e + f) - 1 = a ^ e * (a ^ f - 1) + (a ^ e - 1) := by rw [Int.pow_add]; grind
  rw [this]
  exact Int.dvd_add (Int.dvd_trans h' ⟨a ^ e, Int.mul_comm _ _⟩) h
theorem one_mul_ (h : is1 p a e) (k : Nat) : is1 p a (e * k) := by
  induction k with
  | zero => rw [Nat.mul_zero]; exact one_zero
  | succ k ih => rw [Nat.mul_succ]; exact one_add ih h
theorem one_of_dvd (h : is1 p a e) (d : e ∣ f) : is1 p a f := by
  obtain ⟨k, rfl⟩ := d
  exact one_mul_ h k
theorem not_dvd_of_one (hp : Prime p) (h : is1 p a e) : ¬ (p : Int) ∣ a ^ e := fun z => by
  have h1 := Int.dvd_sub z h
  rw [show a ^ e - (a ^ e - 1) = 1 by omega] at h1
  have h2 := Int.le_of_dvd (by decide) h1
  have := hp.1
  omega
theorem one_sub (hp : Prime p) (h : is1 p a (e + f)) (h' : is1 p a e) : is1 p a f := by
  have n1 := not_dvd_of_one hp h'
  unfold is1 at *
  have : a ^ (e + f) - 1 = a ^ e * (a ^ f - 1) + (a ^ e - 1) := by rw [Int.pow_add]; grind
  rw [this] at h
  have h2 := Int.dvd_sub h h'
  rw [show a ^ e * (a ^ f - 1) + (a ^ e - 1) - (a ^ e - 1) = a ^ e * (a ^ f - 1) by omega] at h2
  rcases dvd_mul_int hp h2 with z | z
  · exact absurd z n1
  · exact z
theorem Ord.dvd (hp : Prime p) (o : Ord p a m) (h : is1 p a f) : m ∣ f := by
  have h1 : is1 p a (m * (f / m)) := one_mul_ o.one _
  have h2 : is1 p a (f % m) := one_sub hp (e := m * (f / m)) (by rw [Nat.div_add_mod]; exact h) h1
  rcases Nat.eq_zero_or_pos (f % m) with z | z
  · exact Nat.dvd_of_mod_eq_zero z
  · have := o.least _ z h2
    have := Nat.mod_lt f o.pos
    omega
theorem Ord.iff (hp : Prime p) (o : Ord p a m) : is1 p a f ↔ m ∣ f := ⟨o.dvd hp, one_of_dvd o.one⟩
theorem Ord.of_iff (hm : 0 < m) (h : ∀ f, is1 p a f ↔ m ∣ f) : Ord p a m := ⟨hm, (h m).mpr (Nat.dvd_refl m), fun f hf h1 => Nat.le_of_dvd hf ((h f).mp h1)⟩
theorem Ord.unique (hp : Prime p) (o : Ord p a m) (o' : Ord p a n) : m = n := Nat.dvd_antisymm (o.dvd hp o'.one) (o'.dvd hp o.one)
theorem unit_pow (hp : Prime p) (h : un p a) : ∀ e, ¬ (p : Int) ∣ a ^ e
  | 0 => by
    rw [Int.pow_zero]
    intro z
    have := Int.le_of_dvd (by decide) z
    have := hp.1
    omega
  | e + 1 => by
    rw [Int.pow_succ]
    intro z
    rcases dvd_mul_int hp z with z | z
    · exact unit_pow hp h e z
    · exact h z
/-- two powers alike -/
theorem one_of_alike (hp : Prime p) (h : un p a) (hf : (p : Int) ∣ a ^ (e + f) - a ^ e) : is1 p a f := by
  have : a ^ (e + f) - a ^ e = a ^ e * (a ^ f - 1) := by rw [Int.pow_add]; grind
  rw [this] at hf
  rcases dvd_mul_int hp hf with z | z
  · exact absurd z (unit_pow hp h e)
  · exact z
theorem toNat_alike {x y : Int} (hp : 0 < p) (h : (x % (p : Int)).toNat = (y % (p : Int)).toNat) : (p : Int) ∣ y - x := by
  have h1 := Int.emod_nonneg x (show (p : Int) ≠ 0 by omega)
  have h2 := Int.emod_nonneg y (show (p : Int) ≠ 0 by omega)
  have h3 : y % (p : Int) = x % p := by omega
  exact Int.dvd_of_emod_eq_zero (Int.emod_eq_emod_iff_emod_sub_eq_zero.mp h3)
/-- the powers below a bound that has no 1 behind it are unlike, none of them nought -/
theorem powers_le (hp : Prime p) (h : un p a) (no : ∀ f, 0 < f → f < n → ¬ is1 p a f) : n ≤ p - 1 := by
  have hp0 := hp.pos
  have hpos : ∀ i, 0 < (a ^ i % (p : Int)).toNat := fun i => by
    have h1 := Int.emod_nonneg (a ^ i) (show (p : Int) ≠ 0 by omega)
    have h2 : a ^ i % (p : Int) ≠ 0 := fun z => unit_pow hp h i (Int.dvd_of_emod_eq_zero z)
    omega
  have hlt : ∀ i, (a ^ i % (p : Int)).toNat < p := fun i => by
    have h1 := Int.emod_nonneg (a ^ i) (show (p : Int) ≠ 0 by omega)
    have h2 := Int.emod_lt_of_pos (a ^ i) (show (0 : Int) < p by omega)
    omega
  have h1 := pig (p - 1) ((List.range n).map fun i => (a ^ i % (p : Int)).toNat - 1) (by
    unfold List.Nodup
    rw [List.pairwise_map]
    refine List.Pairwise.imp_of_mem ?_ (List.pairwise_lt_range (n := n))
    intro i j hi hj hij e
    have hj' := List.mem_range.mp hj
    have e2 : (a ^ i % (p : Int)).toNat = (a ^ j % (p : Int)).toNat := by have := hpos i; have := hpos j; omega
    have e3 := toNat_alike hp0 e2
    obtain ⟨d, rfl⟩ : ∃ d, j = i + d := ⟨j - i, by omega⟩
    exact no d (by omega) (by omega) (one_of_alike hp h e3)) fun x hx => by
      obtain ⟨i, _, rfl⟩ := List.mem_map.mp hx
      have := hpos i; have := hlt i
      omega
  rwa [List.length_map, List.length_range] at h1
theorem exists_ord (hp : Prime p) (h : un p a) : ∃ m, Ord p a m := by
  have ex : ∃ e, 0 < e ∧ is1 p a e := by
    refine Classical.byContradiction fun no => ?_
    have := powers_le (n := p) hp h fun f hf _ hf' => no ⟨f, hf, hf'⟩
    have := hp.1
    omega
  obtain ⟨e, he⟩ := ex
  obtain ⟨m, h1, h2⟩ := exists_min (P := fun e => 0 < e ∧ is1 p a e) e he
  exact ⟨m, h1.1, h1.2, fun f hf h => h2 f ⟨hf, h⟩⟩
theorem Ord.le (hp : Prime p) (h : un p a) (o : Ord p a m) : m ≤ p - 1 := powers_le hp h fun f h0 h1 h2 => by have := o.least f h0 h2; omega
theorem Ord.unit (hp : Prime p) (o : Ord p a m) : un p a := fun z => by
  have h1 := not_dvd_of_one hp o.one
  obtain ⟨k, rfl⟩ : ∃ k, m = k + 1 := ⟨m - 1, by have := o.pos; omega⟩
  rw [Int.pow_succ] at h1
  exact h1 (Int.dvd_mul_of_dvd_right z)
theorem one_pow_iff {d : Nat} : is1 p (a ^ d) f ↔ is1 p a (d * f) := by unfold is1; rw [Int.pow_mul]
theorem Ord.pow (hp : Prime p) {d c : Nat} (o : Ord p a (d * c)) : Ord p (a ^ d) c := by
  have h0 := o.pos
  have hd : 0 < d := Nat.pos_of_ne_zero fun z => by rw [z, Nat.zero_mul] at h0; omega
  have hc : 0 < c := Nat.pos_of_ne_zero fun z => by rw [z, Nat.mul_zero] at h0; omega
  refine Ord.of_iff hc fun f => ?_
  rw [one_pow_iff, o.iff hp]
  exact Nat.mul_dvd_mul_iff_left hd
theorem one_left (h1 : (p : Int) ∣ (a * b) ^ e - 1) (h2 : is1 p b e) : is1 p a e := by
  unfold is1 at *
  have : (a * b) ^ e - 1 = a ^ e * (b ^ e - 1) + (a ^ e - 1) := by rw [Int.mul_pow]; grind
  rw [this] at h1
  have h3 := Int.dvd_sub h1 (Int.dvd_trans h2 ⟨a ^ e, Int.mul_comm _ _⟩)
  rw [show a ^ e * (b ^ e - 1) + (a ^ e - 1) - a ^ e * (b ^ e - 1) = a ^ e - 1 by omega] at h3
  exact h3
theorem one_both (h1 : is1 p a e) (h2 : is1 p b e) : is1 p (a * b) e := by
  unfold is1 at *
  have : (a * b) ^ e - 1 = a ^ e * (b ^ e - 1) + (a ^ e - 1) := by rw [Int.mul_pow]; grind
  rw [this]
  exact Int.dvd_add (Int.dvd_trans h2 ⟨a ^ e, Int.mul_comm _ _⟩) h1
theorem Ord.mul_ (hp : Prime p) (o : Ord p a m) (o' : Ord p b n) (g : Nat.gcd m n = 1) : Ord p (a * b) (m * n) := by
  refine ⟨Nat.mul_pos o.pos o'.pos, one_both (one_of_dvd o.one (Nat.dvd_mul_right m n)) (one_of_dvd o'.one (Nat.dvd_mul_left n m)), fun f hf h => ?_⟩
  have h1 : is1 p a (f * n) := one_left (b := b) (one_mul_ h n) (one_of_dvd o'.one (Nat.dvd_mul_left n f))
  have h2 : is1 p b (f * m) := one_left (b := a) (by rw [Int.mul_comm]; exact one_mul_ h m) (one_of_dvd o.one (Nat.dvd_mul_left m f))
  have d1 : m ∣ f := Nat.Coprime.dvd_of_dvd_mul_right g (o.dvd hp h1)
  have d2 : n ∣ f := Nat.Coprime.dvd_of_dvd_mul_right (Nat.Coprime.symm g) (o'.dvd hp h2)
  exact Nat.le_of_dvd hf (Nat.Coprime.mul_dvd_of_dvd_of_dvd g d1 d2)
/-- there is a number of the order p - 1, and each number's power to it is 1 -/
theorem full_exists (hp : Prime p) : ∃ a, Ord p a (p - 1) := by
  have hp2 := hp.1
  have u1 : un p 1 := fun z => by have := Int.le_of_dvd (by decide) z; omega
  obtain ⟨n1, o1⟩ := exists_ord hp u1
  obtain ⟨mx, ⟨a, o⟩, hmax⟩ := exists_max (P := fun m => ∃ a, Ord p a m) (p - 1) (fun m ⟨a, o⟩ => o.le hp (o.unit hp)) ⟨1, o1⟩
  have all : ∀ b n, Ord p b n → n ∣ mx := fun b n ob => by
    refine dvd_of_prime_powers n mx ob.pos fun q k hq hd => Classical.byContradiction fun no => ?_
    obtain ⟨v, c, e, hc, hc0⟩ := split_prime hq mx o.pos
    obtain ⟨d, hd⟩ := hd
    have ov : Ord p (a ^ (q ^ v)) c := Ord.pow hp (by rw [← e]; exact o)
    have ow : Ord p (b ^ d) (q ^ k) := Ord.pow hp (by rw [Nat.mul_comm, ← hd]; exact ob)
    have om := Ord.mul_ hp ov ow (Nat.Coprime.symm (coprime_pow hq hc k))
    have h1 := hmax _ ⟨_, om⟩
    have hvk : v < k := by
      rcases Nat.lt_or_ge v k with z | z
      · exact z
      · exact absurd (Nat.dvd_trans (Nat.pow_dvd_pow q z) ⟨c, e⟩) no
    have h2 : q ^ v < q ^ k := Nat.pow_lt_pow_right (by have := hq.1; omega) hvk
    have h3 : c * q ^ v < c * q ^ k := Nat.mul_lt_mul_of_pos_left h2 hc0
    rw [e, Nat.mul_comm (q ^ v)] at h1
    omega
  have h1 : p - 1 ≤ mx := by
    have h := roots_le hp o.pos (rs := (List.range (p - 1)).map fun i => (((i + 1 : Nat)) : Int)) (by
      rw [List.pairwise_map]
      refine List.Pairwise.imp_of_mem ?_ (List.pairwise_lt_range (n := p - 1))
      intro i j hi hj hij z
      have := List.mem_range.mp hj
      have := Int.le_of_dvd (by omega) z
      omega) fun r hr => by
        obtain ⟨i, hi, rfl⟩ := List.mem_map.mp hr
        have hi' := List.mem_range.mp hi
        have ui : un p ((i + 1 : Nat) : Int) := fun z => by have := Int.le_of_dvd (by omega) z; omega
        obtain ⟨n, on⟩ := exists_ord hp ui
        exact one_of_dvd on.one (all _ _ on)
    rwa [List.length_map, List.length_range] at h
  have h2 := o.le hp (o.unit hp)
  exact ⟨a, by rw [show p - 1 = mx by omega]; exact o⟩
theorem fermat (hp : Prime p) (h : un p a) : is1 p a (p - 1) := by
  -- the number's order divides that of a full one
  have hp2 := hp.1
  obtain ⟨g, og⟩ := full_exists hp
  obtain ⟨n, on⟩ := exists_ord hp h
  refine one_of_dvd on.one (dvd_of_prime_powers n _ on.pos fun q k hq hd => Classical.byContradiction fun no => ?_)
  obtain ⟨v, c, e, hc, hc0⟩ := split_prime hq (p - 1) (by omega)
  obtain ⟨d, hd⟩ := hd
  have ov : Ord p (g ^ (q ^ v)) c := Ord.pow hp (by rw [← e]; exact og)
  have ow : Ord p (a ^ d) (q ^ k) := Ord.pow hp (by rw [Nat.mul_comm, ← hd]; exact on)
  have om := Ord.mul_ hp ov ow (Nat.Coprime.symm (coprime_pow hq hc k))
  have h1 := om.le hp (om.unit hp)
  have hvk : v < k := by
    rcases Nat.lt_or_ge v k with z | z
    · exact z
    · exact absurd (Nat.dvd_trans (Nat.pow_dvd_pow q z) ⟨c, e⟩) no
  have h2 : q ^ v < q ^ k := Nat.pow_lt_pow_right (by have := hq.1; omega) hvk
  have h3 : c * q ^ v < c * q ^ k := Nat.mul_lt_mul_of_pos_left h2 hc0
  rw [Nat.mul_comm (q ^ v)] at e
  omega
/-- full, by the primes of p - 1 -/
theorem ord_of_primes (hp : Prime p) (h1 : is1 p a n) (hn : 0 < n) (h : ∀ q, Prime q → q ∣ n → ¬ is1 p a (n / q)) : Ord p a n := by
  have hu : un p a := fun z => by
    obtain ⟨k, rfl⟩ : ∃ k, n = k + 1 := ⟨n - 1, by omega⟩
    exact not_dvd_of_one hp h1 (by rw [Int.pow_succ]; exact Int.dvd_mul_of_dvd_right z)
  obtain ⟨m, o⟩ := exists_ord hp hu
  obtain ⟨c, hc⟩ := o.dvd hp h1
  by_cases e : c = 1
  · rw [e, Nat.mul_one] at hc
    rw [hc]; exact o
  · exfalso
    have hc0 : c ≠ 0 := fun z => by rw [z, Nat.mul_zero] at hc; omega
    obtain ⟨q, hq, d, hd⟩ := exists_prime c (by omega)
    refine h q hq ⟨m * d, by rw [hc, hd]; grind⟩ (one_of_dvd o.one ⟨d, ?_⟩)
    rw [hc, hd, show m * (q * d) = q * (m * d) by grind]
    exact Nat.mul_div_cancel_left _ hq.pos
end
end M

/-! full numbers, by the primes of p - 1 -/
namespace M
theorem pw_one_iff {p : Nat} (hp : 2 ≤ p) {a : Int} {e : Nat} : pw p a e = 1 ↔ is1 p a e := by
  unfold pw is1
  have h1 : (1 : Int) % (p : Int) = 1 := Int.emod_eq_of_lt (by decide) (by omega)
  constructor
  · intro h
    have h2 : a ^ e % (p : Int) = 1 % p := by rw [h, h1]
    exact Int.dvd_of_emod_eq_zero (Int.emod_eq_emod_iff_emod_sub_eq_zero.mp h2)
  · intro h
    rw [← h1]
    exact Int.emod_eq_emod_iff_emod_sub_eq_zero.mpr (Int.emod_eq_zero_of_dvd h)
theorem un_small {p : Nat} {a : Int} (h0 : 0 < a) (h1 : a < p) : un p a := fun z => by have := Int.le_of_dvd h0 z; omega
theorem un_iff {p : Nat} {a : Int} : un p a ↔ a % (p : Int) ≠ 0 := ⟨fun h z => h (Int.dvd_of_emod_eq_zero z), fun h z => h (Int.emod_eq_zero_of_dvd z)⟩
theorem full_iff {p : Nat} (hp : Prime p) {a : Int} (ha : un p a) {l : List (Nat × Nat)} (hl : IsFac (p - 1) l) : Ord p a (p - 1) ↔ ∀ x ∈ l, pw p a ((p - 1) / x.1) ≠ 1 := by
  have hp2 := hp.1
  constructor
  · intro o x hx z
    have h1 := (pw_one_iff hp2).mp z
    have hq := (hl.primes x hx).1
    have hd := fac_dvd hl hx
    have hq2 := hq.1
    have h2 := o.least _ (Nat.div_pos (Nat.le_of_dvd (by omega) hd) hq.pos) h1
    have h3 : (p - 1) / x.1 < p - 1 := Nat.div_lt_self (by omega) (by omega)
    omega
  · intro h
    refine ord_of_primes hp (fermat hp ha) (by omega) fun q hq hd z => ?_
    obtain ⟨k, hk⟩ := fac_prime_in hl hq hd
    exact h _ hk ((pw_one_iff hp2).mpr z)
theorem is1_congr {p : Nat} {a b : Int} (h : (p : Int) ∣ a - b) (e : Nat) : is1 p a e ↔ is1 p b e := by
  have key : ∀ {a b : Int}, (p : Int) ∣ a - b → is1 p a e → is1 p b e := fun {a b} h h1 => by
    unfold is1 at *
    have h2 : a ^ e % (p : Int) = b ^ e % p := by
      have h3 : a % (p : Int) = b % p := Int.emod_eq_emod_iff_emod_sub_eq_zero.mpr (Int.emod_eq_zero_of_dvd h)
      rw [← pow_emod, h3, pow_emod]
    have h4 := Int.dvd_of_emod_eq_zero (Int.emod_eq_emod_iff_emod_sub_eq_zero.mp h2.symm)
    have h5 := Int.dvd_add h4 h1
    rw [show b ^ e - a ^ e + (a ^ e - 1) = b ^ e - 1 by omega] at h5
    exact h5
  refine ⟨key h, key ?_⟩
  rw [show b - a = -(a - b) by omega]
  exact Int.dvd_neg.mpr h
theorem Ord.congr {p : Nat} {a b : Int} {m : Nat} (h : (p : Int) ∣ a - b) (o : Ord p a m) : Ord p b m := ⟨o.pos, (is1_congr h _).mp o.one, fun f hf z => o.least f hf ((is1_congr h _).mpr z)⟩
theorem full_small {p : Nat} (hp : Prime p) : ∃ f : Nat, 0 < f ∧ f < p ∧ Ord p (f : Int) (p - 1) := by
  obtain ⟨a, o⟩ := full_exists hp
  have hp0 := hp.pos
  have h1 := Int.emod_nonneg a (show (p : Int) ≠ 0 by omega)
  have h2 := Int.emod_lt_of_pos a (show (0 : Int) < p by omega)
  have h3 := un_iff.mp (o.unit hp)
  refine ⟨(a % (p : Int)).toNat, by omega, by omega, ?_⟩
  rw [Int.toNat_of_nonneg h1]
  refine o.congr ?_
  have := Int.emod_add_mul_ediv a p
  exact ⟨a / p, by omega⟩
/-- the least one -/
structure LeastFull (p f : Nat) : Prop where
  f0 : 0 < f
  f1 : f < p
  full : Ord p (f : Int) (p - 1)
  least : ∀ g : Nat, 0 < g → g < f → ¬Ord p (g : Int) (p - 1)
theorem paper_prime {p q n : Nat} (hp : Prime p) (hq : Prime q) (hd : q ∣ p - 1) (hn : p ≤ 2 ^ (n + 1)) : q ≤ 2 ^ n := by
  obtain ⟨c, hc⟩ := hd
  have hp2 := hp.1
  have hq2 := hq.1
  rw [Nat.pow_succ] at hn
  by_cases h : 2 ≤ c
  · have : q * 2 ≤ q * c := Nat.mul_le_mul_left q h
    omega
  · have : c = 0 ∨ c = 1 := by omega
    rcases this with rfl | rfl
    · omega
    · rw [Nat.mul_one] at hc
      -- p and p - 1 are primes
      by_cases he : p % 2 = 0
      · rcases hp.2 2 (Nat.dvd_of_mod_eq_zero he) with z | z <;> omega
      · have : 2 ∣ q := Nat.dvd_of_mod_eq_zero (by omega)
        rcases hq.2 2 this with z | z
        · omega
        · omega
end M

/-! half of p - 1: what shows that there is no square root -/
namespace M
theorem half_even {p : Nat} (hp : Prime p) (h2 : p ≠ 2) : p - 1 = 2 * ((p - 1) / 2) ∧ 0 < (p - 1) / 2 := by
  have := hp.1
  have : p % 2 = 1 := by
    rcases Nat.mod_two_eq_zero_or_one p with z | z
    · rcases hp.2 2 (Nat.dvd_of_mod_eq_zero z) with e | e
      · omega
      · exact absurd e.symm h2
    · exact z
  omega
theorem pw_of_dvd {p : Nat} {a : Int} {e : Nat} {r : Int} (h0 : 0 ≤ r) (h1 : r < p) (h : (p : Int) ∣ a ^ e - r) : pw p a e = r := by
  unfold pw
  rw [Int.emod_eq_emod_iff_emod_sub_eq_zero.mpr (Int.emod_eq_zero_of_dvd h), Int.emod_eq_of_lt h0 h1]
theorem pw_nought {p : Nat} {a : Int} {e : Nat} (h : (p : Int) ∣ a) (he : 0 < e) : pw p a e = 0 := by
  obtain ⟨k, rfl⟩ : ∃ k, e = k + 1 := ⟨e - 1, by omega⟩
  unfold pw
  rw [Int.pow_succ]
  exact Int.emod_eq_zero_of_dvd (Int.dvd_trans h ⟨a ^ k, Int.mul_comm _ _⟩)
theorem half_full {p : Nat} (hp : Prime p) (h2 : p ≠ 2) {f : Int} (o : Ord p f (p - 1)) : pw p f ((p - 1) / 2) = (p : Int) - 1 := by
  obtain ⟨he, h0⟩ := half_even hp h2
  have hp2 := hp.1
  have h1 := o.one
  unfold is1 at h1
  have e : f ^ (p - 1) - 1 = (f ^ ((p - 1) / 2) - 1) * (f ^ ((p - 1) / 2) + 1) := by
    conv => lhs; rw [he, Nat.mul_comm, Int.pow_mul]
    grind
  rw [e] at h1
  rcases dvd_mul_int hp h1 with z | z
  · have := o.least _ h0 z
    omega
  · refine pw_of_dvd (by omega) (by omega) ?_
    have h3 := Int.dvd_sub z (Int.dvd_refl (p : Int))
    rw [show f ^ ((p - 1) / 2) + 1 - (p : Int) = f ^ ((p - 1) / 2) - ((p : Int) - 1) by omega] at h3
    exact h3
theorem half_square {p : Nat} (hp : Prime p) (h2 : p ≠ 2) {x : Int} (hx : un p x) : pw p (x * x) ((p - 1) / 2) = 1 := by
  obtain ⟨he, h0⟩ := half_even hp h2
  have h1 := fermat hp hx
  refine (pw_one_iff hp.1).mpr ?_
  unfold is1 at *
  rw [he, Int.pow_mul] at h1
  rw [show x * x = x ^ 2 by rw [Int.pow_succ, Int.pow_succ, Int.pow_zero, Int.one_mul]]
  exact h1
theorem half_times {p : Nat} (hp : Prime p) (h2 : p ≠ 2) {x f : Int} (hx : un p x) (o : Ord p f (p - 1)) : pw p (x * x * f) ((p - 1) / 2) = (p : Int) - 1 := by
  have hp2 := hp.1
  rw [pw_prod, half_square hp h2 hx, half_full hp h2 o, Int.one_mul]
  exact Int.emod_eq_of_lt (by omega) (by omega)
theorem half_not {p : Nat} (hp : Prime p) (h2 : p ≠ 2) (x : Int) : pw p (x * x - p) ((p - 1) / 2) ≠ (p : Int) - 1 := by
  have hp2 := hp.1
  rw [pw_congr (b := x * x) (by rw [Int.sub_emod_right])]
  by_cases hx : un p x
  · rw [half_square hp h2 hx]; omega
  · have hd : (p : Int) ∣ x := Classical.byContradiction hx
    rw [pw_nought (Int.dvd_trans hd ⟨x, rfl⟩) (half_even hp h2).2]; omega
end M

/-! orders by any number; what is taken out of a number whose power is 1 -/
namespace M
section
variable {n : Nat} {a b : Int} {e f m q o : Nat}
theorem one_subN (h : is1 n a (e + f)) (h' : is1 n a e) : is1 n a f := by
  unfold is1 at *
  have : a ^ (e + f) - 1 = a ^ f * (a ^ e - 1) + (a ^ f - 1) := by rw [Int.pow_add]; grind
  rw [this] at h
  have h3 := Int.dvd_sub h (Int.dvd_trans h' ⟨a ^ f, Int.mul_comm _ _⟩)
  rw [show a ^ f * (a ^ e - 1) + (a ^ f - 1) - a ^ f * (a ^ e - 1) = a ^ f - 1 by omega] at h3
  exact h3
theorem Ord.dvdN (o : Ord n a m) (h : is1 n a f) : m ∣ f := by
  have h1 : is1 n a (m * (f / m)) := one_mul_ o.one _
  have h2 : is1 n a (f % m) := one_subN (e := m * (f / m)) (by rw [Nat.div_add_mod]; exact h) h1
  rcases Nat.eq_zero_or_pos (f % m) with z | z
  · exact Nat.dvd_of_mod_eq_zero z
  · have := o.least _ z h2
    have := Nat.mod_lt f o.pos
    omega
theorem Ord.iffN (o : Ord n a m) : is1 n a f ↔ m ∣ f := ⟨o.dvdN, one_of_dvd o.one⟩
theorem Ord.uniqueN (o : Ord n a m) (o' : Ord n a f) : m = f := Nat.dvd_antisymm (o.dvdN o'.one) (o'.dvdN o.one)
theorem ex_ordN (h : is1 n a e) (he : 0 < e) : ∃ m, Ord n a m := by
  obtain ⟨m, h1, h2⟩ := exists_min (P := fun e => 0 < e ∧ is1 n a e) e ⟨he, h⟩
  exact ⟨m, h1.1, h1.2, fun f hf h => h2 f ⟨hf, h⟩⟩
end
/-- how often q stands in n -/
def vq (q n : Nat) : Nat := if _h : 2 ≤ q ∧ 0 < n ∧ n % q = 0 then vq q (n / q) + 1 else 0
termination_by n
decreasing_by exact Nat.div_lt_self _h.2.1 (by omega)
theorem vq_no {q n : Nat} (h : ¬ (2 ≤ q ∧ 0 < n ∧ n % q = 0)) : vq q n = 0 := by rw [vq, dif_neg h]
theorem vq_more {q m : Nat} (hq : 2 ≤ q) (hm : 0 < m) : vq q (q * m) = vq q m + 1 := by
  rw [vq, dif_pos ⟨hq, Nat.mul_pos (by omega) hm, Nat.mul_mod_right q m⟩, Nat.mul_div_cancel_left _ (by omega)]
theorem vq_eq {q m : Nat} (hq : 2 ≤ q) (hm : ¬ q ∣ m) (h0 : 0 < m) : ∀ k, vq q (q ^ k * m) = k
  | 0 => by rw [Nat.pow_zero, Nat.one_mul]; exact vq_no fun h => hm (Nat.dvd_of_mod_eq_zero h.2.2)
  | k + 1 => by
    rw [Nat.pow_succ, Nat.mul_comm (q ^ k) q, Nat.mul_assoc, vq_more hq (Nat.mul_pos (Nat.pow_pos (by omega)) h0), vq_eq hq hm h0 k]
theorem vq_split {q n : Nat} (hq : Prime q) (hn : 0 < n) : ∃ m, n = q ^ vq q n * m ∧ ¬ q ∣ m ∧ 0 < m := by
  obtain ⟨k, m, e, h1, h2⟩ := split_prime hq n hn
  have := vq_eq hq.1 h1 h2 k
  rw [← e] at this
  exact ⟨m, by rw [this]; exact e, h1, h2⟩
theorem vq_pos_iff {q n : Nat} (hq : 2 ≤ q) (hn : 0 < n) : 0 < vq q n ↔ n % q = 0 := by
  constructor
  · intro h
    rcases Nat.eq_zero_or_pos (n % q) with z | z
    · exact z
    · rw [vq_no (by omega)] at h; omega
  · intro h
    rw [vq, dif_pos ⟨hq, hn, h⟩]; omega
theorem pow_split {q v k m c : Nat} (hq : Prime q) (hm : ¬ q ∣ m) (hc : ¬ q ∣ c) : q ^ v * c ∣ q ^ k * m ↔ v ≤ k ∧ c ∣ m := by
  constructor
  · intro h
    constructor
    · have h1 : q ^ v ∣ q ^ k * m := Nat.dvd_trans (Nat.dvd_mul_right _ _) h
      have h2 : q ^ v ∣ q ^ k := Nat.Coprime.dvd_of_dvd_mul_right (coprime_pow hq hm v) h1
      exact (Nat.pow_dvd_pow_iff_le_right (by have := hq.1; omega)).mp h2
    · have h1 : c ∣ q ^ k * m := Nat.dvd_trans (Nat.dvd_mul_left _ _) h
      exact Nat.Coprime.dvd_of_dvd_mul_left (Nat.Coprime.symm (coprime_pow hq hc k)) h1
  · rintro ⟨h1, h2⟩
    exact Nat.mul_dvd_mul (Nat.pow_dvd_pow q h1) h2
theorem prodL_pos : ∀ {l : List (Nat × Nat)}, (∀ x ∈ l, Prime x.1) → 0 < prodL l
  | [], _ => by decide
  | x :: l, h => Nat.mul_pos (Nat.pow_pos (h x (by simp)).pos) (prodL_pos fun y hy => h y (by simp [hy]))
theorem prime_in' {l : List (Nat × Nat)} {q : Nat} (hq : Prime q) (hl : ∀ x ∈ l, Prime x.1) (h : q ∣ prodL l) : ∃ k, (q, k) ∈ l := by
  induction l with
  | nil =>
    simp only [prodL] at h
    have := Nat.le_of_dvd (by decide) h
    have := hq.1; omega
  | cons x l ih =>
    simp only [prodL] at h
    rcases hq.dvd_mul h with z | z
    · have := hq.eq_of_dvd (hl x (by simp)) (hq.dvd_pow z)
      exact ⟨x.2, by rw [this]; simp⟩
    · obtain ⟨k, hk⟩ := ih (fun y hy => hl y (by simp [hy])) z
      exact ⟨k, by simp [hk]⟩
/-- the parting with the manys of o -/
def vL (o : Nat) (l : List (Nat × Nat)) : List (Nat × Nat) := l.map fun x => (x.1, vq x.1 o)
theorem vL_prime {o : Nat} {l : List (Nat × Nat)} (h : ∀ x ∈ l, Prime x.1) : ∀ x ∈ vL o l, Prime x.1 := fun x hx => by
  obtain ⟨y, hy, rfl⟩ := List.mem_map.mp hx
  exact h y hy
theorem vL_dvd {o : Nat} (ho : 0 < o) : ∀ {l : List (Nat × Nat)}, l.Pairwise (fun x y => x.1 < y.1) → (∀ x ∈ l, Prime x.1) → prodL (vL o l) ∣ o
  | [], _, _ => by simp [vL, prodL]
  | x :: l, hs, hp => by
    have hs' := List.pairwise_cons.mp hs
    have hx := hp x (by simp)
    have ih := vL_dvd ho hs'.2 fun y hy => hp y (by simp [hy])
    obtain ⟨m, em, hm, _⟩ := vq_split hx ho
    have hn : ¬ x.1 ∣ prodL (vL o l) := fun z => by
      obtain ⟨k, hk⟩ := prime_in' hx (vL_prime fun y hy => hp y (by simp [hy])) z
      obtain ⟨y, hy, e⟩ := List.mem_map.mp hk
      have h1 := hs'.1 y hy
      have h2 : y.1 = x.1 := (Prod.mk.inj e).1
      omega
    show x.1 ^ vq x.1 o * prodL (vL o l) ∣ o
    exact Nat.Coprime.mul_dvd_of_dvd_of_dvd (coprime_pow hx hn _) ⟨m, em⟩ ih
/-- what is left of e at turn i, o the order -/
structure OF (o E : Nat) (l : List (Nat × Nat)) (i e : Nat) : Prop where
  val : e = prodL (vL o (l.take i)) * prodL (l.drop i)
  dvd : o ∣ e
theorem of_start {o E : Nat} {l : List (Nat × Nat)} (hl : IsFac E l) (h : o ∣ E) : OF o E l 0 E := ⟨by
  rw [List.take_zero, List.drop_zero, hl.prod]; simp [vL, prodL], h⟩
theorem of_step {o E : Nat} {l : List (Nat × Nat)} {i e q b : Nat} (hl : IsFac E l) (o0 : 0 < o) (h : OF o E l i e) (hx : l[i]? = some (q, b)) :
    ∃ m, e = q ^ b * m ∧ ¬ q ∣ m ∧ 0 < m ∧ vq q o ≤ b ∧ (∀ k, o ∣ q ^ k * m ↔ vq q o ≤ k) ∧ OF o E l (i + 1) (q ^ vq q o * m) := by
  have hil : i < l.length := (List.getElem?_eq_some_iff.mp hx).1
  have hxe : l[i] = (q, b) := (List.getElem?_eq_some_iff.mp hx).2
  have hd : l.drop i = (q, b) :: l.drop (i + 1) := by rw [List.drop_eq_getElem_cons hil, hxe]
  have ht : l.take (i + 1) = l.take i ++ [(q, b)] := by rw [List.take_succ, hx]; rfl
  have hsp : l = l.take i ++ (q, b) :: l.drop (i + 1) := by rw [← hd, List.take_append_drop]
  have hso := hl.sorted
  rw [hsp] at hso
  have hso' := List.pairwise_append.mp hso
  have hpr : ∀ x ∈ l, Prime x.1 := fun x hx => (hl.primes x hx).1
  have hq : Prime q := hpr (q, b) (List.mem_of_getElem? hx)
  have p1 : ∀ x ∈ l.take i, Prime x.1 := fun x hx => hpr x (List.mem_of_mem_take hx)
  have p2 : ∀ x ∈ l.drop (i + 1), Prime x.1 := fun x hx => hpr x (List.mem_of_mem_drop hx)
  have n1 : ¬ q ∣ prodL (vL o (l.take i)) := fun z => by
    obtain ⟨k, hk⟩ := prime_in' hq (vL_prime p1) z
    obtain ⟨y, hy, e⟩ := List.mem_map.mp hk
    have h1 := hso'.2.2 y hy (q, b) (by simp)
    have h2 : y.1 = q := (Prod.mk.inj e).1
    have h3 : y.1 < q := h1
    omega
  have n2 : ¬ q ∣ prodL (l.drop (i + 1)) := fun z => by
    obtain ⟨k, hk⟩ := prime_in' hq p2 z
    have h1 := (List.pairwise_cons.mp hso'.2.1).1 _ hk
    have h3 : q < q := h1
    omega
  refine ⟨prodL (vL o (l.take i)) * prodL (l.drop (i + 1)), ?_, fun z => ?_, Nat.mul_pos (prodL_pos (vL_prime p1)) (prodL_pos p2), ?_⟩
  · rw [h.val, hd]; simp only [prodL]; grind
  · rcases hq.dvd_mul z with z | z
    · exact n1 z
    · exact n2 z
  generalize hm : prodL (vL o (l.take i)) * prodL (l.drop (i + 1)) = m
  have em : e = q ^ b * m := by rw [← hm, h.val, hd]; simp only [prodL]; grind
  have hqm : ¬ q ∣ m := fun z => by
    rw [← hm] at z
    rcases hq.dvd_mul z with z | z
    · exact n1 z
    · exact n2 z
  obtain ⟨c, ec, hc, _⟩ := vq_split hq o0
  have hdv := h.dvd
  rw [em] at hdv
  have hb := (pow_split hq hqm hc).mp (by rw [← ec]; exact hdv)
  refine ⟨hb.1, fun k => ?_, ⟨?_, ?_⟩⟩
  · conv => lhs; rw [ec]
    rw [pow_split hq hqm hc]
    exact ⟨fun z => z.1, fun z => ⟨z, hb.2⟩⟩
  · rw [ht, ← hm]
    show _ = prodL (vL o (l.take i ++ [(q, b)])) * _
    unfold vL
    rw [List.map_append, prodL_app]
    simp only [List.map_cons, List.map_nil, prodL]
    grind
  · conv => lhs; rw [ec]
    exact (pow_split hq hqm hc).mpr ⟨Nat.le_refl _, hb.2⟩
theorem of_end {o E : Nat} {l : List (Nat × Nat)} {e : Nat} (hl : IsFac E l) (o0 : 0 < o) (h : OF o E l l.length e) : e = o := by
  have h1 := h.val
  rw [List.take_length, List.drop_length] at h1
  simp only [prodL, Nat.mul_one] at h1
  exact Nat.dvd_antisymm (by rw [h1]; exact vL_dvd o0 hl.sorted fun x hx => (hl.primes x hx).1) h.dvd
theorem of_le {o E : Nat} {l : List (Nat × Nat)} {i e : Nat} (hl : IsFac E l) (hE : 0 < E) (hoE : o ∣ E) (o0 : 0 < o) (h : OF o E l i e) : e ∣ E := by
  rw [h.val, ← hl.prod]
  conv => rhs; rw [← List.take_append_drop i l, prodL_app]
  refine Nat.mul_dvd_mul ?_ (Nat.dvd_refl _)
  have key : ∀ l : List (Nat × Nat), (∀ x ∈ l, vq x.1 o ≤ x.2) → prodL (vL o l) ∣ prodL l := fun l => by
    induction l with
    | nil => intro _; simp [vL, prodL]
    | cons x l ih => intro hx; exact Nat.mul_dvd_mul (Nat.pow_dvd_pow _ (hx x (by simp))) (ih fun y hy => hx y (by simp [hy]))
  refine key _ fun x hx => ?_
  have hx' := List.mem_of_mem_take hx
  obtain ⟨j, hj⟩ := List.getElem?_of_mem hx'
  -- x's many is that of E
  have hq := (hl.primes x hx').1
  have h2 : ∃ m, E = x.1 ^ x.2 * m ∧ ¬ x.1 ∣ m ∧ 0 < m := by
    have hil : j < l.length := (List.getElem?_eq_some_iff.mp hj).1
    have hxe : l[j] = x := (List.getElem?_eq_some_iff.mp hj).2
    have hd : l.drop j = x :: l.drop (j + 1) := by rw [List.drop_eq_getElem_cons hil, hxe]
    have hsp : l = l.take j ++ x :: l.drop (j + 1) := by rw [← hd, List.take_append_drop]
    have hso := hl.sorted
    rw [hsp] at hso
    have hso' := List.pairwise_append.mp hso
    have p1 : ∀ y ∈ l.take j, Prime y.1 := fun y hy => (hl.primes y (List.mem_of_mem_take hy)).1
    have p2 : ∀ y ∈ l.drop (j + 1), Prime y.1 := fun y hy => (hl.primes y (List.mem_of_mem_drop hy)).1
    refine ⟨prodL (l.take j) * prodL (l.drop (j + 1)), ?_, fun z => ?_, Nat.mul_pos (prodL_pos p1) (prodL_pos p2)⟩
    · rw [← hl.prod]
      conv => lhs; rw [hsp]
      rw [prodL_app]; simp only [prodL]; grind
    · rcases hq.dvd_mul z with z | z
      · obtain ⟨k, hk⟩ := prime_in' hq p1 z
        have h1 := hso'.2.2 _ hk x (by simp)
        have h2 : x.1 < x.1 := h1
        omega
      · obtain ⟨k, hk⟩ := prime_in' hq p2 z
        have h1 := (List.pairwise_cons.mp hso'.2.1).1 _ hk
        have h2 : x.1 < x.1 := h1
        omega
  obtain ⟨m, e1, e2, e3⟩ := h2
  obtain ⟨c, ec, hc, _⟩ := vq_split hq o0
  exact ((pow_split hq e2 hc).mp (by rw [← ec, ← e1]; exact hoE)).1
end M

/-! orders of powers, of inverses -/
namespace M
theorem dvd_mul_div {e k f : Nat} (he : 0 < e) : e ∣ k * f ↔ e / Nat.gcd k e ∣ f := by
  have g0 : 0 < Nat.gcd k e := Nat.gcd_pos_of_pos_right k he
  obtain ⟨c, hc⟩ := Nat.gcd_dvd_right k e
  obtain ⟨d, hd⟩ := Nat.gcd_dvd_left k e
  have cop : Nat.gcd d c = 1 := by
    have := Nat.gcd_div (Nat.gcd_dvd_left k e) (Nat.gcd_dvd_right k e)
    rw [Nat.div_self g0] at this
    rw [← this]
    congr 1
    · conv => rhs; rw [hd, Nat.gcd_comm]
      rw [Nat.gcd_comm] at g0
      generalize hg : Nat.gcd e k = g at *
      rw [Nat.gcd_comm] at hd hc
      rw [hg] at hd hc
      have : k / g = d := by rw [hd]; exact Nat.mul_div_cancel_left _ g0
      rw [Nat.gcd_comm, ← hd, hg, this]
    · generalize hg : Nat.gcd k e = g at *
      rw [hc]; exact (Nat.mul_div_cancel_left _ g0).symm
  generalize hg : Nat.gcd k e = g at *
  rw [hc, Nat.mul_div_cancel_left _ g0, hd, Nat.mul_assoc, Nat.mul_dvd_mul_iff_left g0]
  exact ⟨fun h => Nat.Coprime.dvd_of_dvd_mul_left (Nat.Coprime.symm cop) h, fun h => Nat.dvd_trans h (Nat.dvd_mul_left _ _)⟩
theorem Ord.pow_ {p e : Nat} {a : Int} (o : Ord p a e) (k : Nat) : Ord p (a ^ k) (e / Nat.gcd k e) := by
  have g0 : 0 < Nat.gcd k e := Nat.gcd_pos_of_pos_right k o.pos
  refine Ord.of_iff (Nat.div_pos (Nat.le_of_dvd o.pos (Nat.gcd_dvd_right k e)) g0) fun f => ?_
  rw [one_pow_iff, o.iffN]
  exact dvd_mul_div o.pos
theorem pw_alike (p : Nat) (a : Int) (k : Nat) : (p : Int) ∣ a ^ k - pw p a k := by
  unfold pw
  exact Int.dvd_of_emod_eq_zero (Int.emod_eq_emod_iff_emod_sub_eq_zero.mp (by rw [Int.emod_emod]))
theorem Ord.pw {p e : Nat} {a : Int} (o : Ord p a e) (k : Nat) : Ord p (pw p a k) (e / Nat.gcd k e) := (o.pow_ k).congr (pw_alike p a k)
theorem Ord.mod {p e : Nat} {a : Int} (o : Ord p a e) : Ord p (a % p) e := o.congr (Int.dvd_of_emod_eq_zero (Int.emod_eq_emod_iff_emod_sub_eq_zero.mp (by rw [Int.emod_emod])))
theorem is1_one (p e : Nat) : is1 p 1 e := by unfold is1; rw [Int.one_pow]; simp
theorem Ord.inv {p e : Nat} {a b : Int} (h : (b * a - 1) % (p : Int) = 0) (o : Ord p a e) : Ord p b e := by
  have h1 : ∀ f, is1 p (b * a) f := fun f => (is1_congr (Int.dvd_of_emod_eq_zero h) f).mpr (is1_one p f)
  refine Ord.of_iff o.pos fun f => ?_
  rw [← o.iffN]
  constructor
  · intro z
    exact one_left (b := b) (by rw [Int.mul_comm]; exact h1 f) z
  · intro z
    exact one_left (b := a) (h1 f) z
theorem ord_one {p : Nat} : Ord p 1 1 := ⟨by decide, is1_one p 1, fun f hf _ => hf⟩
theorem un_gcd {p : Nat} {a : Int} (hp : Prime p) (h : un p a) : Int.gcd a p = 1 := by
  have h1 : Nat.gcd p a.natAbs = 1 := hp.coprime fun z => h (Int.natAbs_dvd_natAbs.mp (by rw [Int.natAbs_natCast]; exact z))
  rw [Int.gcd_comm]
  exact h1
theorem un_succ {p : Nat} {a : Int} (hp : Prime p) (h : a % (p : Int) = 0) : un p (a + 1) := fun z => by
  have h1 := Int.dvd_sub z (Int.dvd_of_emod_eq_zero h)
  rw [show a + 1 - a = 1 by omega] at h1
  have := Int.le_of_dvd (by decide) h1
  have := hp.1
  omega
end M

/-! orders of products -/
namespace M
theorem ord_mul_up {p e f h : Nat} {a b : Int} (oa : Ord p a e) (ob : Ord p b f) (oh : Ord p (a * b) h) : h ∣ e * f / Nat.gcd e f := by
  have g0 : 0 < Nat.gcd e f := Nat.gcd_pos_of_pos_left f oa.pos
  refine oh.dvdN (one_both (one_of_dvd oa.one ?_) (one_of_dvd ob.one ?_))
  · rw [Nat.mul_div_assoc _ (Nat.gcd_dvd_right e f)]; exact Nat.dvd_mul_right _ _
  · rw [Nat.mul_comm, Nat.mul_div_assoc _ (Nat.gcd_dvd_left e f)]; exact Nat.dvd_mul_right _ _
theorem ord_mul_low {p e f h : Nat} {a b : Int} (oa : Ord p a e) (ob : Ord p b f) (oh : Ord p (a * b) h) : e / Nat.gcd e f * (f / Nat.gcd e f) ∣ h := by
  have g0 : 0 < Nat.gcd e f := Nat.gcd_pos_of_pos_left f oa.pos
  have h1 : is1 p a (h * f) := one_left (b := b) (one_mul_ oh.one f) (one_of_dvd ob.one (Nat.dvd_mul_left f h))
  have h2 : is1 p b (h * e) := one_left (b := a) (by rw [Int.mul_comm]; exact one_mul_ oh.one e) (one_of_dvd oa.one (Nat.dvd_mul_left e h))
  have d1 : e / Nat.gcd e f ∣ h := by
    have := (dvd_mul_div (k := f) (f := h) oa.pos).mp (by rw [Nat.mul_comm]; exact oa.dvdN h1)
    rwa [Nat.gcd_comm] at this
  have d2 : f / Nat.gcd e f ∣ h := (dvd_mul_div (k := e) (f := h) ob.pos).mp (by rw [Nat.mul_comm]; exact ob.dvdN h2)
  have cop : Nat.gcd (e / Nat.gcd e f) (f / Nat.gcd e f) = 1 := by
    rw [Nat.gcd_div (Nat.gcd_dvd_left e f) (Nat.gcd_dvd_right e f), Nat.div_self g0]
  exact Nat.Coprime.mul_dvd_of_dvd_of_dvd cop d1 d2
theorem ord_mul_one {p e f h : Nat} {a b : Int} (oa : Ord p a e) (ob : Ord p b f) (oh : Ord p (a * b) h) (g : Nat.gcd e f = 1) : h = e * f := by
  have h1 := ord_mul_up oa ob oh
  have h2 := ord_mul_low oa ob oh
  rw [g] at h1 h2
  simp only [Nat.div_one] at h1 h2
  exact Nat.dvd_antisymm h1 h2
theorem ord_sq {p e : Nat} {a : Int} (oa : Ord p a e) : Ord p (a * a) (e / (2 - e % 2)) := by
  have h1 := oa.pow_ 2
  rw [show a ^ 2 = a * a by rw [Int.pow_succ, Int.pow_one]] at h1
  have g : Nat.gcd 2 e = 2 - e % 2 := by
    rw [Nat.gcd_rec]
    rcases Nat.mod_two_eq_zero_or_one e with z | z
    · rw [z]; simp
    · rw [z]; simp
  rwa [g] at h1
theorem un_mul {p : Nat} {a b : Int} (hp : Prime p) (ha : un p a) (hb : un p b) : un p (a * b) := fun z => by
  rcases dvd_mul_int hp z with w | w
  · exact ha w
  · exact hb w
theorem mod_alike (p : Nat) (a : Int) : (p : Int) ∣ a - a % p := Int.dvd_of_emod_eq_zero (Int.emod_eq_emod_iff_emod_sub_eq_zero.mp (by rw [Int.emod_emod]))
theorem ord_mods {p e : Nat} {a b : Int} (o : Ord p (a * b) e) : Ord p (a % p * (b % p)) e := o.congr (by
  obtain ⟨c, hc⟩ := mod_alike p a
  obtain ⟨d, hd⟩ := mod_alike p b
  exact ⟨c * b + a % p * d, by
    have : a * b - a % p * (b % p) = (a - a % p) * b + a % p * (b - b % p) := by grind
    rw [this, hc, hd]; grind⟩)
theorem un_pw {p : Nat} {f : Int} (hp : Prime p) (h : un p f) (k : Nat) : un p (pw p f k) := fun z => by
  have h1 := pw_alike p f k
  have h2 := Int.dvd_add h1 z
  rw [show f ^ k - pw p f k + pw p f k = f ^ k by omega] at h2
  exact unit_pow hp h k h2
end M

/-! the walk to a square root -/
namespace M
/-- m squarings bring t to 1, no fewer -/
structure IsM (p : Nat) (t : Int) (m : Nat) : Prop where
  one : is1 p t (2 ^ m)
  least : ∀ i, i < m → ¬ is1 p t (2 ^ i)
section
variable {p s m odd : Nat} {a f z t r w : Int}
theorem isM_ex {j : Nat} (h : is1 p t (2 ^ j)) : ∃ m, IsM p t m ∧ m ≤ j := by
  obtain ⟨m, h1, h2⟩ := exists_min (P := fun i => is1 p t (2 ^ i)) j h
  exact ⟨m, ⟨h1, fun i hi z => by have := h2 i z; omega⟩, h2 j h⟩
theorem IsM.unique {m' : Nat} (h : IsM p t m) (h' : IsM p t m') : m = m' := by
  rcases Nat.lt_trichotomy m m' with z | z | z
  · exact absurd h.one (h'.least m z)
  · exact z
  · exact absurd h'.one (h.least m' z)
theorem z_ord (hp : Prime p) (o : Ord p f (p - 1)) (h : p - 1 = odd * 2 ^ s) (h0 : 0 < odd) : Ord p (pw p f odd) (2 ^ s) := by
  have h1 := o.pw odd
  have g : Nat.gcd odd (p - 1) = odd := Nat.gcd_eq_left ⟨_, h⟩
  rw [g, h, Nat.mul_div_cancel_left _ h0] at h1
  exact h1
theorem is1_mod (e : Nat) : is1 p (t % p) e ↔ is1 p t e := by
  have h := mod_alike p t
  exact (is1_congr h e).symm
theorem is1_pw (k e : Nat) : is1 p (pw p a k) e ↔ is1 p a (k * e) := by
  rw [← one_pow_iff]
  exact (is1_congr (pw_alike p a k) e).symm
/-- -1, squared 1 -/
theorem minus_one (hp : Prime p) {x : Int} (h : (p : Int) ∣ x * x - 1) (n : ¬ (p : Int) ∣ x - 1) : (p : Int) ∣ x + 1 := by
  rw [show x * x - 1 = (x - 1) * (x + 1) by grind] at h
  exact (dvd_mul_int hp h).resolve_left n
theorem walk_step (hp : Prime p) (oz : Ord p z (2 ^ s)) (ht : IsM p t m) (m0 : 0 < m) (ms : m < s) :
    is1 p (t * pw p z (2 ^ (s - m - 1)) * pw p z (2 ^ (s - m - 1)) % p) (2 ^ (m - 1)) := by
  rw [is1_mod]
  obtain ⟨k, rfl⟩ : ∃ k, m = k + 1 := ⟨m - 1, by omega⟩
  rw [Nat.add_sub_cancel]
  generalize hw : pw p z (2 ^ (s - (k + 1) - 1)) = w
  -- u = t^(2^k), v = (w w)^(2^k)
  have hu1 : (p : Int) ∣ t ^ (2 ^ k) * t ^ (2 ^ k) - 1 := by
    have := ht.one
    unfold is1 at this
    rw [Nat.pow_succ, Int.pow_mul] at this
    rw [show t ^ (2 ^ k) * t ^ (2 ^ k) = (t ^ (2 ^ k)) ^ 2 by rw [Int.pow_succ, Int.pow_succ, Int.pow_zero, Int.one_mul]]
    exact this
  have hu := minus_one hp hu1 (ht.least k (by omega))
  have hw1 : ∀ e, is1 p w e ↔ is1 p z (2 ^ (s - (k + 1) - 1) * e) := fun e => by rw [← hw]; exact is1_pw _ _
  have e1 : 2 ^ (s - (k + 1) - 1) * 2 ^ (k + 2) = 2 ^ s := by rw [← Nat.pow_add]; congr 1; omega
  have e2 : 2 ^ (s - (k + 1) - 1) * 2 ^ (k + 1) = 2 ^ (s - 1) := by rw [← Nat.pow_add]; congr 1; omega
  have hvv : (w * w) ^ (2 ^ k) = w ^ (2 ^ (k + 1)) := by
    rw [show w * w = w ^ 2 by rw [Int.pow_succ, Int.pow_succ, Int.pow_zero, Int.one_mul], ← Int.pow_mul, Nat.pow_succ, Nat.mul_comm]
  have hv1 : (p : Int) ∣ (w * w) ^ (2 ^ k) * (w * w) ^ (2 ^ k) - 1 := by
    have : is1 p w (2 ^ (k + 2)) := (hw1 _).mpr (by rw [e1]; exact oz.one)
    unfold is1 at this
    rw [show 2 ^ (k + 2) = 2 ^ (k + 1) * 2 by rw [Nat.pow_succ], Int.pow_mul] at this
    rw [hvv, show w ^ (2 ^ (k + 1)) * w ^ (2 ^ (k + 1)) = (w ^ (2 ^ (k + 1))) ^ 2 by rw [Int.pow_succ, Int.pow_succ, Int.pow_zero, Int.one_mul]]
    exact this
  have hv2 : ¬ (p : Int) ∣ (w * w) ^ (2 ^ k) - 1 := fun y => by
    rw [hvv] at y
    have h1 : is1 p z (2 ^ (s - 1)) := by rw [← e2]; exact (hw1 _).mp y
    have h2 := oz.least _ (Nat.pow_pos (by decide)) h1
    have h3 : 2 ^ (s - 1) < 2 ^ s := Nat.pow_lt_pow_right (by decide) (by omega)
    omega
  have hv := minus_one hp hv1 hv2
  unfold is1
  have e3 : (t * w * w) ^ (2 ^ k) - 1 = (t ^ (2 ^ k) + 1) * ((w * w) ^ (2 ^ k) + 1) - (t ^ (2 ^ k) + 1) - ((w * w) ^ (2 ^ k) + 1) := by
    rw [Int.mul_assoc, Int.mul_pow]; grind
  rw [e3]
  exact Int.dvd_sub (Int.dvd_sub (Int.dvd_trans hu ⟨_, rfl⟩) hu) hv
theorem walk_start (hp : Prime p) (hu : un p a) (h : p - 1 = odd * 2 ^ s) (ho : odd % 2 = 1) (hh : p ≠ 2 → is1 p a ((p - 1) / 2)) : ∃ j, is1 p (pw p a odd) (2 ^ j) ∧ (0 < j → j < s) ∧ (j < s ∨ j = 0) := by
  have hp2 := hp.1
  by_cases e : p = 2
  · have hs : s = 0 := by
      rcases Nat.eq_zero_or_pos s with z | z
      · exact z
      · obtain ⟨k, rfl⟩ : ∃ k, s = k + 1 := ⟨s - 1, by omega⟩
        rw [e, Nat.pow_succ, ← Nat.mul_assoc] at h
        omega
    refine ⟨0, ?_, fun z => by omega, .inr rfl⟩
    rw [is1_pw, Nat.pow_zero, Nat.mul_one]
    have h1 := fermat hp hu
    rw [h, hs, Nat.pow_zero, Nat.mul_one] at h1
    exact h1
  · obtain ⟨he, h0⟩ := half_even hp e
    have hs : 0 < s := by
      rcases Nat.eq_zero_or_pos s with z | z
      · subst z
        rw [Nat.pow_zero, Nat.mul_one] at h
        omega
      · exact z
    obtain ⟨k, rfl⟩ : ∃ k, s = k + 1 := ⟨s - 1, by omega⟩
    refine ⟨k, ?_, fun _ => by omega, .inl (by omega)⟩
    rw [is1_pw]
    have h2 : (p - 1) / 2 = odd * 2 ^ k := by
      rw [h, Nat.pow_succ, ← Nat.mul_assoc]
      exact Nat.mul_div_cancel _ (by decide)
    rw [← h2]
    exact hh e
/-- the rows of the walk from r and t on -/
inductive Rows (p : Nat) (a z : Int) (s : Nat) : Int → Int → List (Int × Int × Nat) → Prop
  | last {r t : Int} : IsM p t 0 → (p : Int) ∣ r * r - a * t → Rows p a z s r t [(r, t, 0)]
  | more {r t : Int} {m : Nat} {l : List (Int × Int × Nat)} : IsM p t m → 0 < m → m < s → (p : Int) ∣ r * r - a * t →
      Rows p a z s (r * pw p z (2 ^ (s - m - 1)) % p) (t * pw p z (2 ^ (s - m - 1)) * pw p z (2 ^ (s - m - 1)) % p) l → Rows p a z s r t ((r, t, m) :: l)
theorem rt_start (h : p - 1 = odd * 2 ^ s) (ho : odd % 2 = 1) : (p : Int) ∣ pw p a ((odd + 1) / 2) * pw p a ((odd + 1) / 2) - a * pw p a odd := by
  have h1 := pw_alike p a ((odd + 1) / 2)
  have h2 := pw_alike p a odd
  generalize pw p a ((odd + 1) / 2) = r at h1 ⊢
  generalize pw p a odd = t at h2 ⊢
  have e : a ^ ((odd + 1) / 2) * a ^ ((odd + 1) / 2) = a * a ^ odd := by
    rw [← Int.pow_add, show (odd + 1) / 2 + (odd + 1) / 2 = odd + 1 by omega, Int.pow_succ, Int.mul_comm]
  generalize a ^ ((odd + 1) / 2) = x at h1 e
  generalize a ^ odd = y at h2 e
  have e2 : r * r - a * t = a * (y - t) - (x - r) * (x + r) := by grind
  rw [e2]
  exact Int.dvd_sub (Int.dvd_trans h2 ⟨a, Int.mul_comm _ _⟩) (Int.dvd_trans h1 ⟨_, rfl⟩)
theorem rt_step (h : (p : Int) ∣ r * r - a * t) : (p : Int) ∣ r * w % p * (r * w % p) - a * (t * w * w % p) := by
  have h1 := mod_alike p (r * w)
  have h2 := mod_alike p (t * w * w)
  generalize r * w % (p : Int) = x at h1 ⊢
  generalize t * w * w % (p : Int) = y at h2 ⊢
  have e2 : x * x - a * y = (r * r - a * t) * (w * w) + a * (t * w * w - y) - (r * w - x) * (r * w + x) := by grind
  rw [e2]
  exact Int.dvd_sub (Int.dvd_add (Int.dvd_trans h ⟨_, rfl⟩) (Int.dvd_trans h2 ⟨a, Int.mul_comm _ _⟩)) (Int.dvd_trans h1 ⟨_, rfl⟩)
theorem Rows.root {l : List (Int × Int × Nat)} (h : Rows p a z s r t l) : ∃ r' t', l.getLast? = some (r', t', 0) ∧ (p : Int) ∣ r' * r' - a := by
  induction h with
  | @last r t h1 h2 =>
    refine ⟨r, t, rfl, ?_⟩
    have h3 := h1.one
    unfold is1 at h3
    rw [Nat.pow_zero, Int.pow_succ, Int.pow_zero, Int.one_mul] at h3
    have e : r * r - a = (r * r - a * t) + a * (t - 1) := by grind
    rw [e]
    exact Int.dvd_add h2 (Int.dvd_trans h3 ⟨a, Int.mul_comm _ _⟩)
  | @more r t m l h1 h2 h3 h4 h5 ih =>
    obtain ⟨r', t', h6, h7⟩ := ih
    refine ⟨r', t', ?_, h7⟩
    rw [List.getLast?_cons, h6]; rfl
end
/-- the square roots of a by p, rising -/
structure IsRoots (p : Nat) (a : Int) (xs : List Int) : Prop where
  sorted : xs.Pairwise (· < ·)
  iff : ∀ y, y ∈ xs ↔ 0 ≤ y ∧ y < p ∧ (p : Int) ∣ y * y - a
theorem sorted_ext : ∀ {xs ys : List Int}, xs.Pairwise (· < ·) → ys.Pairwise (· < ·) → (∀ y, y ∈ xs ↔ y ∈ ys) → xs = ys
  | [], [], _, _, _ => rfl
  | [], y :: ys, _, _, h => absurd ((h y).mpr (by simp)) (by simp)
  | x :: xs, [], _, _, h => absurd ((h x).mp (by simp)) (by simp)
  | x :: xs, y :: ys, hx, hy, h => by
    have hx' := List.pairwise_cons.mp hx
    have hy' := List.pairwise_cons.mp hy
    have e : x = y := by
      rcases List.mem_cons.mp ((h x).mp (by simp)) with z | z
      · exact z
      · rcases List.mem_cons.mp ((h y).mpr (by simp)) with w | w
        · exact w.symm
        · have := hx'.1 y w
          have := hy'.1 x z
          omega
    subst e
    congr 1
    refine sorted_ext hx'.2 hy'.2 fun y => ⟨fun m => ?_, fun m => ?_⟩
    · rcases List.mem_cons.mp ((h y).mp (by simp [m])) with z | z
      · have := hx'.1 y m; omega
      · exact z
    · rcases List.mem_cons.mp ((h y).mpr (by simp [m])) with z | z
      · have := hy'.1 y m; omega
      · exact z
theorem IsRoots.unique {p : Nat} {a : Int} {xs ys : List Int} (h : IsRoots p a xs) (h' : IsRoots p a ys) : xs = ys := sorted_ext h.sorted h'.sorted fun y => (h.iff y).trans (h'.iff y).symm
theorem IsRoots.congr {p : Nat} {a b : Int} {xs : List Int} (h : IsRoots p a xs) (e : (p : Int) ∣ a - b) : IsRoots p b xs := ⟨h.sorted, fun y => by
  rw [h.iff]
  constructor
  · rintro ⟨h1, h2, h3⟩
    refine ⟨h1, h2, ?_⟩
    have := Int.dvd_add h3 e
    rwa [show y * y - a + (a - b) = y * y - b by omega] at this
  · rintro ⟨h1, h2, h3⟩
    refine ⟨h1, h2, ?_⟩
    have := Int.dvd_sub h3 e
    rwa [show y * y - b - (a - b) = y * y - a by omega] at this⟩
theorem roots_nought {p : Nat} {a : Int} (hp : Prime p) (h : (p : Int) ∣ a) : IsRoots p a [0] := ⟨by simp, fun y => by
  have hp2 := hp.1
  rw [List.mem_singleton]
  constructor
  · rintro rfl
    refine ⟨by omega, by omega, ?_⟩
    rw [show (0 : Int) * 0 - a = -a by omega]
    exact Int.dvd_neg.mpr h
  · rintro ⟨h1, h2, h3⟩
    have h4 := Int.dvd_add h3 h
    rw [show y * y - a + a = y * y by omega] at h4
    have h5 : (p : Int) ∣ y := (dvd_mul_int hp h4).elim id id
    rcases Int.lt_or_eq_of_le h1 with z | z
    · have := Int.le_of_dvd z h5; omega
    · exact z.symm⟩
theorem roots_none {p : Nat} {a : Int} (hp : Prime p) (h2 : p ≠ 2) (h : pw p a ((p - 1) / 2) = (p : Int) - 1) : IsRoots p a [] := ⟨.nil, fun y => by
  have hp2 := hp.1
  refine ⟨fun z => by simp at z, fun ⟨h1, h3, h4⟩ => ?_⟩
  exfalso
  have e : pw p (y * y) ((p - 1) / 2) = pw p a ((p - 1) / 2) := pw_congr (Int.emod_eq_emod_iff_emod_sub_eq_zero.mpr (Int.emod_eq_zero_of_dvd h4)) _
  rw [← e] at h
  by_cases hy : un p y
  · rw [half_square hp h2 hy] at h; omega
  · have hd : (p : Int) ∣ y := Classical.byContradiction hy
    rw [pw_nought (Int.dvd_trans hd ⟨y, rfl⟩) (half_even hp h2).2] at h; omega⟩
theorem roots_two {p : Nat} {a r : Int} {ns : List Int} (hp : Prime p) (h2 : p ≠ 2) (hu : un p a) (r0 : 0 ≤ r) (r1 : r < p) (h : (p : Int) ∣ r * r - a) (pm : ns.Perm [r, p - r]) (srt : ns.Pairwise (· ≤ ·)) : IsRoots p a ns := by
  have hp2 := hp.1
  have hr : r ≠ 0 := fun z => hu (by
    rw [z, show (0 : Int) * 0 - a = -a by omega] at h
    exact Int.dvd_neg.mp h)
  have hodd : p % 2 = 1 := by
    have := half_even hp h2
    omega
  have nd : ns.Nodup := pm.nodup_iff.mpr (by
    refine List.nodup_cons.mpr ⟨fun z => ?_, List.nodup_cons.mpr ⟨by simp, .nil⟩⟩
    have := List.mem_singleton.mp z
    omega)
  refine ⟨(srt.and nd).imp fun z => by have := z.1; have := z.2; omega, fun y => ?_⟩
  have hm : y ∈ ns ↔ y = r ∨ y = p - r := by rw [pm.mem_iff]; simp
  rw [hm]
  constructor
  · rintro (rfl | rfl)
    · exact ⟨r0, r1, h⟩
    · refine ⟨by omega, by omega, ?_⟩
      have e : ((p : Int) - r) * ((p : Int) - r) - a = (r * r - a) + (p : Int) * ((p : Int) - 2 * r) := by grind
      rw [e]
      exact Int.dvd_add h ⟨_, rfl⟩
  · rintro ⟨y0, y1, hy⟩
    have h3 := Int.dvd_sub hy h
    rw [show y * y - a - (r * r - a) = (y - r) * (y + r) by grind] at h3
    rcases dvd_mul_int hp h3 with z | z
    · left
      obtain ⟨c, hc⟩ := z
      have : c = 0 := by
        rcases Int.lt_trichotomy c 0 with w | w | w
        · have : (p : Int) * c ≤ p * (-1) := Int.mul_le_mul_of_nonneg_left (by omega) (by omega)
          omega
        · exact w
        · have : (p : Int) * 1 ≤ p * c := Int.mul_le_mul_of_nonneg_left (by omega) (by omega)
          omega
      rw [this] at hc
      omega
    · right
      obtain ⟨c, hc⟩ := z
      have : c = 1 := by
        rcases Int.lt_trichotomy c 1 with w | w | w
        · have : (p : Int) * c ≤ p * 0 := Int.mul_le_mul_of_nonneg_left (by omega) (by omega)
          omega
        · exact w
        · have : (p : Int) * 2 ≤ p * c := Int.mul_le_mul_of_nonneg_left (by omega) (by omega)
          omega
      rw [this] at hc
      omega
theorem roots_two2 {a r : Int} (hu : un 2 a) (r0 : 0 ≤ r) (r1 : r < 2) (h : ((2 : Nat) : Int) ∣ r * r - a) : IsRoots 2 a [r] := by
  have hr : r = 1 := by
    have : r = 0 ∨ r = 1 := by omega
    rcases this with rfl | rfl
    · exact absurd (by rw [show (0 : Int) * 0 - a = -a by omega] at h; exact Int.dvd_neg.mp h) hu
    · rfl
  subst hr
  refine ⟨by simp, fun y => ?_⟩
  rw [List.mem_singleton]
  constructor
  · rintro rfl
    exact ⟨by decide, by decide, h⟩
  · rintro ⟨y0, y1, hy⟩
    have : y = 0 ∨ y = 1 := by omega
    rcases this with rfl | rfl
    · exact absurd (by rw [show (0 : Int) * 0 - a = -a by omega] at hy; exact Int.dvd_neg.mp hy) hu
    · rfl
/-- the half power is 1 where it isn't p - 1 -/
theorem half_one {p : Nat} {a : Int} (hp : Prime p) (h2 : p ≠ 2) (hu : un p a) (h : pw p a ((p - 1) / 2) ≠ (p : Int) - 1) : is1 p a ((p - 1) / 2) := by
  have hp2 := hp.1
  obtain ⟨he, h0⟩ := half_even hp h2
  have h1 := fermat hp hu
  unfold is1 at h1 ⊢
  have e : a ^ (p - 1) - 1 = (a ^ ((p - 1) / 2) - 1) * (a ^ ((p - 1) / 2) + 1) := by
    conv => lhs; rw [he, Nat.mul_comm, Int.pow_mul]
    grind
  rw [e] at h1
  rcases dvd_mul_int hp h1 with z | z
  · exact z
  · exact absurd (pw_of_dvd (by omega) (by omega) (by
      have h3 := Int.dvd_sub z (Int.dvd_refl (p : Int))
      rw [show a ^ ((p - 1) / 2) + 1 - (p : Int) = a ^ ((p - 1) / 2) - ((p : Int) - 1) by omega] at h3
      exact h3)) h
end M

/-! powers of a number of an order: they are all numbers whose power to it is 1 -/
namespace M
theorem pow_apart {p d : Nat} {a : Int} (hp : Prime p) (o : Ord p a d) {i j : Nat} (h : i < j) (hj : j < i + d) : ¬ (p : Int) ∣ a ^ j - a ^ i := fun z => by
  have e : j = i + (j - i) := by omega
  rw [e] at z
  have := o.least (j - i) (by omega) (one_of_alike hp (o.unit hp) z)
  omega
theorem ord_powers {p d : Nat} {a x : Int} (hp : Prime p) (o : Ord p a d) (h : is1 p x d) : ∃ k, k < d ∧ (p : Int) ∣ x - a ^ k := by
  refine Classical.byContradiction fun no => ?_
  have h1 : ((List.range d).map fun k => a ^ k).Pairwise fun x y => ¬ (p : Int) ∣ y - x := by
    rw [List.pairwise_map]
    refine List.Pairwise.imp_of_mem ?_ List.pairwise_lt_range
    intro i j hi hj hij
    have := List.mem_range.mp hj
    exact pow_apart hp o hij (by omega)
  have h2 : (x :: (List.range d).map fun k => a ^ k).Pairwise fun x y => ¬ (p : Int) ∣ y - x := by
    refine List.pairwise_cons.mpr ⟨fun y hy z => ?_, h1⟩
    obtain ⟨k, hk, rfl⟩ := List.mem_map.mp hy
    refine no ⟨k, List.mem_range.mp hk, ?_⟩
    rw [← Int.neg_sub]
    exact Int.dvd_neg.mpr z
  have h3 := roots_le hp o.pos h2 fun r hr => by
    rcases List.mem_cons.mp hr with z | z
    · rw [z]; exact h
    · obtain ⟨k, _, rfl⟩ := List.mem_map.mp z
      have := (one_pow_iff (p := p) (a := a) (d := k) (f := d)).mpr (by rw [Nat.mul_comm]; exact one_mul_ o.one k)
      exact this
  rw [List.length_cons, List.length_map, List.length_range] at h3
  omega
theorem pw_alike_eq {p : Nat} (hp : 2 ≤ p) {x : Int} {a : Int} {k : Nat} (h : (p : Int) ∣ x - a ^ k) (x0 : 0 ≤ x) (x1 : x < p) : pw p a k = x := by
  have h1 := pw_alike p a k
  have h2 : (p : Int) ∣ x - pw p a k := by
    have e : x - pw p a k = (x - a ^ k) + (a ^ k - pw p a k) := by omega
    rw [e]; exact Int.dvd_add h h1
  unfold pw at h2 ⊢
  have a0 := Int.emod_nonneg (a ^ k) (show (p : Int) ≠ 0 by omega)
  have a1 := Int.emod_lt_of_pos (a ^ k) (show (0 : Int) < p by omega)
  obtain ⟨c, hc⟩ := h2
  have hc0 : c = 0 := by
    rcases Int.lt_trichotomy c 0 with z | z | z
    · have : (p : Int) * c ≤ p * (-1) := Int.mul_le_mul_of_nonneg_left (by omega) (by omega)
      omega
    · exact z
    · have : (p : Int) * 1 ≤ p * c := Int.mul_le_mul_of_nonneg_left (by omega) (by omega)
      omega
  rw [hc0, Int.mul_zero] at hc
  omega
end M

/-! roots of any order -/
namespace M
/-- alike by p -/
abbrev al (p : Nat) (x y : Int) : Prop := (p : Int) ∣ x - y
theorem al_refl (p : Nat) (x : Int) : al p x x := by unfold al; rw [Int.sub_self]; exact Int.dvd_zero _
theorem al_symm {p : Nat} {x y : Int} (h : al p x y) : al p y x := by
  unfold al at h ⊢
  rw [← Int.neg_sub]; exact Int.dvd_neg.mpr h
theorem al_trans {p : Nat} {x y z : Int} (h : al p x y) (h' : al p y z) : al p x z := by
  unfold al at h h' ⊢
  rw [show x - z = (x - y) + (y - z) by omega]; exact Int.dvd_add h h'
theorem al_mul {p : Nat} {x y u v : Int} (h : al p x y) (h' : al p u v) : al p (x * u) (y * v) := by
  unfold al at h h' ⊢
  rw [show x * u - y * v = (x - y) * u + y * (u - v) by grind]
  exact Int.dvd_add (Int.dvd_mul_of_dvd_left h) (Int.dvd_mul_of_dvd_right h')
theorem al_pow {p : Nat} {x y : Int} (h : al p x y) : ∀ k : Nat, al p (x ^ k) (y ^ k)
  | 0 => by rw [Int.pow_zero, Int.pow_zero]; exact al_refl _ _
  | k + 1 => by rw [Int.pow_succ, Int.pow_succ]; exact al_mul (al_pow h k) h
theorem al_mod (p : Nat) (x : Int) : al p (x % p) x := al_symm (Int.dvd_of_emod_eq_zero (Int.emod_eq_emod_iff_emod_sub_eq_zero.mp (by rw [Int.emod_emod])))
theorem al_pw (p : Nat) (a : Int) (k : Nat) : al p (pw p a k) (a ^ k) := al_mod p _
theorem al_eq {p : Nat} {x y : Int} (h : al p x y) (x0 : 0 ≤ x) (x1 : x < p) (y0 : 0 ≤ y) (y1 : y < p) : x = y := by
  have h1 := Int.emod_eq_emod_iff_emod_sub_eq_zero.mpr (Int.emod_eq_zero_of_dvd h)
  rwa [Int.emod_eq_of_lt x0 x1, Int.emod_eq_of_lt y0 y1] at h1
theorem al_emod {p : Nat} {x y : Int} (h : al p x y) : x % (p : Int) = y % (p : Int) := Int.emod_eq_emod_iff_emod_sub_eq_zero.mpr (Int.emod_eq_zero_of_dvd h)
theorem al_of_emod {p : Nat} {x y : Int} (h : x % (p : Int) = y % (p : Int)) : al p x y := Int.dvd_of_emod_eq_zero (Int.emod_eq_emod_iff_emod_sub_eq_zero.mp h)
theorem pow_al {p N : Nat} {w : Int} (o : is1 p w N) {i j : Nat} (h : i % N = j % N) : al p (w ^ i) (w ^ j) := by
  have key : ∀ i : Nat, al p (w ^ i) (w ^ (i % N)) := fun i => by
    have e : w ^ i = (w ^ N) ^ (i / N) * w ^ (i % N) := by rw [← Int.pow_mul, ← Int.pow_add, Nat.div_add_mod]
    rw [e]
    have h1 : al p ((w ^ N) ^ (i / N)) (1 ^ (i / N)) := al_pow o _
    rw [Int.one_pow] at h1
    have := al_mul h1 (al_refl p (w ^ (i % N)))
    rwa [Int.one_mul] at this
  exact al_trans (key i) (by rw [h]; exact al_symm (key j))
theorem al_pow_inv {p N : Nat} (hp : Prime p) {w : Int} (o : Ord p w N) {i j : Nat} (h : al p (w ^ i) (w ^ j)) : i % N = j % N := by
  have hi := al_trans (al_trans (pow_al o.one (Nat.mod_mod i N)) h) (pow_al o.one (Nat.mod_mod j N).symm)
  have n0 := o.pos
  have b1 := Nat.mod_lt i n0
  have b2 := Nat.mod_lt j n0
  rcases Nat.lt_trichotomy (i % N) (j % N) with z | z | z
  · exact absurd (al_symm hi) (pow_apart hp o z (by omega))
  · exact z
  · exact absurd hi (pow_apart hp o z (by omega))
/-- one digit -/
theorem digit_step {p q m k P : Nat} {w c : Int} (hq : 2 ≤ q) (hk : k < m) (o : Ord p w (q ^ m)) (h : al p c (w ^ P)) :
    pw p (c * pw p w (q ^ m - P % q ^ k) % p) (q ^ m / (q ^ k * q)) = pw p (pw p w (q ^ m / q)) (P / q ^ k % q) ∧ P % q ^ k + q ^ k * (P / q ^ k % q) = P % q ^ (k + 1) := by
  have qk : 0 < q ^ k := Nat.pow_pos (by omega)
  have e1 : q ^ m = q ^ k * q * q ^ (m - k - 1) := by rw [← Nat.pow_succ, ← Nat.pow_add]; congr 1; omega
  have e2 : q ^ m / (q ^ k * q) = q ^ (m - k - 1) := by rw [e1]; exact Nat.mul_div_cancel_left _ (Nat.mul_pos qk (by omega))
  have e3 : q ^ m / q = q ^ k * q ^ (m - k - 1) := by
    rw [e1, show q ^ k * q * q ^ (m - k - 1) = q * (q ^ k * q ^ (m - k - 1)) by grind]
    exact Nat.mul_div_cancel_left _ (by omega)
  refine ⟨?_, by rw [Nat.pow_succ, Nat.mod_mul]⟩
  rw [e2, e3]
  refine al_emod ?_
  have le : P % q ^ k ≤ q ^ m := by
    have := Nat.mod_lt P qk
    have := Nat.pow_le_pow_right (show 0 < q by omega) (show k ≤ m by omega)
    omega
  have h1 : al p (c * pw p w (q ^ m - P % q ^ k) % p) (w ^ (P + (q ^ m - P % q ^ k))) := by
    refine al_trans (al_mod p _) ?_
    rw [Int.pow_add]
    exact al_mul h (al_pw p w _)
  have e4 : P + (q ^ m - P % q ^ k) = q ^ k * (P / q ^ k) + q ^ m := by
    have := Nat.div_add_mod P (q ^ k)
    omega
  refine al_trans (al_pow h1 _) (al_trans ?_ (al_symm (al_pow (al_pw p w _) _)))
  rw [e4, ← Int.pow_mul, ← Int.pow_mul]
  refine pow_al o.one ?_
  generalize P / q ^ k = D
  rw [Nat.add_mul]
  have e5 : (q ^ k * D * q ^ (m - k - 1) + q ^ m * q ^ (m - k - 1)) % q ^ m = q ^ k * D * q ^ (m - k - 1) % q ^ m := Nat.add_mul_mod_self_left _ _ _
  rw [e5]
  have e6 : q ^ k * q ^ (m - k - 1) * q = q ^ m := by rw [e1]; grind
  have e7 : q ^ k * D * q ^ (m - k - 1) = q ^ k * q ^ (m - k - 1) * (D % q) + q ^ m * (D / q) := by
    rw [← e6]
    have := Nat.div_add_mod D q
    calc q ^ k * D * q ^ (m - k - 1) = q ^ k * q ^ (m - k - 1) * D := by grind
      _ = q ^ k * q ^ (m - k - 1) * (q * (D / q) + D % q) := by rw [this]
      _ = _ := by grind
  rw [e7]
  exact Nat.add_mul_mod_self_left _ _ _
/-- an inverse told by a rest -/
theorem inv_nat {n : Nat} {b : Int} {a : Nat} (n0 : 0 < n) (h : (b * a - 1) % (n : Int) = 0) (b0 : 0 ≤ b) : b.toNat * a % n = 1 % n := by
  obtain ⟨c, rfl⟩ := Int.eq_ofNat_of_zero_le b0
  have h1 := al_emod (Int.dvd_of_emod_eq_zero h)
  have h2 : ((c * a % n : Nat) : Int) = ((1 % n : Nat) : Int) := by push_cast; exact h1
  exact Int.ofNat_inj.mp h2
theorem mod_mul_one {n x y : Nat} (h : x % n = 1 % n) : x * y % n = y % n := by
  rw [Nat.mul_mod, h, ← Nat.mul_mod, Nat.one_mul]
/-- the root of one part -/
theorem part_root {p q m v d' P L i : Nat} {w c : Int} (o : is1 p w (q ^ m)) (hd : d' = d') (hv : q ^ v ∣ P) (hc : al p c (w ^ P)) (hi : i * d' % q ^ m = 1 % q ^ m) : al p ((w ^ (P / q ^ v * i)) ^ (q ^ v * d')) c := by
  refine al_trans ?_ (al_symm hc)
  rw [← Int.pow_mul]
  refine pow_al o ?_
  obtain ⟨t, rfl⟩ := hv
  by_cases z : q ^ v = 0
  · rw [z]; simp
  · rw [Nat.mul_div_cancel_left _ (by omega), show t * i * (q ^ v * d') = i * d' * (q ^ v * t) by grind]
    exact mod_mul_one hi
theorem all_dvd {D : Nat} : ∀ {l : List (Nat × Nat)}, l.Pairwise (fun x y => x.1 < y.1) → (∀ x ∈ l, Prime x.1) → (∀ x ∈ l, x.1 ^ x.2 ∣ D) → prodL l ∣ D
  | [], _, _, _ => Nat.one_dvd _
  | x :: l, hs, hp, h => by
    have hs' := List.pairwise_cons.mp hs
    have ih := all_dvd hs'.2 (fun y hy => hp y (List.mem_cons_of_mem _ hy)) fun y hy => h y (List.mem_cons_of_mem _ hy)
    have hno : ¬ x.1 ∣ prodL l := fun z => by
      obtain ⟨k, hk⟩ := prime_in' (hp x (by simp)) (fun y hy => hp y (List.mem_cons_of_mem _ hy)) z
      have := hs'.1 _ hk
      simp at this
    show x.1 ^ x.2 * prodL l ∣ D
    exact Nat.Coprime.mul_dvd_of_dvd_of_dvd (coprime_pow (hp x (by simp)) hno x.2) (h x (by simp)) ih
theorem facs_split {N : Nat} {l : List (Nat × Nat)} (hl : IsFac N l) : ∀ {x : Nat × Nat}, x ∈ l → ∃ m, N = x.1 ^ x.2 * m ∧ ¬ x.1 ∣ m ∧ ∀ y ∈ l, y ≠ x → y.1 ^ y.2 ∣ m := by
  have key : ∀ {l : List (Nat × Nat)}, l.Pairwise (fun x y => x.1 < y.1) → (∀ x ∈ l, Prime x.1) → ∀ {x : Nat × Nat}, x ∈ l → ∃ m, prodL l = x.1 ^ x.2 * m ∧ ¬ x.1 ∣ m ∧ ∀ y ∈ l, y ≠ x → y.1 ^ y.2 ∣ m := by
    intro l
    induction l with
    | nil => intro _ _ x h; cases h
    | cons a l ih =>
      intro hs hp x hx
      have hs' := List.pairwise_cons.mp hs
      have hp' : ∀ y ∈ l, Prime y.1 := fun y hy => hp y (List.mem_cons_of_mem _ hy)
      by_cases e : x = a
      · subst e
        refine ⟨prodL l, rfl, fun z => ?_, fun y hy hne => ?_⟩
        · obtain ⟨k, hk⟩ := prime_in' (hp x (by simp)) hp' z
          have := hs'.1 _ hk
          simp at this
        · rcases List.mem_cons.mp hy with z | z
          · exact absurd z hne
          · exact prodL_dvd z
      · have hxl : x ∈ l := (List.mem_cons.mp hx).resolve_left e
        obtain ⟨m, h1, h2, h3⟩ := ih hs'.2 hp' hxl
        have hlt := hs'.1 x hxl
        refine ⟨a.1 ^ a.2 * m, ?_, fun z => ?_, fun y hy hne => ?_⟩
        · show a.1 ^ a.2 * prodL l = _
          rw [h1]; grind
        · rcases (hp' x hxl).dvd_mul z with z | z
          · have := (hp' x hxl).eq_of_dvd (hp a (by simp)) ((hp' x hxl).dvd_pow z)
            omega
          · exact h2 z
        · rcases List.mem_cons.mp hy with z | z
          · rw [z]; exact Nat.dvd_mul_right _ _
          · exact Nat.dvd_trans (h3 y z hne) (Nat.dvd_mul_left _ _)
  intro x hx
  have := key hl.sorted (fun x h => (hl.primes x h).1) hx
  rwa [hl.prod] at this
/-- what one_root keeps -/
def OneI (p N d : Nat) (c : Int) (l : List (Nat × Nat)) (i left : Nat) (root : Int) : Prop :=
  ∃ W E : Nat, left * W = N ∧ Nat.gcd left W = 1 ∧ (∀ (j : Nat) (x : Nat × Nat), l[j]? = some x → (j < i ∧ x.1 ∣ d → x.1 ^ x.2 ∣ W ∧ E % x.1 ^ x.2 = 1 % x.1 ^ x.2) ∧ (¬ (j < i ∧ x.1 ∣ d) → x.1 ^ x.2 ∣ left ∧ x.1 ^ x.2 ∣ E)) ∧ al p (root ^ d) (c ^ E)
theorem one_start {p N d : Nat} {c : Int} {l : List (Nat × Nat)} (hl : IsFac N l) : OneI p N d c l 0 N 1 :=
  ⟨1, 0, by omega, Nat.gcd_one_right _, fun j x hx => ⟨fun z => by omega, fun _ => ⟨by rw [← hl.prod]; exact prodL_dvd (List.mem_of_getElem? hx), Nat.dvd_zero _⟩⟩, by rw [Int.one_pow, Int.pow_zero]; exact al_refl _ _⟩
theorem one_skip {p N d i left : Nat} {c root : Int} {l : List (Nat × Nat)} {x : Nat × Nat} (h : OneI p N d c l i left root) (hx : l[i]? = some x) (hd : ¬ x.1 ∣ d) : OneI p N d c l (i + 1) left root := by
  obtain ⟨W, E, h1, h2, h3, h4⟩ := h
  refine ⟨W, E, h1, h2, fun j y hy => ⟨fun z => (h3 j y hy).1 ⟨?_, z.2⟩, fun z => (h3 j y hy).2 fun w => z ⟨by omega, w.2⟩⟩, h4⟩
  have : j ≠ i := fun e => by subst e; rw [hx] at hy; cases hy; exact hd z.2
  omega
theorem one_more {p N d i left : Nat} {c root r : Int} {l : List (Nat × Nat)} {x : Nat × Nat} {F : Nat} (hl : IsFac N l) (N0 : 0 < N) (h : OneI p N d c l i left root) (hx : l[i]? = some x) (hd : x.1 ∣ d)
    (hr : al p (r ^ d) (c ^ F)) (hF : F % x.1 ^ x.2 = 1 % x.1 ^ x.2) (hF2 : N / x.1 ^ x.2 ∣ F) : OneI p N d c l (i + 1) (left / x.1 ^ x.2) (root * r % p) ∧ x.1 ^ x.2 ∣ left := by
  obtain ⟨W, E, h1, h2, h3, h4⟩ := h
  have hm := List.mem_of_getElem? hx
  have hq := (hl.primes x hm).1
  have q0 : 0 < x.1 ^ x.2 := Nat.pow_pos hq.pos
  obtain ⟨m, em, hno, hoth⟩ := facs_split hl hm
  have hxl := ((h3 i x hx).2 fun z => by omega)
  obtain ⟨left', e1⟩ := hxl.1
  have e2 : left / x.1 ^ x.2 = left' := by rw [e1]; exact Nat.mul_div_cancel_left _ q0
  have e3 : N / x.1 ^ x.2 = m := by rw [em]; exact Nat.mul_div_cancel_left _ q0
  rw [e3] at hF2
  have e4 : left' * W = m := by
    have : x.1 ^ x.2 * (left' * W) = x.1 ^ x.2 * m := by rw [← em, ← h1, e1]; grind
    exact Nat.eq_of_mul_eq_mul_left q0 this
  have hnl : ¬ x.1 ∣ left' := fun z => hno (by rw [← e4]; exact Nat.dvd_trans z (Nat.dvd_mul_right _ _))
  have hcop : Nat.gcd (x.1 ^ x.2) left' = 1 := coprime_pow hq hnl x.2
  refine ⟨?_, hxl.1⟩
  rw [e2]
  refine ⟨x.1 ^ x.2 * W, E + F, by rw [em, ← e4]; grind, ?_, fun j y hy => ?_, ?_⟩
  · refine Nat.Coprime.mul_right ?_ ?_
    · rw [Nat.Coprime, Nat.gcd_comm]; exact hcop
    · exact Nat.Coprime.coprime_dvd_left ⟨x.1 ^ x.2, by rw [e1, Nat.mul_comm]⟩ h2
  · by_cases ej : j = i
    · subst ej
      rw [hx] at hy; cases hy
      refine ⟨fun _ => ⟨Nat.dvd_mul_right _ _, ?_⟩, fun z => absurd ⟨by omega, hd⟩ z⟩
      rw [Nat.add_mod, Nat.mod_eq_zero_of_dvd hxl.2, Nat.zero_add, Nat.mod_mod, hF]
    · have hym := List.mem_of_getElem? hy
      have hne : y ≠ x := fun e => by
        subst e
        have hj := (List.getElem?_eq_some_iff.mp hy)
        have hi := (List.getElem?_eq_some_iff.mp hx)
        obtain ⟨j1, j2⟩ := hj
        obtain ⟨i1, i2⟩ := hi
        rcases Nat.lt_trichotomy i j with z | z | z
        · have := List.pairwise_iff_getElem.mp hl.sorted i j i1 j1 z
          rw [i2, j2] at this; omega
        · omega
        · have := List.pairwise_iff_getElem.mp hl.sorted j i j1 i1 z
          rw [i2, j2] at this; omega
      have hyF : y.1 ^ y.2 ∣ F := Nat.dvd_trans (hoth y hym hne) hF2
      refine ⟨fun z => ?_, fun z => ?_⟩
      · have := (h3 j y hy).1 ⟨by omega, z.2⟩
        refine ⟨Nat.dvd_trans this.1 (Nat.dvd_mul_left _ _), ?_⟩
        rw [Nat.add_mod, Nat.mod_eq_zero_of_dvd hyF, Nat.add_zero, Nat.mod_mod, this.2]
      · have := (h3 j y hy).2 fun w => z ⟨by omega, w.2⟩
        refine ⟨?_, Nat.dvd_add this.2 hyF⟩
        have hcy : Nat.Coprime (y.1 ^ y.2) (x.1 ^ x.2) := by
          have hyq := (hl.primes y hym).1
          refine Nat.Coprime.pow _ _ ?_
          refine hyq.coprime fun w => ?_
          have e := hyq.eq_of_dvd hq w
          obtain ⟨j1, j2⟩ := List.getElem?_eq_some_iff.mp hy
          obtain ⟨i1, i2⟩ := List.getElem?_eq_some_iff.mp hx
          rcases Nat.lt_trichotomy i j with z | z | z
          · have := List.pairwise_iff_getElem.mp hl.sorted i j i1 j1 z
            rw [i2, j2] at this; omega
          · omega
          · have := List.pairwise_iff_getElem.mp hl.sorted j i j1 i1 z
            rw [i2, j2] at this; omega
        have h5 := this.1
        rw [e1] at h5
        exact hcy.dvd_of_dvd_mul_left h5
  · refine al_trans (al_pow (al_mod p _) d) ?_
    rw [Int.mul_pow, Int.pow_add]
    exact al_mul h4 hr
theorem one_cop {p N d left : Nat} {c root : Int} {l : List (Nat × Nat)} (hl : IsFac N l) (N0 : 0 < N) (h : OneI p N d c l l.length left root) : 0 < left ∧ left ∣ N ∧ Nat.gcd (N / left) left = 1 ∧ Nat.gcd d left = 1 := by
  obtain ⟨W, E, h1, h2, h3, h4⟩ := h
  have l0 : 0 < left := Nat.pos_of_ne_zero fun z => by rw [z] at h1; omega
  have eW : N / left = W := by rw [← h1]; exact Nat.mul_div_cancel_left _ l0
  refine ⟨l0, ⟨W, h1.symm⟩, by rw [eW, Nat.gcd_comm]; exact h2, ?_⟩
  refine Classical.byContradiction fun hne => ?_
  have hg : 2 ≤ Nat.gcd d left := by
    have : 0 < Nat.gcd d left := Nat.gcd_pos_of_pos_right _ l0
    omega
  obtain ⟨r, hr, hrd⟩ := exists_prime _ hg
  have r1 := Nat.dvd_trans hrd (Nat.gcd_dvd_left _ _)
  have r2 := Nat.dvd_trans hrd (Nat.gcd_dvd_right _ _)
  obtain ⟨k, hk⟩ := fac_prime_in hl hr (Nat.dvd_trans r2 ⟨W, h1.symm⟩)
  obtain ⟨j, hj⟩ := List.getElem?_of_mem hk
  have hjl := (List.getElem?_eq_some_iff.mp hj).1
  have h5 := ((h3 j _ hj).1 ⟨hjl, r1⟩).1
  have h6 : r ∣ Nat.gcd left W := Nat.dvd_gcd r2 (Nat.dvd_trans (dvd_pow_self r (hl.primes _ hk).2) h5)
  rw [h2] at h6
  have := Nat.le_of_dvd (by decide) h6
  have := hr.1
  omega
theorem one_end {p N d left i1 i2 : Nat} {c root : Int} {l : List (Nat × Nat)} (hl : IsFac N l) (N0 : 0 < N) (h : OneI p N d c l l.length left root) (hc : is1 p c N) (e1 : i1 * (N / left) % left = 1 % left) (e2 : i2 * d % left = 1 % left) :
    al p ((root * pw p c (N / left * i1 * i2) % p) ^ d) c := by
  obtain ⟨l0, hlN, _, _⟩ := one_cop hl N0 h
  obtain ⟨W, E, h1, h2, h3, h4⟩ := h
  have eW : N / left = W := by rw [← h1]; exact Nat.mul_div_cancel_left _ l0
  rw [eW] at e1 ⊢
  refine al_trans (al_pow (al_mod p _) d) ?_
  rw [Int.mul_pow]
  refine al_trans (al_mul h4 (al_pow (al_pw p c _) d)) ?_
  rw [← Int.pow_mul, ← Int.pow_add]
  have key : (E + W * i1 * i2 * d) % N = 1 % N := by
    have h5 : prodL l ∣ ((E + W * i1 * i2 * d : Nat) - (1 : Int)).natAbs := all_dvd hl.sorted (fun x hx => (hl.primes x hx).1) fun x hx => by
      obtain ⟨j, hj⟩ := List.getElem?_of_mem hx
      have hjl := (List.getElem?_eq_some_iff.mp hj).1
      have hh := h3 j x hj
      have h6 : (E + W * i1 * i2 * d) % x.1 ^ x.2 = 1 % x.1 ^ x.2 := by
        by_cases hd : x.1 ∣ d
        · obtain ⟨a1, a2⟩ := hh.1 ⟨hjl, hd⟩
          have h7 : x.1 ^ x.2 ∣ W * i1 * i2 * d := Nat.dvd_trans a1 ⟨i1 * i2 * d, by grind⟩
          rw [Nat.add_mod, Nat.mod_eq_zero_of_dvd h7, Nat.add_zero, Nat.mod_mod, a2]
        · obtain ⟨a1, a2⟩ := hh.2 fun z => hd z.2
          have h8 : W * i1 * i2 * d % left = 1 % left := by
            rw [show W * i1 * i2 * d = i1 * W * (i2 * d) by grind, mod_mul_one e1, e2]
          have h9 : W * i1 * i2 * d % x.1 ^ x.2 = 1 % x.1 ^ x.2 := by
            rw [← Nat.mod_mod_of_dvd _ a1, h8, Nat.mod_mod_of_dvd _ a1]
          rw [Nat.add_mod, Nat.mod_eq_zero_of_dvd a2, Nat.zero_add, Nat.mod_mod, h9]
      have h10 : ((E + W * i1 * i2 * d : Nat) : Int) % ((x.1 ^ x.2 : Nat) : Int) = 1 % ((x.1 ^ x.2 : Nat) : Int) := by
        rw [← Int.natCast_emod, h6]; rfl
      have h11 := Int.dvd_of_emod_eq_zero (Int.emod_eq_emod_iff_emod_sub_eq_zero.mp h10)
      exact Int.ofNat_dvd_left.mp h11
    rw [hl.prod] at h5
    have h12 := Int.emod_eq_emod_iff_emod_sub_eq_zero.mpr (Int.emod_eq_zero_of_dvd (Int.ofNat_dvd_left.mpr h5))
    have h13 : (((E + W * i1 * i2 * d) % N : Nat) : Int) = ((1 % N : Nat) : Int) := by rw [Int.natCast_emod, Int.natCast_emod]; exact h12
    exact Int.ofNat_inj.mp h13
  have := pow_al hc key
  rwa [Int.pow_one] at this
/-- all roots of order k of a by p -/
structure IsKR (p k : Nat) (a : Int) (xs : List Int) : Prop where
  sorted : xs.Pairwise (· < ·)
  iff : ∀ y, y ∈ xs ↔ 0 ≤ y ∧ y < p ∧ al p (y ^ k) a
theorem IsKR.unique {p k : Nat} {a : Int} {xs ys : List Int} (h : IsKR p k a xs) (h' : IsKR p k a ys) : xs = ys := sorted_ext h.sorted h'.sorted fun y => (h.iff y).trans (h'.iff y).symm
theorem kr_nought {p k : Nat} {a : Int} (hp : Prime p) (hk : 0 < k) (h : (p : Int) ∣ a) : IsKR p k a [0] := ⟨by simp, fun y => by
  rw [List.mem_singleton]
  have ha : al p a 0 := by unfold al; rw [Int.sub_zero]; exact h
  constructor
  · rintro rfl
    refine ⟨by decide, by have := hp.1; omega, ?_⟩
    rw [Int.zero_pow (by omega)]
    exact al_symm ha
  · rintro ⟨y0, y1, hy⟩
    have h1 := al_trans hy ha
    unfold al at h1
    rw [Int.sub_zero] at h1
    have h2 : (p : Int) ∣ y := Classical.byContradiction fun z => unit_pow hp z k h1
    by_cases e : y = 0
    · exact e
    · have := Int.le_of_dvd (by omega) h2; omega⟩
/-- where there is a root, the power is 1 -/
theorem kr_one {p k : Nat} {a y : Int} (hp : Prime p) (ha : un p a) (hk : 0 < k) (h : al p (y ^ k) a) : is1 p a ((p - 1) / Nat.gcd k (p - 1)) := by
  have p1 : 0 < p - 1 := by have := hp.1; omega
  have hy : un p y := fun z => ha (by
    obtain ⟨j, rfl⟩ : ∃ j, k = j + 1 := ⟨k - 1, by omega⟩
    have h1 : (p : Int) ∣ y ^ (j + 1) := by rw [Int.pow_succ]; exact Int.dvd_mul_of_dvd_right z
    have h2 : a = y ^ (j + 1) - (y ^ (j + 1) - a) := by omega
    rw [h2]; exact Int.dvd_sub h1 h)
  have hf := fermat hp hy
  have h3 : is1 p (y ^ k) ((p - 1) / Nat.gcd k (p - 1)) := one_pow_iff.mpr (one_of_dvd hf (by
    obtain ⟨g, hg⟩ := Nat.gcd_dvd_left k (p - 1)
    have g0 := Nat.gcd_pos_of_pos_right k p1
    refine ⟨g, ?_⟩
    have h4 := Nat.div_mul_cancel (Nat.gcd_dvd_right k (p - 1))
    calc k * ((p - 1) / Nat.gcd k (p - 1)) = (Nat.gcd k (p - 1) * g) * ((p - 1) / Nat.gcd k (p - 1)) := by rw [← hg]
      _ = ((p - 1) / Nat.gcd k (p - 1) * Nat.gcd k (p - 1)) * g := by grind
      _ = (p - 1) * g := by rw [h4]))
  exact (is1_congr h _).mp h3
theorem kr_none {p k : Nat} {a : Int} (hp : Prime p) (ha : un p a) (hk : 0 < k) (h : ¬ is1 p a ((p - 1) / Nat.gcd k (p - 1))) : IsKR p k a [] := ⟨.nil, fun y => ⟨fun z => by simp at z, fun z => absurd (kr_one hp ha hk z.2.2) h⟩⟩
/-- all of them, from one -/
theorem kr_all {p k d : Nat} {a root turn : Int} {ns : List Int} (hp : Prime p) (ha : un p a) (ed : d = Nat.gcd k (p - 1)) (hr : al p (root ^ k) a) (ht : Ord p turn d) (pm : ns.Perm ((List.range d).map fun i => root * turn ^ i % (p : Int))) (srt : ns.Pairwise (· ≤ ·)) (hk : 0 < k) : IsKR p k a ns := by
  have hp2 := hp.1
  have d0 := ht.pos
  have hur : un p root := fun z => ha (by
    obtain ⟨j, rfl⟩ : ∃ j, k = j + 1 := ⟨k - 1, by omega⟩
    have h1 : (p : Int) ∣ root ^ (j + 1) := by rw [Int.pow_succ]; exact Int.dvd_mul_of_dvd_right z
    have h2 : a = root ^ (j + 1) - (root ^ (j + 1) - a) := by omega
    rw [h2]; exact Int.dvd_sub h1 hr)
  have hrange : ∀ y : Int, 0 ≤ y % (p : Int) ∧ y % (p : Int) < p := fun y => ⟨Int.emod_nonneg _ (by omega), Int.emod_lt_of_pos _ (by omega)⟩
  have hcan : ∀ {x y : Int}, al p (root * x) (root * y) → al p x y := fun {x y} h => by
    unfold al at h ⊢
    rw [← Int.mul_sub] at h
    exact (dvd_mul_int hp h).resolve_left hur
  have nd : ns.Pairwise (· ≠ ·) := by
    refine (pm.pairwise_iff (fun h => Ne.symm h)).mpr ?_
    rw [List.pairwise_map]
    refine List.Pairwise.imp_of_mem ?_ List.pairwise_lt_range
    intro i j hi hj hij e
    have := List.mem_range.mp hj
    exact pow_apart hp ht hij (by omega) (al_symm (hcan (al_of_emod e)))
  refine ⟨(srt.and nd).imp fun z => by have := z.1; have := z.2; omega, fun y => ?_⟩
  rw [pm.mem_iff, List.mem_map]
  constructor
  · rintro ⟨i, hi, rfl⟩
    refine ⟨(hrange _).1, (hrange _).2, al_trans (al_pow (al_mod p _) k) ?_⟩
    rw [Int.mul_pow]
    have h1 : al p ((turn ^ i) ^ k) 1 := by
      rw [← Int.pow_mul]
      obtain ⟨g, hg⟩ := Nat.gcd_dvd_left k (p - 1)
      rw [← ed] at hg
      exact one_of_dvd ht.one ⟨i * g, by rw [hg]; grind⟩
    have := al_mul hr h1
    rwa [Int.mul_one] at this
  · rintro ⟨y0, y1, hy⟩
    -- y times the inverse of the root
    have hb : ∃ b : Int, al p (root * b) 1 := by
      refine ⟨root ^ (p - 2), ?_⟩
      have := fermat hp hur
      unfold is1 at this
      rw [show p - 1 = (p - 2) + 1 by omega, Int.pow_succ, Int.mul_comm] at this
      exact this
    obtain ⟨b, hb⟩ := hb
    have h1 : al p ((y * b) ^ k) 1 := by
      rw [Int.mul_pow]
      refine al_trans (al_mul (al_trans hy (al_symm hr)) (al_refl p (b ^ k))) ?_
      rw [← Int.mul_pow]
      have := al_pow hb k
      rwa [Int.one_pow] at this
    have hyb : un p (y * b) := fun z => by
      have h2 : (p : Int) ∣ (y * b) ^ k := by
        obtain ⟨j, rfl⟩ : ∃ j, k = j + 1 := ⟨k - 1, by omega⟩
        rw [Int.pow_succ]; exact Int.dvd_mul_of_dvd_right z
      have h3 : (p : Int) ∣ 1 := by
        have : (1 : Int) = (y * b) ^ k - ((y * b) ^ k - 1) := by omega
        rw [this]; exact Int.dvd_sub h2 h1
      have := Int.le_of_dvd (by decide) h3; omega
    obtain ⟨o, ho⟩ := exists_ord hp hyb
    have h4 : o ∣ d := by
      rw [ed]
      exact Nat.dvd_gcd (ho.dvd hp h1) (ho.dvd hp (fermat hp hyb))
    obtain ⟨i, hi, hx⟩ := ord_powers hp ht (one_of_dvd ho.one h4)
    refine ⟨i, List.mem_range.mpr hi, ?_⟩
    refine al_eq (al_trans (al_mod p _) ?_) (hrange _).1 (hrange _).2 y0 y1
    have h5 := al_mul (al_refl p root) (al_symm hx)
    refine al_trans h5 ?_
    have h6 := al_mul (al_refl p y) hb
    rw [Int.mul_one] at h6
    rw [show root * (y * b) = y * (root * b) by grind]
    exact h6
end M

/-! how deep the papers of primes to 10 ** 9 are -/
namespace M
/-- p has a chain of k primes, each one dividing the next less 1 -/
def Chain : Nat → Nat → Prop
  | 0, _ => True
  | k + 1, p => Prime p ∧ (k = 0 ∨ ∃ q, q ∣ p - 1 ∧ Chain k q)
def compF : Nat → Nat → Nat → Bool
  | 0, _, _ => false
  | n + 1, p, d => if p < d * d then false else if p % d == 0 then true else compF n p (d + 2)
theorem compF_no {p : Nat} (hp : Prime p) : ∀ {n d : Nat}, 2 ≤ d → compF n p d = false
  | 0, _, _ => rfl
  | n + 1, d, h => by
    unfold compF
    split
    · rfl
    · rename_i h1
      split
      · rename_i h2
        have h3 := Nat.dvd_of_mod_eq_zero (beq_iff_eq.mp h2)
        rcases hp.2 d h3 with z | z
        · omega
        · rw [z] at h1
          have : p * 2 ≤ p * p := Nat.mul_le_mul_left p hp.1
          have := hp.1
          omega
      · exact compF_no hp (by omega)
def okStep (S T : List Nat) (B : Nat) : Bool := S.all fun q => (List.range ((B - 1) / (2 * q))).all fun j => compF 600 (2 * (j + 1) * q + 1) 3 || T.contains (2 * (j + 1) * q + 1)
theorem chain_prime {k p : Nat} (h : Chain (k + 1) p) : Prime p := h.1
theorem prime_odd {p : Nat} (hp : Prime p) (h : p ≠ 2) : p % 2 = 1 := by
  rcases Nat.mod_two_eq_zero_or_one p with z | z
  · rcases hp.2 2 (Nat.dvd_of_mod_eq_zero z) with e | e
    · omega
    · exact absurd e.symm h
  · exact z
theorem chain_odd {k p : Nat} (h : Chain (k + 2) p) : p % 2 = 1 := by
  refine prime_odd h.1 fun e => ?_
  subst e
  rcases h.2 with z | ⟨q, hq, hc⟩
  · omega
  · have h1 : Prime q := hc.1
    have := Nat.le_of_dvd (by decide) hq
    have := h1.1
    omega
theorem chain_two {k p q : Nat} (h : Chain (k + 2) p) (hq : q ∣ p - 1) (hc : Chain (k + 1) q) (ho : q % 2 = 1) : ∃ j, p = 2 * (j + 1) * q + 1 := by
  have hp := h.1.1
  have po := chain_odd h
  have q0 : 0 < q := by omega
  obtain ⟨c, hc⟩ := hq
  have hc2 : c % 2 = 0 := by
    rcases Nat.mod_two_eq_zero_or_one c with z | z
    · exact z
    · have : (q * c) % 2 = 1 := by rw [Nat.mul_mod, ho, z]
      omega
  obtain ⟨d, rfl⟩ : ∃ d, c = 2 * d := ⟨c / 2, by omega⟩
  have d0 : 0 < d := Nat.pos_of_ne_zero fun z => by subst z; simp at hc; omega
  refine ⟨d - 1, ?_⟩
  have : 2 * (d - 1 + 1) * q = q * (2 * d) := by rw [Nat.sub_add_cancel d0]; grind
  omega
theorem step_in {S T : List Nat} {B k p : Nat} (ok : okStep S T B = true) (hS : ∀ q, Chain (k + 2) q → 2 * q + 1 ≤ B → q ∈ S) (h : Chain (k + 3) p) (hB : p ≤ B) : p ∈ T := by
  rcases h.2 with z | ⟨q, hq, hc⟩
  · omega
  · have qo := chain_odd hc
    obtain ⟨j, hj⟩ := chain_two (k := k + 1) h hq hc qo
    have q0 : 0 < q := by omega
    have h1 : 2 * q ≤ 2 * (j + 1) * q := Nat.mul_le_mul_right q (by omega)
    have hqS := hS q hc (by omega)
    have h2 := List.all_eq_true.mp ok q hqS
    have hjr : j < (B - 1) / (2 * q) := by
      have : (j + 1) * (2 * q) ≤ B - 1 := by
        have : (j + 1) * (2 * q) = 2 * (j + 1) * q := by grind
        omega
      exact (Nat.le_div_iff_mul_le (by omega)).mpr this
    have h3 := List.all_eq_true.mp h2 j (List.mem_range.mpr hjr)
    rw [← hj, compF_no h.1 (by decide), Bool.false_or] at h3
    exact List.contains_iff_mem.mp h3
def S2 : List Nat := [3, 5, 7, 11, 13, 17, 19, 23, 29, 31, 37, 41, 43, 47, 53, 59, 61, 67, 71, 73, 79, 83, 89, 97, 101, 103, 107, 109, 113, 127, 131, 137, 139, 149, 151, 157, 163, 167, 173, 179, 181, 191, 193, 197, 199, 211, 223, 227, 229, 233, 239, 241, 251, 257, 263, 269, 271, 277, 281, 283, 293, 307, 311, 313, 317, 331, 337, 347, 349, 353, 359, 367, 373, 379, 383, 389, 397, 401, 409, 419, 421, 431, 433, 439, 443, 449, 457, 461, 463, 467, 479, 487, 491, 499, 503, 509, 521, 523, 541, 547, 557, 563, 569, 571, 577, 587, 593, 599, 601, 607, 613, 617, 619, 631, 641, 643, 647, 653, 659, 661, 673, 677, 683, 691, 701, 709, 719, 727, 733, 739, 743, 751, 757, 761, 769, 773, 787, 797, 809, 811, 821, 823, 827, 829, 839, 853, 857, 859, 863, 877, 881, 883, 887, 907, 911, 919, 929, 937, 941, 947, 953]
def S3 : List Nat := [7, 11, 13, 19, 23, 29, 31, 37, 41, 43, 47, 53, 59, 61, 67, 71, 73, 79, 83, 89, 97, 101, 103, 107, 109, 113, 127, 131, 137, 139, 149, 151, 157, 163, 167, 173, 179, 181, 191, 193, 197, 199, 211, 223, 227, 229, 233, 239, 241, 251, 263, 269, 271, 277, 281, 283, 293, 307, 311, 313, 317, 331, 337, 347, 349, 353, 359, 367, 373, 379, 383, 389, 397, 401, 409, 419, 421, 431, 433, 439, 443, 449, 457, 461, 463, 467, 479, 487, 491, 499, 503, 509, 521, 523, 541, 547, 557, 563, 569, 571, 577, 587, 593, 599, 601, 607, 613, 617, 619, 631, 641, 643, 647, 653, 659, 661, 673, 677, 683, 691, 701, 709, 719, 727, 733, 739, 743, 751, 757, 761, 769, 773, 787, 797, 809, 811, 821, 823, 827, 829, 839, 853, 857, 859, 863, 877, 881, 883, 887, 907, 911, 919, 929, 937, 941, 947, 953, 967, 971, 977, 983, 991, 997, 1009, 1013, 1019, 1021, 1031, 1033, 1039, 1049, 1051, 1061, 1063, 1069, 1087, 1091, 1093, 1097, 1103, 1109, 1117, 1123, 1129, 1151, 1153, 1163, 1171, 1181, 1187, 1193, 1201, 1213, 1217, 1223, 1229, 1231, 1237, 1249, 1259, 1277, 1279, 1283, 1289, 1291, 1297, 1301, 1303, 1307, 1319, 1321, 1327, 1361, 1367, 1373, 1381, 1399, 1409, 1423, 1427, 1429, 1433, 1439, 1447, 1451, 1453, 1459, 1471, 1481, 1483, 1487, 1489, 1493, 1499, 1511, 1523, 1531, 1543, 1549, 1553, 1559, 1567, 1571, 1579, 1583, 1597, 1601, 1607, 1609, 1613, 1619, 1621, 1627, 1637, 1657, 1663, 1667, 1669, 1693, 1697, 1699, 1709, 1721, 1723, 1733, 1741, 1747, 1753, 1759, 1777, 1783, 1787, 1789, 1801, 1811, 1823, 1831, 1847, 1861, 1867, 1871, 1873, 1877, 1879, 1889, 1901, 1907]
def S4 : List Nat := [23, 29, 43, 47, 53, 59, 67, 71, 79, 83, 89, 107, 113, 127, 131, 139, 149, 157, 167, 173, 179, 191, 197, 199, 211, 223, 227, 229, 233, 239, 263, 269, 277, 281, 283, 293, 311, 313, 317, 331, 337, 347, 349, 353, 359, 367, 373, 379, 383, 389, 397, 419, 421, 431, 439, 443, 449, 457, 461, 463, 467, 479, 491, 499, 503, 509, 521, 523, 547, 557, 563, 569, 571, 587, 593, 599, 607, 617, 619, 631, 643, 647, 653, 659, 661, 673, 677, 683, 691, 701, 709, 719, 727, 733, 739, 743, 757, 761, 773, 787, 797, 809, 821, 823, 827, 829, 839, 853, 857, 859, 863, 877, 881, 883, 887, 907, 911, 929, 937, 941, 947, 953, 967, 971, 977, 983, 991, 997, 1009, 1013, 1019, 1031, 1033, 1039, 1049, 1051, 1061, 1063, 1069, 1087, 1091, 1093, 1097, 1103, 1109, 1117, 1123, 1129, 1151, 1163, 1171, 1181, 1187, 1193, 1213, 1217, 1223, 1229, 1231, 1237, 1249, 1259, 1277, 1279, 1283, 1289, 1291, 1301, 1303, 1307, 1319, 1321, 1327, 1367, 1373, 1381, 1399, 1409, 1423, 1427, 1429, 1433, 1439, 1447, 1451, 1453, 1471, 1481, 1483, 1487, 1489, 1493, 1499, 1511, 1523, 1549, 1553, 1559, 1567, 1571, 1579, 1583, 1597, 1607, 1609, 1613, 1619, 1627, 1637, 1657, 1663, 1667, 1669, 1693, 1697, 1699, 1709, 1721, 1723, 1733, 1741, 1747, 1753, 1759, 1777, 1783, 1787, 1789, 1811, 1823, 1831, 1847, 1861, 1867, 1871, 1873, 1877, 1879, 1889, 1901, 1907, 1913, 1931, 1933, 1949, 1951, 1973, 1979, 1987, 1993, 1997, 1999, 2003, 2011, 2017, 2027, 2029, 2039, 2053, 2063, 2069, 2081, 2083, 2087, 2089, 2099, 2111, 2113, 2129, 2131, 2137, 2141, 2143, 2153, 2179, 2203, 2207, 2213, 2221, 2237, 2239, 2243, 2267, 2269, 2273, 2281, 2287, 2293, 2297, 2309, 2311, 2333, 2339, 2341, 2347, 2351, 2357, 2371, 2377, 2381, 2383, 2389, 2393, 2399, 2411, 2417, 2423, 2437, 2441, 2447, 2459, 2467, 2473, 2477, 2503, 2521, 2531, 2539, 2543, 2549, 2557, 2579, 2591, 2609, 2617, 2621, 2633, 2647, 2657, 2659, 2663, 2671, 2677, 2683, 2687, 2689, 2693, 2699, 2707, 2711, 2713, 2719, 2729, 2731, 2741, 2749, 2753, 2767, 2777, 2789, 2791, 2797, 2801, 2803, 2819, 2833, 2837, 2843, 2851, 2857, 2861, 2879, 2887, 2897, 2903, 2909, 2927, 2939, 2953, 2957, 2963, 2969, 2971, 2999, 3011, 3019, 3023, 3037, 3041, 3049, 3067, 3079, 3083, 3089, 3109, 3119, 3121, 3137, 3163, 3167, 3169, 3181, 3187, 3191, 3203, 3209, 3217, 3221, 3229, 3251, 3253, 3257, 3259, 3271, 3299, 3301, 3307, 3313, 3319, 3323, 3329, 3331, 3343, 3347, 3359, 3361, 3371, 3373, 3389, 3391, 3407, 3413, 3433, 3449, 3461, 3463, 3467, 3491, 3499, 3511, 3517, 3527, 3529, 3533, 3539, 3541, 3547, 3557, 3559, 3571, 3581, 3583, 3593, 3607, 3613, 3617, 3623, 3631, 3637, 3643, 3659, 3671, 3677, 3691, 3697, 3701, 3709, 3719, 3727, 3733, 3739, 3761, 3767, 3769, 3779, 3793, 3797, 3803]
def S5 : List Nat := [47, 59, 107, 139, 167, 173, 179, 227, 233, 263, 269, 277, 283, 317, 347, 349, 359, 383, 431, 461, 467, 479, 499, 509, 523, 557, 563, 569, 587, 599, 643, 659, 691, 709, 719, 743, 787, 797, 827, 829, 839, 853, 857, 863, 887, 929, 941, 947, 967, 983, 997, 1013, 1019, 1033, 1039, 1049, 1061, 1063, 1069, 1103, 1109, 1129, 1151, 1163, 1181, 1187, 1193, 1223, 1277, 1279, 1289, 1291, 1307, 1319, 1367, 1381, 1399, 1423, 1427, 1433, 1439, 1451, 1487, 1493, 1499, 1523, 1549, 1567, 1571, 1579, 1583, 1609, 1619, 1657, 1663, 1669, 1693, 1697, 1699, 1721, 1741, 1759, 1787, 1789, 1823, 1847, 1867, 1877, 1879, 1889, 1907, 1913, 1933, 1973, 1979, 1987, 1993, 1997, 2011, 2027, 2039, 2063, 2069, 2083, 2087, 2089, 2099, 2111, 2131, 2137, 2141, 2153, 2203, 2207, 2213, 2237, 2239, 2243, 2273, 2287, 2293, 2333, 2339, 2347, 2351, 2371, 2383, 2389, 2393, 2423, 2437, 2447, 2459, 2477, 2503, 2531, 2539, 2557, 2579, 2621, 2633, 2657, 2659, 2671, 2677, 2683, 2687, 2693, 2699, 2713, 2749, 2753, 2767, 2777, 2797, 2803, 2819, 2833, 2837, 2843, 2879, 2903, 2909, 2939, 2957, 2963, 2969, 2999, 3011, 3019, 3023, 3037, 3049, 3083, 3119, 3167, 3181, 3187, 3191, 3217, 3221, 3229, 3307, 3313, 3319, 3343, 3347, 3359, 3371, 3373, 3391, 3407, 3413, 3449, 3461, 3467, 3491, 3499, 3517, 3527, 3533, 3539, 3541, 3547, 3557, 3559, 3581, 3583, 3593, 3613, 3617, 3623, 3643, 3659, 3671, 3727, 3733, 3739, 3761, 3767, 3769, 3779, 3793, 3803, 3821, 3833, 3853, 3863, 3911, 3917, 3919, 3923, 3929, 3931, 3947, 3967, 3989, 4003, 4007, 4013, 4021, 4049, 4073, 4079, 4099, 4127, 4129, 4133, 4139, 4153, 4157, 4177, 4211, 4231, 4241, 4253, 4259, 4261, 4273, 4283, 4289, 4297, 4349, 4363, 4373, 4391, 4397, 4409, 4423, 4451, 4457, 4463, 4483, 4493, 4513, 4517, 4547, 4549, 4567, 4583, 4597, 4603, 4639, 4643, 4649, 4679, 4691, 4703, 4721, 4723, 4729, 4783, 4787, 4793, 4799, 4817, 4831, 4877, 4889, 4903, 4919, 4931, 4937, 4943, 4957, 4967, 4969, 4973, 4987, 5009, 5011, 5039, 5059, 5077, 5081, 5087, 5099, 5107, 5113, 5119, 5147, 5153, 5171, 5179, 5227, 5231, 5261, 5273, 5279, 5297, 5309, 5323, 5333, 5351, 5381, 5387, 5393, 5399, 5407, 5417, 5419, 5443, 5449, 5471, 5479, 5483, 5503, 5507, 5519, 5521, 5531, 5557, 5569, 5573, 5591, 5623, 5639, 5641, 5647, 5651, 5653, 5659, 5683, 5689, 5693, 5711, 5717, 5737, 5743, 5749, 5779, 5783, 5801, 5807, 5813, 5827, 5839, 5843, 5849, 5861, 5867, 5879, 5897, 5903, 5923, 5927, 5939, 5981, 6037, 6043, 6047, 6053, 6067, 6073, 6079, 6089, 6091, 6113, 6143, 6163, 6197, 6199, 6203, 6211, 6221, 6229, 6247, 6257, 6269, 6277, 6287, 6299, 6311, 6317, 6323, 6329, 6353, 6361, 6367, 6373, 6379, 6389, 6421, 6451, 6473, 6491, 6547, 6551, 6569, 6581, 6599, 6607, 6619, 6637, 6653, 6659, 6673, 6679, 6691, 6701, 6703, 6709, 6719, 6737, 6763, 6779, 6781, 6793, 6803, 6823, 6827, 6829, 6857, 6863, 6871, 6899, 6907, 6911, 6947, 6959, 6961, 6967, 6983, 6991, 6997, 7013, 7019, 7027, 7039, 7043, 7079, 7103, 7109, 7121, 7127, 7159, 7177, 7187, 7193, 7229, 7237, 7243, 7247, 7283, 7307, 7309, 7331, 7333, 7349, 7433, 7451, 7457, 7459, 7477, 7487, 7499, 7507, 7517, 7523, 7529, 7537, 7541, 7559, 7573, 7577, 7583, 7591, 7607, 7621]
def S6 : List Nat := [283, 347, 359, 467, 557, 643, 659, 709, 719, 827, 857, 863, 941, 1019, 1039, 1063, 1109, 1129, 1181, 1223, 1319, 1399, 1433, 1439, 1487, 1499, 1579, 1663, 1669, 1693, 1699, 1787, 1889, 1997, 2027, 2039, 2069, 2083, 2099, 2141, 2153, 2207, 2243, 2339, 2351, 2423, 2447, 2503, 2539, 2579, 2633, 2767, 2777, 2797, 2803, 2833, 2837, 2879, 2903, 2999, 3167, 3187, 3229, 3343, 3413, 3449, 3461, 3491, 3541, 3581, 3659, 3761, 3767, 3779, 3833, 3853, 3947, 3989, 4013, 4073, 4079, 4127, 4133, 4139, 4153, 4157, 4231, 4253, 4283, 4297, 4457, 4513, 4517, 4547, 4597, 4603, 4679, 4703, 4721, 4723, 4783, 4787, 4793, 4889, 4919, 4957, 4987, 5011, 5077, 5119, 5171, 5179, 5231, 5261, 5273, 5323, 5351, 5381, 5387, 5399, 5449, 5507, 5639, 5641, 5647, 5683, 5693, 5749, 5779, 5783, 5807, 5839, 5879, 5903, 5923, 5927, 5939, 6047, 6079, 6197, 6199, 6229, 6247, 6269, 6277, 6299, 6317, 6367, 6373, 6379, 6421, 6491, 6581, 6619, 6653, 6673, 6719, 6793, 6803, 6827, 6829, 6857, 6863, 6899, 6907, 6911, 6983, 6991, 7079, 7127, 7159, 7187, 7229, 7247, 7333, 7349, 7433, 7457, 7507, 7517, 7523, 7529, 7559, 7577, 7607, 7643, 7717, 7727, 7757, 7759, 7789, 7823, 7877, 7883, 7907, 7919, 7949, 8017, 8147, 8179, 8219, 8243, 8273, 8287, 8291, 8293, 8311, 8329, 8369, 8377, 8387, 8389, 8423, 8461, 8539, 8563, 8599, 8609, 8623, 8627, 8629, 8699, 8707, 8747, 8783, 8819, 8837, 8923, 8951, 8969, 9173, 9203, 9209, 9221, 9227, 9323, 9341, 9343, 9403, 9419, 9497, 9511, 9533, 9587, 9623, 9631, 9677, 9689, 9749, 9787, 9839, 9871, 9887, 9949, 9973, 10009, 10067, 10069, 10079, 10159, 10163, 10181, 10223, 10243, 10247, 10253, 10267, 10273, 10289, 10313, 10331, 10343, 10357, 10391, 10457, 10463, 10487, 10529, 10559, 10567, 10631, 10667, 10691, 10709, 10723, 10733, 10739, 10771, 10799, 10853, 10937, 10939, 10979, 11047, 11057, 11069, 11083, 11093, 11149, 11159, 11213, 11261, 11279, 11299, 11321, 11329, 11351, 11399, 11423, 11443, 11447, 11489, 11491, 11497, 11579, 11657, 11677, 11699, 11801, 11807, 11839, 11863, 11867, 11887, 11897, 11923, 11939, 11959, 11981, 11987, 12037, 12107, 12143, 12149, 12157, 12163, 12197, 12227, 12379, 12391, 12409, 12413, 12457, 12503, 12511, 12539, 12553, 12569, 12583, 12589, 12647, 12659, 12713, 12743, 12757, 12763, 12791, 12823, 12829, 12841, 12889, 12911, 12917, 12919, 12953, 12973, 12983, 13007, 13049, 13099, 13103, 13151, 13163, 13187, 13217, 13219, 13229, 13259, 13297, 13309, 13451, 13513, 13537, 13577, 13649, 13697, 13723, 13759, 13763, 13789, 13799, 13807, 13831, 13841, 13901, 13913, 13963, 13967, 13997, 13999, 14011, 14029, 14083, 14087, 14107, 14159, 14173, 14207, 14243, 14321, 14347, 14387, 14447, 14533, 14633, 14639, 14683, 14699, 14717, 14753, 14759, 14767, 14867, 14869, 14879, 14887, 14923, 14947, 14957, 14983, 15013, 15017, 15031, 15077, 15083, 15173, 15187, 15217]
def S7 : List Nat := [719, 1319, 1439, 1699, 2039, 2083, 2447, 2777, 2803, 2837, 2879, 2999, 3343, 3779, 4079, 4139, 4157, 4253, 4283, 4457, 4517, 4679, 4703, 5179, 5273, 5647, 5807, 6247, 6317, 6379, 6653, 6793, 6827, 6857, 6899, 6983, 7523, 7529, 7559, 7717, 8147, 8329, 8599, 8629, 8923, 9227, 9341, 9587, 9623, 9839, 10067, 10159, 10289, 10343, 10357, 10391, 10463, 10631, 10723, 10771, 10799, 11069, 11213, 11279, 11321, 11489, 11579, 11807, 11863, 11887, 11897, 12143, 12163, 12539, 12757, 12763, 12917, 12919, 12983, 13163, 13187, 13309, 13799, 13967, 14011, 14107, 14159, 14173, 14683, 14699, 14717, 14867, 14887, 15269, 15287, 15413, 15427, 15527, 15647, 15767, 15791, 15797, 15817, 16217, 16487, 16547, 16553, 16603, 16631, 16657, 16691, 16931, 16981, 17123, 17189, 17257, 17351, 17419, 17657, 17747, 17903, 17939, 17989, 18413, 18443, 18679, 18713, 18839, 19379, 19387, 19433, 19577, 19853, 19949, 19963, 20029, 20063, 20147, 20323, 20327, 20389, 20477, 20479, 20507, 20549, 20627, 20663, 20717, 20947, 21059, 21089, 21247, 21383, 21419, 21467, 21487, 21503, 21599, 21863, 22259, 22283, 22567, 22643, 22669, 22697, 22859, 23117, 23159, 23357, 23399, 23603, 23743, 23773, 23879, 23993, 24107, 24317, 24413, 24439, 24469, 24509, 24763, 24799, 24917, 24919, 24943, 24989, 25031, 25183, 25189, 25219, 25391, 25469, 25471, 25583, 25679, 25693, 25849, 25903, 26099, 26153, 26459, 26693, 26737, 26903, 27067, 27103, 27283, 27299, 27527, 27583, 27617, 27689, 27803, 27827, 27851, 28031, 28069, 28219, 28319, 28547, 28643, 28649, 28661, 28723, 28759, 28867, 29077, 29333, 29387, 29399, 29741, 29759, 30029, 30089, 30113, 30137, 30347, 30469]
def S8 : List Nat := [1439, 2879, 4079, 7559, 8629, 10067, 11213, 13799, 13967, 14683, 17257, 19577, 20147, 20389, 20717, 21599, 22643, 22697, 23159, 23743, 23993, 24469, 24943, 24989, 25903, 27103, 28031, 28219, 28319, 28547, 29399, 30539, 30869, 31583, 31657, 32633, 33107, 33113, 33317, 33329, 33637, 33863, 34259, 34513, 34537, 34549, 34703, 34843, 35879, 35951, 36137, 36887, 37379, 37483, 38867, 39719, 40127, 40637, 40759, 41143, 42179, 42209, 42767, 42839, 44519, 44579, 45139, 45827, 46049, 46457, 47207, 48883, 49019, 49669, 49993, 50123, 50971, 51769, 52919, 54617, 55399, 55541, 56149, 56437, 57107, 57287, 57947, 58199, 58733, 59981, 60397]
def S9 : List Nat := [2879, 20147, 25903, 32633, 34537, 34549, 46049, 57107, 58733, 63317, 65267, 69029, 69073, 74759, 80537, 86291, 86341, 86371, 90709, 103549, 103613, 106487, 108413, 112877, 119963, 120877, 120919]
def S10 : List Nat := [34549, 65267, 86371, 103613, 120919, 138059, 138197, 149519, 172583, 172741, 207227, 224563]
def S11 : List Nat := [138197, 207227]
def S12 : List Nat := []
theorem in2 : ∀ q, Chain 2 q → q ≤ 953 → q ∈ S2 := fun q h hB => by
  have qo := chain_odd (k := 0) h
  have ok : ((List.range 476).all fun j => compF 600 (2 * (j + 1) + 1) 3 || S2.contains (2 * (j + 1) + 1)) = true := by decide +kernel
  have hp := h.1
  have h2 := hp.1
  have h3 := List.all_eq_true.mp ok ((q - 3) / 2) (List.mem_range.mpr (by omega))
  rw [show 2 * ((q - 3) / 2 + 1) + 1 = q by omega, compF_no hp (by decide), Bool.false_or] at h3
  exact List.contains_iff_mem.mp h3
theorem in3 : ∀ q, Chain 3 q → q ≤ 1907 → q ∈ S3 := fun q h hB => step_in (k := 0) (B := 1907) (S := S2) (by decide +kernel) (fun r hr hb => in2 r hr (by omega)) h hB
theorem in4 : ∀ q, Chain 4 q → q ≤ 3814 → q ∈ S4 := fun q h hB => step_in (k := 1) (B := 3814) (S := S3) (by decide +kernel) (fun r hr hb => in3 r hr (by omega)) h hB
theorem in5 : ∀ q, Chain 5 q → q ≤ 7629 → q ∈ S5 := fun q h hB => step_in (k := 2) (B := 7629) (S := S4) (by decide +kernel) (fun r hr hb => in4 r hr (by omega)) h hB
theorem in6 : ∀ q, Chain 6 q → q ≤ 15258 → q ∈ S6 := fun q h hB => step_in (k := 3) (B := 15258) (S := S5) (by decide +kernel) (fun r hr hb => in5 r hr (by omega)) h hB
theorem in7 : ∀ q, Chain 7 q → q ≤ 30517 → q ∈ S7 := fun q h hB => step_in (k := 4) (B := 30517) (S := S6) (by decide +kernel) (fun r hr hb => in6 r hr (by omega)) h hB
theorem in8 : ∀ q, Chain 8 q → q ≤ 61035 → q ∈ S8 := fun q h hB => step_in (k := 5) (B := 61035) (S := S7) (by decide +kernel) (fun r hr hb => in7 r hr (by omega)) h hB
theorem in9 : ∀ q, Chain 9 q → q ≤ 122070 → q ∈ S9 := fun q h hB => step_in (k := 6) (B := 122070) (S := S8) (by decide +kernel) (fun r hr hb => in8 r hr (by omega)) h hB
theorem in10 : ∀ q, Chain 10 q → q ≤ 244140 → q ∈ S10 := fun q h hB => step_in (k := 7) (B := 244140) (S := S9) (by decide +kernel) (fun r hr hb => in9 r hr (by omega)) h hB
theorem in11 : ∀ q, Chain 11 q → q ≤ 488281 → q ∈ S11 := fun q h hB => step_in (k := 8) (B := 488281) (S := S10) (by decide +kernel) (fun r hr hb => in10 r hr (by omega)) h hB
theorem in12 : ∀ q, Chain 12 q → q ≤ 976562 → q ∈ S12 := fun q h hB => step_in (k := 9) (B := 976562) (S := S11) (by decide +kernel) (fun r hr hb => in11 r hr (by omega)) h hB
theorem chain12 {p : Nat} (h : Chain 12 p) : 976563 ≤ p := by
  rcases Nat.lt_or_ge p 976563 with z | z
  · exact absurd (in12 p h (by omega)) (by simp [S12])
  · exact z
theorem chain_more {N : Nat} (h12 : ∀ p, Chain 12 p → N ≤ p) : ∀ (j : Nat) {p : Nat}, Chain (12 + j) p → 2 ^ j * N ≤ p
  | 0, p, h => by rw [Nat.pow_zero, Nat.one_mul]; exact h12 p h
  | j + 1, p, h => by
    rcases h.2 with z | ⟨q, hq, hc⟩
    · exact absurd z (by show ¬ (12 + j = 0); omega)
    · have ih : 2 ^ j * N ≤ q := chain_more h12 j hc
      obtain ⟨i, hi⟩ := chain_two (k := 11 + j) (by rw [show 11 + j + 2 = 12 + (j + 1) by omega]; exact h) hq (by rw [show 11 + j + 1 = 12 + j by omega]; exact hc) (chain_odd (k := 10 + j) (by rw [show 10 + j + 2 = 12 + j by omega]; exact hc))
      have h1 : 2 * q ≤ 2 * (i + 1) * q := Nat.mul_le_mul_right q (by omega)
      have h3 : 2 * q ≤ p := by rw [hi]; exact Nat.le_succ_of_le h1
      rw [Nat.pow_succ, Nat.mul_comm (2 ^ j) 2, Nat.mul_assoc]
      exact Nat.le_trans (Nat.mul_le_mul_left 2 ih) h3
theorem chain22 {p : Nat} (hp : p ≤ 1000000000) : ¬ Chain 22 p := fun h => by
  have h1 := chain_more (N := 976563) (fun p h => chain12 h) 10 (p := p) h
  have h2 : 2 ^ 10 * 976563 = 1000000512 := by decide +kernel
  rw [h2] at h1
  omega
/-- a parting is one alone -/
theorem fac_split {E : Nat} {l : List (Nat × Nat)} (hl : IsFac E l) {x : Nat × Nat} (hx : x ∈ l) : ∃ m, E = x.1 ^ x.2 * m ∧ ¬ x.1 ∣ m ∧ 0 < m := by
  obtain ⟨j, hj⟩ := List.getElem?_of_mem hx
  have hq := (hl.primes x hx).1
  have hil : j < l.length := (List.getElem?_eq_some_iff.mp hj).1
  have hxe : l[j] = x := (List.getElem?_eq_some_iff.mp hj).2
  have hd : l.drop j = x :: l.drop (j + 1) := by rw [List.drop_eq_getElem_cons hil, hxe]
  have hsp : l = l.take j ++ x :: l.drop (j + 1) := by rw [← hd, List.take_append_drop]
  have hso := hl.sorted
  rw [hsp] at hso
  have hso' := List.pairwise_append.mp hso
  have p1 : ∀ y ∈ l.take j, Prime y.1 := fun y hy => (hl.primes y (List.mem_of_mem_take hy)).1
  have p2 : ∀ y ∈ l.drop (j + 1), Prime y.1 := fun y hy => (hl.primes y (List.mem_of_mem_drop hy)).1
  refine ⟨prodL (l.take j) * prodL (l.drop (j + 1)), ?_, fun z => ?_, Nat.mul_pos (prodL_pos p1) (prodL_pos p2)⟩
  · rw [← hl.prod]
    conv => lhs; rw [hsp]
    rw [prodL_app]; simp only [prodL]; grind
  · rcases hq.dvd_mul z with z | z
    · obtain ⟨k, hk⟩ := prime_in' hq p1 z
      have h1 := hso'.2.2 _ hk x (by simp)
      have h2 : x.1 < x.1 := h1
      omega
    · obtain ⟨k, hk⟩ := prime_in' hq p2 z
      have h1 := (List.pairwise_cons.mp hso'.2.1).1 _ hk
      have h2 : x.1 < x.1 := h1
      omega
theorem fac_vq {E : Nat} {l : List (Nat × Nat)} (hl : IsFac E l) {x : Nat × Nat} (hx : x ∈ l) : x.2 = vq x.1 E := by
  obtain ⟨m, e, h1, h2⟩ := fac_split hl hx
  rw [e, vq_eq (hl.primes x hx).1.1 h1 h2]
theorem fac_mem_iff {E : Nat} {l : List (Nat × Nat)} (hl : IsFac E l) (x : Nat × Nat) : x ∈ l ↔ Prime x.1 ∧ x.1 ∣ E ∧ x.2 = vq x.1 E := by
  constructor
  · intro hx
    exact ⟨(hl.primes x hx).1, fac_dvd hl hx, fac_vq hl hx⟩
  · rintro ⟨h1, h2, h3⟩
    obtain ⟨k, hk⟩ := fac_prime_in hl h1 h2
    have := fac_vq hl hk
    have this' : k = vq x.1 E := this
    have e : x = (x.1, k) := by
      show (x.1, x.2) = (x.1, k)
      rw [h3, this']
    rw [e]; exact hk
theorem pairs_ext : ∀ {xs ys : List (Nat × Nat)}, xs.Pairwise (fun a b => a.1 < b.1) → ys.Pairwise (fun a b => a.1 < b.1) → (∀ y, y ∈ xs ↔ y ∈ ys) → xs = ys
  | [], [], _, _, _ => rfl
  | [], y :: ys, _, _, h => absurd ((h y).mpr (by simp)) (by simp)
  | x :: xs, [], _, _, h => absurd ((h x).mp (by simp)) (by simp)
  | x :: xs, y :: ys, hx, hy, h => by
    have hx' := List.pairwise_cons.mp hx
    have hy' := List.pairwise_cons.mp hy
    have e : x = y := by
      rcases List.mem_cons.mp ((h x).mp (by simp)) with z | z
      · exact z
      · rcases List.mem_cons.mp ((h y).mpr (by simp)) with w | w
        · exact w.symm
        · have := hx'.1 y w
          have := hy'.1 x z
          omega
    subst e
    congr 1
    refine pairs_ext hx'.2 hy'.2 fun y => ⟨fun m => ?_, fun m => ?_⟩
    · rcases List.mem_cons.mp ((h y).mp (by simp [m])) with z | z
      · have := hx'.1 y m
        rw [z] at this; omega
      · exact z
    · rcases List.mem_cons.mp ((h y).mpr (by simp [m])) with z | z
      · have := hy'.1 y m
        rw [z] at this; omega
      · exact z
theorem fac_unique {E : Nat} {l l' : List (Nat × Nat)} (h : IsFac E l) (h' : IsFac E l') : l = l' := pairs_ext h.sorted h'.sorted fun x => (fac_mem_iff h x).trans (fac_mem_iff h' x).symm
theorem full_unique {p f f' : Nat} (h : LeastFull p f) (h' : LeastFull p f') : f = f' := by
  rcases Nat.lt_trichotomy f f' with w | w | w
  · exact absurd h.full (h'.least f h.f0 w)
  · exact w
  · exact absurd h'.full (h.least f' h'.f0 w)
end M

/-! a number with a told rest, gone to step by step -/
namespace M
theorem bez (a b : Nat) : ∃ u v : Int, u * a + v * b = (Nat.gcd a b : Nat) := by
  induction a, b using Nat.gcd.induction with
  | H0 n => exact ⟨0, 1, by simp⟩
  | H1 m n h ih =>
    obtain ⟨u, v, e⟩ := ih
    refine ⟨v - u * (n / m : Nat), u, ?_⟩
    rw [Nat.gcd_rec m n, ← e]
    have h1 := Nat.div_add_mod n m
    have h2 : (n : Int) = (m : Int) * ((n / m : Nat) : Int) + ((n % m : Nat) : Int) := by rw [← Int.natCast_mul, ← Int.natCast_add, h1]
    generalize ((n / m : Nat) : Int) = q at *
    generalize ((n % m : Nat) : Int) = r at *
    rw [h2]; grind
theorem step_to {w x e y : Nat} (e0 : 0 < e) (hy : y < e) (h : ((x : Int) - y) % (Nat.gcd w e : Nat) = 0) : ∃ t : Nat, t < e ∧ (x + w * t) % e = y := by
  obtain ⟨u, v, hb⟩ := bez w e
  obtain ⟨c, hc⟩ := Int.dvd_of_emod_eq_zero h
  have r0 := Int.emod_nonneg (-(c * u)) (show (e : Int) ≠ 0 by omega)
  have r1 := Int.emod_lt_of_pos (-(c * u)) (show (0 : Int) < e by omega)
  have r2 := Int.emod_add_mul_ediv (-(c * u)) (e : Int)
  generalize -(c * u) / (e : Int) = Q at r2
  generalize hR : -(c * u) % (e : Int) = R at *
  obtain ⟨t, rfl⟩ := Int.eq_ofNat_of_zero_le r0
  refine ⟨t, by omega, ?_⟩
  have hd : (e : Int) ∣ ((x + w * t : Nat) : Int) - y := by
    refine ⟨c * v - w * Q, ?_⟩
    push_cast
    have e1 : (t : Int) = -(c * u) - e * Q := by omega
    rw [e1]
    have e2 : (x : Int) = y + ((Nat.gcd w e : Nat) : Int) * c := by omega
    rw [e2, ← hb]; grind
  have h3 : ((x + w * t : Nat) : Int) % e = (y : Int) % e := Int.emod_eq_emod_iff_emod_sub_eq_zero.mpr (Int.emod_eq_zero_of_dvd hd)
  rw [← Int.natCast_emod, ← Int.natCast_emod, Nat.mod_eq_of_lt hy] at h3
  omega
theorem step_least {w x e y : Nat} (w0 : 0 < w) (e0 : 0 < e) (hx : x < w) (hy : y < e) (h : ((x : Int) - y) % (Nat.gcd w e : Nat) = 0) : ∃ t : Nat, x + w * t < Nat.lcm w e ∧ (x + w * t) % e = y := by
  obtain ⟨t, _, ht⟩ := step_to (w := w) e0 hy h
  have l0 : 0 < Nat.lcm w e := Nat.lcm_pos w0 e0
  have h1 := Nat.mod_lt (x + w * t) l0
  have h2 : (x + w * t) % Nat.lcm w e % w = x := by
    rw [Nat.mod_mod_of_dvd _ (Nat.dvd_lcm_left w e), Nat.add_mul_mod_self_left, Nat.mod_eq_of_lt hx]
  have h3 : (x + w * t) % Nat.lcm w e % e = y := by
    rw [Nat.mod_mod_of_dvd _ (Nat.dvd_lcm_right w e)]; exact ht
  generalize (x + w * t) % Nat.lcm w e = X at h1 h2 h3
  have h4 := Nat.mod_add_div X w
  refine ⟨X / w, ?_, ?_⟩
  · rw [← h2, h4]; exact h1
  · rw [← h2, h4]; exact h3
end M

namespace M
theorem sort_ex (l : List Int) : ∃ ns : List Int, ns.Perm l ∧ ns.Pairwise (· ≤ ·) := by
  refine ⟨l.mergeSort (fun a b => decide (a ≤ b)), List.mergeSort_perm _ _, ?_⟩
  refine (List.pairwise_mergeSort (le := fun a b : Int => decide (a ≤ b)) (fun a b c h1 h2 => ?_) (fun a b => ?_) l).imp fun {a b} h => by simpa using h
  · simp only [decide_eq_true_eq] at *; omega
  · simp only [Bool.or_eq_true, decide_eq_true_eq]; omega
theorem kr_some {p k : Nat} {a : Int} (hp : Prime p) (ha : un p a) (hk : 0 < k) (h : is1 p a ((p - 1) / Nat.gcd k (p - 1))) : ∃ root : Int, al p (root ^ k) a := by
  have hp2 := hp.1
  have p1 : 0 < p - 1 := by omega
  obtain ⟨g, g0, g1, gf⟩ := full_small hp
  obtain ⟨s, _, hs⟩ := ord_powers hp gf (fermat hp ha)
  have h2 := one_pow_iff.mp ((is1_congr hs _).mp h)
  have h3 := gf.dvd hp h2
  have g0' := Nat.gcd_pos_of_pos_right k p1
  have hd := Nat.gcd_dvd_right k (p - 1)
  obtain ⟨u, v, hb⟩ := bez k (p - 1)
  have hle := Nat.le_of_dvd p1 hd
  have e1 : Nat.gcd k (p - 1) * ((p - 1) / Nat.gcd k (p - 1)) = p - 1 := Nat.mul_div_cancel' hd
  have e0 : 0 < (p - 1) / Nat.gcd k (p - 1) := Nat.div_pos hle g0'
  generalize Nat.gcd k (p - 1) = d at *
  have hds : d ∣ s := by
    have h4 : d * ((p - 1) / d) ∣ s * ((p - 1) / d) := by rw [e1]; exact h3
    exact Nat.dvd_of_mul_dvd_mul_right e0 h4
  obtain ⟨c, hc⟩ := hds
  have hN : ((p - 1 : Nat) : Int) ≠ 0 := by omega
  have r0 := Int.emod_nonneg (u * c) hN
  refine ⟨(g : Int) ^ ((u * c) % ((p - 1 : Nat) : Int)).toNat, ?_⟩
  rw [← Int.pow_mul]
  refine al_trans (pow_al gf.one ?_) (al_symm hs)
  have h5 : (((((u * c) % ((p - 1 : Nat) : Int)).toNat * k : Nat) : Int)) % ((p - 1 : Nat) : Int) = ((s : Nat) : Int) % ((p - 1 : Nat) : Int) := by
    rw [Int.natCast_mul, Int.toNat_of_nonneg r0, Int.mul_emod, Int.emod_emod_of_dvd _ (Int.dvd_refl _), ← Int.mul_emod]
    refine Int.emod_eq_emod_iff_emod_sub_eq_zero.mpr (Int.emod_eq_zero_of_dvd ⟨-(v * c), ?_⟩)
    rw [hc]
    push_cast
    rw [← hb]
    grind
  exact Int.ofNat.inj h5
theorem kr_len {p k : Nat} {a : Int} {xs : List Int} (hp : Prime p) (ha : un p a) (hk : 0 < k) (h : is1 p a ((p - 1) / Nat.gcd k (p - 1))) (hx : IsKR p k a xs) : xs.length = Nat.gcd k (p - 1) := by
  have hp2 := hp.1
  obtain ⟨root, hr⟩ := kr_some hp ha hk h
  obtain ⟨f, f0, f1, ff⟩ := full_small hp
  have gp := Nat.gcd_dvd_right k (p - 1)
  have hot := ff.pw ((p - 1) / Nat.gcd k (p - 1))
  have g : Nat.gcd ((p - 1) / Nat.gcd k (p - 1)) (p - 1) = (p - 1) / Nat.gcd k (p - 1) := Nat.gcd_eq_left (Nat.div_dvd_of_dvd gp)
  rw [g, Nat.div_div_self gp (by omega)] at hot
  obtain ⟨ns, pm, srt⟩ := sort_ex ((List.range (Nat.gcd k (p - 1))).map fun i => root * (pw p f ((p - 1) / Nat.gcd k (p - 1))) ^ i % (p : Int))
  have h1 := kr_all hp ha rfl hr hot pm srt hk
  rw [hx.unique h1, pm.length_eq, List.length_map, List.length_range]
def prodN (l : List Nat) : Nat := l.foldl (· * ·) 1
theorem prodN_snoc (l : List Nat) (x : Nat) : prodN (l ++ [x]) = prodN l * x := by unfold prodN; rw [List.foldl_append]; rfl
theorem foldl_one (l : List Nat) : ∀ c, l.foldl (· * ·) c = c * l.foldl (· * ·) 1 := by
  induction l with
  | nil => intro c; simp
  | cons a l ih => intro c; rw [List.foldl_cons, List.foldl_cons, ih (c * a), ih (1 * a), Nat.one_mul, Nat.mul_assoc]
theorem prodN_cons (a : Nat) (l : List Nat) : prodN (a :: l) = a * prodN l := by unfold prodN; rw [List.foldl_cons, foldl_one, Nat.one_mul]
theorem prodN_pos {l : List Nat} (h : ∀ z ∈ l, 0 < z) : 0 < prodN l := by
  induction l with
  | nil => exact Nat.one_pos
  | cons a l ih => rw [prodN_cons]; exact Nat.mul_pos (h a (by simp)) (ih fun z hz => h z (by simp [hz]))
theorem prodN_take {l : List Nat} (h : ∀ z ∈ l, 0 < z) (i : Nat) : prodN (l.take i) ≤ prodN l := by
  induction l generalizing i with
  | nil => simp
  | cons a l ih =>
    have hp := prodN_pos h
    cases i with
    | zero => rw [List.take_zero]; exact hp
    | succ i =>
      rw [List.take_succ_cons, prodN_cons, prodN_cons]
      exact Nat.mul_le_mul_left _ (ih (fun z hz => h z (by simp [hz])) i)
theorem prodN_dvd {l : List Nat} {p : Nat} (h : p ∈ l) : p ∣ prodN l := by
  induction l with
  | nil => simp at h
  | cons a l ih =>
    rw [prodN_cons]
    rcases List.mem_cons.mp h with z | z
    · rw [z]; exact Nat.dvd_mul_right _ _
    · exact Nat.dvd_trans (ih z) (Nat.dvd_mul_left _ _)
theorem prodN_bd {l : List Nat} {B : Nat} (h : ∀ z ∈ l, z ≤ B) : prodN l ≤ B ^ l.length := by
  induction l with
  | nil => exact Nat.le_refl _
  | cons a l ih =>
    rw [prodN_cons, List.length_cons, Nat.pow_succ, Nat.mul_comm]
    exact Nat.mul_le_mul (ih fun z hz => h z (by simp [hz])) (h a (by simp))
theorem prodN_gcd {l : List Nat} {p : Nat} (hp : Prime p) (h : ∀ z ∈ l, Prime z ∧ z ≠ p) : Nat.gcd (prodN l) p = 1 := by
  have hn : ¬ p ∣ prodN l := by
    induction l with
    | nil => intro z; have := Nat.le_of_dvd Nat.one_pos z; have := hp.1; omega
    | cons a l ih =>
      rw [prodN_cons]
      intro z
      have z2 : (p : Int) ∣ (a : Int) * (prodN l : Nat) := by rw [← Int.natCast_mul]; exact Int.natCast_dvd_natCast.mpr z
      rcases (dvd_mul_int hp z2).imp Int.natCast_dvd_natCast.mp Int.natCast_dvd_natCast.mp with w | w
      · obtain ⟨h1, h2⟩ := h a (by simp)
        rcases h1.2 _ w with e | e
        · have := hp.1; omega
        · exact h2 e.symm
      · exact ih (fun z hz => h z (by simp [hz])) w
  rcases hp.2 _ (Nat.gcd_dvd_right (prodN l) p) with z | z
  · exact z
  · exact absurd (by have := Nat.gcd_dvd_left (prodN l) p; rwa [z] at this) hn
/-- numbers alike with one of each of two lists -/
structure Col (W p : Nat) (xs ss ys : List Int) : Prop where
  nd : ys.Nodup
  iff : ∀ y, y ∈ ys ↔ 0 ≤ y ∧ y < (W * p : Nat) ∧ y % (W : Int) ∈ xs ∧ y % (p : Int) ∈ ss
  len : ys.length = xs.length * ss.length
theorem col_nil_x (W p : Nat) (ss : List Int) : Col W p [] ss [] := ⟨.nil, fun y => ⟨fun h => by simp at h, fun h => by simp at h⟩, by simp⟩
theorem col_nil_s (W p : Nat) (xs : List Int) : Col W p xs [] [] := ⟨.nil, fun y => ⟨fun h => by simp at h, fun h => by simp at h⟩, by simp⟩
theorem col_one {W p : Nat} {xs ys : List Int} {r s w y : Int} (h : Col W p xs [s] ys) (hg : Nat.gcd W p = 1) (r0 : 0 ≤ r) (r1 : r < W) (s0 : 0 ≤ s) (s1 : s < p) (hr : r ∉ xs) (hj : Joined W r p s w y) : w = (W * p : Nat) ∧ Col W p (xs ++ [r]) [s] (ys ++ [y]) := by
  have hw : w = (W * p : Nat) := by
    rw [hj.hw]
    congr 1
    show Nat.lcm W p = W * p
    unfold Nat.lcm
    rw [hg, Nat.div_one]
  have hyr : y % (W : Int) = r := by
    have := Int.emod_eq_emod_iff_emod_sub_eq_zero.mpr hj.e1
    rw [this, Int.emod_eq_of_lt r0 r1]
  have hys : y % (p : Int) = s := by
    have := Int.emod_eq_emod_iff_emod_sub_eq_zero.mpr hj.e2
    rw [this, Int.emod_eq_of_lt s0 s1]
  have y0 := hj.x0
  have y1 := hj.x1
  rw [hw] at y1
  refine ⟨hw, ?_, fun z => ?_, by rw [List.length_append, List.length_append, h.len]; simp⟩
  · refine List.nodup_append.mpr ⟨h.nd, by simp, fun a ha b hb e => ?_⟩
    rw [List.mem_singleton.mp hb] at e
    rw [e] at ha
    have := ((h.iff y).mp ha).2.2.1
    rw [hyr] at this
    exact hr this
  · rw [List.mem_append, List.mem_singleton, h.iff z, List.mem_append]
    constructor
    · rintro (⟨a, b, c, d⟩ | rfl)
      · exact ⟨a, b, .inl c, d⟩
      · exact ⟨y0, y1, .inr (by rw [hyr]; simp), by rw [hys]; simp⟩
    · rintro ⟨a, b, c | c, d⟩
      · exact .inl ⟨a, b, c, d⟩
      · right
        rw [List.mem_singleton] at c d
        have d1 : (W : Int) ∣ z - y := Int.dvd_of_emod_eq_zero (Int.emod_eq_emod_iff_emod_sub_eq_zero.mp (by rw [c, hyr]))
        have d2 : (p : Int) ∣ z - y := Int.dvd_of_emod_eq_zero (Int.emod_eq_emod_iff_emod_sub_eq_zero.mp (by rw [d, hys]))
        have d3 : ((W * p : Nat) : Int) ∣ z - y := Int.ofNat_dvd_left.mpr (Nat.Coprime.mul_dvd_of_dvd_of_dvd hg (Int.ofNat_dvd_left.mp d1) (Int.ofNat_dvd_left.mp d2))
        have e := Int.emod_eq_emod_iff_emod_sub_eq_zero.mpr (Int.emod_eq_zero_of_dvd d3)
        rwa [Int.emod_eq_of_lt a b, Int.emod_eq_of_lt y0 y1] at e
theorem col_app {W p : Nat} {xs ss ys zs : List Int} {s : Int} (h : Col W p xs ss ys) (h' : Col W p xs [s] zs) (hs : s ∉ ss) : Col W p xs (ss ++ [s]) (ys ++ zs) := by
  refine ⟨List.nodup_append.mpr ⟨h.nd, h'.nd, fun a ha b hb e => ?_⟩, fun y => ?_, by rw [List.length_append, List.length_append, h.len, h'.len, Nat.mul_add]⟩
  · rw [← e] at hb
    have h1 := ((h.iff a).mp ha).2.2.2
    have h2 := ((h'.iff a).mp hb).2.2.2
    rw [List.mem_singleton.mp h2] at h1
    exact hs h1
  · rw [List.mem_append, List.mem_append, h.iff y, h'.iff y]
    constructor
    · rintro (⟨a, b, c, d⟩ | ⟨a, b, c, d⟩)
      · exact ⟨a, b, c, .inl d⟩
      · exact ⟨a, b, c, .inr d⟩
    · rintro ⟨a, b, c, d | d⟩
      · exact .inl ⟨a, b, c, d⟩
      · exact .inr ⟨a, b, c, d⟩
/-- numbers alike with one of each list -/
structure Mixed (ps : List Nat) (ls : List (List Int)) (xs : List Int) : Prop where
  nd : xs.Nodup
  iff : ∀ y, y ∈ xs ↔ 0 ≤ y ∧ y < (prodN ps : Nat) ∧ ∀ (i p : Nat) (l : List Int), ps[i]? = some p → ls[i]? = some l → y % (p : Int) ∈ l
  len : xs.length = prodN (ls.map List.length)
theorem mixed_nil : Mixed [] [] [0] := ⟨by simp, fun y => by
  rw [List.mem_singleton]
  constructor
  · rintro rfl
    exact ⟨Int.le_refl _, by decide, fun i p l h => by simp at h⟩
  · rintro ⟨a, b, _⟩
    have b : y < 1 := b
    omega, rfl⟩
theorem mixed_more {ps : List Nat} {ls : List (List Int)} {xs ys l : List Int} {p : Nat} (h : Mixed ps ls xs) (hl : ls.length = ps.length) (h0 : 0 < prodN ps) (hc : Col (prodN ps) p xs l ys) : Mixed (ps ++ [p]) (ls ++ [l]) ys := by
  refine ⟨hc.nd, fun y => ?_, by rw [hc.len, h.len, List.map_append, List.map_cons, List.map_nil, prodN_snoc]⟩
  rw [hc.iff y, h.iff, prodN_snoc]
  have hm : ∀ (i q : Nat), ps[i]? = some q → y % (prodN ps : Nat) % (q : Int) = y % (q : Int) := fun i q hq => Int.emod_emod_of_dvd y (Int.natCast_dvd_natCast.mpr (prodN_dvd (List.mem_of_getElem? hq)))
  have r0 := Int.emod_nonneg y (show ((prodN ps : Nat) : Int) ≠ 0 by omega)
  have r1 := Int.emod_lt_of_pos y (show (0 : Int) < ((prodN ps : Nat) : Int) by omega)
  constructor
  · rintro ⟨a, b, ⟨_, _, c⟩, d⟩
    refine ⟨a, b, fun i q m hq hm' => ?_⟩
    rcases Nat.lt_or_ge i ps.length with z | z
    · rw [List.getElem?_append_left z] at hq
      rw [List.getElem?_append_left (by omega)] at hm'
      rw [← hm i q hq]
      exact c i q m hq hm'
    · rw [List.getElem?_append_right z] at hq
      rw [List.getElem?_append_right (by omega)] at hm'
      have hi : i - ps.length = 0 := by
        have := (List.getElem?_eq_some_iff.mp hq).1
        simp at this; omega
      rw [hi] at hq
      rw [hl, hi] at hm'
      cases hq
      cases hm'
      exact d
  · rintro ⟨a, b, c⟩
    refine ⟨a, b, ⟨r0, r1, fun i q m hq hm' => ?_⟩, ?_⟩
    · rw [hm i q hq]
      have z := (List.getElem?_eq_some_iff.mp hq).1
      exact c i q m (by rw [List.getElem?_append_left z]; exact hq) (by rw [List.getElem?_append_left (by omega)]; exact hm')
    · exact c ps.length p l (by rw [List.getElem?_append_right (Nat.le_refl _)]; simp) (by rw [List.getElem?_append_right (by omega), hl]; simp)
end M

namespace C
open PySem PySem.Spec PyProof.Rows L2 R

def top (i : Nat) : Stmt := PySem.Challenge.pw_rootprime_k68_roots_by_small_primes.main.body.getD i (.Pass ⟨0, 0, 0, 0⟩)
abbrev FnP (K : PySem.W.Frag) (x : Str) (st : Stmt) (f : Addr) (fd : FuncData) : Prop := FunD K x x (defArgs st) (defBody st) (defScope st) [] [] f fd
abbrev s_taken : Stmt := top 5
abbrev N_taken : List Str := ["q", "many", "found", "k"]
theorem sc_taken : FnScope N_taken ["q", "many"] (defScope s_taken) := ⟨rfl, rfl, rfl, by decide +kernel, rfl, by decide +kernel, by decide +kernel⟩
abbrev s_divisor : Stmt := top 7
abbrev N_divisor : List Str := ["a", "b", "g", "u", "v", "rest", "x", "y", "times"]
theorem sc_divisor : FnScope N_divisor ["a", "b"] (defScope s_divisor) := ⟨rfl, rfl, rfl, by decide +kernel, rfl, by decide +kernel, by decide +kernel⟩
abbrev s_inverse : Stmt := top 8
abbrev N_inverse : List Str := ["n", "a", "g", "u", "v"]
theorem sc_inverse : FnScope N_inverse ["n", "a"] (defScope s_inverse) := ⟨rfl, rfl, rfl, by decide +kernel, rfl, by decide +kernel, by decide +kernel⟩
abbrev s_power : Stmt := top 10
abbrev N_power : List Str := ["n", "a", "e", "found", "base"]
theorem sc_power : FnScope N_power ["n", "a", "e"] (defScope s_power) := ⟨rfl, rfl, rfl, by decide +kernel, rfl, by decide +kernel, by decide +kernel⟩
abbrev s_places_by : Stmt := top 13
abbrev N_places_by : List Str := ["p", "w", "q", "found", "here", "place"]
theorem sc_places_by : FnScope N_places_by ["p", "w", "q"] (defScope s_places_by) := ⟨rfl, rfl, rfl, by decide +kernel, rfl, by decide +kernel, by decide +kernel⟩
abbrev s_place_of : Stmt := top 14
abbrev N_place_of : List Str := ["p", "w", "c", "q", "many", "whole", "places", "found", "step", "k", "rest"]
theorem sc_place_of : FnScope N_place_of ["p", "w", "c", "q", "many"] (defScope s_place_of) := ⟨rfl, rfl, rfl, by decide +kernel, rfl, by decide +kernel, by decide +kernel⟩
abbrev s_root_in : Stmt := top 15
abbrev N_root_in : List Str := ["paper", "q", "many", "d", "c", "p", "full", "parts", "whole", "left", "w", "place"]
theorem sc_root_in : FnScope N_root_in ["paper", "q", "many", "d", "c"] (defScope s_root_in) := ⟨rfl, rfl, rfl, by decide +kernel, rfl, by decide +kernel, by decide +kernel⟩
abbrev s_one_root : Stmt := top 16
abbrev N_one_root : List Str := ["paper", "d", "c", "p", "full", "parts", "left", "root", "part", "many", "mine"]
theorem sc_one_root : FnScope N_one_root ["paper", "d", "c"] (defScope s_one_root) := ⟨rfl, rfl, rfl, by decide +kernel, rfl, by decide +kernel, by decide +kernel⟩
abbrev s_turned : Stmt := top 17
abbrev N_turned : List Str := ["p", "root", "turn", "d", "found", "k"]
theorem sc_turned : FnScope N_turned ["p", "root", "turn", "d"] (defScope s_turned) := ⟨rfl, rfl, rfl, by decide +kernel, rfl, by decide +kernel, by decide +kernel⟩
abbrev s_roots : Stmt := top 18
abbrev N_roots : List Str := ["paper", "k", "a", "p", "full", "parts", "d", "e", "rest", "turn", "root", "found"]
theorem sc_roots : FnScope N_roots ["paper", "k", "a"] (defScope s_roots) := ⟨rfl, rfl, rfl, by decide +kernel, rfl, by decide +kernel, by decide +kernel⟩
abbrev s_joined : Stmt := top 20
abbrev N_joined : List Str := ["one", "other", "g", "step", "times", "whole"]
theorem sc_joined : FnScope N_joined ["one", "other"] (defScope s_joined) := ⟨rfl, rfl, rfl, by decide +kernel, rfl, by decide +kernel, by decide +kernel⟩
abbrev s_roots_by : Stmt := top 23
abbrev N_roots_by : List Str := ["paper", "k", "a", "p", "d", "e", "rest"]
theorem sc_roots_by : FnScope N_roots_by ["paper", "k", "a"] (defScope s_roots_by) := ⟨rfl, rfl, rfl, by decide +kernel, rfl, by decide +kernel, by decide +kernel⟩
abbrev s_each_with_each : Stmt := top 24
abbrev N_each_with_each : List Str := ["papers", "lists", "found", "paper", "numbers", "more", "number", "place"]
theorem sc_each_with_each : FnScope N_each_with_each ["papers", "lists"] (defScope s_each_with_each) := ⟨rfl, rfl, rfl, by decide +kernel, rfl, by decide +kernel, by decide +kernel⟩
abbrev s_roots_of : Stmt := top 25
abbrev N_roots_of : List Str := ["papers", "k", "a", "many", "n", "paper", "here", "why", "told", "found", "one"]
theorem sc_roots_of : FnScope N_roots_of ["papers", "k", "a"] (defScope s_roots_of) := ⟨rfl, rfl, rfl, by decide +kernel, rfl, by decide +kernel, by decide +kernel⟩
abbrev s__law_cell_at : Stmt := top 27
abbrev N__law_cell_at : List Str := ["_law_script", "_law_k"]
theorem sc__law_cell_at : FnScope N__law_cell_at ["_law_script", "_law_k"] (defScope s__law_cell_at) := ⟨rfl, rfl, rfl, by decide +kernel, rfl, by decide +kernel, by decide +kernel⟩
abbrev s__law_state : Stmt := top 28
abbrev N__law_state : List Str := ["_law_cell", "_law_free"]
theorem sc__law_state : FnScope N__law_state ["_law_cell", "_law_free"] (defScope s__law_state) := ⟨rfl, rfl, rfl, by decide +kernel, rfl, by decide +kernel, by decide +kernel⟩
abbrev s__law_take : Stmt := top 29
abbrev N__law_take : List Str := ["_law_state_here", "_law_many", "_law_found"]
theorem sc__law_take : FnScope N__law_take ["_law_state_here", "_law_many"] (defScope s__law_take) := ⟨rfl, rfl, rfl, by decide +kernel, rfl, by decide +kernel, by decide +kernel⟩
abbrev s__law_number : Stmt := top 30
abbrev N__law_number : List Str := ["_law_state_here", "_law_way", "_law_found", "_law_k"]
theorem sc__law_number : FnScope N__law_number ["_law_state_here"] (defScope s__law_number) := ⟨rfl, rfl, rfl, by decide +kernel, rfl, by decide +kernel, by decide +kernel⟩
abbrev s__law_power : Stmt := top 31
abbrev N__law_power : List Str := ["_law_n", "_law_a", "_law_e", "_law_found", "_law_base"]
theorem sc__law_power : FnScope N__law_power ["_law_n", "_law_a", "_law_e"] (defScope s__law_power) := ⟨rfl, rfl, rfl, by decide +kernel, rfl, by decide +kernel, by decide +kernel⟩
abbrev s__law_steps : Stmt := top 32
abbrev N__law_steps : List Str := ["_law_p", "_law_a", "_law_here", "_law_many"]
theorem sc__law_steps : FnScope N__law_steps ["_law_p", "_law_a"] (defScope s__law_steps) := ⟨rfl, rfl, rfl, by decide +kernel, rfl, by decide +kernel, by decide +kernel⟩
abbrev s__law_parted : Stmt := top 33
abbrev N__law_parted : List Str := ["_law_n", "_law_found", "_law_d", "_law_many"]
theorem sc__law_parted : FnScope N__law_parted ["_law_n"] (defScope s__law_parted) := ⟨rfl, rfl, rfl, by decide +kernel, rfl, by decide +kernel, by decide +kernel⟩
abbrev s__law_paper : Stmt := top 34
abbrev N__law_paper : List Str := ["_law_p", "_law_full", "_law_q", "_law_many"]
theorem sc__law_paper : FnScope N__law_paper ["_law_p"] (defScope s__law_paper) := ⟨rfl, rfl, rfl, by decide +kernel, rfl, by decide +kernel, by decide +kernel⟩
abbrev s__law_primes : Stmt := top 35
abbrev N__law_primes : List Str := ["_law_state_here", "_law_found", "_law_whole_here", "_law_k", "_law_n", "_law_d"]
theorem sc__law_primes : FnScope N__law_primes ["_law_state_here"] (defScope s__law_primes) := ⟨rfl, rfl, rfl, by decide +kernel, rfl, by decide +kernel, by decide +kernel⟩
abbrev s__law_common : Stmt := top 36
abbrev N__law_common : List Str := ["_law_one", "_law_other"]
theorem sc__law_common : FnScope N__law_common ["_law_one", "_law_other"] (defScope s__law_common) := ⟨rfl, rfl, rfl, by decide +kernel, rfl, by decide +kernel, by decide +kernel⟩
abbrev s__law_order : Stmt := top 37
abbrev N__law_order : List Str := ["_law_state_here"]
theorem sc__law_order : FnScope N__law_order ["_law_state_here"] (defScope s__law_order) := ⟨rfl, rfl, rfl, by decide +kernel, rfl, by decide +kernel, by decide +kernel⟩
abbrev s__law_lists : Stmt := top 38
abbrev N__law_lists : List Str := ["_law_primes_here", "_law_k", "_law_a", "_law_p", "_law_x"]
theorem sc__law_lists : FnScope N__law_lists ["_law_primes_here", "_law_k", "_law_a"] (defScope s__law_lists) := ⟨rfl, rfl, rfl, by decide +kernel, rfl, by decide +kernel, by decide +kernel⟩
abbrev s__law_told : Stmt := top 39
abbrev N__law_told : List Str := ["_law_papers", "_law_k", "_law_a", "_law_found", "_law_many", "error"]
theorem sc__law_told : FnScope N__law_told ["_law_papers", "_law_k", "_law_a"] (defScope s__law_told) := ⟨rfl, rfl, rfl, by decide +kernel, rfl, by decide +kernel, by decide +kernel⟩
abbrev s__law_is_row : Stmt := top 40
abbrev N__law_is_row : List Str := ["_law_p", "_law_alike", "_law_row"]
theorem sc__law_is_row : FnScope N__law_is_row ["_law_p", "_law_alike", "_law_row"] (defScope s__law_is_row) := ⟨rfl, rfl, rfl, by decide +kernel, rfl, by decide +kernel, by decide +kernel⟩
abbrev s__law_shown : Stmt := top 41
abbrev N__law_shown : List Str := ["_law_primes_here", "_law_k", "_law_a", "_law_lists_here", "_law_shown_here", "_law_n", "_law_e"]
theorem sc__law_shown : FnScope N__law_shown ["_law_primes_here", "_law_k", "_law_a", "_law_lists_here", "_law_shown_here"] (defScope s__law_shown) := ⟨rfl, rfl, rfl, by decide +kernel, rfl, by decide +kernel, by decide +kernel⟩
abbrev s__law_whole : Stmt := top 42
abbrev N__law_whole : List Str := ["_law_primes_here", "_law_whole_here", "_law_p"]
theorem sc__law_whole : FnScope N__law_whole ["_law_primes_here"] (defScope s__law_whole) := ⟨rfl, rfl, rfl, by decide +kernel, rfl, by decide +kernel, by decide +kernel⟩
abbrev s__law_is_alike : Stmt := top 43
abbrev N__law_is_alike : List Str := ["_law_primes_here", "_law_lists_here", "_law_x", "_law_p", "_law_alike"]
theorem sc__law_is_alike : FnScope N__law_is_alike ["_law_primes_here", "_law_lists_here", "_law_x"] (defScope s__law_is_alike) := ⟨rfl, rfl, rfl, by decide +kernel, rfl, by decide +kernel, by decide +kernel⟩
abbrev s__law_right : Stmt := top 44
abbrev N__law_right : List Str := ["_law_primes_here", "_law_k", "_law_a", "_law_lists_here", "_law_told_here", "_law_many", "_law_alike", "_law_found", "_law_x"]
theorem sc__law_right : FnScope N__law_right ["_law_primes_here", "_law_k", "_law_a", "_law_lists_here", "_law_told_here"] (defScope s__law_right) := ⟨rfl, rfl, rfl, by decide +kernel, rfl, by decide +kernel, by decide +kernel⟩
abbrev s_law : Stmt := top 45
abbrev N_law : List Str := ["_law_script", "_law_cell", "_law_state_here", "_law_primes_here", "_law_papers", "_law_k", "_law_a", "_law_whole_here", "_law_lists_here", "_law_turn", "_law_told_here", "_law_p"]
theorem sc_law : FnScope N_law ["_law_script"] (defScope s_law) := ⟨rfl, rfl, rfl, by decide +kernel, rfl, by decide +kernel, by decide +kernel⟩
abbrev s_init_NoInverse : Stmt := inClass (top 2) 0
theorem sc_init_NoInverse : FnScope ["self", "divisor"] ["self", "divisor"] (defScope s_init_NoInverse) := ⟨rfl, rfl, rfl, by decide +kernel, rfl, by decide +kernel, by decide +kernel⟩
abbrev s_init_TooMany : Stmt := inClass (top 3) 0
theorem sc_init_TooMany : FnScope ["self", "many"] ["self", "many"] (defScope s_init_TooMany) := ⟨rfl, rfl, rfl, by decide +kernel, rfl, by decide +kernel, by decide +kernel⟩
def fn : List He5.DefA := [⟨fun K => He.ga K "taken", "taken", "taken", defArgs s_taken, defBody s_taken, defScope s_taken, [], []⟩,
  ⟨fun K => He.ga K "divisor", "divisor", "divisor", defArgs s_divisor, defBody s_divisor, defScope s_divisor, [], []⟩,
  ⟨fun K => He.ga K "inverse", "inverse", "inverse", defArgs s_inverse, defBody s_inverse, defScope s_inverse, [], []⟩,
  ⟨fun K => He.ga K "power", "power", "power", defArgs s_power, defBody s_power, defScope s_power, [], []⟩,
  ⟨fun K => He.ga K "places_by", "places_by", "places_by", defArgs s_places_by, defBody s_places_by, defScope s_places_by, [], []⟩,
  ⟨fun K => He.ga K "place_of", "place_of", "place_of", defArgs s_place_of, defBody s_place_of, defScope s_place_of, [], []⟩,
  ⟨fun K => He.ga K "root_in", "root_in", "root_in", defArgs s_root_in, defBody s_root_in, defScope s_root_in, [], []⟩,
  ⟨fun K => He.ga K "one_root", "one_root", "one_root", defArgs s_one_root, defBody s_one_root, defScope s_one_root, [], []⟩,
  ⟨fun K => He.ga K "turned", "turned", "turned", defArgs s_turned, defBody s_turned, defScope s_turned, [], []⟩,
  ⟨fun K => He.ga K "roots", "roots", "roots", defArgs s_roots, defBody s_roots, defScope s_roots, [], []⟩,
  ⟨fun K => He.ga K "joined", "joined", "joined", defArgs s_joined, defBody s_joined, defScope s_joined, [], []⟩,
  ⟨fun K => He.ga K "roots_by", "roots_by", "roots_by", defArgs s_roots_by, defBody s_roots_by, defScope s_roots_by, [], []⟩,
  ⟨fun K => He.ga K "each_with_each", "each_with_each", "each_with_each", defArgs s_each_with_each, defBody s_each_with_each, defScope s_each_with_each, [], []⟩,
  ⟨fun K => He.ga K "roots_of", "roots_of", "roots_of", defArgs s_roots_of, defBody s_roots_of, defScope s_roots_of, [], []⟩,
  ⟨fun K => He.ga K "_law_cell_at", "_law_cell_at", "_law_cell_at", defArgs s__law_cell_at, defBody s__law_cell_at, defScope s__law_cell_at, [], []⟩,
  ⟨fun K => He.ga K "_law_state", "_law_state", "_law_state", defArgs s__law_state, defBody s__law_state, defScope s__law_state, [], []⟩,
  ⟨fun K => He.ga K "_law_take", "_law_take", "_law_take", defArgs s__law_take, defBody s__law_take, defScope s__law_take, [], []⟩,
  ⟨fun K => He.ga K "_law_number", "_law_number", "_law_number", defArgs s__law_number, defBody s__law_number, defScope s__law_number, [], []⟩,
  ⟨fun K => He.ga K "_law_power", "_law_power", "_law_power", defArgs s__law_power, defBody s__law_power, defScope s__law_power, [], []⟩,
  ⟨fun K => He.ga K "_law_steps", "_law_steps", "_law_steps", defArgs s__law_steps, defBody s__law_steps, defScope s__law_steps, [], []⟩,
  ⟨fun K => He.ga K "_law_parted", "_law_parted", "_law_parted", defArgs s__law_parted, defBody s__law_parted, defScope s__law_parted, [], []⟩,
  ⟨fun K => He.ga K "_law_paper", "_law_paper", "_law_paper", defArgs s__law_paper, defBody s__law_paper, defScope s__law_paper, [], []⟩,
  ⟨fun K => He.ga K "_law_primes", "_law_primes", "_law_primes", defArgs s__law_primes, defBody s__law_primes, defScope s__law_primes, [], []⟩,
  ⟨fun K => He.ga K "_law_common", "_law_common", "_law_common", defArgs s__law_common, defBody s__law_common, defScope s__law_common, [], []⟩,
  ⟨fun K => He.ga K "_law_order", "_law_order", "_law_order", defArgs s__law_order, defBody s__law_order, defScope s__law_order, [], []⟩,
  ⟨fun K => He.ga K "_law_lists", "_law_lists", "_law_lists", defArgs s__law_lists, defBody s__law_lists, defScope s__law_lists, [], []⟩,
  ⟨fun K => He.ga K "_law_told", "_law_told", "_law_told", defArgs s__law_told, defBody s__law_told, defScope s__law_told, [], []⟩,
  ⟨fun K => He.ga K "_law_is_row", "_law_is_row", "_law_is_row", defArgs s__law_is_row, defBody s__law_is_row, defScope s__law_is_row, [], []⟩,
  ⟨fun K => He.ga K "_law_shown", "_law_shown", "_law_shown", defArgs s__law_shown, defBody s__law_shown, defScope s__law_shown, [], []⟩,
  ⟨fun K => He.ga K "_law_whole", "_law_whole", "_law_whole", defArgs s__law_whole, defBody s__law_whole, defScope s__law_whole, [], []⟩,
  ⟨fun K => He.ga K "_law_is_alike", "_law_is_alike", "_law_is_alike", defArgs s__law_is_alike, defBody s__law_is_alike, defScope s__law_is_alike, [], []⟩,
  ⟨fun K => He.ga K "_law_right", "_law_right", "_law_right", defArgs s__law_right, defBody s__law_right, defScope s__law_right, [], []⟩,
  ⟨fun K => He.ga K "law", "law", "law", defArgs s_law, defBody s_law, defScope s_law, [], []⟩,
  ⟨fun K => He.ma K (He.ga K "NoInverse") "__init__", "__init__", "NoInverse.__init__", defArgs s_init_NoInverse, defBody s_init_NoInverse, defScope s_init_NoInverse, [], []⟩,
  ⟨fun K => He.ma K (He.ga K "TooMany") "__init__", "__init__", "TooMany.__init__", defArgs s_init_TooMany, defBody s_init_TooMany, defScope s_init_TooMany, [], []⟩]
def fa : List FB := [fun K => (He.Fa.glo "taken").ok K, fun K => (He.Fa.glo "divisor").ok K, fun K => (He.Fa.glo "inverse").ok K, fun K => (He.Fa.glo "power").ok K, fun K => (He.Fa.glo "places_by").ok K, fun K => (He.Fa.glo "place_of").ok K, fun K => (He.Fa.glo "root_in").ok K, fun K => (He.Fa.glo "one_root").ok K, fun K => (He.Fa.glo "turned").ok K, fun K => (He.Fa.glo "roots").ok K, fun K => (He.Fa.glo "joined").ok K, fun K => (He.Fa.glo "roots_by").ok K, fun K => (He.Fa.glo "each_with_each").ok K, fun K => (He.Fa.glo "roots_of").ok K, fun K => (He.Fa.glo "_law_cell_at").ok K, fun K => (He.Fa.glo "_law_state").ok K, fun K => (He.Fa.glo "_law_take").ok K, fun K => (He.Fa.glo "_law_number").ok K, fun K => (He.Fa.glo "_law_power").ok K, fun K => (He.Fa.glo "_law_steps").ok K, fun K => (He.Fa.glo "_law_parted").ok K, fun K => (He.Fa.glo "_law_paper").ok K, fun K => (He.Fa.glo "_law_primes").ok K, fun K => (He.Fa.glo "_law_common").ok K, fun K => (He.Fa.glo "_law_order").ok K, fun K => (He.Fa.glo "_law_lists").ok K, fun K => (He.Fa.glo "_law_told").ok K, fun K => (He.Fa.glo "_law_is_row").ok K, fun K => (He.Fa.glo "_law_shown").ok K, fun K => (He.Fa.glo "_law_whole").ok K, fun K => (He.Fa.glo "_law_is_alike").ok K, fun K => (He.Fa.glo "_law_right").ok K, fun K => (He.Fa.glo "law").ok K, fun K => (He.Fa.glo "PrimeError").ok K, fun K => (He.Fa.glo "NoInverse").ok K, fun K => (He.Fa.glo "TooMany").ok K, fun K => (He.Fa.free "range").ok K, fun K => (He.Fa.free "sorted").ok K, fun K => (He.Fa.free "zip").ok K, fun K => (He.Fa.free "enumerate").ok K, fun K => (He.Fa.free "tuple").ok K, fun K => (He.Fa.free "len").ok K, fun K => (He.Fa.free "isinstance").ok K, fun K => (He.Fa.free "bool").ok K, fun K => (He.Fa.free "int").ok K, fun K => (He.Fa.int "MOST_ROOTS_roots" 400).ok K, fun K => (He.Fa.int "MOST_ROOTS_manyprimes" 400).ok K, fun K => xinB "NoInverse" "divisor" K, fun K => baseB (He.ga K "PrimeError") K, fun K => xinB "TooMany" "many" K, fun K => (He.Fa.exc "PrimeError").ok K, fun K => (He.Fa.exm "TooMany" "TooMany" true).ok K]
structure Txt (K : PySem.W.Frag) (mg : Str → Option Value) : Prop where
  c : Told fa fn K
  gl : ∀ {x : Str}, (He.Fa.glo x).ok K = true → mg x = some (.ref (He.ga K x))
  fr : ∀ {x : Str}, (He.Fa.free x).ok K = true → mg x = none
  int_ok : ∀ {x : Str} {i : Int}, (He.Fa.int x i).ok K = true → ∃ t, mg x = some (.int i t)
section
variable {P : Program} {w : World} {K : PySem.W.Frag} {mg : Str → Option Value} {base : Heap}
theorem F0_taken (T : Txt K mg) : ∃ fd, FnP K "taken" s_taken (He.ga K "taken") fd := T.c.dfn 0 rfl
noncomputable def fd_taken (T : Txt K mg) : FuncData := (F0_taken T).choose
theorem F_taken (T : Txt K mg) : FnP K "taken" s_taken (He.ga K "taken") (fd_taken T) := (F0_taken T).choose_spec
theorem g_taken (T : Txt K mg) : mg "taken" = some (.ref (He.ga K "taken")) := T.gl (T.c.fact 0 rfl)
theorem kp_taken (T : Txt K mg) : PySem.W.keepIn K (.ref (He.ga K "taken")) = true := (F_taken T).kp
theorem B_taken (T : Txt K mg) : Binds K (fd_taken T) ["q", "many"] [] := (F_taken T).bindsN fun _ _ _ _ _ _ us hl => match us, hl with | [_, _], _ => rfl
theorem F0_divisor (T : Txt K mg) : ∃ fd, FnP K "divisor" s_divisor (He.ga K "divisor") fd := T.c.dfn 1 rfl
noncomputable def fd_divisor (T : Txt K mg) : FuncData := (F0_divisor T).choose
theorem F_divisor (T : Txt K mg) : FnP K "divisor" s_divisor (He.ga K "divisor") (fd_divisor T) := (F0_divisor T).choose_spec
theorem g_divisor (T : Txt K mg) : mg "divisor" = some (.ref (He.ga K "divisor")) := T.gl (T.c.fact 1 rfl)
theorem kp_divisor (T : Txt K mg) : PySem.W.keepIn K (.ref (He.ga K "divisor")) = true := (F_divisor T).kp
theorem B_divisor (T : Txt K mg) : Binds K (fd_divisor T) ["a", "b"] [] := (F_divisor T).bindsN fun _ _ _ _ _ _ us hl => match us, hl with | [_, _], _ => rfl
theorem F0_inverse (T : Txt K mg) : ∃ fd, FnP K "inverse" s_inverse (He.ga K "inverse") fd := T.c.dfn 2 rfl
noncomputable def fd_inverse (T : Txt K mg) : FuncData := (F0_inverse T).choose
theorem F_inverse (T : Txt K mg) : FnP K "inverse" s_inverse (He.ga K "inverse") (fd_inverse T) := (F0_inverse T).choose_spec
theorem g_inverse (T : Txt K mg) : mg "inverse" = some (.ref (He.ga K "inverse")) := T.gl (T.c.fact 2 rfl)
theorem kp_inverse (T : Txt K mg) : PySem.W.keepIn K (.ref (He.ga K "inverse")) = true := (F_inverse T).kp
theorem B_inverse (T : Txt K mg) : Binds K (fd_inverse T) ["n", "a"] [] := (F_inverse T).bindsN fun _ _ _ _ _ _ us hl => match us, hl with | [_, _], _ => rfl
theorem F0_power (T : Txt K mg) : ∃ fd, FnP K "power" s_power (He.ga K "power") fd := T.c.dfn 3 rfl
noncomputable def fd_power (T : Txt K mg) : FuncData := (F0_power T).choose
theorem F_power (T : Txt K mg) : FnP K "power" s_power (He.ga K "power") (fd_power T) := (F0_power T).choose_spec
theorem g_power (T : Txt K mg) : mg "power" = some (.ref (He.ga K "power")) := T.gl (T.c.fact 3 rfl)
theorem kp_power (T : Txt K mg) : PySem.W.keepIn K (.ref (He.ga K "power")) = true := (F_power T).kp
theorem B_power (T : Txt K mg) : Binds K (fd_power T) ["n", "a", "e"] [] := (F_power T).bindsN fun _ _ _ _ _ _ us hl => match us, hl with | [_, _, _], _ => rfl
theorem F0_places_by (T : Txt K mg) : ∃ fd, FnP K "places_by" s_places_by (He.ga K "places_by") fd := T.c.dfn 4 rfl
noncomputable def fd_places_by (T : Txt K mg) : FuncData := (F0_places_by T).choose
theorem F_places_by (T : Txt K mg) : FnP K "places_by" s_places_by (He.ga K "places_by") (fd_places_by T) := (F0_places_by T).choose_spec
theorem g_places_by (T : Txt K mg) : mg "places_by" = some (.ref (He.ga K "places_by")) := T.gl (T.c.fact 4 rfl)
theorem kp_places_by (T : Txt K mg) : PySem.W.keepIn K (.ref (He.ga K "places_by")) = true := (F_places_by T).kp
theorem B_places_by (T : Txt K mg) : Binds K (fd_places_by T) ["p", "w", "q"] [] := (F_places_by T).bindsN fun _ _ _ _ _ _ us hl => match us, hl with | [_, _, _], _ => rfl
theorem F0_place_of (T : Txt K mg) : ∃ fd, FnP K "place_of" s_place_of (He.ga K "place_of") fd := T.c.dfn 5 rfl
noncomputable def fd_place_of (T : Txt K mg) : FuncData := (F0_place_of T).choose
theorem F_place_of (T : Txt K mg) : FnP K "place_of" s_place_of (He.ga K "place_of") (fd_place_of T) := (F0_place_of T).choose_spec
theorem g_place_of (T : Txt K mg) : mg "place_of" = some (.ref (He.ga K "place_of")) := T.gl (T.c.fact 5 rfl)
theorem kp_place_of (T : Txt K mg) : PySem.W.keepIn K (.ref (He.ga K "place_of")) = true := (F_place_of T).kp
theorem B_place_of (T : Txt K mg) : Binds K (fd_place_of T) ["p", "w", "c", "q", "many"] [] := (F_place_of T).bindsN fun _ _ _ _ _ _ us hl => match us, hl with | [_, _, _, _, _], _ => rfl
theorem F0_root_in (T : Txt K mg) : ∃ fd, FnP K "root_in" s_root_in (He.ga K "root_in") fd := T.c.dfn 6 rfl
noncomputable def fd_root_in (T : Txt K mg) : FuncData := (F0_root_in T).choose
theorem F_root_in (T : Txt K mg) : FnP K "root_in" s_root_in (He.ga K "root_in") (fd_root_in T) := (F0_root_in T).choose_spec
theorem g_root_in (T : Txt K mg) : mg "root_in" = some (.ref (He.ga K "root_in")) := T.gl (T.c.fact 6 rfl)
theorem kp_root_in (T : Txt K mg) : PySem.W.keepIn K (.ref (He.ga K "root_in")) = true := (F_root_in T).kp
theorem B_root_in (T : Txt K mg) : Binds K (fd_root_in T) ["paper", "q", "many", "d", "c"] [] := (F_root_in T).bindsN fun _ _ _ _ _ _ us hl => match us, hl with | [_, _, _, _, _], _ => rfl
theorem F0_one_root (T : Txt K mg) : ∃ fd, FnP K "one_root" s_one_root (He.ga K "one_root") fd := T.c.dfn 7 rfl
noncomputable def fd_one_root (T : Txt K mg) : FuncData := (F0_one_root T).choose
theorem F_one_root (T : Txt K mg) : FnP K "one_root" s_one_root (He.ga K "one_root") (fd_one_root T) := (F0_one_root T).choose_spec
theorem g_one_root (T : Txt K mg) : mg "one_root" = some (.ref (He.ga K "one_root")) := T.gl (T.c.fact 7 rfl)
theorem kp_one_root (T : Txt K mg) : PySem.W.keepIn K (.ref (He.ga K "one_root")) = true := (F_one_root T).kp
theorem B_one_root (T : Txt K mg) : Binds K (fd_one_root T) ["paper", "d", "c"] [] := (F_one_root T).bindsN fun _ _ _ _ _ _ us hl => match us, hl with | [_, _, _], _ => rfl
theorem F0_turned (T : Txt K mg) : ∃ fd, FnP K "turned" s_turned (He.ga K "turned") fd := T.c.dfn 8 rfl
noncomputable def fd_turned (T : Txt K mg) : FuncData := (F0_turned T).choose
theorem F_turned (T : Txt K mg) : FnP K "turned" s_turned (He.ga K "turned") (fd_turned T) := (F0_turned T).choose_spec
theorem g_turned (T : Txt K mg) : mg "turned" = some (.ref (He.ga K "turned")) := T.gl (T.c.fact 8 rfl)
theorem kp_turned (T : Txt K mg) : PySem.W.keepIn K (.ref (He.ga K "turned")) = true := (F_turned T).kp
theorem B_turned (T : Txt K mg) : Binds K (fd_turned T) ["p", "root", "turn", "d"] [] := (F_turned T).bindsN fun _ _ _ _ _ _ us hl => match us, hl with | [_, _, _, _], _ => rfl
theorem F0_roots (T : Txt K mg) : ∃ fd, FnP K "roots" s_roots (He.ga K "roots") fd := T.c.dfn 9 rfl
noncomputable def fd_roots (T : Txt K mg) : FuncData := (F0_roots T).choose
theorem F_roots (T : Txt K mg) : FnP K "roots" s_roots (He.ga K "roots") (fd_roots T) := (F0_roots T).choose_spec
theorem g_roots (T : Txt K mg) : mg "roots" = some (.ref (He.ga K "roots")) := T.gl (T.c.fact 9 rfl)
theorem kp_roots (T : Txt K mg) : PySem.W.keepIn K (.ref (He.ga K "roots")) = true := (F_roots T).kp
theorem B_roots (T : Txt K mg) : Binds K (fd_roots T) ["paper", "k", "a"] [] := (F_roots T).bindsN fun _ _ _ _ _ _ us hl => match us, hl with | [_, _, _], _ => rfl
theorem F0_joined (T : Txt K mg) : ∃ fd, FnP K "joined" s_joined (He.ga K "joined") fd := T.c.dfn 10 rfl
noncomputable def fd_joined (T : Txt K mg) : FuncData := (F0_joined T).choose
theorem F_joined (T : Txt K mg) : FnP K "joined" s_joined (He.ga K "joined") (fd_joined T) := (F0_joined T).choose_spec
theorem g_joined (T : Txt K mg) : mg "joined" = some (.ref (He.ga K "joined")) := T.gl (T.c.fact 10 rfl)
theorem kp_joined (T : Txt K mg) : PySem.W.keepIn K (.ref (He.ga K "joined")) = true := (F_joined T).kp
theorem B_joined (T : Txt K mg) : Binds K (fd_joined T) ["one", "other"] [] := (F_joined T).bindsN fun _ _ _ _ _ _ us hl => match us, hl with | [_, _], _ => rfl
theorem F0_roots_by (T : Txt K mg) : ∃ fd, FnP K "roots_by" s_roots_by (He.ga K "roots_by") fd := T.c.dfn 11 rfl
noncomputable def fd_roots_by (T : Txt K mg) : FuncData := (F0_roots_by T).choose
theorem F_roots_by (T : Txt K mg) : FnP K "roots_by" s_roots_by (He.ga K "roots_by") (fd_roots_by T) := (F0_roots_by T).choose_spec
theorem g_roots_by (T : Txt K mg) : mg "roots_by" = some (.ref (He.ga K "roots_by")) := T.gl (T.c.fact 11 rfl)
theorem kp_roots_by (T : Txt K mg) : PySem.W.keepIn K (.ref (He.ga K "roots_by")) = true := (F_roots_by T).kp
theorem B_roots_by (T : Txt K mg) : Binds K (fd_roots_by T) ["paper", "k", "a"] [] := (F_roots_by T).bindsN fun _ _ _ _ _ _ us hl => match us, hl with | [_, _, _], _ => rfl
theorem F0_each_with_each (T : Txt K mg) : ∃ fd, FnP K "each_with_each" s_each_with_each (He.ga K "each_with_each") fd := T.c.dfn 12 rfl
noncomputable def fd_each_with_each (T : Txt K mg) : FuncData := (F0_each_with_each T).choose
theorem F_each_with_each (T : Txt K mg) : FnP K "each_with_each" s_each_with_each (He.ga K "each_with_each") (fd_each_with_each T) := (F0_each_with_each T).choose_spec
theorem g_each_with_each (T : Txt K mg) : mg "each_with_each" = some (.ref (He.ga K "each_with_each")) := T.gl (T.c.fact 12 rfl)
theorem kp_each_with_each (T : Txt K mg) : PySem.W.keepIn K (.ref (He.ga K "each_with_each")) = true := (F_each_with_each T).kp
theorem B_each_with_each (T : Txt K mg) : Binds K (fd_each_with_each T) ["papers", "lists"] [] := (F_each_with_each T).bindsN fun _ _ _ _ _ _ us hl => match us, hl with | [_, _], _ => rfl
theorem F0_roots_of (T : Txt K mg) : ∃ fd, FnP K "roots_of" s_roots_of (He.ga K "roots_of") fd := T.c.dfn 13 rfl
noncomputable def fd_roots_of (T : Txt K mg) : FuncData := (F0_roots_of T).choose
theorem F_roots_of (T : Txt K mg) : FnP K "roots_of" s_roots_of (He.ga K "roots_of") (fd_roots_of T) := (F0_roots_of T).choose_spec
theorem g_roots_of (T : Txt K mg) : mg "roots_of" = some (.ref (He.ga K "roots_of")) := T.gl (T.c.fact 13 rfl)
theorem kp_roots_of (T : Txt K mg) : PySem.W.keepIn K (.ref (He.ga K "roots_of")) = true := (F_roots_of T).kp
theorem B_roots_of (T : Txt K mg) : Binds K (fd_roots_of T) ["papers", "k", "a"] [] := (F_roots_of T).bindsN fun _ _ _ _ _ _ us hl => match us, hl with | [_, _, _], _ => rfl
theorem F0__law_cell_at (T : Txt K mg) : ∃ fd, FnP K "_law_cell_at" s__law_cell_at (He.ga K "_law_cell_at") fd := T.c.dfn 14 rfl
noncomputable def fd__law_cell_at (T : Txt K mg) : FuncData := (F0__law_cell_at T).choose
theorem F__law_cell_at (T : Txt K mg) : FnP K "_law_cell_at" s__law_cell_at (He.ga K "_law_cell_at") (fd__law_cell_at T) := (F0__law_cell_at T).choose_spec
theorem g__law_cell_at (T : Txt K mg) : mg "_law_cell_at" = some (.ref (He.ga K "_law_cell_at")) := T.gl (T.c.fact 14 rfl)
theorem kp__law_cell_at (T : Txt K mg) : PySem.W.keepIn K (.ref (He.ga K "_law_cell_at")) = true := (F__law_cell_at T).kp
theorem B__law_cell_at (T : Txt K mg) : Binds K (fd__law_cell_at T) ["_law_script", "_law_k"] [] := (F__law_cell_at T).bindsN fun _ _ _ _ _ _ us hl => match us, hl with | [_, _], _ => rfl
theorem F0__law_state (T : Txt K mg) : ∃ fd, FnP K "_law_state" s__law_state (He.ga K "_law_state") fd := T.c.dfn 15 rfl
noncomputable def fd__law_state (T : Txt K mg) : FuncData := (F0__law_state T).choose
theorem F__law_state (T : Txt K mg) : FnP K "_law_state" s__law_state (He.ga K "_law_state") (fd__law_state T) := (F0__law_state T).choose_spec
theorem g__law_state (T : Txt K mg) : mg "_law_state" = some (.ref (He.ga K "_law_state")) := T.gl (T.c.fact 15 rfl)
theorem kp__law_state (T : Txt K mg) : PySem.W.keepIn K (.ref (He.ga K "_law_state")) = true := (F__law_state T).kp
theorem B__law_state (T : Txt K mg) : Binds K (fd__law_state T) ["_law_cell", "_law_free"] [] := (F__law_state T).bindsN fun _ _ _ _ _ _ us hl => match us, hl with | [_, _], _ => rfl
theorem F0__law_take (T : Txt K mg) : ∃ fd, FnP K "_law_take" s__law_take (He.ga K "_law_take") fd := T.c.dfn 16 rfl
noncomputable def fd__law_take (T : Txt K mg) : FuncData := (F0__law_take T).choose
theorem F__law_take (T : Txt K mg) : FnP K "_law_take" s__law_take (He.ga K "_law_take") (fd__law_take T) := (F0__law_take T).choose_spec
theorem g__law_take (T : Txt K mg) : mg "_law_take" = some (.ref (He.ga K "_law_take")) := T.gl (T.c.fact 16 rfl)
theorem kp__law_take (T : Txt K mg) : PySem.W.keepIn K (.ref (He.ga K "_law_take")) = true := (F__law_take T).kp
theorem B__law_take (T : Txt K mg) : Binds K (fd__law_take T) ["_law_state_here", "_law_many"] [] := (F__law_take T).bindsN fun _ _ _ _ _ _ us hl => match us, hl with | [_, _], _ => rfl
theorem F0__law_number (T : Txt K mg) : ∃ fd, FnP K "_law_number" s__law_number (He.ga K "_law_number") fd := T.c.dfn 17 rfl
noncomputable def fd__law_number (T : Txt K mg) : FuncData := (F0__law_number T).choose
theorem F__law_number (T : Txt K mg) : FnP K "_law_number" s__law_number (He.ga K "_law_number") (fd__law_number T) := (F0__law_number T).choose_spec
theorem g__law_number (T : Txt K mg) : mg "_law_number" = some (.ref (He.ga K "_law_number")) := T.gl (T.c.fact 17 rfl)
theorem kp__law_number (T : Txt K mg) : PySem.W.keepIn K (.ref (He.ga K "_law_number")) = true := (F__law_number T).kp
theorem B__law_number (T : Txt K mg) : Binds K (fd__law_number T) ["_law_state_here"] [] := (F__law_number T).bindsN fun _ _ _ _ _ _ us hl => match us, hl with | [_], _ => rfl
theorem F0__law_power (T : Txt K mg) : ∃ fd, FnP K "_law_power" s__law_power (He.ga K "_law_power") fd := T.c.dfn 18 rfl
noncomputable def fd__law_power (T : Txt K mg) : FuncData := (F0__law_power T).choose
theorem F__law_power (T : Txt K mg) : FnP K "_law_power" s__law_power (He.ga K "_law_power") (fd__law_power T) := (F0__law_power T).choose_spec
theorem g__law_power (T : Txt K mg) : mg "_law_power" = some (.ref (He.ga K "_law_power")) := T.gl (T.c.fact 18 rfl)
theorem kp__law_power (T : Txt K mg) : PySem.W.keepIn K (.ref (He.ga K "_law_power")) = true := (F__law_power T).kp
theorem B__law_power (T : Txt K mg) : Binds K (fd__law_power T) ["_law_n", "_law_a", "_law_e"] [] := (F__law_power T).bindsN fun _ _ _ _ _ _ us hl => match us, hl with | [_, _, _], _ => rfl
theorem F0__law_steps (T : Txt K mg) : ∃ fd, FnP K "_law_steps" s__law_steps (He.ga K "_law_steps") fd := T.c.dfn 19 rfl
noncomputable def fd__law_steps (T : Txt K mg) : FuncData := (F0__law_steps T).choose
theorem F__law_steps (T : Txt K mg) : FnP K "_law_steps" s__law_steps (He.ga K "_law_steps") (fd__law_steps T) := (F0__law_steps T).choose_spec
theorem g__law_steps (T : Txt K mg) : mg "_law_steps" = some (.ref (He.ga K "_law_steps")) := T.gl (T.c.fact 19 rfl)
theorem kp__law_steps (T : Txt K mg) : PySem.W.keepIn K (.ref (He.ga K "_law_steps")) = true := (F__law_steps T).kp
theorem B__law_steps (T : Txt K mg) : Binds K (fd__law_steps T) ["_law_p", "_law_a"] [] := (F__law_steps T).bindsN fun _ _ _ _ _ _ us hl => match us, hl with | [_, _], _ => rfl
theorem F0__law_parted (T : Txt K mg) : ∃ fd, FnP K "_law_parted" s__law_parted (He.ga K "_law_parted") fd := T.c.dfn 20 rfl
noncomputable def fd__law_parted (T : Txt K mg) : FuncData := (F0__law_parted T).choose
theorem F__law_parted (T : Txt K mg) : FnP K "_law_parted" s__law_parted (He.ga K "_law_parted") (fd__law_parted T) := (F0__law_parted T).choose_spec
theorem g__law_parted (T : Txt K mg) : mg "_law_parted" = some (.ref (He.ga K "_law_parted")) := T.gl (T.c.fact 20 rfl)
theorem kp__law_parted (T : Txt K mg) : PySem.W.keepIn K (.ref (He.ga K "_law_parted")) = true := (F__law_parted T).kp
theorem B__law_parted (T : Txt K mg) : Binds K (fd__law_parted T) ["_law_n"] [] := (F__law_parted T).bindsN fun _ _ _ _ _ _ us hl => match us, hl with | [_], _ => rfl
theorem F0__law_paper (T : Txt K mg) : ∃ fd, FnP K "_law_paper" s__law_paper (He.ga K "_law_paper") fd := T.c.dfn 21 rfl
noncomputable def fd__law_paper (T : Txt K mg) : FuncData := (F0__law_paper T).choose
theorem F__law_paper (T : Txt K mg) : FnP K "_law_paper" s__law_paper (He.ga K "_law_paper") (fd__law_paper T) := (F0__law_paper T).choose_spec
theorem g__law_paper (T : Txt K mg) : mg "_law_paper" = some (.ref (He.ga K "_law_paper")) := T.gl (T.c.fact 21 rfl)
theorem kp__law_paper (T : Txt K mg) : PySem.W.keepIn K (.ref (He.ga K "_law_paper")) = true := (F__law_paper T).kp
theorem B__law_paper (T : Txt K mg) : Binds K (fd__law_paper T) ["_law_p"] [] := (F__law_paper T).bindsN fun _ _ _ _ _ _ us hl => match us, hl with | [_], _ => rfl
theorem F0__law_primes (T : Txt K mg) : ∃ fd, FnP K "_law_primes" s__law_primes (He.ga K "_law_primes") fd := T.c.dfn 22 rfl
noncomputable def fd__law_primes (T : Txt K mg) : FuncData := (F0__law_primes T).choose
theorem F__law_primes (T : Txt K mg) : FnP K "_law_primes" s__law_primes (He.ga K "_law_primes") (fd__law_primes T) := (F0__law_primes T).choose_spec
theorem g__law_primes (T : Txt K mg) : mg "_law_primes" = some (.ref (He.ga K "_law_primes")) := T.gl (T.c.fact 22 rfl)
theorem kp__law_primes (T : Txt K mg) : PySem.W.keepIn K (.ref (He.ga K "_law_primes")) = true := (F__law_primes T).kp
theorem B__law_primes (T : Txt K mg) : Binds K (fd__law_primes T) ["_law_state_here"] [] := (F__law_primes T).bindsN fun _ _ _ _ _ _ us hl => match us, hl with | [_], _ => rfl
theorem F0__law_common (T : Txt K mg) : ∃ fd, FnP K "_law_common" s__law_common (He.ga K "_law_common") fd := T.c.dfn 23 rfl
noncomputable def fd__law_common (T : Txt K mg) : FuncData := (F0__law_common T).choose
theorem F__law_common (T : Txt K mg) : FnP K "_law_common" s__law_common (He.ga K "_law_common") (fd__law_common T) := (F0__law_common T).choose_spec
theorem g__law_common (T : Txt K mg) : mg "_law_common" = some (.ref (He.ga K "_law_common")) := T.gl (T.c.fact 23 rfl)
theorem kp__law_common (T : Txt K mg) : PySem.W.keepIn K (.ref (He.ga K "_law_common")) = true := (F__law_common T).kp
theorem B__law_common (T : Txt K mg) : Binds K (fd__law_common T) ["_law_one", "_law_other"] [] := (F__law_common T).bindsN fun _ _ _ _ _ _ us hl => match us, hl with | [_, _], _ => rfl
theorem F0__law_order (T : Txt K mg) : ∃ fd, FnP K "_law_order" s__law_order (He.ga K "_law_order") fd := T.c.dfn 24 rfl
noncomputable def fd__law_order (T : Txt K mg) : FuncData := (F0__law_order T).choose
theorem F__law_order (T : Txt K mg) : FnP K "_law_order" s__law_order (He.ga K "_law_order") (fd__law_order T) := (F0__law_order T).choose_spec
theorem g__law_order (T : Txt K mg) : mg "_law_order" = some (.ref (He.ga K "_law_order")) := T.gl (T.c.fact 24 rfl)
theorem kp__law_order (T : Txt K mg) : PySem.W.keepIn K (.ref (He.ga K "_law_order")) = true := (F__law_order T).kp
theorem B__law_order (T : Txt K mg) : Binds K (fd__law_order T) ["_law_state_here"] [] := (F__law_order T).bindsN fun _ _ _ _ _ _ us hl => match us, hl with | [_], _ => rfl
theorem F0__law_lists (T : Txt K mg) : ∃ fd, FnP K "_law_lists" s__law_lists (He.ga K "_law_lists") fd := T.c.dfn 25 rfl
noncomputable def fd__law_lists (T : Txt K mg) : FuncData := (F0__law_lists T).choose
theorem F__law_lists (T : Txt K mg) : FnP K "_law_lists" s__law_lists (He.ga K "_law_lists") (fd__law_lists T) := (F0__law_lists T).choose_spec
theorem g__law_lists (T : Txt K mg) : mg "_law_lists" = some (.ref (He.ga K "_law_lists")) := T.gl (T.c.fact 25 rfl)
theorem kp__law_lists (T : Txt K mg) : PySem.W.keepIn K (.ref (He.ga K "_law_lists")) = true := (F__law_lists T).kp
theorem B__law_lists (T : Txt K mg) : Binds K (fd__law_lists T) ["_law_primes_here", "_law_k", "_law_a"] [] := (F__law_lists T).bindsN fun _ _ _ _ _ _ us hl => match us, hl with | [_, _, _], _ => rfl
theorem F0__law_told (T : Txt K mg) : ∃ fd, FnP K "_law_told" s__law_told (He.ga K "_law_told") fd := T.c.dfn 26 rfl
noncomputable def fd__law_told (T : Txt K mg) : FuncData := (F0__law_told T).choose
theorem F__law_told (T : Txt K mg) : FnP K "_law_told" s__law_told (He.ga K "_law_told") (fd__law_told T) := (F0__law_told T).choose_spec
theorem g__law_told (T : Txt K mg) : mg "_law_told" = some (.ref (He.ga K "_law_told")) := T.gl (T.c.fact 26 rfl)
theorem kp__law_told (T : Txt K mg) : PySem.W.keepIn K (.ref (He.ga K "_law_told")) = true := (F__law_told T).kp
theorem B__law_told (T : Txt K mg) : Binds K (fd__law_told T) ["_law_papers", "_law_k", "_law_a"] [] := (F__law_told T).bindsN fun _ _ _ _ _ _ us hl => match us, hl with | [_, _, _], _ => rfl
theorem F0__law_is_row (T : Txt K mg) : ∃ fd, FnP K "_law_is_row" s__law_is_row (He.ga K "_law_is_row") fd := T.c.dfn 27 rfl
noncomputable def fd__law_is_row (T : Txt K mg) : FuncData := (F0__law_is_row T).choose
theorem F__law_is_row (T : Txt K mg) : FnP K "_law_is_row" s__law_is_row (He.ga K "_law_is_row") (fd__law_is_row T) := (F0__law_is_row T).choose_spec
theorem g__law_is_row (T : Txt K mg) : mg "_law_is_row" = some (.ref (He.ga K "_law_is_row")) := T.gl (T.c.fact 27 rfl)
theorem kp__law_is_row (T : Txt K mg) : PySem.W.keepIn K (.ref (He.ga K "_law_is_row")) = true := (F__law_is_row T).kp
theorem B__law_is_row (T : Txt K mg) : Binds K (fd__law_is_row T) ["_law_p", "_law_alike", "_law_row"] [] := (F__law_is_row T).bindsN fun _ _ _ _ _ _ us hl => match us, hl with | [_, _, _], _ => rfl
theorem F0__law_shown (T : Txt K mg) : ∃ fd, FnP K "_law_shown" s__law_shown (He.ga K "_law_shown") fd := T.c.dfn 28 rfl
noncomputable def fd__law_shown (T : Txt K mg) : FuncData := (F0__law_shown T).choose
theorem F__law_shown (T : Txt K mg) : FnP K "_law_shown" s__law_shown (He.ga K "_law_shown") (fd__law_shown T) := (F0__law_shown T).choose_spec
theorem g__law_shown (T : Txt K mg) : mg "_law_shown" = some (.ref (He.ga K "_law_shown")) := T.gl (T.c.fact 28 rfl)
theorem kp__law_shown (T : Txt K mg) : PySem.W.keepIn K (.ref (He.ga K "_law_shown")) = true := (F__law_shown T).kp
theorem B__law_shown (T : Txt K mg) : Binds K (fd__law_shown T) ["_law_primes_here", "_law_k", "_law_a", "_law_lists_here", "_law_shown_here"] [] := (F__law_shown T).bindsN fun _ _ _ _ _ _ us hl => match us, hl with | [_, _, _, _, _], _ => rfl
theorem F0__law_whole (T : Txt K mg) : ∃ fd, FnP K "_law_whole" s__law_whole (He.ga K "_law_whole") fd := T.c.dfn 29 rfl
noncomputable def fd__law_whole (T : Txt K mg) : FuncData := (F0__law_whole T).choose
theorem F__law_whole (T : Txt K mg) : FnP K "_law_whole" s__law_whole (He.ga K "_law_whole") (fd__law_whole T) := (F0__law_whole T).choose_spec
theorem g__law_whole (T : Txt K mg) : mg "_law_whole" = some (.ref (He.ga K "_law_whole")) := T.gl (T.c.fact 29 rfl)
theorem kp__law_whole (T : Txt K mg) : PySem.W.keepIn K (.ref (He.ga K "_law_whole")) = true := (F__law_whole T).kp
theorem B__law_whole (T : Txt K mg) : Binds K (fd__law_whole T) ["_law_primes_here"] [] := (F__law_whole T).bindsN fun _ _ _ _ _ _ us hl => match us, hl with | [_], _ => rfl
theorem F0__law_is_alike (T : Txt K mg) : ∃ fd, FnP K "_law_is_alike" s__law_is_alike (He.ga K "_law_is_alike") fd := T.c.dfn 30 rfl
noncomputable def fd__law_is_alike (T : Txt K mg) : FuncData := (F0__law_is_alike T).choose
theorem F__law_is_alike (T : Txt K mg) : FnP K "_law_is_alike" s__law_is_alike (He.ga K "_law_is_alike") (fd__law_is_alike T) := (F0__law_is_alike T).choose_spec
theorem g__law_is_alike (T : Txt K mg) : mg "_law_is_alike" = some (.ref (He.ga K "_law_is_alike")) := T.gl (T.c.fact 30 rfl)
theorem kp__law_is_alike (T : Txt K mg) : PySem.W.keepIn K (.ref (He.ga K "_law_is_alike")) = true := (F__law_is_alike T).kp
theorem B__law_is_alike (T : Txt K mg) : Binds K (fd__law_is_alike T) ["_law_primes_here", "_law_lists_here", "_law_x"] [] := (F__law_is_alike T).bindsN fun _ _ _ _ _ _ us hl => match us, hl with | [_, _, _], _ => rfl
theorem F0__law_right (T : Txt K mg) : ∃ fd, FnP K "_law_right" s__law_right (He.ga K "_law_right") fd := T.c.dfn 31 rfl
noncomputable def fd__law_right (T : Txt K mg) : FuncData := (F0__law_right T).choose
theorem F__law_right (T : Txt K mg) : FnP K "_law_right" s__law_right (He.ga K "_law_right") (fd__law_right T) := (F0__law_right T).choose_spec
theorem g__law_right (T : Txt K mg) : mg "_law_right" = some (.ref (He.ga K "_law_right")) := T.gl (T.c.fact 31 rfl)
theorem kp__law_right (T : Txt K mg) : PySem.W.keepIn K (.ref (He.ga K "_law_right")) = true := (F__law_right T).kp
theorem B__law_right (T : Txt K mg) : Binds K (fd__law_right T) ["_law_primes_here", "_law_k", "_law_a", "_law_lists_here", "_law_told_here"] [] := (F__law_right T).bindsN fun _ _ _ _ _ _ us hl => match us, hl with | [_, _, _, _, _], _ => rfl
theorem F0_law (T : Txt K mg) : ∃ fd, FnP K "law" s_law (He.ga K "law") fd := T.c.dfn 32 rfl
noncomputable def fd_law (T : Txt K mg) : FuncData := (F0_law T).choose
theorem F_law (T : Txt K mg) : FnP K "law" s_law (He.ga K "law") (fd_law T) := (F0_law T).choose_spec
theorem g_law (T : Txt K mg) : mg "law" = some (.ref (He.ga K "law")) := T.gl (T.c.fact 32 rfl)
theorem kp_law (T : Txt K mg) : PySem.W.keepIn K (.ref (He.ga K "law")) = true := (F_law T).kp
theorem B_law (T : Txt K mg) : Binds K (fd_law T) ["_law_script"] [] := (F_law T).bindsN fun _ _ _ _ _ _ us hl => match us, hl with | [_], _ => rfl
theorem g_PrimeError (T : Txt K mg) : mg "PrimeError" = some (.ref (He.ga K "PrimeError")) := T.gl (T.c.fact 33 rfl)
theorem g_NoInverse (T : Txt K mg) : mg "NoInverse" = some (.ref (He.ga K "NoInverse")) := T.gl (T.c.fact 34 rfl)
theorem g_TooMany (T : Txt K mg) : mg "TooMany" = some (.ref (He.ga K "TooMany")) := T.gl (T.c.fact 35 rfl)
theorem x_NoInverse (T : Txt K mg) : XIn K (He.ga K "NoInverse") (He.ma K (He.ga K "NoInverse") "__init__") "divisor" := xin_of (T.c.fact 47 rfl)
theorem F0_init_NoInverse (T : Txt K mg) : ∃ fd, FunD K "__init__" "NoInverse.__init__" (defArgs s_init_NoInverse) (defBody s_init_NoInverse) (defScope s_init_NoInverse) [] [] (He.ma K (He.ga K "NoInverse") "__init__") fd := T.c.dfn 33 rfl
noncomputable def fd_init_NoInverse (T : Txt K mg) : FuncData := (F0_init_NoInverse T).choose
theorem F_init_NoInverse (T : Txt K mg) : FunD K "__init__" "NoInverse.__init__" (defArgs s_init_NoInverse) (defBody s_init_NoInverse) (defScope s_init_NoInverse) [] [] (He.ma K (He.ga K "NoInverse") "__init__") (fd_init_NoInverse T) := (F0_init_NoInverse T).choose_spec
theorem B_init_NoInverse (T : Txt K mg) : Binds K (fd_init_NoInverse T) ["self", "divisor"] [] := (F_init_NoInverse T).bindsN fun _ _ _ _ _ _ us hl => match us, hl with | [_, _], _ => rfl
theorem ok_init_NoInverse (T : Txt K mg) : FnOk P w K mg base CX0 1 (He.ma K (He.ga K "NoInverse") "__init__") (fd_init_NoInverse T) ["self", "divisor"] (sp_init K (He.ga K "NoInverse") "divisor") := by
  refine (F_init_NoInverse T).ok sc_init_NoInverse (fun vs H Q E h => ?_) (fun cdv A outer s H vs Q E hr h => ⟨_, PSs.nox (pss_cons (ps_expr (pe_cinit rfl (g_PrimeError T) (base_of (T.c.fact (t := fun K => baseB (He.ga K "PrimeError") K) 48 rfl)) (pa_cons (pv 0) (pa_cons pe_str pa_nil)))) (pss_one (ps_ost (pv 0) (pv 1)))), ?_⟩)
  · obtain ⟨_, _, rfl, _⟩ := h; rfl
  · exact rd_init h
theorem x_TooMany (T : Txt K mg) : XIn K (He.ga K "TooMany") (He.ma K (He.ga K "TooMany") "__init__") "many" := xin_of (T.c.fact 49 rfl)
theorem F0_init_TooMany (T : Txt K mg) : ∃ fd, FunD K "__init__" "TooMany.__init__" (defArgs s_init_TooMany) (defBody s_init_TooMany) (defScope s_init_TooMany) [] [] (He.ma K (He.ga K "TooMany") "__init__") fd := T.c.dfn 34 rfl
noncomputable def fd_init_TooMany (T : Txt K mg) : FuncData := (F0_init_TooMany T).choose
theorem F_init_TooMany (T : Txt K mg) : FunD K "__init__" "TooMany.__init__" (defArgs s_init_TooMany) (defBody s_init_TooMany) (defScope s_init_TooMany) [] [] (He.ma K (He.ga K "TooMany") "__init__") (fd_init_TooMany T) := (F0_init_TooMany T).choose_spec
theorem B_init_TooMany (T : Txt K mg) : Binds K (fd_init_TooMany T) ["self", "many"] [] := (F_init_TooMany T).bindsN fun _ _ _ _ _ _ us hl => match us, hl with | [_, _], _ => rfl
theorem ok_init_TooMany (T : Txt K mg) : FnOk P w K mg base CX0 1 (He.ma K (He.ga K "TooMany") "__init__") (fd_init_TooMany T) ["self", "many"] (sp_init K (He.ga K "TooMany") "many") := by
  refine (F_init_TooMany T).ok sc_init_TooMany (fun vs H Q E h => ?_) (fun cdv A outer s H vs Q E hr h => ⟨_, PSs.nox (pss_cons (ps_expr (pe_cinit rfl (g_PrimeError T) (base_of (T.c.fact (t := fun K => baseB (He.ga K "PrimeError") K) 48 rfl)) (pa_cons (pv 0) (pa_cons pe_str pa_nil)))) (pss_one (ps_ost (pv 0) (pv 1)))), ?_⟩)
  · obtain ⟨_, _, rfl, _⟩ := h; rfl
  · exact rd_init h
theorem z_PrimeError (T : Txt K mg) : Exc0 K (He.ga K "PrimeError") := exc0_of (T.c.fact 50 rfl)
theorem e_TooMany_TooMany (T : Txt K mg) : PySem.W.exmOne K (.ref (He.ga K "TooMany")) (.ref (He.ga K "TooMany")) = some true := He.exm_ok (T.c.fact 51 rfl)
/-- divisor(a, b): a new tuple (g, u, v) -/
def sp_divisor : Sp := fun vs H Q _ => ∃ a b : Int, vs = [.int a, .int b] ∧ a.natAbs < 2 ^ 900 ∧ b.natAbs < 2 ^ 900 ∧
  ∀ g u v p, M.DivOk a b g u v → H p = none → Q (.ref p) (upd H p (.tup [.int g, .int u, .int v]))
theorem ok_divisor (T : Txt K mg) : FnOk P w K mg base CX0 1 (He.ga K "divisor") (fd_divisor T) ["a", "b"] sp_divisor := by
  refine (F_divisor T).ok sc_divisor (fun vs H Q E h => ?_) (fun cdv A outer s H vs Q E hr h => ⟨_, PSs.nox (pss_cons (ps_par3 (i := 2) (j := 3) (l := 4) rfl sc_divisor.nd rfl rfl rfl (by decide) (by decide) (by decide) rfl rfl rfl (pa_cons (pv 0) (pa_cons pe_int (pa_cons pe_int pa_nil))) rfl)
      (pss_cons (ps_par3 (i := 5) (j := 6) (l := 7) rfl sc_divisor.nd rfl rfl rfl (by decide) (by decide) (by decide) rfl rfl rfl (pa_cons (pv 1) (pa_cons pe_int (pa_cons pe_int pa_nil))) rfl)
      (pss_cons (ps_while PassesOwn.never (pt_cmpR op_ne (pv 5) pe_int (nomark _)) (pss_cons (ps_set (i := 8) sc_divisor.nd rfl (Or.inl rfl) (pe_op op_divF (pv 2) (pv 5)))
      (pss_cons (ps_par (i := 2) (j := 5) rfl sc_divisor.nd rfl rfl (by decide) rfl rfl (pa_cons (pv 5) (pa_cons (pe_op op_sub (pv 2) (pe_op op_mulW (pv 8) (pv 5))) pa_nil)) rfl)
      (pss_cons (ps_par (i := 3) (j := 6) rfl sc_divisor.nd rfl rfl (by decide) rfl rfl (pa_cons (pv 6) (pa_cons (pe_op op_sub (pv 3) (pe_op op_mulW (pv 8) (pv 6))) pa_nil)) rfl)
      (pss_one (ps_par (i := 4) (j := 7) rfl sc_divisor.nd rfl rfl (by decide) rfl rfl (pa_cons (pv 7) (pa_cons (pe_op op_sub (pv 4) (pe_op op_mulW (pv 8) (pv 7))) pa_nil)) rfl))))))
      (pss_cons (ps_if (pt_cmpR op_lt (pv 2) pe_int (nomark _)) (pss_one (ps_ret (pe_tup (pa_cons (pe_un un_neg (pv 2)) (pa_cons (pe_un un_neg (pv 3)) (pa_cons (pe_un un_neg (pv 4)) pa_nil)))))) pss_nil)
      (pss_one (ps_ret (pe_tup (pa_cons (pv 2) (pa_cons (pv 3) (pa_cons (pv 4) pa_nil)))))))))), ?_⟩)
  · obtain ⟨a, b, rfl, _⟩ := h; rfl
  · obtain ⟨a, b, rfl, ha, hb, k⟩ := h
    walk_at "g"
    refine s_while (fun σ H' => H' = H ∧ ∃ (g u v r x y : Int) (t : Option V), σ = [some (.int a), some (.int b), some (.int g), some (.int u), some (.int v), some (.int r), some (.int x), some (.int y), t] ∧ M.DivSt a b g u v r x y)
      (fun σ _ => (iv σ 5).natAbs) ⟨rfl, a, 1, 0, b, 0, 1, none, rfl, .inl ⟨rfl, rfl, rfl, rfl, rfl, rfl⟩⟩ ?_
    · rintro σ H' ⟨rfl, g, u, v, r, x, y, t, rfl, I⟩
      walk_at "g"
      refine s_iten (fun hr => ?_) (fun hr => ?_)
      · have Z := M.div_sizes I
        have hd : r ≠ 0 := hr
        have st := M.div_step I hd
        have hf : (g.fdiv r).natAbs ≤ g.natAbs := M.fdiv_le g r
        walk_at "g"
        refine s_i (divF hd (by omega)) ?_
        walk_at "g"
        exact ⟨⟨rfl, _, _, _, _, _, _, _, rfl, st.1⟩, st.2⟩
      · walk_at "g"
        have T := M.div_told I hr
        refine s_ite (fun hg => ?_) (fun hg => ?_)
        · walk_at "g"
          exact ⟨len_le (by simp), fun p hp => k _ _ _ p (T.1 hg) hp⟩
        · walk_at "g"
          exact ⟨len_le (by simp), fun p hp => k _ _ _ p (T.2 hg) hp⟩

/-- inverse(n, a): the number that, times a, is 1 by n; else NoInverse(the divisor) -/
def sp_inverse (K : PySem.W.Frag) : Sp := fun vs H Q E => ∃ n a : Int, vs = [.int n, .int a] ∧ 0 < n ∧ n.natAbs < 2 ^ 900 ∧
  (Int.gcd a n = 1 → ∀ (H' : Hp) (b : Int), Same H H' → 0 ≤ b → b < n → (b * a - 1) % n = 0 → Q (.int b) H') ∧
  (Int.gcd a n ≠ 1 → ∀ (d : Addr) (H' : Hp), H d = none → Same H H' → H' d = some (.xd [("divisor", .int (Int.gcd a n))]) → E (.ref (He.ga K "NoInverse")) (some d) H')
theorem ok_inverse (T : Txt K mg) : FnOk P w K mg base (L2.CX P w) 5 (He.ga K "inverse") (fd_inverse T) ["n", "a"] (sp_inverse K) := by
  refine (F_inverse T).ok sc_inverse (fun vs H Q E h => ?_) (fun cdv A outer s H vs Q E hr h => ⟨_, (pss_cons (ps_asg (pe_call (ok_divisor T) (hr.mono (by decide)) rfl (g_divisor T) (kp_divisor T) (B_divisor T) .nil pass0 (pa_cons (pe_op op_mod (pv 1) (pv 0)) (pa_cons (pv 0) pa_nil))) (pg_tup rfl (pgs_cons (pg_name (i := 2) sc_inverse.nd rfl (Or.inl rfl)) (pgs_cons (pg_name (i := 3) sc_inverse.nd rfl (Or.inl rfl)) (pgs_cons (pg_name (i := 4) sc_inverse.nd rfl (Or.inl rfl)) pgs_nil)))))
      (pss_cons (ps_if (pt_cmpR op_gt (pv 2) pe_int (nomark _)) (pss_one (ps_raise rfl (takes_of rfl rfl rfl rfl) (pmk_oex (x_NoInverse T).oex (x_NoInverse T).iC (x_NoInverse T).tI (ok_init_NoInverse T) (hr.mono (by decide)) (B_init_NoInverse T) .nil pass0 rfl (g_NoInverse T) (pa_cons (pv 2) pa_nil)))) pss_nil)
      (pss_one (ps_ret (pe_op op_mod (pv 3) (pv 0)))))), ?_⟩)
  · obtain ⟨n, a, rfl, _⟩ := h; rfl
  · obtain ⟨n, a, rfl, h0, hn, k1, k2⟩ := h
    have ha0 := Int.emod_nonneg a (show n ≠ 0 by omega)
    have ha1 := Int.emod_lt_of_pos a h0
    have gp := M.gcd_pos (a := a) h0
    walk_at "g"
    refine s_i (by omega) ?_
    walk_at "g"
    refine ⟨a % n, n, rfl, by omega, hn, fun g u v p I hp => ?_⟩
    have S1 : Same H (upd H p (.tup [.int g, .int u, .int v])) := same_upd hp
    have T1 : upd H p (.tup [.int g, .int u, .int v]) p = some (.tup [.int g, .int u, .int v]) := upd_same
    generalize upd H p (.tup [.int g, .int u, .int v]) = H1 at S1 T1 ⊢
    have hg := I.hg
    rw [M.gcd_mod] at hg
    walk_at "g"
    refine s_gtup (SqT.of T1) rfl ?_
    walk_at "g"
    refine s_ite (fun c => ?_) (fun c => ?_)
    · walk_at "g"
      refine s_raise (x_NoInverse T).oex (x_NoInverse T).noF fun d H' hd hx hs => ?_
      rw [hg] at hx
      exact k2 (by omega) d H' (S1.free hd) (S1.trans hs) hx
    · walk_at "g"
      refine s_i (by omega) ?_
      have g1 : Int.gcd a n = 1 := by omega
      exact k1 g1 H1 _ S1 (Int.emod_nonneg _ (by omega)) (Int.emod_lt_of_pos _ h0) (M.inv_of h0 I g1)

/-- a def of which nothing is asked -/
theorem ok_never1 {CX : CXT} {f : Addr} {fd : FuncData} {ps : List Str} : FnOk P w K mg base CX 1 f fd ps (fun _ _ _ _ => False) := ⟨fun _ _ _ _ h => h.elim, fun _ _ _ _ _ _ _ _ _ _ _ _ _ h => h.elim⟩
/-- power(n, a, e), e from 0 on -/
def sp_power0 : Sp := fun vs H Q _ => ∃ (n a : Int) (e : Nat), vs = [.int n, .int a, .int e] ∧ 0 < n ∧ n.natAbs < 2 ^ 900 ∧ Q (.int (M.pw n a e)) H
theorem ok_power0 (T : Txt K mg) : FnOk P w K mg base (L2.CX P w) 6 (He.ga K "power") (fd_power T) ["n", "a", "e"] sp_power0 := by
  refine (F_power T).ok sc_power (fun vs H Q E h => ?_) (fun cdv A outer s H vs Q E hr h => ⟨_, (pss_cons (ps_if (pt_cmpR op_lt (pv 2) pe_int (nomark _)) (pss_one (ps_ret (pe_call (ok_never1) (hr.mono (by decide)) rfl (g_power T) (kp_power T) (B_power T) .nil (passes_call (takes_of rfl rfl rfl rfl) (fun _ _ _ _ h => h)) (pa_cons (pv 0) (pa_cons (pe_call (ok_inverse T) (hr.mono (by decide)) rfl (g_inverse T) (kp_inverse T) (B_inverse T) .nil (passes_call (takes_of rfl rfl rfl rfl) (fun _ _ _ _ h => h)) (pa_cons (pv 0) (pa_cons (pv 1) pa_nil))) (pa_cons (pe_un un_neg (pv 2)) pa_nil)))))) pss_nil)
      (pss_cons (ps_set (i := 3) sc_power.nd rfl (Or.inl rfl) (pe_op op_mod pe_int (pv 0)))
      (pss_cons (ps_set (i := 4) sc_power.nd rfl (Or.inl rfl) (pe_op op_mod (pv 1) (pv 0)))
      (pss_cons (ps_while (passes_of rfl) (pt_cmpR op_gt (pv 2) pe_int (nomark _)) (pss_cons (ps_if (pt_cmpR op_eq (pe_op op_mod (pv 2) pe_int) pe_int (nomark _)) (pss_one (ps_set (i := 3) sc_power.nd rfl (Or.inl rfl) (pe_op op_mod (pe_op op_mulW (pv 3) (pv 4)) (pv 0)))) pss_nil)
      (pss_cons (ps_set (i := 4) sc_power.nd rfl (Or.inl rfl) (pe_op op_mod (pe_op op_mulW (pv 4) (pv 4)) (pv 0)))
      (pss_one (ps_set (i := 2) sc_power.nd rfl (Or.inl rfl) (pe_op op_fdivW (pv 2) pe_int))))))
      (pss_one (ps_ret (pv 3))))))), ?_⟩)
  · obtain ⟨n, a, e, rfl, _⟩ := h; rfl
  · obtain ⟨n, a, e, rfl, h0, hn, k⟩ := h
    walk_at "g"
    refine s_itN (by omega) ?_
    walk_at "g"
    refine s_i (by omega) ?_
    walk_at "g"
    refine s_i (by omega) ?_
    walk_at "g"
    refine s_while (fun σ H' => H' = H ∧ ∃ (e' : Nat) (f b : Int), σ = [some (.int n), some (.int a), some (.int e'), some (.int f), some (.int b)] ∧ 0 ≤ f ∧ f < n ∧ 0 ≤ b ∧ b < n ∧ f * b ^ e' % n = M.pw n a e)
      (fun σ _ => (iv σ 2).natAbs) ⟨rfl, e, _, _, rfl, Int.emod_nonneg _ (by omega), Int.emod_lt_of_pos _ h0, Int.emod_nonneg _ (by omega), Int.emod_lt_of_pos _ h0, M.pw_one⟩ ?_
    rintro σ H' ⟨rfl, e', f, b, rfl, f0, f1, b0, b1, inv⟩
    have st := M.pw_turn inv
    walk_at "g"
    refine s_ite (fun c => ?_) (fun c => ?_)
    · have e2 : (e' : Int) / 2 = ((e' / 2 : Nat) : Int) := by omega
      walk_at "h"
      refine s_join (fun σ' H1 => H1 = H' ∧ ∃ f' : Int, σ' = [some (.int n), some (.int a), some (.int e'), some (.int f'), some (.int b)] ∧ 0 ≤ f' ∧ f' < n ∧ f' * (b * b % n) ^ (e' / 2) % n = M.pw n a e) ?_ fun N J => ?_
      · rintro σ' H1 ⟨rfl, f', rfl, f0', f1', inv'⟩
        walk_at "g"
        refine s_i (by omega) ?_
        walk_at "g"
        refine ⟨⟨rfl, e' / 2, f', _, ?_, f0', f1', Int.emod_nonneg _ (by omega), Int.emod_lt_of_pos _ h0, inv'⟩, ?_⟩
        · rw [e2]; rfl
        · show ((e' : Int) / 2).natAbs < (e' : Int).natAbs
          omega
      · walk_at "g"
        refine s_ite (fun c2 => ?_) (fun c2 => ?_)
        · walk_at "g"
          refine s_i (by omega) ?_
          walk_at "g"
          exact J _ _ ⟨rfl, _, rfl, Int.emod_nonneg _ (by omega), Int.emod_lt_of_pos _ h0, st.1 (by omega)⟩
        · walk_at "g"
          exact J _ _ ⟨rfl, _, rfl, f0, f1, st.2 (by omega)⟩
    · have z : e' = 0 := by omega
      subst z
      walk_at "g"
      rw [M.pw_end f0 f1 inv]
      exact k
/-- power(n, a, e) -/
def sp_power (K : PySem.W.Frag) : Sp := fun vs H Q E => ∃ n a e : Int, vs = [.int n, .int a, .int e] ∧ 0 < n ∧ n.natAbs < 2 ^ 900 ∧
  (0 ≤ e → Q (.int (M.pw n a e.toNat)) H) ∧
  (e < 0 → Int.gcd a n = 1 → ∀ (H' : Hp) (b : Int), Same H H' → 0 ≤ b → b < n → (b * a - 1) % n = 0 → Q (.int (M.pw n b (-e).toNat)) H') ∧
  (e < 0 → Int.gcd a n ≠ 1 → ∀ (d : Addr) (H' : Hp), H d = none → Same H H' → H' d = some (.xd [("divisor", .int (Int.gcd a n))]) → E (.ref (He.ga K "NoInverse")) (some d) H')
/-- .. e below 0 -/
def sp_powerN (K : PySem.W.Frag) : Sp := fun vs H Q E => ∃ n a e : Int, vs = [.int n, .int a, .int e] ∧ 0 < n ∧ n.natAbs < 2 ^ 900 ∧ e < 0 ∧
  (Int.gcd a n = 1 → ∀ (H' : Hp) (b : Int), Same H H' → 0 ≤ b → b < n → (b * a - 1) % n = 0 → Q (.int (M.pw n b (-e).toNat)) H') ∧
  (Int.gcd a n ≠ 1 → ∀ (d : Addr) (H' : Hp), H d = none → Same H H' → H' d = some (.xd [("divisor", .int (Int.gcd a n))]) → E (.ref (He.ga K "NoInverse")) (some d) H')
theorem ok_powerN (T : Txt K mg) : FnOk P w K mg base (L2.CX P w) 7 (He.ga K "power") (fd_power T) ["n", "a", "e"] (sp_powerN K) := by
  refine (F_power T).ok sc_power (fun vs H Q E h => ?_) (fun cdv A outer s H vs Q E hr h => ⟨_, (pss_cons (ps_if (pt_cmpR op_lt (pv 2) pe_int (nomark _)) (pss_one (ps_ret (pe_call (ok_power0 T) (hr.mono (by decide)) rfl (g_power T) (kp_power T) (B_power T) .nil (passes_call (takes_of rfl rfl rfl rfl) (fun _ _ _ _ h => h)) (pa_cons (pv 0) (pa_cons (pe_call (ok_inverse T) (hr.mono (by decide)) rfl (g_inverse T) (kp_inverse T) (B_inverse T) .nil (passes_call (takes_of rfl rfl rfl rfl) (fun _ _ _ _ h => h)) (pa_cons (pv 0) (pa_cons (pv 1) pa_nil))) (pa_cons (pe_un un_neg (pv 2)) pa_nil)))))) pss_nil)
      (pss_cons (ps_set (i := 3) sc_power.nd rfl (Or.inl rfl) (pe_op op_mod pe_int (pv 0)))
      (pss_cons (ps_set (i := 4) sc_power.nd rfl (Or.inl rfl) (pe_op op_mod (pv 1) (pv 0)))
      (pss_cons (ps_while (passes_of rfl) (pt_cmpR op_gt (pv 2) pe_int (nomark _)) (pss_cons (ps_if (pt_cmpR op_eq (pe_op op_mod (pv 2) pe_int) pe_int (nomark _)) (pss_one (ps_set (i := 3) sc_power.nd rfl (Or.inl rfl) (pe_op op_mod (pe_op op_mulW (pv 3) (pv 4)) (pv 0)))) pss_nil)
      (pss_cons (ps_set (i := 4) sc_power.nd rfl (Or.inl rfl) (pe_op op_mod (pe_op op_mulW (pv 4) (pv 4)) (pv 0)))
      (pss_one (ps_set (i := 2) sc_power.nd rfl (Or.inl rfl) (pe_op op_fdivW (pv 2) pe_int))))))
      (pss_one (ps_ret (pv 3))))))), ?_⟩)
  · obtain ⟨n, a, e, rfl, _⟩ := h; rfl
  · obtain ⟨n, a, e, rfl, h0, hn, c, k1, k2⟩ := h
    walk_at "g"
    refine s_itP c ?_
    walk_at "g"
    refine ⟨n, a, rfl, h0, hn, fun g1 H' b hs b0 b1 hb => ?_, fun g1 d H' hd hs hx => k2 g1 d H' hd hs hx⟩
    walk_at "g"
    refine ⟨n, b, (-e).toNat, ?_, h0, hn, k1 g1 H' b hs b0 b1 hb⟩
    have : -e = ((-e).toNat : Int) := by omega
    rw [← this]; rfl
theorem ok_power (T : Txt K mg) : FnOk P w K mg base (L2.CX P w) 7 (He.ga K "power") (fd_power T) ["n", "a", "e"] (sp_power K) := by
  refine fn_or ((ok_power0 T).mono (by decide)) (ok_powerN T) fun vs H Q E ⟨n, a, e, ev, h0, hn, k0, k1, k2⟩ => ?_
  subst ev
  by_cases c : e < 0
  · exact .inr ⟨n, a, e, rfl, h0, hn, c, k1 c, k2 c⟩
  · refine .inl ⟨n, a, e.toNat, ?_, h0, hn, k0 (by omega)⟩
    have : e = (e.toNat : Int) := by omega
    rw [← this]
theorem pos_power {H : Hp} {Q : VK} {E : XK} {n a e : Int} {m : Nat} (he : e = m) (h0 : 0 < n) (hn : n.natAbs < 2 ^ 900) (k : Q (.int (M.pw n a m)) H) : sp_power K [.int n, .int a, .int e] H Q E :=
  ⟨n, a, e, rfl, h0, hn, fun _ => by rw [show e.toNat = m by omega]; exact k, fun c => by omega, fun c => by omega⟩

theorem prodL_pos0 : ∀ {l : List (Nat × Nat)}, (∀ x ∈ l, 0 < x.1) → 0 < M.prodL l
  | [], _ => by decide
  | x :: l, h => Nat.mul_pos (Nat.pow_pos (h x (by simp))) (prodL_pos0 fun y hy => h y (by simp [hy]))
theorem prodL_take_le {l : List (Nat × Nat)} (h : ∀ x ∈ l, 0 < x.1) (i : Nat) : M.prodL (l.take i) ≤ M.prodL l := by
  conv => rhs; rw [← List.take_append_drop i l, M.prodL_app]
  exact Nat.le_mul_of_pos_right _ (prodL_pos0 fun x hx => h x (List.mem_of_mem_drop hx))
theorem prodL_one (x : Nat × Nat) (l : List (Nat × Nat)) : M.prodL (l ++ [x]) = M.prodL l * x.1 ^ x.2 := by rw [M.prodL_app]; simp [M.prodL]
theorem fac_many {F : Nat} {l : List (Nat × Nat)} (h : M.IsFac F l) (h0 : 0 < F) {x : Nat × Nat} (hx : x ∈ l) (hF : F < 2 ^ 200) : x.2 < 2 ^ 60 := by
  have h1 := M.prodL_dvd hx
  rw [h.prod] at h1
  have h2 := Nat.le_of_dvd h0 h1
  have h3 : 2 ^ x.2 ≤ x.1 ^ x.2 := Nat.pow_le_pow_left (h.primes x hx).1.1 _
  have h4 : x.2 < 200 := (Nat.pow_lt_pow_iff_right (by decide : 1 < 2)).mp (by omega)
  omega
theorem filter_take {α : Type} (P : α → Bool) {xs : List α} {i : Nat} {x : α} (h : xs[i]? = some x) : (xs.take (i + 1)).filter P = (xs.take i).filter P ++ (if P x = true then [x] else []) := by
  rw [take_more h, List.filter_append]
  congr 1
  cases e : P x <;> simp [e]

/-- taken(q, many): the power -/
def sp_taken : Sp := fun vs H Q _ => ∃ q b : Nat, vs = [.int q, .int b] ∧ 0 < q ∧ b < 2 ^ 60 ∧ q ^ b < 2 ^ 900 ∧ Q (.int ((q ^ b : Nat) : Int)) H
theorem ok_taken (T : Txt K mg) : FnOk P w K mg base CX0 1 (He.ga K "taken") (fd_taken T) ["q", "many"] sp_taken := by
  refine (F_taken T).ok sc_taken (fun vs H Q E h => ?_) (fun cdv A outer s H vs Q E hr h => ⟨_, PSs.nox (pss_cons (ps_set (i := 2) sc_taken.nd rfl (Or.inl rfl) pe_int)
      (pss_cons (ps_for PassesOwn.never rfl (pi_range1 rfl (T.fr (T.c.fact 36 rfl)) (pa_cons (pv 1) pa_nil)) (pg_name (i := 3) sc_taken.nd rfl (Or.inl rfl)) (pss_one (ps_set (i := 2) sc_taken.nd rfl (Or.inl rfl) (pe_op op_mulW (pv 2) (pv 0)))))
      (pss_one (ps_ret (pv 2))))), ?_⟩)
  · obtain ⟨q, b, rfl, _⟩ := h; rfl
  · obtain ⟨q, b, rfl, q0, hb, hqb, k⟩ := h
    walk_at "g"
    refine mkR1 b (by omega) (by omega) (by omega) ?_
    refine for_range (n := b) (fun i σ H' => H' = H ∧ ∃ v : Option V, σ = [some (.int q), some (.int b), some (.int ((q ^ i : Nat) : Int)), v]) ⟨rfl, none, rfl⟩ ?_ ?_
    · rintro i σ H' hi ⟨rfl, v, rfl⟩
      have h1 : q ^ i ≤ q ^ b := Nat.pow_le_pow_right q0 (by omega)
      have h2 : q ^ 1 ≤ q ^ b := Nat.pow_le_pow_right q0 (by omega)
      rw [Nat.pow_one] at h2
      have e3 : ((q ^ i : Nat) : Int) * (q : Int) = ((q ^ (i + 1) : Nat) : Int) := by rw [Nat.pow_succ]; push_cast; rfl
      walk_at "g"
      try refine s_i (mulW (by omega) (by omega)) ?_
      walk_at "g"
      rw [e3]
      exact ⟨rfl, _, rfl⟩
    · rintro σ H' ⟨rfl, v, rfl⟩
      walk_at "g"
      exact k

/-- _law_cell_at(script, k): a cell, or 0 -/
def sp__law_cell_at (K : PySem.W.Frag) : Sp := fun vs H Q _ => ∃ (a : Addr) (ns : List Int) (k : Nat), vs = [.ref a, .int k] ∧ SqL K H a (ns.map V.int) ∧ ∀ z : Int, Q (.int z) H
theorem ok__law_cell_at (T : Txt K mg) : FnOk P w K mg base CX0 1 (He.ga K "_law_cell_at") (fd__law_cell_at T) ["_law_script", "_law_k"] (sp__law_cell_at K) := by
  refine (F__law_cell_at T).ok sc__law_cell_at (fun vs H Q E h => ?_) (fun cdv A outer s H vs Q E hr h => ⟨_, PSs.nox (pss_cons (ps_if (pt_cmpR op_lt (pv 1) (pe_callB callLen rfl (T.fr (T.c.fact 41 rfl)) boot_len (pa_cons (pv 0) pa_nil)) (nomark _)) (pss_one (ps_ret (pe_ix ix_seq (pv 0) (pv 1) (fun _ _ => rfl)))) pss_nil)
      (pss_one (ps_ret pe_int))), ?_⟩)
  · obtain ⟨a, ns, k, rfl, _⟩ := h; rfl
  · obtain ⟨a, ns, k, rfl, hS, q⟩ := h
    walk_at "g"
    refine s_lenL hS ?_
    walk_at "g"
    refine s_ite (fun c => ?_) (fun c => ?_)
    · rw [List.length_map] at c
      obtain ⟨z, hz⟩ : ∃ z, ns[k]? = some z := ⟨_, List.getElem?_eq_getElem (show k < ns.length by omega)⟩
      walk_at "g"
      refine s_ixL hS (atI0 k rfl (v := .int z) (by rw [List.getElem?_map, hz]; rfl)) ?_
      exact q _
    · walk_at "g"
      exact q 0

/-- the state of a law's draws: a dict of what is left and whether it is free -/
def StAt (H : Hp) (p : Addr) : Prop := ∃ (l : Int) (f : Bool), H p = some (.dK [(.inr "left", .int l), (.inr "free", .bl f)]) ∧ (f = false → 0 ≤ l ∧ l < 2147483647)
theorem StAt.same {H H' : Hp} {p : Addr} (h : StAt H p) (s : Same H H') : StAt H' p := by
  obtain ⟨l, f, e, k⟩ := h
  exact ⟨l, f, s _ _ e, k⟩
theorem tups_b {H H' : Hp} {p : Addr} (h : StAt H p) (s : ∀ b o, b ≠ p → H b = some o → H' b = some o) {xs : List V} {rs : List (List V)} (ht : TupsIn H xs rs) : TupsIn H' xs rs := by
  induction ht with
  | nil => exact .nil
  | cons f _ ih =>
    obtain ⟨t, e, ht⟩ := f
    refine .cons ⟨t, e, s _ _ (fun z => ?_) ht⟩ ih
    obtain ⟨_, _, e2, _⟩ := h
    rw [z, e2] at ht; cases ht
/-- _law_state(cell, free): a new state -/
def sp__law_state : Sp := fun vs H Q _ => ∃ (c : Int) (f : Bool), vs = [.int c, .bl f] ∧ ∀ p H', H p = none → Same H H' → StAt H' p → Q (.ref p) H'
theorem ok__law_state (T : Txt K mg) : FnOk P w K mg base CX0 1 (He.ga K "_law_state") (fd__law_state T) ["_law_cell", "_law_free"] sp__law_state := by
  refine (F__law_state T).ok sc__law_state (fun vs H Q E h => ?_) (fun cdv A outer s H vs Q E hr h => ⟨_, PSs.nox (pss_cons (ps_if (pt_val (pv 1)) (pss_one (ps_ret (pe_disp (pps_cons pe_str (pv 0) (pps_cons pe_str pe_bl pps_nil)) rfl rfl (by simp) (by decide)))) pss_nil)
      (pss_one (ps_ret (pe_disp (pps_cons pe_str (pe_op op_add pe_int (pe_op op_mod (pv 0) pe_int)) (pps_cons pe_str pe_bl pps_nil)) rfl rfl (by simp) (by decide))))), ?_⟩)
  · obtain ⟨c, f, rfl, _⟩ := h; rfl
  · obtain ⟨c, f, rfl, k⟩ := h
    walk_at "g"
    refine s_iteb (fun e => ?_) (fun e => ?_)
    · walk_at "g"
      refine s_disp fun p H1 np hd s1 => ?_
      walk_at "g"
      refine mkDisp [(.inr "left", .int c), (.inr "free", .bl true)] hd rfl (by simp) fun H2 e2 s2 => ?_
      exact k p H2 np (s2 H np s1) ⟨c, true, e2, fun z => nomatch z⟩
    · walk_at "g"
      refine s_disp fun p H1 np hd s1 => ?_
      walk_at "g"
      refine mkDisp [(.inr "left", .int (1 + c % 2147483646)), (.inr "free", .bl false)] hd rfl (by simp) fun H2 e2 s2 => ?_
      exact k p H2 np (s2 H np s1) ⟨1 + c % 2147483646, false, e2, fun _ => by omega⟩

/-- _law_take(state, many): a number from 0 to below many -/
def sp__law_take : Sp := fun vs H Q _ => ∃ (p : Addr) (m : Int), vs = [.ref p, .int m] ∧ 0 < m ∧ m < 2 ^ 900 ∧ StAt H p ∧ ∀ (z : Int) H', 0 ≤ z → z < m → StAt H' p → SameB p H H' → Q (.int z) H'
theorem ok__law_take (T : Txt K mg) : FnOk P w K mg base CX0 1 (He.ga K "_law_take") (fd__law_take T) ["_law_state_here", "_law_many"] sp__law_take := by
  refine (F__law_take T).ok sc__law_take (fun vs H Q E h => ?_) (fun cdv A outer s H vs Q E hr h => ⟨_, PSs.nox (pss_cons (ps_if (pt_val (pe_dget (hu_of hr) (pv 0) pe_str (fun _ _ => rfl))) (pss_cons (ps_set (i := 2) sc__law_take.nd rfl (Or.inl rfl) (pe_op op_mod (pe_dget (hu_of hr) (pv 0) pe_str (fun _ _ => rfl)) (pv 1)))
      (pss_cons (ps_dput (hu_of hr) (pv 0) pe_str (pe_op op_fdivW (pe_dget (hu_of hr) (pv 0) pe_str (fun _ _ => rfl)) (pv 1)) rfl)
      (pss_one (ps_ret (pv 2))))) pss_nil)
      (pss_cons (ps_dput (hu_of hr) (pv 0) pe_str (pe_op op_mod (pe_op op_mulW (pe_dget (hu_of hr) (pv 0) pe_str (fun _ _ => rfl)) pe_int) pe_int) rfl)
      (pss_one (ps_ret (pe_op op_mod (pe_op op_fdivW (pe_op op_mod (pe_op op_mulW (pe_dget (hu_of hr) (pv 0) pe_str (fun _ _ => rfl)) pe_int) pe_int) pe_int) (pv 1)))))), ?_⟩)
  · obtain ⟨p, m, rfl, _⟩ := h; rfl
  · obtain ⟨p, m, rfl, m0, m1, ⟨l, f, hd, hf⟩, k⟩ := h
    have hl : ([(.inr "left", .int l), (.inr "free", .bl f)] : List (Key × V)).length < sizeLine := by exact small1000 (by simp)
    have v1 : valV ([(.inr "left", .int l), (.inr "free", .bl f)] : List (Key × V)) (.inr "left") = some (.int l) := by rfl
    have v2 : valV ([(.inr "left", .int l), (.inr "free", .bl f)] : List (Key × V)) (.inr "free") = some (.bl f) := by rfl
    have pk : ∀ x : Int, putK ([(.inr "left", .int l), (.inr "free", .bl f)] : List (Key × V)) (.inr "left") (.int x) = [(.inr "left", .int x), (.inr "free", .bl f)] := fun x => by rfl
    walk_at "g"
    refine s_dgetS hd v2 ?_
    walk_at "g"
    cases f with
    | true =>
      walk_at "g"
      refine s_dgetS hd v1 ?_
      walk_at "g"
      refine s_i (by omega) ?_
      walk_at "g"
      refine s_dgetS hd v1 ?_
      walk_at "g"
      refine s_i (divW m0 (by omega)) ?_
      walk_at "g"
      refine s_dputS hd hl ?_
      walk_at "g"
      rw [pk]
      exact k _ _ (Int.emod_nonneg _ (by omega)) (Int.emod_lt_of_pos _ m0) ⟨_, true, upd_same, fun z => nomatch z⟩ SameB.put
    | false =>
      have hb := hf rfl
      walk_at "g"
      refine s_dgetS hd v1 ?_
      walk_at "g"
      refine s_dputS hd hl ?_
      walk_at "g"
      rw [pk]
      have e : upd H p (.dK [(.inr "left", .int (l * 48271 % 2147483647)), (.inr "free", .bl false)]) p = some (.dK [(.inr "left", .int (l * 48271 % 2147483647)), (.inr "free", .bl false)]) := upd_same
      refine s_dgetS e (by rfl) ?_
      have b0 : 0 ≤ l * 48271 % 2147483647 := by omega
      have b1 : l * 48271 % 2147483647 < 2147483647 := by omega
      walk_at "g"
      refine s_i (by omega) ?_
      walk_at "g"
      exact k _ _ (Int.emod_nonneg _ (by omega)) (Int.emod_lt_of_pos _ m0) ⟨_, false, upd_same, fun _ => ⟨b0, b1⟩⟩ SameB.put

/-- _law_number(state): a number of at most fifty-six figures, of either sign -/
def sp__law_number : Sp := fun vs H Q _ => ∃ (p : Addr), vs = [.ref p] ∧ StAt H p ∧ ∀ (z : Int) H', z.natAbs < 10 ^ 57 → StAt H' p → SameB p H H' → Q (.int z) H'
theorem ok__law_number (T : Txt K mg) : FnOk P w K mg base CX0 2 (He.ga K "_law_number") (fd__law_number T) ["_law_state_here"] sp__law_number := by
  refine (F__law_number T).ok sc__law_number (fun vs H Q E h => ?_) (fun cdv A outer s H vs Q E hr h => ⟨_, PSs.nox (pss_cons (ps_set (i := 1) sc__law_number.nd rfl (Or.inl rfl) (pe_call (ok__law_take T) (hr.mono (by decide)) rfl (g__law_take T) (kp__law_take T) (B__law_take T) .nil pass0 (pa_cons (pv 0) (pa_cons pe_int pa_nil))))
      (pss_cons (ps_if (pt_cmpR op_eq (pv 1) pe_int (nomark _)) (pss_one (ps_ret (pe_op op_sub (pe_call (ok__law_take T) (hr.mono (by decide)) rfl (g__law_take T) (kp__law_take T) (B__law_take T) .nil pass0 (pa_cons (pv 0) (pa_cons pe_int pa_nil))) pe_int))) pss_nil)
      (pss_cons (ps_if (pt_cmpR op_eq (pv 1) pe_int (nomark _)) (pss_one (ps_ret (pe_op op_sub (pe_call (ok__law_take T) (hr.mono (by decide)) rfl (g__law_take T) (kp__law_take T) (B__law_take T) .nil pass0 (pa_cons (pv 0) (pa_cons (pe_op op_mulW pe_int (pe_op op_pow pe_int pe_int)) pa_nil))) (pe_op op_pow pe_int pe_int)))) pss_nil)
      (pss_cons (ps_set (i := 2) sc__law_number.nd rfl (Or.inl rfl) pe_int)
      (pss_cons (ps_for PassesOwn.never rfl (pi_range1 rfl (T.fr (T.c.fact 36 rfl)) (pa_cons pe_int pa_nil)) (pg_name (i := 3) sc__law_number.nd rfl (Or.inl rfl)) (pss_one (ps_set (i := 2) sc__law_number.nd rfl (Or.inl rfl) (pe_op op_add (pe_op op_mulW (pv 2) (pe_op op_pow pe_int pe_int)) (pe_call (ok__law_take T) (hr.mono (by decide)) rfl (g__law_take T) (kp__law_take T) (B__law_take T) .nil pass0 (pa_cons (pv 0) (pa_cons (pe_op op_pow pe_int pe_int) pa_nil)))))))
      (pss_one (ps_ret (pe_op op_mulW (pv 2) (pe_op op_sub (pe_op op_mulW pe_int (pe_call (ok__law_take T) (hr.mono (by decide)) rfl (g__law_take T) (kp__law_take T) (B__law_take T) .nil pass0 (pa_cons (pv 0) (pa_cons pe_int pa_nil)))) pe_int))))))))), ?_⟩)
  · obtain ⟨p, rfl, _⟩ := h; rfl
  · obtain ⟨p, rfl, hst, k⟩ := h
    walk_at "g"
    refine ⟨p, 4, rfl, by decide, by decide, hst, fun w H1 w0 w1 st1 s1 => ?_⟩
    walk_at "g"
    refine s_ite (fun _ => ?_) (fun _ => ?_)
    · walk_at "g"
      refine ⟨p, 21, rfl, by decide, by decide, st1, fun z H2 z0 z1 st2 s2 => ?_⟩
      walk_at "g"
      exact k _ H2 (by omega) st2 (s1.trans s2)
    walk_at "g"
    refine s_ite (fun _ => ?_) (fun _ => ?_)
    · walk_at "g"
      refine ⟨p, _, rfl, by decide, by decide, st1, fun z H2 z0 z1 st2 s2 => ?_⟩
      walk_at "g"
      exact k _ H2 (by omega) st2 (s1.trans s2)
    walk_at "g"
    refine mkR1 7 rfl (by decide) (by decide) ?_
    refine for_range (n := 7) (fun i σ H' => SameB p H H' ∧ StAt H' p ∧ ∃ (f : Int) (v : Option V), σ = [some (.ref p), some (.int w), some (.int f), v] ∧ 0 ≤ f ∧ f < 10 ^ (8 * i)) ⟨s1, st1, 0, none, rfl, by decide, by decide⟩ ?_ ?_
    · rintro i σ H' hi ⟨hs, st, f, v, rfl, f0, f1⟩
      have f2 : f < 10 ^ 56 := Int.lt_of_lt_of_le f1 (by
        have : i = 0 ∨ i = 1 ∨ i = 2 ∨ i = 3 ∨ i = 4 ∨ i = 5 ∨ i = 6 := by omega
        rcases this with rfl | rfl | rfl | rfl | rfl | rfl | rfl <;> decide)
      walk_at "g"
      refine ⟨p, _, rfl, by decide, by decide, st, fun z H2 z0 z1 st2 s2 => ?_⟩
      walk_at "g"
      refine ⟨hs.trans s2, st2, _, _, rfl, by omega, ?_⟩
      have e : (10 : Int) ^ (8 * (i + 1)) = 10 ^ (8 * i) * 10 ^ 8 := by rw [← Int.pow_add]; congr 1
      rw [e]
      generalize (10 : Int) ^ (8 * i) = M at f1 ⊢
      omega
    · rintro σ H' ⟨hs, st, f, v, rfl, f0, f1⟩
      have f2 : f < 10 ^ 56 := f1
      walk_at "g"
      refine ⟨p, 2, rfl, by decide, by decide, st, fun z H2 z0 z1 st2 s2 => ?_⟩
      walk_at "g"
      have e : z = 0 ∨ z = 1 := by omega
      refine k _ H2 ?_ st2 (hs.trans s2)
      rcases e with rfl | rfl <;> omega

/-- _law_power(n, a, e), e from 0 on -/
def sp__law_power : Sp := fun vs H Q _ => ∃ (n a : Int) (e : Nat), vs = [.int n, .int a, .int e] ∧ 0 < n ∧ n.natAbs < 2 ^ 900 ∧ Q (.int (M.pw n a e)) H
theorem ok__law_power (T : Txt K mg) : FnOk P w K mg base CX0 1 (He.ga K "_law_power") (fd__law_power T) ["_law_n", "_law_a", "_law_e"] sp__law_power := by
  refine (F__law_power T).ok sc__law_power (fun vs H Q E h => ?_) (fun cdv A outer s H vs Q E hr h => ⟨_, PSs.nox (pss_cons (ps_set (i := 3) sc__law_power.nd rfl (Or.inl rfl) (pe_op op_mod pe_int (pv 0)))
      (pss_cons (ps_set (i := 4) sc__law_power.nd rfl (Or.inl rfl) (pe_op op_mod (pv 1) (pv 0)))
      (pss_cons (ps_while PassesOwn.never (pt_cmpR op_gt (pv 2) pe_int (nomark _)) (pss_cons (ps_if (pt_cmpR op_eq (pe_op op_mod (pv 2) pe_int) pe_int (nomark _)) (pss_one (ps_set (i := 3) sc__law_power.nd rfl (Or.inl rfl) (pe_op op_mod (pe_op op_mulW (pv 3) (pv 4)) (pv 0)))) pss_nil)
      (pss_cons (ps_set (i := 4) sc__law_power.nd rfl (Or.inl rfl) (pe_op op_mod (pe_op op_mulW (pv 4) (pv 4)) (pv 0)))
      (pss_one (ps_set (i := 2) sc__law_power.nd rfl (Or.inl rfl) (pe_op op_fdivW (pv 2) pe_int))))))
      (pss_one (ps_ret (pv 3)))))), ?_⟩)
  · obtain ⟨n, a, e, rfl, _⟩ := h; rfl
  · obtain ⟨n, a, e, rfl, h0, hn, k⟩ := h
    walk_at "g"
    refine s_i (by omega) ?_
    walk_at "g"
    refine s_i (by omega) ?_
    walk_at "g"
    refine s_while (fun σ H' => H' = H ∧ ∃ (e' : Nat) (f b : Int), σ = [some (.int n), some (.int a), some (.int e'), some (.int f), some (.int b)] ∧ 0 ≤ f ∧ f < n ∧ 0 ≤ b ∧ b < n ∧ f * b ^ e' % n = M.pw n a e)
      (fun σ _ => (iv σ 2).natAbs) ⟨rfl, e, _, _, rfl, Int.emod_nonneg _ (by omega), Int.emod_lt_of_pos _ h0, Int.emod_nonneg _ (by omega), Int.emod_lt_of_pos _ h0, M.pw_one⟩ ?_
    rintro σ H' ⟨rfl, e', f, b, rfl, f0, f1, b0, b1, inv⟩
    have st := M.pw_turn inv
    walk_at "g"
    refine s_ite (fun c => ?_) (fun c => ?_)
    · have e2 : (e' : Int) / 2 = ((e' / 2 : Nat) : Int) := by omega
      walk_at "h"
      refine s_join (fun σ' H1 => H1 = H' ∧ ∃ f' : Int, σ' = [some (.int n), some (.int a), some (.int e'), some (.int f'), some (.int b)] ∧ 0 ≤ f' ∧ f' < n ∧ f' * (b * b % n) ^ (e' / 2) % n = M.pw n a e) ?_ fun N J => ?_
      · rintro σ' H1 ⟨rfl, f', rfl, f0', f1', inv'⟩
        walk_at "g"
        refine s_i (by omega) ?_
        walk_at "g"
        refine ⟨⟨rfl, e' / 2, f', _, ?_, f0', f1', Int.emod_nonneg _ (by omega), Int.emod_lt_of_pos _ h0, inv'⟩, ?_⟩
        · rw [e2]; rfl
        · show ((e' : Int) / 2).natAbs < (e' : Int).natAbs
          omega
      · walk_at "g"
        refine s_ite (fun c2 => ?_) (fun c2 => ?_)
        · walk_at "g"
          refine s_i (by omega) ?_
          walk_at "g"
          exact J _ _ ⟨rfl, _, rfl, Int.emod_nonneg _ (by omega), Int.emod_lt_of_pos _ h0, st.1 (by omega)⟩
        · walk_at "g"
          exact J _ _ ⟨rfl, _, rfl, f0, f1, st.2 (by omega)⟩
    · have z : e' = 0 := by omega
      subst z
      walk_at "g"
      rw [M.pw_end f0 f1 inv]
      exact k

theorem fac_len {n : Nat} {l : List (Nat × Nat)} {m d : Nat} (h : M.Fac n l m d) (hn : n < 2 ^ 200) : l.length ≤ 200 := by
  have h1 : ∀ l : List (Nat × Nat), (∀ x ∈ l, M.Prime x.1 ∧ 0 < x.2) → 2 ^ l.length ≤ M.prodL l := fun l => by
    induction l with
    | nil => intro _; exact Nat.le_refl 1
    | cons x l ih =>
      intro hl
      have h1 := ih fun y hy => hl y (by simp [hy])
      have h2 := hl x (by simp)
      have h3 : 2 ≤ x.1 ^ x.2 := Nat.le_trans h2.1.1 (Nat.le_of_dvd (Nat.pow_pos h2.1.pos) (M.dvd_pow_self x.1 h2.2))
      rw [List.length_cons, Nat.pow_succ, Nat.mul_comm]
      exact Nat.mul_le_mul h3 h1
  have h2 := h1 l h.primes
  have h3 : M.prodL l ≤ n := by rw [← h.prod]; exact Nat.le_mul_of_pos_right _ h.npos
  rcases Nat.lt_or_ge 200 l.length with z | z
  · have := Nat.pow_le_pow_right (show 0 < 2 by decide) (Nat.le_of_lt z)
    omega
  · exact z
theorem fac_rest {n : Nat} {l : List (Nat × Nat)} {m d : Nat} (h : M.Fac n l m d) : m ≤ n := by
  rw [← h.prod]
  have : 0 < M.prodL l := Nat.pos_of_ne_zero fun z => by
    have h1 := h.prod
    rw [z, Nat.zero_mul] at h1
    have h2 : ∀ l : List (Nat × Nat), (∀ x ∈ l, M.Prime x.1 ∧ 0 < x.2) → 0 < M.prodL l := fun l => by
      induction l with
      | nil => intro _; decide
      | cons x l ih => intro hl; exact Nat.mul_pos (Nat.pow_pos (hl x (by simp)).1.pos) (ih fun y hy => hl y (by simp [hy]))
    have := h2 l h.primes
    omega
  exact Nat.le_mul_of_pos_left _ this

/-- _law_steps(p, a): the order -/
def sp__law_steps : Sp := fun vs H Q _ => ∃ (p : Nat) (a : Int) (o : Nat), vs = [.int p, .int a] ∧ M.Ord p a o ∧ M.Prime p ∧ p < 2 ^ 100 ∧ a.natAbs < 2 ^ 900 ∧ Q (.int o) H
theorem ok__law_steps (T : Txt K mg) : FnOk P w K mg base CX0 1 (He.ga K "_law_steps") (fd__law_steps T) ["_law_p", "_law_a"] sp__law_steps := by
  refine (F__law_steps T).ok sc__law_steps (fun vs H Q E h => ?_) (fun cdv A outer s H vs Q E hr h => ⟨_, PSs.nox (pss_cons (ps_set (i := 2) sc__law_steps.nd rfl (Or.inl rfl) (pe_op op_mod (pv 1) (pv 0)))
      (pss_cons (ps_set (i := 3) sc__law_steps.nd rfl (Or.inl rfl) pe_int)
      (pss_cons (ps_while PassesOwn.never (pt_cmpR op_ne (pv 2) pe_int (nomark _)) (pss_cons (ps_set (i := 2) sc__law_steps.nd rfl (Or.inl rfl) (pe_op op_mod (pe_op op_mulW (pv 2) (pv 1)) (pv 0)))
      (pss_one (ps_set (i := 3) sc__law_steps.nd rfl (Or.inl rfl) (pe_op op_add (pv 3) pe_int)))))
      (pss_one (ps_ret (pv 3)))))), ?_⟩)
  · obtain ⟨p, a, o, rfl, _⟩ := h; rfl
  · obtain ⟨p, a, o, rfl, ho, hp, hpb, hab, k⟩ := h
    have hp2 := hp.1
    have o0 := ho.pos
    walk_at "g"
    refine s_i (by omega) ?_
    walk_at "g"
    refine s_while (fun σ H' => H' = H ∧ ∃ m : Nat, σ = [some (.int p), some (.int a), some (.int (M.pw p a m)), some (.int m)] ∧ 1 ≤ m ∧ m ≤ o) (fun σ _ => o - (iv σ 3).toNat) ⟨rfl, 1, by unfold M.pw; rw [Int.pow_succ, Int.pow_zero, Int.one_mul]; rfl, Nat.le_refl _, by omega⟩ ?_
    rintro σ H' ⟨rfl, m, rfl, m1, mo⟩
    have hr := M.pw_range (n := (p : Int)) (by omega) a m
    walk_at "g"
    refine s_iten (fun c => ?_) (fun c => ?_)
    · have hmo : m < o := by
        rcases Nat.lt_or_ge m o with z | z
        · exact z
        · have : m = o := by omega
          subst this
          exact absurd ((M.pw_one_iff hp2).mpr ho.one) c
      walk_at "g"
      try refine s_i (mulW (by omega) (by omega)) ?_
      walk_at "g"
      refine s_i (by omega) ?_
      walk_at "g"
      refine ⟨⟨rfl, m + 1, by rw [M.pw_mul]; push_cast; rfl, by omega, by omega⟩, ?_⟩
      show o - ((m : Int) + 1).toNat < o - (m : Int).toNat
      omega
    · have h1 := ho.least m (by omega) ((M.pw_one_iff hp2).mp c)
      have : m = o := by omega
      subst this
      walk_at "g"
      exact k

/-- _law_parted(n), n to 250, by all numbers from 2 on -/
def sp__law_parted : Sp := fun vs H Q _ => ∃ n : Nat, vs = [.int n] ∧ 0 < n ∧ n < 2 ^ 200 ∧ ∀ p H' xs l, M.IsFac n l → H p = none → Same H H' → H' p = some (.lst xs) → TupsIn H' xs (l.map fun x => [V.int (x.1 : Nat), V.int (x.2 : Nat)]) → Q (.ref p) H'
theorem ok__law_parted (T : Txt K mg) : FnOk P w K mg base CX0 1 (He.ga K "_law_parted") (fd__law_parted T) ["_law_n"] sp__law_parted := by
  refine (F__law_parted T).ok sc__law_parted (fun vs H Q E h => ?_) (fun cdv A outer s H vs Q E hr h => ⟨_, PSs.nox (pss_cons (ps_set (i := 1) sc__law_parted.nd rfl (Or.inl rfl) (pe_lst pa_nil))
      (pss_cons (ps_set (i := 2) sc__law_parted.nd rfl (Or.inl rfl) pe_int)
      (pss_cons (ps_while PassesOwn.never (pt_cmpR op_gt (pv 0) pe_int (nomark _)) (pss_cons (ps_set (i := 3) sc__law_parted.nd rfl (Or.inl rfl) pe_int)
      (pss_cons (ps_while PassesOwn.never (pt_cmpR op_eq (pe_op op_mod (pv 0) (pv 2)) pe_int (nomark _)) (pss_cons (ps_set (i := 0) sc__law_parted.nd rfl (Or.inl rfl) (pe_op op_fdivW (pv 0) (pv 2)))
      (pss_one (ps_set (i := 3) sc__law_parted.nd rfl (Or.inl rfl) (pe_op op_add (pv 3) pe_int)))))
      (pss_cons (ps_if (pt_cmpR op_gt (pv 3) pe_int (nomark _)) (pss_one (ps_expr (pe_bm PySem.F.plainAttrs_list PySem.F.slot_list_append PySem.F.type_list_append mt_append (pv 1) (pa_cons (pe_tup (pa_cons (pv 2) (pa_cons (pv 3) pa_nil))) pa_nil)))) pss_nil)
      (pss_one (ps_set (i := 2) sc__law_parted.nd rfl (Or.inl rfl) (pe_op op_add (pv 2) pe_int)))))))
      (pss_one (ps_ret (pv 1)))))), ?_⟩)
  · obtain ⟨n, rfl, _⟩ := h; rfl
  · obtain ⟨n0, rfl, h0, hn, k⟩ := h
    walk_at "g"
    refine mkL (by simp) fun p H1 np e1 s1 => ?_
    walk_at "g"
    refine s_while (fun σ H' => Same H H' ∧ ∃ (n d : Nat) (v : Option V) (xs : List V) (l : List (Nat × Nat)), σ = [some (.int n), some (.ref p), some (.int d), v] ∧ H' p = some (.lst xs) ∧ TupsIn H' xs (l.map fun x => [V.int (x.1 : Nat), V.int (x.2 : Nat)]) ∧ M.Fac n0 l n d ∧ d ≤ n0 + 2)
      (fun σ _ => n0 + 3 - (iv σ 2).toNat) ⟨s1, n0, 2, none, [], [], rfl, e1, .nil, M.fac_start h0, by omega⟩ ?_
    rintro σ H' ⟨hs, n, d, v, xs, l, rfl, hp, ht, fac, hdn0⟩
    have hxl : xs.length = l.length := by rw [ht.length, List.length_map]
    have hll := fac_len fac hn
    have hnl := fac_rest fac
    walk_at "g"
    refine s_ite (fun c => ?_) (fun c => ?_)
    · have hn1 : 1 < n := by omega
      have hdn := M.fac_le fac hn1
      have hd2 := fac.dtwo
      walk_at "g"
      refine s_while (fun σ' H3 => H3 = H' ∧ ∃ m k : Nat, σ' = [some (.int m), some (.ref p), some (.int d), some (.int k)] ∧ n = d ^ k * m ∧ 0 < m) (fun σ _ => (iv σ 0).toNat) ⟨rfl, n, 0, rfl, by simp, by omega⟩ ?_
      rintro σ' H3 ⟨rfl, m, j, rfl, em, m0⟩
      have hml : m ≤ n := by rw [em]; exact Nat.le_mul_of_pos_left _ (Nat.pow_pos (by omega))
      walk_at "g"
      refine s_i (by omega) ?_
      walk_at "g"
      refine s_ite (fun c2 => ?_) (fun c2 => ?_)
      · have hdm : d ∣ m := Int.natCast_dvd_natCast.mp (Int.dvd_of_emod_eq_zero c2)
        obtain ⟨m', rfl⟩ := hdm
        have e3 : ((d * m' : Nat) : Int) / (d : Int) = (m' : Int) := by
          push_cast
          exact Int.mul_ediv_cancel_left _ (by omega)
        walk_at "g"
        refine s_i (divW (by omega) (by omega)) ?_
        walk_at "g"
        rw [e3]
        have m0' : 0 < m' := Nat.pos_of_ne_zero fun z => by rw [z] at m0; omega
        have : 2 * m' ≤ d * m' := Nat.mul_le_mul_right m' hd2
        refine ⟨⟨rfl, m', j + 1, rfl, by rw [em, Nat.pow_succ]; grind, m0'⟩, ?_⟩
        show (m' : Int).toNat < ((d * m' : Nat) : Int).toNat
        omega
      · have hdm : ¬ d ∣ m := fun z => c2 (Int.emod_eq_zero_of_dvd (Int.natCast_dvd_natCast.mpr z))
        have stp := M.fac_step fac em hdm
        have dec : n0 + 3 - ((d : Int) + 1).toNat < n0 + 3 - (d : Int).toNat := by omega
        walk_at "g"
        refine s_ite (fun c3 => ?_) (fun c3 => ?_)
        · rw [if_pos (by omega)] at stp
          walk_at "g"
          refine ⟨s_tyL hp, ?_⟩
          walk_at "g"
          refine mkT (by simp) fun t H4 nt et s4 => ?_
          walk_at "g"
          refine s_append (s4 _ _ hp) (small1000 (by omega)) ?_
          walk_at "g"
          refine ⟨⟨same_upd' (hs.trans s4) np, m, d + 1, _, xs ++ [.ref t], l ++ [(d, j)], by push_cast; rfl, upd_same, ?_, stp, by omega⟩, dec⟩
          rw [List.map_append]
          exact TupsIn.app hp ht s4 nt et
        · rw [if_neg (by omega)] at stp
          walk_at "g"
          exact ⟨⟨hs, m, d + 1, _, xs, l, by push_cast; rfl, hp, ht, stp, by omega⟩, dec⟩
    · walk_at "g"
      exact k p H' xs l (M.fac_end fac (by omega)) np hs hp ht

/-- the paper of a prime p at t, n deep at most -/
def PaperAt : Nat → Hp → Addr → Nat → Prop
  | 0, _, _, _ => False
  | n + 1, H, t, p => ∃ (f : Nat) (u : Addr) (xs : List V) (l : List (Nat × Nat)), H t = some (.tup [.int (p : Nat), .int (f : Nat), .ref u]) ∧ H u = some (.tup xs) ∧ M.Prime p ∧ M.LeastFull p f ∧ M.IsFac (p - 1) l ∧
    Paired (fun x r => ∃ a s, x = V.ref a ∧ H a = some (.tup [.ref s, .int (r.2 : Nat)]) ∧ PaperAt n H s r.1) xs l
theorem PaperAt.same : ∀ {n : Nat} {H H' : Hp} {t : Addr} {p : Nat}, PaperAt n H t p → Same H H' → PaperAt n H' t p
  | 0, _, _, _, _, h, _ => h.elim
  | n + 1, H, H', t, p, ⟨f, u, xs, l, e1, e2, hp, hf, hl, pr⟩, s => ⟨f, u, xs, l, s _ _ e1, s _ _ e2, hp, hf, hl, paired_mono (fun _ _ ⟨a, b, e, h1, h2⟩ => ⟨a, b, e, s _ _ h1, h2.same s⟩) pr⟩
theorem PaperAt.upd : ∀ {n : Nat} {H : Hp} {t D : Addr} {p : Nat} {zs : List V} {o : HO}, H D = some (.lst zs) → PaperAt n H t p → PaperAt n (L2.upd H D o) t p
  | 0, _, _, _, _, _, _, _, h => h.elim
  | n + 1, H, t, D, p, zs, o, hD, ⟨f, u, xs, l, e1, e2, hp, hf, hl, pr⟩ => by
    have fr : ∀ {r : List V} {b : Addr}, H b = some (.tup r) → L2.upd H D o b = some (.tup r) := fun {r b} e => by
      rw [upd_ne (fun z => by rw [z, hD] at e; cases e)]; exact e
    exact ⟨f, u, xs, l, fr e1, fr e2, hp, hf, hl, paired_mono (fun _ _ ⟨a, b, e, h1, h2⟩ => ⟨a, b, e, fr h1, h2.upd hD⟩) pr⟩
/-- what a reader of a paper needs -/
theorem PaperAt.open_ {n : Nat} {H : Hp} {t : Addr} {p : Nat} (h : PaperAt n H t p) : ∃ (m : Nat) (f : Nat) (u : Addr) (xs : List V) (l : List (Nat × Nat)), n = m + 1 ∧ H t = some (.tup [.int (p : Nat), .int (f : Nat), .ref u]) ∧ H u = some (.tup xs) ∧ M.Prime p ∧ M.LeastFull p f ∧ M.IsFac (p - 1) l ∧
    Paired (fun x r => ∃ a s, x = V.ref a ∧ H a = some (.tup [.ref s, .int (r.2 : Nat)]) ∧ PaperAt m H s r.1) xs l := by
  cases n with
  | zero => exact h.elim
  | succ m =>
    obtain ⟨f, u, xs, l, h⟩ := h
    exact ⟨m, f, u, xs, l, rfl, h⟩

/-- a parting paper at u: for each prime its paper's place, the prime, how often -/
def PartsAt (m : Nat) (H : Hp) (u : Addr) (pl : List (Addr × Nat × Nat)) : Prop := ∃ xs, H u = some (.tup xs) ∧ Paired (fun x r => ∃ t, x = V.ref t ∧ H t = some (.tup [.ref r.1, .int (r.2.2 : Nat)]) ∧ PaperAt m H r.1 r.2.1) xs pl
def facs (pl : List (Addr × Nat × Nat)) : List (Nat × Nat) := pl.map fun r => r.2
theorem facs_len (pl : List (Addr × Nat × Nat)) : (facs pl).length = pl.length := List.length_map ..
theorem facs_get {pl : List (Addr × Nat × Nat)} {i : Nat} {s : Addr} {q b : Nat} (h : pl[i]? = some (s, q, b)) : (facs pl)[i]? = some (q, b) := by
  unfold facs; rw [List.getElem?_map, h]; rfl
theorem PartsAt.same {m : Nat} {H H' : Hp} {u : Addr} {pl : List (Addr × Nat × Nat)} (h : PartsAt m H u pl) (s : Same H H') : PartsAt m H' u pl := by
  obtain ⟨xs, e, pr⟩ := h
  exact ⟨xs, s _ _ e, paired_mono (fun _ _ ⟨t, e, h1, h2⟩ => ⟨t, e, s _ _ h1, h2.same s⟩) pr⟩
theorem pap_choose {n : Nat} {H : Hp} : ∀ {xs : List V} {l : List (Nat × Nat)}, Paired (fun x r => ∃ a s, x = V.ref a ∧ H a = some (.tup [.ref s, .int (r.2 : Nat)]) ∧ PaperAt n H s r.1) xs l →
    ∃ pl : List (Addr × Nat × Nat), facs pl = l ∧ Paired (fun x r => ∃ t, x = V.ref t ∧ H t = some (.tup [.ref r.1, .int (r.2.2 : Nat)]) ∧ PaperAt n H r.1 r.2.1) xs pl
  | _, _, .nil => ⟨[], rfl, .nil⟩
  | _, y :: _, .cons ⟨a, s, e, h1, h2⟩ r => by
    obtain ⟨pl, e2, pr⟩ := pap_choose r
    exact ⟨(s, y) :: pl, by unfold facs at e2 ⊢; rw [List.map_cons, e2], .cons ⟨a, e, h1, h2⟩ pr⟩
/-- a paper, opened -/
structure Pap (n : Nat) (H : Hp) (t : Addr) (p f : Nat) (u : Addr) (pl : List (Addr × Nat × Nat)) : Prop where
  at_ : H t = some (.tup [.int (p : Nat), .int (f : Nat), .ref u])
  hp : M.Prime p
  hf : M.LeastFull p f
  hl : M.IsFac (p - 1) (facs pl)
  ps : PartsAt n H u pl
theorem Pap.same {n : Nat} {H H' : Hp} {t : Addr} {p f : Nat} {u : Addr} {pl : List (Addr × Nat × Nat)} (h : Pap n H t p f u pl) (s : Same H H') : Pap n H' t p f u pl := ⟨s _ _ h.at_, h.hp, h.hf, h.hl, h.ps.same s⟩
theorem PaperAt.pap {n : Nat} {H : Hp} {t : Addr} {p : Nat} (h : PaperAt (n + 1) H t p) : ∃ f u pl, Pap n H t p f u pl := by
  obtain ⟨f, u, xs, l, e1, e2, hp, hf, hl, pr⟩ := h
  obtain ⟨pl, e3, pr'⟩ := pap_choose pr
  exact ⟨f, u, pl, e1, hp, hf, by rw [e3]; exact hl, xs, e2, pr'⟩
theorem Pap.paper {n : Nat} {H : Hp} {t : Addr} {p f : Nat} {u : Addr} {pl : List (Addr × Nat × Nat)} (h : Pap n H t p f u pl) : PaperAt (n + 1) H t p := by
  obtain ⟨xs, e2, pr⟩ := h.ps
  refine ⟨f, u, xs, facs pl, h.at_, e2, h.hp, h.hf, h.hl, ?_⟩
  have key : ∀ {xs : List V} {pl : List (Addr × Nat × Nat)}, Paired (fun x r => ∃ t, x = V.ref t ∧ H t = some (.tup [.ref r.1, .int (r.2.2 : Nat)]) ∧ PaperAt n H r.1 r.2.1) xs pl → Paired (fun x r => ∃ a s, x = V.ref a ∧ H a = some (.tup [.ref s, .int (r.2 : Nat)]) ∧ PaperAt n H s r.1) xs (facs pl) := by
    intro xs pl pr
    induction pr with
    | nil => exact .nil
    | cons f _ ih =>
      obtain ⟨t, e, h1, h2⟩ := f
      exact .cons ⟨t, _, e, h1, h2⟩ ih
  exact key pr
theorem paired_mem {α β : Type} {F : α → β → Prop} {xs : List α} {ys : List β} {y : β} (h : Paired F xs ys) (hy : y ∈ ys) : ∃ x, x ∈ xs ∧ F x y := by
  induction h with
  | nil => simp at hy
  | cons f _ ih =>
    rcases List.mem_cons.mp hy with z | z
    · subst z; exact ⟨_, by simp, f⟩
    · obtain ⟨x, h1, h2⟩ := ih z
      exact ⟨x, by simp [h1], h2⟩
theorem PartsAt.mem {m : Nat} {H : Hp} {u : Addr} {pl : List (Addr × Nat × Nat)} (h : PartsAt m H u pl) {r : Addr × Nat × Nat} (hr : r ∈ pl) : PaperAt m H r.1 r.2.1 := by
  obtain ⟨xs, e, pr⟩ := h
  obtain ⟨x, _, t, _, _, h2⟩ := paired_mem pr hr
  exact h2
/-- the first part of a paper is its prime -/
theorem PaperAt.first {n : Nat} {H : Hp} {t : Addr} {p : Nat} (h : PaperAt n H t p) : ∃ f u, H t = some (.tup [.int (p : Nat), .int (f : Nat), .ref u]) := by
  obtain ⟨m, f, u, xs, l, _, e1, _⟩ := h.open_
  exact ⟨f, u, e1⟩
theorem facs_mem {pl : List (Addr × Nat × Nat)} {r : Addr × Nat × Nat} (h : r ∈ pl) : r.2 ∈ facs pl := List.mem_map.mpr ⟨r, h, rfl⟩
theorem pl_len {E : Nat} {pl : List (Addr × Nat × Nat)} (h : M.IsFac E (facs pl)) (h0 : 0 < E) (h1 : E < 2 ^ 200) : pl.length ≤ 200 := by
  obtain ⟨d, hd⟩ := M.Fac.of h h0
  have := fac_len hd h1
  rwa [facs_len] at this
/-- the rows of an order paper -/
def dv (o : Nat) (r : Addr × Nat × Nat) : Bool := o % r.2.1 == 0
def ordRows (n : Nat) (a : Int) (o : Nat) (pl : List (Addr × Nat × Nat)) : List (List V) := (pl.filter (dv o)).map fun r => [V.ref r.1, V.int (M.vq r.2.1 o : Nat), V.int (M.pw n a (o / r.2.1))]
/-- the order paper of a by n at t, by the primes pl -/
def OrdAt (H : Hp) (t : Addr) (n : Nat) (a : Int) (o : Nat) (pl : List (Addr × Nat × Nat)) : Prop := ∃ w ys, H t = some (.tup [.int (o : Nat), .ref w]) ∧ H w = some (.tup ys) ∧ TupsIn H ys (ordRows n a o pl)
theorem OrdAt.same {H H' : Hp} {t : Addr} {n : Nat} {a : Int} {o : Nat} {pl : List (Addr × Nat × Nat)} (h : OrdAt H t n a o pl) (s : Same H H') : OrdAt H' t n a o pl := by
  obtain ⟨w, ys, h1, h2, h3⟩ := h
  exact ⟨w, ys, s _ _ h1, s _ _ h2, h3.same s⟩
theorem PaperAt.pap' {n : Nat} {H : Hp} {t : Addr} {p : Nat} (h : PaperAt n H t p) : ∃ m f u pl, n = m + 1 ∧ Pap m H t p f u pl := by
  cases n with
  | zero => exact h.elim
  | succ m =>
    obtain ⟨f, u, pl, e⟩ := h.pap
    exact ⟨m, f, u, pl, rfl, e⟩
theorem ord_no_one {p : Nat} {a : Int} {o : Nat} {pl : List (Addr × Nat × Nat)} (hp2 : 2 ≤ p) (ho : M.Ord p a o) (hq : ∀ r ∈ pl, 2 ≤ r.2.1) : (1 : Int) ∉ ((pl.filter (dv o)).map fun r => M.pw p a (o / r.2.1)) := fun h => by
  obtain ⟨r, hr, e⟩ := List.mem_map.mp h
  obtain ⟨h1, h2⟩ := List.mem_filter.mp hr
  have hd : o % r.2.1 = 0 := by unfold dv at h2; exact beq_iff_eq.mp h2
  have hq2 := hq r h1
  have o0 := ho.pos
  have h3 : r.2.1 ≤ o := Nat.le_of_dvd o0 (Nat.dvd_of_mod_eq_zero hd)
  have h4 := ho.least _ (Nat.div_pos h3 (by omega)) ((M.pw_one_iff hp2).mp e)
  have h5 := Nat.div_lt_self o0 (show 1 < r.2.1 by omega)
  omega

def sp__law_paper (n : Nat) : Sp := fun vs H Q _ => ∃ p : Nat, vs = [.int p] ∧ M.Prime p ∧ p ≤ 2 ^ n ∧ p < 2 ^ 100 ∧ ∀ t H', PaperAt (n + 1) H' t p → Same H H' → Q (.ref t) H'
theorem ok_paperS (T : Txt K mg) {n : Nat} (IH : FnOk P w K mg base CX0 (n + 2) (He.ga K "_law_paper") (fd__law_paper T) ["_law_p"] (sp__law_paper n)) : FnOk P w K mg base CX0 (n + 3) (He.ga K "_law_paper") (fd__law_paper T) ["_law_p"] (sp__law_paper (n + 1)) := by
  refine (F__law_paper T).ok sc__law_paper (fun vs H Q E h => ?_) (fun cdv A outer s H vs Q E hr h => ⟨_, PSs.nox (pss_cons (ps_set (i := 1) sc__law_paper.nd rfl (Or.inl rfl) pe_int)
      (pss_cons (ps_while PassesOwn.never (pt_cmpR op_lt (pe_call (ok__law_steps T) (hr.mono (by omega)) rfl (g__law_steps T) (kp__law_steps T) (B__law_steps T) .nil pass0 (pa_cons (pv 0) (pa_cons (pv 1) pa_nil))) (pe_op op_sub (pv 0) pe_int) (nomark _)) (pss_one (ps_set (i := 1) sc__law_paper.nd rfl (Or.inl rfl) (pe_op op_add (pv 1) pe_int))))
      (pss_one (ps_ret (pe_tup (pa_cons (pv 0) (pa_cons (pv 1) (pa_cons (pe_callTy callTup rfl (T.fr (T.c.fact 40 rfl)) boot_tuple (pa_cons (pe_lc (own := [("_law_q", 2), ("_law_many", 3)]) (tt := tYes) (g := gTup K 2 (gCons (gName 2) (gCons (gName 3) gNil))) rfl sc__law_paper.nd (pi_list (pe_call (ok__law_parted T) (hr.mono (by omega)) rfl (g__law_parted T) (kp__law_parted T) (B__law_parted T) .nil pass0 (pa_cons (pe_op op_sub (pv 0) pe_int) pa_nil))) (blkOk_by (N := N__law_paper) (sc := defScope s__law_paper) (by decide +kernel)) (fun _ _ _ _ _ => (pg_tup rfl (pgs_cons (pg_name (i := 2) sc__law_paper.nd rfl (Or.inl rfl)) (pgs_cons (pg_name (i := 3) sc__law_paper.nd rfl (Or.inl rfl)) pgs_nil)))) (fun _ _ _ _ _ => pts_nil) (fun _ _ _ _ _ => (pe_tup (pa_cons (pe_call (IH) (hr.mono (by omega)) rfl (g__law_paper T) (kp__law_paper T) (B__law_paper T) .nil pass0 (pa_cons (pv 2) pa_nil)) (pa_cons (pv 3) pa_nil))))) pa_nil)) pa_nil)))))))), ?_⟩)
  · obtain ⟨p, rfl, _⟩ := h; rfl
  · obtain ⟨p, rfl, hp, hpn, hpb, k⟩ := h
    have hp2 := hp.1
    have e1 : (p : Int) - 1 = ((p - 1 : Nat) : Int) := by omega
    obtain ⟨g, g0, g1, gf⟩ := M.full_small hp
    walk_at "g"
    refine s_while (fun σ H' => H' = H ∧ ∃ (f : Nat) (v1 v2 : Option V), σ = [some (.int p), some (.int f), v1, v2] ∧ 0 < f ∧ f ≤ g ∧ ∀ i : Nat, 0 < i → i < f → ¬M.Ord p (i : Int) (p - 1))
      (fun σ _ => g - (iv σ 1).toNat) ⟨rfl, 1, none, none, rfl, by decide, by omega, fun i h1 h2 => by omega⟩ ?_
    rintro σ H' ⟨rfl, f, v1, v2, rfl, f0, fg, hno⟩
    have hun : M.un p (f : Int) := M.un_small (by omega) (by omega)
    obtain ⟨o, ho⟩ := M.exists_ord hp hun
    have hole := ho.le hp hun
    walk_at "g"
    refine ⟨p, f, o, rfl, ho, hp, by omega, by omega, ?_⟩
    walk_at "g"
    refine s_ite (fun c => ?_) (fun c => ?_)
    · have nf : ¬M.Ord p (f : Int) (p - 1) := fun o' => by
        have := ho.uniqueN o'
        omega
      have fl : f ≠ g := fun z => nf (by rw [z]; exact gf)
      walk_at "g"
      refine ⟨⟨rfl, f + 1, _, _, by push_cast; rfl, by omega, by omega, fun i h1 h2 => ?_⟩, ?_⟩
      · by_cases z : i = f
        · rw [z]; exact nf
        · exact hno i h1 (by omega)
      · show g - ((f : Int) + 1).toNat < g - (f : Int).toNat
        omega
    · have hof : M.Ord p (f : Int) (p - 1) := by
        have : o = p - 1 := by omega
        rw [← this]; exact ho
      walk_at "g"
      refine s_lc ?_
      walk_at "g"
      refine ⟨p - 1, by rw [e1]; rfl, by omega, by omega, fun q H1 xs l hl nq s1 hq ht => ?_⟩
      have hxl : xs.length = l.length := by rw [ht.length, List.length_map]
      have hll : l.length ≤ 200 := by
        obtain ⟨d, hd⟩ := M.Fac.of hl (by omega)
        exact fac_len hd (by omega)
      walk_at "g"
      refine ⟨⟨_, SqL.of hq⟩, fun D2 hD2' => ?_⟩
      refine lc_list (fun i H3 => Same H1 H3 ∧ ∃ ys : List V, H3 D2 = some (.lst ys) ∧ Paired (fun x r => ∃ a s, x = V.ref a ∧ H3 a = some (.tup [.ref s, .int (r.2 : Nat)]) ∧ PaperAt (n + 1) H3 s r.1) ys (l.take i)) ⟨same_upd hD2', [], upd_same, by rw [List.take_zero]; exact .nil⟩ (fun i H3 _ I => SqL.of (I.1 _ _ hq)) ?_ ?_
      · rintro i x H3 hi ⟨s3, ys, hD3', pr⟩
        have hil : i < xs.length := (List.getElem?_eq_some_iff.mp hi).1
        obtain ⟨y, hy, t, rfl, et⟩ := pget ht hi
        rw [List.getElem?_map] at hy
        obtain ⟨⟨a, b⟩, hab, rfl⟩ := Option.map_eq_some_iff.mp hy
        have hpa := (hl.primes _ (List.mem_of_getElem? hab)).1
        have hda := M.fac_dvd hl (List.mem_of_getElem? hab)
        have had := Nat.le_of_dvd (by omega) hda
        have hyl : ys.length = i := by rw [pr.length, List.length_take]; omega
        refine s_gtup (SqT.of (s3 _ _ et)) rfl ?_
        walk_at "g"
        refine ⟨rfl, ?_⟩
        walk_at "g"
        refine ⟨a, rfl, hpa, M.paper_prime hp hpa hda hpn, Nat.lt_of_le_of_lt had (by omega), fun s H4 pa s4 => ?_⟩
        walk_at "g"
        refine mkT (by simp) fun t2 H5 nt2 et2 s5 => ?_
        have s35 := s4.trans s5
        refine ⟨ys, s35 _ _ hD3', small1000 (by omega), same_upd' (s3.trans s35) hD2', ys ++ [.ref t2], upd_same, ?_⟩
        rw [take_more hab]
        have fr : ∀ {r : List V} {b : Addr}, H5 b = some (.tup r) → upd H5 D2 (.lst (ys ++ [.ref t2])) b = some (.tup r) := fun {r b} e => by
          rw [upd_ne (fun z => by rw [z, s35 _ _ hD3'] at e; cases e)]; exact e
        refine paired_snoc (paired_mono (fun x r ⟨a', s', e', h1, h2⟩ => ⟨a', s', e', fr (s35 _ _ h1), PaperAt.upd (s35 _ _ hD3') (h2.same s35)⟩) pr) ⟨t2, s, rfl, fr et2, PaperAt.upd (s35 _ _ hD3') (pa.same s5)⟩
      · rintro H3 ⟨s3, ys, hD3', pr⟩
        rw [hxl, List.take_length] at pr
        have hyl : ys.length = l.length := pr.length
        walk_at "g"
        refine s_tupL (SqL.of hD3') fun u nu => ?_
        have S4 : Same H3 (upd H3 u (.tup ys)) := same_upd nu
        have e4 : upd H3 u (.tup ys) u = some (.tup ys) := upd_same
        generalize upd H3 u (.tup ys) = H4 at S4 e4 ⊢
        walk_at "g"
        refine mkT (by simp) fun t H5 nt et s5 => ?_
        refine k t H5 ⟨f, u, ys, l, et, s5 _ _ e4, hp, ⟨f0, by omega, hof, hno⟩, hl, paired_mono (fun x r ⟨a', s', e', h1, h2⟩ => ⟨a', s', e', s5 _ _ (S4 _ _ h1), (h2.same S4).same s5⟩) pr⟩ (s1.trans ((s3.trans (S4.trans s5))))
theorem paperN (T : Txt K mg) : ∀ n : Nat, FnOk P w K mg base CX0 (n + 2) (He.ga K "_law_paper") (fd__law_paper T) ["_law_p"] (sp__law_paper n)
  | 0 => ⟨fun vs H Q E ⟨p, e, hp, h, _⟩ => by have := hp.1; rw [Nat.pow_zero] at h; omega, fun _ _ _ _ _ _ vs _ _ _ _ _ _ ⟨p, e, hp, h, _⟩ => by have := hp.1; rw [Nat.pow_zero] at h; omega⟩
  | n + 1 => ok_paperS T (paperN T n)
theorem ok__law_paper (T : Txt K mg) : FnOk P w K mg base CX0 40 (He.ga K "_law_paper") (fd__law_paper T) ["_law_p"] (sp__law_paper 38) := paperN T 38

/-- _law_common of two numbers from 0 on: their greatest divisor -/
def sp__law_common : Sp := fun vs H Q _ => ∃ a b : Nat, vs = [.int a, .int b] ∧ Q (.int (Nat.gcd a b)) H
theorem ok__law_common (T : Txt K mg) : FnOk P w K mg base CX0 1 (He.ga K "_law_common") (fd__law_common T) ["_law_one", "_law_other"] sp__law_common := by
  refine (F__law_common T).ok sc__law_common (fun vs H Q E h => ?_) (fun cdv A outer s H vs Q E hr h => ⟨_, PSs.nox (pss_cons (ps_while PassesOwn.never (pt_cmpR op_ne (pv 1) pe_int (nomark _)) (pss_one (ps_par (i := 0) (j := 1) rfl sc__law_common.nd rfl rfl (by decide) rfl rfl (pa_cons (pv 1) (pa_cons (pe_op op_mod (pv 0) (pv 1)) pa_nil)) rfl)))
      (pss_one (ps_ret (pv 0)))), ?_⟩)
  · obtain ⟨a, b, rfl, _⟩ := h; rfl
  · obtain ⟨a, b, rfl, k⟩ := h
    walk_at "g"
    refine s_while (fun σ H' => H' = H ∧ ∃ c d : Nat, σ = [some (.int c), some (.int d)] ∧ Nat.gcd c d = Nat.gcd a b) (fun σ _ => (iv σ 1).natAbs) ⟨rfl, a, b, rfl, rfl⟩ ?_
    rintro σ H' ⟨rfl, c, d, rfl, e⟩
    walk_at "g"
    refine s_iten (fun hd => ?_) (fun hd => ?_)
    · walk_at "g"
      refine s_i (by omega) ?_
      walk_at "g"
      have dp : 0 < d := by omega
      have ml := Nat.mod_lt c dp
      refine ⟨⟨rfl, d, c % d, rfl, ?_⟩, ?_⟩
      · rw [Nat.gcd_comm, ← Nat.gcd_rec, Nat.gcd_comm]; exact e
      · show ((c : Int) % d).natAbs < (d : Int).natAbs
        omega
    · have z : d = 0 := by omega
      subst z
      walk_at "g"
      rw [Nat.gcd_zero_right] at e
      rw [e]
      exact k

/-- numbers as values -/
def nv (l : List Nat) : List V := (l.map fun d : Nat => (d : Int)).map V.int
theorem ints_back {L : List Nat} {ns : List Int} (pm : ns.Perm (L.map fun d : Nat => (d : Int))) (srt : ns.Pairwise (· ≤ ·)) (nd : L.Pairwise (· ≠ ·)) : ∃ ds : List Nat, ns = ds.map (fun d : Nat => (d : Int)) ∧ ds.Perm L ∧ ds.Pairwise (· < ·) := by
  have h1 : ns = (ns.map Int.toNat).map (fun d : Nat => (d : Int)) := by
    rw [List.map_map]
    refine ((List.map_congr_left fun z hz => ?_).trans (List.map_id _)).symm
    obtain ⟨d, _, rfl⟩ := List.mem_map.mp (pm.mem_iff.mp hz)
    rfl
  have h2 : (ns.map Int.toNat).Perm L := by
    have h := pm.map Int.toNat
    rw [List.map_map] at h
    have e : L.map (Int.toNat ∘ fun d : Nat => (d : Int)) = L := (List.map_congr_left fun z _ => rfl).trans (List.map_id _)
    rw [e] at h
    exact h
  refine ⟨_, h1, h2, ?_⟩
  have h3 : (ns.map Int.toNat).Nodup := h2.nodup_iff.mpr nd
  rw [h1, List.pairwise_map] at srt
  exact (srt.and h3).imp fun z => by have := z.1; have := z.2; omega
theorem nv_app (l m : List Nat) : nv (l ++ m) = nv l ++ nv m := by simp [nv]
theorem nv_len (l : List Nat) : (nv l).length = l.length := by simp [nv]
theorem nv_get {l : List Nat} {i : Nat} {x : V} (h : (nv l)[i]? = some x) : ∃ d, l[i]? = some d ∧ x = .int (d : Nat) := by
  unfold nv at h
  rw [List.getElem?_map, List.getElem?_map] at h
  obtain ⟨z, h1, rfl⟩ := Option.map_eq_some_iff.mp h
  obtain ⟨d, h2, rfl⟩ := Option.map_eq_some_iff.mp h1
  exact ⟨d, h2, rfl⟩
theorem line2 {n : Nat} (h : n ≤ 2000000) : n < sizeLine := by rw [sizeLine_eq]; omega

/-- numbers, each with how often, as the entries of a dict -/
def pKv (L : List (Nat × Nat)) : List (Key × V) := L.map fun x => ((.inl (x.1 : Int) : Key), V.int (x.2 : Nat))
def cur : List (Nat × Nat) → Nat → Nat
  | [], _ => 0
  | x :: L, q => if x.1 = q then x.2 else cur L q
theorem key_ne {a b : Nat} (h : a ≠ b) : ¬ ((Sum.inl (a : Int) : Key) = Sum.inl (b : Int)) := fun z => h (by
  have := Sum.inl.inj z
  omega)
theorem pk_get (q : Nat) : ∀ L : List (Nat × Nat), (valV (pKv L) (.inl (q : Int))).getD (.int 0) = V.int (cur L q : Nat)
  | [] => rfl
  | x :: L => by
    have ih := pk_get q L
    unfold pKv valV at ih ⊢
    rw [List.map_cons, List.find?_cons]
    unfold cur
    by_cases c : x.1 = q
    · rw [if_pos c]
      simp [c]
    · rw [if_neg c]
      have h1 : decide ((Sum.inl (x.1 : Int) : Key) = Sum.inl (q : Int)) = false := decide_eq_false (key_ne c)
      simp only [h1]
      exact ih
theorem pk_val {L : List (Nat × Nat)} {q b : Nat} (nd : (L.map (·.1)).Nodup) (h : (q, b) ∈ L) : valV (pKv L) (.inl (q : Int)) = some (.int (b : Nat)) ∧ cur L q = b := by
  induction L with
  | nil => cases h
  | cons x L ih =>
    have nd' := List.nodup_cons.mp (by rw [List.map_cons] at nd; exact nd)
    unfold pKv valV cur
    rw [List.map_cons, List.find?_cons]
    rcases List.mem_cons.mp h with e | e
    · subst e
      simp
    · have hne : x.1 ≠ q := fun z => nd'.1 (List.mem_map.mpr ⟨_, e, z.symm⟩)
      have h1 : decide ((Sum.inl (x.1 : Int) : Key) = Sum.inl (q : Int)) = false := decide_eq_false (key_ne hne)
      simp only [h1]
      rw [if_neg hne]
      exact ih nd'.2 e
theorem cur_none {L : List (Nat × Nat)} {q : Nat} (h : q ∉ L.map (·.1)) : cur L q = 0 := by
  induction L with
  | nil => rfl
  | cons x L ih =>
    rw [List.map_cons, List.mem_cons] at h
    unfold cur
    rw [if_neg fun z => h (.inl z.symm)]
    exact ih fun z => h (.inr z)
theorem pk_none {L : List (Nat × Nat)} {q : Nat} (h : q ∉ L.map (·.1)) : valV (pKv L) (.inl (q : Int)) = none := by
  unfold valV pKv
  rw [Option.map_eq_none_iff, List.find?_eq_none]
  intro kv hkv
  obtain ⟨x, hx, rfl⟩ := List.mem_map.mp hkv
  intro e
  have e1 : (Sum.inl (x.1 : Int) : Key) = Sum.inl (q : Int) := of_decide_eq_true e
  have e2 := Sum.inl.inj e1
  exact h (List.mem_map.mpr ⟨x, hx, by omega⟩)
/-- the list behind a put -/
def pkPut (L : List (Nat × Nat)) (q m : Nat) : List (Nat × Nat) := if q ∈ L.map (·.1) then L.map fun x => if x.1 = q then (q, m) else x else L ++ [(q, m)]
theorem pk_put {L : List (Nat × Nat)} (q m : Nat) : putK (pKv L) (.inl (q : Int)) (.int (m : Nat)) = pKv (pkPut L q m) := by
  unfold pkPut
  by_cases c : q ∈ L.map (·.1)
  · rw [if_pos c]
    obtain ⟨y, hy, rfl⟩ := List.mem_map.mp c
    unfold putK
    rw [if_pos (by
      rw [List.any_eq_true]
      exact ⟨_, List.mem_map.mpr ⟨y, hy, rfl⟩, by simp⟩)]
    unfold pKv
    rw [List.map_map, List.map_map]
    refine List.map_congr_left fun k hk => ?_
    by_cases d : k.1 = y.1
    · simp [d]
    · simp only [Function.comp, if_neg d, if_neg (key_ne d)]
  · rw [if_neg c, putK_new _ (pk_none c)]
    unfold pKv
    rw [List.map_append]; rfl
theorem pk_keys {L : List (Nat × Nat)} {q m : Nat} (c : q ∈ L.map (·.1)) : (L.map fun x => if x.1 = q then (q, m) else x).map (·.1) = L.map (·.1) := by
  rw [List.map_map]
  refine List.map_congr_left fun x _ => ?_
  show (if x.1 = q then (q, m) else x).1 = x.1
  split
  · rename_i h; exact h.symm
  · rfl
theorem pk_nd {L : List (Nat × Nat)} (q m : Nat) (nd : (L.map (·.1)).Nodup) : ((pkPut L q m).map (·.1)).Nodup := by
  unfold pkPut
  by_cases c : q ∈ L.map (·.1)
  · rw [if_pos c, pk_keys c]; exact nd
  · rw [if_neg c, List.map_append]
    exact List.nodup_append.mpr ⟨nd, List.pairwise_singleton _ _, fun a ha b hb => by rw [List.mem_singleton.mp hb]; exact fun z => c (by rw [← show a = q from z]; exact ha)⟩
theorem pk_mem {L : List (Nat × Nat)} {q m : Nat} {x : Nat × Nat} (h : x ∈ pkPut L q m) : x = (q, m) ∨ x ∈ L ∧ x.1 ≠ q := by
  unfold pkPut at h
  by_cases c : q ∈ L.map (·.1)
  · rw [if_pos c] at h
    obtain ⟨y, hy, rfl⟩ := List.mem_map.mp h
    by_cases d : y.1 = q
    · rw [if_pos d]; exact .inl rfl
    · rw [if_neg d]; exact .inr ⟨hy, d⟩
  · rw [if_neg c] at h
    rcases List.mem_append.mp h with z | z
    · exact .inr ⟨z, fun e => c (List.mem_map.mpr ⟨x, z, e⟩)⟩
    · exact .inl (List.mem_singleton.mp z)
theorem pk_has {L : List (Nat × Nat)} (q m : Nat) : (q, m) ∈ pkPut L q m := by
  unfold pkPut
  by_cases c : q ∈ L.map (·.1)
  · rw [if_pos c]
    obtain ⟨y, hy, e⟩ := List.mem_map.mp c
    exact List.mem_map.mpr ⟨y, hy, by rw [if_pos e]⟩
  · rw [if_neg c]; simp
theorem pk_old {L : List (Nat × Nat)} {q m : Nat} {x : Nat × Nat} (h : x ∈ L) (hx : x.1 ≠ q) : x ∈ pkPut L q m := by
  unfold pkPut
  by_cases c : q ∈ L.map (·.1)
  · rw [if_pos c]
    exact List.mem_map.mpr ⟨x, h, by rw [if_neg hx]⟩
  · rw [if_neg c]; simp [h]
theorem pk_len {L : List (Nat × Nat)} (q m : Nat) : (pkPut L q m).length ≤ L.length + 1 := by
  unfold pkPut
  split
  · rw [List.length_map]; omega
  · rw [List.length_append]; simp
theorem pk_prod {L : List (Nat × Nat)} {q t : Nat} (nd : (L.map (·.1)).Nodup) : M.prodL (pkPut L q (cur L q + t)) = M.prodL L * q ^ t := by
  unfold pkPut
  by_cases c : q ∈ L.map (·.1)
  · rw [if_pos c]
    induction L with
    | nil => cases c
    | cons x L ih =>
      have nd' := List.nodup_cons.mp (by rw [List.map_cons] at nd; exact nd)
      rw [List.map_cons]
      unfold cur
      by_cases d : x.1 = q
      · rw [if_pos d, if_pos d]
        have hno : q ∉ L.map (·.1) := by rw [← d]; exact nd'.1
        have e : (L.map fun y => if y.1 = q then (q, x.2 + t) else y) = L := (List.map_congr_left fun y hy => by rw [if_neg fun z => hno (List.mem_map.mpr ⟨y, hy, z⟩)]; rfl).trans (List.map_id _)
        rw [e]
        simp only [M.prodL]
        rw [d, Nat.pow_add]
        grind
      · rw [if_neg d, if_neg d]
        rw [List.map_cons, List.mem_cons] at c
        have ih' := ih nd'.2 (c.resolve_left fun z => d z.symm)
        simp only [M.prodL]
        rw [ih', Nat.mul_assoc]
  · rw [if_neg c, cur_none c, M.prodL_app]
    simp [M.prodL]
theorem pk_merge : ∀ (B A : List (Nat × Nat)), ((A ++ B).map (·.1)).Nodup → mergeK (pKv A) (pKv B) = pKv (A ++ B)
  | [], A, _ => by rw [List.append_nil]; rfl
  | x :: B, A, nd => by
    have hx : x.1 ∉ A.map (·.1) := fun z => by
      rw [List.map_append, List.map_cons] at nd
      exact (List.nodup_append.mp nd).2.2 x.1 z x.1 (by simp) rfl
    have e1 : mergeK (pKv A) (pKv (x :: B)) = mergeK (putK (pKv A) (.inl (x.1 : Int)) (.int (x.2 : Nat))) (pKv B) := rfl
    rw [e1, putK_new _ (pk_none hx)]
    have e2 : pKv A ++ [((.inl (x.1 : Int) : Key), V.int (x.2 : Nat))] = pKv (A ++ [x]) := by unfold pKv; rw [List.map_append]; rfl
    rw [e2, pk_merge B (A ++ [x]) (by rw [List.append_assoc]; exact nd), List.append_assoc]; rfl
theorem pk_sort {L : List (Nat × Nat)} {qs : List Nat} (nd : (L.map (·.1)).Nodup) (pm : qs.Perm (L.map (·.1))) : (qs.map fun q => (q, cur L q)).Perm L := by
  have h1 : L.map (fun x => (x.1, cur L x.1)) = L := (List.map_congr_left fun x hx => by rw [(pk_val nd (q := x.1) (b := x.2) hx).2]; rfl).trans (List.map_id _)
  have h2 := pm.map fun q => (q, cur L q)
  rw [List.map_map] at h2
  have h3 : L.map ((fun q => (q, cur L q)) ∘ fun x => x.1) = L.map (fun x => (x.1, cur L x.1)) := rfl
  rw [h3, h1] at h2
  exact h2

/-- numbers, each with a truth, as the entries of a dict -/
def trKv (L : List Nat) : List (Key × V) := L.map fun d : Nat => ((.inl (d : Int) : Key), V.bl true)
theorem tr_put {L : List Nat} (o : Nat) (nd : L.Nodup) : ∃ L' : List Nat, putK (trKv L) (.inl (o : Int)) (.bl true) = trKv L' ∧ L'.Nodup ∧ (∀ z, z ∈ L' ↔ z ∈ L ∨ z = o) ∧ L'.length ≤ L.length + 1 := by
  by_cases c : o ∈ L
  · refine ⟨L, ?_, nd, fun z => ⟨.inl, fun h => h.elim id fun e => e ▸ c⟩, by omega⟩
    unfold putK
    rw [if_pos (by
      rw [List.any_eq_true]
      exact ⟨_, List.mem_map.mpr ⟨o, c, rfl⟩, by simp⟩)]
    unfold trKv
    rw [List.map_map]
    refine List.map_congr_left fun k hk => ?_
    show (if (Sum.inl (k : Int) : Key) = Sum.inl (o : Int) then ((Sum.inl (k : Int) : Key), V.bl true) else ((Sum.inl (k : Int) : Key), V.bl true)) = _
    split <;> rfl
  · refine ⟨L ++ [o], ?_, ?_, fun z => by rw [List.mem_append, List.mem_singleton], by rw [List.length_append]; simp⟩
    · have hv : valV (trKv L) (.inl (o : Int)) = none := by
        unfold valV trKv
        rw [Option.map_eq_none_iff, List.find?_eq_none]
        intro kv hkv
        obtain ⟨x, hx, rfl⟩ := List.mem_map.mp hkv
        intro e
        have e1 : (Sum.inl (x : Int) : Key) = Sum.inl (o : Int) := of_decide_eq_true e
        have e2 := Sum.inl.inj e1
        exact c (by rw [show o = x by omega]; exact hx)
      rw [putK_new _ hv]
      unfold trKv
      rw [List.map_append]; rfl
    · exact List.nodup_append.mpr ⟨nd, List.pairwise_singleton _ _, fun a ha b hb => by rw [List.mem_singleton.mp hb]; exact fun z => c (by rw [← z]; exact ha)⟩
theorem mkDN {σ : L2.St} {H : Hp} {Q : VK} (h : ∀ p H', H p = none → H' p = some (.dK []) → Same H H' → Q (.ref p) H') : tDNewK σ H Q := fun p hp => h p _ hp upd_same (same_upd hp)

/-- the powers of w below q, each with its place -/
def plL (p : Nat) (w : Int) (q : Nat) : List (Nat × Nat) := (List.range q).map fun j => ((M.pw p w j).toNat, j)
theorem pl_nd {p q N : Nat} {w : Int} (hp : M.Prime p) (o : M.Ord p w N) (hq : q ≤ N) : ((plL p w q).map (·.1)).Nodup := by
  have hp2 := hp.1
  unfold plL
  rw [List.map_map]
  refine List.pairwise_map.mpr (List.Pairwise.imp_of_mem ?_ List.pairwise_lt_range)
  intro i j hi hj hij e
  have h1 := List.mem_range.mp hj
  have r1 := M.pw_range (n := (p : Int)) (by omega) w i
  have r2 := M.pw_range (n := (p : Int)) (by omega) w j
  have e2 : M.pw p w i = M.pw p w j := by
    have e : (M.pw p w i).toNat = (M.pw p w j).toNat := e
    omega
  exact M.pow_apart hp o hij (by omega) (M.al_of_emod e2.symm)
theorem pl_mem {p q j : Nat} {w : Int} (h : j < q) : ((M.pw p w j).toNat, j) ∈ plL p w q := List.mem_map.mpr ⟨j, List.mem_range.mpr h, rfl⟩
theorem pl_more (p k : Nat) (w : Int) : plL p w (k + 1) = plL p w k ++ [((M.pw p w k).toNat, k)] := by unfold plL; rw [List.range_succ, List.map_append]; rfl
theorem plL_len (p k : Nat) (w : Int) : (plL p w k).length = k := by unfold plL; rw [List.length_map, List.length_range]
theorem pl_look {p q j N : Nat} {w : Int} (hp : M.Prime p) (o : M.Ord p w N) (hq : q ≤ N) (h : j < q) : valV (pKv (plL p w q)) (.inl (M.pw p w j)) = some (.int (j : Nat)) := by
  have hp2 := hp.1
  have r1 := M.pw_range (n := (p : Int)) (by omega) w j
  have e : M.pw p w j = ((M.pw p w j).toNat : Int) := by omega
  rw [e]
  exact (pk_val (pl_nd hp o hq) (pl_mem h)).1
/-- places_by(p, w, q): a new dict of the powers of w, each with its place -/
def sp_places_by : Sp := fun vs H Q _ => ∃ (p q N : Nat) (w : Int), vs = [.int p, .int w, .int q] ∧ M.Prime p ∧ p < 2 ^ 200 ∧ w.natAbs < 2 ^ 400 ∧ M.Ord p w N ∧ q ≤ N ∧ q ≤ 1000000 ∧ ∀ D H', H D = none → Same H H' → H' D = some (.dK (pKv (plL p w q))) → Q (.ref D) H'
theorem ok_places_by (T : Txt K mg) : FnOk P w K mg base CX0 1 (He.ga K "places_by") (fd_places_by T) ["p", "w", "q"] sp_places_by := by
  refine (F_places_by T).ok sc_places_by (fun vs H Q E h => ?_) (fun cdv A outer s H vs Q E hr h => ⟨_, PSs.nox (pss_cons (ps_set (i := 3) sc_places_by.nd rfl (Or.inl rfl) pe_dnewK)
      (pss_cons (ps_set (i := 4) sc_places_by.nd rfl (Or.inl rfl) pe_int)
      (pss_cons (ps_for PassesOwn.never rfl (pi_range1 rfl (T.fr (T.c.fact 36 rfl)) (pa_cons (pv 2) pa_nil)) (pg_name (i := 5) sc_places_by.nd rfl (Or.inl rfl)) (pss_cons (ps_dput (hu_of hr) (pv 3) (pv 4) (pv 5) rfl)
      (pss_one (ps_set (i := 4) sc_places_by.nd rfl (Or.inl rfl) (pe_op op_mod (pe_op op_mulW (pv 4) (pv 1)) (pv 0))))))
      (pss_one (ps_ret (pv 3)))))), ?_⟩)
  · obtain ⟨p, q, N, w, rfl, _⟩ := h; rfl
  · obtain ⟨p, q, N, w, rfl, hp, hpb, hw, ho, hqN, hq, k⟩ := h
    have hp2 := hp.1
    walk_at "g"
    refine mkDN fun D H1 nD eD s1 => ?_
    walk_at "g"
    refine mkR1 q (by omega) (by omega) (by omega) ?_
    refine for_range (n := q) (fun i σ H' => Same H H' ∧ H' D = some (.dK (pKv (plL p w i))) ∧ ∃ (h : Int) (v : Option V), σ = [some (.int p), some (.int w), some (.int q), some (.ref D), some (.int h), v] ∧ 0 ≤ h ∧ h < p ∧ (i = 0 → h = 1) ∧ h = M.pw p w i) ⟨s1, eD, 1, none, rfl, by decide, by omega, fun _ => rfl, by unfold M.pw; rw [Int.pow_zero, Int.emod_eq_of_lt (by decide) (by omega)]⟩ ?_ ?_
    · rintro i σ H' hi ⟨s2, e2, h, v, rfl, h0, h1, _, eh⟩
      have hln := plL_len p i w
      walk_at "g"
      refine s_dputI e2 (line2 (by unfold pKv; rw [List.length_map, hln]; omega)) ?_
      walk_at "g"
      try refine s_i (mulW (by omega) (by omega)) ?_
      walk_at "g"
      refine s_i (by omega) ?_
      walk_at "g"
      refine ⟨same_upd' s2 nD, ?_, _, _, rfl, Int.emod_nonneg _ (by omega), Int.emod_lt_of_pos _ (by omega), fun z => by omega, ?_⟩
      · rw [upd_same]
        have ee : h = (h.toNat : Int) := by omega
        rw [pl_more, ← eh]
        have hno : h.toNat ∉ (plL p w i).map (·.1) := fun z => by
          have nd := pl_nd (q := i + 1) hp ho (by omega)
          rw [pl_more, List.map_append] at nd
          exact (List.nodup_append.mp nd).2.2 _ z _ (by rw [← eh]; simp) rfl
        have hp1 := pk_put (L := plL p w i) h.toNat i
        unfold pkPut at hp1
        rw [if_neg hno, ← ee] at hp1
        rw [Int.zero_add, hp1]
      · rw [eh]; exact M.pw_mul p w i
    · rintro σ H' ⟨s2, e2, h, v, rfl, _⟩
      walk_at "g"
      exact k D H' nD s2 e2

/-- place_of(p, w, c, q, many): which power of w a power of it is -/
def sp_place_of (K : PySem.W.Frag) : Sp := fun vs H Q _ => ∃ (p q m P : Nat) (w c : Int), vs = [.int p, .int w, .int c, .int q, .int m] ∧ M.Prime p ∧ p < 2 ^ 100 ∧ w.natAbs < 2 ^ 200 ∧ c.natAbs < 2 ^ 200 ∧ 2 ≤ q ∧ q ≤ 1000000 ∧ 1 ≤ m ∧ m < 2 ^ 50 ∧ q ^ m < 2 ^ 100 ∧ M.Ord p w (q ^ m) ∧ M.al p c (w ^ P) ∧ P < q ^ m ∧ ∀ H', Same H H' → Q (.int P) H'
theorem ok_place_of (T : Txt K mg) : FnOk P w K mg base (L2.CX P w) 8 (He.ga K "place_of") (fd_place_of T) ["p", "w", "c", "q", "many"] (sp_place_of K) := by
  refine (F_place_of T).ok sc_place_of (fun vs H Q E h => ?_) (fun cdv A outer s H vs Q E hr h => ⟨_, (pss_cons (ps_set (i := 5) sc_place_of.nd rfl (Or.inl rfl) (pe_call (ok_taken T) (hr.mono (by decide)) rfl (g_taken T) (kp_taken T) (B_taken T) .nil pass0 (pa_cons (pv 3) (pa_cons (pv 4) pa_nil))))
      (pss_cons (ps_set (i := 6) sc_place_of.nd rfl (Or.inl rfl) (pe_call (ok_places_by T) (hr.mono (by decide)) rfl (g_places_by T) (kp_places_by T) (B_places_by T) .nil pass0 (pa_cons (pv 0) (pa_cons (pe_call (ok_power T) (hr.mono (by decide)) rfl (g_power T) (kp_power T) (B_power T) .nil (passes_call (takes_of rfl rfl rfl rfl) (fun _ _ _ _ h => h)) (pa_cons (pv 0) (pa_cons (pv 1) (pa_cons (pe_op op_fdivW (pv 5) (pv 3)) pa_nil)))) (pa_cons (pv 3) pa_nil)))))
      (pss_cons (ps_set (i := 7) sc_place_of.nd rfl (Or.inl rfl) pe_int)
      (pss_cons (ps_set (i := 8) sc_place_of.nd rfl (Or.inl rfl) pe_int)
      (pss_cons (ps_for (passes_of rfl) rfl (pi_range1 rfl (T.fr (T.c.fact 36 rfl)) (pa_cons (pv 4) pa_nil)) (pg_name (i := 9) sc_place_of.nd rfl (Or.inl rfl)) (pss_cons (ps_set (i := 10) sc_place_of.nd rfl (Or.inl rfl) (pe_op op_mod (pe_op op_mulW (pv 2) (pe_call (ok_power T) (hr.mono (by decide)) rfl (g_power T) (kp_power T) (B_power T) .nil (passes_call (takes_of rfl rfl rfl rfl) (fun _ _ _ _ h => h)) (pa_cons (pv 0) (pa_cons (pv 1) (pa_cons (pe_op op_sub (pv 5) (pv 7)) pa_nil))))) (pv 0)))
      (pss_cons (ps_set (i := 7) sc_place_of.nd rfl (Or.inl rfl) (pe_op op_add (pv 7) (pe_op op_mulW (pv 8) (pe_dget (hu_of hr) (pv 6) (pe_call (ok_power T) (hr.mono (by decide)) rfl (g_power T) (kp_power T) (B_power T) .nil (passes_call (takes_of rfl rfl rfl rfl) (fun _ _ _ _ h => h)) (pa_cons (pv 0) (pa_cons (pv 10) (pa_cons (pe_op op_fdivW (pv 5) (pe_op op_mulW (pv 8) (pv 3))) pa_nil)))) (fun _ _ => rfl)))))
      (pss_one (ps_set (i := 8) sc_place_of.nd rfl (Or.inl rfl) (pe_op op_mulW (pv 8) (pv 3)))))))
      (pss_one (ps_ret (pv 7)))))))), ?_⟩)
  · obtain ⟨p, q, m, P, w, c, rfl, _⟩ := h; rfl
  · obtain ⟨p, q, m, P, w, c, rfl, hp, hpb, hw, hc, q2, q9, m1, m9, hqm, ho, hal, hP, k⟩ := h
    have hp2 := hp.1
    have hq0 : 0 < q ^ m := Nat.pow_pos (by omega)
    have em : q ^ m = q * q ^ (m - 1) := by rw [Nat.mul_comm, ← Nat.pow_succ]; congr 1; omega
    have ed : q ^ m / q = q ^ (m - 1) := by rw [em]; exact Nat.mul_div_cancel_left _ (by omega)
    have hoz : M.Ord p (M.pw p w (q ^ m / q)) q := by
      have h := ho.pw (q ^ m / q)
      have g : Nat.gcd (q ^ m / q) (q ^ m) = q ^ m / q := Nat.gcd_eq_left (Nat.div_dvd_of_dvd ⟨_, em⟩)
      rw [g, Nat.div_div_self ⟨_, em⟩ (by omega)] at h
      exact h
    have hzr := M.pw_range (n := (p : Int)) (by omega) w (q ^ m / q)
    walk_at "g"
    refine ⟨q, m, rfl, by omega, by omega, by omega, ?_⟩
    walk_at "g"
    refine s_i (divW (by omega) (by omega)) ?_
    walk_at "g"
    refine pos_power (m := q ^ m / q) (Int.natCast_ediv _ _).symm (by omega) (by omega) ?_
    walk_at "g"
    refine ⟨p, q, q, _, rfl, hp, by omega, by omega, hoz, Nat.le_refl _, q9, fun D H1 nD s1 eD => ?_⟩
    walk_at "g"
    refine mkR1 m (by omega) (by omega) (by omega) ?_
    refine for_range (n := m) (fun i σ H' => H' = H1 ∧ ∃ (v1 v2 : Option V), σ = [some (.int p), some (.int w), some (.int c), some (.int q), some (.int m), some (.int ((q ^ m : Nat) : Int)), some (.ref D), some (.int ((P % q ^ i : Nat) : Int)), some (.int ((q ^ i : Nat) : Int)), v1, v2]) ⟨rfl, none, none, ?_⟩ ?_ ?_
    · rw [Nat.pow_zero, Nat.mod_one]; rfl
    · rintro i σ H' hi ⟨rfl, v1, v2, rfl⟩
      obtain ⟨d1, d2⟩ := M.digit_step q2 hi ho hal
      have hqi : q ^ i * q ≤ q ^ m := by rw [← Nat.pow_succ]; exact Nat.pow_le_pow_right (by omega) (by omega)
      have hqi0 : 0 < q ^ i := Nat.pow_pos (by omega)
      have hqi1 : q ^ i ≤ q ^ i * q := Nat.le_mul_of_pos_right _ (by omega)
      have hmod := Nat.mod_lt P hqi0
      have hdg := Nat.mod_lt (P / q ^ i) (show 0 < q by omega)
      have e3 : ((q ^ i : Nat) : Int) * (q : Int) = ((q ^ i * q : Nat) : Int) := by push_cast; rfl
      have hrr := M.pw_range (n := (p : Int)) (by omega) w (q ^ m - P % q ^ i)
      walk_at "g"
      refine pos_power (m := q ^ m - P % q ^ i) (by omega) (by omega) (by omega) ?_
      walk_at "g"
      try refine s_i (mulW (by omega) (by omega)) ?_
      walk_at "g"
      refine s_i (by omega) ?_
      walk_at "g"
      try refine s_i (mulW (by omega) (by omega)) ?_
      rw [e3]
      refine s_i (divW (by omega) (by omega)) ?_
      walk_at "g"
      refine pos_power (m := q ^ m / (q ^ i * q)) (Int.natCast_ediv _ _).symm (by omega) (by omega) ?_
      rw [d1]
      refine s_dgetI eD (pl_look hp hoz (Nat.le_refl _) hdg) ?_
      try refine s_i (mulW (by omega) (by omega)) ?_
      walk_at "g"
      try refine s_i (mulW (by omega) (by omega)) ?_
      walk_at "g"
      rw [e3]
      refine ⟨rfl, some (.int (0 + (i : Int))), some (.int (c * M.pw p w (q ^ m - P % q ^ i) % p)), ?_⟩
      rw [← d2, Nat.pow_succ]; push_cast; rfl
    · rintro σ H' ⟨rfl, v1, v2, rfl⟩
      rw [Nat.mod_eq_of_lt hP]
      walk_at "g"
      exact k _ s1

/-- turned(p, root, turn, d): the rests, sorted -/
def sp_turned (K : PySem.W.Frag) : Sp := fun vs H Q _ => ∃ (p d : Nat) (root turn : Int), vs = [.int p, .int root, .int turn, .int d] ∧ 2 ≤ p ∧ p < 2 ^ 200 ∧ 0 ≤ root ∧ root < p ∧ turn.natAbs < 2 ^ 200 ∧ d ≤ 1000000 ∧
  ∀ (ns : List Int) D H', ns.Perm ((List.range d).map fun i => root * turn ^ i % (p : Int)) → ns.Pairwise (· ≤ ·) → H D = none → Same H H' → H' D = some (.lst (ns.map V.int)) → Q (.ref D) H'
theorem turn_mul (p : Nat) (root turn : Int) (i : Nat) : root * turn ^ i % (p : Int) * turn % p = root * turn ^ (i + 1) % p := by
  rw [Int.mul_emod, Int.emod_emod, ← Int.mul_emod, Int.mul_assoc, ← Int.pow_succ]
theorem ok_turned (T : Txt K mg) : FnOk P w K mg base CX0 1 (He.ga K "turned") (fd_turned T) ["p", "root", "turn", "d"] (sp_turned K) := by
  refine (F_turned T).ok sc_turned (fun vs H Q E h => ?_) (fun cdv A outer s H vs Q E hr h => ⟨_, PSs.nox (pss_cons (ps_set (i := 4) sc_turned.nd rfl (Or.inl rfl) (pe_lst pa_nil))
      (pss_cons (ps_for PassesOwn.never rfl (pi_range1 rfl (T.fr (T.c.fact 36 rfl)) (pa_cons (pv 3) pa_nil)) (pg_name (i := 5) sc_turned.nd rfl (Or.inl rfl)) (pss_cons (ps_expr (pe_bm PySem.F.plainAttrs_list PySem.F.slot_list_append PySem.F.type_list_append mt_append (pv 4) (pa_cons (pv 1) pa_nil)))
      (pss_one (ps_set (i := 1) sc_turned.nd rfl (Or.inl rfl) (pe_op op_mod (pe_op op_mulW (pv 1) (pv 2)) (pv 0))))))
      (pss_one (ps_ret (pe_callB cr_sortedI rfl (T.fr (T.c.fact 37 rfl)) boot_sorted (pa_cons (pv 4) pa_nil)))))), ?_⟩)
  · obtain ⟨p, d, root, turn, rfl, _⟩ := h; rfl
  · obtain ⟨p, d, root, turn, rfl, hp2, hpb, r0, r1, ht, hd, k⟩ := h
    walk_at "g"
    refine mkL (by simp) fun D H1 nD eD s1 => ?_
    walk_at "g"
    refine mkR1 d (by omega) (by omega) (by omega) ?_
    refine for_range (n := d) (fun i σ H' => Same H H' ∧ H' D = some (.lst (((List.range i).map fun i => root * turn ^ i % (p : Int)).map V.int)) ∧ ∃ (r : Int) (v : Option V), σ = [some (.int p), some (.int r), some (.int turn), some (.int d), some (.ref D), v] ∧ r = root * turn ^ i % (p : Int)) ⟨s1, eD, root, none, rfl, by rw [Int.pow_zero, Int.mul_one, Int.emod_eq_of_lt r0 r1]⟩ ?_ ?_
    · rintro i σ H' hi ⟨s2, e2, r, v, rfl, er⟩
      have hr0 : 0 ≤ r := by rw [er]; exact Int.emod_nonneg _ (by omega)
      have hr1 : r < p := by rw [er]; exact Int.emod_lt_of_pos _ (by omega)
      walk_at "g"
      refine ⟨s_tyL e2, ?_⟩
      walk_at "g"
      refine s_append e2 (line2 (by rw [List.length_map, List.length_map, List.length_range]; omega)) ?_
      walk_at "g"
      try refine s_i (mulW (by omega) (by omega)) ?_
      walk_at "g"
      refine s_i (by omega) ?_
      walk_at "g"
      refine ⟨same_upd' s2 nD, ?_, _, _, rfl, ?_⟩
      · rw [upd_same, List.range_succ, List.map_append, List.map_append, er]; rfl
      · rw [er]; exact turn_mul p root turn i
    · rintro σ H' ⟨s2, e2, r, v, rfl, er⟩
      walk_at "g"
      refine ⟨D, _, rfl, SqL.of e2, fun ns D2 pm srt nD2 => ?_⟩
      exact k ns D2 _ pm srt (Same.none s2 nD2) (same_upd' s2 (Same.none s2 nD2)) upd_same

/-- a divisor of two numbers, the first -/
theorem inv_call {K : PySem.W.Frag} {H : Hp} {Q : VK} {E : XK} {n a : Nat} (n0 : 0 < n) (nb : n < 2 ^ 200) (g : Nat.gcd a n = 1) (k : ∀ (i : Nat) H', Same H H' → i < n → i * a % n = 1 % n → Q (.int i) H') : sp_inverse K [.int n, .int a] H Q E := by
  have g' : Int.gcd (a : Int) (n : Int) = 1 := g
  refine ⟨n, a, rfl, by omega, by omega, fun _ H' b s b0 b1 hb => ?_, fun z => absurd g' z⟩
  have h := M.inv_nat n0 hb b0
  have e : b = (b.toNat : Int) := by omega
  rw [e]
  exact k b.toNat H' s (by omega) h
/-- root_in(paper, q, many, d, c): a root of order d of c's part -/
def sp_root_in (K : PySem.W.Frag) : Sp := fun vs H Q _ => ∃ (m0 p f : Nat) (t0 u : Addr) (pl : List (Addr × Nat × Nat)) (q m d t : Nat) (c : Int), vs = [.ref t0, .int q, .int m, .int d, .int c] ∧ Pap m0 H t0 p f u pl ∧ p < 2 ^ 60 ∧ (q, m) ∈ facs pl ∧ q ≤ 1000000 ∧ 0 < d ∧ d ∣ p - 1 ∧ d ∣ t ∧ 0 ≤ c ∧ c < p ∧ M.al p c ((f : Int) ^ t) ∧
  ∀ (r : Int) (F : Nat) H', 0 ≤ r → r < p → M.al p (r ^ d) (c ^ F) → F % q ^ m = 1 % q ^ m → (p - 1) / q ^ m ∣ F → Same H H' → Q (.int r) H'
theorem ok_root_in (T : Txt K mg) : FnOk P w K mg base (L2.CX P w) 9 (He.ga K "root_in") (fd_root_in T) ["paper", "q", "many", "d", "c"] (sp_root_in K) := by
  refine (F_root_in T).ok sc_root_in (fun vs H Q E h => ?_) (fun cdv A outer s H vs Q E hr h => ⟨_, (pss_cons (ps_asg (pv 0) (pg_tup rfl (pgs_cons (pg_name (i := 5) sc_root_in.nd rfl (Or.inl rfl)) (pgs_cons (pg_name (i := 6) sc_root_in.nd rfl (Or.inl rfl)) (pgs_cons (pg_name (i := 7) sc_root_in.nd rfl (Or.inl rfl)) pgs_nil)))))
      (pss_cons (ps_set (i := 8) sc_root_in.nd rfl (Or.inl rfl) (pe_call (ok_taken T) (hr.mono (by decide)) rfl (g_taken T) (kp_taken T) (B_taken T) .nil pass0 (pa_cons (pv 1) (pa_cons (pv 2) pa_nil))))
      (pss_cons (ps_set (i := 9) sc_root_in.nd rfl (Or.inl rfl) (pe_op op_fdivW (pe_op op_sub (pv 5) pe_int) (pv 8)))
      (pss_cons (ps_set (i := 10) sc_root_in.nd rfl (Or.inl rfl) (pe_call (ok_power T) (hr.mono (by decide)) rfl (g_power T) (kp_power T) (B_power T) .nil (passes_call (takes_of rfl rfl rfl rfl) (fun _ _ _ _ h => h)) (pa_cons (pv 5) (pa_cons (pv 6) (pa_cons (pv 9) pa_nil)))))
      (pss_cons (ps_set (i := 11) sc_root_in.nd rfl (Or.inl rfl) (pe_call (ok_place_of T) (hr.mono (by decide)) rfl (g_place_of T) (kp_place_of T) (B_place_of T) .nil (passes_call (takes_of rfl rfl rfl rfl) (fun _ _ _ _ h => h)) (pa_cons (pv 5) (pa_cons (pv 10) (pa_cons (pe_call (ok_power T) (hr.mono (by decide)) rfl (g_power T) (kp_power T) (B_power T) .nil (passes_call (takes_of rfl rfl rfl rfl) (fun _ _ _ _ h => h)) (pa_cons (pv 5) (pa_cons (pv 4) (pa_cons (pe_op op_mulW (pv 9) (pe_call (ok_inverse T) (hr.mono (by decide)) rfl (g_inverse T) (kp_inverse T) (B_inverse T) .nil (passes_call (takes_of rfl rfl rfl rfl) (fun _ _ _ _ h => h)) (pa_cons (pv 8) (pa_cons (pv 9) pa_nil)))) pa_nil)))) (pa_cons (pv 1) (pa_cons (pv 2) pa_nil)))))))
      (pss_cons (ps_while (passes_of rfl) (pt_cmpR op_eq (pe_op op_mod (pv 3) (pv 1)) pe_int (nomark _)) (pss_cons (ps_set (i := 3) sc_root_in.nd rfl (Or.inl rfl) (pe_op op_fdivW (pv 3) (pv 1)))
      (pss_one (ps_set (i := 11) sc_root_in.nd rfl (Or.inl rfl) (pe_op op_fdivW (pv 11) (pv 1))))))
      (pss_one (ps_ret (pe_call (ok_power T) (hr.mono (by decide)) rfl (g_power T) (kp_power T) (B_power T) .nil (passes_call (takes_of rfl rfl rfl rfl) (fun _ _ _ _ h => h)) (pa_cons (pv 5) (pa_cons (pv 10) (pa_cons (pe_op op_mulW (pv 11) (pe_call (ok_inverse T) (hr.mono (by decide)) rfl (g_inverse T) (kp_inverse T) (B_inverse T) .nil (passes_call (takes_of rfl rfl rfl rfl) (fun _ _ _ _ h => h)) (pa_cons (pv 8) (pa_cons (pv 3) pa_nil)))) pa_nil)))))))))))), ?_⟩)
  · obtain ⟨m0, p, f, t0, u, pl, q, m, d, t, c, rfl, _⟩ := h; rfl
  · obtain ⟨m0, p, f, t0, u, pl, q, m, d, t, c, rfl, hP, hpb, hqm, hq9, d0, hd, hdt, c0, c1, hc, k⟩ := h
    have hp := hP.hp
    have hp2 := hp.1
    have hl := hP.hl
    obtain ⟨hq, m1⟩ := hl.primes _ hqm
    have hq : M.Prime q := hq
    have m1 : 0 < m := m1
    have q2 := hq.1
    obtain ⟨L, eL, hno, hoth⟩ := M.facs_split hl hqm
    have eL : p - 1 = q ^ m * L := eL
    have hno : ¬ q ∣ L := hno
    have qm0 : 0 < q ^ m := Nat.pow_pos (by omega)
    have L0 : 0 < L := Nat.pos_of_ne_zero fun z => by rw [z] at eL; omega
    have hqmb : q ^ m ≤ p - 1 := by rw [eL]; exact Nat.le_mul_of_pos_right _ L0
    have hLb : L ≤ p - 1 := by rw [eL]; exact Nat.le_mul_of_pos_left _ qm0
    have hm60 : m < 2 ^ 50 := by
      have h1 : m < 2 ^ m := Nat.lt_two_pow_self
      have h2 : 2 ^ m ≤ q ^ m := Nat.pow_le_pow_left q2 m
      rcases Nat.lt_or_ge m 60 with z | z
      · omega
      · have h3 : 2 ^ 60 ≤ 2 ^ m := Nat.pow_le_pow_right (by decide) z
        omega
    have edL : (p - 1) / q ^ m = L := by rw [eL]; exact Nat.mul_div_cancel_left _ qm0
    have ee : (p : Int) - 1 = ((p - 1 : Nat) : Int) := by omega
    have hcop : Nat.gcd L (q ^ m) = 1 := by rw [Nat.gcd_comm]; exact M.coprime_pow hq hno m
    -- the number w
    have how : M.Ord p (M.pw p f L) (q ^ m) := by
      have h := hP.hf.full.pw L
      have g : Nat.gcd L (p - 1) = L := Nat.gcd_eq_left ⟨q ^ m, by rw [eL, Nat.mul_comm]⟩
      rw [g, eL, Nat.mul_div_cancel _ L0] at h
      exact h
    have hwr := M.pw_range (n := (p : Int)) (by omega) f L
    walk_at "g"
    refine s_gtup (SqT.of hP.at_) rfl ?_
    walk_at "g"
    refine ⟨q, m, rfl, by omega, by omega, by omega, ?_⟩
    walk_at "g"
    refine s_i (divW (by omega) (by omega)) ?_
    rw [ee, ← Int.natCast_ediv, edL]
    walk_at "g"
    refine pos_power (m := L) rfl (by omega) (by omega) ?_
    walk_at "g"
    refine inv_call qm0 (by omega) hcop fun i1 H1 s1 i1b hi1 => ?_
    walk_at "g"
    try refine s_i (mulW (by omega) (by omega)) ?_
    walk_at "g"
    rw [show (L : Int) * (i1 : Int) = ((L * i1 : Nat) : Int) by push_cast; rfl]
    refine pos_power (m := L * i1) rfl (by omega) (by omega) ?_
    have hcr := M.pw_range (n := (p : Int)) (by omega) c (L * i1)
    have halP : M.al p (M.pw p c (L * i1)) (M.pw p f L ^ (t * i1 % q ^ m)) := by
      refine M.al_trans (M.al_pw p c _) (M.al_trans (M.al_pow hc _) ?_)
      refine M.al_trans ?_ (M.pow_al how.one (Nat.mod_mod _ _).symm)
      refine M.al_trans ?_ (M.al_symm (M.al_pow (M.al_pw p f L) _))
      rw [← Int.pow_mul, ← Int.pow_mul, show t * (L * i1) = L * (t * i1) by grind]
      exact M.al_refl _ _
    walk_at "g"
    refine ⟨p, q, m, t * i1 % q ^ m, _, _, rfl, hp, by omega, by omega, by omega, q2, hq9, m1, hm60, by omega, how, halP, Nat.mod_lt _ qm0, fun H2 s2 => ?_⟩
    generalize hPP : t * i1 % q ^ m = PP at halP ⊢
    -- so often as q divides d
    have hdv : ∀ i, q ^ i ∣ d → q ^ i ∣ PP := fun i hi => by
      have h1 : q ^ i ∣ q ^ m := by
        have h2 : q ^ i ∣ q ^ m * L := by rw [← eL]; exact Nat.dvd_trans hi hd
        exact Nat.Coprime.dvd_of_dvd_mul_right (Nat.Coprime.pow_left i (hq.coprime hno)) h2
      rw [← hPP]
      exact (Nat.dvd_mod_iff h1).mpr (Nat.dvd_trans (Nat.dvd_trans hi hdt) (Nat.dvd_mul_right _ _))
    walk_at "g"
    refine s_while (fun σ H' => H' = H2 ∧ ∃ (i d' : Nat), σ = [some (.ref t0), some (.int q), some (.int m), some (.int d'), some (.int c), some (.int p), some (.int f), some (.ref u), some (.int ((q ^ m : Nat) : Int)), some (.int L), some (.int (M.pw p f L)), some (.int ((PP / q ^ i : Nat) : Int))] ∧ d = q ^ i * d') (fun σ _ => (iv σ 3).toNat) ⟨rfl, 0, d, by rw [Nat.pow_zero, Nat.div_one]; rfl, by rw [Nat.pow_zero, Nat.one_mul]⟩ ?_
    rintro σ H' ⟨rfl, i, d', rfl, ed⟩
    have d'0 : 0 < d' := Nat.pos_of_ne_zero fun z => by rw [z] at ed; omega
    have hd'b : d' ≤ p - 1 := by
      have h1 : d' ≤ d := by rw [ed]; exact Nat.le_mul_of_pos_left _ (Nat.pow_pos (by omega))
      have := Nat.le_of_dvd (by omega) hd
      omega
    walk_at "g"
    refine s_i (by omega) ?_
    walk_at "g"
    refine s_ite (fun z => ?_) (fun z => ?_)
    · have hqd : q ∣ d' := Int.natCast_dvd_natCast.mp (Int.dvd_of_emod_eq_zero z)
      obtain ⟨d2, e2⟩ := hqd
      have e3 : (d' : Int) / (q : Int) = ((d2 : Nat) : Int) := by rw [← Int.natCast_ediv, e2, Nat.mul_div_cancel_left _ (by omega)]
      have e4 : ((PP / q ^ i : Nat) : Int) / (q : Int) = ((PP / q ^ (i + 1) : Nat) : Int) := by rw [← Int.natCast_ediv, Nat.div_div_eq_div_mul, Nat.pow_succ]
      have hd2 : d2 < d' := by
        have h1 : 2 * d2 ≤ q * d2 := Nat.mul_le_mul_right _ q2
        omega
      walk_at "g"
      refine s_i (divW (by omega) (by omega)) ?_
      walk_at "g"
      refine s_i (divW (by omega) (by omega)) ?_
      walk_at "g"
      refine ⟨⟨rfl, i + 1, d2, ?_, by rw [ed, e2, Nat.pow_succ, Nat.mul_assoc]⟩, ?_⟩
      · rw [e3, e4]; rfl
      · show ((d' : Int) / (q : Int)).toNat < (d' : Int).toNat
        rw [e3]; omega
    · have hqd : ¬ q ∣ d' := fun w => z (Int.emod_eq_zero_of_dvd (Int.natCast_dvd_natCast.mpr w))
      have hcop2 : Nat.gcd d' (q ^ m) = 1 := by rw [Nat.gcd_comm]; exact M.coprime_pow hq hqd m
      have hPb : PP / q ^ i ≤ PP := Nat.div_le_self _ _
      have hPb2 : PP < q ^ m := by rw [← hPP]; exact Nat.mod_lt _ qm0
      have hroot := fun (i2 : Nat) (hi2 : i2 * d' % q ^ m = 1 % q ^ m) => M.part_root (L := 0) (d' := d') how.one rfl (hdv i ⟨d', ed⟩) halP hi2
      generalize PP / q ^ i = X at hPb hroot ⊢
      walk_at "g"
      refine inv_call qm0 (by omega) hcop2 fun i2 H3 s3 i2b hi2 => ?_
      walk_at "g"
      try refine s_i (mulW (by omega) (by omega)) ?_
      walk_at "g"
      rw [show (X : Int) * (i2 : Int) = ((X * i2 : Nat) : Int) by push_cast; rfl]
      refine pos_power (m := X * i2) rfl (by omega) (by omega) ?_
      have hrr := M.pw_range (n := (p : Int)) (by omega) (M.pw p f L) (X * i2)
      refine k _ (L * i1) H3 hrr.1 hrr.2 ?_ ?_ ⟨i1, by rw [edL]⟩ (s1.trans (s2.trans s3))
      · have h1 := hroot i2 hi2
        rw [← ed] at h1
        exact M.al_trans (M.al_pow (M.al_pw p _ _) d) (M.al_trans h1 (M.al_pw p c _))
      · rw [Nat.mul_comm]; exact hi1

/-- one_root(paper, d, c): a root of order d -/
def sp_one_root (K : PySem.W.Frag) : Sp := fun vs H Q _ => ∃ (m0 p f : Nat) (t0 u : Addr) (pl : List (Addr × Nat × Nat)) (d t : Nat) (c : Int), vs = [.ref t0, .int d, .int c] ∧ Pap m0 H t0 p f u pl ∧ p < 2 ^ 60 ∧ 0 < d ∧ d ≤ 1000000 ∧ d ∣ p - 1 ∧ d ∣ t ∧ 0 ≤ c ∧ c < p ∧ M.al p c ((f : Int) ^ t) ∧
  ∀ (r : Int) H', 0 ≤ r → r < p → M.al p (r ^ d) c → Same H H' → Q (.int r) H'
theorem ok_one_root (T : Txt K mg) : FnOk P w K mg base (L2.CX P w) 10 (He.ga K "one_root") (fd_one_root T) ["paper", "d", "c"] (sp_one_root K) := by
  refine (F_one_root T).ok sc_one_root (fun vs H Q E h => ?_) (fun cdv A outer s H vs Q E hr h => ⟨_, (pss_cons (ps_asg (pv 0) (pg_tup rfl (pgs_cons (pg_name (i := 3) sc_one_root.nd rfl (Or.inl rfl)) (pgs_cons (pg_name (i := 4) sc_one_root.nd rfl (Or.inl rfl)) (pgs_cons (pg_name (i := 5) sc_one_root.nd rfl (Or.inl rfl)) pgs_nil)))))
      (pss_cons (ps_set (i := 6) sc_one_root.nd rfl (Or.inl rfl) (pe_op op_sub (pv 3) pe_int))
      (pss_cons (ps_set (i := 7) sc_one_root.nd rfl (Or.inl rfl) pe_int)
      (pss_cons (ps_for (passes_of rfl) rfl (pi_tup (pv 5)) (pg_tup rfl (pgs_cons (pg_name (i := 8) sc_one_root.nd rfl (Or.inl rfl)) (pgs_cons (pg_name (i := 9) sc_one_root.nd rfl (Or.inl rfl)) pgs_nil))) (pss_one (ps_if (pt_cmpR op_eq (pe_op op_mod (pv 1) (pe_ix ix_seq (pv 8) pe_int (fun _ _ => rfl))) pe_int (nomark _)) (pss_cons (ps_set (i := 6) sc_one_root.nd rfl (Or.inl rfl) (pe_op op_fdivW (pv 6) (pe_call (ok_taken T) (hr.mono (by decide)) rfl (g_taken T) (kp_taken T) (B_taken T) .nil pass0 (pa_cons (pe_ix ix_seq (pv 8) pe_int (fun _ _ => rfl)) (pa_cons (pv 9) pa_nil)))))
      (pss_one (ps_set (i := 7) sc_one_root.nd rfl (Or.inl rfl) (pe_op op_mod (pe_op op_mulW (pv 7) (pe_call (ok_root_in T) (hr.mono (by decide)) rfl (g_root_in T) (kp_root_in T) (B_root_in T) .nil (passes_call (takes_of rfl rfl rfl rfl) (fun _ _ _ _ h => h)) (pa_cons (pv 0) (pa_cons (pe_ix ix_seq (pv 8) pe_int (fun _ _ => rfl)) (pa_cons (pv 9) (pa_cons (pv 1) (pa_cons (pv 2) pa_nil))))))) (pv 3))))) pss_nil)))
      (pss_cons (ps_set (i := 10) sc_one_root.nd rfl (Or.inl rfl) (pe_op op_fdivW (pe_op op_sub (pv 3) pe_int) (pv 6)))
      (pss_one (ps_ret (pe_op op_mod (pe_op op_mulW (pv 7) (pe_call (ok_power T) (hr.mono (by decide)) rfl (g_power T) (kp_power T) (B_power T) .nil (passes_call (takes_of rfl rfl rfl rfl) (fun _ _ _ _ h => h)) (pa_cons (pv 3) (pa_cons (pv 2) (pa_cons (pe_op op_mulW (pe_op op_mulW (pv 10) (pe_call (ok_inverse T) (hr.mono (by decide)) rfl (g_inverse T) (kp_inverse T) (B_inverse T) .nil (passes_call (takes_of rfl rfl rfl rfl) (fun _ _ _ _ h => h)) (pa_cons (pv 6) (pa_cons (pv 10) pa_nil)))) (pe_call (ok_inverse T) (hr.mono (by decide)) rfl (g_inverse T) (kp_inverse T) (B_inverse T) .nil (passes_call (takes_of rfl rfl rfl rfl) (fun _ _ _ _ h => h)) (pa_cons (pv 6) (pa_cons (pv 1) pa_nil)))) pa_nil))))) (pv 3))))))))), ?_⟩)
  · obtain ⟨m0, p, f, t0, u, pl, d, t, c, rfl, _⟩ := h; rfl
  · obtain ⟨m0, p, f, t0, u, pl, d, t, c, rfl, hP, hpb, d0, d9, hd, hdt, c0, c1, hc, k⟩ := h
    have hp := hP.hp
    have hp2 := hp.1
    have hl := hP.hl
    have ee : (p : Int) - 1 = ((p - 1 : Nat) : Int) := by omega
    have p10 : 0 < p - 1 := by omega
    obtain ⟨xs, eu, pr⟩ := hP.ps
    walk_at "g"
    refine s_gtup (SqT.of hP.at_) rfl ?_
    walk_at "g"
    refine ⟨⟨_, SqT.of eu⟩, ?_⟩
    refine for_tup (fun i σ H' => Same H H' ∧ ∃ (left : Nat) (root : Int) (v1 v2 : Option V), σ = [some (.ref t0), some (.int d), some (.int c), some (.int p), some (.int f), some (.ref u), some (.int left), some (.int root), v1, v2, none] ∧ 0 ≤ root ∧ root < p ∧ M.OneI p (p - 1) d c (facs pl) i left root)
      ⟨Same.refl _, p - 1, 1, none, none, by rw [← ee]; rfl, by decide, by omega, M.one_start hl⟩ (fun i σ H' _ I => SqT.of (I.1 _ _ eu)) ?_ ?_
    · rintro i x σ H' hi ⟨s1, left, root, v1, v2, rfl, r0, r1, I⟩
      obtain ⟨⟨s, q, b⟩, hab, t2, rfl, ex, hPs⟩ := pget pr hi
      obtain ⟨f', u', e1'⟩ := hPs.first
      have hx := facs_get hab
      have hm := List.mem_of_getElem? hx
      obtain ⟨hq, b1⟩ := hl.primes _ hm
      have hq : M.Prime q := hq
      have b1 : 0 < b := b1
      have q2 := hq.1
      have hqb : q ^ b ≤ p - 1 := Nat.le_of_dvd p10 (by rw [← hl.prod]; exact M.prodL_dvd hm)
      have hqd0 : q ≤ q ^ b := Nat.le_of_dvd (Nat.pow_pos (by omega)) (M.dvd_pow_self q b1)
      have qb0 : 0 < q ^ b := Nat.pow_pos (by omega)
      have hb60 : b < 2 ^ 50 := by
        have h1 : b < 2 ^ b := Nat.lt_two_pow_self
        have h2 : 2 ^ b ≤ q ^ b := Nat.pow_le_pow_left q2 b
        rcases Nat.lt_or_ge b 60 with z | z
        · omega
        · have h3 : 2 ^ 60 ≤ 2 ^ b := Nat.pow_le_pow_right (by decide) z
          omega
      refine s_gtup (SqT.of (s1 _ _ ex)) rfl ?_
      walk_at "g"
      refine s_ixT (SqT.of (s1 _ _ e1')) (atI0 0 rfl rfl) ?_
      walk_at "g"
      refine s_i (by show (0 : Int) < (q : Int); omega) ?_
      walk_at "g"
      refine s_ite (fun z => ?_) (fun z => ?_)
      · have hqd : q ∣ d := Int.natCast_dvd_natCast.mp (Int.dvd_of_emod_eq_zero z)
        have hq9 := Nat.le_of_dvd d0 hqd
        walk_at "g"
        refine s_ixT (SqT.of (s1 _ _ e1')) (atI0 0 rfl rfl) ?_
        walk_at "g"
        refine ⟨q, b, rfl, by omega, by omega, by omega, ?_⟩
        walk_at "g"
        refine s_i (divW (by omega) (by omega)) ?_
        walk_at "g"
        refine s_ixT (SqT.of (s1 _ _ e1')) (atI0 0 rfl rfl) ?_
        walk_at "g"
        refine ⟨m0, p, f, t0, u, pl, q, b, d, t, c, rfl, hP.same s1, hpb, hm, by omega, d0, hd, hdt, c0, c1, hc, fun r F H2 rr0 rr1 hr hF hF2 s2 => ?_⟩
        walk_at "g"
        try refine s_i (mulW (by omega) (by omega)) ?_
        walk_at "g"
        refine s_i (by omega) ?_
        walk_at "g"
        have hmore := M.one_more hl p10 I hx hqd hr hF hF2
        refine ⟨s1.trans s2, left / q ^ b, root * r % p, some (.ref s), some (.int b), ?_, Int.emod_nonneg _ (by omega), Int.emod_lt_of_pos _ (by omega), hmore.1⟩
        rw [Int.natCast_ediv]; rfl
      · have hqd : ¬ q ∣ d := fun w => z (Int.emod_eq_zero_of_dvd (Int.natCast_dvd_natCast.mpr w))
        walk_at "g"
        exact ⟨s1, left, root, _, _, rfl, r0, r1, M.one_skip I hx hqd⟩
    · rintro σ H' ⟨s1, left, root, v1, v2, rfl, r0, r1, I⟩
      have hxl : xs.length = (facs pl).length := by rw [Paired.length pr, facs_len]
      rw [hxl] at I
      obtain ⟨l0, hlN, g1, g2⟩ := M.one_cop hl p10 I
      have hlb := Nat.le_of_dvd p10 hlN
      have hmb := Nat.div_le_self (p - 1) left
      walk_at "g"
      refine s_i (divW (by omega) (by omega)) ?_
      rw [ee, ← Int.natCast_ediv]
      generalize hmn : (p - 1) / left = mine at g1 hmb ⊢
      walk_at "g"
      refine inv_call l0 (by omega) g1 fun i1 H1 s2 i1b hi1 => ?_
      walk_at "g"
      try refine s_i (mulW (by omega) (by omega)) ?_
      rw [show (mine : Int) * (i1 : Int) = ((mine * i1 : Nat) : Int) by push_cast; rfl]
      have hmi : mine * i1 < 2 ^ 120 := by
        have h1 : mine * i1 ≤ 2 ^ 60 * 2 ^ 60 := Nat.mul_le_mul (by omega) (by omega)
        have : (2 : Nat) ^ 60 * 2 ^ 60 = 2 ^ 120 := by decide
        have : mine * i1 < 2 ^ 60 * 2 ^ 60 := by
          refine Nat.lt_of_le_of_lt (Nat.mul_le_mul_right i1 (show mine ≤ 2 ^ 60 by omega)) ?_
          exact Nat.mul_lt_mul_of_pos_left (by omega) (by decide)
        omega
      walk_at "g"
      refine inv_call l0 (by omega) g2 fun i2 H2 s3 i2b hi2 => ?_
      walk_at "g"
      try refine s_i (mulW (by omega) (by omega)) ?_
      rw [show ((mine * i1 : Nat) : Int) * (i2 : Int) = ((mine * i1 * i2 : Nat) : Int) by push_cast; rfl]
      walk_at "g"
      refine pos_power (m := mine * i1 * i2) rfl (by omega) (by omega) ?_
      have hrr := M.pw_range (n := (p : Int)) (by omega) c (mine * i1 * i2)
      walk_at "g"
      try refine s_i (mulW (by omega) (by omega)) ?_
      walk_at "g"
      refine s_i (by omega) ?_
      walk_at "g"
      refine k _ H2 (Int.emod_nonneg _ (by omega)) (Int.emod_lt_of_pos _ (by omega)) ?_ (s1.trans (s2.trans s3))
      have hc1 : M.is1 p c (p - 1) := M.fermat hp fun z => by
        have h1 : (p : Int) ∣ (f : Int) ^ t := by
          have : (f : Int) ^ t = c - (c - (f : Int) ^ t) := by omega
          rw [this]; exact Int.dvd_sub z hc
        exact M.unit_pow hp (hP.hf.full.unit hp) t h1
      have := M.one_end hl p10 I hc1 (by rw [hmn]; exact hi1) hi2
      rwa [hmn] at this

/-- what shows roots -/
def RtAt (H : Hp) (s : Addr) (p k : Nat) (a : Int) (xs : List Int) : Prop :=
  (M.un p a → M.is1 p a ((p - 1) / Nat.gcd k (p - 1)) → ∃ turn : Int, 0 < turn ∧ turn < p ∧ M.Ord p turn (Nat.gcd k (p - 1)) ∧ xs.length = Nat.gcd k (p - 1) ∧ H s = some (.tup [.str "turned", .int (xs.headD 0), .int turn])) ∧
  (M.un p a → ¬ M.is1 p a ((p - 1) / Nat.gcd k (p - 1)) → H s = some (.tup [.str "none", .int ((p - 1) / Nat.gcd k (p - 1) : Nat), .int (M.pw p a ((p - 1) / Nat.gcd k (p - 1)))])) ∧
  (¬ M.un p a → H s = some (.tup [.str "nought"]))
theorem RtAt.same {H H' : Hp} {s : Addr} {p k : Nat} {a : Int} {xs : List Int} (h : RtAt H s p k a xs) (e : Same H H') : RtAt H' s p k a xs := by
  obtain ⟨h1, h2, h3⟩ := h
  refine ⟨fun u o => ?_, fun u o => e _ _ (h2 u o), fun u => e _ _ (h3 u)⟩
  obtain ⟨t, t0, t1, t2, t4, t3⟩ := h1 u o
  exact ⟨t, t0, t1, t2, t4, e _ _ t3⟩
/-- roots(paper, k, a) -/
def sp_roots (K : PySem.W.Frag) : Sp := fun vs H Q E => ∃ (m0 p f : Nat) (t0 u : Addr) (pl : List (Addr × Nat × Nat)) (k : Nat) (a : Int), vs = [.ref t0, .int k, .int a] ∧ Pap m0 H t0 p f u pl ∧ p < 2 ^ 60 ∧ 0 < k ∧ k < 2 ^ 400 ∧
  (M.un p a → M.is1 p a ((p - 1) / Nat.gcd k (p - 1)) → 400 < Nat.gcd k (p - 1) → ∀ (d : Addr) (H' : Hp), H d = none → Same H H' → H' d = some (.xd [("many", .int (Nat.gcd k (p - 1) : Nat))]) → E (.ref (He.ga K "TooMany")) (some d) H') ∧
  (¬ (M.un p a ∧ M.is1 p a ((p - 1) / Nat.gcd k (p - 1)) ∧ 400 < Nat.gcd k (p - 1)) → ∀ (xs : List Int) T D s H', M.IsKR p k a xs → H D = none → H' D = some (.lst (xs.map V.int)) → H T = none → H' T = some (.tup [.ref D, .ref s]) → RtAt H' s p k a xs → D ≠ s → xs.length ≤ 400 → Same H H' → Q (.ref T) H')
theorem ok_roots (T : Txt K mg) : FnOk P w K mg base (L2.CX P w) 11 (He.ga K "roots") (fd_roots T) ["paper", "k", "a"] (sp_roots K) := by
  refine (F_roots T).ok sc_roots (fun vs H Q E h => ?_) (fun cdv A outer s H vs Q E hr h => ⟨_, (pss_cons (ps_asg (pv 0) (pg_tup rfl (pgs_cons (pg_name (i := 3) sc_roots.nd rfl (Or.inl rfl)) (pgs_cons (pg_name (i := 4) sc_roots.nd rfl (Or.inl rfl)) (pgs_cons (pg_name (i := 5) sc_roots.nd rfl (Or.inl rfl)) pgs_nil)))))
      (pss_cons (ps_if (pt_cmpR op_eq (pe_op op_mod (pv 2) (pv 3)) pe_int (nomark _)) (pss_one (ps_ret (pe_tup (pa_cons (pe_lst (pa_cons pe_int pa_nil)) (pa_cons (pe_tup (pa_cons pe_str pa_nil)) pa_nil))))) pss_nil)
      (pss_cons (ps_set (i := 6) sc_roots.nd rfl (Or.inl rfl) (pe_ix ix_seq (pe_call (ok_divisor T) (hr.mono (by decide)) rfl (g_divisor T) (kp_divisor T) (B_divisor T) .nil pass0 (pa_cons (pv 1) (pa_cons (pe_op op_sub (pv 3) pe_int) pa_nil))) pe_int (fun _ _ => rfl)))
      (pss_cons (ps_set (i := 7) sc_roots.nd rfl (Or.inl rfl) (pe_op op_fdivW (pe_op op_sub (pv 3) pe_int) (pv 6)))
      (pss_cons (ps_set (i := 8) sc_roots.nd rfl (Or.inl rfl) (pe_call (ok_power T) (hr.mono (by decide)) rfl (g_power T) (kp_power T) (B_power T) .nil (passes_call (takes_of rfl rfl rfl rfl) (fun _ _ _ _ h => h)) (pa_cons (pv 3) (pa_cons (pv 2) (pa_cons (pv 7) pa_nil)))))
      (pss_cons (ps_if (pt_cmpR op_ne (pv 8) pe_int (nomark _)) (pss_one (ps_ret (pe_tup (pa_cons (pe_lst pa_nil) (pa_cons (pe_tup (pa_cons pe_str (pa_cons (pv 7) (pa_cons (pv 8) pa_nil)))) pa_nil))))) pss_nil)
      (pss_cons (ps_if (pt_cmpR op_gt (pv 6) (pe_glob (v := .int 400) rfl (T.int_ok (T.c.fact 45 rfl)).choose_spec ⟨_, rfl⟩) (nomark _)) (pss_one (ps_raise rfl (takes_of rfl rfl rfl rfl) (pmk_oex (x_TooMany T).oex (x_TooMany T).iC (x_TooMany T).tI (ok_init_TooMany T) (hr.mono (by decide)) (B_init_TooMany T) .nil pass0 rfl (g_TooMany T) (pa_cons (pv 6) pa_nil)))) pss_nil)
      (pss_cons (ps_set (i := 9) sc_roots.nd rfl (Or.inl rfl) (pe_call (ok_power T) (hr.mono (by decide)) rfl (g_power T) (kp_power T) (B_power T) .nil (passes_call (takes_of rfl rfl rfl rfl) (fun _ _ _ _ h => h)) (pa_cons (pv 3) (pa_cons (pv 4) (pa_cons (pv 7) pa_nil)))))
      (pss_cons (ps_set (i := 10) sc_roots.nd rfl (Or.inl rfl) (pe_call (ok_one_root T) (hr.mono (by decide)) rfl (g_one_root T) (kp_one_root T) (B_one_root T) .nil (passes_call (takes_of rfl rfl rfl rfl) (fun _ _ _ _ h => h)) (pa_cons (pv 0) (pa_cons (pv 6) (pa_cons (pe_call (ok_power T) (hr.mono (by decide)) rfl (g_power T) (kp_power T) (B_power T) .nil (passes_call (takes_of rfl rfl rfl rfl) (fun _ _ _ _ h => h)) (pa_cons (pv 3) (pa_cons (pv 2) (pa_cons (pe_call (ok_inverse T) (hr.mono (by decide)) rfl (g_inverse T) (kp_inverse T) (B_inverse T) .nil (passes_call (takes_of rfl rfl rfl rfl) (fun _ _ _ _ h => h)) (pa_cons (pv 7) (pa_cons (pe_op op_fdivW (pv 1) (pv 6)) pa_nil))) pa_nil)))) pa_nil)))))
      (pss_cons (ps_set (i := 11) sc_roots.nd rfl (Or.inl rfl) (pe_call (ok_turned T) (hr.mono (by decide)) rfl (g_turned T) (kp_turned T) (B_turned T) .nil pass0 (pa_cons (pv 3) (pa_cons (pv 10) (pa_cons (pv 9) (pa_cons (pv 6) pa_nil))))))
      (pss_one (ps_ret (pe_tup (pa_cons (pv 11) (pa_cons (pe_tup (pa_cons pe_str (pa_cons (pe_ix ix_seq (pv 11) pe_int (fun _ _ => rfl)) (pa_cons (pv 9) pa_nil)))) pa_nil))))))))))))))), ?_⟩)
  · obtain ⟨m0, p, f, t0, u, pl, k, a, rfl, _⟩ := h; rfl
  · obtain ⟨m0, p, f, t0, u, pl, kk, a, rfl, hP, hpb, k0, kb, kE, k⟩ := h
    have hp := hP.hp
    have hp2 := hp.1
    have ee : (p : Int) - 1 = ((p - 1 : Nat) : Int) := by omega
    have p10 : 0 < p - 1 := by omega
    walk_at "g"
    refine s_gtup (SqT.of hP.at_) rfl ?_
    walk_at "g"
    refine s_i (by omega) ?_
    walk_at "g"
    refine s_ite (fun c => ?_) (fun c => ?_)
    · have hn : ¬ M.un p a := fun z => M.un_iff.mp z c
      walk_at "g"
      refine mkL (by simp) fun D H1 nD eD s1 => ?_
      walk_at "g"
      refine mkT (by simp) fun S H2 nS eS s2 => ?_
      walk_at "g"
      refine mkT (by simp) fun T H3 nT eT s3 => ?_
      refine k (fun z => hn z.1) [0] T D S H3 (M.kr_nought hp k0 (Int.dvd_of_emod_eq_zero c)) nD ((s2.trans s3) _ _ eD) (Same.none (s1.trans s2) nT) eT ⟨fun z => absurd z hn, fun z => absurd z hn, fun _ => s3 _ _ eS⟩ (fun z => by rw [z] at eD; rw [nS] at eD; cases eD) (by simp) (s1.trans (s2.trans s3))
    have hu := M.un_iff.mpr c
    walk_at "g"
    refine ⟨kk, (p : Int) - 1, rfl, by omega, by omega, fun g u' v' T1 I nT1 => ?_⟩
    have S1 : Same H (upd H T1 (.tup [.int g, .int u', .int v'])) := same_upd nT1
    have eT1 : upd H T1 (.tup [.int g, .int u', .int v']) T1 = some (.tup [.int g, .int u', .int v']) := upd_same
    generalize upd H T1 (.tup [.int g, .int u', .int v']) = H1 at S1 eT1 ⊢
    have hg : g = ((Nat.gcd kk (p - 1) : Nat) : Int) := by
      have := I.hg
      rw [ee] at this
      exact this
    clear I
    subst hg
    have g0 : 0 < Nat.gcd kk (p - 1) := Nat.gcd_pos_of_pos_right _ p10
    have gp := Nat.gcd_dvd_right kk (p - 1)
    have gk := Nat.gcd_dvd_left kk (p - 1)
    have gb := Nat.le_of_dvd p10 gp
    have hcopk : Nat.gcd (kk / Nat.gcd kk (p - 1)) ((p - 1) / Nat.gcd kk (p - 1)) = 1 := Nat.gcd_div_gcd_div_gcd_of_pos_left (by omega)
    have ekd : Nat.gcd kk (p - 1) * (kk / Nat.gcd kk (p - 1)) = kk := Nat.mul_div_cancel' gk
    have epd : Nat.gcd kk (p - 1) * ((p - 1) / Nat.gcd kk (p - 1)) = p - 1 := Nat.mul_div_cancel' gp
    have hnone := M.kr_none (p := p) (k := kk) (a := a) hp hu k0
    have hall := fun (root turn : Int) (ns : List Int) => M.kr_all (p := p) (k := kk) (d := Nat.gcd kk (p - 1)) (a := a) (root := root) (turn := turn) (ns := ns) hp hu rfl
    have eb : (p - 1) / Nat.gcd kk (p - 1) ≤ p - 1 := Nat.div_le_self _ _
    have hkb : kk / Nat.gcd kk (p - 1) ≤ kk := Nat.div_le_self _ _
    have e0 : 0 < (p - 1) / Nat.gcd kk (p - 1) := Nat.div_pos gb g0
    have rtN : ∀ H' s, H' s = some (.tup [.str "none", .int ((p - 1) / Nat.gcd kk (p - 1) : Nat), .int (M.pw p a ((p - 1) / Nat.gcd kk (p - 1)))]) → ¬ M.is1 p a ((p - 1) / Nat.gcd kk (p - 1)) → RtAt H' s p kk a [] := fun H' s h n => ⟨fun _ z => absurd z n, fun _ _ => h, fun z => absurd hu z⟩
    have rtT : ∀ H' s x xs (turn : Int), 0 < turn → turn < p → M.Ord p turn (Nat.gcd kk (p - 1)) → H' s = some (.tup [.str "turned", .int x, .int turn]) → M.is1 p a ((p - 1) / Nat.gcd kk (p - 1)) → (x :: xs).length = Nat.gcd kk (p - 1) → RtAt H' s p kk a (x :: xs) := fun H' s x xs turn t0 t1 o h n l => ⟨fun _ _ => ⟨turn, t0, t1, o, l, h⟩, fun _ z => absurd n z, fun z => absurd hu z⟩
    have hot : M.Ord p (M.pw p f ((p - 1) / Nat.gcd kk (p - 1))) (Nat.gcd kk (p - 1)) := by
      have h := hP.hf.full.pw ((p - 1) / Nat.gcd kk (p - 1))
      have g : Nat.gcd ((p - 1) / Nat.gcd kk (p - 1)) (p - 1) = (p - 1) / Nat.gcd kk (p - 1) := Nat.gcd_eq_left (Nat.div_dvd_of_dvd gp)
      rw [g, Nat.div_div_self gp (by omega)] at h
      exact h
    have eid : ((kk : Int) / ((Nat.gcd kk (p - 1) : Nat) : Int)) = ((kk / Nat.gcd kk (p - 1) : Nat) : Int) := (Int.natCast_ediv _ _).symm
    have eie : (((p - 1 : Nat) : Int) / ((Nat.gcd kk (p - 1) : Nat) : Int)) = (((p - 1) / Nat.gcd kk (p - 1) : Nat) : Int) := (Int.natCast_ediv _ _).symm
    generalize Nat.gcd kk (p - 1) = G at kE k hnone hall rtN rtT g0 gp gk gb hcopk ekd epd eb hkb e0 eT1 hot eid eie ⊢
    generalize (p - 1) / G = e at kE k hnone hall rtN rtT hcopk epd eb e0 hot eie
    generalize kk / G = kd at hcopk ekd hkb eid
    obtain ⟨s, _, hs⟩ := M.ord_powers hp hP.hf.full (M.fermat hp hu)
    have hs : M.al p a ((f : Int) ^ s) := hs
    walk_at "g"
    refine s_ixT (SqT.of eT1) (atI0 0 rfl rfl) ?_
    walk_at "g"
    refine s_i (divW (by omega) (by omega)) ?_
    rw [ee, eie]
    walk_at "g"
    refine pos_power (m := e) rfl (by omega) (by omega) ?_
    walk_at "g"
    have h1w := M.pw_one_iff hp2 (a := a) (e := e)
    refine s_iten (fun c2 => ?_) (fun c2 => ?_)
    · have hn : ¬ M.is1 p a e := fun z => c2 (h1w.mpr z)
      walk_at "g"
      refine mkL (by simp) fun D H2 nD eD s2 => ?_
      walk_at "g"
      refine mkT (by simp) fun S H3 nS eS s3 => ?_
      walk_at "g"
      refine mkT (by simp) fun T H4 nT eT s4 => ?_
      refine k (fun z => hn z.2.1) [] T D S H4 (hnone hn) (Same.none S1 nD) ((s3.trans s4) _ _ eD) (Same.none (S1.trans (s2.trans s3)) nT) eT (rtN _ _ (s4 _ _ eS) hn) (fun z => by rw [z] at eD; rw [nS] at eD; cases eD) (by simp) (S1.trans (s2.trans (s3.trans s4)))
    have hy := h1w.mp c2
    walk_at "g"
    refine s_ite (fun c3 => ?_) (fun c3 => ?_)
    · walk_at "g"
      refine s_raise (x_TooMany T).oex (x_TooMany T).noF fun d H2 hd hx hs2 => ?_
      exact kE hu hy (by omega) d H2 (Same.none S1 hd) (S1.trans hs2) hx
    have hkk := k (fun z => by omega)
    walk_at "g"
    refine pos_power (m := e) rfl (by omega) (by omega) ?_
    have htr := M.pw_range (n := (p : Int)) (by omega) f e
    have ht0 : M.pw p f e ≠ 0 := fun z => hot.unit hp (by rw [z]; exact Int.dvd_zero _)
    generalize M.pw p f e = turn at hot htr ht0 ⊢
    walk_at "g"
    refine s_i (divW (by omega) (by omega)) ?_
    rw [eid]
    walk_at "g"
    refine inv_call e0 (by omega) hcopk fun i1 H2 s2 i1b hi1 => ?_
    walk_at "g"
    refine pos_power (m := i1) rfl (by omega) (by omega) ?_
    have hcr := M.pw_range (n := (p : Int)) (by omega) a i1
    have hds : G ∣ s := by
      have h1 : M.al p ((f : Int) ^ (s * e)) 1 := by
        rw [Int.pow_mul]
        exact M.al_trans (M.al_symm (M.al_pow hs e)) hy
      have h2 : p - 1 ∣ s * e := hP.hf.full.dvd hp h1
      rw [← epd] at h2
      exact Nat.dvd_of_mul_dvd_mul_right e0 h2
    walk_at "g"
    refine ⟨m0, p, f, t0, u, pl, G, s * i1, _, rfl, (hP.same S1).same s2, hpb, g0, by omega, gp, Nat.dvd_trans hds (Nat.dvd_mul_right _ _), hcr.1, hcr.2, ?_, fun r H3 r0 r1 hr s3 => ?_⟩
    · refine M.al_trans (M.al_pw p a _) ?_
      rw [Int.pow_mul]
      exact M.al_pow hs i1
    have hrk : M.al p (r ^ kk) a := by
      rw [← ekd, Int.pow_mul]
      refine M.al_trans (M.al_pow (M.al_trans hr (M.al_pw p a _)) kd) ?_
      rw [← Int.pow_mul]
      have := M.pow_al hy hi1
      rwa [Int.pow_one] at this
    walk_at "g"
    refine ⟨p, G, r, turn, rfl, hp2, by omega, r0, r1, by omega, by omega, fun ns D H4 pm srt nD s4 eD => ?_⟩
    have hlen := pm.length_eq
    rw [List.length_map, List.length_range] at hlen
    have hIs := hall r turn ns hrk hot pm srt k0
    cases ns with
    | nil => simp at hlen; omega
    | cons x xs =>
      have S3 := S1.trans (s2.trans s3)
      walk_at "g"
      refine s_ixL (SqL.of eD) (atI0 0 rfl rfl) ?_
      walk_at "g"
      refine mkT (by simp) fun S H5 nS eS s5 => ?_
      walk_at "g"
      refine mkT (by simp) fun T H6 nT eT s6 => ?_
      refine hkk (x :: xs) T D S H6 hIs (Same.none S3 nD) ((s5.trans s6) _ _ eD) (Same.none (S3.trans (s4.trans s5)) nT) eT (rtT _ _ x xs turn (by omega) htr.2 hot (s6 _ _ eS) hy hlen) (fun z => by rw [z] at eD; rw [nS] at eD; cases eD) (by omega) (S3.trans (s4.trans (s5.trans s6)))

/-- joined(one, other) of two places that are alike -/
def sp_joined : Sp := fun vs H Q _ => ∃ (p q : Addr) (m r n s : Int), vs = [.ref p, .ref q] ∧ H p = some (.tup [.int m, .int r]) ∧ H q = some (.tup [.int n, .int s]) ∧ 0 < m ∧ 0 < n ∧ m < 2 ^ 800 ∧ n < 2 ^ 100 ∧
  0 ≤ r ∧ r < 2 ^ 800 ∧ s.natAbs < 2 ^ 800 ∧ M.alike m r n s ∧ ∀ t H' w x, M.Joined m r n s w x → Same H H' → H' t = some (.tup [.int w, .int x]) → Q (.ref t) H'
theorem ok_joined (T : Txt K mg) : FnOk P w K mg base CX0 6 (He.ga K "joined") (fd_joined T) ["one", "other"] sp_joined := by
  refine (F_joined T).ok sc_joined (fun vs H Q E h => ?_) (fun cdv A outer s H vs Q E hr h => ⟨_, PSs.nox (pss_cons (ps_set (i := 2) sc_joined.nd rfl (Or.inl rfl) (pe_ix ix_seq (pe_call (ok_divisor T) (hr.mono (by decide)) rfl (g_divisor T) (kp_divisor T) (B_divisor T) .nil pass0 (pa_cons (pe_ix ix_seq (pv 0) pe_int (fun _ _ => rfl)) (pa_cons (pe_ix ix_seq (pv 1) pe_int (fun _ _ => rfl)) pa_nil))) pe_int (fun _ _ => rfl)))
      (pss_cons (ps_set (i := 3) sc_joined.nd rfl (Or.inl rfl) (pe_op op_fdivW (pe_ix ix_seq (pv 1) pe_int (fun _ _ => rfl)) (pv 2)))
      (pss_cons (ps_set (i := 4) sc_joined.nd rfl (Or.inl rfl) (pe_op op_mod (pe_op op_mulW (pe_op op_fdivW (pe_op op_sub (pe_ix ix_seq (pv 1) pe_int (fun _ _ => rfl)) (pe_ix ix_seq (pv 0) pe_int (fun _ _ => rfl))) (pv 2)) (pe_call (ok_inverse T) (hr.mono (by decide)) rfl (g_inverse T) (kp_inverse T) (B_inverse T) .nil passL (pa_cons (pv 3) (pa_cons (pe_op op_fdivW (pe_ix ix_seq (pv 0) pe_int (fun _ _ => rfl)) (pv 2)) pa_nil)))) (pv 3)))
      (pss_cons (ps_set (i := 5) sc_joined.nd rfl (Or.inl rfl) (pe_op op_mulW (pe_ix ix_seq (pv 0) pe_int (fun _ _ => rfl)) (pv 3)))
      (pss_one (ps_ret (pe_tup (pa_cons (pv 5) (pa_cons (pe_op op_mod (pe_op op_add (pe_ix ix_seq (pv 0) pe_int (fun _ _ => rfl)) (pe_op op_mulW (pe_ix ix_seq (pv 0) pe_int (fun _ _ => rfl)) (pv 4))) (pv 5)) pa_nil))))))))), ?_⟩)
  · obtain ⟨p, q, m, r, n, s, rfl, _⟩ := h; rfl
  · obtain ⟨p, q, m, r, n, s, rfl, hp, hq, m0, n0, m1, n1, r0, r1, s1, al, k⟩ := h
    have gp : 0 < (Int.gcd m n : Nat) := Int.gcd_pos_of_ne_zero_left n (by omega)
    walk_at "g"
    refine s_ixT (SqT.of hp) (atI0 0 rfl rfl) ?_
    walk_at "g"
    refine s_ixT (SqT.of hq) (atI0 0 rfl rfl) ?_
    walk_at "g"
    refine ⟨m, n, rfl, by omega, by omega, fun g u v t I ht => ?_⟩
    have S1 : Same H (upd H t (.tup [.int g, .int u, .int v])) := same_upd ht
    have T1 : upd H t (.tup [.int g, .int u, .int v]) t = some (.tup [.int g, .int u, .int v]) := upd_same
    generalize upd H t (.tup [.int g, .int u, .int v]) = H1 at S1 T1 ⊢
    have hg := I.hg
    walk_at "g"
    refine s_ixT (SqT.of T1) (atI0 0 rfl rfl) ?_
    walk_at "g"
    refine s_ixT (SqT.of (S1 _ _ hq)) (atI0 0 rfl rfl) ?_
    have gl : g ≤ n := by rw [hg]; exact Int.le_of_dvd n0 (Int.gcd_dvd_right ..)
    have gl2 : g ≤ m := by rw [hg]; exact Int.le_of_dvd m0 (Int.gcd_dvd_left ..)
    have g0 : 0 < g := by omega
    walk_at "g"
    refine s_i (divW g0 (by omega)) ?_
    walk_at "g"
    refine s_ixT (SqT.of (S1 _ _ hq)) (atI0 1 rfl rfl) ?_
    walk_at "g"
    refine s_ixT (SqT.of (S1 _ _ hp)) (atI0 1 rfl rfl) ?_
    walk_at "g"
    refine s_i (divW g0 (by omega)) ?_
    walk_at "g"
    refine s_ixT (SqT.of (S1 _ _ hp)) (atI0 0 rfl rfl) ?_
    walk_at "g"
    refine s_i (divW g0 (by omega)) ?_
    have st0 : 0 < n / g := Int.ediv_pos_of_pos_of_dvd n0 (by omega) (by rw [hg]; exact Int.gcd_dvd_right ..)
    have st1 : n / g ≤ n := Int.ediv_le_self _ (by omega)
    have c1 : Int.gcd (m / g) (n / g) = 1 := by rw [hg]; exact Int.gcd_ediv_gcd_ediv_gcd gp
    walk_at "g"
    refine ⟨n / g, m / g, rfl, st0, by omega, fun _ H2 b s2 b0 b1 hb => ?_, fun z => absurd c1 z⟩
    have d1 : ((s - r) / g).natAbs ≤ (s - r).natAbs := Int.natAbs_ediv_le_natAbs _ _
    walk_at "g"
    refine s_i (by omega) ?_
    have S2 := S1.trans s2
    rw [hg] at hb
    have J := M.join_ok m0 n0 al hb
    rw [← hg] at J
    have t0 := Int.emod_nonneg ((s - r) / g * b) (show n / g ≠ 0 by omega)
    have t1 := Int.emod_lt_of_pos ((s - r) / g * b) st0
    have w0 : 0 < m * (n / g) := Int.mul_pos m0 st0
    generalize (s - r) / g * b % (n / g) = T0 at J t0 t1 ⊢
    walk_at "g"
    refine s_ixT (SqT.of (S2 _ _ hp)) (atI0 0 rfl rfl) ?_
    walk_at "g"
    refine s_ixT (SqT.of (S2 _ _ hp)) (atI0 1 rfl rfl) ?_
    walk_at "g"
    refine s_ixT (SqT.of (S2 _ _ hp)) (atI0 0 rfl rfl) ?_
    walk_at "g"
    refine s_i (by omega) ?_
    walk_at "g"
    refine mkT (by simp) fun t2 H3 n3 e3 s3 => ?_
    exact k t2 H3 _ _ J (S2.trans s3) e3

/-- a list of papers -/
def PapsAt (n : Nat) (H : Hp) (D : Addr) (ps : List (Addr × Nat)) : Prop := H D = some (.lst (ps.map fun x => V.ref x.1)) ∧ ∀ x ∈ ps, PaperAt n H x.1 x.2
theorem PapsAt.same {n : Nat} {H H' : Hp} {D : Addr} {ps : List (Addr × Nat)} (h : PapsAt n H D ps) (s : Same H H') : PapsAt n H' D ps := ⟨s _ _ h.1, fun x hx => (h.2 x hx).same s⟩
theorem ps_get {ps : List (Addr × Nat)} {i : Nat} {x : V} (h : (ps.map fun x => V.ref x.1)[i]? = some x) : ∃ t p, ps[i]? = some (t, p) ∧ x = .ref t := by
  rw [List.getElem?_map] at h
  obtain ⟨⟨t, p⟩, h1, rfl⟩ := Option.map_eq_some_iff.mp h
  exact ⟨t, p, h1, rfl⟩

theorem PaperAt.sameB : ∀ {n : Nat} {H H' : Hp} {t s : Addr} {p : Nat}, PaperAt n H t p → StAt H s → SameB s H H' → PaperAt n H' t p
  | 0, _, _, _, _, _, h, _, _ => h.elim
  | n + 1, H, H', t, s, p, ⟨f, u, xs, l, e1, e2, hp, hf, hl, pr⟩, st, sb => by
    have fr : ∀ {r : List V} {b : Addr}, H b = some (.tup r) → H' b = some (.tup r) := fun {r b} e => sb _ _ (fun z => by
      obtain ⟨_, _, e0, _⟩ := st
      rw [z, e0] at e; cases e) e
    exact ⟨f, u, xs, l, fr e1, fr e2, hp, hf, hl, paired_mono (fun _ _ ⟨a, b, e, h1, h2⟩ => ⟨a, b, e, fr h1, h2.sameB st sb⟩) pr⟩
theorem StAt.upd {H : Hp} {s l : Addr} {xs : List V} {o : HO} (h : StAt H s) (hl : H l = some (.lst xs)) : StAt (L2.upd H l o) s := by
  obtain ⟨a, b, e, k⟩ := h
  exact ⟨a, b, by rw [upd_ne (fun z => by rw [z, hl] at e; cases e)]; exact e, k⟩

/-! list.index of data of any depth -/
namespace R
open PySem PySem.Spec PyProof.Rows L2
section
variable {X : Cx}
def rIndexD (K : PySem.W.Frag) : V → List V → Hp → VK → Prop := fun x vs H Q => ∃ (a : Addr) (xs : List V) (y : V) (d : PyData) (ds : List PyData) (j : Nat) (z : PyData), x = V.ref a ∧ vs = [y] ∧ H a = some (.lst xs) ∧ DpAll K H xs ds ∧ Dp K H y d ∧
  SeqAt.shaped (.list ds) = true ∧ SeqAt.shaped d = true ∧ ds[j]? = some z ∧ PyData.eqv z d = true ∧ (∀ (m : Nat) (z' : PyData), m < j → ds[m]? = some z' → PyData.eqv z' d = false) ∧ Q (.int (j : Nat)) H
theorem mt_indexD (hu : X.A.units + 65 < cLine) : MtR X "list.index" (rIndexD X.K) := by
  intro pins st σ H x vs v us Q I rx rxs want
  obtain ⟨a, xs, y, d, ds, j, z, rfl, rfl, hH, hl, hy, sl, sd, hz, hzj, hno, q⟩ := want
  cases rx
  obtain ⟨uy, rfl, ry⟩ := rxs.one
  obtain ⟨bs, r1⟩ := Dp.reads I d y uy hy ry
  have lay : PyData.canLayAll0 ds = true := SeqAt.canLay_of_shaped sl
  have room : X.A.units + 1 + min (PyData.depthAll ds) d.depth < cLine := room_in_shaped sd hu
  obtain ⟨zz, its, n, rv, hlen, ho⟩ := I.lstM hH
  obtain ⟨as, h4⟩ := Dp.readsAll I ds xs its hl rv
  have hn : its.length = ds.length := SeqAt.ReadsAll.length ds its as h4
  have hmap : its.map (SeqAt.readOf st.heap) = ds := SeqAt.readsAll_map ds its as lay h4
  obtain ⟨hjd, _⟩ := List.getElem?_eq_some_iff.mp hz
  have hjl : j < its.length := by omega
  have hj : j < its.toArray.size := by rw [List.size_toArray]; exact hjl
  have at_ : ∀ (m : Nat) (hm : m < its.toArray.size) (z' : PyData), ds[m]? = some z' → SeqAt.readOf st.heap its.toArray[m] = z' := fun m hm z' hz' => by
    have hml : m < its.length := by rw [List.size_toArray] at hm; exact hm
    rw [← hmap, List.getElem?_map, List.getElem?_eq_getElem hml] at hz'
    simpa using Option.some.inj (show some (SeqAt.readOf st.heap its[m]) = some z' from hz')
  have hvl := rv.length
  have hsl := sizeLine_eq
  refine call_meets PySem.F.slot_list_index ⟨_, ho, rfl⟩ PySem.F.entry_list_index (PySem.F.args_list_index_2 _ _)
    (PySem.SeqAt.list_indexAt a its.toArray n none #[] uy (fun u => PyData.eqv (SeqAt.readOf st.heap u) d) j hj (by omega) ?_ ?_) ⟨ho, SeqAt.items_eqAt (vs := its.toArray) (show ReadsAll st.heap its.toArray.toList ds as from h4) r1 lay (SeqAt.canLay_of_shaped sd) room, ?_⟩
  · show PyData.eqv (SeqAt.readOf st.heap its.toArray[j]) d = true
    rw [at_ j hj z hz]
    exact hzj
  · intro m hm hmj
    have hmd : m < ds.length := by rw [List.size_toArray] at hm; omega
    show PyData.eqv (SeqAt.readOf st.heap its.toArray[m]) d = false
    rw [at_ m hm _ (List.getElem?_eq_getElem hmd)]
    exact hno m _ hmj (List.getElem?_eq_getElem hmd)
  · exact ⟨.int (j : Nat), H, I.tok _, ⟨_, rfl⟩, q⟩
end
end R

/-! membership of data in a list -/
namespace R
open PySem PySem.Spec PyProof.Rows L2
theorem units65 {k : Nat} {A : Around} (r : Room k A) : A.units + 65 < cLine := by have := r.un; omega
def rInQ (K : PySem.W.Frag) : R2 := fun x y H Q => ∃ (a : Addr) (xs : List V) (d : PyData) (ds : List PyData), y = .ref a ∧ SqL K H a xs ∧ DpAll K H xs ds ∧ Dp K H x d ∧ SeqAt.shaped d = true ∧ SeqAt.shaped (.list ds) = true ∧ Q (.bl (ds.any fun z => PyData.eqv z d)) H
theorem op_inQ {X : Cx} (hu : X.A.units + 65 < cLine) : OpR X (compareOp .In) (rInQ X.K) := by
  intro pins st σ H x y v u Q I rx ry want
  obtain ⟨a, xs, d, ds, rfl, hs, hl, hx, sd, sl, q⟩ := want
  obtain ⟨_, here⟩ := Dp.reads I d x v hx rx
  obtain ⟨_, there⟩ := Dp.reads I (.list ds) (.ref a) u (.lst hs hl) ry
  have e1 := SeqAt.canLay_of_shaped sl
  have e2 := SeqAt.canLay_of_shaped sd
  exact SeqAt.in_list_reads there here e1 e2 (room_in_shaped (xs := ds) sd hu) ⟨.bl _, H, I, rfl, q⟩
end R

theorem mkSlA {K : PySem.W.Frag} {H : Hp} {Q : VK} {p : Addr} {xs : List V} {lo hi : Option Int} (hs : SqT K H p xs) (hp : H p = some (.tup xs)) (h : ∀ l H', H' l = some (.tup (cutV xs lo hi)) → Same H H' → Q (.ref l) H') : rSlA K (.ref p) lo hi H Q :=
  ⟨p, xs, rfl, hs, fun z => h p H (by
    have : cutV xs lo hi = xs := by
      unfold cutV
      rw [z.1, z.2, List.drop_zero, Nat.sub_zero, List.take_length]
    rw [this]; exact hp) (Same.refl _), fun _ l hl => h l _ upd_same (same_upd hl)⟩
theorem mkCatA {K : PySem.W.Frag} {H : Hp} {Q : VK} {p q : Addr} {xs ys : List V} (hp : H p = some (.tup xs)) (hq : H q = some (.tup ys)) (hl : xs.length + ys.length ≤ 1000) (h : ∀ l H', H' l = some (.tup (xs ++ ys)) → Same H H' → Q (.ref l) H') : rCatA K (.ref p) (.ref q) H Q :=
  ⟨p, q, xs, ys, rfl, rfl, SqT.of hp, SqT.of hq, Nat.le_trans hl (Nat.le_of_lt (small1000 (Nat.le_refl _))), fun z => h q H (by rw [z]; exact hq) (Same.refl _), fun _ z => h p H (by rw [z, List.append_nil]; exact hp) (Same.refl _), fun _ _ l hl => h l _ upd_same (same_upd hl)⟩

theorem dp_ints {K : PySem.W.Frag} {H : Hp} {q : Addr} {l : List Int} (h : H q = some (.lst (l.map V.int))) : Dp K H (.ref q) (.list (l.map PyData.int)) := by
  refine .lst (SqL.of h) ?_
  clear h
  induction l with
  | nil => exact .nil
  | cons n l ih => exact .cons (.int _) ih
theorem sh_ints (l : List Int) : SeqAt.shaped (.list (l.map PyData.int)) = true := shapedL fun d hd => by
  obtain ⟨q, _, rfl⟩ := List.mem_map.mp hd
  exact ⟨rfl, Nat.zero_le _⟩
theorem eqv_nil (l : List Int) : PyData.eqv (.list (l.map PyData.int)) (.list []) = decide (l = []) := by
  cases l with
  | nil => simp [PyData.eqv, PyData.eqvAll]
  | cons a l => simp [PyData.eqv, PyData.eqvAll]

theorem s_callSD {sp : Sp} {dvs : List V} {E : L2.St → XK} {tl : L2.TA} {σ : L2.St} {H : Hp} {Q : V → Hp → Prop} (h : tl σ H fun vs H1 => sp (vs ++ dvs) H1 Q (E σ)) : L2.tCallSD sp dvs E tl σ H Q := h

theorem s_enumL {K : PySem.W.Frag} {ta : TA} {σ : L2.St} {H : Hp} {R : It → Hp → Prop} (h : ta σ H fun vs H1 => ∃ a xs, vs = [.ref a] ∧ SqL K H1 a xs ∧ R (Ite K a) H1) : iEnum K ta σ H R := h
theorem TupsIn.tups {H H' : Hp} (s : ∀ b r, H b = some (.tup r) → H' b = some (.tup r)) {xs : List V} {rs : List (List V)} (h : TupsIn H xs rs) : TupsIn H' xs rs := paired_mono (fun _ _ ⟨t, e, h1⟩ => ⟨t, e, s _ _ h1⟩) h
theorem s_extend {l b : Addr} {xs zs : List V} {H : Hp} {Q : VK} (hl : H l = some (.lst xs)) (hb : H b = some (.lst zs)) (hn : xs.length + zs.length ≤ 1000) (h : Q .non (upd H l (.lst (xs ++ zs)))) : rExtend (.ref l) [.ref b] H Q := ⟨l, b, xs, zs, rfl, rfl, hl, hb, Nat.le_of_lt (small1000 hn), h⟩
/-- how many roots there are by a prime -/
def RCnt (p k : Nat) (a : Int) (c : Nat) : Prop := (¬ M.un p a → c = 1) ∧ (M.un p a → M.is1 p a ((p - 1) / Nat.gcd k (p - 1)) → c = Nat.gcd k (p - 1)) ∧ (M.un p a → ¬ M.is1 p a ((p - 1) / Nat.gcd k (p - 1)) → c = 0)
theorem kr_cnt {p k c : Nat} {a : Int} {xs : List Int} (hp : M.Prime p) (hk : 0 < k) (hx : M.IsKR p k a xs) (hc : RCnt p k a c) : xs.length = c := by
  by_cases hu : M.un p a
  · by_cases h1 : M.is1 p a ((p - 1) / Nat.gcd k (p - 1))
    · rw [hc.2.1 hu h1]; exact M.kr_len hp hu hk h1 hx
    · rw [hc.2.2 hu h1, hx.unique (M.kr_none hp hu hk h1)]; rfl
  · rw [hc.1 hu, hx.unique (M.kr_nought hp hk (Classical.byContradiction fun z => hu z))]; rfl
/-- roots_by(paper, k, a) -/
def sp_roots_by : Sp := fun vs H Q _ => ∃ (m p f : Nat) (t u : Addr) (pl : List (Addr × Nat × Nat)) (k : Nat) (a : Int), vs = [.ref t, .int (k : Nat), .int a] ∧ Pap m H t p f u pl ∧ p < 2 ^ 60 ∧ 0 < k ∧ k < 2 ^ 400 ∧
  (∀ (c : Nat) (T W : Addr) H', RCnt p k a c → 0 < c → c ≤ p → H' T = some (.tup [.int (c : Nat), .ref W]) → Same H H' → Q (.ref T) H') ∧
  (M.un p a → ¬ M.is1 p a ((p - 1) / Nat.gcd k (p - 1)) → ∀ (T W : Addr) H', H' T = some (.tup [.int 0, .ref W]) → H' W = some (.tup [.int ((p - 1) / Nat.gcd k (p - 1) : Nat), .int (M.pw p a ((p - 1) / Nat.gcd k (p - 1)))]) → Same H H' → Q (.ref T) H')
theorem ok_roots_by (T : Txt K mg) : FnOk P w K mg base CX0 8 (He.ga K "roots_by") (fd_roots_by T) ["paper", "k", "a"] sp_roots_by := by
  refine (F_roots_by T).ok sc_roots_by (fun vs H Q E h => ?_) (fun cdv A outer s H vs Q E hr h => ⟨_, PSs.nox (pss_cons (ps_set (i := 3) sc_roots_by.nd rfl (Or.inl rfl) (pe_ix ix_seq (pv 0) pe_int (fun _ _ => rfl)))
      (pss_cons (ps_if (pt_cmpR op_eq (pe_op op_mod (pv 2) (pv 3)) pe_int (nomark _)) (pss_one (ps_ret (pe_tup (pa_cons pe_int (pa_cons (pe_tup pa_nil) pa_nil))))) pss_nil)
      (pss_cons (ps_set (i := 4) sc_roots_by.nd rfl (Or.inl rfl) (pe_ix ix_seq (pe_call (ok_divisor T) (hr.mono (by decide)) rfl (g_divisor T) (kp_divisor T) (B_divisor T) .nil pass0 (pa_cons (pv 1) (pa_cons (pe_op op_sub (pv 3) pe_int) pa_nil))) pe_int (fun _ _ => rfl)))
      (pss_cons (ps_set (i := 5) sc_roots_by.nd rfl (Or.inl rfl) (pe_op op_fdivW (pe_op op_sub (pv 3) pe_int) (pv 4)))
      (pss_cons (ps_set (i := 6) sc_roots_by.nd rfl (Or.inl rfl) (pe_call (ok_power T) (hr.mono (by decide)) rfl (g_power T) (kp_power T) (B_power T) .nil passL (pa_cons (pv 3) (pa_cons (pv 2) (pa_cons (pv 5) pa_nil)))))
      (pss_cons (ps_if (pt_cmpR op_ne (pv 6) pe_int (nomark _)) (pss_one (ps_ret (pe_tup (pa_cons pe_int (pa_cons (pe_tup (pa_cons (pv 5) (pa_cons (pv 6) pa_nil))) pa_nil))))) pss_nil)
      (pss_one (ps_ret (pe_tup (pa_cons (pv 4) (pa_cons (pe_tup pa_nil) pa_nil))))))))))), ?_⟩)
  · obtain ⟨m, p, f, t, u, pl, k, a, rfl, _⟩ := h; rfl
  · obtain ⟨m, p, f, t, u, pl, kk, a, rfl, hP, hpb, k0, kb, k1, k2⟩ := h
    have hp := hP.hp
    have hp2 := hp.1
    have ee : (p : Int) - 1 = ((p - 1 : Nat) : Int) := by omega
    have p10 : 0 < p - 1 := by omega
    walk_at "g"
    refine s_ixT (SqT.of hP.at_) (atI0 0 rfl rfl) ?_
    walk_at "g"
    refine s_i (by omega) ?_
    walk_at "g"
    refine s_ite (fun c => ?_) (fun c => ?_)
    · have hn : ¬ M.un p a := fun z => M.un_iff.mp z c
      walk_at "g"
      refine mkT (by simp) fun W H1 nW eW s1 => ?_
      walk_at "g"
      refine mkT (by simp) fun T H2 nT eT s2 => ?_
      walk_at "g"
      exact k1 1 T W H2 ⟨fun _ => rfl, fun z => absurd z hn, fun z => absurd z hn⟩ (by decide) (by omega) eT (s1.trans s2)
    have hu := M.un_iff.mpr c
    walk_at "g"
    refine ⟨kk, (p : Int) - 1, rfl, by omega, by omega, fun g u' v' T1 I nT1 => ?_⟩
    have S1 : Same H (upd H T1 (.tup [.int g, .int u', .int v'])) := same_upd nT1
    have eT1 : upd H T1 (.tup [.int g, .int u', .int v']) T1 = some (.tup [.int g, .int u', .int v']) := upd_same
    generalize upd H T1 (.tup [.int g, .int u', .int v']) = H1 at S1 eT1 ⊢
    have hg : g = ((Nat.gcd kk (p - 1) : Nat) : Int) := by
      have := I.hg
      rw [ee] at this
      exact this
    clear I
    subst hg
    have g0 : 0 < Nat.gcd kk (p - 1) := Nat.gcd_pos_of_pos_right _ p10
    have gb := Nat.le_of_dvd p10 (Nat.gcd_dvd_right kk (p - 1))
    have eb : (p - 1) / Nat.gcd kk (p - 1) ≤ p - 1 := Nat.div_le_self _ _
    have eie : (((p - 1 : Nat) : Int) / ((Nat.gcd kk (p - 1) : Nat) : Int)) = (((p - 1) / Nat.gcd kk (p - 1) : Nat) : Int) := (Int.natCast_ediv _ _).symm
    have c1 : ∀ T W H', M.is1 p a ((p - 1) / Nat.gcd kk (p - 1)) → H' T = some (.tup [.int (Nat.gcd kk (p - 1) : Nat), .ref W]) → Same H H' → _ := fun T W H' h1 => k1 (Nat.gcd kk (p - 1)) T W H' ⟨fun z => absurd hu z, fun _ _ => rfl, fun _ z => absurd h1 z⟩ g0 (by omega)
    clear k1
    generalize Nat.gcd kk (p - 1) = G at k2 c1 g0 gb eb eT1 eie
    generalize (p - 1) / G = e at k2 c1 eb eie
    walk_at "g"
    refine s_ixT (SqT.of eT1) (atI0 0 rfl rfl) ?_
    walk_at "g"
    refine s_i (divW (by omega) (by omega)) ?_
    rw [ee, eie]
    walk_at "g"
    refine pos_power (m := e) rfl (by omega) (by omega) ?_
    walk_at "g"
    have h1w := M.pw_one_iff hp2 (a := a) (e := e)
    refine s_iten (fun c2 => ?_) (fun c2 => ?_)
    · have hn : ¬ M.is1 p a e := fun z => c2 (h1w.mpr z)
      walk_at "g"
      refine mkT (by simp) fun W H2 nW eW s2 => ?_
      walk_at "g"
      refine mkT (by simp) fun T H3 nT eT s3 => ?_
      walk_at "g"
      exact k2 hu hn T W H3 eT (s3 _ _ eW) (S1.trans (s2.trans s3))
    · walk_at "g"
      refine mkT (by simp) fun W H2 nW eW s2 => ?_
      walk_at "g"
      refine mkT (by simp) fun T H3 nT eT s3 => ?_
      walk_at "g"
      exact c1 T W H3 (h1w.mp c2) eT (S1.trans (s2.trans s3))
/-- lists of roots -/
def LsAt (H : Hp) (vs : List V) (ls : List (List Int)) : Prop := Paired (fun v (l : List Int) => ∃ b, v = .ref b ∧ H b = some (.lst (l.map V.int))) vs ls
theorem LsAt.same {H H' : Hp} {vs : List V} {ls : List (List Int)} (h : LsAt H vs ls) (s : Same H H') : LsAt H' vs ls := paired_mono (fun _ _ ⟨b, e, h⟩ => ⟨b, e, s _ _ h⟩) h
theorem unlike_take {ps : List Nat} (h : ps.Nodup) {i p : Nat} (hp : ps[i]? = some p) : ∀ z ∈ ps.take i, z ≠ p := fun z hz e => by
  have h2 : ps.take (i + 1) = ps.take i ++ [p] := take_more hp
  have h3 : (ps.take (i + 1)).Nodup := h.sublist (List.take_sublist _ _)
  rw [h2] at h3
  exact (List.nodup_append.mp h3).2.2 z hz p (by simp) e
def plW (W : Nat) (xs : List Int) : List (List V) := xs.map fun x => [V.int (W : Nat), V.int x]
theorem plW_snoc (W : Nat) (xs : List Int) (x : Int) : plW W (xs ++ [x]) = plW W xs ++ [[V.int (W : Nat), V.int x]] := by unfold plW; rw [List.map_append]; rfl
theorem plW_app (W : Nat) (xs ys : List Int) : plW W (xs ++ ys) = plW W xs ++ plW W ys := by unfold plW; rw [List.map_append]
theorem tups_app {H : Hp} : ∀ {xs ys : List V} {rs ts : List (List V)}, TupsIn H xs rs → TupsIn H ys ts → TupsIn H (xs ++ ys) (rs ++ ts)
  | _, _, _, _, .nil, h => h
  | _, _, _, _, .cons f r, h => .cons f (tups_app r h)
/-- each_with_each(papers, lists) -/
def sp_each_with_each (K : PySem.W.Frag) : Sp := fun vs H Q _ => ∃ (n : Nat) (D O : Addr) (ps : List (Addr × Nat)) (os : List V) (ls : List (List Int)), vs = [.ref D, .ref O] ∧ PapsAt n H D ps ∧ (ps.map (·.2)).Nodup ∧ (∀ x ∈ ps, x.2 ≤ 1000000000) ∧ ps.length ≤ 5 ∧ H O = some (.lst os) ∧ LsAt H os ls ∧ ls.length = ps.length ∧
  (∀ l ∈ ls, 0 < l.length ∧ l.Nodup) ∧ M.prodN (ls.map List.length) ≤ 400 ∧ (∀ (i p : Nat) (l : List Int), (ps.map (·.2))[i]? = some p → ls[i]? = some l → ∀ z ∈ l, 0 ≤ z ∧ z < p) ∧
  ∀ xs F H', xs.Pairwise (· < ·) → M.Mixed (ps.map (·.2)) ls xs → H F = none → H' F = some (.lst (xs.map V.int)) → Same H H' → Q (.ref F) H'
theorem ok_each_with_each (T : Txt K mg) : FnOk P w K mg base CX0 7 (He.ga K "each_with_each") (fd_each_with_each T) ["papers", "lists"] (sp_each_with_each K) := by
  refine (F_each_with_each T).ok sc_each_with_each (fun vs H Q E h => ?_) (fun cdv A outer s H vs Q E hr h => ⟨_, PSs.nox (pss_cons (ps_set (i := 2) sc_each_with_each.nd rfl (Or.inl rfl) (pe_lst (pa_cons (pe_tup (pa_cons pe_int (pa_cons pe_int pa_nil))) pa_nil)))
      (pss_cons (ps_for PassesOwn.never rfl (RZ.pi_zipA rfl (T.fr (T.c.fact 38 rfl)) (pa_cons (pv 0) (pa_cons (pv 1) pa_nil))) (pg_tup rfl (pgs_cons (pg_name (i := 3) sc_each_with_each.nd rfl (Or.inr rfl)) (pgs_cons (pg_name (i := 4) sc_each_with_each.nd rfl (Or.inl rfl)) pgs_nil))) (pss_cons (ps_set (i := 5) sc_each_with_each.nd rfl (Or.inl rfl) (pe_lst pa_nil))
      (pss_cons (ps_for PassesOwn.never rfl (pi_list (pv 4)) (pg_name (i := 6) sc_each_with_each.nd rfl (Or.inr rfl)) (pss_one (ps_expr (pe_bm PySem.F.plainAttrs_list PySem.F.slot_list_extend PySem.F.type_list_extend mt_extend (pv 5) (pa_cons (pe_lc (own := [("place", 7)]) (tt := tYes) rfl sc_each_with_each.nd (pi_list (pv 2)) (blkOk_by (N := N_each_with_each) (sc := defScope s_each_with_each) (by decide +kernel)) (fun _ _ _ _ _ => (pg_name (i := 7) sc_each_with_each.nd rfl (Or.inl rfl))) (fun _ _ _ _ _ => pts_nil) (fun _ _ _ _ _ => (pe_call (ok_joined T) (hr.mono (by decide)) rfl (g_joined T) (kp_joined T) (B_joined T) .nil pass0 (pa_cons (pv 7) (pa_cons (pe_tup (pa_cons (pe_ix (R.ix_seqK K rfl) (pv 3) pe_int (fun _ _ => rfl)) (pa_cons (pv 6) pa_nil))) pa_nil))))) pa_nil)))))
      (pss_one (ps_set (i := 2) sc_each_with_each.nd rfl (Or.inl rfl) (pv 5))))))
      (pss_one (ps_ret (pe_callB cr_sortedI rfl (T.fr (T.c.fact 37 rfl)) boot_sorted (pa_cons (pe_lc (own := [("place", 7)]) (tt := tYes) rfl sc_each_with_each.nd (pi_list (pv 2)) (blkOk_by (N := N_each_with_each) (sc := defScope s_each_with_each) (by decide +kernel)) (fun _ _ _ _ _ => (pg_name (i := 7) sc_each_with_each.nd rfl (Or.inl rfl))) (fun _ _ _ _ _ => pts_nil) (fun _ _ _ _ _ => (pe_ix (R.ix_seqK K rfl) (pv 7) pe_int (fun _ _ => rfl)))) pa_nil)))))), ?_⟩)
  · obtain ⟨n, D, O, ps, os, ls, rfl, _⟩ := h; rfl
  · obtain ⟨n, D, O, ps, os, ls, rfl, hP, hnd, hpb, hpl, eO, hO, hll, hl0, hmany, hin, k⟩ := h
    have hol : os.length = ps.length := by rw [hO.length]; exact hll
    have hpr : ∀ x ∈ ps, M.Prime x.2 := fun x hx => by
      obtain ⟨_, _, _, _, _, hq⟩ := (hP.2 x hx).pap'
      exact hq.hp
    have hpm : ∀ z ∈ ps.map (·.2), M.Prime z ∧ z ≤ 1000000000 := fun z hz => by
      obtain ⟨x, hx, rfl⟩ := List.mem_map.mp hz
      exact ⟨hpr x hx, hpb x hx⟩
    have hW : ∀ i, 0 < M.prodN ((ps.map (·.2)).take i) ∧ M.prodN ((ps.map (·.2)).take i) < 2 ^ 200 := fun i => by
      have h1 := M.prodN_pos (l := (ps.map (·.2)).take i) fun z hz => (hpm z (List.mem_of_mem_take hz)).1.pos
      have h2 := M.prodN_take (l := ps.map (·.2)) (fun z hz => (hpm z hz).1.pos) i
      have h3 := M.prodN_bd (l := ps.map (·.2)) (B := 1000000000) fun z hz => (hpm z hz).2
      rw [List.length_map] at h3
      have h4 : 1000000000 ^ ps.length ≤ 1000000000 ^ 5 := Nat.pow_le_pow_right (by decide) hpl
      have h5 : (1000000000 : Nat) ^ 5 < 2 ^ 200 := by decide
      exact ⟨h1, by omega⟩
    have hlen : ∀ i, M.prodN ((ls.take i).map List.length) ≤ 400 := fun i => by
      rw [List.map_take]
      exact Nat.le_trans (M.prodN_take (fun z hz => by
        obtain ⟨l, hl, rfl⟩ := List.mem_map.mp hz
        exact (hl0 l hl).1) i) hmany
    walk_at "g"
    refine mkT (by simp) fun T0 H1 nT0 eT0 s1 => ?_
    walk_at "g"
    refine mkL (by simp) fun F0 H2 nF0 eF0 s2 => ?_
    walk_at "g"
    have S2 := s1.trans s2
    refine ⟨D, O, _, _, rfl, .inl ⟨SqL.of (S2 _ _ hP.1), SqL.of (S2 _ _ eO), ?_⟩⟩
    refine for_it (walk_zip (xs := ps.map fun x => V.ref x.1) (ys := os) (n := ps.length) (by rw [List.length_map]; omega)) (fun i σ H' => Same H H' ∧ (∃ (F : Addr) (vs : List V) (xs : List Int), H' F = some (.lst vs) ∧ TupsIn H' vs (plW (M.prodN ((ps.map (·.2)).take i)) xs) ∧ M.Mixed ((ps.map (·.2)).take i) (ls.take i) xs ∧ ∃ v3 v4 v5 v6 v7 : Option V, σ = [some (.ref D), some (.ref O), some (.ref F), v3, v4, v5, v6, v7]))
      ⟨S2, F0, _, [0], eF0, .cons ⟨T0, rfl, s2 _ _ eT0⟩ .nil, by rw [List.take_zero, List.take_zero]; exact M.mixed_nil, _, _, _, _, _, rfl⟩ (fun i σ H' _ I => ⟨SqL.of (I.1 _ _ hP.1), SqL.of (I.1 _ _ eO)⟩) ?_ ?_
    · rintro i v σ H3 H4 hi ⟨s3, F, vs, xs, eF, hvs, hmx, v3, v4, v5, v6, v7, rfl⟩ ⟨T, x1, y1, rfl, nT, rfl, hx0, hy⟩
      obtain ⟨t, p, hx, rfl⟩ := ps_get hx0
      have hy : os[i]? = some y1 := hy
      obtain ⟨l, hl, b, rfl, eb⟩ := pget hO hy
      have hpi : (ps.map (·.2))[i]? = some p := by rw [List.getElem?_map, hx]; rfl
      have hp := hpr _ (List.mem_of_getElem? hx)
      have hp9 := hpb _ (List.mem_of_getElem? hx)
      have hp : M.Prime p := hp
      have hp9 : p ≤ 1000000000 := hp9
      have hp0 := hp.pos
      obtain ⟨hw0, hw9⟩ := hW i
      have hw1 := hW (i + 1)
      have eW : M.prodN ((ps.map (·.2)).take (i + 1)) = M.prodN ((ps.map (·.2)).take i) * p := by rw [take_more hpi, M.prodN_snoc]
      have hgc : Nat.gcd (M.prodN ((ps.map (·.2)).take i)) p = 1 := M.prodN_gcd hp fun z hz => ⟨(hpm z (List.mem_of_mem_take hz)).1, unlike_take hnd hpi z hz⟩
      have hlb := hin i p l hpi hl
      have hlnd := (hl0 l (List.mem_of_getElem? hl)).2
      have hcount : xs.length * l.length ≤ 400 := by
        have h1 := hlen (i + 1)
        rw [take_more hl, List.map_append, List.map_cons, List.map_nil, M.prodN_snoc, ← hmx.len] at h1
        exact h1
      have hl1 := (hl0 l (List.mem_of_getElem? hl)).1
      have hxs9 : xs.length ≤ 400 := Nat.le_trans (Nat.le_mul_of_pos_right _ hl1) hcount
      have hx1 : ∀ x ∈ xs, 0 ≤ x ∧ x < (M.prodN ((ps.map (·.2)).take i) : Nat) := fun x hx => ⟨((hmx.iff x).mp hx).1, ((hmx.iff x).mp hx).2.1⟩
      have hmore := fun ys => M.mixed_more (ys := ys) (l := l) (p := p) hmx (by rw [List.length_take, List.length_take, List.length_map]; omega) hw0
      rw [← take_more hpi, ← take_more hl] at hmore
      have hxnd := hmx.nd
      rw [eW]
      rw [eW] at hw1
      clear hmx hW hlen
      generalize M.prodN ((ps.map (·.2)).take i) = W at *
      have s4 : Same H3 (upd H3 T (.tup [.ref t, .ref b])) := same_upd nT
      have eT : upd H3 T (.tup [.ref t, .ref b]) T = some (.tup [.ref t, .ref b]) := upd_same
      generalize upd H3 T (.tup [.ref t, .ref b]) = H4 at s4 eT ⊢
      obtain ⟨f0, u0, e1⟩ := (hP.2 _ (List.mem_of_getElem? hx)).first
      have S4 := s3.trans s4
      refine s_gtup (SqT.of eT) rfl ?_
      walk_at "g"
      refine mkL (by simp) fun R H5 nR eR s5 => ?_
      have S5 := S4.trans s5
      walk_at "g"
      refine ⟨⟨_, SqL.of (S5 _ _ eb)⟩, ?_⟩
      have hvl : vs.length = xs.length := by rw [hvs.length]; unfold plW; rw [List.length_map]
      refine for_list (fun j σ H' => Same H4 H' ∧ (∃ (ws : List V) (ys : List Int), H' R = some (.lst ws) ∧ TupsIn H' ws (plW (W * p) ys) ∧ M.Col W p xs (l.take j) ys) ∧ ∃ v6 v7 : Option V, σ = [some (.ref D), some (.ref O), some (.ref F), some (.ref t), some (.ref b), some (.ref R), v6, v7]) ⟨s5, ⟨[], [], eR, .nil, by rw [List.take_zero]; exact M.col_nil_s _ _ _⟩, _, _, rfl⟩ (fun j σ H' _ I => SqL.of ((S4.trans I.1) _ _ eb)) ?_ ?_
      · rintro j v σ H6 hj ⟨s6, ⟨ws, ys, eR6, hws, hcol⟩, v6, v7, rfl⟩
        rw [List.getElem?_map] at hj
        obtain ⟨sn, hsn, rfl⟩ := Option.map_eq_some_iff.mp hj
        obtain ⟨sn0, sn1⟩ := hlb sn (List.mem_of_getElem? hsn)
        have S6 := S4.trans s6
        have eF6 := (s4.trans s6) _ _ eF
        have hvs6 := hvs.same (s4.trans s6)
        have hjl := (List.getElem?_eq_some_iff.mp hsn).1
        have hsnn : sn ∉ l.take j := fun z => by
          have h3 : (l.take (j + 1)).Nodup := hlnd.sublist (List.take_sublist _ _)
          rw [take_more hsn] at h3
          exact (List.nodup_append.mp h3).2.2 sn z sn (by simp) rfl
        walk_at "g"
        refine ⟨s_tyL eR6, ?_⟩
        walk_at "g"
        refine s_lc ?_
        walk_at "g"
        refine ⟨⟨_, SqL.of eF6⟩, fun C hC => ?_⟩
        refine lc_list (fun m H' => Same H6 H' ∧ ∃ (cs : List V) (ys : List Int), H' C = some (.lst cs) ∧ TupsIn H' cs (plW (W * p) ys) ∧ M.Col W p (xs.take m) [sn] ys) ⟨same_upd hC, [], [], upd_same, .nil, by rw [List.take_zero]; exact M.col_nil_x _ _ _⟩ (fun m H' _ I => SqL.of (I.1 _ _ eF6)) ?_ ?_
        · rintro m v H7 hm ⟨s7, cs, zs, eC, hcs, hcol7⟩
          obtain ⟨r, hr, tv, rfl, etv⟩ := pget hvs6 hm
          unfold plW at hr
          rw [List.getElem?_map] at hr
          obtain ⟨x, hxm, rfl⟩ := Option.map_eq_some_iff.mp hr
          obtain ⟨x0, x1⟩ := hx1 x (List.mem_of_getElem? hxm)
          have hxn : x ∉ xs.take m := fun z => by
            have h3 : (xs.take (m + 1)).Nodup := hxnd.sublist (List.take_sublist _ _)
            rw [take_more hxm] at h3
            exact (List.nodup_append.mp h3).2.2 x z x (by simp) rfl
          have hml := (List.getElem?_eq_some_iff.mp hxm).1
          have hzl : zs.length ≤ 400 := by rw [hcol7.len, List.length_take]; simp; omega
          have hcl : cs.length = zs.length := by rw [hcs.length]; unfold plW; rw [List.length_map]
          walk_at "g"
          refine ⟨rfl, ?_⟩
          walk_at "g"
          refine s_ixT (SqT.of ((S6.trans s7) _ _ e1)) (atI0 0 rfl rfl) ?_
          walk_at "g"
          refine mkT (by simp) fun T8 H8 nT8 eT8 s8 => ?_
          walk_at "g"
          refine ⟨tv, T8, _, _, _, _, rfl, s8 _ _ (s7 _ _ etv), eT8, by omega, by omega, by omega, by omega, x0, by omega, by omega, ?_, fun t9 H9 w y hj9 s9 e9 => ?_⟩
          · show (x - sn) % (Nat.gcd W p : Nat) = 0
            rw [hgc]; omega
          obtain ⟨hw, hcol9⟩ := M.col_one hcol7 hgc x0 x1 sn0 sn1 hxn hj9
          have s89 := s8.trans s9
          have eC9 := s89 _ _ eC
          refine ⟨_, eC9, line2 (by omega), same_upd' (s7.trans s89) hC, _, zs ++ [y], upd_same, ?_, by rw [take_more hxm]; exact hcol9⟩
          have tk : ∀ b' r', H9 b' = some (.tup r') → upd H9 C (.lst (cs ++ [.ref t9])) b' = some (.tup r') := fun b' r' eb => by
            rw [upd_ne (fun z => by rw [z, eC9] at eb; cases eb)]; exact eb
          rw [plW_snoc]
          refine paired_snoc (TupsIn.tups (fun b' r' eb => tk _ _ (s89 _ _ eb)) hcs) ⟨t9, rfl, tk _ _ ?_⟩
          rw [e9, hw]
        rintro H7 ⟨s7, cs, zs, eC, hcs, hcol7⟩
        rw [hvl, List.take_length] at hcol7
        have hcl : cs.length = zs.length := by rw [hcs.length]; unfold plW; rw [List.length_map]
        have hwl : ws.length = ys.length := by rw [hws.length]; unfold plW; rw [List.length_map]
        have eR7 := s7 _ _ eR6
        have hnew := M.col_app hcol hcol7 hsnn
        rw [← take_more hsn] at hnew
        have hnl : ys.length + zs.length ≤ 400 := by
          have h1 := hnew.len
          rw [List.length_append, List.length_take] at h1
          have h2 : xs.length * min (j + 1) l.length ≤ xs.length * l.length := Nat.mul_le_mul_left _ (Nat.min_le_right _ _)
          omega
        walk_at "g"
        refine s_extend eR7 eC (by omega) ?_
        walk_at "g"
        refine ⟨?_, ⟨_, ys ++ zs, upd_same, ?_, hnew⟩, _, _, rfl⟩
        · exact same_upd' (s6.trans s7) nR
        · have tk : ∀ b' r', H7 b' = some (.tup r') → upd H7 R (.lst (ws ++ cs)) b' = some (.tup r') := fun b' r' eb => by
            rw [upd_ne (fun z => by rw [z, eR7] at eb; cases eb)]; exact eb
          rw [plW_app]
          exact tups_app (TupsIn.tups (fun b' r' eb => tk _ _ (s7 _ _ eb)) hws) (TupsIn.tups tk hcs)
      · rintro σ H6 ⟨s6, ⟨ws, ys, eR6, hws, hcol⟩, v6, v7, rfl⟩
        rw [List.length_map, List.take_length] at hcol
        walk_at "g"
        exact ⟨S4.trans s6, R, ws, ys, eR6, hws, hmore ys hcol, _, _, _, _, _, rfl⟩
    · rintro σ H3 ⟨s3, F, vs, xs, eF, hvs, hmx, v3, v4, v5, v6, v7, rfl⟩
      have e0 : (ps.map (·.2)).take ps.length = ps.map (·.2) := by rw [← List.length_map (f := (·.2)) (as := ps), List.take_length]
      rw [e0] at hmx hvs
      rw [← hll, List.take_length] at hmx
      have hxl : xs.length ≤ 400 := by rw [hmx.len]; exact hmany
      have hvl : vs.length = xs.length := by rw [hvs.length]; unfold plW; rw [List.length_map]
      walk_at "g"
      refine s_lc ?_
      walk_at "g"
      refine ⟨⟨_, SqL.of eF⟩, fun C hC => ?_⟩
      refine lc_list (fun m H' => Same H3 H' ∧ H' C = some (.lst ((xs.take m).map V.int))) ⟨same_upd hC, upd_same⟩ (fun m H' _ I => SqL.of (I.1 _ _ eF)) ?_ ?_
      · rintro m v H4 hm ⟨s4, eC⟩
        obtain ⟨r, hr, tv, rfl, etv⟩ := pget hvs hm
        unfold plW at hr
        rw [List.getElem?_map] at hr
        obtain ⟨x, hxm, rfl⟩ := Option.map_eq_some_iff.mp hr
        have hml := (List.getElem?_eq_some_iff.mp hxm).1
        walk_at "g"
        refine ⟨rfl, ?_⟩
        walk_at "g"
        refine s_ixT (SqT.of (s4 _ _ etv)) (atI0 1 rfl rfl) ?_
        refine ⟨_, eC, line2 (by rw [List.length_map, List.length_take]; omega), same_upd' s4 hC, ?_⟩
        rw [upd_same, take_more hxm, List.map_append]; rfl
      rintro H4 ⟨s4, eC⟩
      rw [hvl, List.take_length] at eC
      walk_at "g"
      refine ⟨C, xs, rfl, SqL.of eC, fun ns D2 pm srt nD2 => ?_⟩
      have hns : ns.Nodup := pm.nodup_iff.mpr hmx.nd
      have hst : ns.Pairwise (· < ·) := (srt.and hns).imp fun {a b} z => by have := z.1; have := z.2; omega
      have S4 := s3.trans s4
      exact k ns D2 _ hst ⟨hns, fun y => (pm.mem_iff).trans (hmx.iff y), by rw [pm.length_eq]; exact hmx.len⟩ (Same.none S4 nD2) upd_same (S4.trans (same_upd nD2))
/-- no roots -/
def NoR (p k : Nat) (a : Int) : Prop := M.un p a ∧ ¬ M.is1 p a ((p - 1) / Nat.gcd k (p - 1))
abbrev RRec := Addr × Addr × Addr × List Int
def RRAt (H : Hp) (k : Nat) (a : Int) (x : Addr × Nat) (r : RRec) : Prop := H r.1 = some (.tup [.ref r.2.1, .ref r.2.2.1]) ∧ H r.2.1 = some (.lst (r.2.2.2.map V.int)) ∧ M.IsKR x.2 k a r.2.2.2 ∧ RtAt H r.2.2.1 x.2 k a r.2.2.2
theorem RtAt.tups {H H' : Hp} {s : Addr} {p k : Nat} {a : Int} {xs : List Int} (h : RtAt H s p k a xs) (e : ∀ b r, H b = some (.tup r) → H' b = some (.tup r)) : RtAt H' s p k a xs := by
  obtain ⟨h1, h2, h3⟩ := h
  refine ⟨fun u o => ?_, fun u o => e _ _ (h2 u o), fun u => e _ _ (h3 u)⟩
  obtain ⟨t, t0, t1, t2, t3, t4⟩ := h1 u o
  exact ⟨t, t0, t1, t2, t3, e _ _ t4⟩
theorem RRAt.same {H H' : Hp} {k : Nat} {a : Int} {x : Addr × Nat} {r : RRec} (h : RRAt H k a x r) (e : Same H H') : RRAt H' k a x r := ⟨e _ _ h.1, e _ _ h.2.1, h.2.2.1, h.2.2.2.same e⟩
theorem rr_ls {H : Hp} {k : Nat} {a : Int} : ∀ {ps : List (Addr × Nat)} {rr : List RRec}, Paired (RRAt H k a) ps rr → Paired (fun x l => M.IsKR x.2 k a l) ps (rr.map (·.2.2.2)) ∧ LsAt H (rr.map fun r => V.ref r.2.1) (rr.map (·.2.2.2))
  | _, _, .nil => ⟨.nil, .nil⟩
  | _, _, .cons f r => by
    obtain ⟨h1, h2⟩ := rr_ls r
    exact ⟨.cons f.2.2.1 h1, .cons ⟨_, rfl, f.2.1⟩ h2⟩
theorem kr_prod {k : Nat} {a : Int} (hk : 0 < k) : ∀ {ps : List (Addr × Nat)} {ls : List (List Int)} {cs : List Nat}, (∀ x ∈ ps, M.Prime x.2) → Paired (fun x l => M.IsKR x.2 k a l) ps ls → Paired (fun x c => RCnt x.2 k a c ∧ 0 < c) ps cs → ls.map List.length = cs
  | _, _, _, _, .nil, .nil => rfl
  | x :: ps, _, _, hp, .cons f r, .cons g s => by rw [List.map_cons, kr_cnt (hp x (by simp)) hk f g.1, kr_prod hk (fun y hy => hp y (by simp [hy])) r s]
def RowsR (H : Hp) (k : Nat) (a : Int) (ps : List (Addr × Nat)) (rr : List RRec) : Prop := Paired (fun x (r : RRec) => M.IsKR x.2 k a r.2.2.2 ∧ RtAt H r.2.2.1 x.2 k a r.2.2.2) ps rr
/-- roots_of(papers, k, a) -/
def sp_roots_of (K : PySem.W.Frag) : Sp := fun vs H Q E => ∃ (n : Nat) (D : Addr) (ps : List (Addr × Nat)) (k : Nat) (a : Int), vs = [.ref D, .int (k : Nat), .int a] ∧ PapsAt n H D ps ∧ (ps.map (·.2)).Nodup ∧ (∀ x ∈ ps, x.2 ≤ 1000000000) ∧ ps.length ≤ 5 ∧ 0 < k ∧ k < 2 ^ 400 ∧
  (∀ (i p : Nat) (t : Addr), ps[i]? = some (t, p) → NoR p k a → (∀ (j p' : Nat) (t' : Addr), j < i → ps[j]? = some (t', p') → ¬ NoR p' k a) → ∀ (T L0 S : Addr) H', Same H H' → H L0 = none → H' T = some (.tup [.ref L0, .ref S]) → H' L0 = some (.lst []) → H' S = some (.tup [.str "none", .int (i : Nat), .int ((p - 1) / Nat.gcd k (p - 1) : Nat), .int (M.pw p a ((p - 1) / Nat.gcd k (p - 1)))]) → Q (.ref T) H') ∧
  (∀ cs : List Nat, Paired (fun x c => RCnt x.2 k a c ∧ 0 < c) ps cs →
    (400 < M.prodN cs → ∀ (d : Addr) H', H d = none → Same H H' → H' d = some (.xd [("many", .int (M.prodN cs : Nat))]) → E (.ref (He.ga K "TooMany")) (some d) H') ∧
    (M.prodN cs ≤ 400 → ∀ (xs : List Int) (rr : List RRec) (T F S R : Addr) H', M.Mixed (ps.map (·.2)) (rr.map (·.2.2.2)) xs → xs.Pairwise (· < ·) → xs.length = M.prodN cs → H F = none → Same H H' → H' T = some (.tup [.ref F, .ref S]) → H' F = some (.lst (xs.map V.int)) → H' S = some (.tup [.str "by", .ref R]) → H' R = some (.tup (rr.map fun r => V.ref r.2.2.1)) → RowsR H' k a ps rr → Q (.ref T) H'))
theorem ok_roots_of (T : Txt K mg) : FnOk P w K mg base (L2.CX P w) 12 (He.ga K "roots_of") (fd_roots_of T) ["papers", "k", "a"] (sp_roots_of K) := by
  refine (F_roots_of T).ok sc_roots_of (fun vs H Q E h => ?_) (fun cdv A outer s H vs Q E hr h => ⟨_, (pss_cons (ps_set (i := 3) sc_roots_of.nd rfl (Or.inl rfl) pe_int)
      (pss_cons (ps_for (passes_of rfl) rfl (pi_enum rfl (T.fr (T.c.fact 39 rfl)) (pa_cons (pv 0) pa_nil)) (pg_tup rfl (pgs_cons (pg_name (i := 4) sc_roots_of.nd rfl (Or.inl rfl)) (pgs_cons (pg_name (i := 5) sc_roots_of.nd rfl (Or.inl rfl)) pgs_nil))) (pss_cons (ps_asg (pe_call (ok_roots_by T) (hr.mono (by decide)) rfl (g_roots_by T) (kp_roots_by T) (B_roots_by T) .nil pass0 (pa_cons (pv 5) (pa_cons (pv 1) (pa_cons (pv 2) pa_nil)))) (pg_tup rfl (pgs_cons (pg_name (i := 6) sc_roots_of.nd rfl (Or.inl rfl)) (pgs_cons (pg_name (i := 7) sc_roots_of.nd rfl (Or.inl rfl)) pgs_nil))))
      (pss_cons (ps_if (pt_cmpR op_eq (pv 6) pe_int (nomark _)) (pss_one (ps_ret (pe_tup (pa_cons (pe_lst pa_nil) (pa_cons (pe_op op_catA (pe_tup (pa_cons pe_str (pa_cons (pv 4) pa_nil))) (pv 7)) pa_nil))))) pss_nil)
      (pss_one (ps_set (i := 3) sc_roots_of.nd rfl (Or.inl rfl) (pe_op op_mulW (pv 3) (pv 6)))))))
      (pss_cons (ps_if (pt_cmpR op_gt (pv 3) (pe_glob (v := .int 400) rfl (T.int_ok (T.c.fact 46 rfl)).choose_spec ⟨_, rfl⟩) (nomark _)) (pss_one (ps_raise rfl (takes_of rfl rfl rfl rfl) (pmk_oex (x_TooMany T).oex (x_TooMany T).iC (x_TooMany T).tI (ok_init_TooMany T) (hr.mono (by decide)) (B_init_TooMany T) .nil pass0 rfl (g_TooMany T) (pa_cons (pv 3) pa_nil)))) pss_nil)
      (pss_cons ((ps_setLc (i := 8) (own := [("paper", 5)]) (tt := tYes) rfl sc_roots_of.nd rfl rfl (sw_true rfl rfl rfl rfl) (pi_list (pv 0)) (blkOk_by (N := N_roots_of) (sc := defScope s_roots_of) (by decide +kernel)) (fun _ _ _ _ _ => (pg_name (i := 5) sc_roots_of.nd rfl (Or.inl rfl))) (fun _ _ _ _ _ => pts_nil) (fun _ _ _ _ _ => (pe_call (ok_roots T) (hr.mono (by decide)) rfl (g_roots T) (kp_roots T) (B_roots T) .nil passL (pa_cons (pv 5) (pa_cons (pv 1) (pa_cons (pv 2) pa_nil)))))))
      (pss_cons (ps_set (i := 9) sc_roots_of.nd rfl (Or.inl rfl) (pe_call (ok_each_with_each T) (hr.mono (by decide)) rfl (g_each_with_each T) (kp_each_with_each T) (B_each_with_each T) .nil pass0 (pa_cons (pv 0) (pa_cons (pe_lc (own := [("one", 10)]) (tt := tYes) rfl sc_roots_of.nd (pi_list (pv 8)) (blkOk_by (N := N_roots_of) (sc := defScope s_roots_of) (by decide +kernel)) (fun _ _ _ _ _ => (pg_name (i := 10) sc_roots_of.nd rfl (Or.inl rfl))) (fun _ _ _ _ _ => pts_nil) (fun _ _ _ _ _ => (pe_ix (R.ix_seqK K rfl) (pv 10) pe_int (fun _ _ => rfl)))) pa_nil))))
      (pss_one (ps_ret (pe_tup (pa_cons (pv 9) (pa_cons (pe_tup (pa_cons pe_str (pa_cons (pe_callTy callTup rfl (T.fr (T.c.fact 40 rfl)) boot_tuple (pa_cons (pe_lc (own := [("one", 10)]) (tt := tYes) rfl sc_roots_of.nd (pi_list (pv 8)) (blkOk_by (N := N_roots_of) (sc := defScope s_roots_of) (by decide +kernel)) (fun _ _ _ _ _ => (pg_name (i := 10) sc_roots_of.nd rfl (Or.inl rfl))) (fun _ _ _ _ _ => pts_nil) (fun _ _ _ _ _ => (pe_ix (R.ix_seqK K rfl) (pv 10) pe_int (fun _ _ => rfl)))) pa_nil)) pa_nil))) pa_nil)))))))))), ?_⟩)
  · obtain ⟨n, D, ps, k, a, rfl, _⟩ := h; rfl
  · obtain ⟨n, D, ps, kk, a, rfl, hP, hnd, hpb, hpl, k0, kb, k1, k2⟩ := h
    have hpr : ∀ x ∈ ps, M.Prime x.2 := fun x hx => by
      obtain ⟨_, _, _, _, _, hq⟩ := (hP.2 x hx).pap'
      exact hq.hp
    walk_at "g"
    refine s_enumL ?_
    walk_at "g"
    refine ⟨D, _, rfl, SqL.of hP.1, ?_⟩
    refine for_it walk_enum (fun i σ H' => Same H H' ∧ (∀ (j p' : Nat) (t' : Addr), j < i → ps[j]? = some (t', p') → ¬ NoR p' kk a) ∧ ∃ (cs : List Nat) (v4 v5 v6 v7 v8 v9 v10 : Option V), σ = [some (.ref D), some (.int (kk : Nat)), some (.int a), some (.int (M.prodN cs : Nat)), v4, v5, v6, v7, v8, v9, v10] ∧ Paired (fun x c => RCnt x.2 kk a c ∧ 0 < c ∧ c ≤ 1000000000) (ps.take i) cs)
      ⟨Same.refl _, fun j _ _ z => absurd z (by omega), [], none, none, none, none, none, none, none, rfl, by rw [List.take_zero]; exact .nil⟩ (fun i σ H' _ I => SqL.of (I.1 _ _ hP.1)) ?_ ?_
    · rintro i v σ H1 H2 hi ⟨s1, hno, cs, v4, v5, v6, v7, v8, v9, v10, rfl, hcs⟩ ⟨T, x, y, rfl, nT, rfl, ex, ey⟩
      cases ex
      obtain ⟨t, p, hx, rfl⟩ := ps_get ey
      have s2 : Same H1 (upd H1 T (.tup [.int (i : Nat), .ref t])) := same_upd nT
      have eT : upd H1 T (.tup [.int (i : Nat), .ref t]) T = some (.tup [.int (i : Nat), .ref t]) := upd_same
      generalize upd H1 T (.tup [.int (i : Nat), .ref t]) = H2 at s2 eT ⊢
      have S2 := s1.trans s2
      have hmem := List.mem_of_getElem? hx
      have hil := (List.getElem?_eq_some_iff.mp hx).1
      have hpB : p ≤ 1000000000 := hpb _ hmem
      obtain ⟨m, f, u, pl, _, hPl⟩ := ((hP.2 _ hmem).same S2).pap'
      have hPl : Pap m H2 t p f u pl := hPl
      refine s_gtup (SqT.of eT) rfl ?_
      walk_at "g"
      have hcl : cs.length ≤ 5 := by rw [← hcs.length, List.length_take]; omega
      have hcb := M.prodN_bd (l := cs) (B := 1000000000) fun z hz => by
        obtain ⟨_, _, _, _, h⟩ := paired_mem hcs hz
        exact h
      have hcb2 : 1000000000 ^ cs.length ≤ 1000000000 ^ 5 := Nat.pow_le_pow_right (by decide) hcl
      have hcb3 : (1000000000 : Nat) ^ 5 < 2 ^ 200 := by decide
      have hcb4 : M.prodN cs < 2 ^ 200 := by omega
      refine ⟨m, p, f, t, u, pl, kk, a, rfl, hPl, by omega, k0, kb, fun c T1 W H3 hc c0 cp eT1 s3 => ?_, fun hu h1 T1 W H3 eT1 eW s3 => ?_⟩
      · refine s_gtup (SqT.of eT1) rfl ?_
        walk_at "g"
        refine s_itN (by omega) ?_
        walk_at "g"
        try refine s_i (mulW (by omega) (by omega)) ?_
        walk_at "g"
        have hnr : ¬ NoR p kk a := fun z => by have := hc.2.2 z.1 z.2; omega
        refine ⟨S2.trans s3, fun j p' t' hj h1 => ?_, cs ++ [c], _, _, _, _, _, _, _, by rw [M.prodN_snoc]; push_cast; rfl, ?_⟩
        · rcases Nat.lt_or_ge j i with z | z
          · exact hno j p' t' z h1
          · obtain rfl : j = i := by omega
            rw [hx] at h1
            cases h1
            exact hnr
        · rw [take_more hx]
          exact paired_snoc hcs ⟨hc, c0, by omega⟩
      · refine s_gtup (SqT.of eT1) rfl ?_
        walk_at "g"
        try refine s_itP rfl ?_
        walk_at "g"
        refine mkL (by simp) fun L0 H4 nL0 eL0 s4 => ?_
        walk_at "g"
        refine mkT (by simp) fun T2 H5 nT2 eT2 s5 => ?_
        walk_at "g"
        refine mkCatA eT2 (s5 _ _ (s4 _ _ eW)) (by simp) fun S H6 eS s6 => ?_
        walk_at "g"
        refine mkT (by simp) fun T3 H7 nT3 eT3 s7 => ?_
        walk_at "g"
        have s57 := s5.trans (s6.trans s7)
        have S3 := S2.trans s3
        exact k1 i p t hx ⟨hu, h1⟩ hno T3 L0 S H7 (S3.trans (s4.trans s57)) (Same.none S3 nL0) eT3 (s57 _ _ eL0) (s7 _ _ eS)
    · rintro σ H1 ⟨s1, hno, cs, v4, v5, v6, v7, v8, v9, v10, rfl, hcs⟩
      rw [List.length_map, List.take_length] at hcs
      have hcs' : Paired (fun (x : Addr × Nat) c => RCnt x.2 kk a c ∧ 0 < c) ps cs := paired_mono (fun _ _ z => ⟨z.1, z.2.1⟩) hcs
      obtain ⟨kE, kQ⟩ := k2 cs hcs'
      walk_at "g"
      refine s_ite (fun c => ?_) (fun c => ?_)
      · walk_at "g"
        refine s_raise (x_TooMany T).oex (x_TooMany T).noF fun d H2 hd hx hs => ?_
        exact kE (by omega) d H2 (Same.none s1 hd) (s1.trans hs) hx
      have kQ := kQ (by omega)
      have c4 : M.prodN cs ≤ 400 := by omega
      walk_at "g"
      refine s_lc ?_
      walk_at "g"
      refine ⟨⟨_, SqL.of (s1 _ _ hP.1)⟩, fun C hC => ?_⟩
      refine lc_list (fun i H' => Same H1 H' ∧ ∃ rr : List RRec, H' C = some (.lst (rr.map fun r => V.ref r.1)) ∧ Paired (fun x r => RRAt H' kk a x r ∧ r.2.1 ≠ C) (ps.take i) rr) ⟨same_upd hC, [], upd_same, by rw [List.take_zero]; exact .nil⟩ (fun i H' _ I => SqL.of ((s1.trans I.1) _ _ hP.1)) ?_ ?_
      · rintro i v H2 hi ⟨s2, rr, eC, hrr⟩
        obtain ⟨t, p, hx, rfl⟩ := ps_get hi
        have hmem := List.mem_of_getElem? hx
        have hil := (List.getElem?_eq_some_iff.mp hx).1
        have hpB : p ≤ 1000000000 := hpb _ hmem
        have S2 := s1.trans s2
        obtain ⟨m, f, u, pl, _, hPl⟩ := ((hP.2 _ hmem).same S2).pap'
        have hPl : Pap m H2 t p f u pl := hPl
        obtain ⟨c, hc, hc1, hc0⟩ := pget hcs' hx
        have hc4 : c ≤ 400 := by
          have h1 := M.prodN_dvd (List.mem_of_getElem? hc)
          have h2 := Nat.le_of_dvd (M.prodN_pos fun z hz => by
            obtain ⟨_, _, _, h⟩ := paired_mem hcs' hz
            exact h) h1
          omega
        have hrl : rr.length ≤ 5 := by rw [← hrr.length, List.length_take]; omega
        walk_at "g"
        refine ⟨rfl, ?_⟩
        walk_at "g"
        refine ⟨m, p, f, t, u, pl, kk, a, rfl, hPl, by omega, k0, kb, fun hu h1 hg => ?_, fun _ l T1 Dl s H3 hl nD eD nT eT hR _ _ s3 => ?_⟩
        · exfalso
          have h9 : c = Nat.gcd kk (p - 1) := hc1.2.1 hu h1
          omega
        have eC3 := s3 _ _ eC
        refine ⟨_, eC3, line2 (by rw [List.length_map]; omega), same_upd' (s2.trans s3) hC, rr ++ [(T1, Dl, s, l)], by rw [upd_same, List.map_append]; rfl, ?_⟩
        have nDC : Dl ≠ C := fun z => by rw [z, eC] at nD; cases nD
        have sk : ∀ b' o', b' ≠ C → H3 b' = some o' → upd H3 C (.lst ((rr.map fun r => V.ref r.1) ++ [.ref T1])) b' = some o' := fun b' o' nb eb => by rw [upd_ne nb]; exact eb
        have tk : ∀ b' r', H3 b' = some (.tup r') → upd H3 C (.lst ((rr.map fun r => V.ref r.1) ++ [.ref T1])) b' = some (.tup r') := fun b' r' eb => sk _ _ (fun z => by rw [z, eC3] at eb; cases eb) eb
        rw [take_more hx]
        exact paired_snoc (paired_mono (fun x r ⟨h, hn⟩ => ⟨⟨tk _ _ (s3 _ _ h.1), sk _ _ hn (s3 _ _ h.2.1), h.2.2.1, (h.2.2.2.same s3).tups tk⟩, hn⟩) hrr) ⟨⟨tk _ _ eT, sk _ _ nDC eD, hl, hR.tups tk⟩, nDC⟩
      rintro H2 ⟨s2, rr, eC, hrr⟩
      rw [List.length_map, List.take_length] at hrr
      have hrr : Paired (RRAt H2 kk a) ps rr := paired_mono (fun _ _ z => z.1) hrr
      have S2 := s1.trans s2
      obtain ⟨hls, hos⟩ := rr_ls hrr
      have hrl : rr.length = ps.length := hrr.length.symm
      have hlen := kr_prod k0 hpr hls hcs'
      walk_at "g"
      refine s_lc ?_
      walk_at "g"
      refine ⟨⟨_, SqL.of eC⟩, fun O hO => ?_⟩
      refine lc_list (fun m H' => Same H2 H' ∧ H' O = some (.lst ((rr.take m).map fun r => V.ref r.2.1))) ⟨same_upd hO, upd_same⟩ (fun m H' _ I => SqL.of (I.1 _ _ eC)) ?_ ?_
      · rintro m v H3 hm ⟨s3, eO⟩
        rw [List.getElem?_map] at hm
        obtain ⟨r, hr, rfl⟩ := Option.map_eq_some_iff.mp hm
        obtain ⟨x, hx, hRR⟩ := pget' hrr hr
        have hml := (List.getElem?_eq_some_iff.mp hr).1
        walk_at "g"
        refine ⟨rfl, ?_⟩
        walk_at "g"
        refine s_ixT (SqT.of (s3 _ _ hRR.1)) (atI0 0 rfl rfl) ?_
        refine ⟨_, eO, line2 (by rw [List.length_map, List.length_take]; omega), same_upd' s3 hO, ?_⟩
        rw [upd_same, take_more hr, List.map_append]; rfl
      rintro H3 ⟨s3, eO⟩
      rw [List.length_map, List.take_length] at eO
      have S3 := S2.trans s3
      walk_at "g"
      refine ⟨n, D, O, ps, _, rr.map (·.2.2.2), rfl, hP.same S3, hnd, hpb, hpl, eO, hos.same s3, by rw [List.length_map]; exact hrl, fun l hl => ?_, by rw [hlen]; exact c4, fun i p l hp hl => ?_, fun xs F H4 hxs hmx nF eF s4 => ?_⟩
      · obtain ⟨x, hx, hk⟩ := paired_mem hls hl
        refine ⟨?_, hk.sorted.imp fun {a b} h e => by omega⟩
        have h1 : l.length ∈ (rr.map (·.2.2.2)).map List.length := List.mem_map.mpr ⟨l, hl, rfl⟩
        rw [hlen] at h1
        obtain ⟨_, _, _, h⟩ := paired_mem hcs' h1
        exact h
      · rw [List.getElem?_map] at hp
        obtain ⟨x, hx, rfl⟩ := Option.map_eq_some_iff.mp hp
        obtain ⟨l', hl', hk⟩ := pget hls hx
        rw [hl] at hl'
        cases hl'
        intro z hz
        have := (hk.iff z).mp hz
        exact ⟨this.1, this.2.1⟩
      have S4 := S3.trans s4
      have s34 := s3.trans s4
      walk_at "g"
      refine s_lc ?_
      walk_at "g"
      refine ⟨⟨_, SqL.of (s34 _ _ eC)⟩, fun R0 hR0 => ?_⟩
      refine lc_list (fun m H' => Same H4 H' ∧ H' R0 = some (.lst ((rr.take m).map fun r => V.ref r.2.2.1))) ⟨same_upd hR0, upd_same⟩ (fun m H' _ I => SqL.of (I.1 _ _ (s34 _ _ eC))) ?_ ?_
      · rintro m v H5 hm ⟨s5, eR⟩
        rw [List.getElem?_map] at hm
        obtain ⟨r, hr, rfl⟩ := Option.map_eq_some_iff.mp hm
        obtain ⟨x, hx, hRR⟩ := pget' hrr hr
        have hml := (List.getElem?_eq_some_iff.mp hr).1
        walk_at "g"
        refine ⟨rfl, ?_⟩
        walk_at "g"
        refine s_ixT (SqT.of (s5 _ _ (s34 _ _ hRR.1))) (atI0 1 rfl rfl) ?_
        refine ⟨_, eR, line2 (by rw [List.length_map, List.length_take]; omega), same_upd' s5 hR0, ?_⟩
        rw [upd_same, take_more hr, List.map_append]; rfl
      rintro H5 ⟨s5, eR⟩
      rw [List.length_map, List.take_length] at eR
      walk_at "g"
      refine s_tupL (SqL.of eR) fun R nR => ?_
      have s6 : Same H5 (upd H5 R (.tup (rr.map fun r => V.ref r.2.2.1))) := same_upd nR
      have eRt : upd H5 R (.tup (rr.map fun r => V.ref r.2.2.1)) R = some (.tup (rr.map fun r => V.ref r.2.2.1)) := upd_same
      generalize upd H5 R (.tup (rr.map fun r => V.ref r.2.2.1)) = H6 at s6 eRt ⊢
      walk_at "g"
      refine mkT (by simp) fun S H7 nS eS s7 => ?_
      walk_at "g"
      refine mkT (by simp) fun T H8 nT eT s8 => ?_
      walk_at "g"
      have s58 := s5.trans (s6.trans (s7.trans s8))
      exact kQ xs rr T F S R H8 hmx hxs (by rw [hmx.len, hlen]) (Same.none S3 nF) (S4.trans s58) eT (s58 _ _ eF) (s8 _ _ eS) ((s7.trans s8) _ _ eRt) (paired_mono (fun _ _ h => ⟨h.2.2.1, h.2.2.2.same (s34.trans s58)⟩) hrr)

theorem tr_val (L : List Nat) (n : Nat) : valV (trKv L) (.inl (n : Int)) = if n ∈ L then some (.bl true) else none := by
  by_cases h : n ∈ L
  · rw [if_pos h]
    unfold valV trKv
    cases hf : (L.map fun d : Nat => ((.inl (d : Int) : Key), V.bl true)).find? fun kv => decide (kv.1 = .inl (n : Int)) with
    | none =>
      have := List.find?_eq_none.mp hf _ (List.mem_map.mpr ⟨n, h, rfl⟩)
      simp at this
    | some kv =>
      obtain ⟨z, _, rfl⟩ := List.mem_map.mp (List.mem_of_find?_eq_some hf)
      rfl
  · rw [if_neg h]
    unfold valV trKv
    rw [Option.map_eq_none_iff, List.find?_eq_none]
    intro kv hkv
    obtain ⟨z, hz, rfl⟩ := List.mem_map.mp hkv
    intro e
    have h2 : (.inl (z : Int) : Key) = .inl (n : Int) := of_decide_eq_true e
    have h3 := Sum.inl.inj h2
    exact h (by rw [show n = z by omega]; exact hz)
theorem tr_new {L : List Nat} {n : Nat} (h : n ∉ L) : putK (trKv L) (.inl (n : Int)) (.bl true) = trKv (L ++ [n]) := by
  rw [putK_new _ (by rw [tr_val, if_neg h])]
  unfold trKv
  rw [List.map_append]; rfl
theorem prime_small (n : Nat) (h : n = 67) : M.Prime n := by
  subst h
  exact M.prime_of_no (by decide) fun d h1 h2 h3 => by
    have hd : d < 9 := by
      rcases Nat.lt_or_ge d 9 with z | z
      · exact z
      · have := Nat.mul_le_mul z z
        omega
    have all : ∀ d < 9, 2 ≤ d → ¬ d ∣ 67 := by decide
    exact all d hd h1 h3
theorem prodN_perm {l l' : List Nat} (h : l.Perm l') : M.prodN l = M.prodN l' := by
  induction h with
  | nil => rfl
  | cons x _ ih => rw [M.prodN_cons, M.prodN_cons, ih]
  | swap x y l => rw [M.prodN_cons, M.prodN_cons, M.prodN_cons, M.prodN_cons]; exact Nat.mul_left_comm _ _ _
  | trans _ _ i1 i2 => rw [i1, i2]
/-- _law_primes(state): a new list of some primes to 67, rising, of a product below 1,000 -/
def sp__law_primes : Sp := fun vs H Q _ => ∃ (s : Addr), vs = [.ref s] ∧ StAt H s ∧ ∀ (L : List Nat) (C : Addr) (H' : Hp), L.Pairwise (· < ·) → (∀ z ∈ L, M.Prime z ∧ z ≤ 67) → L.length ≤ 3 → 0 < L.length → M.prodN L < 1000 → H C = none → H' C = some (.lst (nv L)) → StAt H' s → SameB s H H' → Q (.ref C) H'
theorem ok__law_primes (T : Txt K mg) : FnOk P w K mg base CX0 2 (He.ga K "_law_primes") (fd__law_primes T) ["_law_state_here"] sp__law_primes := by
  refine (F__law_primes T).ok sc__law_primes (fun vs H Q E h => ?_) (fun cdv A outer s H vs Q E hr h => ⟨_, PSs.nox (pss_cons (ps_set (i := 1) sc__law_primes.nd rfl (Or.inl rfl) pe_dnewK)
      (pss_cons (ps_set (i := 2) sc__law_primes.nd rfl (Or.inl rfl) pe_int)
      (pss_cons (ps_for PassesOwn.never rfl (pi_range1 rfl (T.fr (T.c.fact 36 rfl)) (pa_cons (pe_op op_add pe_int (pe_call (ok__law_take T) (hr.mono (by decide)) rfl (g__law_take T) (kp__law_take T) (B__law_take T) .nil pass0 (pa_cons (pv 0) (pa_cons pe_int pa_nil)))) pa_nil)) (pg_name (i := 3) sc__law_primes.nd rfl (Or.inl rfl)) (pss_cons (ps_set (i := 4) sc__law_primes.nd rfl (Or.inr rfl) (pe_op op_add pe_int (pe_call (ok__law_take T) (hr.mono (by decide)) rfl (g__law_take T) (kp__law_take T) (B__law_take T) .nil pass0 (pa_cons (pv 0) (pa_cons (pe_ix ix_seq (pe_lst (pa_cons pe_int (pa_cons pe_int pa_nil))) (pe_call (ok__law_take T) (hr.mono (by decide)) rfl (g__law_take T) (kp__law_take T) (B__law_take T) .nil pass0 (pa_cons (pv 0) (pa_cons pe_int pa_nil))) (fun _ _ => rfl)) pa_nil)))))
      (pss_cons (ps_while PassesOwn.never (pt_cmpR op_gt (pe_callB callLen rfl (T.fr (T.c.fact 41 rfl)) boot_len (pa_cons (pe_lc (own := [("_law_d", 5)]) rfl sc__law_primes.nd (pi_range2 rfl (T.fr (T.c.fact 36 rfl)) (pa_cons pe_int (pa_cons (pv 4) pa_nil))) (blkOk_by (N := N__law_primes) (sc := defScope s__law_primes) (by decide +kernel)) (fun _ _ _ _ _ => (pg_name (i := 5) sc__law_primes.nd rfl (Or.inl rfl))) (fun _ _ _ _ _ => (pts_one (pt_cmpR op_eq (pe_op op_mod (pv 4) (pv 5)) pe_int (nomark _)))) (fun _ _ _ _ _ => (pv 5))) pa_nil)) pe_int (nomark _)) (pss_one (ps_set (i := 4) sc__law_primes.nd rfl (Or.inr rfl) (pe_op op_add (pv 4) pe_int))))
      (pss_one (ps_if (PW.pt (pw_and (pt_cmp (pc_dnotin (hu_of hr) (pv 4) (pv 1)) rfl) (pw_and1 (pt_cmpR op_lt (pe_op op_mulW (pv 2) (pv 4)) pe_int (nomark _))))) (pss_cons (ps_dput (hu_of hr) (pv 1) (pv 4) pe_bl rfl)
      (pss_one (ps_set (i := 2) sc__law_primes.nd rfl (Or.inl rfl) (pe_op op_mulW (pv 2) (pv 4))))) pss_nil)))))
      (pss_one (ps_ret (pe_callB (call_sortedDI rfl) rfl (T.fr (T.c.fact 37 rfl)) boot_sorted (pa_cons (pv 1) pa_nil))))))), ?_⟩)
  · obtain ⟨s, rfl, _⟩ := h; rfl
  · obtain ⟨s, rfl, hst, cont⟩ := h
    have nes : ∀ {l : Addr} {H' : Hp}, H' l = none → StAt H' s → l ≠ s := fun n ⟨_, _, e, _⟩ z => by rw [z, e] at n; cases n
    walk_at "g"
    refine mkDN fun D H0 nD hD s0 => ?_
    have hDs : D ≠ s := nes nD hst
    walk_at "g"
    refine ⟨s, 3, rfl, by decide, by decide, hst.same s0, fun c H2 c0 c1 st2 s2 => ?_⟩
    walk_at "g"
    obtain ⟨c, rfl⟩ := Int.eq_ofNat_of_zero_le c0
    refine mkR1 (c + 1) (by omega) (by omega) (by omega) ?_
    refine for_range (n := c + 1) (fun i σ H' => (∃ L : List Nat, H' D = some (.dK (trKv L)) ∧ L.Nodup ∧ (∀ z ∈ L, M.Prime z ∧ z ≤ 67) ∧ L.length ≤ i ∧ (0 < i → 0 < L.length) ∧ M.prodN L < 1000 ∧ ∃ (v3 v4 v5 : Option V), σ = [some (.ref s), some (.ref D), some (.int (M.prodN L : Nat)), v3, v4, v5]) ∧ StAt H' s ∧ SameB s H H') ⟨⟨[], s2 _ _ hDs hD, List.Pairwise.nil, by simp, by simp, fun z => absurd z (by decide), by decide, _, _, _, rfl⟩, st2, (SameB.of s0).trans s2⟩ ?_ ?_
    · rintro i σ H3 hi ⟨⟨L, hD3, nd, hL, hll, hpos, hprod, v3, v4, v5, rfl⟩, st3, S3⟩
      walk_at "g"
      refine mkL (by simp) fun q H4 nq eq s4 => ?_
      have hqs : q ≠ s := nes nq st3
      walk_at "g"
      refine ⟨s, 2, rfl, by decide, by decide, st3.same s4, fun y2 H5 y20 y21 st5 s5 => ?_⟩
      walk_at "g"
      refine s_pickN (P := fun z => 0 < z ∧ z ≤ 66) [12, 66] (s5 _ _ hqs eq) (by simp only [List.length_cons, List.length_nil]; omega) (by decide) fun m hm => ?_
      walk_at "g"
      refine ⟨s, m, rfl, hm.1, by omega, st5, fun z H6 z0 z1 st6 s6 => ?_⟩
      have S6 : SameB s H3 H6 := (SameB.of s4).trans (s5.trans s6)
      have nD6 : H6 D = some (.dK (trKv L)) := S6 _ _ hDs hD3
      walk_at "g"
      refine s_while (fun σ H' => Same H6 H' ∧ ∃ (n : Nat) (v5 : Option V), σ = [some (.ref s), some (.ref D), some (.int (M.prodN L : Nat)), some (.int (0 + (i : Int))), some (.int n), v5] ∧ 2 ≤ n ∧ n ≤ 67) (fun σ _ => 68 - (iv σ 4).toNat) ⟨Same.refl _, (2 + z).toNat, _, by rw [Int.toNat_of_nonneg (by omega)]; rfl, by omega, by omega⟩ ?_
      rintro σ H' ⟨s7, n, v5, rfl, n2, n9⟩
      walk_at "g"
      refine s_lc ?_
      walk_at "g"
      refine mkR2 (n - 2) (by omega) ⟨by omega, by omega, by omega, by omega⟩ ?_
      refine fun F hF => ?_
      refine lc_range (fun i H8 => Same H' H8 ∧ H8 F = some (.lst (nv (((List.range i).map fun j => 2 + j).filter fun d => decide (n % d = 0))))) ⟨same_upd hF, upd_same⟩ ?_ ?_
      · rintro i H8 hi ⟨s8, hF8⟩
        have ei : (2 : Int) + (i : Int) = ((2 + i : Nat) : Int) := by push_cast; rfl
        rw [ei]
        have hfl : (((List.range i).map fun j => 2 + j).filter fun d => decide (n % d = 0)).length ≤ i := by
          refine Nat.le_trans (List.length_filter_le _ _) ?_
          rw [List.length_map, List.length_range]
          exact Nat.le_refl _
        walk_at "g"
        refine ⟨rfl, ?_⟩
        walk_at "g"
        refine s_i (show (0 : Int) < ((2 + i : Nat) : Int) by omega) ?_
        rw [← Int.natCast_emod]
        walk_at "g"
        refine s_ite (fun c => ?_) (fun c => ?_)
        · have c' : n % (2 + i) = 0 := by omega
          walk_at "g"
          refine ⟨_, hF8, line2 (by rw [nv_len]; omega), same_upd' s8 hF, ?_⟩
          rw [upd_same, List.range_succ, List.map_append, List.filter_append, List.map_cons, List.filter_cons_of_pos (p := fun d => decide (n % d = 0)) (decide_eq_true c'), nv_app]; rfl
        · have c' : ¬ n % (2 + i) = 0 := by omega
          refine ⟨s8, ?_⟩
          rw [List.range_succ, List.map_append, List.filter_append, List.map_cons, List.filter_cons_of_neg (p := fun d => decide (n % d = 0)) (by simpa using c'), List.map_nil, List.filter_nil, List.append_nil]
          exact hF8
      · rintro H8 ⟨s8, hF8⟩
        have hlp : (((List.range (n - 2)).map fun j => 2 + j).filter fun d => decide (n % d = 0)).length = 0 ↔ M.Prime n := by
          rw [List.length_eq_zero_iff, List.filter_eq_nil_iff]
          constructor
          · intro h
            refine M.prime_of_no n2 fun d h1 h2 h3 => ?_
            have h4 : 2 * d ≤ d * d := Nat.mul_le_mul_right d h1
            have := h d (List.mem_map.mpr ⟨d - 2, List.mem_range.mpr (by omega), by omega⟩)
            exact this (decide_eq_true (Nat.mod_eq_zero_of_dvd h3))
          · intro hp d hd
            obtain ⟨j, hj, rfl⟩ := List.mem_map.mp hd
            have hj := List.mem_range.mp hj
            intro e
            rcases hp.2 _ (Nat.dvd_of_mod_eq_zero (of_decide_eq_true e)) with y | y <;> omega
        generalize ((List.range (n - 2)).map fun j => 2 + j).filter (fun d => decide (n % d = 0)) = ds at hF8 hlp
        walk_at "g"
        refine s_lenL (SqL.of hF8) ?_
        rw [nv_len]
        walk_at "g"
        have S8 := s7.trans s8
        refine s_ite (fun c => ?_) (fun c => ?_)
        · have hne : n ≠ 67 := fun z => by
            have := hlp.mpr (prime_small n z)
            omega
          walk_at "g"
          refine ⟨⟨S8, n + 1, _, by push_cast; rfl, by omega, by omega⟩, ?_⟩
          show 68 - ((n : Int) + 1).toNat < 68 - (n : Int).toNat
          omega
        · have hpn := hlp.mp (by omega)
          have nD8 := S8 _ _ nD6
          have S9 := (S3.trans S6).trans (SameB.of S8)
          walk_at "g"
          refine s_dnotin ?_
          walk_at "g"
          refine ⟨D, _, rfl, .inl ⟨_, .inl (n : Int), .inl nD8, rfl, (tr_val L n).symm⟩, ?_⟩
          by_cases hm : n ∈ L
          · rw [if_pos hm]
            refine ⟨false, rfl, ?_⟩
            rw [if_neg Bool.false_ne_true]
            walk_at "g"
            exact ⟨⟨L, nD8, nd, hL, by omega, fun _ => List.length_pos_of_mem hm, hprod, _, _, _, rfl⟩, st6.same S8, S9⟩
          · rw [if_neg hm]
            refine ⟨true, rfl, ?_⟩
            rw [if_pos rfl]
            walk_at "g"
            try refine s_i (mulW (by omega) (by omega)) ?_
            walk_at "g"
            have hcast : ((M.prodN L : Nat) : Int) * (n : Int) = ((M.prodN L * n : Nat) : Int) := by push_cast; rfl
            rw [hcast]
            refine s_ite (fun c2 => ?_) (fun c2 => ?_)
            · walk_at "g"
              refine s_dputI nD8 (line2 (by unfold trKv; rw [List.length_map]; omega)) ?_
              rw [tr_new hm]
              walk_at "g"
              try refine s_i (mulW (by omega) (by omega)) ?_
              walk_at "g"
              rw [hcast]
              refine ⟨⟨L ++ [n], upd_same, List.nodup_append.mpr ⟨nd, by simp, fun x hx y hy e => hm (by rw [List.mem_singleton.mp hy] at e; rw [← e]; exact hx)⟩, fun z hz => ?_, by rw [List.length_append]; simp; omega, fun _ => by rw [List.length_append]; simp, by rw [M.prodN_snoc]; omega, _, _, _, by rw [M.prodN_snoc]; rfl⟩, ?_, S9.updn nD⟩
              · rcases List.mem_append.mp hz with w | w
                · exact hL z w
                · rw [List.mem_singleton.mp w]; exact ⟨hpn, n9⟩
              · obtain ⟨x1, x2, x3, x4⟩ := st6.same S8
                exact ⟨x1, x2, by rw [upd_ne (Ne.symm hDs)]; exact x3, x4⟩
            · have hlp2 : 0 < L.length := by
                cases L with
                | nil =>
                  have e : M.prodN [] = 1 := rfl
                  rw [e] at c2
                  omega
                | cons z L => simp
              walk_at "g"
              exact ⟨⟨L, nD8, nd, hL, by omega, fun _ => hlp2, hprod, _, _, _, rfl⟩, st6.same S8, S9⟩
    · rintro σ H3 ⟨⟨L, hD3, nd, hL, hll, hpos, hprod, v3, v4, v5, rfl⟩, st3, S3⟩
      walk_at "g"
      refine ⟨D, _, L.map fun d : Nat => (d : Int), rfl, .inl hD3, by unfold trKv; rw [List.map_map, List.map_map]; rfl, by rw [List.length_map]; omega, fun ys C ypm ysrt nC => ?_⟩
      obtain ⟨ds, rfl, pm, srt⟩ := ints_back ypm ysrt nd
      refine cont ds C _ srt (fun z hz => hL z (pm.mem_iff.mp hz)) (by rw [pm.length_eq]; omega) (by rw [pm.length_eq]; exact hpos (by omega)) (by rw [prodN_perm pm]; exact hprod) ?_ upd_same (st3.same (same_upd nC)) (S3.trans (SameB.of (same_upd nC)))
      cases e : H C with
      | none => rfl
      | some o =>
        have hCs : C ≠ s := nes nC st3
        rw [S3 _ _ hCs e] at nC
        cases nC

theorem notR_len {p k : Nat} {a : Int} {xs : List Int} (hp : M.Prime p) (hk : 0 < k) (hx : M.IsKR p k a xs) : (NoR p k a → xs = []) ∧ (¬ NoR p k a → 0 < xs.length) := by
  refine ⟨fun h => hx.unique (M.kr_none hp h.1 hk h.2), fun h => ?_⟩
  by_cases hu : M.un p a
  · by_cases h1 : M.is1 p a ((p - 1) / Nat.gcd k (p - 1))
    · rw [M.kr_len hp hu hk h1 hx]
      exact Nat.gcd_pos_of_pos_left _ hk
    · exact absurd ⟨hu, h1⟩ h
  · rw [hx.unique (M.kr_nought hp hk (Classical.byContradiction fun z => hu z))]
    exact Nat.one_pos
/-- _law_order(state): an order from 1 on -/
def sp__law_order : Sp := fun vs H Q _ => ∃ s : Addr, vs = [.ref s] ∧ StAt H s ∧ ∀ (k : Nat) H', 0 < k → k ≤ 1000000000 → StAt H' s → SameB s H H' → Q (.int (k : Nat)) H'
theorem ok__law_order (T : Txt K mg) : FnOk P w K mg base CX0 2 (He.ga K "_law_order") (fd__law_order T) ["_law_state_here"] sp__law_order := by
  refine (F__law_order T).ok sc__law_order (fun vs H Q E h => ?_) (fun cdv A outer s H vs Q E hr h => ⟨_, PSs.nox (pss_one (ps_ret (pe_op op_add pe_int (pe_call (ok__law_take T) (hr.mono (by decide)) rfl (g__law_take T) (kp__law_take T) (B__law_take T) .nil pass0 (pa_cons (pv 0) (pa_cons (pe_ix ix_seq (pe_lst (pa_cons pe_int (pa_cons pe_int (pa_cons (pe_op op_pow pe_int pe_int) pa_nil)))) (pe_call (ok__law_take T) (hr.mono (by decide)) rfl (g__law_take T) (kp__law_take T) (B__law_take T) .nil pass0 (pa_cons (pv 0) (pa_cons pe_int pa_nil))) (fun _ _ => rfl)) pa_nil)))))), ?_⟩)
  · obtain ⟨s, rfl, _⟩ := h; rfl
  · obtain ⟨s, rfl, hst, k⟩ := h
    have nes : ∀ {l : Addr} {H' : Hp}, H' l = none → StAt H' s → l ≠ s := fun n ⟨_, _, e, _⟩ z => by rw [z, e] at n; cases n
    walk_at "g"
    refine mkL (by simp) fun q H1 nq eq s1 => ?_
    have hqs : q ≠ s := nes nq hst
    walk_at "g"
    refine ⟨s, 3, rfl, by decide, by decide, hst.same s1, fun y H2 y0 y1 st2 s2 => ?_⟩
    walk_at "g"
    refine s_pickN (P := fun z => 0 < z ∧ z ≤ 1000000000) [12, 1000, 1000000000] (s2 _ _ hqs eq) (by simp only [List.length_cons, List.length_nil]; omega) (by decide) fun m hm => ?_
    walk_at "g"
    refine ⟨s, m, rfl, hm.1, by omega, st2, fun z H3 z0 z1 st3 s3 => ?_⟩
    obtain ⟨z, rfl⟩ := Int.eq_ofNat_of_zero_le z0
    walk_at "g"
    rw [show (1 : Int) + (z : Int) = ((1 + z : Nat) : Int) by push_cast; rfl]
    exact k _ H3 (by omega) (by omega) st3 ((SameB.of s1).trans (s2.trans s3))
/-- the roots by a prime, gone through -/
def goneR (p k : Nat) (a : Int) (m : Nat) : List Int := ((List.range m).filter fun x : Nat => decide (M.pw p (x : Int) k = a % (p : Int))).map fun x : Nat => (x : Int)
theorem gone_kr {p k : Nat} {a : Int} : M.IsKR p k a (goneR p k a p) := by
  refine ⟨?_, fun y => ?_⟩
  · unfold goneR
    rw [List.pairwise_map]
    exact (List.pairwise_lt_range.filter _).imp fun {a b} h => by omega
  · unfold goneR
    rw [List.mem_map]
    constructor
    · rintro ⟨x, hx, rfl⟩
      obtain ⟨h1, h2⟩ := List.mem_filter.mp hx
      have h1 := List.mem_range.mp h1
      exact ⟨by omega, by omega, M.al_of_emod (of_decide_eq_true h2)⟩
    · rintro ⟨y0, y1, h⟩
      obtain ⟨x, rfl⟩ := Int.eq_ofNat_of_zero_le y0
      exact ⟨x, List.mem_filter.mpr ⟨List.mem_range.mpr (by omega), decide_eq_true (M.al_emod h)⟩, rfl⟩
/-- _law_lists(primes, k, a): a new list of the lists of roots -/
def sp__law_lists (K : PySem.W.Frag) : Sp := fun vs H Q _ => ∃ (C : Addr) (L : List Nat) (k : Nat) (a : Int), vs = [.ref C, .int (k : Nat), .int a] ∧ H C = some (.lst (nv L)) ∧ L.length ≤ 3 ∧ (∀ z ∈ L, M.Prime z ∧ z ≤ 67) ∧
  ∀ (O : Addr) os ls H', Same H H' → H' O = some (.lst os) → LsAt H' os ls → Paired (fun (p : Nat) l => M.IsKR p k a l) L ls → Q (.ref O) H'
theorem ok__law_lists (T : Txt K mg) : FnOk P w K mg base CX0 2 (He.ga K "_law_lists") (fd__law_lists T) ["_law_primes_here", "_law_k", "_law_a"] (sp__law_lists K) := by
  refine (F__law_lists T).ok sc__law_lists (fun vs H Q E h => ?_) (fun cdv A outer s H vs Q E hr h => ⟨_, PSs.nox (pss_one (ps_ret (pe_lc (own := [("_law_p", 3)]) (tt := tYes) rfl sc__law_lists.nd (pi_list (pv 0)) (blkOk_by (N := N__law_lists) (sc := defScope s__law_lists) (by decide +kernel)) (fun _ _ _ _ _ => (pg_name (i := 3) sc__law_lists.nd rfl (Or.inr rfl))) (fun _ _ _ _ _ => pts_nil) (fun _ _ _ _ _ => (pe_lc (own := [("_law_x", 4)]) rfl sc__law_lists.nd (pi_range1 rfl (T.fr (T.c.fact 36 rfl)) (pa_cons (pv 3) pa_nil)) (blkOk_by (by kernel_rfl)) (fun _ _ _ _ _ => (pg_name (i := 4) sc__law_lists.nd rfl (Or.inl rfl))) (fun _ _ _ _ _ => (pts_one (pt_cmpR op_eq (pe_call (ok__law_power T) (hr.mono (by decide)) rfl (g__law_power T) (kp__law_power T) (B__law_power T) .nil pass0 (pa_cons (pv 3) (pa_cons (pv 4) (pa_cons (pv 1) pa_nil)))) (pe_op op_mod (pv 2) (pv 3)) (nomark _)))) (fun _ _ _ _ _ => (pv 4))))))), ?_⟩)
  · obtain ⟨C, L, k, a, rfl, _⟩ := h; rfl
  · obtain ⟨C, L, kk, a, rfl, hC, hl, hL, k⟩ := h
    walk_at "g"
    refine s_lc ?_
    walk_at "g"
    refine ⟨⟨_, SqL.of hC⟩, fun O hO => ?_⟩
    refine lc_list (fun i H' => Same H H' ∧ ∃ os ls, H' O = some (.lst os) ∧ Paired (fun v (l : List Int) => ∃ b, v = .ref b ∧ b ≠ O ∧ H' b = some (.lst (l.map V.int))) os ls ∧ Paired (fun (p : Nat) l => M.IsKR p kk a l) (L.take i) ls) ⟨same_upd hO, [], [], upd_same, .nil, by rw [List.take_zero]; exact .nil⟩ (fun i H' _ I => SqL.of (I.1 _ _ hC)) ?_ ?_
    · rintro i v H1 hi ⟨s1, os, ls, eO, hos, hls⟩
      obtain ⟨p, hx, rfl⟩ := nv_get hi
      obtain ⟨hp, hp9⟩ := hL _ (List.mem_of_getElem? hx)
      have hp2 := hp.1
      have hil := (List.getElem?_eq_some_iff.mp hx).1
      have hol : os.length ≤ 3 := by rw [hos.length, ← hls.length, List.length_take]; omega
      walk_at "g"
      refine ⟨rfl, ?_⟩
      walk_at "g"
      refine s_lc ?_
      walk_at "g"
      refine mkR1 p (by omega) (by omega) (by omega) ?_
      intro F hF
      refine lc_range (n := p) (fun j H' => Same H1 H' ∧ H' F = some (.lst ((goneR p kk a j).map V.int))) ⟨same_upd hF, upd_same⟩ ?_ ?_
      · rintro j H2 hj ⟨s2, eF⟩
        have hgl : (goneR p kk a j).length ≤ j := by
          unfold goneR
          rw [List.length_map]
          refine Nat.le_trans (List.length_filter_le _ _) ?_
          rw [List.length_range]
          exact Nat.le_refl _
        rw [Int.zero_add]
        walk_at "g"
        refine ⟨rfl, ?_⟩
        walk_at "g"
        refine ⟨(p : Int), (j : Int), kk, rfl, by omega, by omega, ?_⟩
        walk_at "g"
        refine s_i (by omega) ?_
        walk_at "g"
        refine s_ite (fun c => ?_) (fun c => ?_)
        · walk_at "g"
          refine ⟨_, eF, line2 (by rw [List.length_map]; omega), same_upd' s2 hF, ?_⟩
          rw [upd_same]
          unfold goneR
          rw [List.range_succ, List.filter_append, List.filter_cons_of_pos (by exact decide_eq_true c), List.filter_nil, List.map_append, List.map_append]; rfl
        · refine ⟨s2, ?_⟩
          rw [eF]
          unfold goneR
          rw [List.range_succ, List.filter_append, List.filter_cons_of_neg (by rw [decide_eq_false c]; exact Bool.false_ne_true), List.filter_nil, List.append_nil]
      · rintro H2 ⟨s2, eF⟩
        have eO2 := s2 _ _ eO
        have hFO : F ≠ O := fun z => by rw [z, eO] at hF; cases hF
        refine ⟨_, eO2, line2 (by omega), same_upd' (s1.trans s2) hO, _, ls ++ [goneR p kk a p], upd_same, ?_, by rw [take_more hx]; exact paired_snoc hls gone_kr⟩
        exact paired_snoc (paired_mono (fun _ _ ⟨b, e, hb, h⟩ => ⟨b, e, hb, by rw [upd_ne hb]; exact s2 _ _ h⟩) hos) ⟨F, rfl, hFO, by rw [upd_ne hFO]; exact eF⟩
    · rintro H1 ⟨s1, os, ls, eO, hos, hls⟩
      rw [nv_len, List.take_length] at hls
      exact k O os ls H1 s1 eO (paired_mono (fun _ _ ⟨b, e, _, h⟩ => ⟨b, e, h⟩) hos) hls
/-- what is told, at F -/
def ToldR (H0 H : Hp) (k : Nat) (a : Int) (ps : List (Addr × Nat)) (F : Addr) : Prop :=
  (∃ (i p : Nat) (t T L0 S : Addr), ps[i]? = some (t, p) ∧ NoR p k a ∧ (∀ (j p' : Nat) (t' : Addr), j < i → ps[j]? = some (t', p') → ¬ NoR p' k a) ∧ H0 L0 = none ∧ H F = some (.lst [.ref T, .non]) ∧ H T = some (.tup [.ref L0, .ref S]) ∧ H L0 = some (.lst []) ∧ H S = some (.tup [.str "none", .int (i : Nat), .int ((p - 1) / Nat.gcd k (p - 1) : Nat), .int (M.pw p a ((p - 1) / Nat.gcd k (p - 1)))])) ∨
  ∃ cs : List Nat, Paired (fun x c => RCnt x.2 k a c ∧ 0 < c) ps cs ∧ ((400 < M.prodN cs ∧ H F = some (.lst [.non, .int (M.prodN cs : Nat)])) ∨
    (M.prodN cs ≤ 400 ∧ ∃ (xs : List Int) (rr : List RRec) (T L0 S R : Addr), M.Mixed (ps.map (·.2)) (rr.map (·.2.2.2)) xs ∧ xs.Pairwise (· < ·) ∧ xs.length = M.prodN cs ∧ H0 L0 = none ∧ H F = some (.lst [.ref T, .non]) ∧ H T = some (.tup [.ref L0, .ref S]) ∧ H L0 = some (.lst (xs.map V.int)) ∧ H S = some (.tup [.str "by", .ref R]) ∧ H R = some (.tup (rr.map fun r => V.ref r.2.2.1)) ∧ RowsR H k a ps rr))
/-- _law_told(papers, k, a): a new list -/
def sp__law_told (K : PySem.W.Frag) : Sp := fun vs H Q _ => ∃ (n : Nat) (D : Addr) (ps : List (Addr × Nat)) (k : Nat) (a : Int), vs = [.ref D, .int (k : Nat), .int a] ∧ PapsAt n H D ps ∧ (ps.map (·.2)).Nodup ∧ (∀ x ∈ ps, x.2 ≤ 1000000000) ∧ ps.length ≤ 5 ∧ 0 < k ∧ k < 2 ^ 400 ∧ ∀ F H', Same H H' → ToldR H H' k a ps F → Q (.ref F) H'
theorem cs_ex {k : Nat} {a : Int} (hk : 0 < k) : ∀ {ps : List (Addr × Nat)}, (∀ x ∈ ps, M.Prime x.2 ∧ ¬ NoR x.2 k a) → ∃ cs : List Nat, Paired (fun (x : Addr × Nat) c => RCnt x.2 k a c ∧ 0 < c) ps cs
  | [], _ => ⟨[], .nil⟩
  | x :: ps, h => by
    obtain ⟨cs, h1⟩ := cs_ex hk (ps := ps) fun y hy => h y (by simp [hy])
    obtain ⟨hp, hn⟩ := h x (by simp)
    by_cases hu : M.un x.2 a
    · by_cases h2 : M.is1 x.2 a ((x.2 - 1) / Nat.gcd k (x.2 - 1))
      · exact ⟨Nat.gcd k (x.2 - 1) :: cs, .cons ⟨⟨fun z => absurd hu z, fun _ _ => rfl, fun _ z => absurd h2 z⟩, Nat.gcd_pos_of_pos_left _ hk⟩ h1⟩
      · exact absurd ⟨hu, h2⟩ hn
    · exact ⟨1 :: cs, .cons ⟨⟨fun _ => rfl, fun z => absurd z hu, fun z => absurd z hu⟩, Nat.one_pos⟩ h1⟩
theorem ok__law_told (T : Txt K mg) : FnOk P w K mg base CX0 13 (He.ga K "_law_told") (fd__law_told T) ["_law_papers", "_law_k", "_law_a"] (sp__law_told K) := by
  refine (F__law_told T).ok sc__law_told (fun vs H Q E h => ?_) (fun cdv A outer s H vs Q E hr h => ⟨_, PSs.nox (pss_cons (ps_set (i := 3) sc__law_told.nd rfl (Or.inl rfl) pe_non)
      (pss_cons (ps_set (i := 4) sc__law_told.nd rfl (Or.inl rfl) pe_non)
      (pss_cons (ps_try_as (i := 5) (Wout := fun _ _ _ _ => False) rfl rfl sc__law_told.nd rfl rfl ⟨rfl, by decide, .inl (g_TooMany T)⟩ takes0 (fun W pn xe tk po => (pss_one (ps_set (i := 3) sc__law_told.nd rfl (Or.inl rfl) (pe_callS (ok_roots_of T) (hr.mono (by decide)) rfl (g_roots_of T) (kp_roots_of T) (B_roots_of T) (fun σ => passAt tk σ) (pa_cons (pv 0) (pa_cons (pv 1) (pa_cons (pv 2) pa_nil))))))) (fun a oe cls d pn hz hf => (pss_one (ps_set (i := 4) sc__law_told.nd rfl (Or.inl rfl) (pe_xf (x_TooMany T).xf (x_TooMany T).noF hz hf (pv 5))))))
      (pss_one (ps_ret (pe_lst (pa_cons (pv 3) (pa_cons (pv 4) pa_nil)))))))), ?_⟩)
  · obtain ⟨n, D, ps, k, a, rfl, _⟩ := h; rfl
  · obtain ⟨n, D, ps, kk, a, rfl, hP, hnd, hpb, hpl, k0, kb, k⟩ := h
    walk_at "g"
    refine ⟨n, D, ps, kk, a, rfl, hP, hnd, hpb, hpl, k0, kb, fun i p t hx hn hb T L0 S H1 s1 nL eT eL eS => ?_, fun cs hcs => ⟨fun h4 d H1 hd s1 hx => ?_, fun h4 xs rr T L0 S R H1 hmx hxs hxl nL s1 eT eL eS eR hR => ?_⟩⟩
    · walk_at "g"
      refine mkL (by simp) fun F H2 nF eF s2 => ?_
      exact k F H2 (s1.trans s2) (.inl ⟨i, p, t, T, L0, S, hx, hn, hb, nL, eF, s2 _ _ eT, s2 _ _ eL, s2 _ _ eS⟩)
    · refine ⟨true, e_TooMany_TooMany T, fun _ a0 ha0 => ?_, fun z => Bool.noConfusion z⟩
      walk_at "g"
      refine s_xf rfl hx ?_
      walk_at "g"
      refine mkL (by simp) fun F H2 nF eF s2 => ?_
      exact k F H2 (s1.trans s2) (.inr ⟨cs, hcs, .inl ⟨h4, eF⟩⟩)
    · walk_at "g"
      refine mkL (by simp) fun F H2 nF eF s2 => ?_
      exact k F H2 (s1.trans s2) (.inr ⟨cs, hcs, .inr ⟨h4, xs, rr, T, L0, S, R, hmx, hxs, hxl, nL, eF, s2 _ _ eT, s2 _ _ eL, s2 _ _ eS, s2 _ _ eR, paired_mono (fun _ _ z => ⟨z.1, z.2.same s2⟩) hR⟩⟩)
/-- _law_whole(primes) -/
def sp__law_whole (K : PySem.W.Frag) : Sp := fun vs H Q _ => ∃ (C : Addr) (L : List Nat), vs = [.ref C] ∧ H C = some (.lst (nv L)) ∧ (∀ z ∈ L, 0 < z) ∧ M.prodN L < 2 ^ 60 ∧ Q (.int (M.prodN L : Nat)) H
theorem ok__law_whole (T : Txt K mg) : FnOk P w K mg base CX0 1 (He.ga K "_law_whole") (fd__law_whole T) ["_law_primes_here"] (sp__law_whole K) := by
  refine (F__law_whole T).ok sc__law_whole (fun vs H Q E h => ?_) (fun cdv A outer s H vs Q E hr h => ⟨_, PSs.nox (pss_cons (ps_set (i := 1) sc__law_whole.nd rfl (Or.inl rfl) pe_int)
      (pss_cons (ps_for PassesOwn.never rfl (pi_list (pv 0)) (pg_name (i := 2) sc__law_whole.nd rfl (Or.inl rfl)) (pss_one (ps_set (i := 1) sc__law_whole.nd rfl (Or.inl rfl) (pe_op op_mulW (pv 1) (pv 2)))))
      (pss_one (ps_ret (pv 1))))), ?_⟩)
  · obtain ⟨C, L, rfl, _⟩ := h; rfl
  · obtain ⟨C, L, rfl, hC, h0, hb, k⟩ := h
    walk_at "g"
    refine ⟨⟨_, SqL.of hC⟩, ?_⟩
    refine for_list (fun i σ H' => H' = H ∧ ∃ v : Option V, σ = [some (.ref C), some (.int (M.prodN (L.take i) : Nat)), v]) ⟨rfl, none, by rw [List.take_zero]; rfl⟩ (fun i σ H' _ I => by rw [I.1]; exact SqL.of hC) ?_ ?_
    · rintro i x σ H' hi ⟨rfl, v, rfl⟩
      obtain ⟨p, hx, rfl⟩ := nv_get hi
      have e1 : M.prodN (L.take (i + 1)) = M.prodN (L.take i) * p := by rw [take_more hx, M.prodN_snoc]
      have h1 := M.prodN_take h0 (i + 1)
      have h2 := M.prodN_take h0 i
      have hp0 := h0 p (List.mem_of_getElem? hx)
      have h3 : p ≤ M.prodN (L.take i) * p := Nat.le_mul_of_pos_left _ (M.prodN_pos fun z hz => h0 z (List.mem_of_mem_take hz))
      walk_at "g"
      try refine s_i (mulW (by omega) (by omega)) ?_
      walk_at "g"
      exact ⟨rfl, _, by rw [e1]; push_cast; rfl⟩
    · rintro σ H' ⟨rfl, v, rfl⟩
      rw [nv_len, List.take_length]
      walk_at "g"
      exact k
def AlkP (L : List Nat) (ls : List (List Int)) (x : Int) : Prop := ∀ (i p : Nat) (l : List Int), L[i]? = some p → ls[i]? = some l → x % (p : Int) ∈ l
/-- _law_is_alike(primes, lists, x) -/
def sp__law_is_alike (K : PySem.W.Frag) : Sp := fun vs H Q _ => ∃ (C O : Addr) (L : List Nat) (os : List V) (ls : List (List Int)) (x : Int), vs = [.ref C, .ref O, .int x] ∧ H C = some (.lst (nv L)) ∧ H O = some (.lst os) ∧ LsAt H os ls ∧ ls.length = L.length ∧ (∀ z ∈ L, 0 < z) ∧
  (AlkP L ls x → ∀ H', Same H H' → Q (.bl true) H') ∧ (¬ AlkP L ls x → ∀ H', Same H H' → Q (.bl false) H')
theorem ok__law_is_alike (T : Txt K mg) : FnOk P w K mg base CX0 1 (He.ga K "_law_is_alike") (fd__law_is_alike T) ["_law_primes_here", "_law_lists_here", "_law_x"] (sp__law_is_alike K) := by
  refine (F__law_is_alike T).ok sc__law_is_alike (fun vs H Q E h => ?_) (fun cdv A outer s H vs Q E hr h => ⟨_, PSs.nox (pss_cons (ps_for PassesOwn.never rfl (RZ.pi_zipA rfl (T.fr (T.c.fact 38 rfl)) (pa_cons (pv 0) (pa_cons (pv 1) pa_nil))) (pg_tup rfl (pgs_cons (pg_name (i := 3) sc__law_is_alike.nd rfl (Or.inl rfl)) (pgs_cons (pg_name (i := 4) sc__law_is_alike.nd rfl (Or.inl rfl)) pgs_nil))) (pss_one (ps_if (pt_cmpR op_notIn_seq (pe_op op_mod (pv 2) (pv 3)) (pv 4) rfl) (pss_one (ps_ret pe_bl)) pss_nil)))
      (pss_one (ps_ret pe_bl))), ?_⟩)
  · obtain ⟨C, O, L, os, ls, x, rfl, _⟩ := h; rfl
  · obtain ⟨C, O, L, os, ls, x, rfl, hC, eO, hos, hll, h0, k1, k2⟩ := h
    have hol : os.length = L.length := by rw [hos.length]; exact hll
    walk_at "g"
    refine ⟨C, O, _, _, rfl, .inl ⟨SqL.of hC, SqL.of eO, ?_⟩⟩
    refine for_it (walk_zip (xs := nv L) (ys := os) (n := L.length) (by rw [nv_len]; omega)) (fun i σ H' => Same H H' ∧ (∀ (j p : Nat) (l : List Int), j < i → L[j]? = some p → ls[j]? = some l → x % (p : Int) ∈ l) ∧ ∃ v3 v4 : Option V, σ = [some (.ref C), some (.ref O), some (.int x), v3, v4]) ⟨Same.refl _, fun j _ _ z => absurd z (by omega), _, _, rfl⟩ (fun i σ H' _ I => ⟨SqL.of (I.1 _ _ hC), SqL.of (I.1 _ _ eO)⟩) ?_ ?_
    · rintro i v σ H1 H2 hi ⟨s1, hall, v3, v4, rfl⟩ ⟨T, x1, y1, rfl, nT, rfl, hx0, hy⟩
      obtain ⟨p, hx, rfl⟩ := nv_get hx0
      have hy : os[i]? = some y1 := hy
      obtain ⟨l, hl, b, rfl, eb⟩ := pget hos hy
      have hp0 := h0 p (List.mem_of_getElem? hx)
      have s2 : Same H1 (upd H1 T (.tup [.int (p : Nat), .ref b])) := same_upd nT
      have eT : upd H1 T (.tup [.int (p : Nat), .ref b]) T = some (.tup [.int (p : Nat), .ref b]) := upd_same
      generalize upd H1 T (.tup [.int (p : Nat), .ref b]) = H2 at s2 eT ⊢
      have S2 := s1.trans s2
      refine s_gtup (SqT.of eT) rfl ?_
      walk_at "g"
      refine s_i (by omega) ?_
      walk_at "g"
      refine s_notInL (S2 _ _ eb) ?_
      walk_at "g"
      refine s_iten (fun c => ?_) (fun c => ?_)
      · walk_at "g"
        exact k2 (fun z => c (z i p l hx hl)) H2 S2
      · walk_at "g"
        refine ⟨S2, fun j p' l' hj h1 h2 => ?_, _, _, rfl⟩
        rcases Nat.lt_or_ge j i with z | z
        · exact hall j p' l' z h1 h2
        · obtain rfl : j = i := by omega
          rw [hx] at h1; rw [hl] at h2
          cases h1; cases h2
          exact c
    · rintro σ H1 ⟨s1, hall, v3, v4, rfl⟩
      walk_at "g"
      exact k1 (fun i p l h1 h2 => hall i p l (List.getElem?_eq_some_iff.mp h1).1 h1 h2) H1 s1
theorem eqv_ints : ∀ l m : List Int, PyData.eqvAll (l.map PyData.int) (m.map PyData.int) = decide (l = m)
  | [], [] => by simp [PyData.eqvAll]
  | [], _ :: _ => by simp [PyData.eqvAll]
  | _ :: _, [] => by simp [PyData.eqvAll]
  | a :: l, b :: m => by
    rw [List.map_cons, List.map_cons]
    simp only [PyData.eqvAll, PyData.eqv, eqv_ints l m]
    by_cases h1 : a = b <;> by_cases h2 : l = m <;> simp [h1, h2]
theorem eqv_lst (l m : List Int) : PyData.eqv (.list (l.map PyData.int)) (.list (m.map PyData.int)) = decide (l = m) := by
  rw [← eqv_ints]; simp [PyData.eqv]
theorem sh_lst (l : List Int) : SeqAt.shaped (.list (l.map PyData.int)) = true := shapedL fun d hd => by
  obtain ⟨q, _, rfl⟩ := List.mem_map.mp hd
  exact ⟨rfl, Nat.zero_le _⟩
theorem nought_sh : SeqAt.shaped (.tuple [.str "nought"]) = true := shapedT fun d hd => by
  simp only [List.mem_cons, List.not_mem_nil, or_false] at hd
  rcases hd with rfl
  exact ⟨by first | (simp [PyData.canLay0]; done) | (simp [PyData.canLay0]; decide +kernel), by simp [PyData.depth]⟩
/-- _law_is_row(p, alike, row) -/
def sp__law_is_row : Sp := fun vs H Q _ => ∃ (p k : Nat) (b t : Addr) (a : Int) (l : List Int), vs = [.int (p : Nat), .ref b, .ref t] ∧ M.Prime p ∧ p < 2 ^ 60 ∧ 0 < k ∧ H b = some (.lst (l.map V.int)) ∧ l.length ≤ 900 ∧ M.IsKR p k a l ∧ ¬ NoR p k a ∧ RtAt H t p k a l ∧ ∀ H', Same H H' → Q (.bl true) H'
theorem ok__law_is_row (T : Txt K mg) : FnOk P w K mg base CX0 2 (He.ga K "_law_is_row") (fd__law_is_row T) ["_law_p", "_law_alike", "_law_row"] sp__law_is_row := by
  refine (F__law_is_row T).ok sc__law_is_row (fun vs H Q E h => ?_) (fun cdv A outer s H vs Q E hr h => ⟨_, PSs.nox (pss_cons (ps_if (pt_cmpR (op_eqD hr.units) (pv 1) (pe_lst (pa_cons pe_int pa_nil)) (nomark _)) (pss_one (ps_ret (pe_cmpR (op_eqD hr.units) (pv 2) (pe_tup (pa_cons pe_str pa_nil)) (nomark _)))) pss_nil)
      (pss_cons (ps_if (PW.pt (pw_or (pt_not (pt_val (pe_callB call_isi rfl (T.fr (T.c.fact 42 rfl)) boot_isinstance (pa_cons (pv 2) (pa_cons (pe_bltn (v := .ty "tuple") rfl (T.fr (T.c.fact 40 rfl)) boot_tuple rfl) pa_nil))))) (pw_or (pt_cmpR op_ne (pe_callB callLen rfl (T.fr (T.c.fact 41 rfl)) boot_len (pa_cons (pv 2) pa_nil)) pe_int (nomark _)) (pw_or (pt_cmpR op_ne (pe_ix ix_seq (pv 2) pe_int (fun _ _ => rfl)) pe_str (nomark _)) (pw_or1 (pt_cmpR op_ne (pe_ix ix_seq (pv 2) pe_int (fun _ _ => rfl)) (pe_ix ix_seq (pv 1) pe_int (fun _ _ => rfl)) (nomark _))))))) (pss_one (ps_ret pe_bl)) pss_nil)
      (pss_cons (ps_if (PW.pt (pw_or (pt_not (pt_val (pe_callB call_isi rfl (T.fr (T.c.fact 42 rfl)) boot_isinstance (pa_cons (pe_ix ix_seq (pv 2) pe_int (fun _ _ => rfl)) (pa_cons (pe_bltn (v := .ty "int") rfl (T.fr (T.c.fact 44 rfl)) boot_int rfl) pa_nil))))) (pw_or (pt_not (pt_val (pe_callB call_isi rfl (T.fr (T.c.fact 42 rfl)) boot_isinstance (pa_cons (pe_ix ix_seq (pv 2) pe_int (fun _ _ => rfl)) (pa_cons (pe_bltn (v := .ty "int") rfl (T.fr (T.c.fact 44 rfl)) boot_int rfl) pa_nil))))) (pw_or1 (pt_val (pe_callB call_isi rfl (T.fr (T.c.fact 42 rfl)) boot_isinstance (pa_cons (pe_ix ix_seq (pv 2) pe_int (fun _ _ => rfl)) (pa_cons (pe_bltn (v := .ty "bool") rfl (T.fr (T.c.fact 43 rfl)) boot_bool rfl) pa_nil)))))))) (pss_one (ps_ret pe_bl)) pss_nil)
      (pss_one (ps_ret (pe_and (pe_cmpR op_lt pe_int (pe_ix ix_seq (pv 2) pe_int (fun _ _ => rfl)) (nomark _)) (pe_and (pe_cmpR op_lt (pe_ix ix_seq (pv 2) pe_int (fun _ _ => rfl)) (pv 0) (nomark _)) (pe_one (pe_cmpR op_eq (pe_call (ok__law_steps T) (hr.mono (by decide)) rfl (g__law_steps T) (kp__law_steps T) (B__law_steps T) .nil pass0 (pa_cons (pv 0) (pa_cons (pe_ix ix_seq (pv 2) pe_int (fun _ _ => rfl)) pa_nil))) (pe_callB callLen rfl (T.fr (T.c.fact 41 rfl)) boot_len (pa_cons (pv 1) pa_nil)) (nomark _)))))))))), ?_⟩)
  · obtain ⟨p, k, b, t, a, l, rfl, _⟩ := h; rfl
  · obtain ⟨p, kk, b, t, a, l, rfl, hp, hpb, k0, eb, hll, hK, hn, hR, k⟩ := h
    have hp2 := hp.1
    walk_at "g"
    refine mkL (by simp) fun W H1 nW eW s1 => ?_
    refine s_eqD (.list (l.map PyData.int)) (.list ([0].map PyData.int)) (dp_ints (s1 _ _ eb)) (dp_ints (l := [0]) eW) (sh_lst _) (sh_lst _) ?_
    rw [eqv_lst]
    by_cases hu : M.un p a
    · have hne : l ≠ [0] := fun z => by
        have h1 := (hK.iff 0).mp (by rw [z]; simp)
        have h2 := h1.2.2
        rw [Int.zero_pow (by omega)] at h2
        apply hu
        have h3 := M.al_symm h2
        unfold M.al at h3
        rwa [Int.sub_zero] at h3
      have h1 : M.is1 p a ((p - 1) / Nat.gcd kk (p - 1)) := Classical.byContradiction fun z => hn ⟨hu, z⟩
      obtain ⟨turn, t0, t1, ot, hl, et⟩ := hR.1 hu h1
      have g0 := Nat.gcd_pos_of_pos_left (p - 1) k0
      obtain ⟨z, l', rfl⟩ : ∃ z l', l = z :: l' := by
        cases l with
        | nil => simp at hl; omega
        | cons z l' => exact ⟨z, l', rfl⟩
      have et1 := s1 _ _ et
      have eb1 := s1 _ _ eb
      walk_at "g"
      refine s_itN hne ?_
      walk_at "g"
      refine s_isi (.tup et1) kb_tt ?_
      walk_at "g"
      refine s_lenT (SqT.of et1) ?_
      walk_at "g"
      try refine s_itnP rfl ?_
      walk_at "g"
      refine s_ixT (SqT.of et1) (atI0 0 rfl rfl) ?_
      walk_at "g"
      refine s_ixT (SqT.of et1) (atI0 1 rfl rfl) ?_
      walk_at "g"
      refine s_ixL (SqL.of eb1) (atI0 0 rfl rfl) ?_
      walk_at "g"
      try refine s_itnP rfl ?_
      walk_at "g"
      refine s_ixT (SqT.of et1) (atI0 1 rfl rfl) ?_
      walk_at "g"
      refine s_ixT (SqT.of et1) (atI0 2 rfl rfl) ?_
      walk_at "g"
      refine s_ixT (SqT.of et1) (atI0 2 rfl rfl) ?_
      walk_at "g"
      refine s_ixT (SqT.of et1) (atI0 2 rfl rfl) ?_
      walk_at "g"
      refine s_itP t0 ?_
      walk_at "g"
      refine s_ixT (SqT.of et1) (atI0 2 rfl rfl) ?_
      walk_at "g"
      refine s_itP t1 ?_
      walk_at "g"
      refine s_ixT (SqT.of et1) (atI0 2 rfl rfl) ?_
      walk_at "g"
      refine ⟨p, turn, Nat.gcd kk (p - 1), rfl, ot, hp, by omega, by omega, ?_⟩
      walk_at "g"
      refine s_lenL (SqL.of eb1) ?_
      walk_at "g"
      refine s_blT (by rw [List.length_map, hl]) ?_
      exact k H1 s1
    · have hl : l = [0] := hK.unique (M.kr_nought hp k0 (Classical.byContradiction fun z => hu z))
      walk_at "g"
      refine s_itP hl ?_
      walk_at "g"
      refine mkT (by simp) fun W2 H2 nW2 eW2 s2 => ?_
      refine s_eqD (.tuple [.str "nought"]) (.tuple [.str "nought"]) (.tup (SqT.of ((s1.trans s2) _ _ (hR.2.2 hu))) (.cons (.str _) .nil)) (.tup (SqT.of eW2) (.cons (.str _) .nil)) nought_sh nought_sh ?_
      rw [eqv_shaped nought_sh]
      exact k H2 (s1.trans s2)
theorem any_nil (ls : List (List Int)) : ((ls.map fun l => PyData.list (l.map PyData.int)).any fun z => PyData.eqv z (.list [])) = decide ([] ∈ ls) := by
  have e : ∀ l : List Int, PyData.eqv (.list (l.map PyData.int)) (.list []) = decide (l = []) := fun l => eqv_lst l []
  induction ls with
  | nil => simp
  | cons l ls ih =>
    rw [List.map_cons, List.any_cons, ih, e]
    by_cases h : l = [] <;> by_cases h2 : [] ∈ ls <;> simp [h, h2]
theorem ls_dp {K : PySem.W.Frag} {H : Hp} : ∀ {os : List V} {ls : List (List Int)}, LsAt H os ls → DpAll K H os (ls.map fun l => PyData.list (l.map PyData.int))
  | _, _, .nil => .nil
  | _, _, .cons ⟨b, e, h⟩ r => by rw [e]; exact .cons (dp_ints h) (ls_dp r)
theorem ls_sh (ls : List (List Int)) : SeqAt.shaped (.list (ls.map fun l => PyData.list (l.map PyData.int))) = true := shapedL fun d hd => by
  obtain ⟨l, _, rfl⟩ := List.mem_map.mp hd
  refine ⟨?_, ?_⟩
  · simp only [PyData.canLay0]
    exact layAll fun d hd => by
      obtain ⟨z, _, rfl⟩ := List.mem_map.mp hd
      rfl
  · simp only [PyData.depth]
    have := depAll (n := 0) (ds := l.map PyData.int) fun d hd => by
      obtain ⟨z, _, rfl⟩ := List.mem_map.mp hd
      exact Nat.le_refl _
    omega
/-- rows that show roots, in order -/
def ShowsR (H : Hp) (k : Nat) (a : Int) (L : List Nat) (ls : List (List Int)) (S : Addr) : Prop :=
  (∃ (i p : Nat), L[i]? = some p ∧ NoR p k a ∧ (∀ (j q : Nat), j < i → L[j]? = some q → ¬ NoR q k a) ∧ H S = some (.tup [.str "none", .int (i : Nat), .int ((p - 1) / Nat.gcd k (p - 1) : Nat), .int (M.pw p a ((p - 1) / Nat.gcd k (p - 1)))])) ∨
  ((∀ p ∈ L, ¬ NoR p k a) ∧ ∃ (R : Addr) (ts : List V), H S = some (.tup [.str "by", .ref R]) ∧ H R = some (.tup ts) ∧ ts.length = L.length ∧ ∀ (i p : Nat) (l : List Int), L[i]? = some p → ls[i]? = some l → ∃ s, ts[i]? = some (.ref s) ∧ RtAt H s p k a l)
/-- _law_shown(primes, k, a, lists, shown) -/
def sp__law_shown (K : PySem.W.Frag) : Sp := fun vs H Q _ => ∃ (C O S : Addr) (L : List Nat) (os : List V) (ls : List (List Int)) (k : Nat) (a : Int), vs = [.ref C, .int (k : Nat), .int a, .ref O, .ref S] ∧ H C = some (.lst (nv L)) ∧ L.length ≤ 3 ∧ (∀ z ∈ L, M.Prime z ∧ z ≤ 67) ∧ H O = some (.lst os) ∧ LsAt H os ls ∧ Paired (fun (p : Nat) l => M.IsKR p k a l) L ls ∧ 0 < k ∧ k < 2 ^ 400 ∧ (∀ l ∈ ls, l.length ≤ 67) ∧ ShowsR H k a L ls S ∧ ∀ H', Same H H' → Q (.bl true) H'
theorem ok__law_shown (T : Txt K mg) : FnOk P w K mg base CX0 3 (He.ga K "_law_shown") (fd__law_shown T) ["_law_primes_here", "_law_k", "_law_a", "_law_lists_here", "_law_shown_here"] (sp__law_shown K) := by
  refine (F__law_shown T).ok sc__law_shown (fun vs H Q E h => ?_) (fun cdv A outer s H vs Q E hr h => ⟨_, PSs.nox (pss_cons (ps_if (pt_not (pt_val (pe_callB call_isi rfl (T.fr (T.c.fact 42 rfl)) boot_isinstance (pa_cons (pv 4) (pa_cons (pe_bltn (v := .ty "tuple") rfl (T.fr (T.c.fact 40 rfl)) boot_tuple rfl) pa_nil))))) (pss_one (ps_ret pe_bl)) pss_nil)
      (pss_cons (ps_if (pt_cmpR (R.op_inQ (R.units65 hr)) (pe_lst pa_nil) (pv 3) rfl) (pss_cons (ps_set (i := 5) sc__law_shown.nd rfl (Or.inl rfl) (pe_bm PySem.F.plainAttrs_list PySem.F.slot_list_index PySem.F.type_list_index (R.mt_indexD (R.units65 hr)) (pv 3) (pa_cons (pe_lst pa_nil) pa_nil)))
      (pss_cons (ps_set (i := 6) sc__law_shown.nd rfl (Or.inl rfl) (pe_op op_fdivW (pe_op op_sub (pe_ix ix_seq (pv 0) (pv 5) (fun _ _ => rfl)) pe_int) (pe_call (ok__law_common T) (hr.mono (by decide)) rfl (g__law_common T) (kp__law_common T) (B__law_common T) .nil pass0 (pa_cons (pv 1) (pa_cons (pe_op op_sub (pe_ix ix_seq (pv 0) (pv 5) (fun _ _ => rfl)) pe_int) pa_nil)))))
      (pss_one (ps_ret (pe_cmpR (op_eqD hr.units) (pv 4) (pe_tup (pa_cons pe_str (pa_cons (pv 5) (pa_cons (pv 6) (pa_cons (pe_call (ok__law_power T) (hr.mono (by decide)) rfl (g__law_power T) (kp__law_power T) (B__law_power T) .nil pass0 (pa_cons (pe_ix ix_seq (pv 0) (pv 5) (fun _ _ => rfl)) (pa_cons (pv 2) (pa_cons (pv 6) pa_nil)))) pa_nil))))) (nomark _)))))) pss_nil)
      (pss_cons (ps_if (PW.pt (pw_or (pt_cmpR op_ne (pe_callB callLen rfl (T.fr (T.c.fact 41 rfl)) boot_len (pa_cons (pv 4) pa_nil)) pe_int (nomark _)) (pw_or (pt_cmpR op_ne (pe_ix ix_seq (pv 4) pe_int (fun _ _ => rfl)) pe_str (nomark _)) (pw_or (pt_not (pt_val (pe_callB call_isi rfl (T.fr (T.c.fact 42 rfl)) boot_isinstance (pa_cons (pe_ix ix_seq (pv 4) pe_int (fun _ _ => rfl)) (pa_cons (pe_bltn (v := .ty "tuple") rfl (T.fr (T.c.fact 40 rfl)) boot_tuple rfl) pa_nil))))) (pw_or1 (pt_cmpR op_ne (pe_callB callLen rfl (T.fr (T.c.fact 41 rfl)) boot_len (pa_cons (pe_ix ix_seq (pv 4) pe_int (fun _ _ => rfl)) pa_nil)) (pe_callB callLen rfl (T.fr (T.c.fact 41 rfl)) boot_len (pa_cons (pv 0) pa_nil)) (nomark _))))))) (pss_one (ps_ret pe_bl)) pss_nil)
      (pss_one (ps_ret (pe_cmpR op_eq (pe_callB callLen rfl (T.fr (T.c.fact 41 rfl)) boot_len (pa_cons (pe_lc (own := [("_law_n", 5)]) rfl sc__law_shown.nd (pi_range1 rfl (T.fr (T.c.fact 36 rfl)) (pa_cons (pe_callB callLen rfl (T.fr (T.c.fact 41 rfl)) boot_len (pa_cons (pv 0) pa_nil)) pa_nil)) (blkOk_by (N := N__law_shown) (sc := defScope s__law_shown) (by decide +kernel)) (fun _ _ _ _ _ => (pg_name (i := 5) sc__law_shown.nd rfl (Or.inl rfl))) (fun _ _ _ _ _ => (pts_one (pt_not (pt_val (pe_call (ok__law_is_row T) (hr.mono (by decide)) rfl (g__law_is_row T) (kp__law_is_row T) (B__law_is_row T) .nil pass0 (pa_cons (pe_ix (R.ix_seqK K rfl) (pv 0) (pv 5) (fun _ _ => rfl)) (pa_cons (pe_ix (R.ix_seqK K rfl) (pv 3) (pv 5) (fun _ _ => rfl)) (pa_cons (pe_ix (R.ix_seqK K rfl) (pe_ix (R.ix_seqK K rfl) (pv 4) pe_int (fun _ _ => rfl)) (pv 5) (fun _ _ => rfl)) pa_nil)))))))) (fun _ _ _ _ _ => (pv 5))) pa_nil)) pe_int (nomark _))))))), ?_⟩)
  · obtain ⟨C, O, S, L, os, ls, k, a, rfl, _⟩ := h; rfl
  · obtain ⟨C, O, S, L, os, ls, kk, a, rfl, hC, hl, hL, eO, hos, hls, k0, kb, hlb, hS, k⟩ := h
    have hol : os.length = L.length := by rw [hos.length, ← hls.length]
    obtain ⟨x0, rest, eS⟩ : ∃ x0 rest, H S = some (.tup (x0 :: rest)) := by
      rcases hS with ⟨i, p, _, _, _, h⟩ | ⟨_, R, ts, h, _⟩
      · exact ⟨_, _, h⟩
      · exact ⟨_, _, h⟩
    walk_at "g"
    refine s_isi (.tup eS) kb_tt ?_
    walk_at "g"
    refine mkL (by simp) fun W H1 nW eW s1 => ?_
    walk_at "g"
    refine ⟨O, os, .list [], _, rfl, SqL.of (s1 _ _ eO), ls_dp (hos.same s1), .lst (SqL.of eW) .nil, by rfl, ls_sh ls, ?_⟩
    rw [any_nil]
    rcases hS with ⟨i, p, hx, hn, hb, eS⟩ | ⟨hn, R, ts, eS, eR, htl, hts⟩
    · obtain ⟨hp, hp9⟩ := hL _ (List.mem_of_getElem? hx)
      have hp2 := hp.1
      have ee : (p : Int) - 1 = ((p - 1 : Nat) : Int) := by omega
      obtain ⟨l, hl', hK⟩ := pget hls hx
      have hl0 := (notR_len hp k0 hK).1 hn
      subst hl0
      have hxn : (nv L)[i]? = some (.int (p : Nat)) := by unfold nv; rw [List.getElem?_map, List.getElem?_map, hx]; rfl
      have g0 : 0 < Nat.gcd kk (p - 1) := Nat.gcd_pos_of_pos_left _ k0
      have gb : Nat.gcd kk (p - 1) ≤ p - 1 := Nat.le_of_dvd (by omega) (Nat.gcd_dvd_right _ _)
      have eb : (p - 1) / Nat.gcd kk (p - 1) ≤ p - 1 := Nat.div_le_self _ _
      have eie : (((p - 1 : Nat) : Int) / ((Nat.gcd kk (p - 1) : Nat) : Int)) = (((p - 1) / Nat.gcd kk (p - 1) : Nat) : Int) := (Int.natCast_ediv _ _).symm
      walk_at "g"
      refine s_itP (List.mem_of_getElem? hl') ?_
      walk_at "g"
      refine ⟨s_tyL (s1 _ _ eO), ?_⟩
      walk_at "g"
      refine mkL (by simp) fun W2 H2 nW2 eW2 s2 => ?_
      have S2 := s1.trans s2
      walk_at "g"
      refine ⟨O, os, .ref W2, .list [], _, i, .list ([].map PyData.int), rfl, rfl, S2 _ _ eO, ls_dp (hos.same S2), .lst (SqL.of eW2) .nil, ls_sh ls, by rfl, by rw [List.getElem?_map, hl']; rfl, by rfl, fun m z' hm hz => ?_, ?_⟩
      · rw [List.getElem?_map] at hz
        obtain ⟨l, hlm, rfl⟩ := Option.map_eq_some_iff.mp hz
        obtain ⟨q, hq, hKq⟩ := pget' hls hlm
        have := (notR_len (hL q (List.mem_of_getElem? hq)).1 k0 hKq).2 (hb m q hm hq)
        refine (eqv_lst l []).trans (decide_eq_false fun z => ?_)
        rw [z] at this
        simp at this
      walk_at "g"
      refine s_ixL (SqL.of (S2 _ _ hC)) (atI0 i rfl hxn) ?_
      walk_at "g"
      refine s_ixL (SqL.of (S2 _ _ hC)) (atI0 i rfl hxn) ?_
      walk_at "g"
      refine ⟨kk, p - 1, by rw [ee]; rfl, ?_⟩
      walk_at "g"
      refine s_i (divW (by omega) (by omega)) ?_
      rw [ee, eie]
      generalize (p - 1) / Nat.gcd kk (p - 1) = e at eS eb
      walk_at "g"
      refine s_ixL (SqL.of (S2 _ _ hC)) (atI0 i rfl hxn) ?_
      walk_at "g"
      refine ⟨(p : Int), a, e, rfl, by omega, by omega, ?_⟩
      walk_at "g"
      refine mkT (by simp) fun W3 H3 nW3 eW3 s3 => ?_
      refine s_eqD (.tuple [.str "none", .int i, .int e, .int (M.pw p a e)]) (.tuple [.str "none", .int i, .int e, .int (M.pw p a e)]) (.tup (SqT.of ((S2.trans s3) _ _ eS)) (.cons (.str _) (.cons (.int _) (.cons (.int _) (.cons (.int _) .nil))))) (.tup (SqT.of eW3) (.cons (.str _) (.cons (.int _) (.cons (.int _) (.cons (.int _) .nil))))) ?_ ?_ ?_
      · refine shapedT fun d hd => ?_
        simp only [List.mem_cons, List.not_mem_nil, or_false] at hd
        rcases hd with rfl | rfl | rfl | rfl <;> exact ⟨by first | (simp [PyData.canLay0]; done) | (simp [PyData.canLay0]; decide +kernel), by simp [PyData.depth]⟩
      · refine shapedT fun d hd => ?_
        simp only [List.mem_cons, List.not_mem_nil, or_false] at hd
        rcases hd with rfl | rfl | rfl | rfl <;> exact ⟨by first | (simp [PyData.canLay0]; done) | (simp [PyData.canLay0]; decide +kernel), by simp [PyData.depth]⟩
      rw [eqv_shaped (by
        refine shapedT fun d hd => ?_
        simp only [List.mem_cons, List.not_mem_nil, or_false] at hd
        rcases hd with rfl | rfl | rfl | rfl <;> exact ⟨by first | (simp [PyData.canLay0]; done) | (simp [PyData.canLay0]; decide +kernel), by simp [PyData.depth]⟩)]
      exact k H3 (S2.trans s3)
    · have hne : [] ∉ ls := fun z => by
        obtain ⟨q, hq, hK⟩ := paired_mem hls z
        have := (notR_len (hL q hq).1 k0 hK).2 (hn q hq)
        simp at this
      have eS1 := s1 _ _ eS
      have eR1 := s1 _ _ eR
      have hC1 := s1 _ _ hC
      walk_at "g"
      refine s_itN hne ?_
      walk_at "g"
      refine s_lenT (SqT.of eS1) ?_
      walk_at "g"
      try refine s_itnP rfl ?_
      walk_at "g"
      refine s_ixT (SqT.of eS1) (atI0 0 rfl rfl) ?_
      walk_at "g"
      refine s_ixT (SqT.of eS1) (atI0 1 rfl rfl) ?_
      walk_at "g"
      refine s_isi (.tup eR1) kb_tt ?_
      walk_at "g"
      refine s_ixT (SqT.of eS1) (atI0 1 rfl rfl) ?_
      walk_at "g"
      refine s_lenT (SqT.of eR1) ?_
      walk_at "g"
      refine s_lenL (SqL.of hC1) ?_
      rw [nv_len, htl]
      walk_at "g"
      try refine s_itnP rfl ?_
      walk_at "g"
      refine s_lc ?_
      walk_at "g"
      refine s_lenL (SqL.of hC1) ?_
      rw [nv_len]
      walk_at "g"
      refine mkR1 L.length (by omega) (by omega) (by omega) ?_
      intro F hF
      refine lc_range (n := L.length) (fun i H' => Same H1 H' ∧ H' F = some (.lst [])) ⟨same_upd hF, upd_same⟩ ?_ ?_
      · rintro i H2 hi ⟨s2, eF⟩
        obtain ⟨p, hx⟩ : ∃ p, L[i]? = some p := ⟨_, List.getElem?_eq_getElem hi⟩
        obtain ⟨hp, hp9⟩ := hL _ (List.mem_of_getElem? hx)
        obtain ⟨l, hl', hK⟩ := pget hls hx
        have hxn : (nv L)[i]? = some (.int (p : Nat)) := by unfold nv; rw [List.getElem?_map, List.getElem?_map, hx]; rfl
        obtain ⟨ob, hob⟩ : ∃ ob, os[i]? = some ob := ⟨_, List.getElem?_eq_getElem (by omega)⟩
        obtain ⟨l', hl'', b, rfl, eb⟩ := pget hos hob
        rw [hl'] at hl''
        cases hl''
        obtain ⟨s, hs, hR⟩ := hts i p l hx hl'
        have S2 := s1.trans s2
        rw [Int.zero_add]
        walk_at "g"
        refine ⟨rfl, ?_⟩
        walk_at "g"
        refine s_ixL (SqL.of (S2 _ _ hC)) (atI0 i rfl hxn) ?_
        walk_at "g"
        refine s_ixL (SqL.of (S2 _ _ eO)) (atI0 i rfl hob) ?_
        walk_at "g"
        refine s_ixT (SqT.of (S2 _ _ eS)) (atI0 1 rfl rfl) ?_
        walk_at "g"
        refine s_ixT (SqT.of (S2 _ _ eR)) (atI0 i rfl hs) ?_
        walk_at "g"
        refine ⟨p, kk, b, s, a, l, rfl, hp, by omega, k0, S2 _ _ eb, by have := hlb l (List.mem_of_getElem? hl'); omega, hK, hn p (List.mem_of_getElem? hx), hR.same S2, fun H3 s3 => ?_⟩
        walk_at "g"
        exact ⟨s2.trans s3, s3 _ _ eF⟩
      · rintro H2 ⟨s2, eF⟩
        walk_at "g"
        refine s_lenL (SqL.of eF) ?_
        walk_at "g"
        exact k H2 (s1.trans s2)
noncomputable instance (L : List Nat) (ls : List (List Int)) (x : Int) : Decidable (AlkP L ls x) := Classical.propDecidable _
/-- numbers gone through -/
noncomputable def goneA (L : List Nat) (ls : List (List Int)) (m : Nat) : List Int := ((List.range m).filter fun x : Nat => decide (AlkP L ls (x : Int))).map fun x : Nat => (x : Int)
theorem gone_sorted (L : List Nat) (ls : List (List Int)) (m : Nat) : (goneA L ls m).Pairwise (· < ·) := by
  unfold goneA
  rw [List.pairwise_map]
  exact (List.pairwise_lt_range.filter _).imp fun {a b} h => by omega
theorem gone_mem (L : List Nat) (ls : List (List Int)) (m : Nat) (y : Int) : y ∈ goneA L ls m ↔ 0 ≤ y ∧ y < (m : Nat) ∧ AlkP L ls y := by
  unfold goneA
  rw [List.mem_map]
  constructor
  · rintro ⟨x, hx, rfl⟩
    obtain ⟨h1, h2⟩ := List.mem_filter.mp hx
    have h1 := List.mem_range.mp h1
    exact ⟨by omega, by omega, of_decide_eq_true h2⟩
  · rintro ⟨y0, y1, h⟩
    obtain ⟨x, rfl⟩ := Int.eq_ofNat_of_zero_le y0
    exact ⟨x, List.mem_filter.mpr ⟨List.mem_range.mpr (by omega), decide_eq_true h⟩, rfl⟩
theorem gone_len (L : List Nat) (ls : List (List Int)) (m : Nat) : (goneA L ls m).length ≤ m := by
  unfold goneA
  rw [List.length_map]
  refine Nat.le_trans (List.length_filter_le _ _) ?_
  rw [List.length_range]
  exact Nat.le_refl _
theorem rr_eq {H : Hp} {k : Nat} {a : Int} : ∀ {ps : List (Addr × Nat)} {rr : List RRec} {ls : List (List Int)}, RowsR H k a ps rr → Paired (fun (p : Nat) l => M.IsKR p k a l) (ps.map (·.2)) ls → rr.map (·.2.2.2) = ls
  | [], _, _, .nil, .nil => rfl
  | x :: ps, _, _, .cons f r, .cons g s => by rw [List.map_cons, rr_eq r s, f.1.unique g]
theorem kr_map {k : Nat} {a : Int} : ∀ {ps : List (Addr × Nat)} {ls : List (List Int)}, Paired (fun (p : Nat) l => M.IsKR p k a l) (ps.map (·.2)) ls → Paired (fun (x : Addr × Nat) l => M.IsKR x.2 k a l) ps ls
  | [], _, .nil => .nil
  | _ :: _, _, .cons g s => .cons g (kr_map s)
/-- _law_right(primes, k, a, lists, told) -/
def sp__law_right (K : PySem.W.Frag) : Sp := fun vs H Q _ => ∃ (C O F : Addr) (H0 : Hp) (ps : List (Addr × Nat)) (L : List Nat) (os : List V) (ls : List (List Int)) (k : Nat) (a : Int), vs = [.ref C, .int (k : Nat), .int a, .ref O, .ref F] ∧ ps.map (·.2) = L ∧ H C = some (.lst (nv L)) ∧ L.length ≤ 3 ∧ (∀ z ∈ L, M.Prime z ∧ z ≤ 67) ∧ M.prodN L < 1000 ∧ H O = some (.lst os) ∧ LsAt H os ls ∧ Paired (fun (p : Nat) l => M.IsKR p k a l) L ls ∧ 0 < k ∧ k < 2 ^ 400 ∧ ToldR H0 H k a ps F ∧ ∀ H', Same H H' → Q (.bl true) H'
theorem right_end {k : Nat} {a : Int} {H0 H : Hp} {ps : List (Addr × Nat)} {L : List Nat} {ls : List (List Int)} {F : Addr} (hps : ps.map (·.2) = L) (hL : ∀ z ∈ L, M.Prime z) (hk : 0 < k) (hls : Paired (fun (p : Nat) l => M.IsKR p k a l) L ls) (h : ToldR H0 H k a ps F) :
    (400 < M.prodN (ls.map List.length) ∧ H F = some (.lst [.non, .int (M.prodN (ls.map List.length) : Nat)])) ∨
    (M.prodN (ls.map List.length) ≤ 400 ∧ ∃ (T L0 S : Addr), H F = some (.lst [.ref T, .non]) ∧ H T = some (.tup [.ref L0, .ref S]) ∧ H L0 = some (.lst ((goneA L ls (M.prodN L)).map V.int)) ∧ ShowsR H k a L ls S) := by
  subst hps
  have hlp : ∀ x ∈ ps, M.Prime x.2 := fun x hx => hL _ (List.mem_map.mpr ⟨x, hx, rfl⟩)
  rcases h with ⟨i, p, t, T, L0, S, hx, hn, hb, _, eF, eT, eL, eS⟩ | ⟨cs, hcs, h | ⟨h4, xs, rr, T, L0, S, R, hmx, hxs, hxl, _, eF, eT, eL, eS, eR, hR⟩⟩
  · right
    have hpi : (ps.map (·.2))[i]? = some p := by rw [List.getElem?_map, hx]; rfl
    obtain ⟨l, hl, hK⟩ := pget hls hpi
    have hl0 := (notR_len (hL p (List.mem_of_getElem? hpi)) hk hK).1 hn
    subst hl0
    have h0 : M.prodN (ls.map List.length) = 0 := Nat.eq_zero_of_zero_dvd (M.prodN_dvd (List.mem_map.mpr ⟨[], List.mem_of_getElem? hl, rfl⟩))
    have hg : goneA (ps.map (·.2)) ls (M.prodN (ps.map (·.2))) = [] := List.eq_nil_iff_forall_not_mem.mpr fun y hy => by
      have := ((gone_mem _ _ _ y).mp hy).2.2 i p [] hpi hl
      simp at this
    refine ⟨by omega, T, L0, S, eF, eT, by rw [hg]; exact eL, .inl ⟨i, p, hpi, hn, fun j q hj hq => ?_, eS⟩⟩
    rw [List.getElem?_map] at hq
    obtain ⟨⟨t', q'⟩, h1, h2⟩ := Option.map_eq_some_iff.mp hq
    have h2 : q' = q := h2
    rw [← h2]
    exact hb j q' t' hj h1
  · left
    rw [kr_prod hk hlp (kr_map hls) hcs]
    exact h
  · right
    have e1 := rr_eq hR hls
    rw [kr_prod hk hlp (kr_map hls) hcs]
    rw [e1] at hmx
    have hg : xs = goneA (ps.map (·.2)) ls (M.prodN (ps.map (·.2))) := M.sorted_ext hxs (gone_sorted _ _ _) fun y => (hmx.iff y).trans (gone_mem _ _ _ y).symm
    refine ⟨h4, T, L0, S, eF, eT, by rw [← hg]; exact eL, .inr ⟨fun p hp hn => ?_, R, _, eS, eR, ?_, fun i p l hp hl => ?_⟩⟩
    · obtain ⟨x, hx, rfl⟩ := List.mem_map.mp hp
      obtain ⟨j, hj⟩ := List.getElem?_of_mem hx
      obtain ⟨c, _, hc, hc0⟩ := pget hcs hj
      have := hc.2.2 hn.1 hn.2
      omega
    · rw [List.length_map, List.length_map]; exact hR.length.symm
    · rw [List.getElem?_map] at hp
      obtain ⟨x, hx, rfl⟩ := Option.map_eq_some_iff.mp hp
      obtain ⟨r, hr, h1, h2⟩ := pget hR hx
      have h3 : ls[i]? = some r.2.2.2 := by rw [← e1, List.getElem?_map, hr]; rfl
      rw [hl] at h3
      cases h3
      exact ⟨r.2.2.1, by rw [List.getElem?_map, hr]; rfl, h2⟩
theorem ok__law_right (T : Txt K mg) : FnOk P w K mg base CX0 4 (He.ga K "_law_right") (fd__law_right T) ["_law_primes_here", "_law_k", "_law_a", "_law_lists_here", "_law_told_here"] (sp__law_right K) := by
  refine (F__law_right T).ok sc__law_right (fun vs H Q E h => ?_) (fun cdv A outer s H vs Q E hr h => ⟨_, PSs.nox (pss_cons (ps_set (i := 5) sc__law_right.nd rfl (Or.inl rfl) pe_int)
      (pss_cons (ps_for PassesOwn.never rfl (pi_list (pv 3)) (pg_name (i := 6) sc__law_right.nd rfl (Or.inl rfl)) (pss_one (ps_set (i := 5) sc__law_right.nd rfl (Or.inl rfl) (pe_op op_mulW (pv 5) (pe_callB callLen rfl (T.fr (T.c.fact 41 rfl)) boot_len (pa_cons (pv 6) pa_nil))))))
      (pss_cons (ps_if (pt_cmpR op_gt (pv 5) pe_int (nomark _)) (pss_one (ps_ret (pe_cmpR (op_eqD hr.units) (pv 4) (pe_lst (pa_cons pe_non (pa_cons (pv 5) pa_nil))) (nomark _)))) pss_nil)
      (pss_cons (ps_if (PW.pt (pw_or (pt_cmpR op_notN1 (pe_ix ix_seq (pv 4) pe_int (fun _ _ => rfl)) pe_non (nomark _)) (pw_or (pt_not (pt_val (pe_callB call_isi rfl (T.fr (T.c.fact 42 rfl)) boot_isinstance (pa_cons (pe_ix ix_seq (pv 4) pe_int (fun _ _ => rfl)) (pa_cons (pe_bltn (v := .ty "tuple") rfl (T.fr (T.c.fact 40 rfl)) boot_tuple rfl) pa_nil))))) (pw_or1 (pt_cmpR op_ne (pe_callB callLen rfl (T.fr (T.c.fact 41 rfl)) boot_len (pa_cons (pe_ix ix_seq (pv 4) pe_int (fun _ _ => rfl)) pa_nil)) pe_int (nomark _)))))) (pss_one (ps_ret pe_bl)) pss_nil)
      (pss_cons ((ps_setLc (i := 7) (own := [("_law_x", 8)]) rfl sc__law_right.nd rfl rfl (sw_true rfl rfl rfl rfl) (pi_range1 rfl (T.fr (T.c.fact 36 rfl)) (pa_cons (pe_call (ok__law_whole T) (hr.mono (by decide)) rfl (g__law_whole T) (kp__law_whole T) (B__law_whole T) .nil pass0 (pa_cons (pv 0) pa_nil)) pa_nil)) (blkOk_by (N := N__law_right) (sc := defScope s__law_right) (by decide +kernel)) (fun _ _ _ _ _ => (pg_name (i := 8) sc__law_right.nd rfl (Or.inl rfl))) (fun _ _ _ _ _ => (pts_one (pt_val (pe_call (ok__law_is_alike T) (hr.mono (by decide)) rfl (g__law_is_alike T) (kp__law_is_alike T) (B__law_is_alike T) .nil pass0 (pa_cons (pv 0) (pa_cons (pv 3) (pa_cons (pv 8) pa_nil))))))) (fun _ _ _ _ _ => (pv 8))))
      (pss_one (ps_ret (pe_and (pe_cmpR (op_eqD hr.units) (pe_ix ix_seq (pe_ix ix_seq (pv 4) pe_int (fun _ _ => rfl)) pe_int (fun _ _ => rfl)) (pv 7) (nomark _)) (pe_one (pe_call (ok__law_shown T) (hr.mono (by decide)) rfl (g__law_shown T) (kp__law_shown T) (B__law_shown T) .nil pass0 (pa_cons (pv 0) (pa_cons (pv 1) (pa_cons (pv 2) (pa_cons (pv 3) (pa_cons (pe_ix ix_seq (pe_ix ix_seq (pv 4) pe_int (fun _ _ => rfl)) pe_int (fun _ _ => rfl)) pa_nil))))))))))))))), ?_⟩)
  · obtain ⟨C, O, F, H0, ps, L, os, ls, k, a, rfl, _⟩ := h; rfl
  · obtain ⟨C, O, F, H0, ps, L, os, ls, kk, a, rfl, hps, hC, hl, hL, hprod, eO, hos, hls, k0, kb, hT, k⟩ := h
    have hend := right_end hps (fun z hz => (hL z hz).1) k0 hls hT
    have hol : os.length = ls.length := hos.length
    have hll : ls.length = L.length := hls.length.symm
    have hlb : ∀ l ∈ ls, l.length ≤ 67 := fun l hl' => by
      obtain ⟨p, hp, hK⟩ := paired_mem hls hl'
      have e := hK.unique gone_kr
      rw [e]
      unfold goneR
      rw [List.length_map]
      refine Nat.le_trans (List.length_filter_le _ _) ?_
      rw [List.length_range]
      exact (hL p hp).2
    have hpb : ∀ i, M.prodN ((ls.take i).map List.length) ≤ 67 ^ 3 := fun i => by
      have h1 := M.prodN_bd (l := (ls.take i).map List.length) (B := 67) fun z hz => by
        obtain ⟨l, hl', rfl⟩ := List.mem_map.mp hz
        exact hlb l (List.mem_of_mem_take hl')
      refine Nat.le_trans h1 (Nat.pow_le_pow_right (by decide) ?_)
      rw [List.length_map, List.length_take]; omega
    have h673 : (67 : Nat) ^ 3 = 300763 := by decide
    walk_at "g"
    refine ⟨⟨_, SqL.of eO⟩, ?_⟩
    refine for_list (fun i σ H' => H' = H ∧ ∃ v6 v7 v8 : Option V, σ = [some (.ref C), some (.int (kk : Nat)), some (.int a), some (.ref O), some (.ref F), some (.int (M.prodN ((ls.take i).map List.length) : Nat)), v6, v7, v8]) ⟨rfl, none, none, none, by rw [List.take_zero]; rfl⟩ (fun i σ H' _ I => by rw [I.1]; exact SqL.of eO) ?_ ?_
    · rintro i x σ H' hi ⟨rfl, v6, v7, v8, rfl⟩
      obtain ⟨l, hl', b, rfl, eb⟩ := pget hos hi
      have e1 : M.prodN ((ls.take (i + 1)).map List.length) = M.prodN ((ls.take i).map List.length) * l.length := by rw [take_more hl', List.map_append, List.map_cons, List.map_nil, M.prodN_snoc]
      have h1 := hpb i
      have h2 := hlb l (List.mem_of_getElem? hl')
      walk_at "g"
      refine s_lenL (SqL.of eb) ?_
      rw [List.length_map]
      walk_at "g"
      try refine s_i (mulW (by omega) (by omega)) ?_
      walk_at "g"
      exact ⟨rfl, _, _, _, by rw [e1]; push_cast; rfl⟩
    · rintro σ H' ⟨rfl, v6, v7, v8, rfl⟩
      rw [hol, List.take_length]
      rcases hend with ⟨h4, eF⟩ | ⟨h4, T, L0, S, eF, eT, eL, hSh⟩
      · walk_at "g"
        refine s_itP (by omega) ?_
        walk_at "g"
        refine mkL (by simp) fun W H1 nW eW s1 => ?_
        have hsh : SeqAt.shaped (.list [.none, .int (M.prodN (ls.map List.length) : Nat)]) = true := shapedL fun d hd => by
          simp only [List.mem_cons, List.not_mem_nil, or_false] at hd
          rcases hd with rfl | rfl <;> exact ⟨by simp [PyData.canLay0], by simp [PyData.depth]⟩
        refine s_eqD (.list [.none, .int (M.prodN (ls.map List.length) : Nat)]) (.list [.none, .int (M.prodN (ls.map List.length) : Nat)]) (.lst (SqL.of (s1 _ _ eF)) (.cons .non (.cons (.int _) .nil))) (.lst (SqL.of eW) (.cons .non (.cons (.int _) .nil))) hsh hsh ?_
        rw [eqv_shaped hsh]
        walk_at "g"
        exact k H1 s1
      · walk_at "g"
        refine s_itN (by omega) ?_
        walk_at "g"
        refine s_ixL (SqL.of eF) (atI0 1 rfl rfl) ?_
        walk_at "g"
        refine s_ixL (SqL.of eF) (atI0 0 rfl rfl) ?_
        walk_at "g"
        refine s_isi (.tup eT) kb_tt ?_
        walk_at "g"
        refine s_ixL (SqL.of eF) (atI0 0 rfl rfl) ?_
        walk_at "g"
        refine s_lenT (SqT.of eT) ?_
        walk_at "g"
        try refine s_itnP rfl ?_
        walk_at "g"
        refine s_lc ?_
        walk_at "g"
        refine ⟨C, L, rfl, hC, fun z hz => (hL z hz).1.pos, by omega, ?_⟩
        walk_at "g"
        refine mkR1 (M.prodN L) rfl (by omega) (by omega) ?_
        intro D hD
        refine lc_range (n := M.prodN L) (fun j H1 => Same H' H1 ∧ H1 D = some (.lst ((goneA L ls j).map V.int))) ⟨same_upd hD, upd_same⟩ ?_ ?_
        · rintro j H1 hj ⟨s1, eD⟩
          have hgl := gone_len L ls j
          rw [Int.zero_add]
          walk_at "g"
          refine ⟨rfl, ?_⟩
          walk_at "g"
          refine ⟨C, O, L, os, ls, (j : Int), rfl, s1 _ _ hC, s1 _ _ eO, hos.same s1, hll, fun z hz => (hL z hz).1.pos, fun hA H2 s2 => ?_, fun hA H2 s2 => ?_⟩
          · walk_at "g"
            refine ⟨_, s2 _ _ eD, line2 (by rw [List.length_map]; omega), same_upd' (s1.trans s2) hD, ?_⟩
            rw [upd_same]
            unfold goneA
            rw [List.range_succ, List.filter_append, List.filter_cons_of_pos (by exact decide_eq_true hA), List.filter_nil, List.map_append, List.map_append]; rfl
          · walk_at "g"
            refine ⟨s1.trans s2, ?_⟩
            rw [s2 _ _ eD]
            unfold goneA
            rw [List.range_succ, List.filter_append, List.filter_cons_of_neg (by rw [decide_eq_false hA]; exact Bool.false_ne_true), List.filter_nil, List.append_nil]
        · rintro H1 ⟨s1, eD⟩
          walk_at "g"
          refine s_ixL (SqL.of (s1 _ _ eF)) (atI0 0 rfl rfl) ?_
          walk_at "g"
          refine s_ixT (SqT.of (s1 _ _ eT)) (atI0 0 rfl rfl) ?_
          walk_at "g"
          refine s_eqD _ _ (dp_ints (s1 _ _ eL)) (dp_ints eD) (sh_lst _) (sh_lst _) ?_
          rw [eqv_shaped (sh_lst _)]
          walk_at "g"
          refine s_ixL (SqL.of (s1 _ _ eF)) (atI0 0 rfl rfl) ?_
          walk_at "g"
          refine s_ixT (SqT.of (s1 _ _ eT)) (atI0 1 rfl rfl) ?_
          walk_at "g"
          refine ⟨C, O, S, L, os, ls, kk, a, rfl, s1 _ _ hC, hl, hL, s1 _ _ eO, hos.same s1, hls, k0, kb, hlb, ?_, fun H2 s2 => ?_⟩
          · rcases hSh with ⟨i, p, h1, h2, h3, h4⟩ | ⟨h1, R, ts, h2, h3, h4, h5⟩
            · exact .inl ⟨i, p, h1, h2, h3, s1 _ _ h4⟩
            · refine .inr ⟨h1, R, ts, s1 _ _ h2, s1 _ _ h3, h4, fun i p l g1 g2 => ?_⟩
              obtain ⟨s, g3, g4⟩ := h5 i p l g1 g2
              exact ⟨s, g3, g4.same s1⟩
          walk_at "g"
          exact k H2 (s1.trans s2)

/-- the law -/
def sp_law (K : PySem.W.Frag) : Sp := fun vs H Q _ => ∃ (a : Addr) (ns : List Int), vs = [.ref a] ∧ ns.length ≤ 63 ∧ SqL K H a (ns.map V.int) ∧ ∀ H', Q (.bl true) H'
theorem ok_law (T : Txt K mg) : FnOk P w K mg base CX0 41 (He.ga K "law") (fd_law T) ["_law_script"] (sp_law K) := by
  refine (F_law T).ok sc_law (fun vs H Q E h => ?_) (fun cdv A outer s H vs Q E hr h => ⟨_, PSs.nox (pss_cons (ps_for PassesOwn.never rfl (pi_list (pe_op op_cat (pe_slice sl_list (pv 0) (po_some pe_int) (po_some pe_int)) (pe_lst (pa_cons pe_int pa_nil)))) (pg_name (i := 1) sc_law.nd rfl (Or.inl rfl)) (pss_cons (ps_set (i := 2) sc_law.nd rfl (Or.inl rfl) (pe_call (ok__law_state T) (hr.mono (by decide)) rfl (g__law_state T) (kp__law_state T) (B__law_state T) .nil pass0 (pa_cons (pv 1) (pa_cons (pe_cmpR op_eq (pe_op op_mod (pe_call (ok__law_cell_at T) (hr.mono (by decide)) rfl (g__law_cell_at T) (kp__law_cell_at T) (B__law_cell_at T) .nil pass0 (pa_cons (pv 0) (pa_cons pe_int pa_nil))) pe_int) pe_int (nomark _)) pa_nil))))
      (pss_cons (ps_set (i := 3) sc_law.nd rfl (Or.inl rfl) (pe_call (ok__law_primes T) (hr.mono (by decide)) rfl (g__law_primes T) (kp__law_primes T) (B__law_primes T) .nil pass0 (pa_cons (pv 2) pa_nil)))
      (pss_cons ((ps_setLc (i := 4) (own := [("_law_p", 11)]) (tt := tYes) rfl sc_law.nd rfl rfl (sw_true rfl rfl rfl rfl) (pi_list (pv 3)) (blkOk_by (N := N_law) (sc := defScope s_law) (by decide +kernel)) (fun _ _ _ _ _ => (pg_name (i := 11) sc_law.nd rfl (Or.inl rfl))) (fun _ _ _ _ _ => pts_nil) (fun _ _ _ _ _ => (pe_call (ok__law_paper T) (hr.mono (by decide)) rfl (g__law_paper T) (kp__law_paper T) (B__law_paper T) .nil pass0 (pa_cons (pv 11) pa_nil)))))
      (pss_cons (ps_set (i := 5) sc_law.nd rfl (Or.inl rfl) (pe_call (ok__law_order T) (hr.mono (by decide)) rfl (g__law_order T) (kp__law_order T) (B__law_order T) .nil pass0 (pa_cons (pv 2) pa_nil)))
      (pss_cons (ps_set (i := 6) sc_law.nd rfl (Or.inl rfl) (pe_call (ok__law_number T) (hr.mono (by decide)) rfl (g__law_number T) (kp__law_number T) (B__law_number T) .nil pass0 (pa_cons (pv 2) pa_nil)))
      (pss_cons (ps_set (i := 7) sc_law.nd rfl (Or.inl rfl) (pe_call (ok__law_whole T) (hr.mono (by decide)) rfl (g__law_whole T) (kp__law_whole T) (B__law_whole T) .nil pass0 (pa_cons (pv 3) pa_nil)))
      (pss_cons (ps_if (pt_cmpR op_eq (pe_call (ok__law_take T) (hr.mono (by decide)) rfl (g__law_take T) (kp__law_take T) (B__law_take T) .nil pass0 (pa_cons (pv 2) (pa_cons pe_int pa_nil))) pe_int (nomark _)) (pss_one (ps_set (i := 6) sc_law.nd rfl (Or.inl rfl) (pe_op op_add (pe_call (ok__law_power T) (hr.mono (by decide)) rfl (g__law_power T) (kp__law_power T) (B__law_power T) .nil pass0 (pa_cons (pv 7) (pa_cons (pv 6) (pa_cons (pv 5) pa_nil)))) (pe_op op_mulW (pv 7) (pe_call (ok__law_take T) (hr.mono (by decide)) rfl (g__law_take T) (kp__law_take T) (B__law_take T) .nil pass0 (pa_cons (pv 2) (pa_cons pe_int pa_nil))))))) pss_nil)
      (pss_cons (ps_set (i := 8) sc_law.nd rfl (Or.inl rfl) (pe_call (ok__law_lists T) (hr.mono (by decide)) rfl (g__law_lists T) (kp__law_lists T) (B__law_lists T) .nil pass0 (pa_cons (pv 3) (pa_cons (pv 5) (pa_cons (pv 6) pa_nil)))))
      (pss_one (ps_for PassesOwn.never rfl (pi_range1 rfl (T.fr (T.c.fact 36 rfl)) (pa_cons pe_int pa_nil)) (pg_name (i := 9) sc_law.nd rfl (Or.inl rfl)) (pss_cons (ps_set (i := 10) sc_law.nd rfl (Or.inl rfl) (pe_call (ok__law_told T) (hr.mono (by decide)) rfl (g__law_told T) (kp__law_told T) (B__law_told T) .nil pass0 (pa_cons (pv 4) (pa_cons (pv 5) (pa_cons (pv 6) pa_nil)))))
      (pss_cons (ps_if (pt_not (pt_val (pe_call (ok__law_right T) (hr.mono (by decide)) rfl (g__law_right T) (kp__law_right T) (B__law_right T) .nil pass0 (pa_cons (pv 3) (pa_cons (pv 5) (pa_cons (pv 6) (pa_cons (pv 8) (pa_cons (pv 10) pa_nil)))))))) (pss_one (ps_ret pe_bl)) pss_nil)
      (pss_one (ps_if (pt_cmpR op_notN1 (pe_ix ix_seq (pv 10) pe_int (fun _ _ => rfl)) pe_non (nomark _)) (pss_one (ps_expr (pe_bm PySem.F.plainAttrs_list PySem.F.slot_list_append PySem.F.type_list_append mt_append (pe_ix ix_seq (pe_ix ix_seq (pv 10) pe_int (fun _ _ => rfl)) pe_int (fun _ _ => rfl)) (pa_cons pe_int pa_nil)))) pss_nil)))))))))))))))
      (pss_one (ps_ret pe_bl))), ?_⟩)
  · obtain ⟨a, ns, rfl, _⟩ := h; rfl
  · obtain ⟨a, ns, rfl, hlen, hS, k⟩ := h
    walk_at "g"
    refine mkSl hS fun l H3 hl hL3 s3 => ?_
    walk_at "g"
    refine mkL (by simp) fun l2 H4 hl2 hL4 s4 => ?_
    have zl := cutV_length (ns.map V.int) (some 1) (some 8)
    rw [List.length_map] at zl
    refine mkCat (s4 _ _ hL3) hL4 (by simp; omega) fun l3 H5 n5 e5 s5 => ?_
    have S5 := s3.trans (s4.trans s5)
    walk_at "g"
    refine ⟨⟨_, SqL.of e5⟩, ?_⟩
    refine for_list (fun i σ H' => Same H5 H' ∧ ∃ v1 v2 v3 v4 v5 v6 v7 v8 v9 v10 v11 : Option V, σ = [some (.ref a), v1, v2, v3, v4, v5, v6, v7, v8, v9, v10, v11]) ⟨Same.refl _, _, _, _, _, _, _, _, _, _, _, _, rfl⟩ (fun i σ H' _ I => SqL.of (I.1 _ _ e5)) ?_ ?_
    · rintro i x σ H6 hi ⟨s6, v1, v2, v3, v4, v5, v6, v7, v8, v9, v10, v11, rfl⟩
      have hc : ∃ c, x = V.int c := by
        rcases List.mem_append.mp (get_mem hi) with z | z
        · obtain ⟨c, e, _⟩ := of_mem_ints (cutV_mem z)
          exact ⟨c, e⟩
        · exact ⟨0, by simpa using z⟩
      obtain ⟨c, rfl⟩ := hc
      walk_at "g"
      refine ⟨a, ns, 0, rfl, (S5.trans s6).seq hS, fun z1 => ?_⟩
      walk_at "g"
      refine ⟨c, _, rfl, fun s Hs ns' ss sts => ?_⟩
      walk_at "g"
      refine ⟨s, rfl, sts, fun L C H1 srt hL hLl hL0 hLp nC eC st1 s1 => ?_⟩
      have hCs : C ≠ s := fun z => by
        obtain ⟨_, _, e, _⟩ := st1
        rw [← z, eC] at e; cases e
      walk_at "g"
      refine s_lc ?_
      walk_at "g"
      refine ⟨⟨_, SqL.of eC⟩, fun F hF => ?_⟩
      refine lc_list (fun i H' => Same H1 H' ∧ ∃ ps : List (Addr × Nat), H' F = some (.lst (ps.map fun x => V.ref x.1)) ∧ ps.map (·.2) = L.take i ∧ ∀ x ∈ ps, PaperAt 39 H' x.1 x.2) ⟨same_upd hF, [], upd_same, rfl, by simp⟩ (fun i H2 _ I => SqL.of (I.1 _ _ eC)) ?_ ?_
      · rintro i x H7 hi ⟨s7, ps, hF2, hps, hpp⟩
        obtain ⟨q, hq, rfl⟩ := nv_get hi
        have hqm := hL q (List.mem_of_getElem? hq)
        have hil := (List.getElem?_eq_some_iff.mp hq).1
        have hpl : ps.length = i := by
          have := congrArg List.length hps
          rw [List.length_map, List.length_take] at this
          omega
        walk_at "g"
        refine ⟨rfl, ?_⟩
        walk_at "g"
        refine ⟨q, rfl, hqm.1, by omega, by omega, fun t H8 ht s8 => ?_⟩
        refine ⟨_, s8 _ _ hF2, line2 (by rw [List.length_map]; omega), same_upd' (s7.trans s8) hF, ps ++ [(t, q)], ?_, ?_, fun x hx => ?_⟩
        · rw [upd_same, List.map_append]; rfl
        · rw [List.map_append, hps, take_more hq]; rfl
        · rcases List.mem_append.mp hx with z | z
          · exact ((hpp x z).same s8).upd (s8 _ _ hF2)
          · rw [List.mem_singleton.mp z]
            exact ht.upd (s8 _ _ hF2)
      rintro H7 ⟨s7, ps, hF2, hps, hpp⟩
      rw [nv_len, List.take_length] at hps
      have hpl : ps.length ≤ 3 := by
        have := congrArg List.length hps
        rw [List.length_map] at this
        omega
      have hpb : ∀ x ∈ ps, x.2 ≤ 1000000000 := fun x hx => by
        have h1 : x.2 ∈ L := by rw [← hps]; exact List.mem_map.mpr ⟨x, hx, rfl⟩
        have := (hL _ h1).2
        omega
      have hnd : (ps.map (·.2)).Nodup := by rw [hps]; exact srt.imp fun {a b} h e => by omega
      have hFs : F ≠ s := fun z => by
        obtain ⟨_, _, e, _⟩ := st1
        rw [← z, hF] at e; cases e
      have st7 : StAt H7 s := st1.same s7
      have hPF : ∀ H', SameB s H7 H' → PapsAt 39 H' F ps := fun H' sb => ⟨sb _ _ hFs hF2, fun x hx => (hpp x hx).sameB st7 sb⟩
      have eC7 := s7 _ _ eC
      walk_at "g"
      refine ⟨s, rfl, st7, fun kk H8 k0 k9 st8 s8 => ?_⟩
      walk_at "g"
      refine ⟨s, rfl, st8, fun a1 H9 ha1 st9 s9 => ?_⟩
      have sb9 := s8.trans s9
      walk_at "g"
      refine ⟨C, L, rfl, sb9 _ _ hCs eC7, fun z hz => (hL z hz).1.pos, by omega, ?_⟩
      have hW0 := M.prodN_pos (l := L) fun z hz => (hL z hz).1.pos
      walk_at "h"
      refine s_join (fun σ' H' => ∃ (a2 : Int), σ' = [some (.ref a), some (.int c), some (.ref s), some (.ref C), some (.ref F), some (.int (kk : Nat)), some (.int a2), some (.int (M.prodN L : Nat)), v8, v9, v10, v11] ∧ SameB s H7 H') ?_ ?_
      · rintro σ' H' ⟨a2, rfl, sb'⟩
        walk_at "g"
        refine ⟨C, L, kk, a2, rfl, sb' _ _ hCs eC7, hLl, hL, fun O os ls H10 s10 eO hos hls => ?_⟩
        walk_at "g"
        refine mkR1 2 (by omega) (by omega) (by omega) ?_
        refine for_range (n := 2) (fun j σ H' => Same H10 H' ∧ ∃ v9 v10 v11 : Option V, σ = [some (.ref a), some (.int c), some (.ref s), some (.ref C), some (.ref F), some (.int (kk : Nat)), some (.int a2), some (.int (M.prodN L : Nat)), some (.ref O), v9, v10, v11]) ⟨Same.refl _, _, _, _, rfl⟩ ?_ ?_
        · rintro j σ H11 hj ⟨s11, w9, w10, w11, rfl⟩
          have S11 := s10.trans s11
          have hP11 : PapsAt 39 H11 F ps := (hPF _ sb').same S11
          walk_at "g"
          refine ⟨39, F, ps, kk, a2, rfl, hP11, hnd, hpb, by omega, k0, by omega, fun T H12 s12 hT => ?_⟩
          have S12 := S11.trans s12
          walk_at "g"
          refine ⟨C, O, T, H11, ps, L, os, ls, kk, a2, rfl, hps, S12 _ _ (sb' _ _ hCs eC7), hLl, hL, hLp, (s11.trans s12) _ _ eO, hos.same (s11.trans s12), hls, k0, by omega, hT, fun H13 s13 => ?_⟩
          walk_at "g"
          have S13 := s11.trans (s12.trans s13)
          have fin : ∀ (T1 L0 S : Addr) (ys : List V), H11 L0 = none → ys.length ≤ 400 → H12 T = some (.lst [.ref T1, .non]) → H12 T1 = some (.tup [.ref L0, .ref S]) → H12 L0 = some (.lst ys) → True := fun _ _ _ _ _ _ _ _ _ => trivial
          have hcase : (∃ m : Int, H13 T = some (.lst [.non, .int m])) ∨ ∃ (T1 L0 S : Addr) (ys : List V), H11 L0 = none ∧ ys.length ≤ 400 ∧ H13 T = some (.lst [.ref T1, .non]) ∧ H13 T1 = some (.tup [.ref L0, .ref S]) ∧ H13 L0 = some (.lst ys) := by
            rcases hT with ⟨_, _, _, T1, L0, S, _, _, _, nL, eF, eT, eL, _⟩ | ⟨cs, _, ⟨_, eF⟩ | ⟨h4, xs, rr, T1, L0, S, R, _, _, hxl, nL, eF, eT, eL, _⟩⟩
            · exact .inr ⟨T1, L0, S, [], nL, by simp, s13 _ _ eF, s13 _ _ eT, s13 _ _ eL⟩
            · exact .inl ⟨_, s13 _ _ eF⟩
            · exact .inr ⟨T1, L0, S, _, nL, by rw [List.length_map]; omega, s13 _ _ eF, s13 _ _ eT, s13 _ _ eL⟩
          rcases hcase with ⟨m, eF⟩ | ⟨T1, L0, S, ys, nL, hyl, eF, eT, eL⟩
          · refine s_ixL (SqL.of eF) (atI0 0 rfl rfl) ?_
            walk_at "g"
            exact ⟨S13, _, _, _, rfl⟩
          · refine s_ixL (SqL.of eF) (atI0 0 rfl rfl) ?_
            walk_at "g"
            refine s_ixL (SqL.of eF) (atI0 0 rfl rfl) ?_
            walk_at "g"
            refine s_ixT (SqT.of eT) (atI0 0 rfl rfl) ?_
            refine ⟨s_tyL eL, ?_⟩
            walk_at "g"
            refine s_append eL (line2 (by omega)) ?_
            walk_at "g"
            exact ⟨same_upd' S13 (Same.none s11 nL), _, _, _, rfl⟩
        · rintro σ H11 ⟨s11, w9, w10, w11, rfl⟩
          walk_at "g"
          refine ⟨s6.trans ?_, _, _, _, _, _, _, _, _, _, _, _, rfl⟩
          exact (SameB.same ns' ((s1.trans (SameB.of s7)).trans sb') ss).trans (s10.trans s11)
      · intro N hN
        walk_at "g"
        refine ⟨s, 2, rfl, by decide, by decide, st9, fun z H10 z0 z1 st10 s10 => ?_⟩
        have S10 : SameB s H7 H10 := sb9.trans s10
        walk_at "g"
        refine s_ite (fun _ => ?_) (fun _ => ?_)
        · walk_at "g"
          refine ⟨((M.prodN L : Nat) : Int), a1, kk, rfl, by omega, by omega, ?_⟩
          walk_at "g"
          refine ⟨s, 1000, rfl, by decide, by decide, st10, fun y H11 y0 y1 st11 s11 => ?_⟩
          have hr := M.pw_range (n := ((M.prodN L : Nat) : Int)) (by omega) a1 kk
          generalize M.pw ((M.prodN L : Nat) : Int) a1 kk = r at hr ⊢
          walk_at "g"
          try refine s_i (mulW (by omega) (by omega)) ?_
          walk_at "g"
          exact hN _ _ ⟨_, rfl, S10.trans s11⟩
        · walk_at "g"
          exact hN _ _ ⟨a1, rfl, S10⟩
    · rintro σ H6 ⟨s6, v1, v2, v3, v4, v5, v6, v7, v8, v9, v10, v11, rfl⟩
      walk_at "g"
      exact k H6
theorem law_end {K : PySem.W.Frag} {H : Hp} {a : Addr} {ns : List Int} (hl : ns.length ≤ 63) (hb : ∀ z ∈ ns, Builtin.Int.intBits z ≤ 1048576) (hS : SqL K H a (ns.map V.int)) : sp_law K [.ref a] H (fun v _ => v = .bl true) fun _ _ _ => False :=
  ⟨a, ns, rfl, hl, hS, fun _ => rfl⟩

theorem facts {h : Heap} {f : Addr} (X : K.In h) (G : h.Ns mainGlobals mg) (hfa : mg ("law" : Str) = some (.ref f)) (c : Told fa fn K) :
    ∃ fd : FuncData, (∀ (s : Shared) (v : Value), BindsTo s fd ⟨[v], []⟩ [("_law_script", v)]) ∧ ∀ base : Heap, K.In base → base.Ns mainGlobals mg → FnOk P w K mg base CX0 41 f fd ["_law_script"] (sp_law K) := by
  have T : Txt K mg := ⟨c, fun z => He.glo_ok X G z, fun z => He.free_ok X G z, fun z => He.int_ok X G z⟩
  have e := hfa.symm.trans (g_law T)
  cases e
  have b := FunD.bindsA (ps := ["_law_script"]) (F_law T) fun _ _ _ _ _ _ us hl => match us, hl with | [_], _ => rfl
  exact ⟨fd_law T, fun s v => b s [v] rfl, fun base _ _ => ok_law T⟩
end
abbrev RR : PySem.W.OpenRow := PySem.W.OpenLaw.row PySem.Challenge.rw_rootprime_k68_roots_by_small_primes
abbrev hk : PySem.W.Hook := hookR 5 fa fn
def ob (s : PySem.W.SharedT) : He.AlD := toldG 5 fa fn (HandSHeadRun.getT s)
theorem ob_eq (s : PySem.W.SharedT) : ob s = hk.obs s.abs := toldG_eq (HandSHeadRun.getT_eq s)
theorem run (w : World) : HandSHeadRun.RunEq RR (PySem.W.view RR.prog [45]) hk ob 4190 ("taken" :: "divisor" :: "inverse" :: "power" :: "places_by" :: "place_of" :: "root_in" :: "one_root" :: "turned" :: "roots" :: "joined" :: "roots_by" :: "each_with_each" :: "roots_of" :: "_law_cell_at" :: "_law_state" :: "_law_take" :: "_law_number" :: "_law_power" :: "_law_steps" :: "_law_parted" :: "_law_paper" :: "_law_primes" :: "_law_common" :: "_law_order" :: "_law_lists" :: "_law_told" :: "_law_is_row" :: "_law_shown" :: "_law_whole" :: "_law_is_alike" :: "_law_right" :: "PrimeError" :: "NoInverse" :: "TooMany" :: "MOST_ROOTS_roots" :: "MOST_ROOTS_manyprimes" :: []) w := by
  intro os
  kernel_rfl
end C
open PySem PySem.W PySem.Calls PyProof.Rows
set_option maxRecDepth 100000 in
set_option maxHeartbeats 0 in
theorem PySem.Challenge.cw_rootprime_k68_roots_by_small_primes_holds : PySem.Challenge.rw_rootprime_k68_roots_by_small_primes.Holds := by
  w_on; o_law
  refine HandSHeadRun.head_any (r := OpenLaw.row PySem.Challenge.rw_rootprime_k68_roots_by_small_primes) (q := view (OpenLaw.row PySem.Challenge.rw_rootprime_k68_roots_by_small_primes).prog [45]) (H := C.hk) (ob := C.ob) (M := 4190) (loose := ("taken" :: "divisor" :: "inverse" :: "power" :: "places_by" :: "place_of" :: "root_in" :: "one_root" :: "turned" :: "roots" :: "joined" :: "roots_by" :: "each_with_each" :: "roots_of" :: "_law_cell_at" :: "_law_state" :: "_law_take" :: "_law_number" :: "_law_power" :: "_law_steps" :: "_law_parted" :: "_law_paper" :: "_law_primes" :: "_law_common" :: "_law_order" :: "_law_lists" :: "_law_told" :: "_law_is_row" :: "_law_shown" :: "_law_whole" :: "_law_is_alike" :: "_law_right" :: "PrimeError" :: "NoInverse" :: "TooMany" :: "MOST_ROOTS_roots" :: "MOST_ROOTS_manyprimes" :: [])) (d := HandSHeadRun.topDef (OpenLaw.row PySem.Challenge.rw_rootprime_k68_roots_by_small_primes).prog 45) (kwd := []) C.ob_eq
    (by kernel_rfl) (fun s => by kernel_rfl) C.run (by kernel_rfl) (by kernel_rfl) (by kernel_rfl) (by rfl) (by first | assumption | decide +kernel) (by decide +kernel) ⟨rfl, rfl, rfl, rfl, rfl, by decide +kernel⟩ ?hw ?hc
  case hw => w_witness2
  case hc =>
    refine R.walk_ofEB (l := PySem.Challenge.rw_rootprime_k68_roots_by_small_primes) (n := 63) (k := 41) (prm := "_law_script") (CX := fun w => L2.CX0) rfl (by decide) (by kernel_rfl) ⟨rfl, by decide, by decide⟩ ?F (fun _ _ _ _ _ z => z)
    intro w mg fa h Y G hmg0
    obtain ⟨K, KX, c⟩ := Y
    have hmg : mg ("law" : PySem.Str) = some (.ref fa) := by
      have e : (HandSHeadRun.topDef (OpenLaw.row PySem.Challenge.rw_rootprime_k68_roots_by_small_primes).prog 45).name = ("law" : PySem.Str) := by kernel_rfl
      rw [← e]
      exact hmg0
    obtain ⟨fd, hb, hF⟩ := C.facts (P := (PySem.Challenge.rw_rootprime_k68_roots_by_small_primes).prog) (w := w) KX G hmg c
    exact ⟨K, fd, (C.sp_law K), KX, hb, fun H a ns hl hbits hO hS => C.law_end hl hbits hS, hF⟩

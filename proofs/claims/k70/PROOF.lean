import PyProof.Rows.All
import Wide.All
import OpenK.AllK
import Wide.FinOn
import HandS.ForMost
import HandS.IsInst
import HandS.Wide
import HandS.TupAny
import HandS.Flow
import HandS.Text
import HandS.Codes

import PySem.Challenge.RW_kithbase_k70_kinds_of_values
set_option Elab.async false
set_option linter.all false
set_option maxRecDepth 100000
set_option maxHeartbeats 4000000
namespace Kb
open PySem PySem.Spec PyProof.Rows L2
/-! rules and words of my own, over HandS -/
section
variable {X : Cx}
/-- o[i] of a list, the place not negative, as an operand of an in-place statement -/
theorem get_list : PGet X (rIxL X.K) := by
  intro pins s σ H x y v u Q I rx ry h
  obtain ⟨p, xs, i, z, rfl, rfl, hq, he, q⟩ := h
  cases rx
  obtain ⟨t, rfl⟩ := ry
  obtain ⟨its, r, pl, hz⟩ := I.list hq
  obtain ⟨j, h1, h2, h3, h4, h5⟩ := atI_get he
  obtain ⟨w, ew, rw'⟩ := r.get h2
  have hl := r.length
  have hn := line63
  have fin : EP X pins σ Q w s := ⟨z, H, I, rw', q⟩
  by_cases h0 : 0 ≤ i
  · have hj : i.toNat = j := by
      rw [seqIndex_of h0 h5] at h1
      exact Option.some.inj h1
    exact getItem_listL pl.isList h0 (by omega) (by rw [hj]; exact ew) fin
  · have hj : (i + (its.toArray.size : Int)).toNat = j := by
      rw [seqIndex_neg (by omega) h4] at h1
      rw [List.size_toArray, ← hl]
      exact Option.some.inj h1
    exact wpAny_getItem_list_neg pl.isList (by omega) (by rw [List.size_toArray] <;> omega) (by omega) (by rw [hj]; simpa using ew) fin
theorem RelV.bl_iff {x : V} {v : Value} (b : Bool) (r : RelV x v) : (v == Value.bool b) = decide (x = .bl b) := by
  cases x <;> first
    | (obtain ⟨t, rfl⟩ := r; rfl)
    | (cases r; rfl)
    | skip
  cases r
  rename_i c
  cases b <;> cases c <;> rfl
theorem plain_bool {x : V} {v : Value} (b : Bool) (r : RelV x v) : plainIs v (.bool b) = true := by
  cases x <;> first
    | (obtain ⟨t, rfl⟩ := r; rfl)
    | (cases r; rfl)
/-- x is True, x is False -/
def rIsBl (neg : Bool) : R2 := fun x y H Q => ∃ b, y = .bl b ∧ Q (.bl (if neg then !decide (x = .bl b) else decide (x = .bl b))) H
theorem op_isB : OpR X (compareOp .Is) (rIsBl false) := by
  intro pins s σ H x y v u Q I rx ry h
  obtain ⟨b, rfl, q⟩ := h
  cases (show u = Value.bool b from ry)
  exact wpAny_is_plain (plain_bool b rx) (fin_bl I q (RelV.bl_iff b rx).symm)
theorem op_isNotB : OpR X (compareOp .IsNot) (rIsBl true) := by
  intro pins s σ H x y v u Q I rx ry h
  obtain ⟨b, rfl, q⟩ := h
  cases (show u = Value.bool b from ry)
  exact wpAny_isNot_plain (plain_bool b rx) (fin_bl I q (by rw [RelV.bl_iff b rx]; rfl))
end
theorem isi {K : PySem.W.Frag} {x : V} {tn n : String} {b : Bool} {H : Hp} {Q : VK} (ty : TyOf K H x (.type tn)) (h : kitB tn n = some b) (q : Q (.bl b) H) : rIsi K [x, .ty n] H Q :=
  ⟨x, .ty n, _, _, b, rfl, .ty n, .base ty, kit_ty h, q⟩
theorem kb_nn_bool : kitB "NoneType" "bool" = some false := by decide +kernel
theorem kb_nn_int : kitB "NoneType" "int" = some false := by decide +kernel
theorem kb_nn_str : kitB "NoneType" "str" = some false := by decide +kernel
theorem kb_bl_bool : kitB "bool" "bool" = some true := by decide +kernel
theorem kb_bl_int : kitB "bool" "int" = some true := by decide +kernel
theorem kb_bl_str : kitB "bool" "str" = some false := by decide +kernel
theorem kb_int_bool : kitB "int" "bool" = some false := by decide +kernel
theorem kb_int_int : kitB "int" "int" = some true := by decide +kernel
theorem kb_int_str : kitB "int" "str" = some false := by decide +kernel
theorem kb_str_bool : kitB "str" "bool" = some false := by decide +kernel
theorem kb_str_int : kitB "str" "int" = some false := by decide +kernel
theorem kb_str_str : kitB "str" "str" = some true := by decide +kernel
theorem kb_tup_tup : kitB "tuple" "tuple" = some true := by decide +kernel
theorem kb_lst_tup : kitB "list" "tuple" = some false := by decide +kernel
theorem kb_tup_lst : kitB "tuple" "list" = some false := by decide +kernel
theorem kb_lst_lst : kitB "list" "list" = some true := by decide +kernel
/-- two heaps that agree on all that H tracks, but at p -/
def But (p : Addr) (H H' : Hp) : Prop := ∀ b o, H b = some o → b ≠ p → H' b = some o
theorem But.refl (p : Addr) (H : Hp) : But p H H := fun _ _ h _ => h
theorem But.trans {p : Addr} {H H1 H2 : Hp} (a : But p H H1) (b : But p H1 H2) : But p H H2 := fun c o h n => b c o (a c o h n) n
theorem But.upd {p : Addr} {H H1 : Hp} {o : HO} (a : But p H H1) : But p H (L2.upd H1 p o) := fun c u h n => by
  rw [upd_ne n]
  exact a c u h n
theorem But.new {p q : Addr} {H H1 : Hp} {o : HO} (a : But p H H1) (h : H1 q = none) : But p H (L2.upd H1 q o) := fun c u e n => by
  rw [upd_ne (ne_of_none (a c u e n) h)]
  exact a c u e n
/-- another object, not tracked in H, is changed -/
theorem But.put {p q : Addr} {H H1 : Hp} {o : HO} (a : But p H H1) (h : H q = none) : But p H (L2.upd H1 q o) := fun c u e n => by
  rw [upd_ne (ne_of_none e h)]
  exact a c u e n
theorem But.free {p q : Addr} {H H1 : Hp} (a : But p H H1) (n : q ≠ p) (h : H1 q = none) : H q = none := by
  cases e : H q with
  | none => rfl
  | some o => rw [a q o e n] at h; cases h
theorem But.fresh {p q : Addr} {H H1 : Hp} (a : But p H H1) (hp : H p ≠ none) (h1 : H1 p ≠ none) (h : H1 q = none) : H q = none := by
  cases e : H q with
  | none => rfl
  | some o =>
    by_cases hq : q = p
    · rw [hq] at h; exact absurd h h1
    · rw [a q o e hq] at h; cases h
theorem Same.new {H H1 : Hp} {q : Addr} {o : HO} (a : Same H H1) (h : H1 q = none) : Same H (L2.upd H1 q o) := fun c u e => by
  rw [upd_ne (ne_of_none (a c u e) h)]
  exact a c u e
theorem Same.but {H H1 : Hp} (p : Addr) (a : Same H H1) : But p H H1 := fun c u e _ => a c u e
theorem sz {n : Nat} (h : n ≤ 1000000) : n ≤ sizeLine := Nat.le_trans h (by decide)
theorem szlt {n : Nat} (h : n < 1000000) : n < sizeLine := Nat.lt_of_lt_of_le h (by decide)
theorem upd_id {H : Hp} {p : Addr} {o : HO} (h : H p = some o) : L2.upd H p o = H := by
  funext b
  by_cases e : b = p
  · rw [e, upd_same, h]
  · rw [upd_ne e]
theorem at_codes {xs : List Nat} {z : Int} {j : Nat} {v : Nat} (e : z = (j : Int)) (h : xs[j]? = some v) : atI xs z = some v := by
  rw [e]
  exact atI_nat h

/-! the engine: one lemma a construct, applied by its head; walk_at "go" runs it -/
def rLen (K : PySem.W.Frag) : List V → Hp → VK → Prop := fun xs H Q => ∃ p ys, xs = [.ref p] ∧ (SqL K H p ys ∨ SqT K H p ys) ∧ Q (.int ys.length) H
def rLenS : List V → Hp → VK → Prop := fun xs H Q => ∃ z, xs = [.str z] ∧ z.length ≤ sizeLine ∧ Q (.int z.length) H
def rListOf (K : PySem.W.Frag) : List V → Hp → VK → Prop := fun xs H Q => ∃ p ys, xs = [.ref p] ∧ (SqL K H p ys ∨ SqT K H p ys) ∧ ∀ l, H l = none → Q (.ref l) (upd H l (.lst ys))
def rTupOf (K : PySem.W.Frag) : List V → Hp → VK → Prop := fun xs H Q => ∃ p ys, xs = [.ref p] ∧ ((SqL K H p ys ∧ ∀ l, H l = none → Q (.ref l) (upd H l (.tup ys))) ∨ (SqT K H p ys ∧ Q (.ref p) H))
def rAddS : R2 := fun x y H Q => ∃ i j, x = .str i ∧ y = .str j ∧ i.length + j.length ≤ sizeLine ∧ Q (.str (i ++ j)) H
def rInS : R2 := fun x y H Q => ∃ (c : Nat) (z : Str), x = .str ⟨#[c]⟩ ∧ y = .str z ∧ Q (.bl (decide (c ∈ z.cps.toList))) H
def rNotInS : R2 := fun x y H Q => ∃ (c : Nat) (z : Str), x = .str ⟨#[c]⟩ ∧ y = .str z ∧ Q (.bl (!decide (c ∈ z.cps.toList))) H
def rIsN : R2 := fun x y H Q => y = .non ∧ Q (.bl (decide (x = .non))) H
def rNotN : R2 := fun x y H Q => y = .non ∧ Q (.bl (!decide (x = .non))) H
def rAbs : List V → Hp → VK → Prop := fun xs H Q => ∃ i, xs = [.int i] ∧ Q (.int (if i < 0 then -i else i)) H
def rMax2 : List V → Hp → VK → Prop := fun xs H Q => ∃ i j, xs = [.int i, .int j] ∧ Q (.int (if j > i then j else i)) H
def rMin2 : List V → Hp → VK → Prop := fun xs H Q => ∃ i j, xs = [.int i, .int j] ∧ Q (.int (if j < i then j else i)) H
def rInt1 : List V → Hp → VK → Prop := fun xs H Q => (∃ i, xs = [.int i] ∧ Q (.int i) H) ∨ ∃ k, xs = [.bl k] ∧ Q (.int (if k then 1 else 0)) H
def rStr1 : List V → Hp → VK → Prop := fun xs H Q => ∃ i, xs = [.int i] ∧ i.natAbs.log2 < 1920 ∧ Q (.str (toString i)) H
def rOrd : List V → Hp → VK → Prop := fun xs H Q => ∃ x, xs = [.str x] ∧ x.length = 1 ∧ Q (.int (x.cps.getD 0 0 : Nat)) H
def rChr : List V → Hp → VK → Prop := fun xs H Q => ∃ i, xs = [.int i] ∧ 0 ≤ i ∧ i ≤ 1114111 ∧ Q (.str ⟨#[i.toNat]⟩) H
def rJoin (K : PySem.W.Frag) : V → List V → Hp → VK → Prop := fun x xs H Q => ∃ a p, ∃ ys : List Str, x = .str a ∧ xs = [.ref p] ∧ (SqL K H p (ys.map V.str) ∨ SqT K H p (ys.map V.str)) ∧
  (ys.map (·.length)).sum + ys.length * a.length ≤ 16777216 ∧ Q (.str (Txt.join a ys)) H
def rSplit : V → List V → Hp → VK → Prop := fun x xs H Q => ∃ a b, x = .str a ∧ xs = [.str b] ∧ (b.length == 0) = false ∧ a.length + 2 ≤ sizeLine ∧ rNewStrs (Txt.split a b) H Q
section
variable {X : Cx}
theorem c_len : CallR X (.builtin "len") (rLen X.K) := call_len_seq
theorem c_lenS : CallR X (.builtin "len") rLenS := call_len_str
theorem c_list : CallR X (.type "list") (rListOf X.K) := call_list_of
theorem c_tuple : CallR X (.type "tuple") (rTupOf X.K) := call_tuple_of
theorem o_addS : OpR X (binaryOp .Add) rAddS := op_add_str
theorem o_inS : OpR X (compareOp .In) rInS := op_in_sign
theorem o_notInS : OpR X (compareOp .NotIn) rNotInS := op_notIn_sign
theorem o_isN : OpR X (compareOp .Is) rIsN := op_isN
theorem o_notN : OpR X (compareOp .IsNot) rNotN := op_notN
theorem c_abs : CallR X (.builtin "abs") rAbs := call_abs
theorem c_max2 (hc : X.calm = true) : CallR X (.builtin "max") rMax2 := call_max2 hc
theorem c_min2 (hc : X.calm = true) : CallR X (.builtin "min") rMin2 := call_min2 hc
theorem c_int1 : CallR X (.type "int") rInt1 := call_int1
theorem c_str1 : CallR X (.type "str") rStr1 := call_str_int
theorem c_ord : CallR X (.builtin "ord") rOrd := call_ord
theorem c_chr : CallR X (.builtin "chr") rChr := call_chr
theorem e_join {o e : Expr} {to te : TE} {apos pos : Pos} (ho : PE X o to) (he : PE X e te) (hs : starEach [e] X.env = [(false, eval e X.env)] := by rfl) (hbase : attributeBase o "join" X.env (eval o X.env) = eval o X.env := by rfl) (hline : (apos.endLine == pos.line) = true := by rfl) :
    PE X (.Call (.Attribute o "join" apos) [e] [] pos) (tM1 (rJoin X.K) to te) := pe_join ho he hs hbase hline
theorem e_split {o e : Expr} {to te : TE} {apos pos : Pos} (ho : PE X o to) (he : PE X e te) (hs : starEach [e] X.env = [(false, eval e X.env)] := by rfl) (hbase : attributeBase o "split" X.env (eval o X.env) = eval o X.env := by rfl) (hline : (apos.endLine == pos.line) = true := by rfl) :
    PE X (.Call (.Attribute o "split" apos) [e] [] pos) (tM1 rSplit to te) := pe_split ho he hs hbase hline
end
def D0 (Q : VK) : Ends := { nx := fun _ H' => Q .non H', rt := Q }
def Dl (D : Ends) (N : L2.St → Hp → Prop) : Ends := { D with nx := N, ct := N, bk := D.nx }
theorem dI {i j : Int} : decide (V.int i = V.int j) = decide (i = j) := by rw [dec_int, Bool.beq_eq_decide_eq]
theorem dB {i j : Bool} : decide (V.bl i = V.bl j) = decide (i = j) := by rw [dec_bl, Bool.beq_eq_decide_eq]
theorem dS {i j : Str} : decide (V.str i = V.str j) = decide (i = j) := by rw [dec_str, Bool.beq_eq_decide_eq]
def Dn (D : Ends) (f : L2.St → Hp → Prop) : Ends := { D with nx := f }
section
variable {K : PySem.W.Frag} {D : Ends} {σ : L2.St} {H : Hp} {Q : VK} {QB : Bool → Hp → Prop} {QA : List V → Hp → Prop} {f f1 : L2.St → Hp → Prop} {b c : VK} {v x y : V} {i j : Int} {t t1 t2 u : TS} {ta tb tc te : TE} {tt tt1 tt2 : TT} {r r' : R2} {n : Nat} {p : Addr} {xs : List V} {vs : List V}
theorem g_seq (h : t (Dn D (u D)) σ H) : tSeq t u D σ H := h
theorem g_cut (Mid : L2.St → Hp → Prop) (h : t (Dn D Mid) σ H) (k : ∀ σ' H', Mid σ' H' → u D σ' H') : C8.tCut t u D σ H := ⟨Mid, h, k⟩
theorem g_mid (M : L2.St → Hp → Prop) (mono : ∀ (f1 f2 : L2.St → Hp → Prop), (∀ σ H, f1 σ H → f2 σ H) → t (Dn D f1) σ H → t (Dn D f2) σ H) (h : t (Dn D M) σ H) (k : ∀ σ H, M σ H → u D σ H) : tSeq t u D σ H := mono _ _ k h
theorem g_next (h : D.nx σ H) : tNext D σ H := h
theorem g_nx (h : f σ H) : (Dn D f).nx σ H := h
theorem g_rt (h : D.rt v H) : (Dn D f).rt v H := h
theorem g_rt0 (h : Q v H) : (D0 Q).rt v H := h
theorem g_nx0 (h : Q .non H) : (D0 Q).nx σ H := h
theorem g_lnx (h : f σ H) : (Dl D f).nx σ H := h
theorem g_lct (h : f σ H) : (Dl D f).ct σ H := h
theorem g_lbk (h : D.nx σ H) : (Dl D f).bk σ H := h
theorem g_lrt (h : D.rt v H) : (Dl D f).rt v H := h
theorem g_bk (h : D.bk σ H) : (Dn D f).bk σ H := h
theorem g_ct (h : D.ct σ H) : (Dn D f).ct σ H := h
theorem g_break (h : D.bk σ H) : tBreak D σ H := h
theorem g_cont (h : D.ct σ H) : tCont D σ H := h
theorem g_asg {g : TG} (h : te σ H fun x H1 => g x σ H1 D.nx) : tAsg te g D σ H := h
theorem g_name (h : f (σ.set n (some v)) H) : gName n v σ H f := h
theorem g_sub {to ti : TE} {ts : TSet} (h : to σ H fun o H1 => ti σ H1 fun i H2 => ts o i v H2 fun H3 => f σ H3) : gSub to ti ts v σ H f := h
theorem g_setL {k : Int} {m : Nat} {F : Hp → Prop} (h : H p = some (.lst xs)) (a : ixN xs.length k = some m) (q : F (upd H p (.lst (xs.set m v)))) : rSetL (.ref p) (.int k) v H F := ⟨p, xs, k, m, rfl, rfl, h, a, q⟩
theorem g_ret (h : te σ H D.rt) : tRet te D σ H := h
theorem g_retN (h : D.rt .non H) : tRetN D σ H := h
theorem g_drop (h : te σ H fun _ H1 => D.nx σ H1) : tDrop te D σ H := h
theorem g_ifs (h : tt σ H fun b H1 => if b = true then t D σ H1 else u D σ H1) : tIfS tt t u D σ H := h
theorem g_aug {ti : TIp} (a : σ[n]? = some (some x)) (h : te σ H fun y H1 => ti x y H1 fun z H2 => D.nx (σ.set n (some z)) H2) : tAug n te ti D σ H := ⟨x, a, h⟩
theorem g_ipI {g : Int → Int → Int} (h : Q (.int (g i j)) H) : ipI g (.int i) (.int j) H Q := ⟨i, j, rfl, rfl, h⟩
theorem g_augS {to ti : TE} {tget : V → V → Hp → VK → Prop} {tip : TIp} {ts : TSet} (h : to σ H fun o H1 => ti σ H1 fun i H2 => tget o i H2 fun x H3 => te σ H3 fun y H4 => tip x y H4 fun z H5 => ts o i z H5 fun H6 => D.nx σ H6) : tAugS to ti te tget tip ts D σ H := h
theorem g_var (h : σ[n]? = some (some v)) (q : Q v H) : tVar n σ H Q := ⟨v, h, q⟩
theorem g_c (q : Q v H) : tC v σ H Q := q
theorem g_op (h : ta σ H fun x H1 => tb σ H1 fun y H2 => r x y H2 Q) : tOp r ta tb σ H Q := h
theorem g_un {r : V → Hp → VK → Prop} (h : ta σ H fun x H1 => r x H1 Q) : tUn r ta σ H Q := h
theorem g_neg (h : Q (.int (-i)) H) : rU (fun i => .int (-i)) (.int i) H Q := ⟨i, rfl, h⟩
theorem g_chain (h : ta σ H fun x H1 => tb σ H1 fun y H2 => r x y H2 fun z H3 => ∃ k, z = .bl k ∧ (if k = true then tc σ H3 fun w' H4 => r' y w' H4 Q else Q (.bl false) H3)) : tChain r r' ta tb tc σ H Q := h
theorem g_ch {A B : Bool → Prop} {k : Bool} (h : if k = true then A k else B k) : ∃ c, V.bl k = .bl c ∧ (if c = true then A c else B c) := ⟨k, rfl, h⟩
theorem g_test (h : te σ H fun x H1 => ∃ k, x = .bl k ∧ QB k H1) : tTest te σ H QB := h
theorem g_tB (h : te σ H fun x H1 => ∃ k, x = .bl k ∧ QB k H1) : tB te σ H QB := h
theorem g_kb {A : Bool → Prop} {k : Bool} (h : A k) : ∃ c, V.bl k = .bl c ∧ A c := ⟨k, rfl, h⟩
theorem g_and (h : tt1 σ H fun c H1 => if c = true then tt2 σ H1 QB else QB false H1) : tAnd tt1 tt2 σ H QB := h
theorem g_or (h : tt1 σ H fun c H1 => if c = true then QB true H1 else tt2 σ H1 QB) : tOr tt1 tt2 σ H QB := h
theorem g_not (h : tt σ H fun c H1 => QB (!c) H1) : tNot tt σ H QB := h
theorem g_andV (h : ta σ H fun x H1 => ∃ c, x = .bl c ∧ if c = true then tb σ H1 Q else Q (.bl false) H1) : tAndV ta tb σ H Q := h
theorem g_orV (h : ta σ H fun x H1 => ∃ c, x = .bl c ∧ if c = true then Q (.bl true) H1 else tb σ H1 Q) : tOrV ta tb σ H Q := h
theorem g_notV (h : ta σ H fun x H1 => ∃ c, x = .bl c ∧ Q (.bl (!c)) H1) : tNotV ta σ H Q := h
theorem g_if (h : tt σ H fun c H1 => if c = true then ta σ H1 Q else tb σ H1 Q) : tIf tt ta tb σ H Q := h
theorem g_T {A B : Prop} (h : A) : if true = true then A else B := iteT h
theorem g_F {A B : Prop} (h : B) : if false = true then A else B := iteF h
theorem g_nF {A B : Prop} (h : A) : if (!false) = true then A else B := iteT h
theorem g_nT {A B : Prop} (h : B) : if (!true) = true then A else B := iteF h
theorem g_dec {P A B : Prop} [Decidable P] (h1 : P → A) (h2 : ¬ P → B) : if decide P = true then A else B := ite2 (fun h => h1 (of_decide_eq_true h)) (fun h => h2 (fun z => h (decide_eq_true z)))
theorem g_ndec {P A B : Prop} [Decidable P] (h1 : ¬ P → A) (h2 : P → B) : if (!decide P) = true then A else B := by
  by_cases h : P
  · rw [decide_eq_true h]; exact iteF (h2 h)
  · rw [decide_eq_false h]; exact iteT (h1 h)
theorem g_decT {P A B : Prop} [Decidable P] (h : P) (a : A) : if decide P = true then A else B := g_dec (fun _ => a) (fun z => absurd h z)
theorem g_decF {P A B : Prop} [Decidable P] (h : ¬ P) (a : B) : if decide P = true then A else B := g_dec (fun z => absurd z h) (fun _ => a)
theorem g_nbl {k : Bool} {A B : Prop} (h : if k = true then B else A) : if (!k) = true then A else B := by cases k <;> exact h
theorem g_bl {k : Bool} {A B : Prop} (h1 : k = true → A) (h2 : k = false → B) : if k = true then A else B := by
  cases k
  · exact iteF (h2 rfl)
  · exact iteT (h1 rfl)
theorem g_nil (q : QA [] H) : tNil σ H QA := q
theorem g_cons {tr : TA} (h : ta σ H fun x H1 => tr σ H1 fun xs H2 => QA (x :: xs) H2) : tCons ta tr σ H QA := h
theorem g_tup {t : TA} (h : t σ H fun xs H1 => xs.length ≤ sizeLine ∧ ∀ p, H1 p = none → Q (.ref p) (upd H1 p (.tup xs))) : tTup t σ H Q := h
theorem g_lst {t : TA} (h : t σ H fun xs H1 => xs.length ≤ sizeLine ∧ ∀ p, H1 p = none → Q (.ref p) (upd H1 p (.lst xs))) : tLst t σ H Q := h
theorem g_new {A : Prop} (h : xs.length ≤ 1000) (q : A) : xs.length ≤ sizeLine ∧ A := ⟨sz (Nat.le_trans h (by decide)), q⟩
theorem g_call {sp : Sp} {dvs : List V} {E : XK} {t : TA} (h : t σ H fun vs H1 => sp (vs ++ dvs) H1 Q E) : tCall sp dvs E t σ H Q := h
theorem g_meth {C : Addr} {m : Str} {sp : Sp} {dvs : List V} {E : XK} {t : TA} (h : ta σ H fun x H1 => ∃ a dx fs, x = .ref a ∧ H1 a = some (.ins C dx fs) ∧ fs.lookup m = none ∧ t σ H1 fun vs H2 => sp (x :: (vs ++ dvs)) H2 Q E) : tMeth C m sp dvs E ta t σ H Q := h
theorem g_m {C a dx : Addr} {fs : List (Str × V)} {m : Str} {B : Prop} (h : H a = some (.ins C dx fs)) (l : fs.lookup m = none) (q : B) : ∃ a' dx fs, V.ref a = .ref a' ∧ H a' = some (.ins C dx fs) ∧ fs.lookup m = none ∧ B := ⟨a, dx, fs, rfl, h, l, q⟩
theorem g_make {C : Addr} {sp : Sp} {dvs : List V} {E : XK} {t : TA} (h : t σ H fun vs H1 => ∀ x dx, H1 x = none → H1 dx = none → dx ≠ x → sp (.ref x :: (vs ++ dvs)) (upd (upd H1 dx (.own x)) x (.ins C dx [])) (fun v H2 => v = .non ∧ Q (.ref x) H2) E) : tMake C sp dvs E t σ H Q := h
theorem g_fld {F : Str} (h : ta σ H fun x H1 => ∃ a C dx fs v, x = .ref a ∧ H1 a = some (.ins C dx fs) ∧ Cls K C ∧ NoAttr K C F ∧ fs.lookup F = some v ∧ Q v H1) : tFld K ta F σ H Q := h
theorem g_fl {a C dx : Addr} {fs : List (Str × V)} {F : Str} {B : V → Prop} (h : H a = some (.ins C dx fs)) (c : Cls K C) (nn : NoAttr K C F) (l : fs.lookup F = some v) (q : B v) : ∃ a' C dx fs v, V.ref a = .ref a' ∧ H a' = some (.ins C dx fs) ∧ Cls K C ∧ NoAttr K C F ∧ fs.lookup F = some v ∧ B v := ⟨a, C, dx, fs, v, rfl, h, c, nn, l, q⟩
theorem g_sfld {tv : TE} {F : Str} (h : tv σ H fun y H1 => ta σ H1 fun x H2 => ∃ a C dx fs, x = .ref a ∧ H2 a = some (.ins C dx fs) ∧ Cls K C ∧ NoAttr K C F ∧ fs.length < 1000 ∧ D.nx σ (upd H2 a (.ins C dx (putF F y fs)))) : sFld K ta tv F D σ H := h
theorem g_sf {a C dx : Addr} {fs : List (Str × V)} {F : Str} {B : Addr → Addr → Addr → List (Str × V) → Prop} (h : H a = some (.ins C dx fs)) (c : Cls K C) (nn : NoAttr K C F) (l : fs.length < 1000) (q : B a C dx fs) : ∃ a' C dx fs, V.ref a = .ref a' ∧ H a' = some (.ins C dx fs) ∧ Cls K C ∧ NoAttr K C F ∧ fs.length < 1000 ∧ B a' C dx fs := ⟨a, C, dx, fs, rfl, h, c, nn, l, q⟩
theorem g_cb {r : List V → Hp → VK → Prop} {t : TA} (h : t σ H fun vs H1 => r vs H1 Q) : tCB r t σ H Q := h
theorem g_ixL (h : SqL K H p xs) (a : atI xs i = some v) (q : Q v H) : rIxL K (.ref p) (.int i) H Q := ⟨p, xs, i, v, rfl, rfl, h, a, q⟩
theorem g_ixT (h : SqT K H p xs) (a : atI xs i = some v) (q : Q v H) : rIxT K (.ref p) (.int i) H Q := ⟨p, xs, i, v, rfl, rfl, h, a, q⟩
theorem g_ixS {z : Str} {k : Nat} (h : z.length ≤ sizeLine) (a : atI z.cps.toList i = some k) (q : Q (.str ⟨#[k]⟩) H) : rIxS (.str z) (.int i) H Q := ⟨z, i, k, rfl, rfl, h, a, q⟩
theorem g_lenL (h : SqL K H p xs) (q : Q (.int xs.length) H) : rLen K [.ref p] H Q := ⟨p, xs, rfl, .inl h, q⟩
theorem g_lenT (h : SqT K H p xs) (q : Q (.int xs.length) H) : rLen K [.ref p] H Q := ⟨p, xs, rfl, .inr h, q⟩
theorem g_lenS {z : Str} (h : z.length ≤ sizeLine) (q : Q (.int z.length) H) : rLenS [.str z] H Q := ⟨z, rfl, h, q⟩
theorem g_listL (h : SqL K H p xs) (q : ∀ l, H l = none → Q (.ref l) (upd H l (.lst xs))) : rListOf K [.ref p] H Q := ⟨p, xs, rfl, .inl h, q⟩
theorem g_listT (h : SqT K H p xs) (q : ∀ l, H l = none → Q (.ref l) (upd H l (.lst xs))) : rListOf K [.ref p] H Q := ⟨p, xs, rfl, .inr h, q⟩
theorem g_tupL (h : SqL K H p xs) (q : ∀ l, H l = none → Q (.ref l) (upd H l (.tup xs))) : rTupOf K [.ref p] H Q := ⟨p, xs, rfl, .inl ⟨h, q⟩⟩
theorem g_tupT (h : SqT K H p xs) (q : Q (.ref p) H) : rTupOf K [.ref p] H Q := ⟨p, xs, rfl, .inr ⟨h, q⟩⟩
theorem g_addS {a b : Str} (h : a.length + b.length ≤ sizeLine) (q : Q (.str (a ++ b)) H) : rAddS (.str a) (.str b) H Q := ⟨a, b, rfl, rfl, h, q⟩
theorem g_inS {k : Nat} {z : Str} (q : Q (.bl (decide (k ∈ z.cps.toList))) H) : rInS (.str ⟨#[k]⟩) (.str z) H Q := ⟨k, z, rfl, rfl, q⟩
theorem g_notInS {k : Nat} {z : Str} (q : Q (.bl (!decide (k ∈ z.cps.toList))) H) : rNotInS (.str ⟨#[k]⟩) (.str z) H Q := ⟨k, z, rfl, rfl, q⟩
theorem g_inV {neg : Bool} (h : SqL K H p xs ∨ SqT K H p xs) (hx : flatV x = true) (hs : xs.all flatV = true) (q : Q (.bl (if neg then !inV x xs else inV x xs)) H) : rIn K neg x (.ref p) H Q := ⟨p, xs, rfl, h, hx, hs, q⟩
theorem g_isN (q : Q (.bl (decide (x = .non))) H) : rIsN x .non H Q := ⟨rfl, q⟩
theorem g_isNn (q : Q (.bl true) H) : rIsN .non .non H Q := ⟨rfl, q⟩
theorem g_isNi (q : Q (.bl false) H) : rIsN (.int i) .non H Q := ⟨rfl, q⟩
theorem g_isNb {k : Bool} (q : Q (.bl false) H) : rIsN (.bl k) .non H Q := ⟨rfl, q⟩
theorem g_isNs {z : Str} (q : Q (.bl false) H) : rIsN (.str z) .non H Q := ⟨rfl, q⟩
theorem g_isNr (q : Q (.bl false) H) : rIsN (.ref p) .non H Q := ⟨rfl, q⟩
theorem g_notNn (q : Q (.bl false) H) : rNotN .non .non H Q := ⟨rfl, q⟩
theorem g_notNi (q : Q (.bl true) H) : rNotN (.int i) .non H Q := ⟨rfl, q⟩
theorem g_notNb {k : Bool} (q : Q (.bl true) H) : rNotN (.bl k) .non H Q := ⟨rfl, q⟩
theorem g_notNs {z : Str} (q : Q (.bl true) H) : rNotN (.str z) .non H Q := ⟨rfl, q⟩
theorem g_notNr (q : Q (.bl true) H) : rNotN (.ref p) .non H Q := ⟨rfl, q⟩
theorem g_isB {k : Bool} (q : Q (.bl (decide (x = .bl k))) H) : rIsBl false x (.bl k) H Q := ⟨k, rfl, q⟩
theorem g_abs (q : Q (.int (if i < 0 then -i else i)) H) : rAbs [.int i] H Q := ⟨i, rfl, q⟩
theorem g_max2 (q : Q (.int (if j > i then j else i)) H) : rMax2 [.int i, .int j] H Q := ⟨i, j, rfl, q⟩
theorem g_min2 (q : Q (.int (if j < i then j else i)) H) : rMin2 [.int i, .int j] H Q := ⟨i, j, rfl, q⟩
theorem g_int1 (q : Q (.int i) H) : rInt1 [.int i] H Q := .inl ⟨i, rfl, q⟩
theorem g_intB {k : Bool} (q : Q (.int (if k then 1 else 0)) H) : rInt1 [.bl k] H Q := .inr ⟨k, rfl, q⟩
theorem g_I0 {g : Int → Int → V} (q : Q (g i j) H) : rI0 g (.int i) (.int j) H Q := ⟨i, j, rfl, rfl, q⟩
theorem g_I {C : Int → Int → Prop} {g : Int → Int → V} (c : C i j) (q : Q (g i j) H) : rI C g (.int i) (.int j) H Q := ⟨i, j, rfl, rfl, c, q⟩
theorem g_eqI (q : Q (.bl (decide (i = j))) H) : rEq (.int i) (.int j) H Q := ⟨rfl, by rw [dec_int, Bool.beq_eq_decide_eq]; exact q⟩
theorem g_eqS {a b : Str} (q : Q (.bl (decide (a = b))) H) : rEq (.str a) (.str b) H Q := ⟨rfl, by rw [dec_str, Bool.beq_eq_decide_eq]; exact q⟩
theorem g_eqB {a b : Bool} (q : Q (.bl (decide (a = b))) H) : rEq (.bl a) (.bl b) H Q := ⟨rfl, by rw [dec_bl, Bool.beq_eq_decide_eq]; exact q⟩
theorem g_neI (q : Q (.bl (!decide (i = j))) H) : rNe (.int i) (.int j) H Q := ⟨rfl, by rw [dec_int, Bool.beq_eq_decide_eq]; exact q⟩
theorem g_neS {a b : Str} (q : Q (.bl (!decide (a = b))) H) : rNe (.str a) (.str b) H Q := ⟨rfl, by rw [dec_str, Bool.beq_eq_decide_eq]; exact q⟩
theorem g_neB {a b : Bool} (q : Q (.bl (!decide (a = b))) H) : rNe (.bl a) (.bl b) H Q := ⟨rfl, by rw [dec_bl, Bool.beq_eq_decide_eq]; exact q⟩
theorem g_i_nn_bool (q : Q (.bl false) H) : rIsi K [.non, .ty "bool"] H Q := isi TyOf.non kb_nn_bool q
theorem g_i_nn_int (q : Q (.bl false) H) : rIsi K [.non, .ty "int"] H Q := isi TyOf.non kb_nn_int q
theorem g_i_nn_str (q : Q (.bl false) H) : rIsi K [.non, .ty "str"] H Q := isi TyOf.non kb_nn_str q
theorem g_i_bl_bool {k : Bool} (q : Q (.bl true) H) : rIsi K [.bl k, .ty "bool"] H Q := isi (TyOf.bl _) kb_bl_bool q
theorem g_i_bl_int {k : Bool} (q : Q (.bl true) H) : rIsi K [.bl k, .ty "int"] H Q := isi (TyOf.bl _) kb_bl_int q
theorem g_i_bl_str {k : Bool} (q : Q (.bl false) H) : rIsi K [.bl k, .ty "str"] H Q := isi (TyOf.bl _) kb_bl_str q
theorem g_i_int_bool (q : Q (.bl false) H) : rIsi K [.int i, .ty "bool"] H Q := isi (TyOf.int _) kb_int_bool q
theorem g_i_int_int (q : Q (.bl true) H) : rIsi K [.int i, .ty "int"] H Q := isi (TyOf.int _) kb_int_int q
theorem g_i_int_str (q : Q (.bl false) H) : rIsi K [.int i, .ty "str"] H Q := isi (TyOf.int _) kb_int_str q
theorem g_i_str_bool {z : Str} (q : Q (.bl false) H) : rIsi K [.str z, .ty "bool"] H Q := isi (TyOf.str _) kb_str_bool q
theorem g_i_str_int {z : Str} (q : Q (.bl false) H) : rIsi K [.str z, .ty "int"] H Q := isi (TyOf.str _) kb_str_int q
theorem g_i_str_str {z : Str} (q : Q (.bl true) H) : rIsi K [.str z, .ty "str"] H Q := isi (TyOf.str _) kb_str_str q
theorem g_isi {n : String} (h : rIsi K [x, .ty n] H Q) : rIsi K [x, .ty n] H Q := h
theorem g_part {QO : Option Int → Hp → Prop} (h : te σ H fun x H1 => ∃ i, x = .int i ∧ QO (some i) H1) : tPart te σ H QO := h
theorem g_pi {A : Int → Prop} (h : A i) : ∃ k, V.int i = .int k ∧ A k := ⟨i, rfl, h⟩
theorem g_nopart {QO : Option Int → Hp → Prop} (h : QO none H) : tNoPart σ H QO := h
theorem g_sl {r : V → Option Int → Option Int → Hp → VK → Prop} {tl th : TO} (h : te σ H fun x H1 => tl σ H1 fun l H2 => th σ H2 fun u H3 => r x l u H3 Q) : tSl r te tl th σ H Q := h
theorem g_slL {lo hi : Option Int} (h : SqL K H p xs) (q : ∀ l, H l = none → Q (.ref l) (upd H l (.lst (cutV xs lo hi)))) : rSlL K (.ref p) lo hi H Q := ⟨p, xs, rfl, h, q⟩
theorem g_cat {p q : Addr} {zs : List V} (h : H p = some (.lst xs)) (h2 : H q = some (.lst zs)) (l : xs.length + zs.length ≤ sizeLine) (k : ∀ l, H l = none → Q (.ref l) (upd H l (.lst (xs ++ zs)))) : rCat (.ref p) (.ref q) H Q := ⟨p, q, xs, zs, rfl, rfl, h, h2, l, k⟩
theorem g_bm {T : String} {r : V → List V → Hp → VK → Prop} {to : TE} {t : TA} (h : to σ H fun x H1 => tyV K T x H1 ∧ t σ H1 fun xs H2 => r x xs H2 Q) : tBM K T r to t σ H Q := h
theorem g_bm0 {T : String} {r : V → List V → Hp → VK → Prop} {to : TE} (h : to σ H fun x H1 => tyV K T x H1 ∧ r x [] H1 Q) : tBM0 K T r to σ H Q := h
theorem g_tyL {B : Prop} (h : SqL K H p xs) (q : B) : tyV K "list" (.ref p) H ∧ B := ⟨.inl ⟨rfl, _, h⟩, q⟩
theorem g_append (h : H p = some (.lst xs)) (l : xs.length < sizeLine) (q : Q .non (upd H p (.lst (xs ++ [v])))) : rAppend (.ref p) [v] H Q := ⟨p, xs, v, rfl, rfl, h, l, q⟩
theorem g_m1 {r : V → List V → Hp → VK → Prop} {to : TE} (h : to σ H fun x H1 => (∃ a, x = .str a) ∧ te σ H1 fun y H2 => r x [y] H2 Q) : tM1 r to te σ H Q := h
theorem g_str {z : Str} {B : Prop} (q : B) : (∃ a, V.str z = .str a) ∧ B := ⟨⟨z, rfl⟩, q⟩
theorem g_for {wi : TI} {g : TG} (h : wi σ H fun J H1 => ∃ W : Nat → Nat → L2.St → Hp → Prop, (∃ m, W 0 m σ H1) ∧ ∀ i m σ H, W i m σ H →
  (J.stop i H ∧ D.nx σ H) ∨ (J.go i H ∧ ∃ N : L2.St → Hp → Prop, (∀ σ' H', N σ' H' → ∃ m', m' < m ∧ W (i + 1) m' σ' H') ∧ ∀ x H', J.yld i H x H' → g x σ H' fun σ2 H2 => t (Dl D N) σ2 H2)) : tFor wi g t D σ H := h
theorem g_forR {lo : Int} {m : Nat} {g : TG} (Pv : Nat → L2.St → Hp → Prop) (h0 : Pv 0 σ H) (hs : ∀ i σ H, i < m → Pv i σ H → g (.int (lo + i)) σ H fun σ2 H2 => t (Dl D (Pv (i + 1))) σ2 H2) (hd : ∀ σ H, Pv m σ H → D.nx σ H) :
    ∃ W : Nat → Nat → L2.St → Hp → Prop, (∃ m, W 0 m σ H) ∧ ∀ i m' σ H, W i m' σ H →
      ((Itr lo m).stop i H ∧ D.nx σ H) ∨ ((Itr lo m).go i H ∧ ∃ N : L2.St → Hp → Prop, (∀ σ' H', N σ' H' → ∃ m'', m'' < m' ∧ W (i + 1) m'' σ' H') ∧ ∀ x H', (Itr lo m).yld i H x H' → g x σ H' fun σ2 H2 => t (Dl D N) σ2 H2) := for_range (D := D) Pv h0 hs hd
theorem g_forL {g : TG} (Pv : Nat → L2.St → Hp → Prop) (h0 : Pv 0 σ H) (hl : ∀ i σ H, i ≤ xs.length → Pv i σ H → SqL K H p xs) (hs : ∀ i x σ H, xs[i]? = some x → Pv i σ H → g x σ H fun σ2 H2 => t (Dl D (Pv (i + 1))) σ2 H2) (hd : ∀ σ H, Pv xs.length σ H → D.nx σ H) :
    ∃ W : Nat → Nat → L2.St → Hp → Prop, (∃ m, W 0 m σ H) ∧ ∀ i m' σ H, W i m' σ H →
      ((Itl K p).stop i H ∧ D.nx σ H) ∨ ((Itl K p).go i H ∧ ∃ N : L2.St → Hp → Prop, (∀ σ' H', N σ' H' → ∃ m'', m'' < m' ∧ W (i + 1) m'' σ' H') ∧ ∀ x H', (Itl K p).yld i H x H' → g x σ H' fun σ2 H2 => t (Dl D N) σ2 H2) := for_list (D := D) Pv h0 hl hs hd
theorem g_forT {g : TG} (Pv : Nat → L2.St → Hp → Prop) (h0 : Pv 0 σ H) (hl : ∀ i σ H, i ≤ xs.length → Pv i σ H → SqT K H p xs) (hs : ∀ i x σ H, xs[i]? = some x → Pv i σ H → g x σ H fun σ2 H2 => t (Dl D (Pv (i + 1))) σ2 H2) (hd : ∀ σ H, Pv xs.length σ H → D.nx σ H) :
    ∃ W : Nat → Nat → L2.St → Hp → Prop, (∃ m, W 0 m σ H) ∧ ∀ i m' σ H, W i m' σ H →
      ((Itt K p).stop i H ∧ D.nx σ H) ∨ ((Itt K p).go i H ∧ ∃ N : L2.St → Hp → Prop, (∀ σ' H', N σ' H' → ∃ m'', m'' < m' ∧ W (i + 1) m'' σ' H') ∧ ∀ x H', (Itt K p).yld i H x H' → g x σ H' fun σ2 H2 => t (Dl D N) σ2 H2) := for_tup (D := D) Pv h0 hl hs hd
theorem g_iRng1 {R : It → Hp → Prop} {t : TA} (h : t σ H fun vs H1 => ∃ j : Int, vs = [.int j] ∧ -(2 ^ 62) ≤ j ∧ j < 2 ^ 62 ∧ R (Itr 0 j.toNat) H1) : iRng1 t σ H R := h
theorem g_r1 {B : Int → Prop} (h0 : -(2 ^ 62) ≤ i) (h1 : i < 2 ^ 62) (h : B i) : ∃ j : Int, [V.int i] = [.int j] ∧ -(2 ^ 62) ≤ j ∧ j < 2 ^ 62 ∧ B j := ⟨i, rfl, h0, h1, h⟩
theorem g_iRng2 {R : It → Hp → Prop} {t : TA} (h : t σ H fun vs H1 => ∃ i j : Int, vs = [.int i, .int j] ∧ (-(2 ^ 62) ≤ i ∧ i < 2 ^ 62 ∧ -(2 ^ 62) ≤ j ∧ j < 2 ^ 62) ∧ R (Itr i (j - i).toNat) H1) : iRng2 t σ H R := h
theorem g_r2 {B : Int → Int → Prop} (h0 : -(2 ^ 62) ≤ i ∧ i < 2 ^ 62 ∧ -(2 ^ 62) ≤ j ∧ j < 2 ^ 62) (h : B i j) : ∃ i' j' : Int, [V.int i, V.int j] = [.int i', .int j'] ∧ (-(2 ^ 62) ≤ i' ∧ i' < 2 ^ 62 ∧ -(2 ^ 62) ≤ j' ∧ j' < 2 ^ 62) ∧ B i' j' := ⟨i, j, rfl, h0, h⟩
theorem g_iList {R : It → Hp → Prop} (h : te σ H fun x H1 => ∃ a, x = .ref a ∧ (∃ xs, SqL K H1 a xs) ∧ R (Itl K a) H1) : iList K te σ H R := h
theorem g_il {B : Addr → Prop} (h : SqL K H p xs) (q : B p) : ∃ a, V.ref p = .ref a ∧ (∃ xs, SqL K H a xs) ∧ B a := ⟨p, rfl, ⟨xs, h⟩, q⟩
theorem g_iTup {R : It → Hp → Prop} (h : te σ H fun x H1 => ∃ a, x = .ref a ∧ (∃ xs, SqT K H1 a xs) ∧ R (Itt K a) H1) : iTup K te σ H R := h
theorem g_it {B : Addr → Prop} (h : SqT K H p xs) (q : B p) : ∃ a, V.ref p = .ref a ∧ (∃ xs, SqT K H a xs) ∧ B a := ⟨p, rfl, ⟨xs, h⟩, q⟩
theorem g_yes (h : QB true H) : tYes σ H QB := h
theorem g_lc {wi : TI} {g : TG} {vs : List Nat} (h : wi σ H fun J H1 => ∀ D, H1 D = none → ∃ W : Nat → Nat → Hp → Prop, (∃ m, W 0 m (upd H1 D (.lst []))) ∧ ∀ i m H, W i m H →
  (J.stop i H ∧ Q (.ref D) H) ∨ (J.go i H ∧ ∃ Nx : Hp → Prop, (∀ H', Nx H' → ∃ m', m' < m ∧ W (i + 1) m' H') ∧ ∀ x H', J.yld i H x H' → g x (wipe σ vs) H' fun σ2 H2 => wipe σ2 vs = wipe σ vs ∧ tt σ2 H2 fun b H3 =>
    if b = true then te σ2 H3 fun y H4 => ∃ acc, H4 D = some (.lst acc) ∧ acc.length < sizeLine ∧ Nx (upd H4 D (.lst (acc ++ [y]))) else Nx H3)) : tLc wi g tt te vs σ H Q := h
theorem g_wipe {σ2 : L2.St} {vs : List Nat} {B : Prop} (h : wipe σ2 vs = wipe σ vs) (q : B) : wipe σ2 vs = wipe σ vs ∧ B := ⟨h, q⟩
end

local macro_rules | `(tactic| walk_at "ne") => `(tactic| first | assumption | exact Ne.symm (by assumption) | exact ne_of_none (by assumption) (by assumption) | exact (ne_of_none (by assumption) (by assumption)).symm)
local macro_rules | `(tactic| walk_at "hp") => `(tactic| first | assumption | exact upd_same | exact (upd_ne (by walk_at "ne")).trans (by walk_at "hp"))
local macro_rules | `(tactic| walk_at "sq") => `(tactic| first | assumption | exact .inl (.inl (by walk_at "hp")))
local macro_rules | `(tactic| walk_at "at") => `(tactic| first | rfl | assumption)
local macro_rules | `(tactic| walk_at "cond") => `(tactic| first | exact ⟨by decide, by decide⟩ | exact Or.inr ⟨by decide, by decide⟩ | exact Or.inl ⟨by decide, by decide⟩ | decide | omega | exact ⟨by decide, by decide, by decide⟩ | exact ⟨by omega, by omega, by omega, by omega⟩)
local macro_rules | `(tactic| walk_at "go1") => `(tactic| first
  | with_reducible apply g_seq
  | ((with_reducible apply g_var); (· rfl))
  | with_reducible apply g_c
  | with_reducible apply g_op
  | with_reducible apply g_test
  | with_reducible apply g_kb
  | ((with_reducible apply g_ixL); (· walk_at "sq"); (· walk_at "at"))
  | with_reducible apply g_I0
  | ((with_reducible apply g_I); (· walk_at "cond"))
  | with_reducible apply g_eqI | with_reducible apply g_eqS | with_reducible apply g_eqB
  | with_reducible apply g_neI | with_reducible apply g_neS | with_reducible apply g_neB
  | with_reducible apply g_nx | with_reducible apply g_nx0 | with_reducible apply g_next
  | with_reducible apply g_rt | with_reducible apply g_rt0
  | with_reducible apply g_asg | with_reducible apply g_name | with_reducible apply g_ret | with_reducible apply g_retN | with_reducible apply g_drop | with_reducible apply g_ifs
  | with_reducible apply g_cons | with_reducible apply g_nil | with_reducible apply g_cb | with_reducible apply g_call
  | with_reducible apply g_T | with_reducible apply g_F | with_reducible apply g_nF | with_reducible apply g_nT
  | with_reducible apply g_tB | with_reducible apply g_and | with_reducible apply g_or | with_reducible apply g_not
  | with_reducible apply g_andV | with_reducible apply g_orV | with_reducible apply g_notV | with_reducible apply g_if | with_reducible apply g_ch | with_reducible apply g_chain
  | ((with_reducible apply g_lenL); (· walk_at "sq")) | ((with_reducible apply g_lenT); (· walk_at "sq"))
  | ((with_reducible apply g_listL); (· walk_at "sq")) | ((with_reducible apply g_listT); (· walk_at "sq"))
  | with_reducible apply g_int1 | with_reducible apply g_intB | with_reducible apply g_abs | with_reducible apply g_max2 | with_reducible apply g_min2
  | with_reducible apply g_isNn | with_reducible apply g_isNi | with_reducible apply g_isNb | with_reducible apply g_isNs | with_reducible apply g_isNr | with_reducible apply g_isN
  | with_reducible apply g_notNn | with_reducible apply g_notNi | with_reducible apply g_notNb | with_reducible apply g_notNs | with_reducible apply g_notNr
  | with_reducible apply g_isB
  | with_reducible apply g_i_nn_bool | with_reducible apply g_i_nn_int | with_reducible apply g_i_nn_str | with_reducible apply g_i_bl_bool | with_reducible apply g_i_bl_int | with_reducible apply g_i_bl_str | with_reducible apply g_i_int_bool | with_reducible apply g_i_int_int | with_reducible apply g_i_int_str | with_reducible apply g_i_str_bool | with_reducible apply g_i_str_int | with_reducible apply g_i_str_str
  | with_reducible apply g_sub | ((with_reducible apply g_setL); (· walk_at "hp"); (· rfl))
  | with_reducible apply g_tup | with_reducible apply g_lst | ((with_reducible apply g_new); (· exact Nat.le_of_ble_eq_true rfl))
  | with_reducible apply g_augS | with_reducible apply g_ipI | ((with_reducible apply g_aug); (· rfl))
  | with_reducible apply g_un | with_reducible apply g_neg
  | with_reducible apply g_inS | with_reducible apply g_notInS
  | with_reducible apply g_sl | with_reducible apply g_part | with_reducible apply g_pi | with_reducible apply g_nopart | ((with_reducible apply g_slL); (· walk_at "sq"))
  | ((with_reducible apply g_ixT); (· walk_at "sq"); (· walk_at "at"))
  | with_reducible apply g_bm | with_reducible apply g_bm0 | ((with_reducible apply g_tyL); (· walk_at "sq")) | with_reducible apply g_m1 | with_reducible apply g_str
  | with_reducible apply g_for | with_reducible apply g_iRng1 | ((with_reducible apply g_r1); (· walk_at "cond"); (· walk_at "cond")) | with_reducible apply g_iRng2 | ((with_reducible apply g_r2); (· walk_at "cond")) | with_reducible apply g_iList | ((with_reducible apply g_il); (· walk_at "sq")) | with_reducible apply g_iTup | ((with_reducible apply g_it); (· walk_at "sq"))
  | with_reducible apply g_lc | with_reducible apply g_yes
  | with_reducible apply g_fld | with_reducible apply g_sfld | with_reducible apply g_meth | with_reducible apply g_make
  | with_reducible apply g_break | with_reducible apply g_cont | with_reducible apply g_bk | with_reducible apply g_ct | with_reducible apply g_lnx | with_reducible apply g_lct | with_reducible apply g_lbk | with_reducible apply g_lrt)
local macro_rules | `(tactic| walk_at "go") => `(tactic| repeat walk_at "go1")
theorem g_start {t : TS} {Q : VK} {σ : L2.St} {H : Hp} (h : t (D0 Q) σ H) : t { nx := fun _ H' => Q .non H', rt := Q } σ H := h
local macro_rules | `(tactic| walk_at "go0") => `(tactic| with_reducible apply g_start)

/-! texts -/
def cd (z : Str) : List Nat := z.cps.toList
theorem cd_app (a b : Str) : cd (a ++ b) = cd a ++ cd b := by
  show (a.cps ++ b.cps).toList = a.cps.toList ++ b.cps.toList
  simp
theorem cd_len (a : Str) : (cd a).length = a.length := Array.length_toList
theorem cd_ext {a b : Str} (h : cd a = cd b) : a = b := by
  cases a with | mk x => cases b with | mk y =>
    have e : x = y := Array.toList_inj.mp h
    rw [e]
theorem cd_nil : cd "" = [] := by decide +kernel
theorem join_cd : ∀ l : List Str, cd (Txt.join "" l) = (l.map cd).flatten
  | [] => by rw [TL.join_eq]; rfl
  | [x] => by rw [TL.join_eq]; show cd x = (cd x :: []).flatten; simp
  | x :: y :: r => by
    rw [TL.join_eq]
    show cd (x ++ ("" : Str) ++ PySem.Str.join "" (y :: r)) = cd x ++ ((y :: r).map cd).flatten
    rw [cd_app, cd_app, cd_nil, List.append_nil, ← join_cd (y :: r), TL.join_eq]
theorem join_len (l : List Str) : (Txt.join "" l).length = (l.map (·.length)).sum := by
  rw [← cd_len, join_cd, List.length_flatten, List.map_map]
  congr 1

/-! _law_next: draws -/
/-- the state of the draws: the script's copy at a, three numbers -/
def StO (a : Addr) (i v r : Int) : HO := .lst [.ref a, .int i, .int v, .int r]
structure StAt (K : PySem.W.Frag) (H : Hp) (s a : Addr) (ns : List Int) : Prop where
  st : ∃ i v r, H s = some (StO a i v r) ∧ 0 ≤ i ∧ 0 ≤ v ∧ 0 ≤ r ∧ r < 2147483647
  li : H a = some (.lst (ns.map V.int))
  len : ns.length ≤ 63
  ne : a ≠ s
theorem StAt.but {K : PySem.W.Frag} {H H' : Hp} {s a : Addr} {ns : List Int} (x : StAt K H s a ns) (h : H' s = H s) (b : But s H H') : StAt K H' s a ns := by
  obtain ⟨⟨i, v, r, e, k⟩, li, len, ne⟩ := x
  exact ⟨⟨i, v, r, h.trans e, k⟩, b _ _ li ne, len, ne⟩
theorem StAt.same {K : PySem.W.Frag} {H H' : Hp} {s a : Addr} {ns : List Int} (x : StAt K H s a ns) (b : Same H H') : StAt K H' s a ns := by
  obtain ⟨i, v, r, e, k⟩ := x.st
  exact x.but ((b _ _ e).trans e.symm) (Same.but s b)
theorem StAt.new {K : PySem.W.Frag} {H : Hp} {s a : Addr} {ns : List Int} {q : Addr} {o : HO} (x : StAt K H s a ns) (b : H q = none) : StAt K (L2.upd H q o) s a ns := x.same (Same.new (Same.refl _) b)
theorem StAt.put {K : PySem.W.Frag} {H : Hp} {s a : Addr} {ns : List Int} {q : Addr} {o : HO} (x : StAt K H s a ns) (h1 : q ≠ s) (h2 : q ≠ a) : StAt K (L2.upd H q o) s a ns := by
  obtain ⟨⟨i, v, r, e, k⟩, li, len, ne⟩ := x
  exact ⟨⟨i, v, r, (upd_ne h1.symm).trans e, k⟩, (upd_ne h2.symm).trans li, len, ne⟩
theorem StAt.upd {K : PySem.W.Frag} {H : Hp} {s a : Addr} {ns : List Int} {i v r : Int} (x : StAt K H s a ns) (k : 0 ≤ i ∧ 0 ≤ v ∧ 0 ≤ r ∧ r < 2147483647) : StAt K (L2.upd H s (StO a i v r)) s a ns :=
  ⟨⟨i, v, r, upd_same, k⟩, (upd_ne x.ne).trans x.li, x.len, x.ne⟩
theorem StAt.there {K : PySem.W.Frag} {H : Hp} {s a : Addr} {ns : List Int} (x : StAt K H s a ns) : H s ≠ none := by
  obtain ⟨_, _, _, e, _⟩ := x.st
  rw [e]; exact fun z => nomatch z
theorem StAt.nes {K : PySem.W.Frag} {H : Hp} {s a : Addr} {ns : List Int} {q : Addr} (x : StAt K H s a ns) (b : H q = none) : q ≠ s := fun e => x.there (by rw [← e]; exact b)
theorem StAt.nea {K : PySem.W.Frag} {H : Hp} {s a : Addr} {ns : List Int} {q : Addr} (x : StAt K H s a ns) (b : H q = none) : q ≠ a := fun e => by
  have h := x.li
  rw [← e, b] at h
  cases h
def spNext (K : PySem.W.Frag) : Sp := fun vs H Q _ => ∃ (s a : Addr) (ns : List Int) (m : Int), vs = [.ref s, .int m] ∧ StAt K H s a ns ∧ 0 < m ∧ m.natAbs < 2 ^ 140 ∧
  ∀ i v r x, (0 ≤ i ∧ 0 ≤ v ∧ 0 ≤ r ∧ r < 2147483647) → 0 ≤ x → x < m → Q (.int x) (upd H s (StO a i v r))

def topS (i : Nat) : Stmt := PySem.Challenge.pw_kithbase_k70_kinds_of_values.main.body.getD i (.Pass ⟨0, 0, 0, 0⟩)
abbrev s_kind_of : Stmt := (topS 1)
theorem sc_kind_of : FnScope ["value"] ["value"] (defScope s_kind_of) := ⟨rfl, rfl, rfl, by decide +kernel, rfl, by decide +kernel, by decide +kernel⟩
abbrev s_fits : Stmt := (topS 2)
theorem sc_fits : FnScope ["first", "second"] ["first", "second"] (defScope s_fits) := ⟨rfl, rfl, rfl, by decide +kernel, rfl, by decide +kernel, by decide +kernel⟩
abbrev s_common : Stmt := (topS 3)
theorem sc_common : FnScope ["first", "second"] ["first", "second"] (defScope s_common) := ⟨rfl, rfl, rfl, by decide +kernel, rfl, by decide +kernel, by decide +kernel⟩
abbrev s_next : Stmt := (topS 5)
theorem sc_next : FnScope ["_law_state", "_law_limit", "_law_cell", "_law_value_here"] ["_law_state", "_law_limit"] (defScope s_next) := ⟨rfl, rfl, rfl, by decide +kernel, rfl, by decide +kernel, by decide +kernel⟩
abbrev s_same : Stmt := (topS 6)
theorem sc_same : FnScope ["_law_actual", "_law_expected", "_law_k"] ["_law_actual", "_law_expected"] (defScope s_same) := ⟨rfl, rfl, rfl, by decide +kernel, rfl, by decide +kernel, by decide +kernel⟩
abbrev s_char : Stmt := (topS 7)
theorem sc_char : FnScope ["_law_index", "_law_chars"] ["_law_index"] (defScope s_char) := ⟨rfl, rfl, rfl, by decide +kernel, rfl, by decide +kernel, by decide +kernel⟩
abbrev s_value : Stmt := (topS 8)
theorem sc_value : FnScope ["_law_state", "_law_pick", "_law_k"] ["_law_state"] (defScope s_value) := ⟨rfl, rfl, rfl, by decide +kernel, rfl, by decide +kernel, by decide +kernel⟩
abbrev s_kind : Stmt := (topS 9)
theorem sc_kind : FnScope ["_law_value_here"] ["_law_value_here"] (defScope s_kind) := ⟨rfl, rfl, rfl, by decide +kernel, rfl, by decide +kernel, by decide +kernel⟩
abbrev s_law : Stmt := (topS 10)
theorem sc_law : FnScope ["_law_script", "_law_state", "_law_k", "_law_value_here", "_law_kinds", "_law_turned", "_law_first", "_law_second", "_law_alike", "_law_due"] ["_law_script"] (defScope s_law) := ⟨rfl, rfl, rfl, by decide +kernel, rfl, by decide +kernel, by decide +kernel⟩
theorem bt_bool : bootBuiltins "bool" = some (.type "bool") := by decide +kernel
theorem bt_int : bootBuiltins "int" = some (.type "int") := by decide +kernel
theorem bt_isinstance : bootBuiltins "isinstance" = some (.builtin "isinstance") := by decide +kernel
theorem bt_len : bootBuiltins "len" = some (.builtin "len") := by decide +kernel
theorem bt_list : bootBuiltins "list" = some (.type "list") := by decide +kernel
theorem bt_range : bootBuiltins "range" = some (.type "range") := by decide +kernel
theorem bt_str : bootBuiltins "str" = some (.type "str") := by decide +kernel
structure Txt (K : PySem.W.Frag) (mg : Str → Option Value) where
  a_kind_of : Addr
  d_kind_of : FuncData
  F_kind_of : Fun K "kind_of" "kind_of" s_kind_of a_kind_of d_kind_of
  b_kind_of : Binds K d_kind_of ["value"] []
  g_kind_of : mg "kind_of" = some (.ref a_kind_of)
  a_fits : Addr
  d_fits : FuncData
  F_fits : Fun K "fits" "fits" s_fits a_fits d_fits
  b_fits : Binds K d_fits ["first", "second"] []
  g_fits : mg "fits" = some (.ref a_fits)
  a_common : Addr
  d_common : FuncData
  F_common : Fun K "common" "common" s_common a_common d_common
  b_common : Binds K d_common ["first", "second"] []
  g_common : mg "common" = some (.ref a_common)
  a_next : Addr
  d_next : FuncData
  F_next : Fun K "_law_next" "_law_next" s_next a_next d_next
  b_next : Binds K d_next ["_law_state", "_law_limit"] []
  g_next : mg "_law_next" = some (.ref a_next)
  a_same : Addr
  d_same : FuncData
  F_same : Fun K "_law_same" "_law_same" s_same a_same d_same
  b_same : Binds K d_same ["_law_actual", "_law_expected"] []
  g_same : mg "_law_same" = some (.ref a_same)
  a_char : Addr
  d_char : FuncData
  F_char : Fun K "_law_char" "_law_char" s_char a_char d_char
  b_char : Binds K d_char ["_law_index"] []
  g_char : mg "_law_char" = some (.ref a_char)
  a_value : Addr
  d_value : FuncData
  F_value : Fun K "_law_value" "_law_value" s_value a_value d_value
  b_value : Binds K d_value ["_law_state"] []
  g_value : mg "_law_value" = some (.ref a_value)
  a_kind : Addr
  d_kind : FuncData
  F_kind : Fun K "_law_kind" "_law_kind" s_kind a_kind d_kind
  b_kind : Binds K d_kind ["_law_value_here"] []
  g_kind : mg "_law_kind" = some (.ref a_kind)
  a_law : Addr
  d_law : FuncData
  F_law : Fun K "law" "law" s_law a_law d_law
  b_law : Binds K d_law ["_law_script"] []
  g_law : mg "law" = some (.ref a_law)
  z_bool : mg "bool" = none
  z_int : mg "int" = none
  z_isinstance : mg "isinstance" = none
  z_len : mg "len" = none
  z_list : mg "list" = none
  z_range : mg "range" = none
  z_str : mg "str" = none
section
variable {P : Program} {w : World} {K : PySem.W.Frag} {mg : Str → Option Value} {base : Heap}
theorem ok_next (T : Txt K mg) : FnOk P w K mg base CX0 1 T.a_next T.d_next ["_law_state", "_law_limit"] (spNext K) := by
  refine T.F_next.ok sc_next (fun vs H Q E h => ?_) (fun cdv A outer s H vs Q E hr h => ?_)
  · obtain ⟨s, a, ns, m, rfl, _⟩ := h
    rfl
  · obtain ⟨p, a, ns, m, rfl, S, hm, hm2, q⟩ := h
    refine ⟨_, (C8.pss_cut (ps_if (PW.pt (pw_and (pt_cmpR op_eq (pe_ix ix_list (pv 0) pe_int (fun _ _ => rfl)) pe_int (nomark _)) (pw_and1 (pt_cmpR op_lt (pe_ix ix_list (pv 0) pe_int (fun _ _ => rfl)) (pe_callB c_len (by rfl) T.z_len bt_len (pa_cons (pe_ix ix_list (pv 0) pe_int (fun _ _ => rfl)) pa_nil)) (nomark _))))) (pss_cons (ps_set (i := 2) sc_next.nd rfl (.inl rfl) (pe_ix ix_list (pe_ix ix_list (pv 0) pe_int (fun _ _ => rfl)) (pe_ix ix_list (pv 0) pe_int (fun _ _ => rfl)) (fun _ _ => rfl)))
      (pss_cons (ps_augS (pv 0) pe_int get_list pe_int ip_add set_list)
      (pss_one (ps_if (pt_cmpR op_ge (pv 2) (pe_op op_pow pe_int pe_int) (nomark _)) (pss_one (ps_asg (pv 2) (pg_sub (pv 0) pe_int set_list))) (pss_one (ps_asg (pe_op op_mod (pe_callTy c_int1 (by rfl) T.z_int bt_int (pa_cons (pe_op op_add (pe_op op_add (pe_op op_mul (pe_ix ix_list (pv 0) pe_int (fun _ _ => rfl)) pe_int) (pe_op op_mod (pe_callTy c_int1 (by rfl) T.z_int bt_int (pa_cons (pv 2) pa_nil)) pe_int)) pe_int) pa_nil)) pe_int) (pg_sub (pv 0) pe_int set_list))))))) pss_nil)
      (pss_cons (ps_if (pt_cmpR op_gt (pe_ix ix_list (pv 0) pe_int (fun _ _ => rfl)) pe_int (nomark _)) (pss_cons (ps_set (i := 3) sc_next.nd rfl (.inl rfl) (pe_op op_mod (pe_callTy c_int1 (by rfl) T.z_int bt_int (pa_cons (pe_ix ix_list (pv 0) pe_int (fun _ _ => rfl)) pa_nil)) (pv 1)))
      (pss_cons (ps_asg (pe_op op_fdivW (pe_ix ix_list (pv 0) pe_int (fun _ _ => rfl)) (pv 1)) (pg_sub (pv 0) pe_int set_list))
      (pss_one (ps_ret (pv 3))))) pss_nil)
      (pss_cons (ps_asg (pe_op op_mod (pe_callTy c_int1 (by rfl) T.z_int bt_int (pa_cons (pe_op op_add (pe_op op_mul (pe_ix ix_list (pv 0) pe_int (fun _ _ => rfl)) pe_int) pe_int) pa_nil)) pe_int) (pg_sub (pv 0) pe_int set_list))
      (pss_one (ps_ret (pe_op op_mod (pe_callTy c_int1 (by rfl) T.z_int bt_int (pa_cons (pe_op op_fdiv (pe_ix ix_list (pv 0) pe_int (fun _ _ => rfl)) pe_int) pa_nil)) (pv 1))))))), ?_⟩
    obtain ⟨i, v, r, hS, k⟩ := S.st
    have hS0 := hS
    unfold StO at hS
    have hL := SqL.of (K := K) S.li
    have hlen := S.len
    have hne := S.ne
    walk_at "go0"
    refine g_cut (fun σ' H' => ∃ i v r c y, σ' = [some (.ref p), some (.int m), c, y] ∧ H' = upd H p (StO a i v r) ∧ 0 ≤ i ∧ 0 ≤ v ∧ 0 ≤ r ∧ r < 2147483647) ?_ ?_
    · walk_at "go"
      refine g_dec (fun hv => ?_) (fun _ => ?_)
      · walk_at "go"
        refine g_dec (fun hi => ?_) (fun _ => ?_)
        · rw [List.length_map] at hi
          obtain ⟨z, hz⟩ : ∃ z, ns[i.toNat]? = some z := ⟨ns[i.toNat], List.getElem?_eq_getElem (by omega)⟩
          have hz' : atI (ns.map V.int) i = some (.int z) := at_of (j := i.toNat) (by omega) (by rw [List.getElem?_map, hz]; rfl)
          walk_at "go"
          refine g_dec (fun hc => ?_) (fun _ => ?_)
          · walk_at "go"
            refine ⟨i + 1, z, r, some (.int z), none, rfl, by rw [upd_upd]; rfl, by omega, ?_, k.2.2.1, k.2.2.2⟩
            have : (0 : Int) ≤ 10 ^ (18 : Int).toNat := by decide
            omega
          · walk_at "go"
            refine ⟨i + 1, v, _, some (.int z), none, rfl, by rw [upd_upd]; rfl, by omega, k.2.1, Int.emod_nonneg _ (by decide), Int.emod_lt_of_pos _ (by decide)⟩
        · walk_at "go"
          exact ⟨i, v, r, none, none, rfl, (upd_id hS0).symm, k⟩
      · walk_at "go"
        exact ⟨i, v, r, none, none, rfl, (upd_id hS0).symm, k⟩
    · rintro σ' H' ⟨i, v, r, c, y, rfl, rfl, k⟩
      have hP : (upd H p (StO a i v r)) p = some (.lst [.ref a, .int i, .int v, .int r]) := upd_same
      walk_at "go"
      refine g_dec (fun hv => ?_) (fun _ => ?_)
      · walk_at "go"
        refine g_I (wide_div hm hm2 (by decide) (by decide)) ?_
        walk_at "go"
        rw [upd_upd]
        exact q i (v / m) r _ ⟨k.1, Int.ediv_nonneg k.2.1 (by omega), k.2.2.1, k.2.2.2⟩ (Int.emod_nonneg _ (by omega)) (Int.emod_lt_of_pos _ hm)
      · walk_at "go"
        rw [upd_upd]
        exact q i v _ _ ⟨k.1, k.2.1, Int.emod_nonneg _ (by decide), Int.emod_lt_of_pos _ (by decide)⟩ (Int.emod_nonneg _ (by omega)) (Int.emod_lt_of_pos _ hm)
end

/-! values -/
def ScB : V → Prop
  | .non => True
  | .bl _ => True
  | .int i => i.natAbs < 10 ^ 40
  | .str z => z.length ≤ 10
  | _ => False
def kindS : V → Str
  | .non => "null"
  | .bl _ => "boolean"
  | .int _ => "integer"
  | _ => "text"
def charCodes : List Nat := (" '!\"#$&()*+,-./0123456789:;<=>?@ABCDEFGHIJKLMNOPQRSTUVWXYZ[\\]^_`" : Str).cps.toList ++ ("abcdefghijklmnopqrstuvwxyz{|}~\n" : Str).cps.toList
def spKind : Sp := fun vs H Q _ => ∃ x, vs = [x] ∧ ScB x ∧ Q (.str (kindS x)) H
def spSame : Sp := fun vs H Q _ => ∃ x y, vs = [x, y] ∧ flatV x = true ∧ flatV y = true ∧ Q (.bl (decide (x = y))) H
def spChar : Sp := fun vs H Q _ => ∃ i : Int, vs = [.int i] ∧ ∀ c ∈ charCodes, Q (.str ⟨#[c]⟩) H
def spValue (K : PySem.W.Frag) : Sp := fun vs H Q _ => ∃ (s a : Addr) (ns : List Int), vs = [.ref s] ∧ StAt K H s a ns ∧ ∀ H' v, ScB v → StAt K H' s a ns → But s H H' → Q v H'
def spFits : Sp := fun vs H Q _ => ∃ a b : Str, vs = [.str a, .str b] ∧ Q (.bl (decide (a = b) || (decide (a = "null") || decide (b = "null")))) H
def spCommon : Sp := fun vs H Q _ => ∃ a b : Str, vs = [.str a, .str b] ∧ Q (.str (if a = "null" then b else a)) H
section
variable {P : Program} {w : World} {K : PySem.W.Frag} {mg : Str → Option Value} {base : Heap}
theorem ok_kind_of (T : Txt K mg) : FnOk P w K mg base CX0 1 T.a_kind_of T.d_kind_of ["value"] spKind := by
  refine T.F_kind_of.ok sc_kind_of (fun vs H Q E h => ?_) (fun cdv A outer s H vs Q E hr h => ?_)
  · obtain ⟨x, rfl, _⟩ := h
    rfl
  · obtain ⟨x, rfl, hx, q⟩ := h
    refine ⟨_, (pss_cons (ps_if (pt_cmpR o_isN (pv 0) pe_non (nomark _)) (pss_one (ps_ret pe_str)) pss_nil)
      (pss_cons (ps_if (pt_val (pe_callB call_isi (by rfl) T.z_isinstance bt_isinstance (pa_cons (pv 0) (pa_cons (pe_bltn (v := .ty "bool") (by rfl) T.z_bool bt_bool rfl) pa_nil)))) (pss_one (ps_ret pe_str)) pss_nil)
      (pss_cons (ps_if (pt_val (pe_callB call_isi (by rfl) T.z_isinstance bt_isinstance (pa_cons (pv 0) (pa_cons (pe_bltn (v := .ty "int") (by rfl) T.z_int bt_int rfl) pa_nil)))) (pss_one (ps_ret pe_str)) pss_nil)
      (pss_one (ps_ret pe_str))))), ?_⟩
    walk_at "go0"
    cases x <;> first | exact hx.elim | (walk_at "go"; exact q)
theorem ok_kind (T : Txt K mg) : FnOk P w K mg base CX0 1 T.a_kind T.d_kind ["_law_value_here"] spKind := by
  refine T.F_kind.ok sc_kind (fun vs H Q E h => ?_) (fun cdv A outer s H vs Q E hr h => ?_)
  · obtain ⟨x, rfl, _⟩ := h
    rfl
  · obtain ⟨x, rfl, hx, q⟩ := h
    refine ⟨_, (pss_cons (ps_if (pt_cmpR o_isN (pv 0) pe_non (nomark _)) (pss_one (ps_ret pe_str)) pss_nil)
      (pss_cons (ps_if (PW.pt (pw_or (pt_cmpR op_isB (pv 0) pe_bl (nomark _)) (pw_or1 (pt_cmpR op_isB (pv 0) pe_bl (nomark _))))) (pss_one (ps_ret pe_str)) pss_nil)
      (pss_cons (ps_if (pt_val (pe_callB call_isi (by rfl) T.z_isinstance bt_isinstance (pa_cons (pv 0) (pa_cons (pe_bltn (v := .ty "int") (by rfl) T.z_int bt_int rfl) pa_nil)))) (pss_one (ps_ret pe_str)) pss_nil)
      (pss_one (ps_ret pe_str))))), ?_⟩
    walk_at "go0"
    cases x with
    | non => walk_at "go"; exact q
    | bl b =>
      walk_at "go"
      refine g_dec (fun _ => ?_) (fun h1 => ?_)
      · walk_at "go"; exact q
      · walk_at "go"
        refine g_decT ?_ ?_
        · cases b
          · rfl
          · exact (h1 rfl).elim
        walk_at "go"; exact q
    | int i =>
      walk_at "go"
      refine g_decF (fun z => nomatch z) ?_
      walk_at "go"
      refine g_decF (fun z => nomatch z) ?_
      walk_at "go"; exact q
    | str z =>
      walk_at "go"
      refine g_decF (fun z => nomatch z) ?_
      walk_at "go"
      refine g_decF (fun z => nomatch z) ?_
      walk_at "go"; exact q
    | byt => exact hx.elim
    | flt => exact hx.elim
    | ref => exact hx.elim
    | ty => exact hx.elim
theorem ok_fits (T : Txt K mg) : FnOk P w K mg base CX0 1 T.a_fits T.d_fits ["first", "second"] spFits := by
  refine T.F_fits.ok sc_fits (fun vs H Q E h => ?_) (fun cdv A outer s H vs Q E hr h => ?_)
  · obtain ⟨a, b, rfl, _⟩ := h
    rfl
  · obtain ⟨a, b, rfl, q⟩ := h
    refine ⟨_, (pss_one (ps_ret (pe_or (pe_cmpR op_eq (pv 0) (pv 1) (nomark _)) (pe_or (pe_cmpR op_eq (pv 0) pe_str (nomark _)) (pe_one (pe_cmpR op_eq (pv 1) pe_str (nomark _))))))), ?_⟩
    walk_at "go0"
    walk_at "go"
    refine g_dec (fun h1 => ?_) (fun h1 => ?_)
    · walk_at "go"
      rw [decide_eq_true h1] at q
      exact q
    · walk_at "go"
      rw [decide_eq_false h1] at q
      refine g_dec (fun h2 => ?_) (fun h2 => ?_)
      · walk_at "go"
        rw [decide_eq_true h2] at q
        exact q
      · walk_at "go"
        rw [decide_eq_false h2] at q
        exact q
theorem ok_common (T : Txt K mg) : FnOk P w K mg base CX0 1 T.a_common T.d_common ["first", "second"] spCommon := by
  refine T.F_common.ok sc_common (fun vs H Q E h => ?_) (fun cdv A outer s H vs Q E hr h => ?_)
  · obtain ⟨a, b, rfl, _⟩ := h
    rfl
  · obtain ⟨a, b, rfl, q⟩ := h
    refine ⟨_, (pss_cons (ps_if (pt_cmpR op_eq (pv 0) pe_str (nomark _)) (pss_one (ps_ret (pv 1))) pss_nil)
      (pss_one (ps_ret (pv 0)))), ?_⟩
    walk_at "go0"
    walk_at "go"
    refine g_dec (fun h1 => ?_) (fun h1 => ?_)
    · walk_at "go"
      rw [if_pos h1] at q
      exact q
    · walk_at "go"
      rw [if_neg h1] at q
      exact q
theorem ok_same (T : Txt K mg) : FnOk P w K mg base CX0 1 T.a_same T.d_same ["_law_actual", "_law_expected"] spSame := by
  refine T.F_same.ok sc_same (fun vs H Q E h => ?_) (fun cdv A outer s H vs Q E hr h => ?_)
  · obtain ⟨x, y, rfl, _⟩ := h
    rfl
  · obtain ⟨x, y, rfl, hx, hy, q⟩ := h
    refine ⟨_, (pss_cons (ps_if (pt_cmpR o_isN (pv 1) pe_non (nomark _)) (pss_one (ps_ret (pe_cmpR o_isN (pv 0) pe_non (nomark _)))) pss_nil)
      (pss_cons (ps_if (pt_val (pe_callB call_isi (by rfl) T.z_isinstance bt_isinstance (pa_cons (pv 1) (pa_cons (pe_bltn (v := .ty "bool") (by rfl) T.z_bool bt_bool rfl) pa_nil)))) (pss_one (ps_ret (pe_and (pe_callB call_isi (by rfl) T.z_isinstance bt_isinstance (pa_cons (pv 0) (pa_cons (pe_bltn (v := .ty "bool") (by rfl) T.z_bool bt_bool rfl) pa_nil))) (pe_one (pe_cmpR op_eq (pv 0) (pv 1) (nomark _)))))) pss_nil)
      (pss_cons (ps_if (pt_val (pe_callB call_isi (by rfl) T.z_isinstance bt_isinstance (pa_cons (pv 1) (pa_cons (pe_bltn (v := .ty "int") (by rfl) T.z_int bt_int rfl) pa_nil)))) (pss_one (ps_ret (pe_and (pe_callB call_isi (by rfl) T.z_isinstance bt_isinstance (pa_cons (pv 0) (pa_cons (pe_bltn (v := .ty "int") (by rfl) T.z_int bt_int rfl) pa_nil))) (pe_and (pe_not (pe_callB call_isi (by rfl) T.z_isinstance bt_isinstance (pa_cons (pv 0) (pa_cons (pe_bltn (v := .ty "bool") (by rfl) T.z_bool bt_bool rfl) pa_nil)))) (pe_one (pe_cmpR op_eq (pv 0) (pv 1) (nomark _))))))) pss_nil)
      (pss_cons (ps_if (pt_val (pe_callB call_isi (by rfl) T.z_isinstance bt_isinstance (pa_cons (pv 1) (pa_cons (pe_bltn (v := .ty "str") (by rfl) T.z_str bt_str rfl) pa_nil)))) (pss_one (ps_ret (pe_and (pe_callB call_isi (by rfl) T.z_isinstance bt_isinstance (pa_cons (pv 0) (pa_cons (pe_bltn (v := .ty "str") (by rfl) T.z_str bt_str rfl) pa_nil))) (pe_one (pe_cmpR op_eq (pv 0) (pv 1) (nomark _)))))) pss_nil)
      pss_never)))), ?_⟩
    walk_at "go0"
    cases y <;> cases hy <;> cases x <;> cases hx <;> (walk_at "go"; first | exact q | (rw [dI] at q; exact q) | (rw [dB] at q; exact q) | (rw [dS] at q; exact q))
theorem ok_char (T : Txt K mg) : FnOk P w K mg base CX0 1 T.a_char T.d_char ["_law_index"] spChar := by
  refine T.F_char.ok sc_char (fun vs H Q E h => ?_) (fun cdv A outer s H vs Q E hr h => ?_)
  · obtain ⟨i, rfl, _⟩ := h
    rfl
  · obtain ⟨i, rfl, q⟩ := h
    refine ⟨_, (pss_cons (ps_set (i := 1) sc_char.nd rfl (.inl rfl) pe_str)
      (pss_cons (ps_set (i := 1) sc_char.nd rfl (.inl rfl) (pe_op o_addS (pv 1) pe_str))
      (pss_one (ps_ret (pe_ix ix_str (pv 1) (pe_op op_mod (pe_callTy c_int1 (by rfl) T.z_int bt_int (pa_cons (pv 0) pa_nil)) pe_int) (fun _ _ => rfl)))))), ?_⟩
    walk_at "go0"
    walk_at "go"
    refine g_addS (sz (by decide +kernel)) ?_
    walk_at "go"
    have h0 : 0 ≤ i % 95 := Int.emod_nonneg _ (by decide)
    have h1 : i % 95 < 95 := Int.emod_lt_of_pos _ (by decide)
    have hl : charCodes.length = 95 := by decide +kernel
    have hj : (i % 95).toNat < charCodes.length := by omega
    refine g_ixS (k := charCodes[(i % 95).toNat]) (sz (by decide +kernel)) (at_codes (j := (i % 95).toNat) (by omega) (List.getElem?_eq_getElem hj)) ?_
    exact q _ (List.getElem_mem hj)
theorem ok_value (T : Txt K mg) : FnOk P w K mg base CX0 2 T.a_value T.d_value ["_law_state"] (spValue K) := by
  have G_next : FnOk P w K mg base CX0 1 _ _ _ _ := ok_next T
  have G_char : FnOk P w K mg base CX0 1 _ _ _ _ := ok_char T
  refine T.F_value.ok sc_value (fun vs H Q E h => ?_) (fun cdv A outer s H vs Q E hr h => ?_)
  · obtain ⟨s, a, ns, rfl, _⟩ := h
    rfl
  · obtain ⟨p, a, ns, rfl, S, q⟩ := h
    refine ⟨_, (pss_cons (ps_set (i := 1) sc_value.nd rfl (.inl rfl) (pe_call G_next (hr.mono (by decide)) (by rfl) T.g_next T.F_next.kp T.b_next .nil pass0 (pa_cons (pv 0) (pa_cons pe_int pa_nil))))
      (pss_cons (ps_if (pt_cmpR op_lt (pv 1) pe_int (nomark _)) (pss_one (ps_ret (pe_ix ix_list (pe_lst (pa_cons pe_non (pa_cons pe_bl (pa_cons pe_bl pa_nil)))) (pv 1) (fun _ _ => rfl)))) pss_nil)
      (pss_cons (ps_if (pt_cmpR op_lt (pv 1) pe_int (nomark _)) (pss_one (ps_ret (pe_call G_next (hr.mono (by decide)) (by rfl) T.g_next T.F_next.kp T.b_next .nil pass0 (pa_cons (pv 0) (pa_cons pe_int pa_nil))))) pss_nil)
      (pss_cons (ps_if (pt_cmpR op_eq (pv 1) pe_int (nomark _)) (pss_one (ps_ret (pe_op op_mul (pe_op op_sub pe_int (pe_op op_mul pe_int (pe_call G_next (hr.mono (by decide)) (by rfl) T.g_next T.F_next.kp T.b_next .nil pass0 (pa_cons (pv 0) (pa_cons pe_int pa_nil))))) (pe_call G_next (hr.mono (by decide)) (by rfl) T.g_next T.F_next.kp T.b_next .nil pass0 (pa_cons (pv 0) (pa_cons (pe_op op_pow pe_int pe_int) pa_nil)))))) pss_nil)
      (pss_one (ps_ret (e_join pe_str (pe_lc (own := [("_law_k", 2)]) (g := gName 2) (tt := tYes) rfl sc_value.nd (pi_range1 (by rfl) T.z_range (pa_cons (pe_call G_next (hr.mono (by decide)) (by rfl) T.g_next T.F_next.kp T.b_next .nil pass0 (pa_cons (pv 0) (pa_cons pe_int pa_nil))) pa_nil)) (blkOk_by (own := [("_law_k", 2)]) (N := ["_law_state", "_law_pick", "_law_k"]) (sc := defScope s_value) (by decide +kernel)) (fun _ _ _ _ _ => (pg_name (i := 2) sc_value.nd rfl (.inl rfl))) (fun _ _ _ _ _ => pts_nil) (fun _ _ _ _ _ => (pe_call G_char (hr.mono (by decide)) (by rfl) T.g_char T.F_char.kp T.b_char .nil pass0 (pa_cons (pe_call G_next (hr.mono (by decide)) (by rfl) T.g_next T.F_next.kp T.b_next .nil pass0 (pa_cons (pv 0) (pa_cons pe_int pa_nil))) pa_nil))))))))))), ?_⟩
    walk_at "go0"
    walk_at "go"
    refine ⟨p, a, ns, 8, rfl, S, by decide, by decide, fun i v r x k h0 h1 => ?_⟩
    have S1 := S.upd k
    have b1 : But p H (upd H p (StO a i v r)) := (But.refl p H).upd
    generalize upd H p (StO a i v r) = H1 at S1 b1
    walk_at "go"
    refine g_dec (fun h3 => ?_) (fun h3 => ?_)
    · walk_at "go"
      intro l nl
      walk_at "go"
      obtain e | e | e : x = 0 ∨ x = 1 ∨ x = 2 := by omega
      all_goals
        subst e
        walk_at "go"
        exact q _ _ (by trivial) (S1.same (Same.new (Same.refl _) nl)) (b1.new nl)
    walk_at "go"
    refine g_dec (fun h4 => ?_) (fun h4 => ?_)
    · walk_at "go"
      refine ⟨p, a, ns, 2, rfl, S1, by decide, by decide, fun i v r y k h0 h1 => ?_⟩
      exact q _ _ (show y.natAbs < 10 ^ 40 by omega) (S1.upd k) b1.upd
    walk_at "go"
    refine g_dec (fun h4 => ?_) (fun h5 => ?_)
    · walk_at "go"
      refine ⟨p, a, ns, 2, rfl, S1, by decide, by decide, fun i v r y k h0 h1 => ?_⟩
      have S2 := S1.upd k
      have b2 : But p H (upd H1 p (StO a i v r)) := b1.upd
      generalize upd H1 p (StO a i v r) = H2 at S2 b2
      walk_at "go"
      refine ⟨p, a, ns, _, rfl, S2, by decide, by decide, fun i v r z k h0 h1 => ?_⟩
      walk_at "go"
      refine g_I (.inl ⟨by omega, by omega⟩) ?_
      refine q _ _ ?_ (S2.upd k) b2.upd
      have e : (10 : Int) ^ (40 : Int).toNat = 10 ^ 40 := by decide
      rw [e] at h1
      show ((1 - 2 * y) * z).natAbs < 10 ^ 40
      rw [Int.natAbs_mul]
      obtain e | e : y = 0 ∨ y = 1 := by omega
      · subst e; rw [show (1 - 2 * (0 : Int)).natAbs = 1 from by decide]; omega
      · subst e; rw [show (1 - 2 * (1 : Int)).natAbs = 1 from by decide]; omega
    walk_at "go"
    refine ⟨p, a, ns, 4, rfl, S1, by decide, by decide, fun i v r y k h0 h1 => ?_⟩
    have S2 := S1.upd k
    have b2 : But p H (upd H1 p (StO a i v r)) := b1.upd
    generalize upd H1 p (StO a i v r) = H2 at S2 b2
    walk_at "go"
    intro D nD
    have nDp := S2.nes nD
    have nDa := S2.nea nD
    refine lc_range (lo := 0) (n := y.toNat) (fun i H' => StAt K H' p a ns ∧ But p H H' ∧ ∃ ys : List Str, H' D = some (.lst (ys.map V.str)) ∧ ys.length = i ∧ ∀ z ∈ ys, z.length = 1)
      ⟨S2.new nD, b2.new nD, [], upd_same, rfl, fun _ z => nomatch z⟩ ?_ ?_
    · rintro i H3 hi ⟨S3, b3, ys, hD, hl, hz⟩
      walk_at "go"
      refine g_wipe rfl ?_
      walk_at "go"
      refine ⟨p, a, ns, 95, rfl, S3, by decide, by decide, fun i' v r z k h0 h1 => ?_⟩
      walk_at "go"
      refine ⟨z, rfl, fun c hc => ?_⟩
      refine ⟨ys.map V.str, (upd_ne nDp).trans hD, szlt (by rw [List.length_map]; omega), (S3.upd k).put nDp nDa, b3.upd.put (b2.free nDp nD), ys ++ [⟨#[c]⟩], ?_, ?_, ?_⟩
      · rw [upd_same, List.map_append]; rfl
      · rw [List.length_append, hl]; rfl
      · intro z hz'
        rcases List.mem_append.mp hz' with h | h
        · exact hz z h
        · rw [List.mem_singleton.mp h]; rfl
    · rintro H3 ⟨S3, b3, ys, hD, hl, hz⟩
      have hs : (ys.map (·.length)).sum = ys.length := by
        clear hl hD
        induction ys with
        | nil => rfl
        | cons z r ih =>
          rw [List.map_cons, List.sum_cons, ih (fun u hu => hz u (List.mem_cons_of_mem _ hu)), hz z List.mem_cons_self, List.length_cons]
          omega
      refine ⟨"", D, ys, rfl, rfl, .inl (.inl (.inl hD)), ?_, ?_⟩
      · rw [hs]
        show ys.length + ys.length * 0 ≤ 16777216
        omega
      refine q _ _ ?_ S3 b3
      show (Txt.join "" ys).length ≤ 10
      rw [join_len, hs]
      omega
def al (a b : Str) : Bool := decide (a = b) || (decide (a = "null") || decide (b = "null"))
def KS : List Str := ["integer", "null", "text", "boolean"]
def spLaw (K : PySem.W.Frag) : Sp := fun vs H Q _ => ∃ (a : Addr) (ns : List Int), vs = [.ref a] ∧ SqL K H a (ns.map V.int) ∧ ns.length ≤ 63 ∧ ∀ H', Q (.bl true) H'
theorem in_null (a b : Str) : inV (.str "null") [.str a, .str b] = (decide (a = "null") || decide (b = "null")) := by
  show (a == ("null" : Str) || (b == ("null" : Str) || false)) = _
  rw [Bool.or_false, Bool.beq_eq_decide_eq, Bool.beq_eq_decide_eq]
theorem cut_mem {xs : List V} {lo hi : Option Int} {x : V} (h : x ∈ cutV xs lo hi) : x ∈ xs := List.mem_of_mem_drop (List.mem_of_mem_take h)
theorem ok_law (T : Txt K mg) : FnOk P w K mg base CX0 3 T.a_law T.d_law ["_law_script"] (spLaw K) := by
  have G_next : FnOk P w K mg base CX0 1 _ _ _ _ := ok_next T
  have G_value : FnOk P w K mg base CX0 2 _ _ _ _ := ok_value T
  have G_same : FnOk P w K mg base CX0 1 _ _ _ _ := ok_same T
  have G_kind_of : FnOk P w K mg base CX0 1 _ _ _ _ := ok_kind_of T
  have G_kind : FnOk P w K mg base CX0 1 _ _ _ _ := ok_kind T
  have G_fits : FnOk P w K mg base CX0 1 _ _ _ _ := ok_fits T
  have G_common : FnOk P w K mg base CX0 1 _ _ _ _ := ok_common T
  refine T.F_law.ok sc_law (fun vs H Q E h => ?_) (fun cdv A outer s H vs Q E hr h => ?_)
  · obtain ⟨a, ns, rfl, _⟩ := h
    rfl
  · obtain ⟨a, ns, rfl, hS, hlen, q⟩ := h
    refine ⟨_, (pss_cons (ps_set (i := 1) sc_law.nd rfl (.inl rfl) (pe_lst (pa_cons (pe_callTy c_list (by rfl) T.z_list bt_list (pa_cons (pv 0) pa_nil)) (pa_cons pe_int (pa_cons pe_int (pa_cons pe_int pa_nil))))))
      (pss_cons (ps_for PassesOwn.never rfl (pi_range1 (by rfl) T.z_range (pa_cons (pe_op op_add pe_int (pe_call G_next (hr.mono (by decide)) (by rfl) T.g_next T.F_next.kp T.b_next .nil pass0 (pa_cons (pv 1) (pa_cons pe_int pa_nil)))) pa_nil)) (pg_name (i := 2) sc_law.nd rfl (.inl rfl)) (pss_cons (ps_set (i := 3) sc_law.nd rfl (.inl rfl) (pe_call G_value (hr.mono (by decide)) (by rfl) T.g_value T.F_value.kp T.b_value .nil pass0 (pa_cons (pv 1) pa_nil)))
      (pss_one (ps_if (pt_not (pt_val (pe_call G_same (hr.mono (by decide)) (by rfl) T.g_same T.F_same.kp T.b_same .nil pass0 (pa_cons (pe_call G_kind_of (hr.mono (by decide)) (by rfl) T.g_kind_of T.F_kind_of.kp T.b_kind_of .nil pass0 (pa_cons (pv 3) pa_nil)) (pa_cons (pe_call G_kind (hr.mono (by decide)) (by rfl) T.g_kind T.F_kind.kp T.b_kind .nil pass0 (pa_cons (pv 3) pa_nil)) pa_nil))))) (pss_one (ps_ret pe_bl)) pss_nil))))
      (pss_cons (ps_set (i := 4) sc_law.nd rfl (.inl rfl) (pe_lst (pa_cons pe_str (pa_cons pe_str (pa_cons pe_str (pa_cons pe_str pa_nil))))))
      (pss_cons (ps_set (i := 5) sc_law.nd rfl (.inl rfl) (pe_call G_next (hr.mono (by decide)) (by rfl) T.g_next T.F_next.kp T.b_next .nil pass0 (pa_cons (pv 1) (pa_cons pe_int pa_nil))))
      (pss_cons (ps_for PassesOwn.never rfl (pi_list (pe_op op_cat (pe_slice sl_list (pv 4) (po_some (pv 5)) po_none) (pe_slice sl_list (pv 4) po_none (po_some (pv 5))))) (pg_name (i := 6) sc_law.nd rfl (.inl rfl)) (pss_one (ps_for PassesOwn.never rfl (pi_list (pv 4)) (pg_name (i := 7) sc_law.nd rfl (.inl rfl)) (C8.pss_cut (ps_set (i := 8) sc_law.nd rfl (.inl rfl) (pe_or (pe_cmpR op_eq (pv 6) (pv 7) (nomark _)) (pe_one (pe_cmpR op_in_seq pe_str (pe_lst (pa_cons (pv 6) (pa_cons (pv 7) pa_nil))) (by rfl)))))
      (pss_cons (ps_if (pt_not (pt_val (pe_call G_same (hr.mono (by decide)) (by rfl) T.g_same T.F_same.kp T.b_same .nil pass0 (pa_cons (pe_call G_fits (hr.mono (by decide)) (by rfl) T.g_fits T.F_fits.kp T.b_fits .nil pass0 (pa_cons (pv 6) (pa_cons (pv 7) pa_nil))) (pa_cons (pv 8) pa_nil))))) (pss_one (ps_ret pe_bl)) pss_nil)
      (pss_cons (ps_set (i := 9) sc_law.nd rfl (.inl rfl) (pv 6))
      (C8.pss_cut (ps_if (pt_cmpR op_eq (pv 6) pe_str (nomark _)) (pss_one (ps_set (i := 9) sc_law.nd rfl (.inl rfl) (pv 7))) pss_nil)
      (pss_one (ps_if (PW.pt (pw_and (pt_val (pv 8)) (pw_and1 (pt_not (pt_val (pe_call G_same (hr.mono (by decide)) (by rfl) T.g_same T.F_same.kp T.b_same .nil pass0 (pa_cons (pe_call G_common (hr.mono (by decide)) (by rfl) T.g_common T.F_common.kp T.b_common .nil pass0 (pa_cons (pv 6) (pa_cons (pv 7) pa_nil))) (pa_cons (pv 9) pa_nil)))))))) (pss_one (ps_ret pe_bl)) pss_nil)))))))))
      (pss_one (ps_ret pe_bl))))))), ?_⟩
    walk_at "go0"
    walk_at "go"
    intro l nl
    walk_at "go"
    intro p np
    have npl : l ≠ p := fun e => by rw [e, upd_same] at np; cases np
    have S : StAt K (upd (upd H l (.lst (ns.map V.int))) p (.lst [.ref l, .int 0, .int 0, .int 1])) p l ns := ⟨⟨0, 0, 1, upd_same, by decide⟩, (upd_ne npl).trans upd_same, hlen, npl⟩
    generalize upd (upd H l (.lst (ns.map V.int))) p (.lst [.ref l, .int 0, .int 0, .int 1]) = H1 at S ⊢
    walk_at "go"
    refine ⟨p, l, ns, 6, rfl, S, by decide, by decide, fun i v r x k h0 h1 => ?_⟩
    have S1 := S.upd k
    generalize upd H1 p (StO l i v r) = H2 at S1 ⊢
    walk_at "go"
    refine g_forR (fun i σ' H' => ∃ y2 y3, σ' = [some (.ref a), some (.ref p), y2, y3, none, none, none, none, none, none] ∧ StAt K H' p l ns) ⟨none, none, rfl, S1⟩ ?_ ?_
    · rintro i σ' H3 hi ⟨y2, y3, rfl, S3⟩
      walk_at "go"
      refine ⟨p, l, ns, rfl, S3, fun H4 v hv S4 b4 => ?_⟩
      walk_at "go"
      refine ⟨v, rfl, hv, ?_⟩
      walk_at "go"
      refine ⟨v, rfl, hv, ?_⟩
      walk_at "go"
      refine ⟨_, _, rfl, rfl, rfl, ?_⟩
      walk_at "go"
      rw [decide_eq_true rfl]
      walk_at "go"
      exact ⟨_, _, rfl, S4⟩
    · rintro σ' H3 ⟨y2, y3, rfl, S3⟩
      walk_at "go"
      intro kl nkl
      have S4 : StAt K (upd H3 kl (.lst (KS.map V.str))) p l ns := S3.new nkl
      have hk4 : (upd H3 kl (.lst (KS.map V.str))) kl = some (.lst (KS.map V.str)) := upd_same
      change _
      generalize hH4 : upd H3 kl (.lst (KS.map V.str)) = H4 at S4 hk4
      rw [show upd H3 kl (.lst [.str "integer", .str "null", .str "text", .str "boolean"]) = H4 from hH4]
      walk_at "go"
      refine ⟨p, l, ns, 4, rfl, S4, by decide, by decide, fun i v r x k h0 h1 => ?_⟩
      have nkp : kl ≠ p := S3.nes nkl
      have hk5 : (upd H4 p (StO l i v r)) kl = some (.lst (KS.map V.str)) := (upd_ne nkp).trans hk4
      generalize upd H4 p (StO l i v r) = H5 at hk5 ⊢
      walk_at "go"
      intro c1 n1
      walk_at "go"
      intro c2 n2
      have n12 : c1 ≠ c2 := fun e => by rw [← e, upd_same] at n2; cases n2
      refine g_cat (xs := cutV (KS.map V.str) (some x) none) (zs := cutV (KS.map V.str) none (some x)) ((upd_ne n12).trans upd_same) upd_same (sz ?_) ?_
      · have e1 := cutV_length (KS.map V.str) (some x) none
        have e2 := cutV_length (KS.map V.str) none (some x)
        have e3 : (KS.map V.str).length = 4 := rfl
        omega
      intro c3 n3
      have hk6 : (upd (upd (upd H5 c1 (.lst (cutV (KS.map V.str) (some x) none))) c2 (.lst (cutV (KS.map V.str) none (some x)))) c3 (.lst (cutV (KS.map V.str) (some x) none ++ cutV (KS.map V.str) none (some x)))) kl = some (.lst (KS.map V.str)) :=
        Same.new (Same.new (Same.new (Same.refl _) n1) n2) n3 _ _ hk5
      have hr6 : (upd (upd (upd H5 c1 (.lst (cutV (KS.map V.str) (some x) none))) c2 (.lst (cutV (KS.map V.str) none (some x)))) c3 (.lst (cutV (KS.map V.str) (some x) none ++ cutV (KS.map V.str) none (some x)))) c3 = some (.lst (cutV (KS.map V.str) (some x) none ++ cutV (KS.map V.str) none (some x))) := upd_same
      generalize upd (upd (upd H5 c1 (.lst (cutV (KS.map V.str) (some x) none))) c2 (.lst (cutV (KS.map V.str) none (some x)))) c3 (.lst (cutV (KS.map V.str) (some x) none ++ cutV (KS.map V.str) none (some x))) = H6 at hk6 hr6 ⊢
      have hmem : ∀ v ∈ cutV (KS.map V.str) (some x) none ++ cutV (KS.map V.str) none (some x), ∃ z, v = V.str z := by
        intro v hv
        have hv2 : v ∈ KS.map V.str := (List.mem_append.mp hv).elim cut_mem cut_mem
        obtain ⟨z, _, rfl⟩ := List.mem_map.mp hv2
        exact ⟨z, rfl⟩
      generalize cutV (KS.map V.str) (some x) none ++ cutV (KS.map V.str) none (some x) = RL at hr6 hmem ⊢
      walk_at "go"
      refine g_forL (xs := RL) (fun i σ' H' => ∃ y6 y7 y8 y9, σ' = [some (.ref a), some (.ref p), y2, y3, some (.ref kl), some (.int x), y6, y7, y8, y9] ∧ H' kl = some (.lst (KS.map V.str)) ∧ H' c3 = some (.lst RL)) ⟨_, _, _, _, rfl, hk6, hr6⟩ (fun _ _ _ _ ⟨_, _, _, _, _, _, h⟩ => SqL.of h) ?_ ?_
      · rintro i v σ' H7 hi ⟨y6, y7, y8, y9, rfl, hk7, hr7⟩
        obtain ⟨za, rfl⟩ := hmem v (List.mem_of_getElem? hi)
        walk_at "go"
        refine g_forL (xs := KS.map V.str) (fun i σ' H' => ∃ y7 y8 y9, σ' = [some (.ref a), some (.ref p), y2, y3, some (.ref kl), some (.int x), some (.str za), y7, y8, y9] ∧ H' kl = some (.lst (KS.map V.str)) ∧ H' c3 = some (.lst RL)) ⟨_, _, _, rfl, hk7, hr7⟩ (fun _ _ _ _ ⟨_, _, _, _, h, _⟩ => SqL.of h) ?_ ?_
        · rintro j v σ' H8 hj ⟨y7, y8, y9, rfl, hk8, hr8⟩
          obtain ⟨zb, _, rfl⟩ := List.mem_map.mp (List.mem_of_getElem? hj)
          walk_at "go"
          refine g_cut (fun σ' H' => σ' = [some (.ref a), some (.ref p), y2, y3, some (.ref kl), some (.int x), some (.str za), some (.str zb), some (.bl (al za zb)), y9] ∧ H' kl = some (.lst (KS.map V.str)) ∧ H' c3 = some (.lst RL)) ?_ ?_
          · walk_at "go"
            refine g_dec (fun h => ?_) (fun h => ?_)
            · walk_at "go"
              exact ⟨by unfold al; rw [decide_eq_true h]; rfl, hk8, hr8⟩
            · walk_at "go"
              intro t nt
              refine g_inV (.inl (.inl (.inl upd_same))) rfl rfl ?_
              walk_at "go"
              refine ⟨?_, Same.new (Same.refl _) nt _ _ hk8, Same.new (Same.refl _) nt _ _ hr8⟩
              unfold al
              rw [decide_eq_false h, Bool.false_or, ← in_null]
              rfl
          · rintro σ' H9 ⟨rfl, hk9, hr9⟩
            walk_at "go"
            refine ⟨za, zb, rfl, ?_⟩
            walk_at "go"
            refine ⟨_, _, rfl, rfl, rfl, ?_⟩
            walk_at "go"
            rw [decide_eq_true (show V.bl (decide (za = zb) || (decide (za = "null") || decide (zb = "null"))) = V.bl (al za zb) from rfl)]
            walk_at "go"
            refine g_cut (fun σ' H' => σ' = [some (.ref a), some (.ref p), y2, y3, some (.ref kl), some (.int x), some (.str za), some (.str zb), some (.bl (al za zb)), some (.str (if za = "null" then zb else za))] ∧ H' kl = some (.lst (KS.map V.str)) ∧ H' c3 = some (.lst RL)) ?_ ?_
            · walk_at "go"
              refine g_dec (fun h => ?_) (fun h => ?_)
              · walk_at "go"
                exact ⟨by rw [if_pos h]; rfl, hk9, hr9⟩
              · walk_at "go"
                exact ⟨by rw [if_neg h]; rfl, hk9, hr9⟩
            · rintro σ' H10 ⟨rfl, hk10, hr10⟩
              walk_at "go"
              refine g_bl (fun _ => ?_) (fun _ => ?_)
              · walk_at "go"
                refine ⟨za, zb, rfl, ?_⟩
                walk_at "go"
                refine ⟨_, _, rfl, rfl, rfl, ?_⟩
                rw [decide_eq_true rfl]
                walk_at "go"
                exact ⟨_, _, _, rfl, hk10, hr10⟩
              · walk_at "go"
                exact ⟨_, _, _, rfl, hk10, hr10⟩
        · rintro σ' H8 ⟨y7, y8, y9, rfl, hk8, hr8⟩
          walk_at "go"
          exact ⟨_, _, _, _, rfl, hk8, hr8⟩
      · rintro σ' H7 ⟨y6, y7, y8, y9, rfl, hk7, hr7⟩
        walk_at "go"
        exact q _
end
theorem all_mk {l : PySem.W.OpenLaw} {w : World} {K : PySem.W.Frag} {h : Heap} {mg : Str → Option Value} {fa f_kind_of f_fits f_common f_next f_same f_char f_value f_kind f_law : Addr} (X : K.In h) (G : h.Ns mainGlobals mg) (hfa : mg "law" = some (.ref fa))
    {od_kind_of an_kind_of : Option Addr} {sl_kind_of : Array (Option Value)} {oc_kind_of kV_kind_of dc_kind_of pm_kind_of cd_kind_of ct_kind_of : Value}
    {od_fits an_fits : Option Addr} {sl_fits : Array (Option Value)} {oc_fits kV_fits dc_fits pm_fits cd_fits ct_fits : Value}
    {od_common an_common : Option Addr} {sl_common : Array (Option Value)} {oc_common kV_common dc_common pm_common cd_common ct_common : Value}
    {od_next an_next : Option Addr} {sl_next : Array (Option Value)} {oc_next kV_next dc_next pm_next cd_next ct_next : Value}
    {od_same an_same : Option Addr} {sl_same : Array (Option Value)} {oc_same kV_same dc_same pm_same cd_same ct_same : Value}
    {od_char an_char : Option Addr} {sl_char : Array (Option Value)} {oc_char kV_char dc_char pm_char cd_char ct_char : Value}
    {od_value an_value : Option Addr} {sl_value : Array (Option Value)} {oc_value kV_value dc_value pm_value cd_value ct_value : Value}
    {od_kind an_kind : Option Addr} {sl_kind : Array (Option Value)} {oc_kind kV_kind dc_kind pm_kind cd_kind ct_kind : Value}
    {od_law an_law : Option Addr} {sl_law : Array (Option Value)} {oc_law kV_law dc_law pm_law cd_law ct_law : Value}
    (a_kind_of : PySem.W.nsIn K mainGlobals "kind_of" = some (some (.ref f_kind_of)))
    (l_kind_of : K.lookup f_kind_of = some ⟨oc_kind_of, od_kind_of, .func (PySem.W.fnOf "kind_of" "kind_of" (defArgs s_kind_of) (defBody s_kind_of) (defScope s_kind_of) .none kV_kind_of dc_kind_of pm_kind_of an_kind_of cd_kind_of ct_kind_of), sl_kind_of⟩)
    (c_kind_of : PySem.W.codeIn K cd_kind_of "kind_of" = true)
    (k_kind_of : PySem.W.keepIn K (.ref f_kind_of) = true)
    (a_fits : PySem.W.nsIn K mainGlobals "fits" = some (some (.ref f_fits)))
    (l_fits : K.lookup f_fits = some ⟨oc_fits, od_fits, .func (PySem.W.fnOf "fits" "fits" (defArgs s_fits) (defBody s_fits) (defScope s_fits) .none kV_fits dc_fits pm_fits an_fits cd_fits ct_fits), sl_fits⟩)
    (c_fits : PySem.W.codeIn K cd_fits "fits" = true)
    (k_fits : PySem.W.keepIn K (.ref f_fits) = true)
    (a_common : PySem.W.nsIn K mainGlobals "common" = some (some (.ref f_common)))
    (l_common : K.lookup f_common = some ⟨oc_common, od_common, .func (PySem.W.fnOf "common" "common" (defArgs s_common) (defBody s_common) (defScope s_common) .none kV_common dc_common pm_common an_common cd_common ct_common), sl_common⟩)
    (c_common : PySem.W.codeIn K cd_common "common" = true)
    (k_common : PySem.W.keepIn K (.ref f_common) = true)
    (a_next : PySem.W.nsIn K mainGlobals "_law_next" = some (some (.ref f_next)))
    (l_next : K.lookup f_next = some ⟨oc_next, od_next, .func (PySem.W.fnOf "_law_next" "_law_next" (defArgs s_next) (defBody s_next) (defScope s_next) .none kV_next dc_next pm_next an_next cd_next ct_next), sl_next⟩)
    (c_next : PySem.W.codeIn K cd_next "_law_next" = true)
    (k_next : PySem.W.keepIn K (.ref f_next) = true)
    (a_same : PySem.W.nsIn K mainGlobals "_law_same" = some (some (.ref f_same)))
    (l_same : K.lookup f_same = some ⟨oc_same, od_same, .func (PySem.W.fnOf "_law_same" "_law_same" (defArgs s_same) (defBody s_same) (defScope s_same) .none kV_same dc_same pm_same an_same cd_same ct_same), sl_same⟩)
    (c_same : PySem.W.codeIn K cd_same "_law_same" = true)
    (k_same : PySem.W.keepIn K (.ref f_same) = true)
    (a_char : PySem.W.nsIn K mainGlobals "_law_char" = some (some (.ref f_char)))
    (l_char : K.lookup f_char = some ⟨oc_char, od_char, .func (PySem.W.fnOf "_law_char" "_law_char" (defArgs s_char) (defBody s_char) (defScope s_char) .none kV_char dc_char pm_char an_char cd_char ct_char), sl_char⟩)
    (c_char : PySem.W.codeIn K cd_char "_law_char" = true)
    (k_char : PySem.W.keepIn K (.ref f_char) = true)
    (a_value : PySem.W.nsIn K mainGlobals "_law_value" = some (some (.ref f_value)))
    (l_value : K.lookup f_value = some ⟨oc_value, od_value, .func (PySem.W.fnOf "_law_value" "_law_value" (defArgs s_value) (defBody s_value) (defScope s_value) .none kV_value dc_value pm_value an_value cd_value ct_value), sl_value⟩)
    (c_value : PySem.W.codeIn K cd_value "_law_value" = true)
    (k_value : PySem.W.keepIn K (.ref f_value) = true)
    (a_kind : PySem.W.nsIn K mainGlobals "_law_kind" = some (some (.ref f_kind)))
    (l_kind : K.lookup f_kind = some ⟨oc_kind, od_kind, .func (PySem.W.fnOf "_law_kind" "_law_kind" (defArgs s_kind) (defBody s_kind) (defScope s_kind) .none kV_kind dc_kind pm_kind an_kind cd_kind ct_kind), sl_kind⟩)
    (c_kind : PySem.W.codeIn K cd_kind "_law_kind" = true)
    (k_kind : PySem.W.keepIn K (.ref f_kind) = true)
    (a_law : PySem.W.nsIn K mainGlobals "law" = some (some (.ref f_law)))
    (l_law : K.lookup f_law = some ⟨oc_law, od_law, .func (PySem.W.fnOf "law" "law" (defArgs s_law) (defBody s_law) (defScope s_law) .none kV_law dc_law pm_law an_law cd_law ct_law), sl_law⟩)
    (c_law : PySem.W.codeIn K cd_law "law" = true)
    (k_law : PySem.W.keepIn K (.ref f_law) = true)
    (z_bool : PySem.W.nsIn K mainGlobals "bool" = some none)
    (z_int : PySem.W.nsIn K mainGlobals "int" = some none)
    (z_isinstance : PySem.W.nsIn K mainGlobals "isinstance" = some none)
    (z_len : PySem.W.nsIn K mainGlobals "len" = some none)
    (z_list : PySem.W.nsIn K mainGlobals "list" = some none)
    (z_range : PySem.W.nsIn K mainGlobals "range" = some none)
    (z_str : PySem.W.nsIn K mainGlobals "str" = some none)
    : ∃ fd : FuncData, (∀ (s : Shared) (v : Value), BindsTo s fd ⟨[v], []⟩ [("_law_script", v)]) ∧ ∀ base : Heap, K.In base → base.Ns mainGlobals mg → FnOk l.prog w K mg base CX0 3 fa fd ["_law_script"] (spLaw K) := by
  have e := hfa.symm.trans (PySem.W.mg_of X G a_law)
  have e2 : fa = f_law := by cases e; rfl
  rw [e2]
  exact ⟨PySem.W.fnOf "law" "law" (defArgs s_law) (defBody s_law) (defScope s_law) .none kV_law dc_law pm_law an_law cd_law ct_law, fun s v => .of_eq rfl, fun base _ _ =>
    ok_law (T := {
      a_kind_of := f_kind_of
      d_kind_of := PySem.W.fnOf "kind_of" "kind_of" (defArgs s_kind_of) (defBody s_kind_of) (defScope s_kind_of) .none kV_kind_of dc_kind_of pm_kind_of an_kind_of cd_kind_of ct_kind_of
      F_kind_of := fun_mk (st := s_kind_of) l_kind_of c_kind_of k_kind_of
      b_kind_of := (fun_mk (st := s_kind_of) l_kind_of c_kind_of k_kind_of).binds (ps := ["value"]) fun _ _ _ _ _ _ us hl => match us, hl with | [_], _ => rfl
      g_kind_of := PySem.W.mg_of X G a_kind_of
      a_fits := f_fits
      d_fits := PySem.W.fnOf "fits" "fits" (defArgs s_fits) (defBody s_fits) (defScope s_fits) .none kV_fits dc_fits pm_fits an_fits cd_fits ct_fits
      F_fits := fun_mk (st := s_fits) l_fits c_fits k_fits
      b_fits := (fun_mk (st := s_fits) l_fits c_fits k_fits).binds (ps := ["first", "second"]) fun _ _ _ _ _ _ us hl => match us, hl with | [_, _], _ => rfl
      g_fits := PySem.W.mg_of X G a_fits
      a_common := f_common
      d_common := PySem.W.fnOf "common" "common" (defArgs s_common) (defBody s_common) (defScope s_common) .none kV_common dc_common pm_common an_common cd_common ct_common
      F_common := fun_mk (st := s_common) l_common c_common k_common
      b_common := (fun_mk (st := s_common) l_common c_common k_common).binds (ps := ["first", "second"]) fun _ _ _ _ _ _ us hl => match us, hl with | [_, _], _ => rfl
      g_common := PySem.W.mg_of X G a_common
      a_next := f_next
      d_next := PySem.W.fnOf "_law_next" "_law_next" (defArgs s_next) (defBody s_next) (defScope s_next) .none kV_next dc_next pm_next an_next cd_next ct_next
      F_next := fun_mk (st := s_next) l_next c_next k_next
      b_next := (fun_mk (st := s_next) l_next c_next k_next).binds (ps := ["_law_state", "_law_limit"]) fun _ _ _ _ _ _ us hl => match us, hl with | [_, _], _ => rfl
      g_next := PySem.W.mg_of X G a_next
      a_same := f_same
      d_same := PySem.W.fnOf "_law_same" "_law_same" (defArgs s_same) (defBody s_same) (defScope s_same) .none kV_same dc_same pm_same an_same cd_same ct_same
      F_same := fun_mk (st := s_same) l_same c_same k_same
      b_same := (fun_mk (st := s_same) l_same c_same k_same).binds (ps := ["_law_actual", "_law_expected"]) fun _ _ _ _ _ _ us hl => match us, hl with | [_, _], _ => rfl
      g_same := PySem.W.mg_of X G a_same
      a_char := f_char
      d_char := PySem.W.fnOf "_law_char" "_law_char" (defArgs s_char) (defBody s_char) (defScope s_char) .none kV_char dc_char pm_char an_char cd_char ct_char
      F_char := fun_mk (st := s_char) l_char c_char k_char
      b_char := (fun_mk (st := s_char) l_char c_char k_char).binds (ps := ["_law_index"]) fun _ _ _ _ _ _ us hl => match us, hl with | [_], _ => rfl
      g_char := PySem.W.mg_of X G a_char
      a_value := f_value
      d_value := PySem.W.fnOf "_law_value" "_law_value" (defArgs s_value) (defBody s_value) (defScope s_value) .none kV_value dc_value pm_value an_value cd_value ct_value
      F_value := fun_mk (st := s_value) l_value c_value k_value
      b_value := (fun_mk (st := s_value) l_value c_value k_value).binds (ps := ["_law_state"]) fun _ _ _ _ _ _ us hl => match us, hl with | [_], _ => rfl
      g_value := PySem.W.mg_of X G a_value
      a_kind := f_kind
      d_kind := PySem.W.fnOf "_law_kind" "_law_kind" (defArgs s_kind) (defBody s_kind) (defScope s_kind) .none kV_kind dc_kind pm_kind an_kind cd_kind ct_kind
      F_kind := fun_mk (st := s_kind) l_kind c_kind k_kind
      b_kind := (fun_mk (st := s_kind) l_kind c_kind k_kind).binds (ps := ["_law_value_here"]) fun _ _ _ _ _ _ us hl => match us, hl with | [_], _ => rfl
      g_kind := PySem.W.mg_of X G a_kind
      a_law := f_law
      d_law := PySem.W.fnOf "law" "law" (defArgs s_law) (defBody s_law) (defScope s_law) .none kV_law dc_law pm_law an_law cd_law ct_law
      F_law := fun_mk (st := s_law) l_law c_law k_law
      b_law := (fun_mk (st := s_law) l_law c_law k_law).binds (ps := ["_law_script"]) fun _ _ _ _ _ _ us hl => match us, hl with | [_], _ => rfl
      g_law := PySem.W.mg_of X G a_law
      z_bool := PySem.W.mg_none_of X G z_bool
      z_int := PySem.W.mg_none_of X G z_int
      z_isinstance := PySem.W.mg_none_of X G z_isinstance
      z_len := PySem.W.mg_none_of X G z_len
      z_list := PySem.W.mg_none_of X G z_list
      z_range := PySem.W.mg_none_of X G z_range
      z_str := PySem.W.mg_none_of X G z_str })⟩
end Kb
open PySem PySem.W PyProof.Rows
set_option maxRecDepth 100000 in
set_option maxHeartbeats 0 in
theorem PySem.Challenge.cw_kithbase_k70_kinds_of_values_holds : PySem.Challenge.rw_kithbase_k70_kinds_of_values.Holds := by
  w_on; o_law; k_head; (case hw => w_witness2)
  k_fill
  refine L2.walk_of (l := PySem.Challenge.rw_kithbase_k70_kinds_of_values) (n := 63) (k := 3) (x := "_law_script") (CX := fun _ => L2.CX0) (sp := fun w => Kb.spLaw _) rfl (by decide) rfl ⟨rfl, by decide, by decide⟩ (fun w h Y => PySem.W.kIn_of Y) ?F (fun _ _ a ns hl _ hS => ⟨a, ns, rfl, hS, hl, fun _ => rfl⟩) (fun _ _ _ _ _ h => h)
  case F =>
    intro w mg fa h KX G hmg
    refine' Kb.all_mk KX G hmg ?a_kind_of ?l_kind_of ?c_kind_of ?k_kind_of ?a_fits ?l_fits ?c_fits ?k_fits ?a_common ?l_common ?c_common ?k_common ?a_next ?l_next ?c_next ?k_next ?a_same ?l_same ?c_same ?k_same ?a_char ?l_char ?c_char ?k_char ?a_value ?l_value ?c_value ?k_value ?a_kind ?l_kind ?c_kind ?k_kind ?a_law ?l_law ?c_law ?k_law ?z_bool ?z_int ?z_isinstance ?z_len ?z_list ?z_range ?z_str
    (case a_kind_of => k_is)
    (case l_kind_of => k_is)
    (case c_kind_of => k_is)
    (case k_kind_of => k_is)
    (case a_fits => k_is)
    (case l_fits => k_is)
    (case c_fits => k_is)
    (case k_fits => k_is)
    (case a_common => k_is)
    (case l_common => k_is)
    (case c_common => k_is)
    (case k_common => k_is)
    (case a_next => k_is)
    (case l_next => k_is)
    (case c_next => k_is)
    (case k_next => k_is)
    (case a_same => k_is)
    (case l_same => k_is)
    (case c_same => k_is)
    (case k_same => k_is)
    (case a_char => k_is)
    (case l_char => k_is)
    (case c_char => k_is)
    (case k_char => k_is)
    (case a_value => k_is)
    (case l_value => k_is)
    (case c_value => k_is)
    (case k_value => k_is)
    (case a_kind => k_is)
    (case l_kind => k_is)
    (case c_kind => k_is)
    (case k_kind => k_is)
    (case a_law => k_is)
    (case l_law => k_is)
    (case c_law => k_is)
    (case k_law => k_is)
    (case z_bool => k_is)
    (case z_int => k_is)
    (case z_isinstance => k_is)
    (case z_len => k_is)
    (case z_list => k_is)
    (case z_range => k_is)
    (case z_str => k_is)

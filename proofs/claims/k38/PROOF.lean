import PyProof.Rows.All
import Wide.All
import OpenK.AllK
import Wide.FinOn
import HandS.ForMost
import HandS.IsInst
import HandS.Wide
import HandS.TupAny
import HandS.Flow
import HandS.Text
import HandS.Codes

import HandS.TupLe
import HandS.More
import PySem.Challenge.RW_kithbase_k38_came_and_went
set_option Elab.async false
set_option linter.all false
set_option maxRecDepth 100000
set_option maxHeartbeats 4000000
namespace Kb
open PySem PySem.Spec PyProof.Rows L2
/-! rules and words of my own, over HandS -/
section
variable {X : Cx}
/-- o[i] of a list, the place not negative, as an operand of an in-place statement -/
theorem get_list : PGet X (rIxL X.K) := by
  intro pins s σ H x y v u Q I rx ry h
  obtain ⟨p, xs, i, z, rfl, rfl, hq, he, q⟩ := h
  cases rx
  obtain ⟨t, rfl⟩ := ry
  obtain ⟨its, r, pl, hz⟩ := I.list hq
  obtain ⟨j, h1, h2, h3, h4, h5⟩ := atI_get he
  obtain ⟨w, ew, rw'⟩ := r.get h2
  have hl := r.length
  have hn := line63
  have fin : EP X pins σ Q w s := ⟨z, H, I, rw', q⟩
  by_cases h0 : 0 ≤ i
  · have hj : i.toNat = j := by
      rw [seqIndex_of h0 h5] at h1
      exact Option.some.inj h1
    exact getItem_listL pl.isList h0 (by omega) (by rw [hj]; exact ew) fin
  · have hj : (i + (its.toArray.size : Int)).toNat = j := by
      rw [seqIndex_neg (by omega) h4] at h1
      rw [List.size_toArray, ← hl]
      exact Option.some.inj h1
    exact wpAny_getItem_list_neg pl.isList (by omega) (by rw [List.size_toArray] <;> omega) (by omega) (by rw [hj]; simpa using ew) fin
theorem RelV.bl_iff {x : V} {v : Value} (b : Bool) (r : RelV x v) : (v == Value.bool b) = decide (x = .bl b) := by
  cases x <;> first
    | (obtain ⟨t, rfl⟩ := r; rfl)
    | (cases r; rfl)
    | skip
  cases r
  rename_i c
  cases b <;> cases c <;> rfl
theorem plain_bool {x : V} {v : Value} (b : Bool) (r : RelV x v) : plainIs v (.bool b) = true := by
  cases x <;> first
    | (obtain ⟨t, rfl⟩ := r; rfl)
    | (cases r; rfl)
/-- x is True, x is False -/
def rIsBl (neg : Bool) : R2 := fun x y H Q => ∃ b, y = .bl b ∧ Q (.bl (if neg then !decide (x = .bl b) else decide (x = .bl b))) H
theorem op_isB : OpR X (compareOp .Is) (rIsBl false) := by
  intro pins s σ H x y v u Q I rx ry h
  obtain ⟨b, rfl, q⟩ := h
  cases (show u = Value.bool b from ry)
  exact wpAny_is_plain (plain_bool b rx) (fin_bl I q (RelV.bl_iff b rx).symm)
theorem op_isNotB : OpR X (compareOp .IsNot) (rIsBl true) := by
  intro pins s σ H x y v u Q I rx ry h
  obtain ⟨b, rfl, q⟩ := h
  cases (show u = Value.bool b from ry)
  exact wpAny_isNot_plain (plain_bool b rx) (fin_bl I q (by rw [RelV.bl_iff b rx]; rfl))
end
theorem isi {K : PySem.W.Frag} {x : V} {tn n : String} {b : Bool} {H : Hp} {Q : VK} (ty : TyOf K H x (.type tn)) (h : kitB tn n = some b) (q : Q (.bl b) H) : rIsi K [x, .ty n] H Q :=
  ⟨x, .ty n, _, _, b, rfl, .ty n, .base ty, kit_ty h, q⟩
theorem kb_nn_bool : kitB "NoneType" "bool" = some false := by decide +kernel
theorem kb_nn_int : kitB "NoneType" "int" = some false := by decide +kernel
theorem kb_nn_str : kitB "NoneType" "str" = some false := by decide +kernel
theorem kb_bl_bool : kitB "bool" "bool" = some true := by decide +kernel
theorem kb_bl_int : kitB "bool" "int" = some true := by decide +kernel
theorem kb_bl_str : kitB "bool" "str" = some false := by decide +kernel
theorem kb_int_bool : kitB "int" "bool" = some false := by decide +kernel
theorem kb_int_int : kitB "int" "int" = some true := by decide +kernel
theorem kb_int_str : kitB "int" "str" = some false := by decide +kernel
theorem kb_str_bool : kitB "str" "bool" = some false := by decide +kernel
theorem kb_str_int : kitB "str" "int" = some false := by decide +kernel
theorem kb_str_str : kitB "str" "str" = some true := by decide +kernel
theorem kb_tup_tup : kitB "tuple" "tuple" = some true := by decide +kernel
theorem kb_lst_tup : kitB "list" "tuple" = some false := by decide +kernel
theorem kb_tup_lst : kitB "tuple" "list" = some false := by decide +kernel
theorem kb_lst_lst : kitB "list" "list" = some true := by decide +kernel
/-- two heaps that agree on all that H tracks, but at p -/
def But (p : Addr) (H H' : Hp) : Prop := ∀ b o, H b = some o → b ≠ p → H' b = some o
theorem But.refl (p : Addr) (H : Hp) : But p H H := fun _ _ h _ => h
theorem But.trans {p : Addr} {H H1 H2 : Hp} (a : But p H H1) (b : But p H1 H2) : But p H H2 := fun c o h n => b c o (a c o h n) n
theorem But.upd {p : Addr} {H H1 : Hp} {o : HO} (a : But p H H1) : But p H (L2.upd H1 p o) := fun c u h n => by
  rw [upd_ne n]
  exact a c u h n
theorem But.new {p q : Addr} {H H1 : Hp} {o : HO} (a : But p H H1) (h : H1 q = none) : But p H (L2.upd H1 q o) := fun c u e n => by
  rw [upd_ne (ne_of_none (a c u e n) h)]
  exact a c u e n
/-- another object, not tracked in H, is changed -/
theorem But.put {p q : Addr} {H H1 : Hp} {o : HO} (a : But p H H1) (h : H q = none) : But p H (L2.upd H1 q o) := fun c u e n => by
  rw [upd_ne (ne_of_none e h)]
  exact a c u e n
theorem But.free {p q : Addr} {H H1 : Hp} (a : But p H H1) (n : q ≠ p) (h : H1 q = none) : H q = none := by
  cases e : H q with
  | none => rfl
  | some o => rw [a q o e n] at h; cases h
theorem But.fresh {p q : Addr} {H H1 : Hp} (a : But p H H1) (hp : H p ≠ none) (h1 : H1 p ≠ none) (h : H1 q = none) : H q = none := by
  cases e : H q with
  | none => rfl
  | some o =>
    by_cases hq : q = p
    · rw [hq] at h; exact absurd h h1
    · rw [a q o e hq] at h; cases h
theorem Same.new {H H1 : Hp} {q : Addr} {o : HO} (a : Same H H1) (h : H1 q = none) : Same H (L2.upd H1 q o) := fun c u e => by
  rw [upd_ne (ne_of_none (a c u e) h)]
  exact a c u e
theorem Same.but {H H1 : Hp} (p : Addr) (a : Same H H1) : But p H H1 := fun c u e _ => a c u e
theorem sz {n : Nat} (h : n ≤ 1000000) : n ≤ sizeLine := Nat.le_trans h (by decide)
theorem szlt {n : Nat} (h : n < 1000000) : n < sizeLine := Nat.lt_of_lt_of_le h (by decide)
theorem upd_id {H : Hp} {p : Addr} {o : HO} (h : H p = some o) : L2.upd H p o = H := by
  funext b
  by_cases e : b = p
  · rw [e, upd_same, h]
  · rw [upd_ne e]
theorem at_codes {xs : List Nat} {z : Int} {j : Nat} {v : Nat} (e : z = (j : Int)) (h : xs[j]? = some v) : atI xs z = some v := by
  rw [e]
  exact atI_nat h
theorem kb_lst_bool : kitB "list" "bool" = some false := by decide +kernel
theorem kb_lst_int : kitB "list" "int" = some false := by decide +kernel
theorem kb_lst_str : kitB "list" "str" = some false := by decide +kernel
theorem kb_tup_bool : kitB "tuple" "bool" = some false := by decide +kernel
theorem kb_tup_int : kitB "tuple" "int" = some false := by decide +kernel
theorem kb_tup_str : kitB "tuple" "str" = some false := by decide +kernel

/-! the engine: one lemma a construct, applied by its head; walk_at "go" runs it -/
def rLen (K : PySem.W.Frag) : List V → Hp → VK → Prop := fun xs H Q => ∃ p ys, xs = [.ref p] ∧ (SqL K H p ys ∨ SqT K H p ys) ∧ Q (.int ys.length) H
def rLenS : List V → Hp → VK → Prop := fun xs H Q => ∃ z, xs = [.str z] ∧ z.length ≤ sizeLine ∧ Q (.int z.length) H
def rListOf (K : PySem.W.Frag) : List V → Hp → VK → Prop := fun xs H Q => ∃ p ys, xs = [.ref p] ∧ (SqL K H p ys ∨ SqT K H p ys) ∧ ∀ l, H l = none → Q (.ref l) (upd H l (.lst ys))
def rTupOf (K : PySem.W.Frag) : List V → Hp → VK → Prop := fun xs H Q => ∃ p ys, xs = [.ref p] ∧ ((SqL K H p ys ∧ ∀ l, H l = none → Q (.ref l) (upd H l (.tup ys))) ∨ (SqT K H p ys ∧ Q (.ref p) H))
def rAddS : R2 := fun x y H Q => ∃ i j, x = .str i ∧ y = .str j ∧ i.length + j.length ≤ sizeLine ∧ Q (.str (i ++ j)) H
def rInS : R2 := fun x y H Q => ∃ (c : Nat) (z : Str), x = .str ⟨#[c]⟩ ∧ y = .str z ∧ Q (.bl (decide (c ∈ z.cps.toList))) H
def rNotInS : R2 := fun x y H Q => ∃ (c : Nat) (z : Str), x = .str ⟨#[c]⟩ ∧ y = .str z ∧ Q (.bl (!decide (c ∈ z.cps.toList))) H
def rIsN : R2 := fun x y H Q => y = .non ∧ Q (.bl (decide (x = .non))) H
def rNotN : R2 := fun x y H Q => y = .non ∧ Q (.bl (!decide (x = .non))) H
def rAbs : List V → Hp → VK → Prop := fun xs H Q => ∃ i, xs = [.int i] ∧ Q (.int (if i < 0 then -i else i)) H
def rMax2 : List V → Hp → VK → Prop := fun xs H Q => ∃ i j, xs = [.int i, .int j] ∧ Q (.int (if j > i then j else i)) H
def rMin2 : List V → Hp → VK → Prop := fun xs H Q => ∃ i j, xs = [.int i, .int j] ∧ Q (.int (if j < i then j else i)) H
def rInt1 : List V → Hp → VK → Prop := fun xs H Q => (∃ i, xs = [.int i] ∧ Q (.int i) H) ∨ ∃ k, xs = [.bl k] ∧ Q (.int (if k then 1 else 0)) H
def rStr1 : List V → Hp → VK → Prop := fun xs H Q => ∃ i, xs = [.int i] ∧ i.natAbs.log2 < 1920 ∧ Q (.str (toString i)) H
def rOrd : List V → Hp → VK → Prop := fun xs H Q => ∃ x, xs = [.str x] ∧ x.length = 1 ∧ Q (.int (x.cps.getD 0 0 : Nat)) H
def rChr : List V → Hp → VK → Prop := fun xs H Q => ∃ i, xs = [.int i] ∧ 0 ≤ i ∧ i ≤ 1114111 ∧ Q (.str ⟨#[i.toNat]⟩) H
def rJoin (K : PySem.W.Frag) : V → List V → Hp → VK → Prop := fun x xs H Q => ∃ a p, ∃ ys : List Str, x = .str a ∧ xs = [.ref p] ∧ (SqL K H p (ys.map V.str) ∨ SqT K H p (ys.map V.str)) ∧
  (ys.map (·.length)).sum + ys.length * a.length ≤ 16777216 ∧ Q (.str (Txt.join a ys)) H
def rSplit : V → List V → Hp → VK → Prop := fun x xs H Q => ∃ a b, x = .str a ∧ xs = [.str b] ∧ (b.length == 0) = false ∧ a.length + 2 ≤ sizeLine ∧ rNewStrs (Txt.split a b) H Q
section
variable {X : Cx}
theorem c_len : CallR X (.builtin "len") (rLen X.K) := call_len_seq
theorem c_lenS : CallR X (.builtin "len") rLenS := call_len_str
theorem c_list : CallR X (.type "list") (rListOf X.K) := call_list_of
theorem c_tuple : CallR X (.type "tuple") (rTupOf X.K) := call_tuple_of
theorem o_addS : OpR X (binaryOp .Add) rAddS := op_add_str
theorem o_inS : OpR X (compareOp .In) rInS := op_in_sign
theorem o_notInS : OpR X (compareOp .NotIn) rNotInS := op_notIn_sign
theorem o_isN : OpR X (compareOp .Is) rIsN := op_isN
theorem o_notN : OpR X (compareOp .IsNot) rNotN := op_notN
theorem c_abs : CallR X (.builtin "abs") rAbs := call_abs
theorem c_max2 (hc : X.calm = true) : CallR X (.builtin "max") rMax2 := call_max2 hc
theorem c_min2 (hc : X.calm = true) : CallR X (.builtin "min") rMin2 := call_min2 hc
theorem c_int1 : CallR X (.type "int") rInt1 := call_int1
theorem c_str1 : CallR X (.type "str") rStr1 := call_str_int
theorem c_ord : CallR X (.builtin "ord") rOrd := call_ord
theorem c_chr : CallR X (.builtin "chr") rChr := call_chr
theorem e_join {o e : Expr} {to te : TE} {apos pos : Pos} (ho : PE X o to) (he : PE X e te) (hs : starEach [e] X.env = [(false, eval e X.env)] := by rfl) (hbase : attributeBase o "join" X.env (eval o X.env) = eval o X.env := by rfl) (hline : (apos.endLine == pos.line) = true := by rfl) :
    PE X (.Call (.Attribute o "join" apos) [e] [] pos) (tM1 (rJoin X.K) to te) := pe_join ho he hs hbase hline
theorem e_split {o e : Expr} {to te : TE} {apos pos : Pos} (ho : PE X o to) (he : PE X e te) (hs : starEach [e] X.env = [(false, eval e X.env)] := by rfl) (hbase : attributeBase o "split" X.env (eval o X.env) = eval o X.env := by rfl) (hline : (apos.endLine == pos.line) = true := by rfl) :
    PE X (.Call (.Attribute o "split" apos) [e] [] pos) (tM1 rSplit to te) := pe_split ho he hs hbase hline
end
def D0 (Q : VK) : Ends := { nx := fun _ H' => Q .non H', rt := Q }
def Dl (D : Ends) (N : L2.St → Hp → Prop) : Ends := { D with nx := N, ct := N, bk := D.nx }
theorem dI {i j : Int} : decide (V.int i = V.int j) = decide (i = j) := by rw [dec_int, Bool.beq_eq_decide_eq]
theorem dB {i j : Bool} : decide (V.bl i = V.bl j) = decide (i = j) := by rw [dec_bl, Bool.beq_eq_decide_eq]
theorem dS {i j : Str} : decide (V.str i = V.str j) = decide (i = j) := by rw [dec_str, Bool.beq_eq_decide_eq]
theorem in_two (x a b : Str) : inV (.str x) [.str a, .str b] = decide (x = a ∨ x = b) := by
  show (a == x || (b == x || false)) = _
  rw [Bool.or_false, Bool.beq_eq_decide_eq, Bool.beq_eq_decide_eq]
  by_cases h1 : x = a
  · rw [decide_eq_true (Or.inl h1 : x = a ∨ x = b), decide_eq_true h1.symm]; rfl
  · by_cases h2 : x = b
    · rw [decide_eq_true (Or.inr h2 : x = a ∨ x = b), decide_eq_true h2.symm, Bool.or_true]
    · rw [decide_eq_false (fun z : a = x => h1 z.symm), decide_eq_false (fun z : b = x => h2 z.symm), decide_eq_false (fun z : x = a ∨ x = b => z.elim h1 h2)]; rfl
section
variable {X : Cx} {K : PySem.W.Frag}
theorem k_len (hK : X.K = K := by rfl) : CallR X (.builtin "len") (rLen K) := by subst hK; exact c_len
theorem k_list (hK : X.K = K := by rfl) : CallR X (.type "list") (rListOf K) := by subst hK; exact c_list
theorem k_tuple (hK : X.K = K := by rfl) : CallR X (.type "tuple") (rTupOf K) := by subst hK; exact c_tuple
theorem k_isi (hK : X.K = K := by rfl) : CallR X (.builtin "isinstance") (rIsi K) := by subst hK; exact call_isi
theorem k_isiT (hK : X.K = K := by rfl) : CallR X (.builtin "isinstance") (rIsiT K) := by subst hK; exact call_isiT
theorem k_sum (hc : X.calm = true) (hK : X.K = K := by rfl) : CallR X (.builtin "sum") (rSum K) := by subst hK; exact cr_sum hc
theorem k_ixL (hK : X.K = K := by rfl) : IxR X (rIxL K) := by subst hK; exact ix_list
theorem k_ixT (hK : X.K = K := by rfl) : IxR X (rIxT K) := by subst hK; exact ix_tup
theorem k_slL (hK : X.K = K := by rfl) : SlR X (rSlL K) := by subst hK; exact sl_list
theorem k_slT (hK : X.K = K := by rfl) : SlR X (rSlT K) := by subst hK; exact sl_tup
theorem k_slA (hK : X.K = K := by rfl) : SlR X (rSlA K) := by subst hK; exact sl_tupA
theorem k_in (hK : X.K = K := by rfl) : OpR X (compareOp .In) (rIn K false) := by subst hK; exact op_in_seq
theorem k_notIn (hK : X.K = K := by rfl) : OpR X (compareOp .NotIn) (rIn K true) := by subst hK; exact op_notIn_seq
theorem k_catA (hK : X.K = K := by rfl) : OpR X (binaryOp .Add) (rCatA K) := by subst hK; exact op_catA
theorem k_eqD (hu : X.A.units + 64 < cLine) (hK : X.K = K := by rfl) : OpR X (compareOp .Eq) (rEqD K) := by subst hK; exact op_eqD hu
theorem k_neD (hu : X.A.units + 64 < cLine) (hK : X.K = K := by rfl) : OpR X (compareOp .NotEq) (rNeD K) := by subst hK; exact op_neD hu
theorem k_fld {e : Expr} {f : Str} {pos : Pos} {ta : TE} (he : PE X e ta) (hb : attributeBase e f X.env (eval e X.env) = eval e X.env) (hK : X.K = K := by rfl) : PE X (.Attribute e f pos) (tFld K ta f) := by subst hK; exact pe_fld he hb
theorem k_piL {tg l : Expr} {tl : TE} (hl : PE X l tl) (hK : X.K = K := by rfl) : PI X tg l (iList K tl) := by subst hK; exact pi_list hl
theorem k_piT {tg l : Expr} {tl : TE} (hl : PE X l tl) (hK : X.K = K := by rfl) : PI X tg l (iTup K tl) := by subst hK; exact pi_tup hl
theorem k_join {o e : Expr} {to te : TE} {apos pos : Pos} (ho : PE X o to) (he : PE X e te) (hs : starEach [e] X.env = [(false, eval e X.env)] := by rfl) (hbase : attributeBase o "join" X.env (eval o X.env) = eval o X.env := by rfl) (hline : (apos.endLine == pos.line) = true := by rfl) (hK : X.K = K := by rfl) :
    PE X (.Call (.Attribute o "join" apos) [e] [] pos) (tM1 (rJoin K) to te) := by subst hK; exact e_join ho he hs hbase hline
end
def tTru (K : PySem.W.Frag) (ta : TE) : TT := fun σ H Q => ta σ H fun x H' => ∃ k, TruV K x H' k ∧ Q k H'
theorem k_tru {X : Cx} {K : PySem.W.Frag} {a : Expr} {ta : TE} (ha : PE X a ta) (he : ∀ whole, isTrue a X.env whole = (do let v ← whole; standAt a.pos; holding [v] (truthy v))) (hK : X.K = K := by rfl) : PT X a (tTru K ta) := by
  subst hK; exact pt_truth ha he
def Dn (D : Ends) (f : L2.St → Hp → Prop) : Ends := { D with nx := f }
section
variable {K : PySem.W.Frag} {D : Ends} {σ : L2.St} {H : Hp} {Q : VK} {QB : Bool → Hp → Prop} {QA : List V → Hp → Prop} {f f1 : L2.St → Hp → Prop} {b c : VK} {v x y : V} {i j : Int} {t t1 t2 u : TS} {ta tb tc te : TE} {tt tt1 tt2 : TT} {r r' : R2} {n : Nat} {p : Addr} {xs : List V} {vs : List V}
theorem g_seq (h : t (Dn D (u D)) σ H) : tSeq t u D σ H := h
theorem g_cut (Mid : L2.St → Hp → Prop) (h : t (Dn D Mid) σ H) (k : ∀ σ' H', Mid σ' H' → u D σ' H') : C8.tCut t u D σ H := ⟨Mid, h, k⟩
theorem g_mid (M : L2.St → Hp → Prop) (mono : ∀ (f1 f2 : L2.St → Hp → Prop), (∀ σ H, f1 σ H → f2 σ H) → t (Dn D f1) σ H → t (Dn D f2) σ H) (h : t (Dn D M) σ H) (k : ∀ σ H, M σ H → u D σ H) : tSeq t u D σ H := mono _ _ k h
theorem g_next (h : D.nx σ H) : tNext D σ H := h
theorem g_nx (h : f σ H) : (Dn D f).nx σ H := h
theorem g_rt (h : D.rt v H) : (Dn D f).rt v H := h
theorem g_rt0 (h : Q v H) : (D0 Q).rt v H := h
theorem g_nx0 (h : Q .non H) : (D0 Q).nx σ H := h
theorem g_lnx (h : f σ H) : (Dl D f).nx σ H := h
theorem g_lct (h : f σ H) : (Dl D f).ct σ H := h
theorem g_lbk (h : D.nx σ H) : (Dl D f).bk σ H := h
theorem g_lrt (h : D.rt v H) : (Dl D f).rt v H := h
theorem g_bk (h : D.bk σ H) : (Dn D f).bk σ H := h
theorem g_ct (h : D.ct σ H) : (Dn D f).ct σ H := h
theorem g_break (h : D.bk σ H) : tBreak D σ H := h
theorem g_cont (h : D.ct σ H) : tCont D σ H := h
theorem g_asg {g : TG} (h : te σ H fun x H1 => g x σ H1 D.nx) : tAsg te g D σ H := h
theorem g_name (h : f (σ.set n (some v)) H) : gName n v σ H f := h
theorem g_sub {to ti : TE} {ts : TSet} (h : to σ H fun o H1 => ti σ H1 fun i H2 => ts o i v H2 fun H3 => f σ H3) : gSub to ti ts v σ H f := h
theorem g_setL {k : Int} {m : Nat} {F : Hp → Prop} (h : H p = some (.lst xs)) (a : ixN xs.length k = some m) (q : F (upd H p (.lst (xs.set m v)))) : rSetL (.ref p) (.int k) v H F := ⟨p, xs, k, m, rfl, rfl, h, a, q⟩
theorem g_ret (h : te σ H D.rt) : tRet te D σ H := h
theorem g_retN (h : D.rt .non H) : tRetN D σ H := h
theorem g_drop (h : te σ H fun _ H1 => D.nx σ H1) : tDrop te D σ H := h
theorem g_ifs (h : tt σ H fun b H1 => if b = true then t D σ H1 else u D σ H1) : tIfS tt t u D σ H := h
theorem g_aug {ti : TIp} (a : σ[n]? = some (some x)) (h : te σ H fun y H1 => ti x y H1 fun z H2 => D.nx (σ.set n (some z)) H2) : tAug n te ti D σ H := ⟨x, a, h⟩
theorem g_ipI {g : Int → Int → Int} (h : Q (.int (g i j)) H) : ipI g (.int i) (.int j) H Q := ⟨i, j, rfl, rfl, h⟩
theorem g_augS {to ti : TE} {tget : V → V → Hp → VK → Prop} {tip : TIp} {ts : TSet} (h : to σ H fun o H1 => ti σ H1 fun i H2 => tget o i H2 fun x H3 => te σ H3 fun y H4 => tip x y H4 fun z H5 => ts o i z H5 fun H6 => D.nx σ H6) : tAugS to ti te tget tip ts D σ H := h
theorem g_var (h : σ[n]? = some (some v)) (q : Q v H) : tVar n σ H Q := ⟨v, h, q⟩
theorem g_c (q : Q v H) : tC v σ H Q := q
theorem g_op (h : ta σ H fun x H1 => tb σ H1 fun y H2 => r x y H2 Q) : tOp r ta tb σ H Q := h
theorem g_un {r : V → Hp → VK → Prop} (h : ta σ H fun x H1 => r x H1 Q) : tUn r ta σ H Q := h
theorem g_neg (h : Q (.int (-i)) H) : rU (fun i => .int (-i)) (.int i) H Q := ⟨i, rfl, h⟩
theorem g_chain (h : ta σ H fun x H1 => tb σ H1 fun y H2 => r x y H2 fun z H3 => ∃ k, z = .bl k ∧ (if k = true then tc σ H3 fun w' H4 => r' y w' H4 Q else Q (.bl false) H3)) : tChain r r' ta tb tc σ H Q := h
theorem g_ch {A B : Bool → Prop} {k : Bool} (h : if k = true then A k else B k) : ∃ c, V.bl k = .bl c ∧ (if c = true then A c else B c) := ⟨k, rfl, h⟩
theorem g_test (h : te σ H fun x H1 => ∃ k, x = .bl k ∧ QB k H1) : tTest te σ H QB := h
theorem g_tB (h : te σ H fun x H1 => ∃ k, x = .bl k ∧ QB k H1) : tB te σ H QB := h
theorem g_kb {A : Bool → Prop} {k : Bool} (h : A k) : ∃ c, V.bl k = .bl c ∧ A c := ⟨k, rfl, h⟩
theorem g_and (h : tt1 σ H fun c H1 => if c = true then tt2 σ H1 QB else QB false H1) : tAnd tt1 tt2 σ H QB := h
theorem g_or (h : tt1 σ H fun c H1 => if c = true then QB true H1 else tt2 σ H1 QB) : tOr tt1 tt2 σ H QB := h
theorem g_not (h : tt σ H fun c H1 => QB (!c) H1) : tNot tt σ H QB := h
theorem g_andV (h : ta σ H fun x H1 => ∃ c, x = .bl c ∧ if c = true then tb σ H1 Q else Q (.bl false) H1) : tAndV ta tb σ H Q := h
theorem g_orV (h : ta σ H fun x H1 => ∃ c, x = .bl c ∧ if c = true then Q (.bl true) H1 else tb σ H1 Q) : tOrV ta tb σ H Q := h
theorem g_notV (h : ta σ H fun x H1 => ∃ c, x = .bl c ∧ Q (.bl (!c)) H1) : tNotV ta σ H Q := h
theorem g_if (h : tt σ H fun c H1 => if c = true then ta σ H1 Q else tb σ H1 Q) : tIf tt ta tb σ H Q := h
theorem g_T {A B : Prop} (h : A) : if true = true then A else B := iteT h
theorem g_F {A B : Prop} (h : B) : if false = true then A else B := iteF h
theorem g_nF {A B : Prop} (h : A) : if (!false) = true then A else B := iteT h
theorem g_nT {A B : Prop} (h : B) : if (!true) = true then A else B := iteF h
theorem g_dec {P A B : Prop} [Decidable P] (h1 : P → A) (h2 : ¬ P → B) : if decide P = true then A else B := ite2 (fun h => h1 (of_decide_eq_true h)) (fun h => h2 (fun z => h (decide_eq_true z)))
theorem g_ndec {P A B : Prop} [Decidable P] (h1 : ¬ P → A) (h2 : P → B) : if (!decide P) = true then A else B := by
  by_cases h : P
  · rw [decide_eq_true h]; exact iteF (h2 h)
  · rw [decide_eq_false h]; exact iteT (h1 h)
theorem g_decT {P A B : Prop} [Decidable P] (h : P) (a : A) : if decide P = true then A else B := g_dec (fun _ => a) (fun z => absurd h z)
theorem g_decF {P A B : Prop} [Decidable P] (h : ¬ P) (a : B) : if decide P = true then A else B := g_dec (fun z => absurd z h) (fun _ => a)
theorem g_ndecF {P A B : Prop} [Decidable P] (h : P) (a : B) : if (!decide P) = true then A else B := g_ndec (fun z => absurd h z) (fun _ => a)
theorem g_ndecT {P A B : Prop} [Decidable P] (h : ¬ P) (a : A) : if (!decide P) = true then A else B := g_ndec (fun _ => a) (fun z => absurd z h)
theorem g_nbl {k : Bool} {A B : Prop} (h : if k = true then B else A) : if (!k) = true then A else B := by cases k <;> exact h
theorem g_bl {k : Bool} {A B : Prop} (h1 : k = true → A) (h2 : k = false → B) : if k = true then A else B := by
  cases k
  · exact iteF (h2 rfl)
  · exact iteT (h1 rfl)
theorem g_nil (q : QA [] H) : tNil σ H QA := q
theorem g_cons {tr : TA} (h : ta σ H fun x H1 => tr σ H1 fun xs H2 => QA (x :: xs) H2) : tCons ta tr σ H QA := h
theorem g_tup {t : TA} (h : t σ H fun xs H1 => xs.length ≤ sizeLine ∧ ∀ p, H1 p = none → Q (.ref p) (upd H1 p (.tup xs))) : tTup t σ H Q := h
theorem g_lst {t : TA} (h : t σ H fun xs H1 => xs.length ≤ sizeLine ∧ ∀ p, H1 p = none → Q (.ref p) (upd H1 p (.lst xs))) : tLst t σ H Q := h
theorem g_new {A : Prop} (h : xs.length ≤ 1000) (q : A) : xs.length ≤ sizeLine ∧ A := ⟨sz (Nat.le_trans h (by decide)), q⟩
theorem g_call {sp : Sp} {dvs : List V} {E : XK} {t : TA} (h : t σ H fun vs H1 => sp (vs ++ dvs) H1 Q E) : tCall sp dvs E t σ H Q := h
theorem g_meth {C : Addr} {m : Str} {sp : Sp} {dvs : List V} {E : XK} {t : TA} (h : ta σ H fun x H1 => ∃ a dx fs, x = .ref a ∧ H1 a = some (.ins C dx fs) ∧ fs.lookup m = none ∧ t σ H1 fun vs H2 => sp (x :: (vs ++ dvs)) H2 Q E) : tMeth C m sp dvs E ta t σ H Q := h
theorem g_m {C a dx : Addr} {fs : List (Str × V)} {m : Str} {B : Prop} (h : H a = some (.ins C dx fs)) (l : fs.lookup m = none) (q : B) : ∃ a' dx fs, V.ref a = .ref a' ∧ H a' = some (.ins C dx fs) ∧ fs.lookup m = none ∧ B := ⟨a, dx, fs, rfl, h, l, q⟩
theorem g_make {C : Addr} {sp : Sp} {dvs : List V} {E : XK} {t : TA} (h : t σ H fun vs H1 => ∀ x dx, H1 x = none → H1 dx = none → dx ≠ x → sp (.ref x :: (vs ++ dvs)) (upd (upd H1 dx (.own x)) x (.ins C dx [])) (fun v H2 => v = .non ∧ Q (.ref x) H2) E) : tMake C sp dvs E t σ H Q := h
theorem g_fld {F : Str} (h : ta σ H fun x H1 => ∃ a C dx fs v, x = .ref a ∧ H1 a = some (.ins C dx fs) ∧ Cls K C ∧ NoAttr K C F ∧ fs.lookup F = some v ∧ Q v H1) : tFld K ta F σ H Q := h
theorem g_fl {a C dx : Addr} {fs : List (Str × V)} {F : Str} {B : V → Prop} (h : H a = some (.ins C dx fs)) (c : Cls K C) (nn : NoAttr K C F) (l : fs.lookup F = some v) (q : B v) : ∃ a' C dx fs v, V.ref a = .ref a' ∧ H a' = some (.ins C dx fs) ∧ Cls K C ∧ NoAttr K C F ∧ fs.lookup F = some v ∧ B v := ⟨a, C, dx, fs, v, rfl, h, c, nn, l, q⟩
theorem g_sfld {tv : TE} {F : Str} (h : tv σ H fun y H1 => ta σ H1 fun x H2 => ∃ a C dx fs, x = .ref a ∧ H2 a = some (.ins C dx fs) ∧ Cls K C ∧ NoAttr K C F ∧ fs.length < 1000 ∧ D.nx σ (upd H2 a (.ins C dx (putF F y fs)))) : sFld K ta tv F D σ H := h
theorem g_sf {a C dx : Addr} {fs : List (Str × V)} {F : Str} {B : Addr → Addr → Addr → List (Str × V) → Prop} (h : H a = some (.ins C dx fs)) (c : Cls K C) (nn : NoAttr K C F) (l : fs.length < 1000) (q : B a C dx fs) : ∃ a' C dx fs, V.ref a = .ref a' ∧ H a' = some (.ins C dx fs) ∧ Cls K C ∧ NoAttr K C F ∧ fs.length < 1000 ∧ B a' C dx fs := ⟨a, C, dx, fs, rfl, h, c, nn, l, q⟩
theorem g_cb {r : List V → Hp → VK → Prop} {t : TA} (h : t σ H fun vs H1 => r vs H1 Q) : tCB r t σ H Q := h
theorem g_ixL (h : SqL K H p xs) (a : atI xs i = some v) (q : Q v H) : rIxL K (.ref p) (.int i) H Q := ⟨p, xs, i, v, rfl, rfl, h, a, q⟩
theorem g_ixT (h : SqT K H p xs) (a : atI xs i = some v) (q : Q v H) : rIxT K (.ref p) (.int i) H Q := ⟨p, xs, i, v, rfl, rfl, h, a, q⟩
theorem g_ixS {z : Str} {k : Nat} (h : z.length ≤ sizeLine) (a : atI z.cps.toList i = some k) (q : Q (.str ⟨#[k]⟩) H) : rIxS (.str z) (.int i) H Q := ⟨z, i, k, rfl, rfl, h, a, q⟩
theorem g_lenL (h : SqL K H p xs) (q : Q (.int xs.length) H) : rLen K [.ref p] H Q := ⟨p, xs, rfl, .inl h, q⟩
theorem g_lenT (h : SqT K H p xs) (q : Q (.int xs.length) H) : rLen K [.ref p] H Q := ⟨p, xs, rfl, .inr h, q⟩
theorem g_lenS {z : Str} (h : z.length ≤ sizeLine) (q : Q (.int z.length) H) : rLenS [.str z] H Q := ⟨z, rfl, h, q⟩
theorem g_listL (h : SqL K H p xs) (q : ∀ l, H l = none → Q (.ref l) (upd H l (.lst xs))) : rListOf K [.ref p] H Q := ⟨p, xs, rfl, .inl h, q⟩
theorem g_listT (h : SqT K H p xs) (q : ∀ l, H l = none → Q (.ref l) (upd H l (.lst xs))) : rListOf K [.ref p] H Q := ⟨p, xs, rfl, .inr h, q⟩
theorem g_tupL (h : SqL K H p xs) (q : ∀ l, H l = none → Q (.ref l) (upd H l (.tup xs))) : rTupOf K [.ref p] H Q := ⟨p, xs, rfl, .inl ⟨h, q⟩⟩
theorem g_tupT (h : SqT K H p xs) (q : Q (.ref p) H) : rTupOf K [.ref p] H Q := ⟨p, xs, rfl, .inr ⟨h, q⟩⟩
theorem g_addS {a b : Str} (h : a.length + b.length ≤ sizeLine) (q : Q (.str (a ++ b)) H) : rAddS (.str a) (.str b) H Q := ⟨a, b, rfl, rfl, h, q⟩
theorem g_inS {k : Nat} {z : Str} (q : Q (.bl (decide (k ∈ z.cps.toList))) H) : rInS (.str ⟨#[k]⟩) (.str z) H Q := ⟨k, z, rfl, rfl, q⟩
theorem g_notInS {k : Nat} {z : Str} (q : Q (.bl (!decide (k ∈ z.cps.toList))) H) : rNotInS (.str ⟨#[k]⟩) (.str z) H Q := ⟨k, z, rfl, rfl, q⟩
theorem g_inV {neg : Bool} (h : SqL K H p xs ∨ SqT K H p xs) (hx : flatV x = true) (hs : xs.all flatV = true) (q : Q (.bl (if neg then !inV x xs else inV x xs)) H) : rIn K neg x (.ref p) H Q := ⟨p, xs, rfl, h, hx, hs, q⟩
theorem g_isN (q : Q (.bl (decide (x = .non))) H) : rIsN x .non H Q := ⟨rfl, q⟩
theorem g_isNn (q : Q (.bl true) H) : rIsN .non .non H Q := ⟨rfl, q⟩
theorem g_isNi (q : Q (.bl false) H) : rIsN (.int i) .non H Q := ⟨rfl, q⟩
theorem g_isNb {k : Bool} (q : Q (.bl false) H) : rIsN (.bl k) .non H Q := ⟨rfl, q⟩
theorem g_isNs {z : Str} (q : Q (.bl false) H) : rIsN (.str z) .non H Q := ⟨rfl, q⟩
theorem g_isNr (q : Q (.bl false) H) : rIsN (.ref p) .non H Q := ⟨rfl, q⟩
theorem g_notNn (q : Q (.bl false) H) : rNotN .non .non H Q := ⟨rfl, q⟩
theorem g_notNi (q : Q (.bl true) H) : rNotN (.int i) .non H Q := ⟨rfl, q⟩
theorem g_notNb {k : Bool} (q : Q (.bl true) H) : rNotN (.bl k) .non H Q := ⟨rfl, q⟩
theorem g_notNs {z : Str} (q : Q (.bl true) H) : rNotN (.str z) .non H Q := ⟨rfl, q⟩
theorem g_notNr (q : Q (.bl true) H) : rNotN (.ref p) .non H Q := ⟨rfl, q⟩
theorem g_isB {k : Bool} (q : Q (.bl (decide (x = .bl k))) H) : rIsBl false x (.bl k) H Q := ⟨k, rfl, q⟩
theorem g_abs (q : Q (.int (if i < 0 then -i else i)) H) : rAbs [.int i] H Q := ⟨i, rfl, q⟩
theorem g_max2 (q : Q (.int (if j > i then j else i)) H) : rMax2 [.int i, .int j] H Q := ⟨i, j, rfl, q⟩
theorem g_min2 (q : Q (.int (if j < i then j else i)) H) : rMin2 [.int i, .int j] H Q := ⟨i, j, rfl, q⟩
theorem g_int1 (q : Q (.int i) H) : rInt1 [.int i] H Q := .inl ⟨i, rfl, q⟩
theorem g_intB {k : Bool} (q : Q (.int (if k then 1 else 0)) H) : rInt1 [.bl k] H Q := .inr ⟨k, rfl, q⟩
theorem g_I0 {g : Int → Int → V} (q : Q (g i j) H) : rI0 g (.int i) (.int j) H Q := ⟨i, j, rfl, rfl, q⟩
theorem g_I {C : Int → Int → Prop} {g : Int → Int → V} (c : C i j) (q : Q (g i j) H) : rI C g (.int i) (.int j) H Q := ⟨i, j, rfl, rfl, c, q⟩
theorem g_eqI (q : Q (.bl (decide (i = j))) H) : rEq (.int i) (.int j) H Q := ⟨rfl, by rw [dec_int, Bool.beq_eq_decide_eq]; exact q⟩
theorem g_eqS {a b : Str} (q : Q (.bl (decide (a = b))) H) : rEq (.str a) (.str b) H Q := ⟨rfl, by rw [dec_str, Bool.beq_eq_decide_eq]; exact q⟩
theorem g_eqB {a b : Bool} (q : Q (.bl (decide (a = b))) H) : rEq (.bl a) (.bl b) H Q := ⟨rfl, by rw [dec_bl, Bool.beq_eq_decide_eq]; exact q⟩
theorem g_neI (q : Q (.bl (!decide (i = j))) H) : rNe (.int i) (.int j) H Q := ⟨rfl, by rw [dec_int, Bool.beq_eq_decide_eq]; exact q⟩
theorem g_neS {a b : Str} (q : Q (.bl (!decide (a = b))) H) : rNe (.str a) (.str b) H Q := ⟨rfl, by rw [dec_str, Bool.beq_eq_decide_eq]; exact q⟩
theorem g_neB {a b : Bool} (q : Q (.bl (!decide (a = b))) H) : rNe (.bl a) (.bl b) H Q := ⟨rfl, by rw [dec_bl, Bool.beq_eq_decide_eq]; exact q⟩
theorem g_i_nn_bool (q : Q (.bl false) H) : rIsi K [.non, .ty "bool"] H Q := isi TyOf.non kb_nn_bool q
theorem g_i_nn_int (q : Q (.bl false) H) : rIsi K [.non, .ty "int"] H Q := isi TyOf.non kb_nn_int q
theorem g_i_nn_str (q : Q (.bl false) H) : rIsi K [.non, .ty "str"] H Q := isi TyOf.non kb_nn_str q
theorem g_i_bl_bool {k : Bool} (q : Q (.bl true) H) : rIsi K [.bl k, .ty "bool"] H Q := isi (TyOf.bl _) kb_bl_bool q
theorem g_i_bl_int {k : Bool} (q : Q (.bl true) H) : rIsi K [.bl k, .ty "int"] H Q := isi (TyOf.bl _) kb_bl_int q
theorem g_i_bl_str {k : Bool} (q : Q (.bl false) H) : rIsi K [.bl k, .ty "str"] H Q := isi (TyOf.bl _) kb_bl_str q
theorem g_i_int_bool (q : Q (.bl false) H) : rIsi K [.int i, .ty "bool"] H Q := isi (TyOf.int _) kb_int_bool q
theorem g_i_int_int (q : Q (.bl true) H) : rIsi K [.int i, .ty "int"] H Q := isi (TyOf.int _) kb_int_int q
theorem g_i_int_str (q : Q (.bl false) H) : rIsi K [.int i, .ty "str"] H Q := isi (TyOf.int _) kb_int_str q
theorem g_i_str_bool {z : Str} (q : Q (.bl false) H) : rIsi K [.str z, .ty "bool"] H Q := isi (TyOf.str _) kb_str_bool q
theorem g_i_str_int {z : Str} (q : Q (.bl false) H) : rIsi K [.str z, .ty "int"] H Q := isi (TyOf.str _) kb_str_int q
theorem g_i_str_str {z : Str} (q : Q (.bl true) H) : rIsi K [.str z, .ty "str"] H Q := isi (TyOf.str _) kb_str_str q
theorem g_isi {n : String} (h : rIsi K [x, .ty n] H Q) : rIsi K [x, .ty n] H Q := h
theorem g_part {QO : Option Int → Hp → Prop} (h : te σ H fun x H1 => ∃ i, x = .int i ∧ QO (some i) H1) : tPart te σ H QO := h
theorem g_pi {A : Int → Prop} (h : A i) : ∃ k, V.int i = .int k ∧ A k := ⟨i, rfl, h⟩
theorem g_nopart {QO : Option Int → Hp → Prop} (h : QO none H) : tNoPart σ H QO := h
theorem g_sl {r : V → Option Int → Option Int → Hp → VK → Prop} {tl th : TO} (h : te σ H fun x H1 => tl σ H1 fun l H2 => th σ H2 fun u H3 => r x l u H3 Q) : tSl r te tl th σ H Q := h
theorem g_slL {lo hi : Option Int} (h : SqL K H p xs) (q : ∀ l, H l = none → Q (.ref l) (upd H l (.lst (cutV xs lo hi)))) : rSlL K (.ref p) lo hi H Q := ⟨p, xs, rfl, h, q⟩
theorem g_cat {p q : Addr} {zs : List V} (h : H p = some (.lst xs)) (h2 : H q = some (.lst zs)) (l : xs.length + zs.length ≤ sizeLine) (k : ∀ l, H l = none → Q (.ref l) (upd H l (.lst (xs ++ zs)))) : rCat (.ref p) (.ref q) H Q := ⟨p, q, xs, zs, rfl, rfl, h, h2, l, k⟩
theorem g_bm {T : String} {r : V → List V → Hp → VK → Prop} {to : TE} {t : TA} (h : to σ H fun x H1 => tyV K T x H1 ∧ t σ H1 fun xs H2 => r x xs H2 Q) : tBM K T r to t σ H Q := h
theorem g_bm0 {T : String} {r : V → List V → Hp → VK → Prop} {to : TE} (h : to σ H fun x H1 => tyV K T x H1 ∧ r x [] H1 Q) : tBM0 K T r to σ H Q := h
theorem g_tyL {B : Prop} (h : SqL K H p xs) (q : B) : tyV K "list" (.ref p) H ∧ B := ⟨.inl ⟨rfl, _, h⟩, q⟩
theorem g_append (h : H p = some (.lst xs)) (l : xs.length < sizeLine) (q : Q .non (upd H p (.lst (xs ++ [v])))) : rAppend (.ref p) [v] H Q := ⟨p, xs, v, rfl, rfl, h, l, q⟩
theorem g_m1 {r : V → List V → Hp → VK → Prop} {to : TE} (h : to σ H fun x H1 => (∃ a, x = .str a) ∧ te σ H1 fun y H2 => r x [y] H2 Q) : tM1 r to te σ H Q := h
theorem g_str {z : Str} {B : Prop} (q : B) : (∃ a, V.str z = .str a) ∧ B := ⟨⟨z, rfl⟩, q⟩
theorem g_for {wi : TI} {g : TG} (h : wi σ H fun J H1 => ∃ W : Nat → Nat → L2.St → Hp → Prop, (∃ m, W 0 m σ H1) ∧ ∀ i m σ H, W i m σ H →
  (J.stop i H ∧ D.nx σ H) ∨ (J.go i H ∧ ∃ N : L2.St → Hp → Prop, (∀ σ' H', N σ' H' → ∃ m', m' < m ∧ W (i + 1) m' σ' H') ∧ ∀ x H', J.yld i H x H' → g x σ H' fun σ2 H2 => t (Dl D N) σ2 H2)) : tFor wi g t D σ H := h
theorem g_forR {lo : Int} {m : Nat} {g : TG} (Pv : Nat → L2.St → Hp → Prop) (h0 : Pv 0 σ H) (hs : ∀ i σ H, i < m → Pv i σ H → g (.int (lo + i)) σ H fun σ2 H2 => t (Dl D (Pv (i + 1))) σ2 H2) (hd : ∀ σ H, Pv m σ H → D.nx σ H) :
    ∃ W : Nat → Nat → L2.St → Hp → Prop, (∃ m, W 0 m σ H) ∧ ∀ i m' σ H, W i m' σ H →
      ((Itr lo m).stop i H ∧ D.nx σ H) ∨ ((Itr lo m).go i H ∧ ∃ N : L2.St → Hp → Prop, (∀ σ' H', N σ' H' → ∃ m'', m'' < m' ∧ W (i + 1) m'' σ' H') ∧ ∀ x H', (Itr lo m).yld i H x H' → g x σ H' fun σ2 H2 => t (Dl D N) σ2 H2) := for_range (D := D) Pv h0 hs hd
theorem g_forL {g : TG} (Pv : Nat → L2.St → Hp → Prop) (h0 : Pv 0 σ H) (hl : ∀ i σ H, i ≤ xs.length → Pv i σ H → SqL K H p xs) (hs : ∀ i x σ H, xs[i]? = some x → Pv i σ H → g x σ H fun σ2 H2 => t (Dl D (Pv (i + 1))) σ2 H2) (hd : ∀ σ H, Pv xs.length σ H → D.nx σ H) :
    ∃ W : Nat → Nat → L2.St → Hp → Prop, (∃ m, W 0 m σ H) ∧ ∀ i m' σ H, W i m' σ H →
      ((Itl K p).stop i H ∧ D.nx σ H) ∨ ((Itl K p).go i H ∧ ∃ N : L2.St → Hp → Prop, (∀ σ' H', N σ' H' → ∃ m'', m'' < m' ∧ W (i + 1) m'' σ' H') ∧ ∀ x H', (Itl K p).yld i H x H' → g x σ H' fun σ2 H2 => t (Dl D N) σ2 H2) := for_list (D := D) Pv h0 hl hs hd
theorem g_forT {g : TG} (Pv : Nat → L2.St → Hp → Prop) (h0 : Pv 0 σ H) (hl : ∀ i σ H, i ≤ xs.length → Pv i σ H → SqT K H p xs) (hs : ∀ i x σ H, xs[i]? = some x → Pv i σ H → g x σ H fun σ2 H2 => t (Dl D (Pv (i + 1))) σ2 H2) (hd : ∀ σ H, Pv xs.length σ H → D.nx σ H) :
    ∃ W : Nat → Nat → L2.St → Hp → Prop, (∃ m, W 0 m σ H) ∧ ∀ i m' σ H, W i m' σ H →
      ((Itt K p).stop i H ∧ D.nx σ H) ∨ ((Itt K p).go i H ∧ ∃ N : L2.St → Hp → Prop, (∀ σ' H', N σ' H' → ∃ m'', m'' < m' ∧ W (i + 1) m'' σ' H') ∧ ∀ x H', (Itt K p).yld i H x H' → g x σ H' fun σ2 H2 => t (Dl D N) σ2 H2) := for_tup (D := D) Pv h0 hl hs hd
theorem g_iRng1 {R : It → Hp → Prop} {t : TA} (h : t σ H fun vs H1 => ∃ j : Int, vs = [.int j] ∧ -(2 ^ 62) ≤ j ∧ j < 2 ^ 62 ∧ R (Itr 0 j.toNat) H1) : iRng1 t σ H R := h
theorem g_r1 {B : Int → Prop} (h0 : -(2 ^ 62) ≤ i) (h1 : i < 2 ^ 62) (h : B i) : ∃ j : Int, [V.int i] = [.int j] ∧ -(2 ^ 62) ≤ j ∧ j < 2 ^ 62 ∧ B j := ⟨i, rfl, h0, h1, h⟩
theorem g_iRng2 {R : It → Hp → Prop} {t : TA} (h : t σ H fun vs H1 => ∃ i j : Int, vs = [.int i, .int j] ∧ (-(2 ^ 62) ≤ i ∧ i < 2 ^ 62 ∧ -(2 ^ 62) ≤ j ∧ j < 2 ^ 62) ∧ R (Itr i (j - i).toNat) H1) : iRng2 t σ H R := h
theorem g_r2 {B : Int → Int → Prop} (h0 : -(2 ^ 62) ≤ i ∧ i < 2 ^ 62 ∧ -(2 ^ 62) ≤ j ∧ j < 2 ^ 62) (h : B i j) : ∃ i' j' : Int, [V.int i, V.int j] = [.int i', .int j'] ∧ (-(2 ^ 62) ≤ i' ∧ i' < 2 ^ 62 ∧ -(2 ^ 62) ≤ j' ∧ j' < 2 ^ 62) ∧ B i' j' := ⟨i, j, rfl, h0, h⟩
theorem g_iList {R : It → Hp → Prop} (h : te σ H fun x H1 => ∃ a, x = .ref a ∧ (∃ xs, SqL K H1 a xs) ∧ R (Itl K a) H1) : iList K te σ H R := h
theorem g_il {B : Addr → Prop} (h : SqL K H p xs) (q : B p) : ∃ a, V.ref p = .ref a ∧ (∃ xs, SqL K H a xs) ∧ B a := ⟨p, rfl, ⟨xs, h⟩, q⟩
theorem g_iTup {R : It → Hp → Prop} (h : te σ H fun x H1 => ∃ a, x = .ref a ∧ (∃ xs, SqT K H1 a xs) ∧ R (Itt K a) H1) : iTup K te σ H R := h
theorem g_it {B : Addr → Prop} (h : SqT K H p xs) (q : B p) : ∃ a, V.ref p = .ref a ∧ (∃ xs, SqT K H a xs) ∧ B a := ⟨p, rfl, ⟨xs, h⟩, q⟩
theorem g_gtup {n : Nat} {u : TGs} (h : SqT K H p xs) (l : xs.length = n) (q : u xs σ H f) : gTup K n u (.ref p) σ H f := ⟨p, xs, rfl, h, l, q⟩
theorem g_gcons {g : TG} {u : TGs} {zs : List V} (q : g v σ H fun σ' H' => u zs σ' H' f) : gCons g u (v :: zs) σ H f := ⟨v, zs, rfl, q⟩
theorem g_gnil (q : f σ H) : gNil [] σ H f := ⟨rfl, q⟩
theorem g_isBn {k : Bool} (q : Q (.bl false) H) : rIsBl false .non (.bl k) H Q := ⟨k, rfl, q⟩
theorem g_isBb {k m : Bool} (q : Q (.bl (decide (m = k))) H) : rIsBl false (.bl m) (.bl k) H Q := ⟨k, rfl, by show Q (.bl (decide (V.bl m = V.bl k))) H; rw [dB]; exact q⟩
theorem g_isBi {k : Bool} (q : Q (.bl false) H) : rIsBl false (.int i) (.bl k) H Q := ⟨k, rfl, q⟩
theorem g_isBs {k : Bool} {z : Str} (q : Q (.bl false) H) : rIsBl false (.str z) (.bl k) H Q := ⟨k, rfl, q⟩
theorem g_catA {a b : Addr} {zs : List V} (h1 : SqT K H a xs) (h2 : H b = some (.tup zs)) (l : xs.length + zs.length ≤ sizeLine) (ne : zs ≠ []) (q : ∀ q H', Same H H' → H' q = some (.tup (xs ++ zs)) → Q (.ref q) H') : rCatA K (.ref a) (.ref b) H Q :=
  ⟨a, b, xs, zs, rfl, rfl, h1, .inl (.inl h2), l, fun e => q b H (Same.refl H) (by rw [e]; exact h2), fun _ z => absurd z ne, fun _ _ p np => q p _ (Same.new (Same.refl H) np) upd_same⟩
theorem g_tru (h : te σ H fun x H' => ∃ k, TruV K x H' k ∧ QB k H') : tTru K te σ H QB := h
theorem g_truL {B : Bool → Prop} (h : SqL K H p xs) (q : B (!xs.isEmpty)) : ∃ k, TruV K (.ref p) H k ∧ B k := ⟨_, .inl ⟨xs, h, rfl⟩, q⟩
theorem g_eqNI (q : Q (.bl false) H) : rEq .non (.int i) H Q := ⟨rfl, q⟩
theorem g_eqIN (q : Q (.bl false) H) : rEq (.int i) .non H Q := ⟨rfl, q⟩
theorem g_eqNS {z : Str} (q : Q (.bl false) H) : rEq .non (.str z) H Q := ⟨rfl, q⟩
theorem g_dget {td ty : TE} (h : td σ H fun x H1 => ty σ H1 fun y H2 => ∃ a v, x = .ref a ∧ DGet H2 a y (some v) ∧ Q v H2) : tDGet td ty σ H Q := h
theorem g_dg {z : Str} {kvs : List (Key × V)} {B : V → Prop} (h : H p = some (.dK kvs)) (l : valV kvs (.inr z) = some v) (q : B v) : ∃ a v, V.ref p = .ref a ∧ DGet H a (.str z) (some v) ∧ B v := ⟨p, v, rfl, by rw [← l]; exact DGet.k (k := .inr z) h, q⟩
theorem g_sdput {td ty tv : TE} (h : tv σ H fun v H1 => td σ H1 fun x H2 => ty σ H2 fun y H3 => ∃ a H4, x = .ref a ∧ DPut H3 a y v H4 ∧ D.nx σ H4) : sDPut td ty tv D σ H := h
theorem g_dp {z : Str} {kvs : List (Key × V)} {B : Hp → Prop} (h : H p = some (.dK kvs)) (l : kvs.length < sizeLine) (q : B (upd H p (.dK (putK kvs (.inr z) v)))) : ∃ a H4, V.ref p = .ref a ∧ DPut H a (.str z) v H4 ∧ B H4 := ⟨p, _, rfl, DPut.k (k := .inr z) h l, q⟩
theorem g_disp {trs : List (TE × TE)} (h : ∀ p, H p = none → tPairs trs σ (upd H p (.dK [])) fun ps H2 => H2 p = some (.dK []) ∧ ∃ kvs : List (Key × V), ps = kvs.map (fun kv => (kV kv.1, kv.2)) ∧ kvs.length ≤ 15 ∧ Q (.ref p) (upd H2 p (.dK (mergeK [] kvs)))) : tDisp trs σ H Q := h
theorem g_pc {tk tv : TE} {r : List (TE × TE)} {QP : List (V × V) → Hp → Prop} (h : tk σ H fun x H1 => tv σ H1 fun y H2 => tPairs r σ H2 fun ps H3 => QP ((x, y) :: ps) H3) : tPairs ((tk, tv) :: r) σ H QP := h
theorem g_pn {QP : List (V × V) → Hp → Prop} (h : QP [] H) : tPairs [] σ H QP := h
theorem g_yes (h : QB true H) : tYes σ H QB := h
theorem g_lc {wi : TI} {g : TG} {vs : List Nat} (h : wi σ H fun J H1 => ∀ D, H1 D = none → ∃ W : Nat → Nat → Hp → Prop, (∃ m, W 0 m (upd H1 D (.lst []))) ∧ ∀ i m H, W i m H →
  (J.stop i H ∧ Q (.ref D) H) ∨ (J.go i H ∧ ∃ Nx : Hp → Prop, (∀ H', Nx H' → ∃ m', m' < m ∧ W (i + 1) m' H') ∧ ∀ x H', J.yld i H x H' → g x (wipe σ vs) H' fun σ2 H2 => wipe σ2 vs = wipe σ vs ∧ tt σ2 H2 fun b H3 =>
    if b = true then te σ2 H3 fun y H4 => ∃ acc, H4 D = some (.lst acc) ∧ acc.length < sizeLine ∧ Nx (upd H4 D (.lst (acc ++ [y]))) else Nx H3)) : tLc wi g tt te vs σ H Q := h
theorem g_wipe {σ2 : L2.St} {vs : List Nat} {B : Prop} (h : wipe σ2 vs = wipe σ vs) (q : B) : wipe σ2 vs = wipe σ vs ∧ B := ⟨h, q⟩
theorem g_dget2 {td ty tx : TE} (h : td σ H fun x H1 => ∃ a, x = .ref a ∧ IsD H1 a ∧ ty σ H1 fun y H2 => tx σ H2 fun z H3 => ∃ o, DGet H3 a y o ∧ Q (o.getD z) H3) : tDGet2 td ty tx σ H Q := h
theorem g_daug {td ty tv : TE} {rd : V → V → Hp → VK → Prop} (h : td σ H fun x H1 => ty σ H1 fun y H2 => ∃ a v, x = .ref a ∧ DGet H2 a y (some v) ∧ tv σ H2 fun y2 H3 => rd v y2 H3 fun z H4 => ∃ H5, DPut H4 a y z H5 ∧ D.nx σ H5) : sDAug td ty tv rd D σ H := h
theorem g_dnewT (h : ∀ p, H p = none → Q (.ref p) (upd H p (.dT []))) : tDNewT σ H Q := h
theorem g_rAdd {i j : Int} (h : Q (.int (i + j)) H) : rAdd (.int i) (.int j) H Q := ⟨i, j, rfl, rfl, h⟩
theorem g_rSub {i j : Int} (h : Q (.int (i - j)) H) : rSub (.int i) (.int j) H Q := ⟨i, j, rfl, rfl, h⟩
end

/-! texts -/
def cd (z : Str) : List Nat := z.cps.toList
theorem cd_app (a b : Str) : cd (a ++ b) = cd a ++ cd b := by
  show (a.cps ++ b.cps).toList = a.cps.toList ++ b.cps.toList
  simp
theorem cd_len (a : Str) : (cd a).length = a.length := Array.length_toList
theorem cd_ext {a b : Str} (h : cd a = cd b) : a = b := by
  cases a with | mk x => cases b with | mk y =>
    have e : x = y := Array.toList_inj.mp h
    rw [e]
theorem cd_nil : cd "" = [] := by decide +kernel
theorem join_cd : ∀ l : List Str, cd (Txt.join "" l) = (l.map cd).flatten
  | [] => by rw [TL.join_eq]; rfl
  | [x] => by rw [TL.join_eq]; show cd x = (cd x :: []).flatten; simp
  | x :: y :: r => by
    rw [TL.join_eq]
    show cd (x ++ ("" : Str) ++ PySem.Str.join "" (y :: r)) = cd x ++ ((y :: r).map cd).flatten
    rw [cd_app, cd_app, cd_nil, List.append_nil, ← join_cd (y :: r), TL.join_eq]
theorem join_len (l : List Str) : (Txt.join "" l).length = (l.map (·.length)).sum := by
  rw [← cd_len, join_cd, List.length_flatten, List.map_map]
  congr 1

/-! order of tuples, the first pair that differs decides (pairs behind it need not be comparable) -/
namespace TupO
open PySem.SeqAt
open PySem.AutoSeq1 (wpAny_loadPart')
open PySem.MeetsSeq PySem.MeetsSeq2 PySem.MeetsSeq3

theorem at_lt (l b : Addr) (xs ys : Array Value) (n1 n2 : Nat) (d1 d2 : Option Addr) (sl1 sl2 : Array (Option Value)) (e r : Nat → Bool) :
    Meets (Builtin.«tuple.__lt__» ⟨[.ref l, .ref b], []⟩)
      (fun A R s => s.heap.get? l = some { cls := .type "tuple", dict := d1, data := .seq xs n1, slots := sl1 } ∧ s.heap.get? b = some { cls := .type "tuple", dict := d2, data := .seq ys n2, slots := sl2 } ∧
        (∀ j (h1 : j < xs.size) (h2 : j < ys.size), EqAt A.in1 s xs[j] ys[j] (e j)) ∧
        (∀ j (h1 : j < xs.size) (h2 : j < ys.size), (∀ m, m < j → e m = true) → e j = false → Ob.RcOp .Lt A.in1 s xs[j] ys[j] (r j)) ∧
        R (.ok (.ret (.bool (Ob.lexAt e r (decide (xs.size < ys.size)) 0 (min xs.size ys.size))))) s) :=
  .of_wp fun prog w A R s h => by
    obtain ⟨hp, gs, dr, tk, os⟩ := s; obtain ⟨hl, hb, he, hr, hR0⟩ := h
    have sub := AutoSeq1.sub_tuple_tuple
    have lenZ : (xs.toList.zip ys.toList).length = min xs.size ys.size := by simp
    wp_walk using wpAny_loadPart' hl, wpAny_loadPart' hb, wpAny_forIn_list _ (fun left c s' => c.1 = none ∧ s' = ⟨hp, gs, dr, tk, os⟩ ∧ ∃ i, left = (xs.toList.zip ys.toList).drop i ∧ (∀ m, m < i → e m = true) ∧
      R (.ok (.ret (.bool (Ob.lexAt e r (decide (xs.size < ys.size)) i (min xs.size ys.size - i))))) ⟨hp, gs, dr, tk, os⟩) _
    case turn =>
      rintro ⟨y, x⟩ left c s' ⟨hc', rfl, i, hz, hprev, hR⟩
      have lt0 : i < (xs.toList.zip ys.toList).length := by
        rcases Nat.lt_or_ge i (xs.toList.zip ys.toList).length with q | q
        · exact q
        · rw [List.drop_of_length_le q] at hz; cases hz
      have lt1 : i < min xs.size ys.size := lenZ ▸ lt0
      have h1 : i < xs.size := Nat.lt_of_lt_of_le lt1 (Nat.min_le_left _ _)
      have h2 : i < ys.size := Nat.lt_of_lt_of_le lt1 (Nat.min_le_right _ _)
      rw [List.drop_eq_getElem_cons lt0] at hz
      injection hz with hyx hleft
      have hy : y = xs[i] := by simpa using congrArg Prod.fst hyx
      have hx : x = ys[i] := by simpa using congrArg Prod.snd hyx
      subst hy hx
      rw [show min xs.size ys.size - i = (min xs.size ys.size - (i + 1)) + 1 by omega, Ob.lexAt_succ] at hR
      refine wpAny_bind (he i h1 h2 prog w _ _ ?_)
      cases hei : e i with
      | true =>
        rw [hei, if_pos rfl] at hR
        wp_walk
        refine ⟨rfl, rfl, i + 1, hleft, fun m hm => ?_, hR⟩
        rcases Nat.lt_succ_iff_lt_or_eq.mp hm with q | q
        · exact hprev m q
        · rw [q]; exact hei
      | false =>
        rw [hei, if_neg Bool.false_ne_true] at hR
        have hri := hr i h1 h2 hprev hei prog w
        wp_walk using hri
        exact ⟨_, rfl, by simpa using hR⟩
    case fin =>
      rintro ⟨c1, c2⟩ s' ⟨hc', rfl, i, hz, _, hR⟩
      simp only at hc'
      subst hc'
      have hge : min xs.size ys.size ≤ i := by
        rcases Nat.lt_or_ge i (xs.toList.zip ys.toList).length with q | q
        · rw [List.drop_eq_getElem_cons q] at hz; cases hz
        · exact lenZ ▸ q
      rw [Nat.sub_eq_zero_of_le hge, Ob.lexAt_zero] at hR
      wp_walk
      exact ⟨_, rfl, by simpa [Builtin.Tuple.tupleCompareSizes] using hR⟩
    case h =>
      exact ⟨rfl, rfl, 0, rfl, fun m hm => absurd hm (Nat.not_lt_zero m), by simpa using hR0⟩
theorem rc_lt {A : Around} {s : Shared} {l b : Addr} {xs ys : Array Value} {e r : Nat → Bool} (hl : s.heap.IsTuple l xs) (hb : s.heap.IsTuple b ys) (hu : A.units < cLine)
    (he : ∀ j (h1 : j < xs.size) (h2 : j < ys.size), EqAt A.in1 s xs[j] ys[j] (e j))
    (hr : ∀ j (h1 : j < xs.size) (h2 : j < ys.size), (∀ m, m < j → e m = true) → e j = false → Ob.RcOp .Lt A.in1 s xs[j] ys[j] (r j)) :
    Ob.RcOp .Lt A s (.ref l) (.ref b) (Ob.lexAt e r (decide (xs.size < ys.size)) 0 (min xs.size ys.size)) := fun prog w E Q h => by
  obtain ⟨⟨k1, d1, q1, sl1⟩, ho1, hc1, n1, hd1⟩ := id hl
  obtain ⟨⟨k2, d2, q2, sl2⟩, ho2, hc2, n2, hd2⟩ := id hb
  simp only at hc1 hd1 hc2 hd2
  subst hc1 hd1 hc2 hd2
  exact richCompare_meets_room (op := .Lt) ⟨_, ho1, rfl⟩ ⟨_, ho2, rfl⟩ F.slot_tuple_lt F.entry_tuple_lt (F.args_tuple_lt_2 _ _) (at_lt l b xs ys n1 n2 d1 d2 sl1 sl2 e r)
    ⟨ho1, ho2, he, hr, ⟨(fun x => nomatch x), h⟩⟩ hu

theorem at_le (l b : Addr) (xs ys : Array Value) (n1 n2 : Nat) (d1 d2 : Option Addr) (sl1 sl2 : Array (Option Value)) (e r : Nat → Bool) :
    Meets (Builtin.«tuple.__le__» ⟨[.ref l, .ref b], []⟩)
      (fun A R s => s.heap.get? l = some { cls := .type "tuple", dict := d1, data := .seq xs n1, slots := sl1 } ∧ s.heap.get? b = some { cls := .type "tuple", dict := d2, data := .seq ys n2, slots := sl2 } ∧
        (∀ j (h1 : j < xs.size) (h2 : j < ys.size), EqAt A.in1 s xs[j] ys[j] (e j)) ∧
        (∀ j (h1 : j < xs.size) (h2 : j < ys.size), (∀ m, m < j → e m = true) → e j = false → Ob.RcOp .LtE A.in1 s xs[j] ys[j] (r j)) ∧
        R (.ok (.ret (.bool (Ob.lexAt e r (decide (xs.size ≤ ys.size)) 0 (min xs.size ys.size))))) s) :=
  .of_wp fun prog w A R s h => by
    obtain ⟨hp, gs, dr, tk, os⟩ := s; obtain ⟨hl, hb, he, hr, hR0⟩ := h
    have sub := AutoSeq1.sub_tuple_tuple
    have lenZ : (xs.toList.zip ys.toList).length = min xs.size ys.size := by simp
    wp_walk using wpAny_loadPart' hl, wpAny_loadPart' hb, wpAny_forIn_list _ (fun left c s' => c.1 = none ∧ s' = ⟨hp, gs, dr, tk, os⟩ ∧ ∃ i, left = (xs.toList.zip ys.toList).drop i ∧ (∀ m, m < i → e m = true) ∧
      R (.ok (.ret (.bool (Ob.lexAt e r (decide (xs.size ≤ ys.size)) i (min xs.size ys.size - i))))) ⟨hp, gs, dr, tk, os⟩) _
    case turn =>
      rintro ⟨y, x⟩ left c s' ⟨hc', rfl, i, hz, hprev, hR⟩
      have lt0 : i < (xs.toList.zip ys.toList).length := by
        rcases Nat.lt_or_ge i (xs.toList.zip ys.toList).length with q | q
        · exact q
        · rw [List.drop_of_length_le q] at hz; cases hz
      have lt1 : i < min xs.size ys.size := lenZ ▸ lt0
      have h1 : i < xs.size := Nat.lt_of_lt_of_le lt1 (Nat.min_le_left _ _)
      have h2 : i < ys.size := Nat.lt_of_lt_of_le lt1 (Nat.min_le_right _ _)
      rw [List.drop_eq_getElem_cons lt0] at hz
      injection hz with hyx hleft
      have hy : y = xs[i] := by simpa using congrArg Prod.fst hyx
      have hx : x = ys[i] := by simpa using congrArg Prod.snd hyx
      subst hy hx
      rw [show min xs.size ys.size - i = (min xs.size ys.size - (i + 1)) + 1 by omega, Ob.lexAt_succ] at hR
      refine wpAny_bind (he i h1 h2 prog w _ _ ?_)
      cases hei : e i with
      | true =>
        rw [hei, if_pos rfl] at hR
        wp_walk
        refine ⟨rfl, rfl, i + 1, hleft, fun m hm => ?_, hR⟩
        rcases Nat.lt_succ_iff_lt_or_eq.mp hm with q | q
        · exact hprev m q
        · rw [q]; exact hei
      | false =>
        rw [hei, if_neg Bool.false_ne_true] at hR
        have hri := hr i h1 h2 hprev hei prog w
        wp_walk using hri
        exact ⟨_, rfl, by simpa using hR⟩
    case fin =>
      rintro ⟨c1, c2⟩ s' ⟨hc', rfl, i, hz, _, hR⟩
      simp only at hc'
      subst hc'
      have hge : min xs.size ys.size ≤ i := by
        rcases Nat.lt_or_ge i (xs.toList.zip ys.toList).length with q | q
        · rw [List.drop_eq_getElem_cons q] at hz; cases hz
        · exact lenZ ▸ q
      rw [Nat.sub_eq_zero_of_le hge, Ob.lexAt_zero] at hR
      wp_walk
      exact ⟨_, rfl, by simpa [Builtin.Tuple.tupleCompareSizes] using hR⟩
    case h =>
      exact ⟨rfl, rfl, 0, rfl, fun m hm => absurd hm (Nat.not_lt_zero m), by simpa using hR0⟩
theorem rc_le {A : Around} {s : Shared} {l b : Addr} {xs ys : Array Value} {e r : Nat → Bool} (hl : s.heap.IsTuple l xs) (hb : s.heap.IsTuple b ys) (hu : A.units < cLine)
    (he : ∀ j (h1 : j < xs.size) (h2 : j < ys.size), EqAt A.in1 s xs[j] ys[j] (e j))
    (hr : ∀ j (h1 : j < xs.size) (h2 : j < ys.size), (∀ m, m < j → e m = true) → e j = false → Ob.RcOp .LtE A.in1 s xs[j] ys[j] (r j)) :
    Ob.RcOp .LtE A s (.ref l) (.ref b) (Ob.lexAt e r (decide (xs.size ≤ ys.size)) 0 (min xs.size ys.size)) := fun prog w E Q h => by
  obtain ⟨⟨k1, d1, q1, sl1⟩, ho1, hc1, n1, hd1⟩ := id hl
  obtain ⟨⟨k2, d2, q2, sl2⟩, ho2, hc2, n2, hd2⟩ := id hb
  simp only at hc1 hd1 hc2 hd2
  subst hc1 hd1 hc2 hd2
  exact richCompare_meets_room (op := .LtE) ⟨_, ho1, rfl⟩ ⟨_, ho2, rfl⟩ F.slot_tuple_le F.entry_tuple_le (F.args_tuple_le_2 _ _) (at_le l b xs ys n1 n2 d1 d2 sl1 sl2 e r)
    ⟨ho1, ho2, he, hr, ⟨(fun x => nomatch x), h⟩⟩ hu

theorem at_gt (l b : Addr) (xs ys : Array Value) (n1 n2 : Nat) (d1 d2 : Option Addr) (sl1 sl2 : Array (Option Value)) (e r : Nat → Bool) :
    Meets (Builtin.«tuple.__gt__» ⟨[.ref l, .ref b], []⟩)
      (fun A R s => s.heap.get? l = some { cls := .type "tuple", dict := d1, data := .seq xs n1, slots := sl1 } ∧ s.heap.get? b = some { cls := .type "tuple", dict := d2, data := .seq ys n2, slots := sl2 } ∧
        (∀ j (h1 : j < xs.size) (h2 : j < ys.size), EqAt A.in1 s xs[j] ys[j] (e j)) ∧
        (∀ j (h1 : j < xs.size) (h2 : j < ys.size), (∀ m, m < j → e m = true) → e j = false → Ob.RcOp .Gt A.in1 s xs[j] ys[j] (r j)) ∧
        R (.ok (.ret (.bool (Ob.lexAt e r (decide (xs.size > ys.size)) 0 (min xs.size ys.size))))) s) :=
  .of_wp fun prog w A R s h => by
    obtain ⟨hp, gs, dr, tk, os⟩ := s; obtain ⟨hl, hb, he, hr, hR0⟩ := h
    have sub := AutoSeq1.sub_tuple_tuple
    have lenZ : (xs.toList.zip ys.toList).length = min xs.size ys.size := by simp
    wp_walk using wpAny_loadPart' hl, wpAny_loadPart' hb, wpAny_forIn_list _ (fun left c s' => c.1 = none ∧ s' = ⟨hp, gs, dr, tk, os⟩ ∧ ∃ i, left = (xs.toList.zip ys.toList).drop i ∧ (∀ m, m < i → e m = true) ∧
      R (.ok (.ret (.bool (Ob.lexAt e r (decide (xs.size > ys.size)) i (min xs.size ys.size - i))))) ⟨hp, gs, dr, tk, os⟩) _
    case turn =>
      rintro ⟨y, x⟩ left c s' ⟨hc', rfl, i, hz, hprev, hR⟩
      have lt0 : i < (xs.toList.zip ys.toList).length := by
        rcases Nat.lt_or_ge i (xs.toList.zip ys.toList).length with q | q
        · exact q
        · rw [List.drop_of_length_le q] at hz; cases hz
      have lt1 : i < min xs.size ys.size := lenZ ▸ lt0
      have h1 : i < xs.size := Nat.lt_of_lt_of_le lt1 (Nat.min_le_left _ _)
      have h2 : i < ys.size := Nat.lt_of_lt_of_le lt1 (Nat.min_le_right _ _)
      rw [List.drop_eq_getElem_cons lt0] at hz
      injection hz with hyx hleft
      have hy : y = xs[i] := by simpa using congrArg Prod.fst hyx
      have hx : x = ys[i] := by simpa using congrArg Prod.snd hyx
      subst hy hx
      rw [show min xs.size ys.size - i = (min xs.size ys.size - (i + 1)) + 1 by omega, Ob.lexAt_succ] at hR
      refine wpAny_bind (he i h1 h2 prog w _ _ ?_)
      cases hei : e i with
      | true =>
        rw [hei, if_pos rfl] at hR
        wp_walk
        refine ⟨rfl, rfl, i + 1, hleft, fun m hm => ?_, hR⟩
        rcases Nat.lt_succ_iff_lt_or_eq.mp hm with q | q
        · exact hprev m q
        · rw [q]; exact hei
      | false =>
        rw [hei, if_neg Bool.false_ne_true] at hR
        have hri := hr i h1 h2 hprev hei prog w
        wp_walk using hri
        exact ⟨_, rfl, by simpa using hR⟩
    case fin =>
      rintro ⟨c1, c2⟩ s' ⟨hc', rfl, i, hz, _, hR⟩
      simp only at hc'
      subst hc'
      have hge : min xs.size ys.size ≤ i := by
        rcases Nat.lt_or_ge i (xs.toList.zip ys.toList).length with q | q
        · rw [List.drop_eq_getElem_cons q] at hz; cases hz
        · exact lenZ ▸ q
      rw [Nat.sub_eq_zero_of_le hge, Ob.lexAt_zero] at hR
      wp_walk
      exact ⟨_, rfl, by simpa [Builtin.Tuple.tupleCompareSizes] using hR⟩
    case h =>
      exact ⟨rfl, rfl, 0, rfl, fun m hm => absurd hm (Nat.not_lt_zero m), by simpa using hR0⟩
theorem rc_gt {A : Around} {s : Shared} {l b : Addr} {xs ys : Array Value} {e r : Nat → Bool} (hl : s.heap.IsTuple l xs) (hb : s.heap.IsTuple b ys) (hu : A.units < cLine)
    (he : ∀ j (h1 : j < xs.size) (h2 : j < ys.size), EqAt A.in1 s xs[j] ys[j] (e j))
    (hr : ∀ j (h1 : j < xs.size) (h2 : j < ys.size), (∀ m, m < j → e m = true) → e j = false → Ob.RcOp .Gt A.in1 s xs[j] ys[j] (r j)) :
    Ob.RcOp .Gt A s (.ref l) (.ref b) (Ob.lexAt e r (decide (xs.size > ys.size)) 0 (min xs.size ys.size)) := fun prog w E Q h => by
  obtain ⟨⟨k1, d1, q1, sl1⟩, ho1, hc1, n1, hd1⟩ := id hl
  obtain ⟨⟨k2, d2, q2, sl2⟩, ho2, hc2, n2, hd2⟩ := id hb
  simp only at hc1 hd1 hc2 hd2
  subst hc1 hd1 hc2 hd2
  exact richCompare_meets_room (op := .Gt) ⟨_, ho1, rfl⟩ ⟨_, ho2, rfl⟩ F.slot_tuple_gt F.entry_tuple_gt (F.args_tuple_gt_2 _ _) (at_gt l b xs ys n1 n2 d1 d2 sl1 sl2 e r)
    ⟨ho1, ho2, he, hr, ⟨(fun x => nomatch x), h⟩⟩ hu

theorem at_ge (l b : Addr) (xs ys : Array Value) (n1 n2 : Nat) (d1 d2 : Option Addr) (sl1 sl2 : Array (Option Value)) (e r : Nat → Bool) :
    Meets (Builtin.«tuple.__ge__» ⟨[.ref l, .ref b], []⟩)
      (fun A R s => s.heap.get? l = some { cls := .type "tuple", dict := d1, data := .seq xs n1, slots := sl1 } ∧ s.heap.get? b = some { cls := .type "tuple", dict := d2, data := .seq ys n2, slots := sl2 } ∧
        (∀ j (h1 : j < xs.size) (h2 : j < ys.size), EqAt A.in1 s xs[j] ys[j] (e j)) ∧
        (∀ j (h1 : j < xs.size) (h2 : j < ys.size), (∀ m, m < j → e m = true) → e j = false → Ob.RcOp .GtE A.in1 s xs[j] ys[j] (r j)) ∧
        R (.ok (.ret (.bool (Ob.lexAt e r (decide (xs.size ≥ ys.size)) 0 (min xs.size ys.size))))) s) :=
  .of_wp fun prog w A R s h => by
    obtain ⟨hp, gs, dr, tk, os⟩ := s; obtain ⟨hl, hb, he, hr, hR0⟩ := h
    have sub := AutoSeq1.sub_tuple_tuple
    have lenZ : (xs.toList.zip ys.toList).length = min xs.size ys.size := by simp
    wp_walk using wpAny_loadPart' hl, wpAny_loadPart' hb, wpAny_forIn_list _ (fun left c s' => c.1 = none ∧ s' = ⟨hp, gs, dr, tk, os⟩ ∧ ∃ i, left = (xs.toList.zip ys.toList).drop i ∧ (∀ m, m < i → e m = true) ∧
      R (.ok (.ret (.bool (Ob.lexAt e r (decide (xs.size ≥ ys.size)) i (min xs.size ys.size - i))))) ⟨hp, gs, dr, tk, os⟩) _
    case turn =>
      rintro ⟨y, x⟩ left c s' ⟨hc', rfl, i, hz, hprev, hR⟩
      have lt0 : i < (xs.toList.zip ys.toList).length := by
        rcases Nat.lt_or_ge i (xs.toList.zip ys.toList).length with q | q
        · exact q
        · rw [List.drop_of_length_le q] at hz; cases hz
      have lt1 : i < min xs.size ys.size := lenZ ▸ lt0
      have h1 : i < xs.size := Nat.lt_of_lt_of_le lt1 (Nat.min_le_left _ _)
      have h2 : i < ys.size := Nat.lt_of_lt_of_le lt1 (Nat.min_le_right _ _)
      rw [List.drop_eq_getElem_cons lt0] at hz
      injection hz with hyx hleft
      have hy : y = xs[i] := by simpa using congrArg Prod.fst hyx
      have hx : x = ys[i] := by simpa using congrArg Prod.snd hyx
      subst hy hx
      rw [show min xs.size ys.size - i = (min xs.size ys.size - (i + 1)) + 1 by omega, Ob.lexAt_succ] at hR
      refine wpAny_bind (he i h1 h2 prog w _ _ ?_)
      cases hei : e i with
      | true =>
        rw [hei, if_pos rfl] at hR
        wp_walk
        refine ⟨rfl, rfl, i + 1, hleft, fun m hm => ?_, hR⟩
        rcases Nat.lt_succ_iff_lt_or_eq.mp hm with q | q
        · exact hprev m q
        · rw [q]; exact hei
      | false =>
        rw [hei, if_neg Bool.false_ne_true] at hR
        have hri := hr i h1 h2 hprev hei prog w
        wp_walk using hri
        exact ⟨_, rfl, by simpa using hR⟩
    case fin =>
      rintro ⟨c1, c2⟩ s' ⟨hc', rfl, i, hz, _, hR⟩
      simp only at hc'
      subst hc'
      have hge : min xs.size ys.size ≤ i := by
        rcases Nat.lt_or_ge i (xs.toList.zip ys.toList).length with q | q
        · rw [List.drop_eq_getElem_cons q] at hz; cases hz
        · exact lenZ ▸ q
      rw [Nat.sub_eq_zero_of_le hge, Ob.lexAt_zero] at hR
      wp_walk
      exact ⟨_, rfl, by simpa [Builtin.Tuple.tupleCompareSizes] using hR⟩
    case h =>
      exact ⟨rfl, rfl, 0, rfl, fun m hm => absurd hm (Nat.not_lt_zero m), by simpa using hR0⟩
theorem rc_ge {A : Around} {s : Shared} {l b : Addr} {xs ys : Array Value} {e r : Nat → Bool} (hl : s.heap.IsTuple l xs) (hb : s.heap.IsTuple b ys) (hu : A.units < cLine)
    (he : ∀ j (h1 : j < xs.size) (h2 : j < ys.size), EqAt A.in1 s xs[j] ys[j] (e j))
    (hr : ∀ j (h1 : j < xs.size) (h2 : j < ys.size), (∀ m, m < j → e m = true) → e j = false → Ob.RcOp .GtE A.in1 s xs[j] ys[j] (r j)) :
    Ob.RcOp .GtE A s (.ref l) (.ref b) (Ob.lexAt e r (decide (xs.size ≥ ys.size)) 0 (min xs.size ys.size)) := fun prog w E Q h => by
  obtain ⟨⟨k1, d1, q1, sl1⟩, ho1, hc1, n1, hd1⟩ := id hl
  obtain ⟨⟨k2, d2, q2, sl2⟩, ho2, hc2, n2, hd2⟩ := id hb
  simp only at hc1 hd1 hc2 hd2
  subst hc1 hd1 hc2 hd2
  exact richCompare_meets_room (op := .GtE) ⟨_, ho1, rfl⟩ ⟨_, ho2, rfl⟩ F.slot_tuple_ge F.entry_tuple_ge (F.args_tuple_ge_2 _ _) (at_ge l b xs ys n1 n2 d1 d2 sl1 sl2 e r)
    ⟨ho1, ho2, he, hr, ⟨(fun x => nomatch x), h⟩⟩ hu

end TupO
/-- what decides, at the first pair that differs -/
def ltV : V → V → Bool
  | .int a, .int b => decide (a < b)
  | .str a, .str b => decide (a.cps.toList < b.cps.toList)
  | _, _ => false
def likeV : V → V → Bool
  | .int _, .int _ => true
  | .str _, .str _ => true
  | _, _ => false
def eAt (xs ys : List V) (j : Nat) : Bool := eqV (xs.getD j .non) (ys.getD j .non)
/-- the kinds of the first pair that differs are alike -/
def OkT (xs ys : List V) : Prop := ∀ j, j < xs.length → j < ys.length → (∀ m, m < j → eAt xs ys m = true) → eAt xs ys j = false → likeV (xs.getD j .non) (ys.getD j .non) = true
def lexV (c : V → V → Bool) (z : Bool) (xs ys : List V) : Bool := Ob.lexAt (eAt xs ys) (fun j => c (xs.getD j .non) (ys.getD j .non)) z 0 (min xs.length ys.length)
def rTO (K : PySem.W.Frag) (c : V → V → Bool) (z : Nat → Nat → Bool) : R2 := fun x y H Q => ∃ (a b : Addr) (xs ys : List V), x = .ref a ∧ y = .ref b ∧ SqT K H a xs ∧ SqT K H b ys ∧ xs.all flatV = true ∧ ys.all flatV = true ∧ OkT xs ys ∧
  Q (.bl (lexV c (z xs.length ys.length) xs ys)) H
section
variable {A : Around} {s : Shared}
theorem item_of {xs : List V} {its : List Value} (r : L2.Vals xs its) (hf : xs.all flatV = true) {j : Nat} (h : j < its.toArray.size) : RelV (xs.getD j .non) its.toArray[j] ∧ flatV (xs.getD j .non) = true := by
  have hl := r.length
  have hj : j < xs.length := by rw [hl]; simpa using h
  obtain ⟨u, e, k⟩ := r.get (List.getElem?_eq_getElem hj)
  have e1 : its.toArray[j] = u := by
    have : its[j]? = some its.toArray[j] := by simp
    exact Option.some.inj (this.symm.trans e)
  have e2 : xs.getD j .non = xs[j] := by rw [List.getD_eq_getElem?_getD, List.getElem?_eq_getElem hj]; rfl
  rw [e1, e2]
  exact ⟨k, List.all_eq_true.mp hf _ (List.getElem_mem hj)⟩

theorem rcV_lt {x y : V} {u v : Value} (rx : RelV x u) (ry : RelV y v) (h : likeV x y = true) : Ob.RcOp .Lt A s u v (ltV x y) := by
  cases x <;> cases y <;> first | (cases h; done) | skip
  · rename_i a b
    obtain ⟨t, rfl⟩ := rx
    obtain ⟨t', rfl⟩ := ry
    exact fun prog w E Q h => PyProof.Rows.lt_int h
  · rename_i a b
    obtain ⟨t, rfl⟩ := rx
    obtain ⟨t', rfl⟩ := ry
    exact fun prog w E Q h => PyProof.Rows.lt_str h
theorem o_ltT {X : Cx} (hu : X.A.units < cLine) : OpR X (compareOp .Lt) (rTO X.K ltV (fun n m => decide (n < m))) := by
  intro pins s σ H x y v u Q I rx ry h
  obtain ⟨a, b, xs, ys, rfl, rfl, ha, hb, fx, fy, ok, q⟩ := h
  cases rx
  cases ry
  obtain ⟨its1, r1, p1, _⟩ := I.tuple ha
  obtain ⟨its2, r2, p2, _⟩ := I.tuple hb
  have e1 : its1.toArray.size = xs.length := by rw [List.size_toArray]; exact r1.length.symm
  have e2 : its2.toArray.size = ys.length := by rw [List.size_toArray]; exact r2.length.symm
  have R := TupO.rc_lt (A := X.A) (s := s) (e := eAt xs ys) (r := fun j => ltV (xs.getD j .non) (ys.getD j .non)) p1 p2 hu
    (fun j h1 h2 => eqAt_V (item_of r1 fx h1).1 (item_of r2 fy h2).1 (item_of r1 fx h1).2 (item_of r2 fy h2).2)
    (fun j h1 h2 hp he => rcV_lt (item_of r1 fx h1).1 (item_of r2 fy h2).1 (ok j (by omega) (by omega) hp he))
  rw [e1, e2] at R
  exact R X.prog X.w X.xe (EP X pins σ Q) ⟨.bl _, H, I, rfl, q⟩

theorem rcV_le {x y : V} {u v : Value} (rx : RelV x u) (ry : RelV y v) (h : likeV x y = true) : Ob.RcOp .LtE A s u v ((fun x y => !ltV y x) x y) := by
  cases x <;> cases y <;> first | (cases h; done) | skip
  · rename_i a b
    obtain ⟨t, rfl⟩ := rx
    obtain ⟨t', rfl⟩ := ry
    exact fun prog w E Q h => PyProof.Rows.le_int (by rw [show decide (a ≤ b) = !decide (b < a) from by by_cases q : a ≤ b <;> simp [q] <;> (try omega)]; exact h)
  · rename_i a b
    obtain ⟨t, rfl⟩ := rx
    obtain ⟨t', rfl⟩ := ry
    exact fun prog w E Q h => PySem.P.le_str h
theorem o_leT {X : Cx} (hu : X.A.units < cLine) : OpR X (compareOp .LtE) (rTO X.K (fun x y => !ltV y x) (fun n m => decide (n ≤ m))) := by
  intro pins s σ H x y v u Q I rx ry h
  obtain ⟨a, b, xs, ys, rfl, rfl, ha, hb, fx, fy, ok, q⟩ := h
  cases rx
  cases ry
  obtain ⟨its1, r1, p1, _⟩ := I.tuple ha
  obtain ⟨its2, r2, p2, _⟩ := I.tuple hb
  have e1 : its1.toArray.size = xs.length := by rw [List.size_toArray]; exact r1.length.symm
  have e2 : its2.toArray.size = ys.length := by rw [List.size_toArray]; exact r2.length.symm
  have R := TupO.rc_le (A := X.A) (s := s) (e := eAt xs ys) (r := fun j => (fun x y => !ltV y x) (xs.getD j .non) (ys.getD j .non)) p1 p2 hu
    (fun j h1 h2 => eqAt_V (item_of r1 fx h1).1 (item_of r2 fy h2).1 (item_of r1 fx h1).2 (item_of r2 fy h2).2)
    (fun j h1 h2 hp he => rcV_le (item_of r1 fx h1).1 (item_of r2 fy h2).1 (ok j (by omega) (by omega) hp he))
  rw [e1, e2] at R
  exact R X.prog X.w X.xe (EP X pins σ Q) ⟨.bl _, H, I, rfl, q⟩

theorem rcV_gt {x y : V} {u v : Value} (rx : RelV x u) (ry : RelV y v) (h : likeV x y = true) : Ob.RcOp .Gt A s u v ((fun x y => ltV y x) x y) := by
  cases x <;> cases y <;> first | (cases h; done) | skip
  · rename_i a b
    obtain ⟨t, rfl⟩ := rx
    obtain ⟨t', rfl⟩ := ry
    exact fun prog w E Q h => PyProof.Rows.gt_int h
  · rename_i a b
    obtain ⟨t, rfl⟩ := rx
    obtain ⟨t', rfl⟩ := ry
    exact fun prog w E Q h => PySem.P.gt_str h
theorem o_gtT {X : Cx} (hu : X.A.units < cLine) : OpR X (compareOp .Gt) (rTO X.K (fun x y => ltV y x) (fun n m => decide (n > m))) := by
  intro pins s σ H x y v u Q I rx ry h
  obtain ⟨a, b, xs, ys, rfl, rfl, ha, hb, fx, fy, ok, q⟩ := h
  cases rx
  cases ry
  obtain ⟨its1, r1, p1, _⟩ := I.tuple ha
  obtain ⟨its2, r2, p2, _⟩ := I.tuple hb
  have e1 : its1.toArray.size = xs.length := by rw [List.size_toArray]; exact r1.length.symm
  have e2 : its2.toArray.size = ys.length := by rw [List.size_toArray]; exact r2.length.symm
  have R := TupO.rc_gt (A := X.A) (s := s) (e := eAt xs ys) (r := fun j => (fun x y => ltV y x) (xs.getD j .non) (ys.getD j .non)) p1 p2 hu
    (fun j h1 h2 => eqAt_V (item_of r1 fx h1).1 (item_of r2 fy h2).1 (item_of r1 fx h1).2 (item_of r2 fy h2).2)
    (fun j h1 h2 hp he => rcV_gt (item_of r1 fx h1).1 (item_of r2 fy h2).1 (ok j (by omega) (by omega) hp he))
  rw [e1, e2] at R
  exact R X.prog X.w X.xe (EP X pins σ Q) ⟨.bl _, H, I, rfl, q⟩

theorem rcV_ge {x y : V} {u v : Value} (rx : RelV x u) (ry : RelV y v) (h : likeV x y = true) : Ob.RcOp .GtE A s u v ((fun x y => !ltV x y) x y) := by
  cases x <;> cases y <;> first | (cases h; done) | skip
  · rename_i a b
    obtain ⟨t, rfl⟩ := rx
    obtain ⟨t', rfl⟩ := ry
    exact fun prog w E Q h => PyProof.Rows.ge_int (by rw [show decide (b ≤ a) = !decide (a < b) from by by_cases q : b ≤ a <;> simp [q] <;> (try omega)]; exact h)
  · rename_i a b
    obtain ⟨t, rfl⟩ := rx
    obtain ⟨t', rfl⟩ := ry
    exact fun prog w E Q h => PySem.P.ge_str h
theorem o_geT {X : Cx} (hu : X.A.units < cLine) : OpR X (compareOp .GtE) (rTO X.K (fun x y => !ltV x y) (fun n m => decide (n ≥ m))) := by
  intro pins s σ H x y v u Q I rx ry h
  obtain ⟨a, b, xs, ys, rfl, rfl, ha, hb, fx, fy, ok, q⟩ := h
  cases rx
  cases ry
  obtain ⟨its1, r1, p1, _⟩ := I.tuple ha
  obtain ⟨its2, r2, p2, _⟩ := I.tuple hb
  have e1 : its1.toArray.size = xs.length := by rw [List.size_toArray]; exact r1.length.symm
  have e2 : its2.toArray.size = ys.length := by rw [List.size_toArray]; exact r2.length.symm
  have R := TupO.rc_ge (A := X.A) (s := s) (e := eAt xs ys) (r := fun j => (fun x y => !ltV x y) (xs.getD j .non) (ys.getD j .non)) p1 p2 hu
    (fun j h1 h2 => eqAt_V (item_of r1 fx h1).1 (item_of r2 fy h2).1 (item_of r1 fx h1).2 (item_of r2 fy h2).2)
    (fun j h1 h2 hp he => rcV_ge (item_of r1 fx h1).1 (item_of r2 fy h2).1 (ok j (by omega) (by omega) hp he))
  rw [e1, e2] at R
  exact R X.prog X.w X.xe (EP X pins σ Q) ⟨.bl _, H, I, rfl, q⟩

end

/-! == and != of flat tuples; the keys of values -/
def eqT (xs ys : List V) : Bool := (List.range (min xs.length ys.length)).all (eAt xs ys) && xs.length == ys.length
def rEqT (K : PySem.W.Frag) (neg : Bool) : R2 := fun x y H Q => ∃ (a b : Addr) (xs ys : List V), x = .ref a ∧ y = .ref b ∧ SqT K H a xs ∧ SqT K H b ys ∧ xs.all flatV = true ∧ ys.all flatV = true ∧ Q (.bl (if neg then !eqT xs ys else eqT xs ys)) H
theorem o_eqT {X : Cx} (hu : X.A.units < cLine) : OpR X (compareOp .Eq) (rEqT X.K false) := by
  intro pins s σ H x y v u Q I rx ry h
  obtain ⟨a, b, xs, ys, rfl, rfl, ha, hb, fx, fy, q⟩ := h
  cases rx
  cases ry
  obtain ⟨its1, r1, p1, _⟩ := I.tuple ha
  obtain ⟨its2, r2, p2, _⟩ := I.tuple hb
  have e1 : its1.toArray.size = xs.length := by rw [List.size_toArray]; exact r1.length.symm
  have e2 : its2.toArray.size = ys.length := by rw [List.size_toArray]; exact r2.length.symm
  refine SeqAt.eq_tupleAt (e := eAt xs ys) p1 p2 hu (fun j h1 h2 => eqAt_V (item_of r1 fx h1).1 (item_of r2 fy h2).1 (item_of r1 fx h1).2 (item_of r2 fy h2).2) ?_
  rw [e1, e2]
  exact ⟨.bl _, H, I, rfl, q⟩
theorem neAt_V {A : Around} {s : Shared} {y x : V} {u v : Value} (ry : RelV y u) (rx : RelV x v) (fy : flatV y = true) (fx : flatV x = true) : SeqAt.EqAt A s u v (eqV y x) := eqAt_V ry rx fy fx
theorem o_neT {X : Cx} (hu : X.A.units < cLine) : OpR X (compareOp .NotEq) (rEqT X.K true) := by
  intro pins s σ H x y v u Q I rx ry h
  obtain ⟨a, b, xs, ys, rfl, rfl, ha, hb, fx, fy, q⟩ := h
  cases rx
  cases ry
  obtain ⟨its1, r1, p1, _⟩ := I.tuple ha
  obtain ⟨its2, r2, p2, _⟩ := I.tuple hb
  have e1 : its1.toArray.size = xs.length := by rw [List.size_toArray]; exact r1.length.symm
  have e2 : its2.toArray.size = ys.length := by rw [List.size_toArray]; exact r2.length.symm
  have R := SeqAt.RcNeAt.tuples (e := eAt xs ys) p1 p2 hu (fun j h1 h2 => eqAt_V (item_of r1 fx h1).1 (item_of r2 fy h2).1 (item_of r1 fx h1).2 (item_of r2 fy h2).2)
  rw [e1, e2] at R
  exact R X.prog X.w X.xe (EP X pins σ Q) ⟨.bl _, H, I, rfl, q⟩
def keyV : V → List V
  | .non => [.int 0]
  | .bl b => [.int 1, .int (if b then 1 else 0)]
  | .int i => [.int 2, .int i]
  | x => [.int 3, x]
theorem keyV_flat {x : V} (h : flatV x = true) : (keyV x).all flatV = true := by cases x <;> first | rfl | cases h
def spKey : Sp := fun vs H Q _ => ∃ x, vs = [x] ∧ flatV x = true ∧ ∀ p, H p = none → Q (.ref p) (upd H p (.tup (keyV x)))
/-- the order of values -/
def keyLt : V → V → Bool
  | .non, .non => false
  | .non, _ => true
  | _, .non => false
  | .bl a, .bl b => !a && b
  | .bl _, _ => true
  | _, .bl _ => false
  | .int a, .int b => decide (a < b)
  | .int _, _ => true
  | _, .int _ => false
  | .str a, .str b => decide (a.cps.toList < b.cps.toList)
  | _, _ => false
theorem okT_key {x y : V} (hx : flatV x = true) (hy : flatV y = true) : OkT (keyV x) (keyV y) := by
  intro j h1 h2 hp he
  match j, h1, h2 with
  | 0, _, _ => cases x <;> cases hx <;> cases y <;> cases hy <;> rfl
  | 1, h1, h2 =>
    have h0 := hp 0 (by decide)
    cases x <;> cases hx <;> cases y <;> cases hy <;> first | rfl | (exact absurd (show false = true from h0) Bool.false_ne_true) | (simp [keyV] at h1; done) | (simp [keyV] at h2; done)
  | j + 2, h1, h2 => cases x <;> cases hx <;> simp [keyV] at h1 <;> omega
theorem beqI (a b : Int) : (a == b) = decide (a = b) := Bool.beq_eq_decide_eq ..
theorem beqS (a b : Str) : (a == b) = decide (a = b) := Bool.beq_eq_decide_eq ..
theorem key_lt {x y : V} (hx : flatV x = true) (hy : flatV y = true) : lexV ltV (decide ((keyV x).length < (keyV y).length)) (keyV x) (keyV y) = keyLt x y := by
  cases x <;> cases hx <;> cases y <;> cases hy <;> first
    | rfl
    | (rename_i a b; cases a <;> cases b <;> rfl)
    | (rename_i a b; show (if (a == b) = true then false else decide (a < b)) = decide (a < b); rw [beqI]; by_cases q : a = b <;> simp [q])
    | (rename_i a b; show (if (a == b) = true then false else decide (a.cps.toList < b.cps.toList)) = decide (a.cps.toList < b.cps.toList); rw [beqS]; by_cases q : a = b <;> simp [q])
theorem key_eq {x y : V} (hx : flatV x = true) (hy : flatV y = true) : eqT (keyV x) (keyV y) = decide (x = y) := by
  cases x <;> cases hx <;> cases y <;> cases hy <;> first
    | rfl
    | (rename_i a b; cases a <;> cases b <;> rfl)
    | (rename_i a b; rw [dI]; show (true && (a == b && true) && true) = decide (a = b); rw [beqI]; cases decide (a = b) <;> rfl)
    | (rename_i a b; rw [dS]; show (true && (a == b && true) && true) = decide (a = b); rw [beqS]; cases decide (a = b) <;> rfl)
theorem key_ge {x y : V} (hx : flatV x = true) (hy : flatV y = true) : lexV (fun x y => !ltV x y) (decide ((keyV x).length ≥ (keyV y).length)) (keyV x) (keyV y) = !keyLt x y := by
  cases x <;> cases hx <;> cases y <;> cases hy <;> first
    | rfl
    | (rename_i a b; cases a <;> cases b <;> rfl)
    | (rename_i a b; show (if (a == b) = true then true else !decide (a < b)) = !decide (a < b); rw [beqI]; by_cases q : a = b <;> simp [q])
    | (rename_i a b; show (if (a == b) = true then true else !decide (a.cps.toList < b.cps.toList)) = !decide (a.cps.toList < b.cps.toList); rw [beqS]; by_cases q : a = b <;> simp [q])
theorem key_gt {x y : V} (hx : flatV x = true) (hy : flatV y = true) : lexV (fun x y => ltV y x) (decide ((keyV x).length > (keyV y).length)) (keyV x) (keyV y) = keyLt y x := by
  cases x <;> cases hx <;> cases y <;> cases hy <;> first
    | rfl
    | (rename_i a b; cases a <;> cases b <;> rfl)
    | (rename_i a b; show (if (a == b) = true then false else decide (b < a)) = decide (b < a); rw [beqI]; by_cases q : a = b <;> simp [q])
    | (rename_i a b; show (if (a == b) = true then false else decide (b.cps.toList < a.cps.toList)) = decide (b.cps.toList < a.cps.toList); rw [beqS]; by_cases q : a = b <;> simp [q])
theorem key_le {x y : V} (hx : flatV x = true) (hy : flatV y = true) : lexV (fun x y => !ltV y x) (decide ((keyV x).length ≤ (keyV y).length)) (keyV x) (keyV y) = !keyLt y x := by
  cases x <;> cases hx <;> cases y <;> cases hy <;> first
    | rfl
    | (rename_i a b; cases a <;> cases b <;> rfl)
    | (rename_i a b; show (if (a == b) = true then true else !decide (b < a)) = !decide (b < a); rw [beqI]; by_cases q : a = b <;> simp [q])
    | (rename_i a b; show (if (a == b) = true then true else !decide (b.cps.toList < a.cps.toList)) = !decide (b.cps.toList < a.cps.toList); rw [beqS]; by_cases q : a = b <;> simp [q])
theorem cps_tri {a b : Str} : (!decide (a.cps.toList < b.cps.toList) && !decide (b.cps.toList < a.cps.toList)) = decide (a = b) := by
  by_cases e : a = b
  · subst e
    rw [decide_eq_true rfl, decide_eq_false (List.lt_irrefl _)]
    rfl
  · rw [decide_eq_false e]
    by_cases h1 : a.cps.toList < b.cps.toList
    · rw [decide_eq_true h1]; rfl
    · by_cases h2 : b.cps.toList < a.cps.toList
      · rw [decide_eq_true h2, Bool.not_true, Bool.and_false]
      · exact absurd (cd_ext (List.le_antisymm h2 h1)) e
theorem key_tri {x y : V} (hx : flatV x = true) (hy : flatV y = true) : (!keyLt x y && !keyLt y x) = decide (x = y) := by
  cases x <;> cases hx <;> cases y <;> cases hy <;> first
    | rfl
    | (rename_i a b; cases a <;> cases b <;> rfl)
    | (rename_i a b; rw [dI]; show (!decide (a < b) && !decide (b < a)) = decide (a = b); by_cases q : a = b <;> by_cases q1 : a < b <;> by_cases q2 : b < a <;> simp [q, q1, q2] <;> omega)
    | (rename_i a b; rw [dS]; exact cps_tri)

/-! the order of flat tuples, item by item -/
theorem lexAt_shift {e r : Nat → Bool} {z : Bool} : ∀ (k i : Nat), Ob.lexAt e r z (i + 1) k = Ob.lexAt (fun j => e (j + 1)) (fun j => r (j + 1)) z i k
  | 0, _ => rfl
  | k + 1, i => by
    rw [Ob.lexAt_succ, Ob.lexAt_succ, lexAt_shift k (i + 1)]
theorem lexV_cons (c : V → V → Bool) (z : Bool) (x y : V) (xs ys : List V) : lexV c z (x :: xs) (y :: ys) = if eqV x y = true then lexV c z xs ys else c x y := by
  unfold lexV
  rw [show min (x :: xs).length (y :: ys).length = min xs.length ys.length + 1 by simp only [List.length_cons]; omega, Ob.lexAt_succ, lexAt_shift]
  rfl
theorem okT_cons {x y : V} {xs ys : List V} (h1 : eqV x y = false → likeV x y = true) (h2 : eqV x y = true → OkT xs ys) : OkT (x :: xs) (y :: ys) := by
  intro j a b hp he
  match j, a, b with
  | 0, _, _ => exact h1 he
  | j + 1, a, b =>
    refine h2 (hp 0 (Nat.succ_pos j)) j (Nat.lt_of_succ_lt_succ a) (Nat.lt_of_succ_lt_succ b) (fun m hm => hp (m + 1) (Nat.succ_lt_succ hm)) he
theorem okT_nil {ys : List V} : OkT [] ys := fun j a => absurd a (Nat.not_lt_zero j)
theorem eqT_cons (x y : V) (xs ys : List V) : eqT (x :: xs) (y :: ys) = (eqV x y && eqT xs ys) := by
  unfold eqT
  rw [show min (x :: xs).length (y :: ys).length = min xs.length ys.length + 1 by simp only [List.length_cons]; omega, List.range_succ_eq_map, List.all_cons, List.all_map]
  rw [Bool.and_assoc]
  rw [show ((x :: xs).length == (y :: ys).length) = (xs.length == ys.length) by simp]
  rfl
theorem eqV_int (i j : Int) : eqV (.int i) (.int j) = decide (i = j) := Bool.beq_eq_decide_eq ..
theorem eqV_str (i j : Str) : eqV (.str i) (.str j) = decide (i = j) := Bool.beq_eq_decide_eq ..
theorem lexV_same {c : V → V → Bool} {z : Bool} {x : V} (hx : flatV x = true) (r s : List V) : lexV c z (keyV x ++ r) (keyV x ++ s) = lexV c z r s := by
  cases x <;> cases hx <;> simp [keyV, lexV_cons, eqV_int, eqV_str]
theorem okT_same {x : V} (hx : flatV x = true) {r s : List V} (h : OkT r s) : OkT (keyV x ++ r) (keyV x ++ s) := by
  cases x <;> cases hx <;> simp only [keyV, List.cons_append, List.nil_append] <;>
    first
    | exact okT_cons (fun _ => rfl) (fun _ => h)
    | exact okT_cons (fun _ => rfl) (fun _ => okT_cons (fun _ => rfl) (fun _ => h))
theorem okT_other {x y : V} (hx : flatV x = true) (hy : flatV y = true) (ne : x ≠ y) (r s : List V) : OkT (keyV x ++ r) (keyV y ++ s) := by
  cases x <;> cases hx <;> cases y <;> cases hy <;> simp only [keyV, List.cons_append, List.nil_append] <;>
    first
    | exact absurd rfl ne
    | exact okT_cons (fun _ => rfl) (fun z => absurd (show false = true from z) Bool.false_ne_true)
    | (refine okT_cons (fun _ => rfl) (fun _ => okT_cons (fun _ => rfl) (fun z => ?_))
       first
       | exact absurd (congrArg V.int (of_decide_eq_true ((eqV_int _ _).symm.trans z))) ne
       | exact absurd (congrArg V.str (of_decide_eq_true ((eqV_str _ _).symm.trans z))) ne
       | (cases ‹Bool› <;> cases ‹Bool› <;> first | exact absurd rfl ne | exact absurd (show false = true from z) Bool.false_ne_true))
theorem lt_other {x y : V} {z : Bool} (hx : flatV x = true) (hy : flatV y = true) (ne : x ≠ y) (r s : List V) : lexV ltV z (keyV x ++ r) (keyV y ++ s) = keyLt x y := by
  cases x <;> cases hx <;> cases y <;> cases hy <;> simp only [keyV, List.cons_append, List.nil_append, lexV_cons] <;>
    first
    | exact absurd rfl ne
    | rfl
    | (rename_i a b; rw [if_pos (show eqV (.int 2) (.int 2) = true from rfl), if_neg (by rw [eqV_int]; exact fun z => ne (congrArg V.int (of_decide_eq_true z)))]; rfl)
    | (rename_i a b; rw [if_pos (show eqV (.int 3) (.int 3) = true from rfl), if_neg (by rw [eqV_str]; exact fun z => ne (congrArg V.str (of_decide_eq_true z)))]; rfl)
    | (rename_i a b; cases a <;> cases b <;> first | exact absurd rfl ne | rfl)
theorem gt_other {x y : V} {z : Bool} (hx : flatV x = true) (hy : flatV y = true) (ne : x ≠ y) (r s : List V) : lexV (fun x y => ltV y x) z (keyV x ++ r) (keyV y ++ s) = keyLt y x := by
  cases x <;> cases hx <;> cases y <;> cases hy <;> simp only [keyV, List.cons_append, List.nil_append, lexV_cons] <;>
    first
    | exact absurd rfl ne
    | rfl
    | (rename_i a b; rw [if_pos (show eqV (.int 2) (.int 2) = true from rfl), if_neg (by rw [eqV_int]; exact fun z => ne (congrArg V.int (of_decide_eq_true z)))]; rfl)
    | (rename_i a b; rw [if_pos (show eqV (.int 3) (.int 3) = true from rfl), if_neg (by rw [eqV_str]; exact fun z => ne (congrArg V.str (of_decide_eq_true z)))]; rfl)
    | (rename_i a b; cases a <;> cases b <;> first | exact absurd rfl ne | rfl)
theorem eq_key {x y : V} (hx : flatV x = true) (hy : flatV y = true) (r s : List V) : eqT (keyV x ++ r) (keyV y ++ s) = (decide (x = y) && eqT r s) := by
  by_cases e : x = y
  · subst e
    rw [decide_eq_true rfl, Bool.true_and]
    cases x <;> cases hx <;> simp [keyV, eqT_cons, eqV_int, eqV_str]
  · rw [decide_eq_false e, Bool.false_and]
    cases x <;> cases hx <;> cases y <;> cases hy <;> simp only [keyV, List.cons_append, List.nil_append, eqT_cons] <;>
      first
      | exact absurd rfl e
      | rfl
      | (rename_i a b; rw [eqV_int a b, decide_eq_false (fun z => e (congrArg V.int z)), Bool.false_and, Bool.and_false])
      | (rename_i a b; rw [eqV_str a b, decide_eq_false (fun z => e (congrArg V.str z)), Bool.false_and, Bool.and_false])
      | (rename_i a b; cases a <;> cases b <;> first | exact absurd rfl e | rfl)
theorem eqT_nil : eqT [] [] = true := rfl
/-- the order of two values as a number, of two rows by their first values that differ -/
def ordV (x y : V) : Int := if x = y then 0 else if keyLt x y = true then -1 else 1
def rowOrd : List V → List V → Int
  | x :: xs, y :: ys => if ordV x y = 0 then rowOrd xs ys else ordV x y
  | _, _ => 0
def flK (xs : List V) : List V := (xs.map keyV).flatten
theorem flK_cons (x : V) (xs : List V) : flK (x :: xs) = keyV x ++ flK xs := rfl
theorem keyLt_asymm {x y : V} (hx : flatV x = true) (hy : flatV y = true) (ne : x ≠ y) : keyLt y x = !keyLt x y := by
  have h := key_tri hx hy
  rw [decide_eq_false ne] at h
  have h2 : ¬ (keyLt x y = true ∧ keyLt y x = true) := by
    rintro ⟨a, b⟩
    cases x <;> cases hx <;> cases y <;> cases hy <;> first
      | exact absurd rfl ne
      | exact absurd (show false = true from a) Bool.false_ne_true
      | exact absurd (show false = true from b) Bool.false_ne_true
      | (rename_i p q; cases p <;> cases q <;> first | exact absurd (show false = true from a) Bool.false_ne_true | exact absurd (show false = true from b) Bool.false_ne_true)
      | (have a' := of_decide_eq_true a; have b' := of_decide_eq_true b; omega)
      | exact List.lt_asymm (of_decide_eq_true a) (of_decide_eq_true b)
  cases hxy : keyLt x y <;> cases hyx : keyLt y x <;> rw [hxy, hyx] at h h2 <;> first | rfl | exact absurd ⟨rfl, rfl⟩ h2 | cases h
theorem rows_all {xs ys : List V} (hl : xs.length = ys.length) (fx : xs.all flatV = true) (fy : ys.all flatV = true) (z1 z2 : Bool) (h1 : xs = ys → z1 = false ∧ z2 = false) :
    OkT (flK xs) (flK ys) ∧ lexV ltV z1 (flK xs) (flK ys) = decide (rowOrd xs ys < 0) ∧ eqT (flK xs) (flK ys) = decide (rowOrd xs ys = 0) ∧ lexV (fun x y => ltV y x) z2 (flK xs) (flK ys) = decide (rowOrd xs ys > 0) := by
  induction xs generalizing ys with
  | nil =>
    cases ys with
    | nil =>
      obtain ⟨rfl, rfl⟩ := h1 rfl
      exact ⟨okT_nil, rfl, rfl, rfl⟩
    | cons y ys => cases hl
  | cons x xs ih =>
    cases ys with
    | nil => cases hl
    | cons y ys =>
      rw [List.all_cons, Bool.and_eq_true] at fx fy
      rw [flK_cons, flK_cons, eq_key fx.1 fy.1]
      by_cases e : x = y
      · subst e
        have o : ordV x x = 0 := if_pos rfl
        have r : rowOrd (x :: xs) (x :: ys) = rowOrd xs ys := if_pos o
        obtain ⟨a, b, c, d⟩ := ih (Nat.succ.inj hl) fx.2 fy.2 (fun q => h1 (by rw [q]))
        rw [r, lexV_same fx.1, lexV_same fx.1, decide_eq_true rfl, Bool.true_and]
        exact ⟨okT_same fx.1 a, b, c, d⟩
      · have o : ordV x y = if keyLt x y = true then -1 else 1 := if_neg e
        have on : ordV x y ≠ 0 := by rw [o]; split <;> decide
        have r : rowOrd (x :: xs) (y :: ys) = ordV x y := if_neg on
        rw [r, lt_other fx.1 fy.1 e, gt_other fx.1 fy.1 e, keyLt_asymm fx.1 fy.1 e, decide_eq_false e, Bool.false_and, decide_eq_false on, o]
        refine ⟨okT_other fx.1 fy.1 e _ _, ?_, rfl, ?_⟩ <;> cases keyLt x y <;> rfl

/-! xs.extend(t), t a tuple -/
namespace ExtT
open PySem.AutoSeq1 (wpAny_loadPart')
open PySem.MeetsSeq PySem.MeetsSeq2 PySem.MeetsSeq3
theorem extend_tuple (l : Addr) (xs : Array Value) (n : Nat) (b : Addr) (ys : Array Value) (m : Nat) (dd : Option Addr) (sl : Array (Option Value)) (h0 : ¬(!xs.isEmpty && Builtin.List.listTooLong (xs.size + ys.size)) = true) (h1 : xs.size ≤ sizeLine) (h2 : xs.size + ys.size ≤ sizeLine + 1) :
    Meets (Builtin.«list.extend» ⟨[.ref l, .ref b], []⟩) (fun _ R s => s.heap.get? l = some { cls := .type "list", dict := none, data := .seq xs n, slots := #[] } ∧ s.heap.get? b = some { cls := .type "tuple", dict := dd, data := .seq ys m, slots := sl } ∧
      R (.ok (.ret Value.none)) { s with heap := s.heap.update l (Obj.mapSeq fun x => x ++ ys), toks := s.toks }) :=
  .of_wp fun prog w A R s h => by
    obtain ⟨hp, g, d, tk, os⟩ := s; obtain ⟨hl, hb, h⟩ := h
    have e1 := AutoSeq1.sub_tuple_tuple
    have e2 := AutoSeq1.sub_list_list
    have e3 := AutoSeq1.sub_tuple_list
    have e4 := AutoSeq1.sub_list_tuple
    have hz' : (xs ++ ys).size ≤ sizeLine + 1 := by rw [Array.size_append]; exact h2
    wp_walk using (wpAny_updateSeq hl rfl (hz := h1) (_hz' := hz')), wpAny_loadPart' hl, wpAny_loadPart' hb
    exact ⟨_, rfl, h⟩
end ExtT
def rExtT (K : PySem.W.Frag) : V → List V → Hp → VK → Prop := fun x vs H Q => ∃ l b xs zs, x = .ref l ∧ vs = [.ref b] ∧ H l = some (.lst xs) ∧ SqT K H b zs ∧ xs.length + zs.length ≤ sizeLine ∧ Q .non (upd H l (.lst (xs ++ zs)))
theorem mt_extT {X : Cx} : MtM X "list.extend" (rExtT X.K) := by
  intro pins s σ H x vs v us Q I rx rv h
  obtain ⟨l, b, xs, zs, rfl, rfl, hH, hB, hz, q⟩ := h
  cases rx
  obtain ⟨u, rfl, ru⟩ := rv.one
  cases ru
  obtain ⟨z, its, n, r, hl, e⟩ := I.lstM hH
  obtain ⟨its2, r2, pT, _⟩ := I.tuple hB
  obtain ⟨⟨cls, dd, data, sl⟩, e2, hc, m, hd⟩ := pT
  simp only at hc hd
  subst hc hd
  have l1 := r.length
  have l2 := r2.length
  have hsz : its.toArray.size + its2.toArray.size ≤ sizeLine := by rw [List.size_toArray, List.size_toArray]; omega
  have hlong : ¬ (!its.toArray.isEmpty && Builtin.List.listTooLong (its.toArray.size + its2.toArray.size)) = true := by
    rw [notLongL hsz, Bool.and_false]
    exact Bool.false_ne_true
  refine call_meets F.slot_list_extend ⟨_, e, rfl⟩ F.entry_list_extend (F.args_list_extend_2 _ _)
    (ExtT.extend_tuple l its.toArray n b its2.toArray m dd sl hlong (by rw [List.size_toArray]; omega) (by omega)) ⟨e, e2, ?_⟩
  refine ⟨.non, _, I.lset (its' := its ++ its2) hH e (by simp) (r.append r2) ?_, rfl, q⟩
  rw [List.length_append]
  omega

/-! the order of values of one kind -/
def sameK : V → V → Bool
  | .bl _, .bl _ => true
  | .int _, .int _ => true
  | .str _, .str _ => true
  | _, _ => false
def rLtV : R2 := fun x y H Q => sameK x y = true ∧ Q (.bl (keyLt x y)) H
theorem o_ltV {X : Cx} : OpR X (compareOp .Lt) rLtV := by
  intro pins s σ H x y v u Q I rx ry h
  obtain ⟨k, q⟩ := h
  cases x <;> cases y <;> first | (cases k; done) | skip
  · rename_i a b
    cases (show v = Value.bool a from rx)
    cases (show u = Value.bool b from ry)
    exact lt_bool (fin_bl I q (by cases a <;> cases b <;> rfl))
  · obtain ⟨t, rfl⟩ := rx
    obtain ⟨t', rfl⟩ := ry
    exact lt_int (fin_bl I q rfl)
  · obtain ⟨t, rfl⟩ := rx
    obtain ⟨t', rfl⟩ := ry
    exact lt_str (fin_bl I q rfl)
def rankV : V → Int
  | .non => 0
  | .bl _ => 1
  | .int _ => 2
  | _ => 3
theorem rank_lt {x y : V} (hx : flatV x = true) (hy : flatV y = true) (nx : x ≠ .non) (ny : y ≠ .non) (h : rankV x ≠ rankV y) : keyLt x y = decide (rankV x < rankV y) := by
  cases x <;> cases hx <;> cases y <;> cases hy <;> first | rfl | exact absurd rfl h | exact absurd rfl nx | exact absurd rfl ny
theorem rank_eq {x y : V} (hx : flatV x = true) (hy : flatV y = true) (nx : x ≠ .non) (ny : y ≠ .non) (h : rankV x = rankV y) : sameK x y = true := by
  cases x <;> cases hx <;> cases y <;> cases hy <;> first | rfl | exact absurd rfl nx | exact absurd rfl ny | (simp [rankV] at h; done)
theorem ord_rank {x y : V} (hx : flatV x = true) (hy : flatV y = true) (h : ¬ rankV x = rankV y) : ordV x y = 1 - 2 * (if decide (rankV x < rankV y) = true then 1 else 0) := by
  cases x <;> cases hx <;> cases y <;> cases hy <;> first | rfl | exact absurd rfl h
theorem ord_ne {x y : V} (h : x ≠ y) : ordV x y = 1 - 2 * (if keyLt x y = true then 1 else 0) := by
  unfold ordV
  rw [if_neg h]
  cases keyLt x y <;> rfl
theorem flK_app (xs ys : List V) (v : V) (h : ys = [v]) : flK (xs ++ ys) = flK xs ++ keyV v := by
  subst h
  unfold flK
  rw [List.map_append, List.flatten_append]
  simp
theorem keyV_len (v : V) : (keyV v).length ≤ 2 := by cases v <;> exact Nat.le_of_ble_eq_true rfl
theorem flK_len : ∀ xs : List V, (flK xs).length ≤ 2 * xs.length
  | [] => Nat.le_refl _
  | x :: xs => by
    rw [flK_cons, List.length_append, List.length_cons]
    have := keyV_len x
    have := flK_len xs
    omega
theorem sqT_same {K : PySem.W.Frag} {H H' : Hp} {a : Addr} {xs : List V} (e : Same H H') (h : SqT K H a xs) : SqT K H' a xs := by
  rcases h with (h | ⟨o, h⟩) | h
  · exact .inl (.inl (e _ _ h))
  · exact .inl (.inr ⟨o, e _ _ h⟩)
  · exact .inr h
theorem isi_part {K : PySem.W.Frag} {x : V} {H : Hp} {tp : Addr} {Q : VK} (h : (match x with | .int _ => true | .str _ => true | _ => false) = true) (ht : H tp = some (.tup [.ty "int", .ty "str"])) (q : Q (.bl true) H) : rIsiT K [x, .ref tp] H Q := by
  cases x <;> first | (cases h; done) | skip
  · rename_i i
    exact ⟨.int i, tp, _, _, _, true, rfl, ht, .cons (.ty "int") (.cons (.ty "str") .nil), .base (.int i), kitAny_cons (kit_ty kb_int_int) (fun z => nomatch z) (fun _ => rfl), q⟩
  · rename_i z
    exact ⟨.str z, tp, _, _, _, true, rfl, ht, .cons (.ty "int") (.cons (.ty "str") .nil), .base (.str z), kitAny_cons (kit_ty kb_str_int) (fun _ => kitAny_cons (kit_ty kb_str_str) (fun z => nomatch z) (fun _ => rfl)) (fun z => nomatch z), q⟩
theorem eq_bools3 {K : PySem.W.Frag} {a b : Addr} {x y z : Bool} {H : Hp} {Q : VK} (ha : SqL K H a [.bl x, .bl y, .bl z]) (hb : SqL K H b [.bl x, .bl y, .bl z]) (q : Q (.bl true) H) : rEqD K (.ref a) (.ref b) H Q := by
  refine ⟨.list [.bool x, .bool y, .bool z], .list [.bool x, .bool y, .bool z], .lst ha (.cons (.bl _) (.cons (.bl _) (.cons (.bl _) .nil))), .lst hb (.cons (.bl _) (.cons (.bl _) (.cons (.bl _) .nil))), ?_, ?_, ?_⟩
  · cases x <;> cases y <;> cases z <;> decide
  · cases x <;> cases y <;> cases z <;> decide
  · rw [show PyData.eqv (.list [.bool x, .bool y, .bool z]) (.list [.bool x, .bool y, .bool z]) = true from by cases x <;> cases y <;> cases z <;> decide]
    exact q
theorem ord_zero (x y : V) : decide (x = y) = decide (ordV x y = 0) := by
  by_cases e : x = y
  · rw [decide_eq_true e, decide_eq_true (show ordV x y = 0 from if_pos e)]
  · rw [decide_eq_false e, decide_eq_false]
    unfold ordV
    rw [if_neg e]
    cases keyLt x y <;> decide
theorem key_all {x y : V} (fx : flatV x = true) (fy : flatV y = true) : OkT (keyV x) (keyV y) ∧ lexV ltV (decide ((keyV x).length < (keyV y).length)) (keyV x) (keyV y) = decide (ordV x y < 0) ∧ eqT (keyV x) (keyV y) = decide (ordV x y = 0) ∧
    lexV (fun x y => ltV y x) (decide ((keyV x).length > (keyV y).length)) (keyV x) (keyV y) = decide (ordV x y > 0) := by
  have h := rows_all (xs := [x]) (ys := [y]) rfl (by rw [List.all_cons, fx]; rfl) (by rw [List.all_cons, fy]; rfl) (decide ((keyV x).length < (keyV y).length)) (decide ((keyV x).length > (keyV y).length))
    (fun e => by
      injection e with e
      rw [e]
      exact ⟨decide_eq_false (Nat.lt_irrefl _), decide_eq_false (Nat.lt_irrefl _)⟩)
  have e1 : flK [x] = keyV x := by show keyV x ++ [] = keyV x; exact List.append_nil _
  have e2 : flK [y] = keyV y := by show keyV y ++ [] = keyV y; exact List.append_nil _
  have e3 : rowOrd [x] [y] = ordV x y := by
    show (if ordV x y = 0 then 0 else ordV x y) = ordV x y
    split
    · rename_i h; exact h.symm
    · rfl
  rw [e1, e2, e3] at h
  exact h

/-! lists of ints, compared -/
theorem dp_ints {K : PySem.W.Frag} {H : Hp} : ∀ ns : List Int, DpAll K H (ns.map V.int) (ns.map PyData.int)
  | [] => .nil
  | n :: ns => .cons (.int n) (dp_ints ns)
theorem eqv_intsAll : ∀ ns ms : List Int, PyData.eqvAll (ns.map PyData.int) (ms.map PyData.int) = decide (ns = ms)
  | [], [] => by rw [show PyData.eqvAll ([].map PyData.int) ([].map PyData.int) = true from by simp [PyData.eqvAll]]; rfl
  | [], _ :: _ => by simp [PyData.eqvAll]
  | _ :: _, [] => by simp [PyData.eqvAll]
  | n :: ns, m :: ms => by
    rw [List.map_cons, List.map_cons, PyData.eqvAll, eqv_intsAll ns ms, PyData.eqv]
    by_cases e : n = m
    · subst e; simp
    · rw [decide_eq_false (show ¬ n :: ns = m :: ms from fun z => e (List.cons.inj z).1), beq_eq_false_iff_ne.mpr e, Bool.false_and]
theorem eqv_ints (ns ms : List Int) : PyData.eqv (.list (ns.map .int)) (.list (ms.map .int)) = decide (ns = ms) := by
  rw [PyData.eqv]; exact eqv_intsAll ns ms
theorem can_ints : ∀ ns : List Int, PyData.canLayAll0 (ns.map PyData.int) = true
  | [] => by simp [PyData.canLayAll0]
  | n :: ns => by rw [List.map_cons, PyData.canLayAll0, can_ints ns, PyData.canLay0]; rfl
theorem dep_ints : ∀ ns : List Int, PyData.depthAll (ns.map PyData.int) = 0
  | [] => by simp [PyData.depthAll]
  | n :: ns => by rw [List.map_cons, PyData.depthAll, dep_ints ns, PyData.depth]; rfl
theorem shaped_ints (ns : List Int) : SeqAt.shaped (.list (ns.map .int)) = true := by
  unfold SeqAt.shaped
  rw [PyData.canLay0, can_ints, PyData.depth, dep_ints]
  rfl
theorem eq_ints {K : PySem.W.Frag} {H : Hp} {a b : Addr} {ns ms : List Int} {Q : VK} (ha : SqL K H a (ns.map V.int)) (hb : SqL K H b (ms.map V.int)) (q : Q (.bl (decide (ns = ms))) H) : rEqD K (.ref a) (.ref b) H Q :=
  ⟨_, _, .lst ha (dp_ints ns), .lst hb (dp_ints ms), shaped_ints ns, shaped_ints ms, by rw [eqv_ints]; exact q⟩
theorem ne_ints {K : PySem.W.Frag} {H : Hp} {a b : Addr} {ns ms : List Int} {Q : VK} (ha : SqL K H a (ns.map V.int)) (hb : SqL K H b (ms.map V.int)) (q : Q (.bl (!decide (ns = ms))) H) : rNeD K (.ref a) (.ref b) H Q :=
  ⟨_, _, .lst ha (dp_ints ns), .lst hb (dp_ints ms), shaped_ints ns, shaped_ints ms, by rw [eqv_ints]; exact q⟩
theorem cut_take (xs : List V) (n : Int) (h : 0 ≤ n) : cutV xs none (some n) = xs.take n.toNat := by
  unfold cutV
  obtain ⟨k, rfl⟩ : ∃ k : Nat, n = (k : Int) := ⟨n.toNat, by omega⟩
  rw [HT.sIx_none, HT.sIx_nat, List.drop_zero, Nat.sub_zero, Int.toNat_natCast]
  by_cases hk : k ≤ xs.length
  · rw [Nat.min_eq_left hk]
  · rw [Nat.min_eq_right (by omega), List.take_of_length_le (Nat.le_refl _), List.take_of_length_le (by omega)]
/-- all but the objects at fs is as it was -/
def Fr (fs : List Addr) (H H' : Hp) : Prop := ∀ b o, H b = some o → b ∉ fs → H' b = some o
theorem Fr.refl (fs : List Addr) (H : Hp) : Fr fs H H := fun _ _ h _ => h
theorem Fr.trans {fs : List Addr} {H H1 H2 : Hp} (a : Fr fs H H1) (b : Fr fs H1 H2) : Fr fs H H2 := fun c o h n => b c o (a c o h n) n
theorem Fr.mono {fs gs : List Addr} {H H1 : Hp} (a : Fr fs H H1) (h : ∀ x ∈ fs, x ∈ gs) : Fr gs H H1 := fun c o e n => a c o e fun z => n (h c z)
theorem Fr.same {H H1 : Hp} (fs : List Addr) (a : Same H H1) : Fr fs H H1 := fun c o e _ => a c o e
theorem Fr.new {fs : List Addr} {H H1 : Hp} {q : Addr} {o : HO} (a : Fr fs H H1) (h : H1 q = none) : Fr fs H (L2.upd H1 q o) := fun c u e n => by
  rw [upd_ne (ne_of_none (a c u e n) h)]
  exact a c u e n
theorem Fr.put {fs : List Addr} {H H1 : Hp} {q : Addr} {o : HO} (a : Fr fs H H1) (h : q ∈ fs) : Fr fs H (L2.upd H1 q o) := fun c u e n => by
  rw [upd_ne (fun z : c = q => n (by rw [z]; exact h))]
  exact a c u e n
theorem Fr.put' {fs : List Addr} {H H1 : Hp} {q : Addr} {o : HO} (a : Fr fs H H1) (h : H q = none) : Fr fs H (L2.upd H1 q o) := fun c u e n => by
  rw [upd_ne (ne_of_none e h)]
  exact a c u e n
theorem sqL_same {K : PySem.W.Frag} {H H' : Hp} {a : Addr} {xs : List V} (h : SqL K H a xs) (e : Same H H') : SqL K H' a xs :=
  h.elim (fun h => .inl (h.elim (fun h => .inl (e _ _ h)) fun ⟨o, h⟩ => .inr ⟨o, e _ _ h⟩)) fun h => .inr h

/-! _law_next: draws -/
/-- the state of the draws: the script's copy at a, three numbers -/
def StO (a : Addr) (i v r : Int) : HO := .lst [.ref a, .int i, .int v, .int r]
structure StAt (K : PySem.W.Frag) (H : Hp) (s a : Addr) (ns : List Int) : Prop where
  st : ∃ i v r, H s = some (StO a i v r) ∧ 0 ≤ i ∧ 0 ≤ v ∧ 0 ≤ r ∧ r < 2147483647
  li : H a = some (.lst (ns.map V.int))
  len : ns.length ≤ 63
  ne : a ≠ s
theorem StAt.but {K : PySem.W.Frag} {H H' : Hp} {s a : Addr} {ns : List Int} (x : StAt K H s a ns) (h : H' s = H s) (b : But s H H') : StAt K H' s a ns := by
  obtain ⟨⟨i, v, r, e, k⟩, li, len, ne⟩ := x
  exact ⟨⟨i, v, r, h.trans e, k⟩, b _ _ li ne, len, ne⟩
theorem StAt.same {K : PySem.W.Frag} {H H' : Hp} {s a : Addr} {ns : List Int} (x : StAt K H s a ns) (b : Same H H') : StAt K H' s a ns := by
  obtain ⟨i, v, r, e, k⟩ := x.st
  exact x.but ((b _ _ e).trans e.symm) (Same.but s b)
theorem StAt.new {K : PySem.W.Frag} {H : Hp} {s a : Addr} {ns : List Int} {q : Addr} {o : HO} (x : StAt K H s a ns) (b : H q = none) : StAt K (L2.upd H q o) s a ns := x.same (Same.new (Same.refl _) b)
theorem StAt.put {K : PySem.W.Frag} {H : Hp} {s a : Addr} {ns : List Int} {q : Addr} {o : HO} (x : StAt K H s a ns) (h1 : q ≠ s) (h2 : q ≠ a) : StAt K (L2.upd H q o) s a ns := by
  obtain ⟨⟨i, v, r, e, k⟩, li, len, ne⟩ := x
  exact ⟨⟨i, v, r, (upd_ne h1.symm).trans e, k⟩, (upd_ne h2.symm).trans li, len, ne⟩
theorem StAt.upd {K : PySem.W.Frag} {H : Hp} {s a : Addr} {ns : List Int} {i v r : Int} (x : StAt K H s a ns) (k : 0 ≤ i ∧ 0 ≤ v ∧ 0 ≤ r ∧ r < 2147483647) : StAt K (L2.upd H s (StO a i v r)) s a ns :=
  ⟨⟨i, v, r, upd_same, k⟩, (upd_ne x.ne).trans x.li, x.len, x.ne⟩
theorem StAt.there {K : PySem.W.Frag} {H : Hp} {s a : Addr} {ns : List Int} (x : StAt K H s a ns) : H s ≠ none := by
  obtain ⟨_, _, _, e, _⟩ := x.st
  rw [e]; exact fun z => nomatch z
theorem StAt.nes {K : PySem.W.Frag} {H : Hp} {s a : Addr} {ns : List Int} {q : Addr} (x : StAt K H s a ns) (b : H q = none) : q ≠ s := fun e => x.there (by rw [← e]; exact b)
theorem StAt.nea {K : PySem.W.Frag} {H : Hp} {s a : Addr} {ns : List Int} {q : Addr} (x : StAt K H s a ns) (b : H q = none) : q ≠ a := fun e => by
  have h := x.li
  rw [← e, b] at h
  cases h
def spNext (K : PySem.W.Frag) : Sp := fun vs H Q _ => ∃ (s a : Addr) (ns : List Int) (m : Int), vs = [.ref s, .int m] ∧ StAt K H s a ns ∧ 0 < m ∧ m.natAbs < 2 ^ 140 ∧
  ∀ i v r x, (0 ≤ i ∧ 0 ≤ v ∧ 0 ≤ r ∧ r < 2147483647) → 0 ≤ x → x < m → Q (.int x) (upd H s (StO a i v r))

/-! nested values and their sameness -/
def AllR {α : Type} (R : V → α → Prop) : List V → List α → Prop
  | [], [] => True
  | v :: vs, a :: as => R v a ∧ AllR R vs as
  | _, _ => False
section
variable {α : Type} {R S : V → α → Prop}
theorem AllR.len : ∀ {vs : List V} {as : List α}, AllR R vs as → vs.length = as.length
  | [], [], _ => rfl
  | _ :: _, _ :: _, h => congrArg (· + 1) (AllR.len h.2)
  | [], _ :: _, h => h.elim
  | _ :: _, [], h => h.elim
theorem AllR.imp (k : ∀ v a, R v a → S v a) : ∀ {vs : List V} {as : List α}, AllR R vs as → AllR S vs as
  | [], [], _ => trivial
  | _ :: _, _ :: _, h => ⟨k _ _ h.1, AllR.imp k h.2⟩
  | [], _ :: _, h => h.elim
  | _ :: _, [], h => h.elim
theorem AllR.app {us : List V} {bs : List α} (hu : AllR R us bs) : ∀ {vs : List V} {as : List α}, AllR R vs as → AllR R (vs ++ us) (as ++ bs)
  | [], [], _ => hu
  | _ :: _, _ :: _, h => ⟨h.1, AllR.app hu h.2⟩
  | [], _ :: _, h => h.elim
  | _ :: _, [], h => h.elim
theorem AllR.one {v : V} {a : α} (h : R v a) : AllR R [v] [a] := ⟨h, trivial⟩
theorem AllR.snoc {v : V} {a : α} {vs : List V} {as : List α} (h : AllR R vs as) (x : R v a) : AllR R (vs ++ [v]) (as ++ [a]) := AllR.app (AllR.one x) h
theorem AllR.take : ∀ (n : Nat) {vs : List V} {as : List α}, AllR R vs as → AllR R (vs.take n) (as.take n)
  | 0, _, _, _ => trivial
  | _ + 1, [], [], _ => trivial
  | n + 1, _ :: _, _ :: _, h => ⟨h.1, AllR.take n h.2⟩
  | _ + 1, [], _ :: _, h => h.elim
  | _ + 1, _ :: _, [], h => h.elim
theorem AllR.drop : ∀ (n : Nat) {vs : List V} {as : List α}, AllR R vs as → AllR R (vs.drop n) (as.drop n)
  | 0, _, _, h => h
  | _ + 1, [], [], _ => trivial
  | n + 1, _ :: _, _ :: _, h => AllR.drop n h.2
  | _ + 1, [], _ :: _, h => h.elim
  | _ + 1, _ :: _, [], h => h.elim
theorem AllR.at : ∀ {vs : List V} {as : List α} {i : Nat} {v : V}, AllR R vs as → vs[i]? = some v → ∃ a, as[i]? = some a ∧ R v a
  | _ :: _, a :: _, 0, _, h, e => ⟨a, rfl, by have := Option.some.inj e; rw [← this]; exact h.1⟩
  | _ :: _, _ :: _, i + 1, _, h, e => AllR.at (i := i) h.2 e
  | [], [], _, _, _, e => by simp at e
  | [], _ :: _, _, _, h, _ => h.elim
  | _ :: _, [], _, _, h, _ => h.elim
theorem AllR.get : ∀ {vs : List V} {as : List α} {i : Nat} {a : α}, AllR R vs as → as[i]? = some a → ∃ v, vs[i]? = some v ∧ R v a
  | v :: _, _ :: _, 0, _, h, e => ⟨v, rfl, by have := Option.some.inj e; rw [← this]; exact h.1⟩
  | _ :: _, _ :: _, i + 1, _, h, e => AllR.get (i := i) h.2 e
  | [], [], _, _, _, e => by simp at e
  | [], _ :: _, _, _, h, _ => h.elim
  | _ :: _, [], _, _, h, _ => h.elim
end
/-- a flat value; a list, a tuple of such as R tells -/
def R0 : Hp → V → V → Prop := fun _ x a => x = a ∧ flatV a = true
def LstR {α : Type} (R : Hp → V → α → Prop) : Hp → V → List α → Prop := fun H x as => ∃ p vs, x = .ref p ∧ H p = some (.lst vs) ∧ AllR (R H) vs as ∧ as.length ≤ 1000
def TupR {α : Type} (R : Hp → V → α → Prop) : Hp → V → List α → Prop := fun H x as => ∃ p vs, x = .ref p ∧ H p = some (.tup vs) ∧ AllR (R H) vs as ∧ as.length ≤ 1000
/-- what R tells holds while the objects but those at fs stay -/
def Stays {α : Type} (R : Hp → V → α → Prop) : Prop := ∀ H H' x a, Same H H' → R H x a → R H' x a
theorem R0.stays : Stays R0 := fun _ _ _ _ _ h => h
theorem LstR.stays {α : Type} {R : Hp → V → α → Prop} (h : Stays R) : Stays (LstR R) := fun H H' x a s ⟨p, vs, e, hp, hA, l⟩ => ⟨p, vs, e, s _ _ hp, hA.imp fun v a => h H H' v a s, l⟩
theorem TupR.stays {α : Type} {R : Hp → V → α → Prop} (h : Stays R) : Stays (TupR R) := fun H H' x a s ⟨p, vs, e, hp, hA, l⟩ => ⟨p, vs, e, s _ _ hp, hA.imp fun v a => h H H' v a s, l⟩
theorem all_R0 {H : Hp} : ∀ {vs as : List V}, AllR (R0 H) vs as → vs = as ∧ as.all flatV = true
  | [], [], _ => ⟨rfl, rfl⟩
  | _ :: _, _ :: _, h => by
    obtain ⟨⟨e1, f1⟩, h2⟩ := h
    obtain ⟨e2, f2⟩ := all_R0 h2
    exact ⟨by rw [e1, e2], by rw [List.all_cons, f1, f2]; rfl⟩
  | [], _ :: _, h => h.elim
  | _ :: _, [], h => h.elim
theorem all_R0' {H : Hp} : ∀ {as : List V}, as.all flatV = true → AllR (R0 H) as as
  | [], _ => trivial
  | a :: as, h => by
    rw [List.all_cons, Bool.and_eq_true] at h
    exact ⟨⟨rfl, h.1⟩, all_R0' h.2⟩
/-- a row: a tuple of flat values -/
abbrev Row := TupR R0
theorem Row.dest {H : Hp} {v : V} {xs : List V} (h : Row H v xs) : ∃ t, v = .ref t ∧ H t = some (.tup xs) ∧ xs.all flatV = true ∧ xs.length ≤ 1000 := by
  obtain ⟨p, vs, e, hp, hA, l⟩ := h
  obtain ⟨rfl, f⟩ := all_R0 hA
  exact ⟨p, e, hp, f, l⟩
theorem Row.mk {H : Hp} {t : Addr} {xs : List V} (ht : H t = some (.tup xs)) (f : xs.all flatV = true) (l : xs.length ≤ 1000) : Row H (.ref t) xs := ⟨t, xs, rfl, ht, all_R0' f, l⟩
/-- rows stay when no tuple changes -/
theorem Row.keep {H H' : Hp} (k : ∀ b xs, H b = some (.tup xs) → H' b = some (.tup xs)) {v : V} {xs : List V} (h : Row H v xs) : Row H' v xs := by
  obtain ⟨t, rfl, ht, f, l⟩ := h.dest
  exact Row.mk (k _ _ ht) f l
def SameFor {α : Type} [DecidableEq α] (R : Hp → V → α → Prop) : Sp := fun vs H Q _ => ∃ x y a b, vs = [x, y] ∧ R H x a ∧ R H y b ∧ Q (.bl (decide (a = b))) H
theorem FnOk.or {P : Program} {w : World} {K : PySem.W.Frag} {mg : Str → Option Value} {base : Heap} {CX : CXT} {k : Nat} {f : Addr} {fd : FuncData} {ps : List Str} {sp sp' : Sp} (F : FnOk P w K mg base CX k f fd ps sp) (G : FnOk P w K mg base CX k f fd ps sp') :
    FnOk P w K mg base CX k f fd ps (fun vs H Q E => sp vs H Q E ∨ sp' vs H Q E) :=
  ⟨fun vs H Q E q => q.elim (F.len vs H Q E) (G.len vs H Q E), fun A outer s H args us vs Q E hr he hb hv hs => hs.elim (F.run A outer s H args us vs Q E hr he hb hv) (G.run A outer s H args us vs Q E hr he hb hv)⟩

local macro_rules | `(tactic| walk_at "fl") => `(tactic| assumption)
local macro_rules | `(tactic| walk_at "fn") => `(tactic| assumption)
local macro_rules | `(tactic| walk_at "fm") => `(tactic| assumption)
local macro_rules | `(tactic| walk_at "dv") => `(tactic| assumption)
local macro_rules | `(tactic| walk_at "dl") => `(tactic| assumption)
local macro_rules | `(tactic| walk_at "ne") => `(tactic| first | assumption | exact Ne.symm (by assumption) | exact ne_of_none (by assumption) (by assumption) | exact (ne_of_none (by assumption) (by assumption)).symm)
local macro_rules | `(tactic| walk_at "hp") => `(tactic| first | assumption | exact upd_same | exact (upd_ne (by walk_at "ne")).trans (by walk_at "hp"))
local macro_rules | `(tactic| walk_at "sq") => `(tactic| first | assumption | exact .inl (.inl (by walk_at "hp")))
local macro_rules | `(tactic| walk_at "at") => `(tactic| first | rfl | assumption)
local macro_rules | `(tactic| walk_at "cond") => `(tactic| first | exact ⟨by decide, by decide⟩ | exact Or.inr ⟨by decide, by decide⟩ | exact Or.inl ⟨by decide, by decide⟩ | decide | omega | exact ⟨by decide, by decide, by decide⟩ | exact ⟨by omega, by omega, by omega, by omega⟩)
local macro_rules | `(tactic| walk_at "go1") => `(tactic| first
  | with_reducible apply g_seq
  | ((with_reducible apply g_var); (· rfl))
  | with_reducible apply g_c
  | with_reducible apply g_op
  | with_reducible apply g_test
  | with_reducible apply g_kb
  | ((with_reducible apply g_ixL); (· walk_at "sq"); (· walk_at "at"))
  | with_reducible apply g_I0
  | ((with_reducible apply g_I); (· walk_at "cond"))
  | with_reducible apply g_eqI | with_reducible apply g_eqS | with_reducible apply g_eqB
  | with_reducible apply g_neI | with_reducible apply g_neS | with_reducible apply g_neB
  | with_reducible apply g_nx | with_reducible apply g_nx0 | with_reducible apply g_next
  | with_reducible apply g_rt | with_reducible apply g_rt0
  | with_reducible apply g_asg | with_reducible apply g_name | with_reducible apply g_ret | with_reducible apply g_retN | with_reducible apply g_drop | with_reducible apply g_ifs
  | with_reducible apply g_cons | with_reducible apply g_nil | with_reducible apply g_cb | with_reducible apply g_call
  | with_reducible apply g_T | with_reducible apply g_F | with_reducible apply g_nF | with_reducible apply g_nT
  | with_reducible apply g_tB | with_reducible apply g_and | with_reducible apply g_or | with_reducible apply g_not
  | with_reducible apply g_andV | with_reducible apply g_orV | with_reducible apply g_notV | with_reducible apply g_if | with_reducible apply g_ch | with_reducible apply g_chain
  | ((with_reducible apply g_lenL); (· walk_at "sq")) | ((with_reducible apply g_lenT); (· walk_at "sq"))
  | ((with_reducible apply g_listL); (· walk_at "sq")) | ((with_reducible apply g_listT); (· walk_at "sq"))
  | with_reducible apply g_int1 | with_reducible apply g_intB | with_reducible apply g_abs | with_reducible apply g_max2 | with_reducible apply g_min2
  | with_reducible apply g_isNn | with_reducible apply g_isNi | with_reducible apply g_isNb | with_reducible apply g_isNs | with_reducible apply g_isNr | with_reducible apply g_isN
  | with_reducible apply g_notNn | with_reducible apply g_notNi | with_reducible apply g_notNb | with_reducible apply g_notNs | with_reducible apply g_notNr
  | with_reducible apply g_isBn | with_reducible apply g_isBb | with_reducible apply g_isBi | with_reducible apply g_isBs | with_reducible apply g_isB
  | with_reducible apply g_i_nn_bool | with_reducible apply g_i_nn_int | with_reducible apply g_i_nn_str | with_reducible apply g_i_bl_bool | with_reducible apply g_i_bl_int | with_reducible apply g_i_bl_str | with_reducible apply g_i_int_bool | with_reducible apply g_i_int_int | with_reducible apply g_i_int_str | with_reducible apply g_i_str_bool | with_reducible apply g_i_str_int | with_reducible apply g_i_str_str
  | with_reducible apply g_sub | ((with_reducible apply g_setL); (· walk_at "hp"); (· rfl))
  | with_reducible apply g_tup | with_reducible apply g_lst | ((with_reducible apply g_new); (· exact Nat.le_of_ble_eq_true rfl))
  | with_reducible apply g_augS | with_reducible apply g_ipI | ((with_reducible apply g_aug); (· rfl))
  | with_reducible apply g_un | with_reducible apply g_neg
  | with_reducible apply g_inS | with_reducible apply g_notInS
  | with_reducible apply g_sl | with_reducible apply g_part | with_reducible apply g_pi | with_reducible apply g_nopart | ((with_reducible apply g_slL); (· walk_at "sq"))
  | ((with_reducible apply g_ixT); (· walk_at "sq"); (· walk_at "at"))
  | with_reducible apply g_bm | with_reducible apply g_bm0 | ((with_reducible apply g_tyL); (· walk_at "sq")) | with_reducible apply g_m1 | with_reducible apply g_str
  | with_reducible apply g_for | with_reducible apply g_iRng1 | ((with_reducible apply g_r1); (· walk_at "cond"); (· walk_at "cond")) | with_reducible apply g_iRng2 | ((with_reducible apply g_r2); (· walk_at "cond")) | with_reducible apply g_iList | ((with_reducible apply g_il); (· walk_at "sq")) | with_reducible apply g_iTup | ((with_reducible apply g_it); (· walk_at "sq"))
  | with_reducible apply g_lc | with_reducible apply g_yes
  | with_reducible apply g_dget2 | with_reducible apply g_daug | with_reducible apply g_dnewT
  | with_reducible apply g_fld | with_reducible apply g_sfld | with_reducible apply g_meth | with_reducible apply g_make
  | with_reducible apply g_break | with_reducible apply g_cont | with_reducible apply g_bk | with_reducible apply g_ct | with_reducible apply g_lnx | with_reducible apply g_lct | with_reducible apply g_lbk | with_reducible apply g_lrt
  | ((with_reducible apply g_gtup); (· walk_at "sq"); (· rfl)) | with_reducible apply g_gcons | with_reducible apply g_gnil
  | with_reducible apply g_tru | ((with_reducible apply g_truL); (· walk_at "sq")) | with_reducible apply g_eqNI | with_reducible apply g_eqIN | with_reducible apply g_eqNS
  | with_reducible apply g_dget | with_reducible apply g_sdput | with_reducible apply g_disp | with_reducible apply g_pc | with_reducible apply g_pn
  | ((with_reducible apply g_fl); (· walk_at "hp"); (· assumption); (· assumption); (· walk_at "fl")) | ((with_reducible apply g_sf); (· walk_at "hp"); (· assumption); (· assumption); (· walk_at "fn"))
  | ((with_reducible apply g_m); (· walk_at "hp"); (· walk_at "fm")) | ((with_reducible apply g_dg); (· walk_at "hp"); (· walk_at "dv")) | ((with_reducible apply g_dp); (· walk_at "hp"); (· walk_at "dl"))
  | ((with_reducible apply g_decT); (· decide)) | ((with_reducible apply g_decF); (· decide)))
local macro_rules | `(tactic| walk_at "go") => `(tactic| repeat walk_at "go1")
theorem g_start {t : TS} {Q : VK} {σ : L2.St} {H : Hp} (h : t (D0 Q) σ H) : t { nx := fun _ H' => Q .non H', rt := Q } σ H := h
local macro_rules | `(tactic| walk_at "go0") => `(tactic| with_reducible apply g_start)

def topS (i : Nat) : Stmt := PySem.Challenge.pw_kithbase_k38_came_and_went.main.body.getD i (.Pass ⟨0, 0, 0, 0⟩)
abbrev s_value_key : Stmt := (topS 1)
theorem sc_value_key : FnScope ["value"] ["value"] (defScope s_value_key) := ⟨rfl, rfl, rfl, by decide +kernel, rfl, by decide +kernel, by decide +kernel⟩
abbrev s_row_key : Stmt := (topS 2)
theorem sc_row_key : FnScope ["row", "parts", "value"] ["row"] (defScope s_row_key) := ⟨rfl, rfl, rfl, by decide +kernel, rfl, by decide +kernel, by decide +kernel⟩
abbrev s_came : Stmt := (topS 4)
theorem sc_came : FnScope ["old", "new", "counts", "row", "key", "found"] ["old", "new"] (defScope s_came) := ⟨rfl, rfl, rfl, by decide +kernel, rfl, by decide +kernel, by decide +kernel⟩
abbrev s_went : Stmt := (topS 5)
theorem sc_went : FnScope ["old", "new"] ["old", "new"] (defScope s_went) := ⟨rfl, rfl, rfl, by decide +kernel, rfl, by decide +kernel, by decide +kernel⟩
abbrev s_next : Stmt := (topS 7)
theorem sc_next : FnScope ["_law_state", "_law_limit", "_law_cell", "_law_value_here"] ["_law_state", "_law_limit"] (defScope s_next) := ⟨rfl, rfl, rfl, by decide +kernel, rfl, by decide +kernel, by decide +kernel⟩
abbrev s_same : Stmt := (topS 8)
theorem sc_same : FnScope ["_law_actual", "_law_expected", "_law_k"] ["_law_actual", "_law_expected"] (defScope s_same) := ⟨rfl, rfl, rfl, by decide +kernel, rfl, by decide +kernel, by decide +kernel⟩
abbrev s_char : Stmt := (topS 9)
theorem sc_char : FnScope ["_law_index", "_law_chars"] ["_law_index"] (defScope s_char) := ⟨rfl, rfl, rfl, by decide +kernel, rfl, by decide +kernel, by decide +kernel⟩
abbrev s_value : Stmt := (topS 10)
theorem sc_value : FnScope ["_law_state", "_law_kind", "_law_text"] ["_law_state", "_law_kind"] (defScope s_value) := ⟨rfl, rfl, rfl, by decide +kernel, rfl, by decide +kernel, by decide +kernel⟩
abbrev s_drawn_row : Stmt := (topS 11)
theorem sc_drawn_row : FnScope ["_law_state", "_law_width", "_law_k"] ["_law_state", "_law_width"] (defScope s_drawn_row) := ⟨rfl, rfl, rfl, by decide +kernel, rfl, by decide +kernel, by decide +kernel⟩
abbrev s_count : Stmt := (topS 12)
theorem sc_count : FnScope ["_law_row", "_law_rows", "_law_other"] ["_law_row", "_law_rows"] (defScope s_count) := ⟨rfl, rfl, rfl, by decide +kernel, rfl, by decide +kernel, by decide +kernel⟩
abbrev s_more : Stmt := (topS 13)
theorem sc_more : FnScope ["_law_old", "_law_new", "_law_found", "_law_k"] ["_law_old", "_law_new"] (defScope s_more) := ⟨rfl, rfl, rfl, by decide +kernel, rfl, by decide +kernel, by decide +kernel⟩
abbrev s_turned : Stmt := (topS 14)
theorem sc_turned : FnScope ["_law_state", "_law_old", "_law_new", "_law_row", "_law_k"] ["_law_state", "_law_old"] (defScope s_turned) := ⟨rfl, rfl, rfl, by decide +kernel, rfl, by decide +kernel, by decide +kernel⟩
abbrev s_balanced : Stmt := (topS 15)
theorem sc_balanced : FnScope ["_law_old", "_law_new", "_law_more_here", "_law_fewer", "_law_row"] ["_law_old", "_law_new", "_law_more_here", "_law_fewer"] (defScope s_balanced) := ⟨rfl, rfl, rfl, by decide +kernel, rfl, by decide +kernel, by decide +kernel⟩
abbrev s_law : Stmt := (topS 16)
theorem sc_law : FnScope ["_law_script", "_law_state", "_law_width", "_law_old", "_law_new", "_law_passed", "_law_more_here", "_law_fewer", "_law_k"] ["_law_script"] (defScope s_law) := ⟨rfl, rfl, rfl, by decide +kernel, rfl, by decide +kernel, by decide +kernel⟩
theorem bt_bool : bootBuiltins "bool" = some (.type "bool") := by decide +kernel
theorem bt_int : bootBuiltins "int" = some (.type "int") := by decide +kernel
theorem bt_isinstance : bootBuiltins "isinstance" = some (.builtin "isinstance") := by decide +kernel
theorem bt_len : bootBuiltins "len" = some (.builtin "len") := by decide +kernel
theorem bt_list : bootBuiltins "list" = some (.type "list") := by decide +kernel
theorem bt_range : bootBuiltins "range" = some (.type "range") := by decide +kernel
theorem bt_str : bootBuiltins "str" = some (.type "str") := by decide +kernel
theorem bt_tuple : bootBuiltins "tuple" = some (.type "tuple") := by decide +kernel
structure Txt (K : PySem.W.Frag) (mg : Str → Option Value) where
  a_value_key : Addr
  d_value_key : FuncData
  F_value_key : Fun K "value_key" "value_key" s_value_key a_value_key d_value_key
  b_value_key : Binds K d_value_key ["value"] []
  g_value_key : mg "value_key" = some (.ref a_value_key)
  a_row_key : Addr
  d_row_key : FuncData
  F_row_key : Fun K "row_key" "row_key" s_row_key a_row_key d_row_key
  b_row_key : Binds K d_row_key ["row"] []
  g_row_key : mg "row_key" = some (.ref a_row_key)
  a_came : Addr
  d_came : FuncData
  F_came : Fun K "came" "came" s_came a_came d_came
  b_came : Binds K d_came ["old", "new"] []
  g_came : mg "came" = some (.ref a_came)
  a_went : Addr
  d_went : FuncData
  F_went : Fun K "went" "went" s_went a_went d_went
  b_went : Binds K d_went ["old", "new"] []
  g_went : mg "went" = some (.ref a_went)
  a_next : Addr
  d_next : FuncData
  F_next : Fun K "_law_next" "_law_next" s_next a_next d_next
  b_next : Binds K d_next ["_law_state", "_law_limit"] []
  g_next : mg "_law_next" = some (.ref a_next)
  a_same : Addr
  d_same : FuncData
  F_same : Fun K "_law_same" "_law_same" s_same a_same d_same
  b_same : Binds K d_same ["_law_actual", "_law_expected"] []
  g_same : mg "_law_same" = some (.ref a_same)
  a_char : Addr
  d_char : FuncData
  F_char : Fun K "_law_char" "_law_char" s_char a_char d_char
  b_char : Binds K d_char ["_law_index"] []
  g_char : mg "_law_char" = some (.ref a_char)
  a_value : Addr
  d_value : FuncData
  F_value : Fun K "_law_value" "_law_value" s_value a_value d_value
  b_value : Binds K d_value ["_law_state", "_law_kind"] []
  g_value : mg "_law_value" = some (.ref a_value)
  a_drawn_row : Addr
  d_drawn_row : FuncData
  F_drawn_row : Fun K "_law_drawn_row" "_law_drawn_row" s_drawn_row a_drawn_row d_drawn_row
  b_drawn_row : Binds K d_drawn_row ["_law_state", "_law_width"] []
  g_drawn_row : mg "_law_drawn_row" = some (.ref a_drawn_row)
  a_count : Addr
  d_count : FuncData
  F_count : Fun K "_law_count" "_law_count" s_count a_count d_count
  b_count : Binds K d_count ["_law_row", "_law_rows"] []
  g_count : mg "_law_count" = some (.ref a_count)
  a_more : Addr
  d_more : FuncData
  F_more : Fun K "_law_more" "_law_more" s_more a_more d_more
  b_more : Binds K d_more ["_law_old", "_law_new"] []
  g_more : mg "_law_more" = some (.ref a_more)
  a_turned : Addr
  d_turned : FuncData
  F_turned : Fun K "_law_turned" "_law_turned" s_turned a_turned d_turned
  b_turned : Binds K d_turned ["_law_state", "_law_old"] []
  g_turned : mg "_law_turned" = some (.ref a_turned)
  a_balanced : Addr
  d_balanced : FuncData
  F_balanced : Fun K "_law_balanced" "_law_balanced" s_balanced a_balanced d_balanced
  b_balanced : Binds K d_balanced ["_law_old", "_law_new", "_law_more_here", "_law_fewer"] []
  g_balanced : mg "_law_balanced" = some (.ref a_balanced)
  a_law : Addr
  d_law : FuncData
  F_law : Fun K "law" "law" s_law a_law d_law
  b_law : Binds K d_law ["_law_script"] []
  g_law : mg "law" = some (.ref a_law)
  z_bool : mg "bool" = none
  z_int : mg "int" = none
  z_isinstance : mg "isinstance" = none
  z_len : mg "len" = none
  z_list : mg "list" = none
  z_range : mg "range" = none
  z_str : mg "str" = none
  z_tuple : mg "tuple" = none
section
variable {P : Program} {w : World} {K : PySem.W.Frag} {mg : Str → Option Value} {base : Heap}
theorem ok_next (T : Txt K mg) : FnOk P w K mg base CX0 1 T.a_next T.d_next ["_law_state", "_law_limit"] (spNext K) := by
  refine T.F_next.ok sc_next (fun vs H Q E h => ?_) (fun cdv A outer s H vs Q E hr h => ?_)
  · obtain ⟨s, a, ns, m, rfl, _⟩ := h
    rfl
  · obtain ⟨p, a, ns, m, rfl, S, hm, hm2, q⟩ := h
    refine ⟨_, (C8.pss_cut (ps_if (PW.pt (pw_and (pt_cmpR op_eq (pe_ix (k_ixL (K := K)) (pv 0) pe_int (fun _ _ => rfl)) pe_int (nomark _)) (pw_and1 (pt_cmpR op_lt (pe_ix (k_ixL (K := K)) (pv 0) pe_int (fun _ _ => rfl)) (pe_callB (k_len (K := K)) (by rfl) T.z_len bt_len (pa_cons (pe_ix (k_ixL (K := K)) (pv 0) pe_int (fun _ _ => rfl)) pa_nil)) (nomark _))))) (pss_cons (ps_set (i := 2) sc_next.nd rfl (.inl rfl) (pe_ix (k_ixL (K := K)) (pe_ix (k_ixL (K := K)) (pv 0) pe_int (fun _ _ => rfl)) (pe_ix (k_ixL (K := K)) (pv 0) pe_int (fun _ _ => rfl)) (fun _ _ => rfl)))
      (pss_cons (ps_augS (pv 0) pe_int get_list pe_int ip_add set_list)
      (pss_one (ps_if (pt_cmpR op_ge (pv 2) (pe_op op_pow pe_int pe_int) (nomark _)) (pss_one (ps_asg (pv 2) (pg_sub (pv 0) pe_int set_list))) (pss_one (ps_asg (pe_op op_mod (pe_callTy c_int1 (by rfl) T.z_int bt_int (pa_cons (pe_op op_add (pe_op op_add (pe_op op_mul (pe_ix (k_ixL (K := K)) (pv 0) pe_int (fun _ _ => rfl)) pe_int) (pe_op op_mod (pe_callTy c_int1 (by rfl) T.z_int bt_int (pa_cons (pv 2) pa_nil)) pe_int)) pe_int) pa_nil)) pe_int) (pg_sub (pv 0) pe_int set_list))))))) pss_nil)
      (pss_cons (ps_if (pt_cmpR op_gt (pe_ix (k_ixL (K := K)) (pv 0) pe_int (fun _ _ => rfl)) pe_int (nomark _)) (pss_cons (ps_set (i := 3) sc_next.nd rfl (.inl rfl) (pe_op op_mod (pe_callTy c_int1 (by rfl) T.z_int bt_int (pa_cons (pe_ix (k_ixL (K := K)) (pv 0) pe_int (fun _ _ => rfl)) pa_nil)) (pv 1)))
      (pss_cons (ps_asg (pe_op op_fdivW (pe_ix (k_ixL (K := K)) (pv 0) pe_int (fun _ _ => rfl)) (pv 1)) (pg_sub (pv 0) pe_int set_list))
      (pss_one (ps_ret (pv 3))))) pss_nil)
      (pss_cons (ps_asg (pe_op op_mod (pe_callTy c_int1 (by rfl) T.z_int bt_int (pa_cons (pe_op op_add (pe_op op_mul (pe_ix (k_ixL (K := K)) (pv 0) pe_int (fun _ _ => rfl)) pe_int) pe_int) pa_nil)) pe_int) (pg_sub (pv 0) pe_int set_list))
      (pss_one (ps_ret (pe_op op_mod (pe_callTy c_int1 (by rfl) T.z_int bt_int (pa_cons (pe_op op_fdiv (pe_ix (k_ixL (K := K)) (pv 0) pe_int (fun _ _ => rfl)) pe_int) pa_nil)) (pv 1))))))), ?_⟩
    obtain ⟨i, v, r, hS, k⟩ := S.st
    have hS0 := hS
    unfold StO at hS
    have hL := SqL.of (K := K) S.li
    have hlen := S.len
    have hne := S.ne
    walk_at "go0"
    refine g_cut (fun σ' H' => ∃ i v r c y, σ' = [some (.ref p), some (.int m), c, y] ∧ H' = upd H p (StO a i v r) ∧ 0 ≤ i ∧ 0 ≤ v ∧ 0 ≤ r ∧ r < 2147483647) ?_ ?_
    · walk_at "go"
      refine g_dec (fun hv => ?_) (fun _ => ?_)
      · walk_at "go"
        refine g_dec (fun hi => ?_) (fun _ => ?_)
        · rw [List.length_map] at hi
          obtain ⟨z, hz⟩ : ∃ z, ns[i.toNat]? = some z := ⟨ns[i.toNat], List.getElem?_eq_getElem (by omega)⟩
          have hz' : atI (ns.map V.int) i = some (.int z) := at_of (j := i.toNat) (by omega) (by rw [List.getElem?_map, hz]; rfl)
          walk_at "go"
          refine g_dec (fun hc => ?_) (fun _ => ?_)
          · walk_at "go"
            refine ⟨i + 1, z, r, some (.int z), none, rfl, by rw [upd_upd]; rfl, by omega, ?_, k.2.2.1, k.2.2.2⟩
            have : (0 : Int) ≤ 10 ^ (18 : Int).toNat := by decide
            omega
          · walk_at "go"
            refine ⟨i + 1, v, _, some (.int z), none, rfl, by rw [upd_upd]; rfl, by omega, k.2.1, Int.emod_nonneg _ (by decide), Int.emod_lt_of_pos _ (by decide)⟩
        · walk_at "go"
          exact ⟨i, v, r, none, none, rfl, (upd_id hS0).symm, k⟩
      · walk_at "go"
        exact ⟨i, v, r, none, none, rfl, (upd_id hS0).symm, k⟩
    · rintro σ' H' ⟨i, v, r, c, y, rfl, rfl, k⟩
      have hP : (upd H p (StO a i v r)) p = some (.lst [.ref a, .int i, .int v, .int r]) := upd_same
      walk_at "go"
      refine g_dec (fun hv => ?_) (fun _ => ?_)
      · walk_at "go"
        refine g_I (wide_div hm hm2 (by decide) (by decide)) ?_
        walk_at "go"
        rw [upd_upd]
        exact q i (v / m) r _ ⟨k.1, Int.ediv_nonneg k.2.1 (by omega), k.2.2.1, k.2.2.2⟩ (Int.emod_nonneg _ (by omega)) (Int.emod_lt_of_pos _ hm)
      · walk_at "go"
        rw [upd_upd]
        exact q i v _ _ ⟨k.1, k.2.1, Int.emod_nonneg _ (by decide), Int.emod_lt_of_pos _ (by decide)⟩ (Int.emod_nonneg _ (by omega)) (Int.emod_lt_of_pos _ hm)
end

def charCodes : List Nat := (" '!\"#$&()*+,-./0123456789:;<=>?@ABCDEFGHIJKLMNOPQRSTUVWXYZ[\\]^_`" : Str).cps.toList ++ ("abcdefghijklmnopqrstuvwxyz{|}~\n" : Str).cps.toList
def spChar : Sp := fun vs H Q _ => ∃ i : Int, vs = [.int i] ∧ ∀ c ∈ charCodes, Q (.str ⟨#[c]⟩) H
section
variable {P : Program} {w : World} {K : PySem.W.Frag} {mg : Str → Option Value} {base : Heap}
theorem ok_char (T : Txt K mg) : FnOk P w K mg base CX0 1 T.a_char T.d_char ["_law_index"] spChar := by
  refine T.F_char.ok sc_char (fun vs H Q E h => ?_) (fun cdv A outer s H vs Q E hr h => ?_)
  · obtain ⟨i, rfl, _⟩ := h
    rfl
  · obtain ⟨i, rfl, q⟩ := h
    refine ⟨_, (pss_cons (ps_set (i := 1) sc_char.nd rfl (.inl rfl) pe_str)
      (pss_cons (ps_set (i := 1) sc_char.nd rfl (.inl rfl) (pe_op o_addS (pv 1) pe_str))
      (pss_one (ps_ret (pe_ix ix_str (pv 1) (pe_op op_mod (pe_callTy c_int1 (by rfl) T.z_int bt_int (pa_cons (pv 0) pa_nil)) pe_int) (fun _ _ => rfl)))))), ?_⟩
    walk_at "go0"
    walk_at "go"
    refine g_addS (sz (by decide +kernel)) ?_
    walk_at "go"
    have h0 : 0 ≤ i % 95 := Int.emod_nonneg _ (by decide)
    have h1 : i % 95 < 95 := Int.emod_lt_of_pos _ (by decide)
    have hl : charCodes.length = 95 := by decide +kernel
    have hj : (i % 95).toNat < charCodes.length := by omega
    refine g_ixS (k := charCodes[(i % 95).toNat]) (sz (by decide +kernel)) (at_codes (j := (i % 95).toNat) (by omega) (List.getElem?_eq_getElem hj)) ?_
    exact q _ (List.getElem_mem hj)
end

section
variable {P : Program} {w : World} {K : PySem.W.Frag} {mg : Str → Option Value} {base : Heap}
theorem ok_same0 (T : Txt K mg) : FnOk P w K mg base CX0 1 T.a_same T.d_same ["_law_actual", "_law_expected"] (SameFor R0) := by
  refine T.F_same.ok sc_same (fun vs H Q E h => ?_) (fun cdv A outer s H vs Q E hr h => ?_)
  · obtain ⟨x, y, _, _, rfl, _⟩ := h
    rfl
  · obtain ⟨x, y, x', y', rfl, ⟨e1, hx⟩, ⟨e2, hy⟩, q⟩ := h
    subst e1 e2
    refine ⟨_, (pss_cons (ps_if (pt_cmpR o_isN (pv 1) pe_non (nomark _)) (pss_one (ps_ret (pe_cmpR o_isN (pv 0) pe_non (nomark _)))) pss_nil)
      (pss_cons (ps_if (pt_val (pe_callB (k_isi (K := K)) (by rfl) T.z_isinstance bt_isinstance (pa_cons (pv 1) (pa_cons (pe_bltn (v := .ty "bool") (by rfl) T.z_bool bt_bool rfl) pa_nil)))) (pss_one (ps_ret (pe_and (pe_callB (k_isi (K := K)) (by rfl) T.z_isinstance bt_isinstance (pa_cons (pv 0) (pa_cons (pe_bltn (v := .ty "bool") (by rfl) T.z_bool bt_bool rfl) pa_nil))) (pe_one (pe_cmpR op_eq (pv 0) (pv 1) (nomark _)))))) pss_nil)
      (pss_cons (ps_if (pt_val (pe_callB (k_isi (K := K)) (by rfl) T.z_isinstance bt_isinstance (pa_cons (pv 1) (pa_cons (pe_bltn (v := .ty "int") (by rfl) T.z_int bt_int rfl) pa_nil)))) (pss_one (ps_ret (pe_and (pe_callB (k_isi (K := K)) (by rfl) T.z_isinstance bt_isinstance (pa_cons (pv 0) (pa_cons (pe_bltn (v := .ty "int") (by rfl) T.z_int bt_int rfl) pa_nil))) (pe_and (pe_not (pe_callB (k_isi (K := K)) (by rfl) T.z_isinstance bt_isinstance (pa_cons (pv 0) (pa_cons (pe_bltn (v := .ty "bool") (by rfl) T.z_bool bt_bool rfl) pa_nil)))) (pe_one (pe_cmpR op_eq (pv 0) (pv 1) (nomark _))))))) pss_nil)
      (pss_cons (ps_if (pt_val (pe_callB (k_isi (K := K)) (by rfl) T.z_isinstance bt_isinstance (pa_cons (pv 1) (pa_cons (pe_bltn (v := .ty "str") (by rfl) T.z_str bt_str rfl) pa_nil)))) (pss_one (ps_ret (pe_and (pe_callB (k_isi (K := K)) (by rfl) T.z_isinstance bt_isinstance (pa_cons (pv 0) (pa_cons (pe_bltn (v := .ty "str") (by rfl) T.z_str bt_str rfl) pa_nil))) (pe_one (pe_cmpR op_eq (pv 0) (pv 1) (nomark _)))))) pss_nil)
      pss_never)))), ?_⟩
    walk_at "go0"
    cases y <;> cases hy <;> cases x <;> cases hx <;> (walk_at "go"; first | exact q | (rw [dI] at q; exact q) | (rw [dB] at q; exact q) | (rw [dS] at q; exact q))
theorem ok_sameLst (T : Txt K mg) {n : Nat} {α : Type} [DecidableEq α] (R : Hp → V → α → Prop) (G_same : FnOk P w K mg base CX0 n T.a_same T.d_same ["_law_actual", "_law_expected"] (SameFor R)) :
    FnOk P w K mg base CX0 (n + 1) T.a_same T.d_same ["_law_actual", "_law_expected"] (SameFor (LstR R)) := by
  refine T.F_same.ok sc_same (fun vs H Q E h => ?_) (fun cdv A outer s H vs Q E hr h => ?_)
  · obtain ⟨x, y, _, _, rfl, _⟩ := h
    rfl
  · obtain ⟨_, _, as, bs, rfl, ⟨a, xs, rfl, ha, hA, la⟩, ⟨b, ys, rfl, hb, hB, lb⟩, q⟩ := h
    have lx := hA.len
    have ly := hB.len
    refine ⟨_, (pss_cons (ps_if (pt_cmpR o_isN (pv 1) pe_non (nomark _)) (pss_one (ps_ret (pe_cmpR o_isN (pv 0) pe_non (nomark _)))) pss_nil)
      (pss_cons (ps_if (pt_val (pe_callB (k_isi (K := K)) (by rfl) T.z_isinstance bt_isinstance (pa_cons (pv 1) (pa_cons (pe_bltn (v := .ty "bool") (by rfl) T.z_bool bt_bool rfl) pa_nil)))) (pss_one (ps_ret (pe_and (pe_callB (k_isi (K := K)) (by rfl) T.z_isinstance bt_isinstance (pa_cons (pv 0) (pa_cons (pe_bltn (v := .ty "bool") (by rfl) T.z_bool bt_bool rfl) pa_nil))) (pe_one (pe_cmpR op_eq (pv 0) (pv 1) (nomark _)))))) pss_nil)
      (pss_cons (ps_if (pt_val (pe_callB (k_isi (K := K)) (by rfl) T.z_isinstance bt_isinstance (pa_cons (pv 1) (pa_cons (pe_bltn (v := .ty "int") (by rfl) T.z_int bt_int rfl) pa_nil)))) (pss_one (ps_ret (pe_and (pe_callB (k_isi (K := K)) (by rfl) T.z_isinstance bt_isinstance (pa_cons (pv 0) (pa_cons (pe_bltn (v := .ty "int") (by rfl) T.z_int bt_int rfl) pa_nil))) (pe_and (pe_not (pe_callB (k_isi (K := K)) (by rfl) T.z_isinstance bt_isinstance (pa_cons (pv 0) (pa_cons (pe_bltn (v := .ty "bool") (by rfl) T.z_bool bt_bool rfl) pa_nil)))) (pe_one (pe_cmpR op_eq (pv 0) (pv 1) (nomark _))))))) pss_nil)
      (pss_cons (ps_if (pt_val (pe_callB (k_isi (K := K)) (by rfl) T.z_isinstance bt_isinstance (pa_cons (pv 1) (pa_cons (pe_bltn (v := .ty "str") (by rfl) T.z_str bt_str rfl) pa_nil)))) (pss_one (ps_ret (pe_and (pe_callB (k_isi (K := K)) (by rfl) T.z_isinstance bt_isinstance (pa_cons (pv 0) (pa_cons (pe_bltn (v := .ty "str") (by rfl) T.z_str bt_str rfl) pa_nil))) (pe_one (pe_cmpR op_eq (pv 0) (pv 1) (nomark _)))))) pss_nil)
      (pss_cons (ps_if (PW.pt (pw_and (pt_val (pe_callB (k_isi (K := K)) (by rfl) T.z_isinstance bt_isinstance (pa_cons (pv 1) (pa_cons (pe_bltn (v := .ty "tuple") (by rfl) T.z_tuple bt_tuple rfl) pa_nil)))) (pw_and1 (pt_not (pt_val (pe_callB (k_isi (K := K)) (by rfl) T.z_isinstance bt_isinstance (pa_cons (pv 0) (pa_cons (pe_bltn (v := .ty "tuple") (by rfl) T.z_tuple bt_tuple rfl) pa_nil)))))))) (pss_one (ps_ret pe_bl)) pss_nil)
      (pss_cons (ps_if (PW.pt (pw_and (pt_val (pe_callB (k_isi (K := K)) (by rfl) T.z_isinstance bt_isinstance (pa_cons (pv 1) (pa_cons (pe_bltn (v := .ty "list") (by rfl) T.z_list bt_list rfl) pa_nil)))) (pw_and1 (pt_not (pt_val (pe_callB (k_isi (K := K)) (by rfl) T.z_isinstance bt_isinstance (pa_cons (pv 0) (pa_cons (pe_bltn (v := .ty "list") (by rfl) T.z_list bt_list rfl) pa_nil)))))))) (pss_one (ps_ret pe_bl)) pss_nil)
      (pss_cons (ps_if (pt_cmpR op_ne (pe_callB (k_len (K := K)) (by rfl) T.z_len bt_len (pa_cons (pv 0) pa_nil)) (pe_callB (k_len (K := K)) (by rfl) T.z_len bt_len (pa_cons (pv 1) pa_nil)) (nomark _)) (pss_one (ps_ret pe_bl)) pss_nil)
      (pss_cons (ps_for PassesOwn.never rfl (pi_range1 (by rfl) T.z_range (pa_cons (pe_callB (k_len (K := K)) (by rfl) T.z_len bt_len (pa_cons (pv 1) pa_nil)) pa_nil)) (pg_name (i := 2) sc_same.nd rfl (.inl rfl)) (pss_one (ps_if (pt_not (pt_val (pe_call G_same (hr.mono (by first | decide | omega)) (by rfl) T.g_same T.F_same.kp T.b_same .nil pass0 (pa_cons (pe_ix (k_ixL (K := K)) (pv 0) (pv 2) (fun _ _ => rfl)) (pa_cons (pe_ix (k_ixL (K := K)) (pv 1) (pv 2) (fun _ _ => rfl)) pa_nil))))) (pss_one (ps_ret pe_bl)) pss_nil)))
      (pss_one (ps_ret pe_bl)))))))))), ?_⟩
    walk_at "go0"
    walk_at "go"
    refine isi (.lst hb) kb_lst_bool ?_
    walk_at "go"
    refine isi (.lst hb) kb_lst_int ?_
    walk_at "go"
    refine isi (.lst hb) kb_lst_str ?_
    walk_at "go"
    refine isi (.lst hb) kb_lst_tup ?_
    walk_at "go"
    refine isi (.lst hb) kb_lst_lst ?_
    walk_at "go"
    refine isi (.lst ha) kb_lst_lst ?_
    walk_at "go"
    refine g_ndec (fun h => ?_) (fun h => ?_)
    · walk_at "go"
      rw [decide_eq_false (fun e : as = bs => h (by rw [lx, ly, e]))] at q
      exact q
    have hl : xs.length = ys.length := by omega
    walk_at "go"
    refine g_forR (fun i σ' H' => ∃ y2, σ' = [some (.ref a), some (.ref b), y2] ∧ H' = H ∧ as.take i = bs.take i) ⟨none, rfl, rfl, rfl⟩ ?_ ?_
    · rintro i σ' H' hi ⟨y2, rfl, rfl, e⟩
      have h1 : i < xs.length := by omega
      have h2 : i < ys.length := by omega
      have g1 : atI xs (0 + (i : Int)) = some xs[i] := at_of (j := i) (by omega) (List.getElem?_eq_getElem h1)
      have g2 : atI ys (0 + (i : Int)) = some ys[i] := at_of (j := i) (by omega) (List.getElem?_eq_getElem h2)
      obtain ⟨u, hu, Ru⟩ := hA.at (List.getElem?_eq_getElem h1)
      obtain ⟨w', hw, Rw⟩ := hB.at (List.getElem?_eq_getElem h2)
      walk_at "go"
      refine ⟨_, _, _, _, rfl, Ru, Rw, ?_⟩
      walk_at "go"
      refine g_ndec (fun h => ?_) (fun h => ?_)
      · walk_at "go"
        rw [decide_eq_false (fun e : as = bs => h (by subst e; rw [hu] at hw; exact Option.some.inj hw))] at q
        exact q
      · walk_at "go"
        refine ⟨_, rfl, rfl, ?_⟩
        rw [List.take_add_one, List.take_add_one, hu, hw, e, h]
    · rintro σ' H' ⟨y2, rfl, rfl, e⟩
      walk_at "go"
      have ee : as = bs := by
        rw [show ((ys.length : Int)).toNat = ys.length from by omega] at e
        rw [List.take_of_length_le (by omega), List.take_of_length_le (by omega)] at e
        exact e
      rw [decide_eq_true ee] at q
      exact q
theorem ok_sameTup (T : Txt K mg) {n : Nat} {α : Type} [DecidableEq α] (R : Hp → V → α → Prop) (G_same : FnOk P w K mg base CX0 n T.a_same T.d_same ["_law_actual", "_law_expected"] (SameFor R)) :
    FnOk P w K mg base CX0 (n + 1) T.a_same T.d_same ["_law_actual", "_law_expected"] (SameFor (TupR R)) := by
  refine T.F_same.ok sc_same (fun vs H Q E h => ?_) (fun cdv A outer s H vs Q E hr h => ?_)
  · obtain ⟨x, y, _, _, rfl, _⟩ := h
    rfl
  · obtain ⟨_, _, as, bs, rfl, ⟨a, xs, rfl, ha, hA, la⟩, ⟨b, ys, rfl, hb, hB, lb⟩, q⟩ := h
    have lx := hA.len
    have ly := hB.len
    refine ⟨_, (pss_cons (ps_if (pt_cmpR o_isN (pv 1) pe_non (nomark _)) (pss_one (ps_ret (pe_cmpR o_isN (pv 0) pe_non (nomark _)))) pss_nil)
      (pss_cons (ps_if (pt_val (pe_callB (k_isi (K := K)) (by rfl) T.z_isinstance bt_isinstance (pa_cons (pv 1) (pa_cons (pe_bltn (v := .ty "bool") (by rfl) T.z_bool bt_bool rfl) pa_nil)))) (pss_one (ps_ret (pe_and (pe_callB (k_isi (K := K)) (by rfl) T.z_isinstance bt_isinstance (pa_cons (pv 0) (pa_cons (pe_bltn (v := .ty "bool") (by rfl) T.z_bool bt_bool rfl) pa_nil))) (pe_one (pe_cmpR (k_eqD (K := K) hr.units) (pv 0) (pv 1) (nomark _)))))) pss_nil)
      (pss_cons (ps_if (pt_val (pe_callB (k_isi (K := K)) (by rfl) T.z_isinstance bt_isinstance (pa_cons (pv 1) (pa_cons (pe_bltn (v := .ty "int") (by rfl) T.z_int bt_int rfl) pa_nil)))) (pss_one (ps_ret (pe_and (pe_callB (k_isi (K := K)) (by rfl) T.z_isinstance bt_isinstance (pa_cons (pv 0) (pa_cons (pe_bltn (v := .ty "int") (by rfl) T.z_int bt_int rfl) pa_nil))) (pe_and (pe_not (pe_callB (k_isi (K := K)) (by rfl) T.z_isinstance bt_isinstance (pa_cons (pv 0) (pa_cons (pe_bltn (v := .ty "bool") (by rfl) T.z_bool bt_bool rfl) pa_nil)))) (pe_one (pe_cmpR (k_eqD (K := K) hr.units) (pv 0) (pv 1) (nomark _))))))) pss_nil)
      (pss_cons (ps_if (pt_val (pe_callB (k_isi (K := K)) (by rfl) T.z_isinstance bt_isinstance (pa_cons (pv 1) (pa_cons (pe_bltn (v := .ty "str") (by rfl) T.z_str bt_str rfl) pa_nil)))) (pss_one (ps_ret (pe_and (pe_callB (k_isi (K := K)) (by rfl) T.z_isinstance bt_isinstance (pa_cons (pv 0) (pa_cons (pe_bltn (v := .ty "str") (by rfl) T.z_str bt_str rfl) pa_nil))) (pe_one (pe_cmpR (k_eqD (K := K) hr.units) (pv 0) (pv 1) (nomark _)))))) pss_nil)
      (pss_cons (ps_if (PW.pt (pw_and (pt_val (pe_callB (k_isi (K := K)) (by rfl) T.z_isinstance bt_isinstance (pa_cons (pv 1) (pa_cons (pe_bltn (v := .ty "tuple") (by rfl) T.z_tuple bt_tuple rfl) pa_nil)))) (pw_and1 (pt_not (pt_val (pe_callB (k_isi (K := K)) (by rfl) T.z_isinstance bt_isinstance (pa_cons (pv 0) (pa_cons (pe_bltn (v := .ty "tuple") (by rfl) T.z_tuple bt_tuple rfl) pa_nil)))))))) (pss_one (ps_ret pe_bl)) pss_nil)
      (pss_cons (ps_if (PW.pt (pw_and (pt_val (pe_callB (k_isi (K := K)) (by rfl) T.z_isinstance bt_isinstance (pa_cons (pv 1) (pa_cons (pe_bltn (v := .ty "list") (by rfl) T.z_list bt_list rfl) pa_nil)))) (pw_and1 (pt_not (pt_val (pe_callB (k_isi (K := K)) (by rfl) T.z_isinstance bt_isinstance (pa_cons (pv 0) (pa_cons (pe_bltn (v := .ty "list") (by rfl) T.z_list bt_list rfl) pa_nil)))))))) (pss_one (ps_ret pe_bl)) pss_nil)
      (pss_cons (ps_if (pt_cmpR op_ne (pe_callB (k_len (K := K)) (by rfl) T.z_len bt_len (pa_cons (pv 0) pa_nil)) (pe_callB (k_len (K := K)) (by rfl) T.z_len bt_len (pa_cons (pv 1) pa_nil)) (nomark _)) (pss_one (ps_ret pe_bl)) pss_nil)
      (pss_cons (ps_for PassesOwn.never rfl (pi_range1 (by rfl) T.z_range (pa_cons (pe_callB (k_len (K := K)) (by rfl) T.z_len bt_len (pa_cons (pv 1) pa_nil)) pa_nil)) (pg_name (i := 2) sc_same.nd rfl (.inl rfl)) (pss_one (ps_if (pt_not (pt_val (pe_call G_same (hr.mono (by first | decide | omega)) (by rfl) T.g_same T.F_same.kp T.b_same .nil pass0 (pa_cons (pe_ix (k_ixT (K := K)) (pv 0) (pv 2) (fun _ _ => rfl)) (pa_cons (pe_ix (k_ixT (K := K)) (pv 1) (pv 2) (fun _ _ => rfl)) pa_nil))))) (pss_one (ps_ret pe_bl)) pss_nil)))
      (pss_one (ps_ret pe_bl)))))))))), ?_⟩
    walk_at "go0"
    walk_at "go"
    refine isi (.tup hb) kb_tup_bool ?_
    walk_at "go"
    refine isi (.tup hb) kb_tup_int ?_
    walk_at "go"
    refine isi (.tup hb) kb_tup_str ?_
    walk_at "go"
    refine isi (.tup hb) kb_tup_tup ?_
    walk_at "go"
    refine isi (.tup ha) kb_tup_tup ?_
    walk_at "go"
    refine isi (.tup hb) kb_tup_lst ?_
    walk_at "go"
    refine g_ndec (fun h => ?_) (fun h => ?_)
    · walk_at "go"
      rw [decide_eq_false (fun e : as = bs => h (by rw [lx, ly, e]))] at q
      exact q
    have hl : xs.length = ys.length := by omega
    walk_at "go"
    refine g_forR (fun i σ' H' => ∃ y2, σ' = [some (.ref a), some (.ref b), y2] ∧ H' = H ∧ as.take i = bs.take i) ⟨none, rfl, rfl, rfl⟩ ?_ ?_
    · rintro i σ' H' hi ⟨y2, rfl, rfl, e⟩
      have h1 : i < xs.length := by omega
      have h2 : i < ys.length := by omega
      have g1 : atI xs (0 + (i : Int)) = some xs[i] := at_of (j := i) (by omega) (List.getElem?_eq_getElem h1)
      have g2 : atI ys (0 + (i : Int)) = some ys[i] := at_of (j := i) (by omega) (List.getElem?_eq_getElem h2)
      obtain ⟨u, hu, Ru⟩ := hA.at (List.getElem?_eq_getElem h1)
      obtain ⟨w', hw, Rw⟩ := hB.at (List.getElem?_eq_getElem h2)
      walk_at "go"
      refine ⟨_, _, _, _, rfl, Ru, Rw, ?_⟩
      walk_at "go"
      refine g_ndec (fun h => ?_) (fun h => ?_)
      · walk_at "go"
        rw [decide_eq_false (fun e : as = bs => h (by subst e; rw [hu] at hw; exact Option.some.inj hw))] at q
        exact q
      · walk_at "go"
        refine ⟨_, rfl, rfl, ?_⟩
        rw [List.take_add_one, List.take_add_one, hu, hw, e, h]
    · rintro σ' H' ⟨y2, rfl, rfl, e⟩
      walk_at "go"
      have ee : as = bs := by
        rw [show ((ys.length : Int)).toNat = ys.length from by omega] at e
        rw [List.take_of_length_le (by omega), List.take_of_length_le (by omega)] at e
        exact e
      rw [decide_eq_true ee] at q
      exact q
end

def spRowKey (K : PySem.W.Frag) : Sp := fun vs H Q _ => ∃ (t : Addr) (xs : List V), vs = [.ref t] ∧ SqT K H t xs ∧ xs.all flatV = true ∧ xs.length ≤ 1000 ∧ ∀ H' p, Same H H' → H p = none → H' p = some (.tup (flK xs)) → Q (.ref p) H'
section
variable {P : Program} {w : World} {K : PySem.W.Frag} {mg : Str → Option Value} {base : Heap}
theorem ok_value_key (T : Txt K mg) : FnOk P w K mg base CX0 1 T.a_value_key T.d_value_key ["value"] spKey := by
  refine T.F_value_key.ok sc_value_key (fun vs H Q E h => ?_) (fun cdv A outer s H vs Q E hr h => ?_)
  · obtain ⟨x, rfl, _⟩ := h
    rfl
  · obtain ⟨x, rfl, hx, q⟩ := h
    refine ⟨_, (pss_cons (ps_if (pt_cmpR o_isN (pv 0) pe_non (nomark _)) (pss_one (ps_ret (pe_tup (pa_cons pe_int pa_nil)))) pss_nil)
      (pss_cons (ps_if (pt_val (pe_callB (k_isi (K := K)) (by rfl) T.z_isinstance bt_isinstance (pa_cons (pv 0) (pa_cons (pe_bltn (v := .ty "bool") (by rfl) T.z_bool bt_bool rfl) pa_nil)))) (pss_one (ps_ret (pe_tup (pa_cons pe_int (pa_cons (pe_callTy c_int1 (by rfl) T.z_int bt_int (pa_cons (pv 0) pa_nil)) pa_nil))))) pss_nil)
      (pss_cons (ps_if (pt_val (pe_callB (k_isi (K := K)) (by rfl) T.z_isinstance bt_isinstance (pa_cons (pv 0) (pa_cons (pe_bltn (v := .ty "int") (by rfl) T.z_int bt_int rfl) pa_nil)))) (pss_one (ps_ret (pe_tup (pa_cons pe_int (pa_cons (pv 0) pa_nil))))) pss_nil)
      (pss_one (ps_ret (pe_tup (pa_cons pe_int (pa_cons (pv 0) pa_nil)))))))), ?_⟩
    walk_at "go0"
    cases x <;> cases hx <;> (walk_at "go"; intro p np; walk_at "go"; exact q p np)
theorem ok_row_key (T : Txt K mg) : FnOk P w K mg base CX0 2 T.a_row_key T.d_row_key ["row"] (spRowKey K) := by
  have G_value_key : FnOk P w K mg base CX0 1 _ _ _ _ := ok_value_key T
  refine T.F_row_key.ok sc_row_key (fun vs H Q E h => ?_) (fun cdv A outer s H vs Q E hr h => ?_)
  · obtain ⟨t, xs, rfl, _⟩ := h
    rfl
  · obtain ⟨t, xs, rfl, ht, fx, h10, q⟩ := h
    refine ⟨_, (pss_cons (ps_set (i := 1) sc_row_key.nd rfl (.inl rfl) (pe_lst pa_nil))
      (pss_cons (ps_for PassesOwn.never rfl (k_piT (K := K) (pv 0)) (pg_name (i := 2) sc_row_key.nd rfl (.inl rfl)) (pss_one (ps_expr (pe_bm PySem.F.plainAttrs_list PySem.F.slot_list_extend PySem.F.type_list_extend mt_extT (pv 1) (pa_cons (pe_call G_value_key (hr.mono (by first | decide | omega)) (by rfl) T.g_value_key T.F_value_key.kp T.b_value_key .nil pass0 (pa_cons (pv 2) pa_nil)) pa_nil)))))
      (pss_one (ps_ret (pe_callTy (k_tuple (K := K)) (by rfl) T.z_tuple bt_tuple (pa_cons (pv 1) pa_nil)))))), ?_⟩
    walk_at "go0"
    walk_at "go"
    intro l nl
    have ht1 : SqT K (upd H l (.lst [])) t xs := sqT_same (Same.new (Same.refl _) nl) ht
    walk_at "go"
    refine g_forT (xs := xs) (fun i σ' H' => ∃ y2, σ' = [some (.ref t), some (.ref l), y2] ∧ Same H H' ∧ H' l = some (.lst (flK (xs.take i)))) ⟨none, rfl, Same.new (Same.refl _) nl, upd_same⟩ (fun i σ' H' _ ⟨_, _, sm, _⟩ => sqT_same sm ht) ?_ ?_
    · rintro i v σ' H' hi ⟨y2, rfl, sm, hl⟩
      have h1 : i < xs.length := (List.getElem?_eq_some_iff.mp hi).1
      have fv : flatV v = true := List.all_eq_true.mp fx _ (List.mem_of_getElem? hi)
      have et : xs.take (i + 1) = xs.take i ++ [v] := by rw [List.take_add_one, hi]; rfl
      have el : (flK (xs.take i)).length ≤ 2 * i := Nat.le_trans (flK_len _) (by rw [List.length_take]; omega)
      have ek : (keyV v).length ≤ 2 := keyV_len v
      walk_at "go"
      refine ⟨v, rfl, fv, fun p np => ?_⟩
      have nlp : l ≠ p := fun e => by rw [e, np] at hl; cases hl
      refine ⟨l, p, _, _, rfl, rfl, (upd_ne nlp).trans hl, .inl (.inl upd_same), sz (by omega), ?_⟩
      walk_at "go"
      refine ⟨_, rfl, ?_, ?_⟩
      · intro b o e
        rw [upd_ne (ne_of_none e nl), upd_ne (ne_of_none (sm _ _ e) np)]
        exact sm _ _ e
      · rw [upd_same, et, flK_app _ _ v rfl]
    · rintro σ' H' ⟨y2, rfl, sm, hl⟩
      rw [List.take_length] at hl
      walk_at "go"
      refine g_tupL (.inl (.inl hl)) fun p np => ?_
      walk_at "go"
      exact q _ p (Same.new sm np) (sm.free np) upd_same
end

def ScB : V → Prop
  | .non => True
  | .bl _ => True
  | .int i => i.natAbs < 10 ^ 40
  | .str z => z.length ≤ 10
  | _ => False
theorem ScB.flat {v : V} (h : ScB v) : flatV v = true := by cases v <;> first | rfl | exact h.elim
theorem len_add (a b : Str) : (a ++ b).length = a.length + b.length := by rw [← cd_len, cd_app, List.length_append, cd_len, cd_len]
def spValueK (K : PySem.W.Frag) : Sp := fun vs H Q _ => ∃ (s a : Addr) (ns : List Int) (kd : Str), vs = [.ref s, .str kd] ∧ StAt K H s a ns ∧ ∀ H' v, ScB v → StAt K H' s a ns → But s H H' → Q v H'
section
variable {P : Program} {w : World} {K : PySem.W.Frag} {mg : Str → Option Value} {base : Heap}
theorem ok_value (T : Txt K mg) : FnOk P w K mg base CX0 2 T.a_value T.d_value ["_law_state", "_law_kind"] (spValueK K) := by
  have G_next : FnOk P w K mg base CX0 1 _ _ _ _ := ok_next T
  have G_char : FnOk P w K mg base CX0 1 _ _ _ _ := ok_char T
  refine T.F_value.ok sc_value (fun vs H Q E h => ?_) (fun cdv A outer s H vs Q E hr h => ?_)
  · obtain ⟨s, a, ns, kd, rfl, _⟩ := h
    rfl
  · obtain ⟨p, a, ns, kd, rfl, S, q⟩ := h
    refine ⟨_, (pss_cons (ps_if (pt_cmpR op_eq (pe_call G_next (hr.mono (by first | decide | omega)) (by rfl) T.g_next T.F_next.kp T.b_next .nil pass0 (pa_cons (pv 0) (pa_cons pe_int pa_nil))) pe_int (nomark _)) (pss_one (ps_ret pe_non)) pss_nil)
      (pss_cons (ps_if (pt_cmpR op_eq (pv 1) pe_str (nomark _)) (pss_one (ps_ret (pe_cmpR op_eq (pe_call G_next (hr.mono (by first | decide | omega)) (by rfl) T.g_next T.F_next.kp T.b_next .nil pass0 (pa_cons (pv 0) (pa_cons pe_int pa_nil))) pe_int (nomark _)))) pss_nil)
      (pss_cons (ps_if (pt_cmpR op_eq (pv 1) pe_str (nomark _)) (pss_one (ps_ret (pe_op op_mul (pe_call G_next (hr.mono (by first | decide | omega)) (by rfl) T.g_next T.F_next.kp T.b_next .nil pass0 (pa_cons (pv 0) (pa_cons (pe_ix (k_ixL (K := K)) (pe_lst (pa_cons pe_int (pa_cons pe_int (pa_cons pe_int (pa_cons (pe_op op_pow pe_int pe_int) pa_nil))))) (pe_call G_next (hr.mono (by first | decide | omega)) (by rfl) T.g_next T.F_next.kp T.b_next .nil pass0 (pa_cons (pv 0) (pa_cons pe_int pa_nil))) (fun _ _ => rfl)) pa_nil))) (pe_op op_sub pe_int (pe_op op_mul pe_int (pe_call G_next (hr.mono (by first | decide | omega)) (by rfl) T.g_next T.F_next.kp T.b_next .nil pass0 (pa_cons (pv 0) (pa_cons pe_int pa_nil)))))))) pss_nil)
      (pss_cons (ps_set (i := 2) sc_value.nd rfl (.inl rfl) (pe_ix (k_ixL (K := K)) (pe_lst (pa_cons pe_str (pa_cons pe_str (pa_cons pe_str (pa_cons pe_str (pa_cons pe_str pa_nil)))))) (pe_call G_next (hr.mono (by first | decide | omega)) (by rfl) T.g_next T.F_next.kp T.b_next .nil pass0 (pa_cons (pv 0) (pa_cons pe_int pa_nil))) (fun _ _ => rfl)))
      (pss_cons (ps_if (pt_cmpR op_eq (pe_call G_next (hr.mono (by first | decide | omega)) (by rfl) T.g_next T.F_next.kp T.b_next .nil pass0 (pa_cons (pv 0) (pa_cons pe_int pa_nil))) pe_int (nomark _)) (pss_one (ps_set (i := 2) sc_value.nd rfl (.inl rfl) (pe_op o_addS (pv 2) (pe_call G_char (hr.mono (by first | decide | omega)) (by rfl) T.g_char T.F_char.kp T.b_char .nil pass0 (pa_cons (pe_call G_next (hr.mono (by first | decide | omega)) (by rfl) T.g_next T.F_next.kp T.b_next .nil pass0 (pa_cons (pv 0) (pa_cons pe_int pa_nil))) pa_nil))))) pss_nil)
      (pss_one (ps_ret (pv 2)))))))), ?_⟩
    walk_at "go0"
    walk_at "go"
    refine ⟨p, a, ns, 5, rfl, S, by decide, by decide, fun i v r x k h0 h1 => ?_⟩
    have S1 := S.upd k
    have b1 : But p H (upd H p (StO a i v r)) := (But.refl p H).upd
    generalize upd H p (StO a i v r) = H1 at S1 b1
    walk_at "go"
    refine g_dec (fun h3 => ?_) (fun h3 => ?_)
    · walk_at "go"
      exact q _ _ trivial S1 b1
    walk_at "go"
    refine g_dec (fun h4 => ?_) (fun h4 => ?_)
    · walk_at "go"
      refine ⟨p, a, ns, 2, rfl, S1, by decide, by decide, fun i v r y k h0 h1 => ?_⟩
      walk_at "go"
      exact q _ _ trivial (S1.upd k) b1.upd
    walk_at "go"
    refine g_dec (fun h4 => ?_) (fun h5 => ?_)
    · walk_at "go"
      intro l nl
      have S2 := S1.new (o := .lst [.int 4, .int 4, .int 4, .int (10 ^ (40 : Int).toNat)]) nl
      have b2 := b1.new (o := .lst [.int 4, .int 4, .int 4, .int (10 ^ (40 : Int).toNat)]) nl
      have hl2 : (upd H1 l (.lst [.int 4, .int 4, .int 4, .int (10 ^ (40 : Int).toNat)])) l = some (.lst [.int 4, .int 4, .int 4, .int (10 ^ (40 : Int).toNat)]) := upd_same
      have nlp := S1.nes nl
      generalize upd H1 l (.lst [.int 4, .int 4, .int 4, .int (10 ^ (40 : Int).toNat)]) = H2 at S2 b2 hl2 ⊢
      walk_at "go"
      refine ⟨p, a, ns, 4, rfl, S2, by decide, by decide, fun i v r y k h0 h1 => ?_⟩
      have S3 := S2.upd k
      have b3 : But p H (upd H2 p (StO a i v r)) := b2.upd
      have hl3 : (upd H2 p (StO a i v r)) l = some (.lst [.int 4, .int 4, .int 4, .int (10 ^ (40 : Int).toNat)]) := (upd_ne nlp).trans hl2
      generalize upd H2 p (StO a i v r) = H3 at S3 b3 hl3
      have tail : ∀ m : Int, 0 < m → m ≤ 10 ^ 40 → m.natAbs < 2 ^ 140 → ∀ i v r z, (0 ≤ i ∧ 0 ≤ v ∧ 0 ≤ r ∧ r < 2147483647) → 0 ≤ z → z < m → StAt K (upd H3 p (StO a i v r)) p a ns ∧ But p H (upd H3 p (StO a i v r)) ∧ z < 10 ^ 40 := fun m h1 h2 h3 i v r z k h4 h5 => ⟨S3.upd k, b3.upd, by omega⟩
      have e10 : (10 : Int) ^ (40 : Int).toNat = 10 ^ 40 := by decide
      obtain e | e | e | e : y = 0 ∨ y = 1 ∨ y = 2 ∨ y = 3 := by omega
      all_goals
        subst e
        walk_at "go"
        refine ⟨p, a, ns, _, rfl, S3, by decide, by decide, fun i v r z k h0 h1 => ?_⟩
        have S4 := S3.upd k
        have b4 : But p H (upd H3 p (StO a i v r)) := b3.upd
        have hz : z < 10 ^ 40 := by omega
        clear h1
        generalize upd H3 p (StO a i v r) = H4 at S4 b4
        walk_at "go"
        refine ⟨p, a, ns, 2, rfl, S4, by decide, by decide, fun i v r u k h0' h1' => ?_⟩
        walk_at "go"
        refine g_I (.inr ⟨by omega, by omega⟩) ?_
        refine q _ _ ?_ (S4.upd k) b4.upd
        show (z * (1 - 2 * u)).natAbs < 10 ^ 40
        rw [Int.natAbs_mul]
        obtain e | e : u = 0 ∨ u = 1 := by omega
        · subst e; rw [show (1 - 2 * (0 : Int)).natAbs = 1 from by decide]; omega
        · subst e; rw [show (1 - 2 * (1 : Int)).natAbs = 1 from by decide]; omega
    walk_at "go"
    intro l nl
    have S2 := S1.new (o := .lst [.str "", .str "a", .str "b", .str "ab", .str "B"]) nl
    have b2 := b1.new (o := .lst [.str "", .str "a", .str "b", .str "ab", .str "B"]) nl
    have hl2 : (upd H1 l (.lst [.str "", .str "a", .str "b", .str "ab", .str "B"])) l = some (.lst [.str "", .str "a", .str "b", .str "ab", .str "B"]) := upd_same
    have nlp := S1.nes nl
    generalize upd H1 l (.lst [.str "", .str "a", .str "b", .str "ab", .str "B"]) = H2 at S2 b2 hl2 ⊢
    walk_at "go"
    refine ⟨p, a, ns, 5, rfl, S2, by decide, by decide, fun i v r y k h0 h1 => ?_⟩
    have S3 := S2.upd k
    have b3 : But p H (upd H2 p (StO a i v r)) := b2.upd
    have hl3 : (upd H2 p (StO a i v r)) l = some (.lst [.str "", .str "a", .str "b", .str "ab", .str "B"]) := (upd_ne nlp).trans hl2
    generalize upd H2 p (StO a i v r) = H3 at S3 b3 hl3
    obtain e | e | e | e | e : y = 0 ∨ y = 1 ∨ y = 2 ∨ y = 3 ∨ y = 4 := by omega
    all_goals
      subst e
      walk_at "go"
      refine ⟨p, a, ns, 5, rfl, S3, by decide, by decide, fun i v r z k h0 h1 => ?_⟩
      have S4 := S3.upd k
      have b4 : But p H (upd H3 p (StO a i v r)) := b3.upd
      generalize upd H3 p (StO a i v r) = H4 at S4 b4
      walk_at "go"
      refine g_dec (fun e => ?_) (fun e => ?_)
      · walk_at "go"
        refine ⟨p, a, ns, 95, rfl, S4, by decide, by decide, fun i v r u k h0' h1' => ?_⟩
        walk_at "go"
        refine ⟨u, rfl, fun c hc => ?_⟩
        walk_at "go"
        refine g_addS (sz (by show _ + 1 ≤ _; decide +kernel)) ?_
        walk_at "go"
        refine q _ _ ?_ (S4.upd k) b4.upd
        show (_ ++ _ : Str).length ≤ 10
        rw [len_add]
        show _ + 1 ≤ 10
        decide +kernel
      · walk_at "go"
        exact q _ _ (show (_ : Str).length ≤ 10 by decide +kernel) S4 b4
end

/-! counting rows -/
abbrev Rw := List V
abbrev Rows := LstR Row
def moreN (X Y : List Rw) : Nat → List Rw
  | 0 => []
  | i + 1 => moreN X Y i ++ (match Y[i]? with | some y => if X.count y ≤ (Y.take i).count y then [y] else [] | none => [])
def moreR (X Y : List Rw) : List Rw := moreN X Y Y.length
theorem moreN_len (X Y : List Rw) : ∀ i, (moreN X Y i).length ≤ i
  | 0 => Nat.le_refl _
  | i + 1 => by
    have h := moreN_len X Y i
    show (moreN X Y i ++ _).length ≤ i + 1
    rw [List.length_append]
    split
    · split
      · show _ + 1 ≤ _; omega
      · show _ + 0 ≤ _; omega
    · show _ + 0 ≤ _; omega
theorem count_snoc (X : List Rw) (x y : Rw) : (X ++ [y]).count x = X.count x + if y = x then 1 else 0 := by
  rw [List.count_append, List.count_cons, List.count_nil]
  by_cases e : y = x
  · subst e; simp
  · rw [if_neg e, if_neg (by simpa using e)]
theorem moreN_count (X Y : List Rw) (x : Rw) : ∀ i, i ≤ Y.length → (moreN X Y i).count x = (Y.take i).count x - X.count x
  | 0, _ => by show List.count x [] = _; rw [List.count_nil, List.take_zero, List.count_nil]; omega
  | i + 1, h => by
    have ih := moreN_count X Y x i (by omega)
    have e : Y[i]? = some Y[i] := List.getElem?_eq_getElem (by omega)
    rw [List.take_add_one, e]
    show (moreN X Y i ++ (match Y[i]? with | some y => if X.count y ≤ (Y.take i).count y then [y] else [] | none => [])).count x = (Y.take i ++ [Y[i]]).count x - X.count x
    rw [e, count_snoc]
    show (moreN X Y i ++ if X.count Y[i] ≤ (Y.take i).count Y[i] then [Y[i]] else []).count x = _
    by_cases c : X.count Y[i] ≤ (Y.take i).count Y[i]
    · rw [if_pos c, count_snoc, ih]
      by_cases z : Y[i] = x
      · rw [if_pos z]; rw [z] at c; omega
      · rw [if_neg z]
        omega
    · rw [if_neg c, List.append_nil, ih]
      by_cases z : Y[i] = x
      · rw [if_pos z]; rw [z] at c; omega
      · rw [if_neg z]
        omega
theorem more_count (X Y : List Rw) (x : Rw) : (moreR X Y).count x = Y.count x - X.count x := by
  unfold moreR
  rw [moreN_count X Y x Y.length (Nat.le_refl _), List.take_length]
/-- the key of a row -/
def toK : V → Key
  | .int i => .inl i
  | .str z => .inr z
  | _ => .inl 0
def kOf (x : Rw) : List Key := (flK x).map toK
theorem keyV_kV {v : V} (h : flatV v = true) : ((keyV v).map toK).map kV = keyV v := by cases v <;> first | rfl | cases h
theorem kOf_kV : ∀ {x : Rw}, x.all flatV = true → (kOf x).map kV = flK x
  | [], _ => rfl
  | v :: x, h => by
    rw [List.all_cons, Bool.and_eq_true] at h
    have ih := kOf_kV h.2
    unfold kOf at ih ⊢
    rw [flK_cons, List.map_append, List.map_append, keyV_kV h.1, ih]
theorem flK_inj : ∀ {x y : Rw}, x.all flatV = true → y.all flatV = true → flK x = flK y → x = y
  | [], [], _, _, _ => rfl
  | [], v :: y, _, h, e => by
    rw [List.all_cons, Bool.and_eq_true] at h
    rw [flK_cons] at e
    cases v <;> first | (simp [keyV, flK] at e; done) | exact (nomatch h.1)
  | v :: x, [], h, _, e => by
    rw [List.all_cons, Bool.and_eq_true] at h
    rw [flK_cons] at e
    cases v <;> first | (simp [keyV, flK] at e; done) | exact (nomatch h.1)
  | v :: x, u :: y, h, g, e => by
    rw [List.all_cons, Bool.and_eq_true] at h g
    rw [flK_cons, flK_cons] at e
    have ih := flK_inj h.2 g.2
    have hv := h.1
    have hu := g.1
    cases v <;> cases hv <;> cases u <;> cases hu <;> simp [keyV] at e <;> first | (rw [ih e]; done) | (rw [ih e.2, e.1]; done) | skip
    rename_i b1 b2
    obtain ⟨e1, e2⟩ := e
    rw [ih e2]
    cases b1 <;> cases b2 <;> first | rfl | (simp at e1; done)
theorem kOf_inj {x y : Rw} (hx : x.all flatV = true) (hy : y.all flatV = true) (e : kOf x = kOf y) : x = y := by
  apply flK_inj hx hy
  rw [← kOf_kV hx, ← kOf_kV hy, e]
/-- the dict of counts: of X, less those of Z -/
def CntD (kvs : List (List Key × V)) (X Z : List Rw) : Prop := ∀ x : Rw, x.all flatV = true → valV kvs (kOf x) = if X.count x = 0 then none else some (.int ((X.count x - Z.count x : Nat) : Int))
theorem CntD.add {kvs : List (List Key × V)} {X : List Rw} (h : CntD kvs X []) {y : Rw} (fy : y.all flatV = true) : CntD (putK kvs (kOf y) (.int ((X.count y : Int) + 1))) (X ++ [y]) [] := fun x fx => by
  rw [valV_put, count_snoc]
  by_cases e : y = x
  · subst e
    rw [if_pos rfl, if_pos rfl, if_neg (by omega), List.count_nil]
    rfl
  · rw [if_neg (fun z => e (kOf_inj fx fy z).symm), if_neg e, h x fx]
    rfl
theorem CntD.sub {kvs : List (List Key × V)} {X Z : List Rw} (h : CntD kvs X Z) {y : Rw} (fy : y.all flatV = true) (l : Z.count y < X.count y) : CntD (putK kvs (kOf y) (.int (((X.count y - Z.count y : Nat) : Int) - 1))) X (Z ++ [y]) := fun x fx => by
  rw [valV_put, count_snoc]
  by_cases e : y = x
  · subst e
    rw [if_pos rfl, if_pos rfl, if_neg (by omega)]
    congr 2
    omega
  · rw [if_neg (fun z => e (kOf_inj fx fy z).symm), if_neg e, h x fx]
    rfl
theorem CntD.skip {kvs : List (List Key × V)} {X Z : List Rw} (h : CntD kvs X Z) {y : Rw} (l : X.count y ≤ Z.count y) : CntD kvs X (Z ++ [y]) := fun x fx => by
  rw [h x fx, count_snoc]
  by_cases e : y = x
  · subst e
    rw [if_pos rfl]
    by_cases c : X.count y = 0
    · rw [if_pos c, if_pos c]
    · rw [if_neg c, if_neg c]
      congr 3
      omega
  · rw [if_neg e]
    rfl
theorem CntD.get {kvs : List (List Key × V)} {X Z : List Rw} (h : CntD kvs X Z) {x : Rw} (fx : x.all flatV = true) : (valV kvs (kOf x)).getD (.int 0) = .int ((X.count x - Z.count x : Nat) : Int) := by
  rw [h x fx]
  by_cases c : X.count x = 0
  · rw [if_pos c, show X.count x - Z.count x = 0 by omega]; rfl
  · rw [if_neg c]; rfl
def spCame : Sp := fun vs H Q _ => ∃ (x y : V) (X Y : List Rw), vs = [x, y] ∧ Rows H x X ∧ Rows H y Y ∧ ∀ H' r, Same H H' → H r = none → Rows H' (.ref r) (moreR X Y) → Q (.ref r) H'
def spWent : Sp := fun vs H Q _ => ∃ (x y : V) (X Y : List Rw), vs = [x, y] ∧ Rows H x X ∧ Rows H y Y ∧ ∀ H' r, Same H H' → H r = none → Rows H' (.ref r) (moreR Y X) → Q (.ref r) H'
def spCount : Sp := fun vs H Q _ => ∃ (v x : V) (r : Rw) (X : List Rw), vs = [v, x] ∧ Row H v r ∧ Rows H x X ∧ ∀ H', Same H H' → Q (.int (X.count r : Nat)) H'
theorem rowsMono : Stays Row := TupR.stays R0.stays
section
variable {P : Program} {w : World} {K : PySem.W.Frag} {mg : Str → Option Value} {base : Heap}
theorem ok_came (T : Txt K mg) : FnOk P w K mg base CX0 3 T.a_came T.d_came ["old", "new"] spCame := by
  have G_row_key : FnOk P w K mg base CX0 2 _ _ _ _ := ok_row_key T
  refine T.F_came.ok sc_came (fun vs H Q E h => ?_) (fun cdv A outer s H vs Q E hr h => ?_)
  · obtain ⟨x, y, X, Y, rfl, _⟩ := h
    rfl
  · obtain ⟨_, _, X, Y, rfl, ⟨a, us, rfl, ha, hU, lX⟩, ⟨b, ws, rfl, hb, hW, lY⟩, q⟩ := h
    refine ⟨_, (pss_cons (ps_set (i := 2) sc_came.nd rfl (.inl rfl) pe_dnewT)
      (pss_cons (ps_for PassesOwn.never rfl (k_piL (K := K) (pv 0)) (pg_name (i := 3) sc_came.nd rfl (.inl rfl)) (pss_cons (ps_set (i := 4) sc_came.nd rfl (.inl rfl) (pe_call G_row_key (hr.mono (by first | decide | omega)) (by rfl) T.g_row_key T.F_row_key.kp T.b_row_key .nil pass0 (pa_cons (pv 3) pa_nil)))
      (pss_one (ps_dput (hu_of hr) (pv 2) (pv 4) (pe_op op_add (pe_dget2 (hu_of hr) (pv 2) (pv 4) pe_int ⟨rfl, rfl, rfl, rfl⟩) pe_int) rfl))))
      (pss_cons (ps_set (i := 5) sc_came.nd rfl (.inl rfl) (pe_lst pa_nil))
      (pss_cons (ps_for PassesOwn.never rfl (k_piL (K := K) (pv 1)) (pg_name (i := 3) sc_came.nd rfl (.inl rfl)) (pss_cons (ps_set (i := 4) sc_came.nd rfl (.inl rfl) (pe_call G_row_key (hr.mono (by first | decide | omega)) (by rfl) T.g_row_key T.F_row_key.kp T.b_row_key .nil pass0 (pa_cons (pv 3) pa_nil)))
      (pss_one (ps_if (pt_cmpR op_gt (pe_dget2 (hu_of hr) (pv 2) (pv 4) pe_int ⟨rfl, rfl, rfl, rfl⟩) pe_int (nomark _)) (pss_one (ps_daug (hu_of hr) (pv 2) (pv 4) pe_int in_sub (fun _ _ _ => rfl))) (pss_one (ps_expr (pe_bm PySem.F.plainAttrs_list PySem.F.slot_list_append PySem.F.type_list_append mt_append (pv 5) (pa_cons (pv 3) pa_nil))))))))
      (pss_one (ps_ret (pv 5))))))), ?_⟩
    have lu := hU.len
    have lw := hW.len
    walk_at "go0"
    walk_at "go"
    intro d nd
    have s1 : Same H (upd H d (.dT [])) := Same.new (Same.refl _) nd
    have hd1 : (upd H d (.dT [])) d = some (.dT []) := upd_same
    generalize upd H d (.dT []) = H1 at s1 hd1 ⊢
    have ha1 := s1 _ _ ha
    walk_at "go"
    refine g_forL (xs := us) (fun i σ' H' => ∃ y3 y4 kvs, σ' = [some (.ref a), some (.ref b), some (.ref d), y3, y4, none] ∧ Same H H' ∧ H' d = some (.dT kvs) ∧ CntD kvs (X.take i) [] ∧ kvs.length ≤ i) ⟨none, none, [], rfl, s1, hd1, fun _ _ => rfl, Nat.le_refl _⟩ (fun _ _ _ _ ⟨_, _, _, _, sm, _⟩ => SqL.of (sm _ _ ha)) ?_ ?_
    · rintro i v σ' H' hi ⟨y3, y4, kvs, rfl, sm, hd, hC, hk⟩
      obtain ⟨xs, hx, hR⟩ := hU.at hi
      have hi2 : i < us.length := (List.getElem?_eq_some_iff.mp hi).1
      obtain ⟨t, rfl, ht, fx, lx⟩ := hR.dest
      walk_at "go"
      refine ⟨t, xs, rfl, .inl (.inl (sm _ _ ht)), fx, lx, fun H2 p s2 np hp => ?_⟩
      have hp' : H2 p = some (.tup ((kOf xs).map kV)) := by rw [kOf_kV fx]; exact hp
      have hd2 := s2 _ _ hd
      walk_at "go"
      refine ⟨d, rfl, .inr ⟨kvs, .inl hd2⟩, ?_⟩
      walk_at "go"
      refine ⟨_, DGet.t hd2 hp', ?_⟩
      rw [hC.get fx, List.count_nil, Nat.sub_zero]
      walk_at "go"
      refine ⟨d, _, rfl, DPut.t hd2 hp' (szlt (by omega)), ?_⟩
      have hC2 := hC.add fx
      have e1 : X.take (i + 1) = X.take i ++ [xs] := by rw [List.take_add_one, hx]; rfl
      walk_at "go"
      refine ⟨_, _, _, rfl, fun b o e => ?_, upd_same, by rw [e1]; exact hC2, Nat.le_trans (length_putK _ _ _) (by omega)⟩
      rw [upd_ne (ne_of_none e nd)]
      exact s2 _ _ (sm _ _ e)
    · rintro σ' H' ⟨y3, y4, kvs, rfl, sm, hd, hC, hk⟩
      rw [lu, List.take_length] at hC
      walk_at "go"
      intro g ng
      have s2 : Same H' (upd H' g (.lst [])) := Same.new (Same.refl _) ng
      have hg2 : (upd H' g (.lst [])) g = some (.lst []) := upd_same
      have ngH := sm.free ng
      have ndg : d ≠ g := ne_of_none hd ng
      generalize upd H' g (.lst []) = H2 at s2 hg2 ⊢
      have hd2 := s2 _ _ hd
      have s02 := sm.trans s2
      have hb2 := s02 _ _ hb
      clear sm
      walk_at "go"
      refine g_forL (xs := ws) (fun i σ' H' => ∃ y3 y4 kvs gs, σ' = [some (.ref a), some (.ref b), some (.ref d), y3, y4, some (.ref g)] ∧ Same H H' ∧ H' d = some (.dT kvs) ∧ CntD kvs X (Y.take i) ∧ kvs.length ≤ us.length + i ∧ H' g = some (.lst gs) ∧ AllR (Row H') gs (moreN X Y i)) ⟨_, _, kvs, [], rfl, s02, hd2, hC, by omega, hg2, trivial⟩ (fun _ _ _ _ ⟨_, _, _, _, _, sm, _⟩ => SqL.of (sm _ _ hb)) ?_ ?_
      · rintro i v σ' H' hi ⟨y3, y4, kvs, gs, rfl, sm, hd, hC, hk, hg, hG⟩
        obtain ⟨xs, hx, hR⟩ := hW.at hi
        have hi2 : i < ws.length := (List.getElem?_eq_some_iff.mp hi).1
        obtain ⟨t, rfl, ht, fx, lx⟩ := hR.dest
        have e1 : Y.take (i + 1) = Y.take i ++ [xs] := by rw [List.take_add_one, hx]; rfl
        have em : moreN X Y (i + 1) = moreN X Y i ++ if X.count xs ≤ (Y.take i).count xs then [xs] else [] := by
          show moreN X Y i ++ (match Y[i]? with | some y => if X.count y ≤ (Y.take i).count y then [y] else [] | none => []) = _
          rw [hx]
        walk_at "go"
        refine ⟨t, xs, rfl, .inl (.inl (sm _ _ ht)), fx, lx, fun H2 p s2 np hp => ?_⟩
        have hp' : H2 p = some (.tup ((kOf xs).map kV)) := by rw [kOf_kV fx]; exact hp
        have hd2 := s2 _ _ hd
        have hg2 := s2 _ _ hg
        have hG2 := hG.imp fun v a => rowsMono H' H2 v a s2
        have s02 := sm.trans s2
        walk_at "go"
        refine ⟨d, rfl, .inr ⟨kvs, .inl hd2⟩, ?_⟩
        walk_at "go"
        refine ⟨_, DGet.t hd2 hp', ?_⟩
        rw [hC.get fx]
        walk_at "go"
        refine g_dec (fun e => ?_) (fun e => ?_)
        · have lt : (Y.take i).count xs < X.count xs := by omega
          have hv : valV kvs (kOf xs) = some (.int ((X.count xs - (Y.take i).count xs : Nat) : Int)) := by rw [hC xs fx, if_neg (by omega)]
          have hC2 := hC.sub fx lt
          walk_at "go"
          refine ⟨d, _, rfl, by rw [← hv]; exact DGet.t hd2 hp', ?_⟩
          walk_at "go"
          refine g_rSub ?_
          refine ⟨_, DPut.t hd2 hp' (szlt (by omega)), ?_⟩
          walk_at "go"
          refine ⟨_, _, _, gs, rfl, fun b o e => ?_, upd_same, by rw [e1]; exact hC2, Nat.le_trans (length_putK _ _ _) (by omega), (upd_ne ndg.symm).trans hg2, ?_⟩
          · rw [upd_ne (ne_of_none e nd)]
            exact s02 _ _ e
          · rw [em, if_neg (by omega), List.append_nil]
            exact hG2.imp fun v a => Row.keep fun b xs e => by rw [upd_ne (ne_of e hd2 (fun z => nomatch z))]; exact e
        · have le : X.count xs ≤ (Y.take i).count xs := by omega
          have ml := moreN_len X Y i
          have gl := hG.len
          walk_at "go"
          refine g_append hg2 (szlt (by omega)) ?_
          walk_at "go"
          have kp : ∀ b ys, H2 b = some (.tup ys) → (upd H2 g (.lst (gs ++ [.ref t]))) b = some (.tup ys) := fun b ys e => by rw [upd_ne (ne_of e hg2 (fun z => nomatch z))]; exact e
          refine ⟨_, _, kvs, gs ++ [.ref t], rfl, fun b o e => ?_, (upd_ne ndg).trans hd2, by rw [e1]; exact hC.skip le, by omega, upd_same, ?_⟩
          · rw [upd_ne (ne_of_none e ngH)]
            exact s02 _ _ e
          · rw [em, if_pos le]
            exact (hG2.imp fun v a => Row.keep kp).snoc (Row.mk (kp _ _ (s02 _ _ ht)) fx lx)
      · rintro σ' H' ⟨y3, y4, kvs, gs, rfl, sm, hd, hC, hk, hg, hG⟩
        rw [lw] at hG
        have ml := moreN_len X Y Y.length
        walk_at "go"
        exact q _ g sm ngH ⟨g, gs, rfl, hg, hG, by show (moreN X Y Y.length).length ≤ 1000; omega⟩
theorem ok_went (T : Txt K mg) : FnOk P w K mg base CX0 4 T.a_went T.d_went ["old", "new"] spWent := by
  have G_came : FnOk P w K mg base CX0 3 _ _ _ _ := ok_came T
  refine T.F_went.ok sc_went (fun vs H Q E h => ?_) (fun cdv A outer s H vs Q E hr h => ?_)
  · obtain ⟨x, y, X, Y, rfl, _⟩ := h
    rfl
  · obtain ⟨x, y, X, Y, rfl, hX, hY, q⟩ := h
    refine ⟨_, (pss_one (ps_ret (pe_call G_came (hr.mono (by first | decide | omega)) (by rfl) T.g_came T.F_came.kp T.b_came .nil pass0 (pa_cons (pv 1) (pa_cons (pv 0) pa_nil))))), ?_⟩
    walk_at "go0"
    walk_at "go"
    exact ⟨y, x, Y, X, rfl, hY, hX, q⟩
theorem rows_ne {H : Hp} {p s a : Addr} {i v r : Int} {X : List Rw} (h : Rows H (.ref p) X) (hs : H s = some (StO a i v r)) : p ≠ s := by
  rintro rfl
  obtain ⟨p', vs, e, hp, hA, _⟩ := h
  cases e
  rw [hs] at hp
  cases hp
  match X, hA with
  | x :: y :: X, hA =>
    obtain ⟨_, ⟨t, _, e, _⟩, _⟩ := hA
    cases e
theorem rows_but {H H' : Hp} {s a : Addr} {ns : List Int} {x : V} {X : List Rw} (S : StAt K H s a ns) (b : But s H H') (h : Rows H x X) : Rows H' x X := by
  obtain ⟨i, v, r, hs, _⟩ := S.st
  have h2 := h
  obtain ⟨p, vs, rfl, hp, hA, l⟩ := h
  refine ⟨p, vs, rfl, b _ _ hp (rows_ne h2 hs), hA.imp fun v a => Row.keep fun c xs e => b _ _ e fun z => ?_, l⟩
  rw [z, hs] at e
  cases e
theorem all_but {H H' : Hp} {s a : Addr} {ns : List Int} {vs : List V} {X : List Rw} (S : StAt K H s a ns) (b : But s H H') (h : AllR (Row H) vs X) : AllR (Row H') vs X := by
  obtain ⟨i, v, r, hs, _⟩ := S.st
  refine h.imp fun v a => Row.keep fun c xs e => b _ _ e fun z => ?_
  rw [z, hs] at e
  cases e
def spDrawn (K : PySem.W.Frag) : Sp := fun vs H Q _ => ∃ (s a : Addr) (ns : List Int) (n : Int), vs = [.ref s, .int n] ∧ StAt K H s a ns ∧ 0 ≤ n ∧ n ≤ 10 ∧ ∀ H' v r, Row H' v r → StAt K H' s a ns → But s H H' → Q v H'
def spMore : Sp := fun vs H Q _ => ∃ (x y : V) (X Y : List Rw), vs = [x, y] ∧ Rows H x X ∧ Rows H y Y ∧ ∀ H' r, Same H H' → H r = none → Rows H' (.ref r) (moreR X Y) → Q (.ref r) H'
def spTurned (K : PySem.W.Frag) : Sp := fun vs H Q _ => ∃ (s a : Addr) (ns : List Int) (x : V) (X : List Rw), vs = [.ref s, x] ∧ StAt K H s a ns ∧ Rows H x X ∧ X.length ≤ 100 ∧ ∀ H' r Z, Rows H' (.ref r) Z → Z.length ≤ 2 * X.length → StAt K H' s a ns → But s H H' → H r = none → Q (.ref r) H'
def spBalanced : Sp := fun vs H Q _ => ∃ (x y m f : V) (X Y M F : List Rw), vs = [x, y, m, f] ∧ Rows H x X ∧ Rows H y Y ∧ Rows H m M ∧ Rows H f F ∧ X.length + Y.length ≤ 1000 ∧ (∀ r, X.count r + M.count r = Y.count r + F.count r) ∧ (∀ r, ¬ (0 < M.count r ∧ 0 < F.count r)) ∧ ∀ H', Same H H' → Q (.bl true) H'
theorem ok_row_same (T : Txt K mg) : FnOk P w K mg base CX0 2 T.a_same T.d_same ["_law_actual", "_law_expected"] (SameFor Row) := ok_sameTup T R0 (ok_same0 T)
theorem ok_rows_same (T : Txt K mg) : FnOk P w K mg base CX0 3 T.a_same T.d_same ["_law_actual", "_law_expected"] (SameFor Rows) := ok_sameLst T Row (ok_row_same T)
theorem ok_all_same (T : Txt K mg) : FnOk P w K mg base CX0 4 T.a_same T.d_same ["_law_actual", "_law_expected"] (fun vs H Q E => SameFor Rows vs H Q E ∨ SameFor (LstR Rows) vs H Q E) := FnOk.or ((ok_rows_same T).mono (by decide)) (ok_sameLst T Rows (ok_rows_same T))
theorem ok_count (T : Txt K mg) : FnOk P w K mg base CX0 3 T.a_count T.d_count ["_law_row", "_law_rows"] spCount := by
  have G_same : FnOk P w K mg base CX0 2 _ _ _ _ := ok_row_same T
  refine T.F_count.ok sc_count (fun vs H Q E h => ?_) (fun cdv A outer s H vs Q E hr h => ?_)
  · obtain ⟨v, x, r, X, rfl, _⟩ := h
    rfl
  · obtain ⟨v, _, r, X, rfl, hv, ⟨a, us, rfl, ha, hU, lX⟩, q⟩ := h
    refine ⟨_, (pss_one (ps_ret (pe_callB (k_len (K := K)) (by rfl) T.z_len bt_len (pa_cons (pe_lc (own := [("_law_other", 2)]) (g := gName 2) (tt := _) rfl sc_count.nd (k_piL (K := K) (pv 1)) (blkOk_by (own := [("_law_other", 2)]) (N := ["_law_row", "_law_rows", "_law_other"]) (sc := defScope s_count) (by decide +kernel)) (fun _ _ _ _ _ => (pg_name (i := 2) sc_count.nd rfl (.inl rfl))) (fun _ _ _ _ _ => (pts_one (pt_val (pe_call G_same (hr.mono (by first | decide | omega)) (by rfl) T.g_same T.F_same.kp T.b_same .nil pass0 (pa_cons (pv 2) (pa_cons (pv 0) pa_nil)))))) (fun _ _ _ _ _ => (pv 2))) pa_nil)))), ?_⟩
    have lu := hU.len
    walk_at "go0"
    walk_at "go"
    intro D nD
    refine lc_list (K := K) (a := a) (xs := us) (fun i H' => Same H H' ∧ ∃ vs, H' D = some (.lst vs) ∧ vs.length = (X.take i).count r) ⟨Same.new (Same.refl _) nD, [], upd_same, rfl⟩ (fun _ _ _ ⟨sm, _⟩ => SqL.of (sm _ _ ha)) ?_ ?_
    · rintro i u H2 hi ⟨sm, vs, hD, hl⟩
      obtain ⟨xs, hx, hR⟩ := hU.at hi
      have hi2 : i < us.length := (List.getElem?_eq_some_iff.mp hi).1
      have e1 : X.take (i + 1) = X.take i ++ [xs] := by rw [List.take_add_one, hx]; rfl
      have hc : (X.take i).count r ≤ i := Nat.le_trans List.count_le_length (by rw [List.length_take]; omega)
      walk_at "go"
      refine g_wipe rfl ?_
      walk_at "go"
      refine ⟨_, _, xs, r, rfl, rowsMono _ _ _ _ sm hR, rowsMono _ _ _ _ sm hv, ?_⟩
      walk_at "go"
      refine g_dec (fun e => ?_) (fun e => ?_)
      · walk_at "go"
        refine ⟨vs, hD, szlt (by omega), fun b o e => ?_, _, upd_same, ?_⟩
        · rw [upd_ne (ne_of_none e nD)]; exact sm _ _ e
        · rw [e1, count_snoc, if_pos e, List.length_append, hl]; rfl
      · refine ⟨sm, vs, hD, ?_⟩
        rw [e1, count_snoc, if_neg e, hl]; rfl
    rintro H2 ⟨sm, vs, hD, hl⟩
    rw [lu, List.take_length] at hl
    walk_at "go"
    rw [hl]
    exact q _ sm
theorem ok_more (T : Txt K mg) : FnOk P w K mg base CX0 4 T.a_more T.d_more ["_law_old", "_law_new"] spMore := by
  have G_count : FnOk P w K mg base CX0 3 _ _ _ _ := ok_count T
  refine T.F_more.ok sc_more (fun vs H Q E h => ?_) (fun cdv A outer s H vs Q E hr h => ?_)
  · obtain ⟨x, y, X, Y, rfl, _⟩ := h
    rfl
  · obtain ⟨_, _, X, Y, rfl, ⟨a, us, rfl, ha, hU, lX⟩, ⟨b, ws, rfl, hb, hW, lY⟩, q⟩ := h
    refine ⟨_, (pss_cons (ps_set (i := 2) sc_more.nd rfl (.inl rfl) (pe_lst pa_nil))
      (pss_cons (ps_for PassesOwn.never rfl (pi_range1 (by rfl) T.z_range (pa_cons (pe_callB (k_len (K := K)) (by rfl) T.z_len bt_len (pa_cons (pv 1) pa_nil)) pa_nil)) (pg_name (i := 3) sc_more.nd rfl (.inl rfl)) (pss_one (ps_if (pt_cmpR op_ge (pe_call G_count (hr.mono (by first | decide | omega)) (by rfl) T.g_count T.F_count.kp T.b_count .nil pass0 (pa_cons (pe_ix (k_ixL (K := K)) (pv 1) (pv 3) (fun _ _ => rfl)) (pa_cons (pe_slice (k_slL (K := K)) (pv 1) po_none (po_some (pv 3))) pa_nil))) (pe_call G_count (hr.mono (by first | decide | omega)) (by rfl) T.g_count T.F_count.kp T.b_count .nil pass0 (pa_cons (pe_ix (k_ixL (K := K)) (pv 1) (pv 3) (fun _ _ => rfl)) (pa_cons (pv 0) pa_nil))) (nomark _)) (pss_one (ps_expr (pe_bm PySem.F.plainAttrs_list PySem.F.slot_list_append PySem.F.type_list_append mt_append (pv 2) (pa_cons (pe_ix (k_ixL (K := K)) (pv 1) (pv 3) (fun _ _ => rfl)) pa_nil)))) pss_nil)))
      (pss_one (ps_ret (pv 2))))), ?_⟩
    have lu := hU.len
    have lw := hW.len
    walk_at "go0"
    walk_at "go"
    intro g ng
    have s1 : Same H (upd H g (.lst [])) := Same.new (Same.refl _) ng
    have hg1 : (upd H g (.lst [])) g = some (.lst []) := upd_same
    generalize upd H g (.lst []) = H1 at s1 hg1 ⊢
    have hb1 := s1 _ _ hb
    walk_at "go"
    refine g_forR (lo := 0) (fun i σ' H' => ∃ y3 gs, σ' = [some (.ref a), some (.ref b), some (.ref g), y3] ∧ Same H H' ∧ H' g = some (.lst gs) ∧ AllR (Row H') gs (moreN X Y i)) ⟨none, [], rfl, s1, hg1, trivial⟩ ?_ ?_
    · rintro i σ' H' hi ⟨y3, gs, rfl, sm, hg, hG⟩
      have hi2 : i < ws.length := by omega
      have hw := List.getElem?_eq_getElem hi2
      obtain ⟨xs, hx, hR⟩ := hW.at hw
      have g1 : atI ws (0 + (i : Int)) = some ws[i] := at_of (j := i) (by omega) hw
      have hb' := sm _ _ hb
      have ml := moreN_len X Y i
      have gl := hG.len
      have em : moreN X Y (i + 1) = moreN X Y i ++ if X.count xs ≤ (Y.take i).count xs then [xs] else [] := by
        show moreN X Y i ++ (match Y[i]? with | some y => if X.count y ≤ (Y.take i).count y then [y] else [] | none => []) = _
        rw [hx]
      generalize ws[i] = v at hw hR g1
      walk_at "go"
      intro c nc
      rw [cut_take _ _ (by omega), show (0 + (i : Int)).toNat = i by omega]
      have s2 : Same H' (upd H' c (.lst (ws.take i))) := Same.new (Same.refl _) nc
      have hc2 : (upd H' c (.lst (ws.take i))) c = some (.lst (ws.take i)) := upd_same
      generalize upd H' c (.lst (ws.take i)) = H2 at s2 hc2 ⊢
      have s02 := sm.trans s2
      walk_at "go"
      refine ⟨v, .ref c, xs, Y.take i, rfl, rowsMono _ _ _ _ s02 hR, ⟨c, _, rfl, hc2, (hW.take i).imp fun v a => rowsMono _ _ v a s02, by rw [List.length_take]; omega⟩, fun H3 s3 => ?_⟩
      have s03 := s02.trans s3
      have hb3 := s03 _ _ hb
      walk_at "go"
      refine ⟨v, .ref a, xs, X, rfl, rowsMono _ _ _ _ s03 hR, ⟨a, us, rfl, s03 _ _ ha, hU.imp fun v a => rowsMono _ _ v a s03, lX⟩, fun H4 s4 => ?_⟩
      have s04 := s03.trans s4
      have s24 := (s2.trans s3).trans s4
      have hg4 := s24 _ _ hg
      have hb4 := s04 _ _ hb
      have hG4 := hG.imp fun v a => rowsMono H' H4 v a s24
      walk_at "go"
      refine g_dec (fun e => ?_) (fun e => ?_)
      · have e' : X.count xs ≤ (Y.take i).count xs := by omega
        walk_at "go"
        refine g_append hg4 (szlt (by omega)) ?_
        walk_at "go"
        have kp : ∀ b ys, H4 b = some (.tup ys) → (upd H4 g (.lst (gs ++ [v]))) b = some (.tup ys) := fun b ys e => by rw [upd_ne (ne_of e hg4 (fun z => nomatch z))]; exact e
        refine ⟨_, gs ++ [v], rfl, fun b o e => ?_, upd_same, ?_⟩
        · rw [upd_ne (ne_of_none e ng)]; exact s04 _ _ e
        · rw [em, if_pos e']
          exact (hG4.imp fun v a => Row.keep kp).snoc (Row.keep kp (rowsMono _ _ _ _ s04 hR))
      · have e' : ¬ X.count xs ≤ (Y.take i).count xs := by omega
        walk_at "go"
        refine ⟨_, gs, rfl, s04, hg4, ?_⟩
        rw [em, if_neg e', List.append_nil]
        exact hG4
    · rintro σ' H' ⟨y3, gs, rfl, sm, hg, hG⟩
      rw [show ((ws.length : Int)).toNat = Y.length by omega] at hG
      have ml := moreN_len X Y Y.length
      walk_at "go"
      exact q _ g sm ng ⟨g, gs, rfl, hg, hG, by show (moreN X Y Y.length).length ≤ 1000; omega⟩
theorem ok_drawn_row (T : Txt K mg) : FnOk P w K mg base CX0 3 T.a_drawn_row T.d_drawn_row ["_law_state", "_law_width"] (spDrawn K) := by
  have G_next : FnOk P w K mg base CX0 1 _ _ _ _ := ok_next T
  have G_value : FnOk P w K mg base CX0 2 _ _ _ _ := ok_value T
  refine T.F_drawn_row.ok sc_drawn_row (fun vs H Q E h => ?_) (fun cdv A outer s H vs Q E hr h => ?_)
  · obtain ⟨s, a, ns, n, rfl, _⟩ := h
    rfl
  · obtain ⟨p, a, ns, n, rfl, S, n0, n10, q⟩ := h
    refine ⟨_, (pss_one (ps_ret (pe_callTy (k_tuple (K := K)) (by rfl) T.z_tuple bt_tuple (pa_cons (pe_lc (own := [("_law_k", 2)]) (g := gName 2) (tt := tYes) rfl sc_drawn_row.nd (pi_range1 (by rfl) T.z_range (pa_cons (pv 1) pa_nil)) (blkOk_by (own := [("_law_k", 2)]) (N := ["_law_state", "_law_width", "_law_k"]) (sc := defScope s_drawn_row) (by decide +kernel)) (fun _ _ _ _ _ => (pg_name (i := 2) sc_drawn_row.nd rfl (.inl rfl))) (fun _ _ _ _ _ => pts_nil) (fun _ _ _ _ _ => (pe_call G_value (hr.mono (by first | decide | omega)) (by rfl) T.g_value T.F_value.kp T.b_value .nil pass0 (pa_cons (pv 0) (pa_cons (pe_ix (k_ixL (K := K)) (pe_lst (pa_cons pe_str (pa_cons pe_str (pa_cons pe_str pa_nil)))) (pe_call G_next (hr.mono (by first | decide | omega)) (by rfl) T.g_next T.F_next.kp T.b_next .nil pass0 (pa_cons (pv 0) (pa_cons pe_int pa_nil))) (fun _ _ => rfl)) pa_nil))))) pa_nil)))), ?_⟩
    walk_at "go0"
    walk_at "go"
    intro D nD
    have nDp := S.nes nD
    have nDa := S.nea nD
    refine lc_range (lo := 0) (n := n.toNat) (fun i H' => StAt K H' p a ns ∧ But p H H' ∧ ∃ xs : List V, H' D = some (.lst xs) ∧ xs.length = i ∧ xs.all flatV = true)
      ⟨S.new nD, (But.refl p H).new nD, [], upd_same, rfl, rfl⟩ ?_ ?_
    · rintro i H3 hi ⟨S3, b3, xs, hD, hl, hf⟩
      walk_at "go"
      refine g_wipe rfl ?_
      walk_at "go"
      intro l nl
      have S4 := S3.new (o := .lst [.str "integer", .str "text", .str "boolean"]) nl
      have b4 := b3.new (o := .lst [.str "integer", .str "text", .str "boolean"]) nl
      have hl4 : (upd H3 l (.lst [.str "integer", .str "text", .str "boolean"])) l = some (.lst [.str "integer", .str "text", .str "boolean"]) := upd_same
      have nlp := S3.nes nl
      have hD4 : (upd H3 l (.lst [.str "integer", .str "text", .str "boolean"])) D = some (.lst xs) := (upd_ne (ne_of_none hD nl)).trans hD
      generalize upd H3 l (.lst [.str "integer", .str "text", .str "boolean"]) = H4 at S4 b4 hl4 hD4 ⊢
      walk_at "go"
      refine ⟨p, a, ns, 3, rfl, S4, by decide, by decide, fun i' v r y k h0 h1 => ?_⟩
      have S5 := S4.upd k
      have b5 : But p H (upd H4 p (StO a i' v r)) := b4.upd
      have hl5 : (upd H4 p (StO a i' v r)) l = some (.lst [.str "integer", .str "text", .str "boolean"]) := (upd_ne nlp).trans hl4
      have hD5 : (upd H4 p (StO a i' v r)) D = some (.lst xs) := (upd_ne nDp).trans hD4
      generalize upd H4 p (StO a i' v r) = H5 at S5 b5 hl5 hD5
      obtain e | e | e : y = 0 ∨ y = 1 ∨ y = 2 := by omega
      all_goals
        subst e
        walk_at "go"
        refine ⟨p, a, ns, _, rfl, S5, fun H6 v hv S6 b6 => ?_⟩
        have hD6 := b6 _ _ hD5 nDp
        refine ⟨xs, hD6, szlt (by omega), S6.put nDp nDa, (b5.trans b6).put (But.free (But.refl p H) nDp nD), xs ++ [v], upd_same, by rw [List.length_append, hl]; rfl, ?_⟩
        rw [List.all_append, hf, List.all_cons, hv.flat]; rfl
    rintro H3 ⟨S3, b3, xs, hD, hl, hf⟩
    walk_at "go"
    refine g_tupL (.inl (.inl hD)) fun t nt => ?_
    walk_at "go"
    exact q _ _ xs (Row.mk upd_same hf (by omega)) (S3.new nt) (b3.new nt)
theorem ok_balanced (T : Txt K mg) : FnOk P w K mg base CX0 4 T.a_balanced T.d_balanced ["_law_old", "_law_new", "_law_more_here", "_law_fewer"] spBalanced := by
  have G_count : FnOk P w K mg base CX0 3 _ _ _ _ := ok_count T
  refine T.F_balanced.ok sc_balanced (fun vs H Q E h => ?_) (fun cdv A outer s H vs Q E hr h => ?_)
  · obtain ⟨x, y, m, f, X, Y, M, F, rfl, _⟩ := h
    rfl
  · obtain ⟨x, y, m, f, X, Y, M, F, rfl, hX, hY, hM, hF, hl, hs, hn, q⟩ := h
    refine ⟨_, (pss_cons (ps_for PassesOwn.never rfl (k_piL (K := K) (pe_op op_cat (pv 0) (pv 1))) (pg_name (i := 4) sc_balanced.nd rfl (.inl rfl)) (pss_cons (ps_if (pt_cmpR op_ne (pe_op op_add (pe_call G_count (hr.mono (by first | decide | omega)) (by rfl) T.g_count T.F_count.kp T.b_count .nil pass0 (pa_cons (pv 4) (pa_cons (pv 0) pa_nil))) (pe_call G_count (hr.mono (by first | decide | omega)) (by rfl) T.g_count T.F_count.kp T.b_count .nil pass0 (pa_cons (pv 4) (pa_cons (pv 2) pa_nil)))) (pe_op op_add (pe_call G_count (hr.mono (by first | decide | omega)) (by rfl) T.g_count T.F_count.kp T.b_count .nil pass0 (pa_cons (pv 4) (pa_cons (pv 1) pa_nil))) (pe_call G_count (hr.mono (by first | decide | omega)) (by rfl) T.g_count T.F_count.kp T.b_count .nil pass0 (pa_cons (pv 4) (pa_cons (pv 3) pa_nil)))) (nomark _)) (pss_one (ps_ret pe_bl)) pss_nil)
      (pss_one (ps_if (PW.pt (pw_and (pt_cmpR op_gt (pe_call G_count (hr.mono (by first | decide | omega)) (by rfl) T.g_count T.F_count.kp T.b_count .nil pass0 (pa_cons (pv 4) (pa_cons (pv 2) pa_nil))) pe_int (nomark _)) (pw_and1 (pt_cmpR op_gt (pe_call G_count (hr.mono (by first | decide | omega)) (by rfl) T.g_count T.F_count.kp T.b_count .nil pass0 (pa_cons (pv 4) (pa_cons (pv 3) pa_nil))) pe_int (nomark _))))) (pss_one (ps_ret pe_bl)) pss_nil))))
      (pss_one (ps_ret pe_bl))), ?_⟩
    have mono : ∀ {H' : Hp} {v : V} {Z : List Rw}, Same H H' → Rows H v Z → Rows H' v Z := fun s h => LstR.stays rowsMono _ _ _ _ s h
    have hX' := hX
    have hY' := hY
    obtain ⟨a, us, rfl, ha, hU, lX⟩ := hX
    obtain ⟨b, ws, rfl, hb, hW, lY⟩ := hY
    have lu := hU.len
    have lw := hW.len
    walk_at "go0"
    walk_at "go"
    refine ⟨a, b, us, ws, rfl, rfl, ha, hb, sz (by omega), fun c nc => ?_⟩
    have s1 : Same H (upd H c (.lst (us ++ ws))) := Same.new (Same.refl _) nc
    have hc1 : (upd H c (.lst (us ++ ws))) c = some (.lst (us ++ ws)) := upd_same
    generalize upd H c (.lst (us ++ ws)) = H1 at s1 hc1 ⊢
    have hA := AllR.app hW hU
    walk_at "go"
    refine g_forL (xs := us ++ ws) (fun i σ' H' => ∃ y4, σ' = [some (.ref a), some (.ref b), some m, some f, y4] ∧ Same H H' ∧ H' c = some (.lst (us ++ ws))) ⟨none, rfl, s1, hc1⟩ (fun _ _ _ _ ⟨_, _, _, h⟩ => SqL.of h) ?_ ?_
    · rintro i v σ' H2 hi ⟨y4, rfl, s2, hc2⟩
      obtain ⟨r, hr', hR⟩ := hA.at hi
      walk_at "go"
      refine ⟨v, _, r, X, rfl, rowsMono _ _ _ _ s2 hR, mono s2 hX', fun H3 s3 => ?_⟩
      have s03 := s2.trans s3
      walk_at "go"
      refine ⟨v, _, r, M, rfl, rowsMono _ _ _ _ s03 hR, mono s03 hM, fun H4 s4 => ?_⟩
      have s04 := s03.trans s4
      walk_at "go"
      refine ⟨v, _, r, Y, rfl, rowsMono _ _ _ _ s04 hR, mono s04 hY', fun H5 s5 => ?_⟩
      have s05 := s04.trans s5
      walk_at "go"
      refine ⟨v, _, r, F, rfl, rowsMono _ _ _ _ s05 hR, mono s05 hF, fun H6 s6 => ?_⟩
      have s06 := s05.trans s6
      have h1 := hs r
      have h2 := hn r
      walk_at "go"
      refine g_ndecF (by omega) ?_
      walk_at "go"
      refine ⟨v, _, r, M, rfl, rowsMono _ _ _ _ s06 hR, mono s06 hM, fun H7 s7 => ?_⟩
      have s07 := s06.trans s7
      have s27 := (((s3.trans s4).trans s5).trans s6).trans s7
      walk_at "go"
      refine g_dec (fun e => ?_) (fun e => ?_)
      · walk_at "go"
        refine ⟨v, _, r, F, rfl, rowsMono _ _ _ _ s07 hR, mono s07 hF, fun H8 s8 => ?_⟩
        walk_at "go"
        refine g_decF (by omega) ?_
        walk_at "go"
        exact ⟨_, rfl, s07.trans s8, (s27.trans s8) _ _ hc2⟩
      · walk_at "go"
        exact ⟨_, rfl, s07, s27 _ _ hc2⟩
    · rintro σ' H2 ⟨y4, rfl, s2, hc2⟩
      walk_at "go"
      exact q _ s2
theorem ok_turned (T : Txt K mg) : FnOk P w K mg base CX0 2 T.a_turned T.d_turned ["_law_state", "_law_old"] (spTurned K) := by
  have G_next : FnOk P w K mg base CX0 1 _ _ _ _ := ok_next T
  refine T.F_turned.ok sc_turned (fun vs H Q E h => ?_) (fun cdv A outer s H vs Q E hr h => ?_)
  · obtain ⟨s, a, ns, x, X, rfl, _⟩ := h
    rfl
  · obtain ⟨p, a, ns, x, X, rfl, S, hX, lX, q⟩ := h
    refine ⟨_, (pss_cons (ps_set (i := 2) sc_turned.nd rfl (.inl rfl) (pe_lst pa_nil))
      (pss_cons (ps_for PassesOwn.never rfl (k_piL (K := K) (pv 1)) (pg_name (i := 3) sc_turned.nd rfl (.inl rfl)) (pss_one (ps_for PassesOwn.never rfl (pi_range1 (by rfl) T.z_range (pa_cons (pe_ix (k_ixL (K := K)) (pe_lst (pa_cons pe_int (pa_cons pe_int (pa_cons pe_int (pa_cons pe_int pa_nil))))) (pe_call G_next (hr.mono (by first | decide | omega)) (by rfl) T.g_next T.F_next.kp T.b_next .nil pass0 (pa_cons (pv 0) (pa_cons pe_int pa_nil))) (fun _ _ => rfl)) pa_nil)) (pg_name (i := 4) sc_turned.nd rfl (.inl rfl)) (pss_one (ps_expr (pe_bm PySem.F.plainAttrs_list PySem.F.slot_list_insert PySem.F.type_list_insert mt_insert (pv 2) (pa_cons (pe_call G_next (hr.mono (by first | decide | omega)) (by rfl) T.g_next T.F_next.kp T.b_next .nil pass0 (pa_cons (pv 0) (pa_cons (pe_op op_add (pe_callB (k_len (K := K)) (by rfl) T.z_len bt_len (pa_cons (pv 2) pa_nil)) pe_int) pa_nil))) (pa_cons (pv 3) pa_nil))))))))
      (pss_one (ps_ret (pv 2))))), ?_⟩
    obtain ⟨b, us, rfl, hb, hU, _⟩ := hX
    have lu := hU.len
    have nbp : b ≠ p := by
      obtain ⟨i, v, r, hs, _⟩ := S.st
      exact rows_ne ⟨b, us, rfl, hb, hU, by omega⟩ hs
    walk_at "go0"
    walk_at "go"
    intro g ng
    have ngp := S.nes ng
    have nga := S.nea ng
    have S1 := S.new (o := .lst []) ng
    have b1 := (But.refl p H).new (o := .lst []) ng
    have hg1 : (upd H g (.lst [])) g = some (.lst []) := upd_same
    generalize upd H g (.lst []) = H1 at S1 b1 hg1 ⊢
    have hb1 := b1 _ _ hb nbp
    walk_at "go"
    refine g_forL (xs := us) (fun i σ' H' => ∃ y3 y4 gs Z, σ' = [some (.ref p), some (.ref b), some (.ref g), y3, y4] ∧ StAt K H' p a ns ∧ But p H H' ∧ H' g = some (.lst gs) ∧ AllR (Row H') gs Z ∧ Z.length ≤ 2 * i) ⟨none, none, [], [], rfl, S1, b1, hg1, trivial, Nat.le_refl _⟩ (fun _ _ _ _ ⟨_, _, _, _, _, _, h, _⟩ => SqL.of (h _ _ hb nbp)) ?_ ?_
    · rintro i v σ' H2 hi ⟨y3, y4, gs, Z, rfl, S2, b2, hg2, hG, hZ⟩
      obtain ⟨xs, hx, hR⟩ := hU.at hi
      have hi2 : i < us.length := (List.getElem?_eq_some_iff.mp hi).1
      walk_at "go"
      intro l nl
      have nlp := S2.nes nl
      have nlg : g ≠ l := ne_of_none hg2 nl
      have S3 := S2.new (o := .lst [.int 1, .int 1, .int 2, .int 0]) nl
      have b3 := b2.new (o := .lst [.int 1, .int 1, .int 2, .int 0]) nl
      have hl3 : (upd H2 l (.lst [.int 1, .int 1, .int 2, .int 0])) l = some (.lst [.int 1, .int 1, .int 2, .int 0]) := upd_same
      have hg3 : (upd H2 l (.lst [.int 1, .int 1, .int 2, .int 0])) g = some (.lst gs) := (upd_ne nlg).trans hg2
      have hG3 : AllR (Row (upd H2 l (.lst [.int 1, .int 1, .int 2, .int 0]))) gs Z := hG.imp fun v a => rowsMono _ _ v a (Same.new (Same.refl _) nl)
      generalize upd H2 l (.lst [.int 1, .int 1, .int 2, .int 0]) = H3 at S3 b3 hl3 hg3 hG3 ⊢
      walk_at "go"
      refine ⟨p, a, ns, 4, rfl, S3, by decide, by decide, fun i' w r y k h0 h1 => ?_⟩
      have S4 := S3.upd k
      have b4 : But p H (upd H3 p (StO a i' w r)) := b3.upd
      have hl4 : (upd H3 p (StO a i' w r)) l = some (.lst [.int 1, .int 1, .int 2, .int 0]) := (upd_ne nlp).trans hl3
      have hg4 : (upd H3 p (StO a i' w r)) g = some (.lst gs) := (upd_ne ngp).trans hg3
      have hG4 : AllR (Row (upd H3 p (StO a i' w r))) gs Z := all_but S3 ((But.refl p H3).upd) hG3
      generalize upd H3 p (StO a i' w r) = H4 at S4 b4 hl4 hg4 hG4
      obtain e | e | e | e : y = 0 ∨ y = 1 ∨ y = 2 ∨ y = 3 := by omega
      all_goals
        subst e
        walk_at "go"
        refine g_forR (lo := 0) (fun j σ' H' => ∃ y4 gs Z, σ' = [some (.ref p), some (.ref b), some (.ref g), some v, y4] ∧ StAt K H' p a ns ∧ But p H H' ∧ H' g = some (.lst gs) ∧ AllR (Row H') gs Z ∧ Z.length ≤ 2 * i + j) ⟨_, gs, Z, rfl, S4, b4, hg4, hG4, by omega⟩ ?_ ?_
        · rintro j σ' H5 hj ⟨y4, gs, Z, rfl, S5, b5, hg5, hG5, hZ5⟩
          have hj2 : j < 2 := Nat.lt_of_lt_of_le hj (by decide)
          have gl := hG5.len
          walk_at "go"
          refine ⟨p, a, ns, _, rfl, S5, by omega, by omega, fun i' w r u k h0 h1 => ?_⟩
          have S6 := S5.upd k
          have b6 : But p H (upd H5 p (StO a i' w r)) := b5.upd
          have hg6 : (upd H5 p (StO a i' w r)) g = some (.lst gs) := (upd_ne ngp).trans hg5
          have hG6 : AllR (Row (upd H5 p (StO a i' w r))) gs Z := all_but S5 ((But.refl p H5).upd) hG5
          generalize upd H5 p (StO a i' w r) = H6 at S6 b6 hg6 hG6
          walk_at "go"
          refine ⟨g, gs, u, v, rfl, rfl, hg6, szlt (by omega), h0, by omega, ?_⟩
          walk_at "go"
          have kp : ∀ b ys, H6 b = some (.tup ys) → (upd H6 g (.lst (gs.take u.toNat ++ [v] ++ gs.drop u.toNat))) b = some (.tup ys) := fun b ys e => by rw [upd_ne (ne_of e hg6 (fun z => nomatch z))]; exact e
          have hv6 : Row H6 v xs := by
            obtain ⟨i, v, r, hs, _⟩ := S.st
            exact Row.keep (fun c ys e => b6 _ _ e fun z => by rw [z, hs] at e; cases e) hR
          refine ⟨_, _, Z.take u.toNat ++ [xs] ++ Z.drop u.toNat, rfl, S6.put ngp nga, b6.put (But.free (But.refl p H) ngp ng), upd_same, ?_, ?_⟩
          · exact AllR.app ((hG6.drop u.toNat).imp fun v a => Row.keep kp) (((hG6.take u.toNat).imp fun v a => Row.keep kp).snoc (Row.keep kp hv6))
          · rw [List.length_append, List.length_append, List.length_take, List.length_drop]
            show _ + 1 + _ ≤ _
            omega
        · rintro σ' H5 ⟨y4, gs, Z, rfl, S5, b5, hg5, hG5, hZ5⟩
          walk_at "go"
          refine ⟨_, _, gs, Z, rfl, S5, b5, hg5, hG5, Nat.le_trans hZ5 ?_⟩
          exact Nat.add_le_add_left (by decide) (2 * i)
    · rintro σ' H2 ⟨y3, y4, gs, Z, rfl, S2, b2, hg2, hG, hZ⟩
      walk_at "go"
      exact q _ g Z ⟨g, gs, rfl, hg2, hG, by omega⟩ (by omega) S2 b2 ng
def spLaw (K : PySem.W.Frag) : Sp := fun vs H Q _ => ∃ (a : Addr) (ns : List Int), vs = [.ref a] ∧ SqL K H a (ns.map V.int) ∧ ns.length ≤ 63 ∧ ∀ H', Q (.bl true) H'
theorem ok_law (T : Txt K mg) : FnOk P w K mg base CX0 5 T.a_law T.d_law ["_law_script"] (spLaw K) := by
  have G_next : FnOk P w K mg base CX0 1 _ _ _ _ := ok_next T
  have G_drawn_row : FnOk P w K mg base CX0 3 _ _ _ _ := ok_drawn_row T
  have G_turned : FnOk P w K mg base CX0 2 _ _ _ _ := ok_turned T
  have G_came : FnOk P w K mg base CX0 3 _ _ _ _ := ok_came T
  have G_went : FnOk P w K mg base CX0 4 _ _ _ _ := ok_went T
  have G_more : FnOk P w K mg base CX0 4 _ _ _ _ := ok_more T
  have G_balanced : FnOk P w K mg base CX0 4 _ _ _ _ := ok_balanced T
  have G_same : FnOk P w K mg base CX0 4 _ _ _ _ := ok_all_same T
  refine T.F_law.ok sc_law (fun vs H Q E h => ?_) (fun cdv A outer s H vs Q E hr h => ?_)
  · obtain ⟨a, ns, rfl, _⟩ := h
    rfl
  · obtain ⟨a, ns, rfl, hS, hlen, q⟩ := h
    refine ⟨_, (pss_cons (ps_set (i := 1) sc_law.nd rfl (.inr rfl) (pe_lst (pa_cons (pe_callTy (k_list (K := K)) (by rfl) T.z_list bt_list (pa_cons (pv 0) pa_nil)) (pa_cons pe_int (pa_cons pe_int (pa_cons pe_int pa_nil))))))
      (pss_cons (ps_set (i := 2) sc_law.nd rfl (.inr rfl) (pe_call G_next (hr.mono (by first | decide | omega)) (by rfl) T.g_next T.F_next.kp T.b_next .nil pass0 (pa_cons (pv 1) (pa_cons pe_int pa_nil))))
      (pss_cons (ps_setLc (i := 3) (own := [("_law_k", 8)]) (g := gName 8) (tt := tYes) rfl sc_law.nd rfl rfl (sw_true rfl rfl rfl (by decide +kernel)) (pi_range1 (by rfl) T.z_range (pa_cons (pe_call G_next (hr.mono (by first | decide | omega)) (by rfl) T.g_next T.F_next.kp T.b_next .nil pass0 (pa_cons (pv 1) (pa_cons pe_int pa_nil))) pa_nil)) (blkOk_by (own := [("_law_k", 8)]) (N := ["_law_script", "_law_state", "_law_width", "_law_old", "_law_new", "_law_passed", "_law_more_here", "_law_fewer", "_law_k"]) (sc := defScope s_law) (by decide +kernel)) (fun _ _ _ _ _ => (pg_name (i := 8) sc_law.nd rfl (.inl rfl))) (fun _ _ _ _ _ => pts_nil) (fun _ _ _ _ _ => (pe_call G_drawn_row (hr.mono (by first | decide | omega)) (by rfl) T.g_drawn_row T.F_drawn_row.kp T.b_drawn_row .nil pass0 (pa_cons (pv 1) (pa_cons (pv 2) pa_nil)))))
      (pss_cons (ps_setLc (i := 4) (own := [("_law_k", 8)]) (g := gName 8) (tt := tYes) rfl sc_law.nd rfl rfl (sw_true rfl rfl rfl (by decide +kernel)) (pi_range1 (by rfl) T.z_range (pa_cons (pe_call G_next (hr.mono (by first | decide | omega)) (by rfl) T.g_next T.F_next.kp T.b_next .nil pass0 (pa_cons (pv 1) (pa_cons pe_int pa_nil))) pa_nil)) (blkOk_by (own := [("_law_k", 8)]) (N := ["_law_script", "_law_state", "_law_width", "_law_old", "_law_new", "_law_passed", "_law_more_here", "_law_fewer", "_law_k"]) (sc := defScope s_law) (by decide +kernel)) (fun _ _ _ _ _ => (pg_name (i := 8) sc_law.nd rfl (.inl rfl))) (fun _ _ _ _ _ => pts_nil) (fun _ _ _ _ _ => (pe_call G_drawn_row (hr.mono (by first | decide | omega)) (by rfl) T.g_drawn_row T.F_drawn_row.kp T.b_drawn_row .nil pass0 (pa_cons (pv 1) (pa_cons (pv 2) pa_nil)))))
      (C8.pss_cut (ps_if (pt_cmpR op_eq (pe_call G_next (hr.mono (by first | decide | omega)) (by rfl) T.g_next T.F_next.kp T.b_next .nil pass0 (pa_cons (pv 1) (pa_cons pe_int pa_nil))) pe_int (nomark _)) (pss_one (ps_set (i := 4) sc_law.nd rfl (.inl rfl) (pe_op op_cat (pe_call G_turned (hr.mono (by first | decide | omega)) (by rfl) T.g_turned T.F_turned.kp T.b_turned .nil pass0 (pa_cons (pv 1) (pa_cons (pv 3) pa_nil))) (pe_slice (k_slL (K := K)) (pv 4) po_none (po_some pe_int))))) pss_nil)
      (pss_cons (ps_set (i := 5) sc_law.nd rfl (.inl rfl) (pe_lst (pa_cons (pe_callTy (k_list (K := K)) (by rfl) T.z_list bt_list (pa_cons (pv 3) pa_nil)) (pa_cons (pe_callTy (k_list (K := K)) (by rfl) T.z_list bt_list (pa_cons (pv 4) pa_nil)) pa_nil))))
      (pss_cons (ps_set (i := 6) sc_law.nd rfl (.inl rfl) (pe_call G_came (hr.mono (by first | decide | omega)) (by rfl) T.g_came T.F_came.kp T.b_came .nil pass0 (pa_cons (pe_ix (k_ixL (K := K)) (pv 5) pe_int (fun _ _ => rfl)) (pa_cons (pe_ix (k_ixL (K := K)) (pv 5) pe_int (fun _ _ => rfl)) pa_nil))))
      (pss_cons (ps_set (i := 7) sc_law.nd rfl (.inl rfl) (pe_call G_went (hr.mono (by first | decide | omega)) (by rfl) T.g_went T.F_went.kp T.b_went .nil pass0 (pa_cons (pe_ix (k_ixL (K := K)) (pv 5) pe_int (fun _ _ => rfl)) (pa_cons (pe_ix (k_ixL (K := K)) (pv 5) pe_int (fun _ _ => rfl)) pa_nil))))
      (pss_cons (ps_if (PW.pt (pw_or (pt_not (pt_val (pe_call G_same (hr.mono (by first | decide | omega)) (by rfl) T.g_same T.F_same.kp T.b_same .nil pass0 (pa_cons (pv 6) (pa_cons (pe_call G_more (hr.mono (by first | decide | omega)) (by rfl) T.g_more T.F_more.kp T.b_more .nil pass0 (pa_cons (pv 3) (pa_cons (pv 4) pa_nil))) pa_nil))))) (pw_or1 (pt_not (pt_val (pe_call G_same (hr.mono (by first | decide | omega)) (by rfl) T.g_same T.F_same.kp T.b_same .nil pass0 (pa_cons (pv 7) (pa_cons (pe_call G_more (hr.mono (by first | decide | omega)) (by rfl) T.g_more T.F_more.kp T.b_more .nil pass0 (pa_cons (pv 4) (pa_cons (pv 3) pa_nil))) pa_nil)))))))) (pss_one (ps_ret pe_bl)) pss_nil)
      (pss_cons (ps_if (pt_not (pt_val (pe_call G_balanced (hr.mono (by first | decide | omega)) (by rfl) T.g_balanced T.F_balanced.kp T.b_balanced .nil pass0 (pa_cons (pv 3) (pa_cons (pv 4) (pa_cons (pv 6) (pa_cons (pv 7) pa_nil))))))) (pss_one (ps_ret pe_bl)) pss_nil)
      (pss_cons (ps_expr (pe_bm PySem.F.plainAttrs_list PySem.F.slot_list_append PySem.F.type_list_append mt_append (pv 6) (pa_cons (pe_tup (pa_cons pe_str pa_nil)) pa_nil)))
      (pss_cons (ps_expr (pe_bm PySem.F.plainAttrs_list PySem.F.slot_list_append PySem.F.type_list_append mt_append (pv 7) (pa_cons (pe_tup (pa_cons pe_str pa_nil)) pa_nil)))
      (pss_cons (ps_if (pt_not (pt_val (pe_call G_same (hr.mono (by first | decide | omega)) (by rfl) T.g_same T.F_same.kp T.b_same .nil pass0 (pa_cons (pv 5) (pa_cons (pe_lst (pa_cons (pv 3) (pa_cons (pv 4) pa_nil))) pa_nil))))) (pss_one (ps_ret pe_bl)) pss_nil)
      (pss_one (ps_ret (pe_and (pe_call G_same (hr.mono (by first | decide | omega)) (by rfl) T.g_same T.F_same.kp T.b_same .nil pass0 (pa_cons (pe_call G_came (hr.mono (by first | decide | omega)) (by rfl) T.g_came T.F_came.kp T.b_came .nil pass0 (pa_cons (pe_ix (k_ixL (K := K)) (pv 5) pe_int (fun _ _ => rfl)) (pa_cons (pe_ix (k_ixL (K := K)) (pv 5) pe_int (fun _ _ => rfl)) pa_nil))) (pa_cons (pe_call G_more (hr.mono (by first | decide | omega)) (by rfl) T.g_more T.F_more.kp T.b_more .nil pass0 (pa_cons (pv 3) (pa_cons (pv 4) pa_nil))) pa_nil))) (pe_one (pe_call G_same (hr.mono (by first | decide | omega)) (by rfl) T.g_same T.F_same.kp T.b_same .nil pass0 (pa_cons (pe_call G_went (hr.mono (by first | decide | omega)) (by rfl) T.g_went T.F_went.kp T.b_went .nil pass0 (pa_cons (pv 3) (pa_cons (pv 4) pa_nil))) (pa_cons (pe_call G_more (hr.mono (by first | decide | omega)) (by rfl) T.g_more T.F_more.kp T.b_more .nil pass0 (pa_cons (pv 4) (pa_cons (pv 3) pa_nil))) pa_nil)))))))))))))))))))), ?_⟩
    walk_at "go0"
    walk_at "go"
    intro l nl
    walk_at "go"
    intro p np
    have npl : l ≠ p := fun e => by rw [e, upd_same] at np; cases np
    have S : StAt K (upd (upd H l (.lst (ns.map V.int))) p (.lst [.ref l, .int 0, .int 0, .int 1])) p l ns := ⟨⟨0, 0, 1, upd_same, by decide⟩, (upd_ne npl).trans upd_same, hlen, npl⟩
    generalize upd (upd H l (.lst (ns.map V.int))) p (.lst [.ref l, .int 0, .int 0, .int 1]) = H1 at S ⊢
    walk_at "go"
    refine ⟨p, l, ns, 3, rfl, S, by decide, by decide, fun i v r wd k w0 w1 => ?_⟩
    have S1 := S.upd k
    generalize upd H1 p (StO l i v r) = H2 at S1 ⊢
    walk_at "go"
    refine ⟨p, l, ns, 10, rfl, S1, by decide, by decide, fun i v r x k h0 h1 => ?_⟩
    have S2 := S1.upd k
    generalize upd H2 p (StO l i v r) = H3 at S2 ⊢
    walk_at "go"
    intro D nD
    have nDp := S2.nes nD
    have nDa := S2.nea nD
    refine lc_range (lo := 0) (n := x.toNat) (fun i H' => StAt K H' p l ns ∧ ∃ vs X, H' D = some (.lst vs) ∧ AllR (Row H') vs X ∧ X.length = i)
      ⟨S2.new nD, [], [], upd_same, trivial, rfl⟩ ?_ ?_
    · rintro i H4 hi ⟨S4, vs, X, hD, hX, hl⟩
      walk_at "go"
      refine g_wipe rfl ?_
      walk_at "go"
      refine ⟨p, l, ns, _, rfl, S4, w0, by omega, fun H5 v r hv S5 b5 => ?_⟩
      have hD5 := b5 _ _ hD nDp
      have lv := hX.len
      have kp : ∀ b ys, H5 b = some (.tup ys) → (upd H5 D (.lst (vs ++ [v]))) b = some (.tup ys) := fun b ys e => by rw [upd_ne (ne_of e hD5 (fun z => nomatch z))]; exact e
      refine ⟨vs, hD5, szlt (by omega), S5.put nDp nDa, vs ++ [v], X ++ [r], upd_same, ?_, by rw [List.length_append, hl]; rfl⟩
      exact ((all_but S4 b5 hX).imp fun v a => Row.keep kp).snoc (Row.keep kp hv)
    rintro H4 ⟨S4, vs, X, hD, hX, hlX⟩
    have RX : Rows H4 (.ref D) X := ⟨D, vs, rfl, hD, hX, by omega⟩
    walk_at "go"
    refine ⟨p, l, ns, 10, rfl, S4, by decide, by decide, fun i v r y k h0' h1' => ?_⟩
    have S5 := S4.upd k
    have RX5 : Rows (upd H4 p (StO l i v r)) (.ref D) X := rows_but S4 ((But.refl p H4).upd) RX
    clear RX hX hD vs
    generalize upd H4 p (StO l i v r) = H5 at S5 RX5 ⊢
    walk_at "go"
    intro D' nD'
    have nDp' := S5.nes nD'
    have nDa' := S5.nea nD'
    refine lc_range (lo := 0) (n := y.toNat) (fun i H' => StAt K H' p l ns ∧ Rows H' (.ref D) X ∧ ∃ vs Y, H' D' = some (.lst vs) ∧ AllR (Row H') vs Y ∧ Y.length = i)
      ⟨S5.new nD', LstR.stays rowsMono _ _ _ _ (Same.new (Same.refl _) nD') RX5, [], [], upd_same, trivial, rfl⟩ ?_ ?_
    · rintro i H6 hi ⟨S6, RX6, vs, Y, hD, hY, hl⟩
      walk_at "go"
      refine g_wipe rfl ?_
      walk_at "go"
      refine ⟨p, l, ns, _, rfl, S6, w0, by omega, fun H7 v r hv S7 b7 => ?_⟩
      have hD7 := b7 _ _ hD nDp'
      have lv := hY.len
      have RX7 := rows_but S6 b7 RX6
      have kp : ∀ b ys, H7 b = some (.tup ys) → (upd H7 D' (.lst (vs ++ [v]))) b = some (.tup ys) := fun b ys e => by rw [upd_ne (ne_of e hD7 (fun z => nomatch z))]; exact e
      have nDD : D ≠ D' := by
        rintro rfl
        obtain ⟨_, _, e, h, _⟩ := RX5
        cases e
        rw [nD'] at h
        cases h
      refine ⟨vs, hD7, szlt (by omega), S7.put nDp' nDa', ?_, vs ++ [v], Y ++ [r], upd_same, ?_, by rw [List.length_append, hl]; rfl⟩
      · obtain ⟨_, us, e, h, hA, l⟩ := RX7
        cases e
        exact ⟨D, us, rfl, (upd_ne nDD).trans h, hA.imp fun v a => Row.keep kp, l⟩
      · exact ((all_but S6 b7 hY).imp fun v a => Row.keep kp).snoc (Row.keep kp hv)
    rintro H6 ⟨S6, RX6, vs, Y, hD, hY, hlY⟩
    have RY6 : Rows H6 (.ref D') Y := ⟨D', vs, rfl, hD, hY, by omega⟩
    have mono : ∀ {H1 H2 : Hp} {v : V} {Z : List Rw}, Same H1 H2 → Rows H1 v Z → Rows H2 v Z := fun s h => LstR.stays rowsMono _ _ _ _ s h
    clear hD hY vs
    walk_at "go"
    refine g_cut (fun σ' H' => ∃ D1 Z, σ' = [some (.ref a), some (.ref p), some (.int wd), some (.ref D), some (.ref D1), none, none, none, none] ∧ Rows H' (.ref D) X ∧ Rows H' (.ref D1) Z ∧ Z.length ≤ 30) ?_ ?_
    · walk_at "go"
      refine ⟨p, l, ns, 2, rfl, S6, by decide, by decide, fun i v r z k z0 z1 => ?_⟩
      have S7 := S6.upd k
      have RX7 : Rows (upd H6 p (StO l i v r)) (.ref D) X := rows_but S6 ((But.refl p H6).upd) RX6
      have RY7 : Rows (upd H6 p (StO l i v r)) (.ref D') Y := rows_but S6 ((But.refl p H6).upd) RY6
      generalize upd H6 p (StO l i v r) = H7 at S7 RX7 RY7 ⊢
      walk_at "go"
      refine g_dec (fun e => ?_) (fun e => ?_)
      · walk_at "go"
        refine ⟨p, l, ns, .ref D, X, rfl, S7, RX7, by omega, fun H8 r Z hZ lZ S8 b8 nr => ?_⟩
        have RX8 := rows_but S7 b8 RX7
        have RY8 := rows_but S7 b8 RY7
        obtain ⟨_, ws, e, hw, hW, lW⟩ := RY8
        cases e
        obtain ⟨_, zs, e, hz, hZA, lZ'⟩ := hZ
        cases e
        have lz := hZA.len
        walk_at "go"
        intro c nc
        rw [cut_take _ _ (by decide), show (2 : Int).toNat = 2 from rfl]
        have s9 : Same H8 (upd H8 c (.lst (ws.take 2))) := Same.new (Same.refl _) nc
        have hc9 : (upd H8 c (.lst (ws.take 2))) c = some (.lst (ws.take 2)) := upd_same
        generalize upd H8 c (.lst (ws.take 2)) = H9 at s9 hc9 ⊢
        have lt2 : (ws.take 2).length ≤ 2 := by rw [List.length_take]; omega
        have ltY : (Y.take 2).length ≤ 2 := by rw [List.length_take]; omega
        refine ⟨r, c, zs, ws.take 2, rfl, rfl, s9 _ _ hz, hc9, sz (by omega), fun t nt => ?_⟩
        have s10 : Same H8 (upd H9 t (.lst (zs ++ ws.take 2))) := Same.new s9 nt
        walk_at "go"
        refine ⟨t, Z ++ Y.take 2, rfl, mono s10 RX8, ⟨t, _, rfl, upd_same, (AllR.app (hW.take 2) hZA).imp fun v a => rowsMono _ _ v a s10, ?_⟩, ?_⟩
        · rw [List.length_append]; omega
        · rw [List.length_append]; omega
      · walk_at "go"
        exact ⟨D', Y, rfl, RX7, RY7, by omega⟩
    clear RX6 RY6 S6 RX5 S5 S4 S2 S1 S
    rintro σ' H0 ⟨D1, Y, rfl, RX, RY, lY⟩
    have lX : X.length ≤ 10 := by omega
    have RX0 := RX
    have RY0 := RY
    obtain ⟨_, us, e, hu, hU, lU⟩ := RX
    cases e
    obtain ⟨_, ws, e, hw, hW, lW⟩ := RY
    cases e
    walk_at "go"
    intro c1 n1
    have s7 : Same H0 (upd H0 c1 (.lst us)) := Same.new (Same.refl _) n1
    have hc17 : (upd H0 c1 (.lst us)) c1 = some (.lst us) := upd_same
    generalize upd H0 c1 (.lst us) = H7 at s7 hc17 ⊢
    have hw7 := s7 _ _ hw
    walk_at "go"
    intro c2 n2
    have s8 : Same H7 (upd H7 c2 (.lst ws)) := Same.new (Same.refl _) n2
    have hc28 : (upd H7 c2 (.lst ws)) c2 = some (.lst ws) := upd_same
    generalize upd H7 c2 (.lst ws) = H8 at s8 hc28 ⊢
    walk_at "go"
    intro ps nps
    have s9 : Same H8 (upd H8 ps (.lst [.ref c1, .ref c2])) := Same.new (Same.refl _) nps
    have hps : (upd H8 ps (.lst [.ref c1, .ref c2])) ps = some (.lst [.ref c1, .ref c2]) := upd_same
    generalize upd H8 ps (.lst [.ref c1, .ref c2]) = H9 at s9 hps ⊢
    have s89 := s8.trans s9
    have s09 := s7.trans s89
    have RX := mono s09 RX0
    have RY := mono s09 RY0
    have RC1 : Rows H9 (.ref c1) X := ⟨c1, us, rfl, s89 _ _ hc17, hU.imp fun v a => rowsMono _ _ v a s09, lU⟩
    have RC2 : Rows H9 (.ref c2) Y := ⟨c2, ws, rfl, s9 _ _ hc28, hW.imp fun v a => rowsMono _ _ v a s09, lW⟩
    clear hu hw hU hW hc17 hc28 s7 s8 s89 s09 hw7
    walk_at "go"
    refine ⟨.ref c1, .ref c2, X, Y, rfl, RC1, RC2, fun H10 m s10 nm RM => ?_⟩
    have hps10 := s10 _ _ hps
    walk_at "go"
    refine ⟨.ref c1, .ref c2, X, Y, rfl, mono s10 RC1, mono s10 RC2, fun H11 f s11 nf RF => ?_⟩
    have s9b := s10.trans s11
    have nf9 := s10.free nf
    have RM := mono s11 RM
    have nmf : m ≠ f := by
      rintro rfl
      obtain ⟨_, _, e, h, _⟩ := ‹Rows H10 (.ref m) _›
      cases e
      rw [nf] at h
      cases h
    walk_at "go"
    refine ⟨.ref D, .ref D1, X, Y, rfl, mono s9b RX, mono s9b RY, fun H12 r12 s12 n12 R12 => ?_⟩
    refine .inl ⟨_, _, _, _, rfl, mono s12 RM, R12, ?_⟩
    rw [decide_eq_true rfl]
    walk_at "go"
    refine ⟨.ref D1, .ref D, Y, X, rfl, mono (s9b.trans s12) RY, mono (s9b.trans s12) RX, fun H13 r13 s13 n13 R13 => ?_⟩
    refine .inl ⟨_, _, _, _, rfl, mono (s12.trans s13) RF, R13, ?_⟩
    rw [decide_eq_true rfl]
    have s9d := (s9b.trans s12).trans s13
    have RM := mono (s12.trans s13) RM
    have RF := mono (s12.trans s13) RF
    walk_at "go"
    refine ⟨.ref D, .ref D1, .ref m, .ref f, X, Y, moreR X Y, moreR Y X, rfl, mono s9d RX, mono s9d RY, RM, RF, by omega, fun r => ?_, fun r => ?_, fun H14 s14 => ?_⟩
    · rw [more_count, more_count]; omega
    · rw [more_count, more_count]; omega
    have s9e := s9d.trans s14
    obtain ⟨_, ms, e, hm, hMA, lM⟩ := mono s14 RM
    cases e
    obtain ⟨_, fs, e, hf, hFA, lF⟩ := mono s14 RF
    cases e
    have lm := hMA.len
    have lf := hFA.len
    walk_at "go"
    intro t nt
    have nmt : m ≠ t := ne_of_none hm nt
    have nft : f ≠ t := ne_of_none hf nt
    walk_at "go"
    refine g_append ((upd_ne nmt).trans hm) (szlt (by omega)) ?_
    have s9f : Same H9 (upd (upd H14 t (.tup [.str "spoilt"])) m (.lst (ms ++ [.ref t]))) := fun b o e => by
      rw [upd_ne (ne_of_none e nm), upd_ne (ne_of_none (s9e _ _ e) nt)]
      exact s9e _ _ e
    have hf15 : (upd (upd H14 t (.tup [.str "spoilt"])) m (.lst (ms ++ [.ref t]))) f = some (.lst fs) := (upd_ne nmf.symm).trans ((upd_ne nft).trans hf)
    generalize upd (upd H14 t (.tup [.str "spoilt"])) m (.lst (ms ++ [.ref t])) = H15 at s9f hf15 ⊢
    walk_at "go"
    intro t2 nt2
    have nft2 : f ≠ t2 := ne_of_none hf15 nt2
    walk_at "go"
    refine g_append ((upd_ne nft2).trans hf15) (szlt (by omega)) ?_
    have s9g : Same H9 (upd (upd H15 t2 (.tup [.str "spoilt"])) f (.lst (fs ++ [.ref t2]))) := fun b o e => by
      rw [upd_ne (ne_of_none e nf9), upd_ne (ne_of_none (s9f _ _ e) nt2)]
      exact s9f _ _ e
    generalize upd (upd H15 t2 (.tup [.str "spoilt"])) f (.lst (fs ++ [.ref t2])) = H16 at s9g ⊢
    walk_at "go"
    intro g ng
    have s17 : Same H9 (upd H16 g (.lst [.ref D, .ref D1])) := Same.new s9g ng
    have hg17 : (upd H16 g (.lst [.ref D, .ref D1])) g = some (.lst [.ref D, .ref D1]) := upd_same
    generalize upd H16 g (.lst [.ref D, .ref D1]) = H17 at s17 hg17 ⊢
    have hps17 := s17 _ _ hps
    walk_at "go"
    refine .inr ⟨.ref ps, .ref g, [X, Y], [X, Y], rfl, ⟨ps, _, rfl, hps17, ⟨mono s17 RC1, mono s17 RC2, trivial⟩, by show 2 ≤ 1000; decide⟩, ⟨g, _, rfl, hg17, ⟨mono s17 RX, mono s17 RY, trivial⟩, by show 2 ≤ 1000; decide⟩, ?_⟩
    rw [decide_eq_true rfl]
    walk_at "go"
    refine ⟨.ref c1, .ref c2, X, Y, rfl, mono s17 RC1, mono s17 RC2, fun H18 r18 s18 n18 R18 => ?_⟩
    have s918 := s17.trans s18
    walk_at "go"
    refine ⟨.ref D, .ref D1, X, Y, rfl, mono s918 RX, mono s918 RY, fun H19 r19 s19 n19 R19 => ?_⟩
    refine .inl ⟨_, _, _, _, rfl, mono s19 R18, R19, ?_⟩
    rw [decide_eq_true rfl]
    have s919 := s918.trans s19
    walk_at "go"
    refine ⟨.ref D, .ref D1, X, Y, rfl, mono s919 RX, mono s919 RY, fun H20 r20 s20 n20 R20 => ?_⟩
    have s920 := s919.trans s20
    walk_at "go"
    refine ⟨.ref D1, .ref D, Y, X, rfl, mono s920 RY, mono s920 RX, fun H21 r21 s21 n21 R21 => ?_⟩
    refine .inl ⟨_, _, _, _, rfl, mono s21 R20, R21, ?_⟩
    rw [decide_eq_true rfl]
    walk_at "go"
    exact q _
end
theorem all_mk {l : PySem.W.OpenLaw} {w : World} {K : PySem.W.Frag} {h : Heap} {mg : Str → Option Value} {fa f_value_key f_row_key f_came f_went f_next f_same f_char f_value f_drawn_row f_count f_more f_turned f_balanced f_law : Addr} (X : K.In h) (G : h.Ns mainGlobals mg) (hfa : mg "law" = some (.ref fa))
    {od_value_key an_value_key : Option Addr} {sl_value_key : Array (Option Value)} {oc_value_key kV_value_key dc_value_key pm_value_key cd_value_key ct_value_key : Value}
    {od_row_key an_row_key : Option Addr} {sl_row_key : Array (Option Value)} {oc_row_key kV_row_key dc_row_key pm_row_key cd_row_key ct_row_key : Value}
    {od_came an_came : Option Addr} {sl_came : Array (Option Value)} {oc_came kV_came dc_came pm_came cd_came ct_came : Value}
    {od_went an_went : Option Addr} {sl_went : Array (Option Value)} {oc_went kV_went dc_went pm_went cd_went ct_went : Value}
    {od_next an_next : Option Addr} {sl_next : Array (Option Value)} {oc_next kV_next dc_next pm_next cd_next ct_next : Value}
    {od_same an_same : Option Addr} {sl_same : Array (Option Value)} {oc_same kV_same dc_same pm_same cd_same ct_same : Value}
    {od_char an_char : Option Addr} {sl_char : Array (Option Value)} {oc_char kV_char dc_char pm_char cd_char ct_char : Value}
    {od_value an_value : Option Addr} {sl_value : Array (Option Value)} {oc_value kV_value dc_value pm_value cd_value ct_value : Value}
    {od_drawn_row an_drawn_row : Option Addr} {sl_drawn_row : Array (Option Value)} {oc_drawn_row kV_drawn_row dc_drawn_row pm_drawn_row cd_drawn_row ct_drawn_row : Value}
    {od_count an_count : Option Addr} {sl_count : Array (Option Value)} {oc_count kV_count dc_count pm_count cd_count ct_count : Value}
    {od_more an_more : Option Addr} {sl_more : Array (Option Value)} {oc_more kV_more dc_more pm_more cd_more ct_more : Value}
    {od_turned an_turned : Option Addr} {sl_turned : Array (Option Value)} {oc_turned kV_turned dc_turned pm_turned cd_turned ct_turned : Value}
    {od_balanced an_balanced : Option Addr} {sl_balanced : Array (Option Value)} {oc_balanced kV_balanced dc_balanced pm_balanced cd_balanced ct_balanced : Value}
    {od_law an_law : Option Addr} {sl_law : Array (Option Value)} {oc_law kV_law dc_law pm_law cd_law ct_law : Value}
    (a_value_key : PySem.W.nsIn K mainGlobals "value_key" = some (some (.ref f_value_key)))
    (l_value_key : K.lookup f_value_key = some ⟨oc_value_key, od_value_key, .func (PySem.W.fnOf "value_key" "value_key" (defArgs s_value_key) (defBody s_value_key) (defScope s_value_key) .none kV_value_key dc_value_key pm_value_key an_value_key cd_value_key ct_value_key), sl_value_key⟩)
    (c_value_key : PySem.W.codeIn K cd_value_key "value_key" = true)
    (k_value_key : PySem.W.keepIn K (.ref f_value_key) = true)
    (a_row_key : PySem.W.nsIn K mainGlobals "row_key" = some (some (.ref f_row_key)))
    (l_row_key : K.lookup f_row_key = some ⟨oc_row_key, od_row_key, .func (PySem.W.fnOf "row_key" "row_key" (defArgs s_row_key) (defBody s_row_key) (defScope s_row_key) .none kV_row_key dc_row_key pm_row_key an_row_key cd_row_key ct_row_key), sl_row_key⟩)
    (c_row_key : PySem.W.codeIn K cd_row_key "row_key" = true)
    (k_row_key : PySem.W.keepIn K (.ref f_row_key) = true)
    (a_came : PySem.W.nsIn K mainGlobals "came" = some (some (.ref f_came)))
    (l_came : K.lookup f_came = some ⟨oc_came, od_came, .func (PySem.W.fnOf "came" "came" (defArgs s_came) (defBody s_came) (defScope s_came) .none kV_came dc_came pm_came an_came cd_came ct_came), sl_came⟩)
    (c_came : PySem.W.codeIn K cd_came "came" = true)
    (k_came : PySem.W.keepIn K (.ref f_came) = true)
    (a_went : PySem.W.nsIn K mainGlobals "went" = some (some (.ref f_went)))
    (l_went : K.lookup f_went = some ⟨oc_went, od_went, .func (PySem.W.fnOf "went" "went" (defArgs s_went) (defBody s_went) (defScope s_went) .none kV_went dc_went pm_went an_went cd_went ct_went), sl_went⟩)
    (c_went : PySem.W.codeIn K cd_went "went" = true)
    (k_went : PySem.W.keepIn K (.ref f_went) = true)
    (a_next : PySem.W.nsIn K mainGlobals "_law_next" = some (some (.ref f_next)))
    (l_next : K.lookup f_next = some ⟨oc_next, od_next, .func (PySem.W.fnOf "_law_next" "_law_next" (defArgs s_next) (defBody s_next) (defScope s_next) .none kV_next dc_next pm_next an_next cd_next ct_next), sl_next⟩)
    (c_next : PySem.W.codeIn K cd_next "_law_next" = true)
    (k_next : PySem.W.keepIn K (.ref f_next) = true)
    (a_same : PySem.W.nsIn K mainGlobals "_law_same" = some (some (.ref f_same)))
    (l_same : K.lookup f_same = some ⟨oc_same, od_same, .func (PySem.W.fnOf "_law_same" "_law_same" (defArgs s_same) (defBody s_same) (defScope s_same) .none kV_same dc_same pm_same an_same cd_same ct_same), sl_same⟩)
    (c_same : PySem.W.codeIn K cd_same "_law_same" = true)
    (k_same : PySem.W.keepIn K (.ref f_same) = true)
    (a_char : PySem.W.nsIn K mainGlobals "_law_char" = some (some (.ref f_char)))
    (l_char : K.lookup f_char = some ⟨oc_char, od_char, .func (PySem.W.fnOf "_law_char" "_law_char" (defArgs s_char) (defBody s_char) (defScope s_char) .none kV_char dc_char pm_char an_char cd_char ct_char), sl_char⟩)
    (c_char : PySem.W.codeIn K cd_char "_law_char" = true)
    (k_char : PySem.W.keepIn K (.ref f_char) = true)
    (a_value : PySem.W.nsIn K mainGlobals "_law_value" = some (some (.ref f_value)))
    (l_value : K.lookup f_value = some ⟨oc_value, od_value, .func (PySem.W.fnOf "_law_value" "_law_value" (defArgs s_value) (defBody s_value) (defScope s_value) .none kV_value dc_value pm_value an_value cd_value ct_value), sl_value⟩)
    (c_value : PySem.W.codeIn K cd_value "_law_value" = true)
    (k_value : PySem.W.keepIn K (.ref f_value) = true)
    (a_drawn_row : PySem.W.nsIn K mainGlobals "_law_drawn_row" = some (some (.ref f_drawn_row)))
    (l_drawn_row : K.lookup f_drawn_row = some ⟨oc_drawn_row, od_drawn_row, .func (PySem.W.fnOf "_law_drawn_row" "_law_drawn_row" (defArgs s_drawn_row) (defBody s_drawn_row) (defScope s_drawn_row) .none kV_drawn_row dc_drawn_row pm_drawn_row an_drawn_row cd_drawn_row ct_drawn_row), sl_drawn_row⟩)
    (c_drawn_row : PySem.W.codeIn K cd_drawn_row "_law_drawn_row" = true)
    (k_drawn_row : PySem.W.keepIn K (.ref f_drawn_row) = true)
    (a_count : PySem.W.nsIn K mainGlobals "_law_count" = some (some (.ref f_count)))
    (l_count : K.lookup f_count = some ⟨oc_count, od_count, .func (PySem.W.fnOf "_law_count" "_law_count" (defArgs s_count) (defBody s_count) (defScope s_count) .none kV_count dc_count pm_count an_count cd_count ct_count), sl_count⟩)
    (c_count : PySem.W.codeIn K cd_count "_law_count" = true)
    (k_count : PySem.W.keepIn K (.ref f_count) = true)
    (a_more : PySem.W.nsIn K mainGlobals "_law_more" = some (some (.ref f_more)))
    (l_more : K.lookup f_more = some ⟨oc_more, od_more, .func (PySem.W.fnOf "_law_more" "_law_more" (defArgs s_more) (defBody s_more) (defScope s_more) .none kV_more dc_more pm_more an_more cd_more ct_more), sl_more⟩)
    (c_more : PySem.W.codeIn K cd_more "_law_more" = true)
    (k_more : PySem.W.keepIn K (.ref f_more) = true)
    (a_turned : PySem.W.nsIn K mainGlobals "_law_turned" = some (some (.ref f_turned)))
    (l_turned : K.lookup f_turned = some ⟨oc_turned, od_turned, .func (PySem.W.fnOf "_law_turned" "_law_turned" (defArgs s_turned) (defBody s_turned) (defScope s_turned) .none kV_turned dc_turned pm_turned an_turned cd_turned ct_turned), sl_turned⟩)
    (c_turned : PySem.W.codeIn K cd_turned "_law_turned" = true)
    (k_turned : PySem.W.keepIn K (.ref f_turned) = true)
    (a_balanced : PySem.W.nsIn K mainGlobals "_law_balanced" = some (some (.ref f_balanced)))
    (l_balanced : K.lookup f_balanced = some ⟨oc_balanced, od_balanced, .func (PySem.W.fnOf "_law_balanced" "_law_balanced" (defArgs s_balanced) (defBody s_balanced) (defScope s_balanced) .none kV_balanced dc_balanced pm_balanced an_balanced cd_balanced ct_balanced), sl_balanced⟩)
    (c_balanced : PySem.W.codeIn K cd_balanced "_law_balanced" = true)
    (k_balanced : PySem.W.keepIn K (.ref f_balanced) = true)
    (a_law : PySem.W.nsIn K mainGlobals "law" = some (some (.ref f_law)))
    (l_law : K.lookup f_law = some ⟨oc_law, od_law, .func (PySem.W.fnOf "law" "law" (defArgs s_law) (defBody s_law) (defScope s_law) .none kV_law dc_law pm_law an_law cd_law ct_law), sl_law⟩)
    (c_law : PySem.W.codeIn K cd_law "law" = true)
    (k_law : PySem.W.keepIn K (.ref f_law) = true)
    (z_bool : PySem.W.nsIn K mainGlobals "bool" = some none)
    (z_int : PySem.W.nsIn K mainGlobals "int" = some none)
    (z_isinstance : PySem.W.nsIn K mainGlobals "isinstance" = some none)
    (z_len : PySem.W.nsIn K mainGlobals "len" = some none)
    (z_list : PySem.W.nsIn K mainGlobals "list" = some none)
    (z_range : PySem.W.nsIn K mainGlobals "range" = some none)
    (z_str : PySem.W.nsIn K mainGlobals "str" = some none)
    (z_tuple : PySem.W.nsIn K mainGlobals "tuple" = some none)
    : ∃ fd : FuncData, (∀ (s : Shared) (v : Value), BindsTo s fd ⟨[v], []⟩ [("_law_script", v)]) ∧ ∀ base : Heap, K.In base → base.Ns mainGlobals mg → FnOk l.prog w K mg base CX0 5 fa fd ["_law_script"] (spLaw K) := by
  have e := hfa.symm.trans (PySem.W.mg_of X G a_law)
  have e2 : fa = f_law := by cases e; rfl
  rw [e2]
  exact ⟨PySem.W.fnOf "law" "law" (defArgs s_law) (defBody s_law) (defScope s_law) .none kV_law dc_law pm_law an_law cd_law ct_law, fun s v => .of_eq rfl, fun base _ _ =>
    ok_law (T := {
      a_value_key := f_value_key
      d_value_key := PySem.W.fnOf "value_key" "value_key" (defArgs s_value_key) (defBody s_value_key) (defScope s_value_key) .none kV_value_key dc_value_key pm_value_key an_value_key cd_value_key ct_value_key
      F_value_key := fun_mk (st := s_value_key) l_value_key c_value_key k_value_key
      b_value_key := (fun_mk (st := s_value_key) l_value_key c_value_key k_value_key).binds (ps := ["value"]) fun _ _ _ _ _ _ us hl => match us, hl with | [_], _ => rfl
      g_value_key := PySem.W.mg_of X G a_value_key
      a_row_key := f_row_key
      d_row_key := PySem.W.fnOf "row_key" "row_key" (defArgs s_row_key) (defBody s_row_key) (defScope s_row_key) .none kV_row_key dc_row_key pm_row_key an_row_key cd_row_key ct_row_key
      F_row_key := fun_mk (st := s_row_key) l_row_key c_row_key k_row_key
      b_row_key := (fun_mk (st := s_row_key) l_row_key c_row_key k_row_key).binds (ps := ["row"]) fun _ _ _ _ _ _ us hl => match us, hl with | [_], _ => rfl
      g_row_key := PySem.W.mg_of X G a_row_key
      a_came := f_came
      d_came := PySem.W.fnOf "came" "came" (defArgs s_came) (defBody s_came) (defScope s_came) .none kV_came dc_came pm_came an_came cd_came ct_came
      F_came := fun_mk (st := s_came) l_came c_came k_came
      b_came := (fun_mk (st := s_came) l_came c_came k_came).binds (ps := ["old", "new"]) fun _ _ _ _ _ _ us hl => match us, hl with | [_, _], _ => rfl
      g_came := PySem.W.mg_of X G a_came
      a_went := f_went
      d_went := PySem.W.fnOf "went" "went" (defArgs s_went) (defBody s_went) (defScope s_went) .none kV_went dc_went pm_went an_went cd_went ct_went
      F_went := fun_mk (st := s_went) l_went c_went k_went
      b_went := (fun_mk (st := s_went) l_went c_went k_went).binds (ps := ["old", "new"]) fun _ _ _ _ _ _ us hl => match us, hl with | [_, _], _ => rfl
      g_went := PySem.W.mg_of X G a_went
      a_next := f_next
      d_next := PySem.W.fnOf "_law_next" "_law_next" (defArgs s_next) (defBody s_next) (defScope s_next) .none kV_next dc_next pm_next an_next cd_next ct_next
      F_next := fun_mk (st := s_next) l_next c_next k_next
      b_next := (fun_mk (st := s_next) l_next c_next k_next).binds (ps := ["_law_state", "_law_limit"]) fun _ _ _ _ _ _ us hl => match us, hl with | [_, _], _ => rfl
      g_next := PySem.W.mg_of X G a_next
      a_same := f_same
      d_same := PySem.W.fnOf "_law_same" "_law_same" (defArgs s_same) (defBody s_same) (defScope s_same) .none kV_same dc_same pm_same an_same cd_same ct_same
      F_same := fun_mk (st := s_same) l_same c_same k_same
      b_same := (fun_mk (st := s_same) l_same c_same k_same).binds (ps := ["_law_actual", "_law_expected"]) fun _ _ _ _ _ _ us hl => match us, hl with | [_, _], _ => rfl
      g_same := PySem.W.mg_of X G a_same
      a_char := f_char
      d_char := PySem.W.fnOf "_law_char" "_law_char" (defArgs s_char) (defBody s_char) (defScope s_char) .none kV_char dc_char pm_char an_char cd_char ct_char
      F_char := fun_mk (st := s_char) l_char c_char k_char
      b_char := (fun_mk (st := s_char) l_char c_char k_char).binds (ps := ["_law_index"]) fun _ _ _ _ _ _ us hl => match us, hl with | [_], _ => rfl
      g_char := PySem.W.mg_of X G a_char
      a_value := f_value
      d_value := PySem.W.fnOf "_law_value" "_law_value" (defArgs s_value) (defBody s_value) (defScope s_value) .none kV_value dc_value pm_value an_value cd_value ct_value
      F_value := fun_mk (st := s_value) l_value c_value k_value
      b_value := (fun_mk (st := s_value) l_value c_value k_value).binds (ps := ["_law_state", "_law_kind"]) fun _ _ _ _ _ _ us hl => match us, hl with | [_, _], _ => rfl
      g_value := PySem.W.mg_of X G a_value
      a_drawn_row := f_drawn_row
      d_drawn_row := PySem.W.fnOf "_law_drawn_row" "_law_drawn_row" (defArgs s_drawn_row) (defBody s_drawn_row) (defScope s_drawn_row) .none kV_drawn_row dc_drawn_row pm_drawn_row an_drawn_row cd_drawn_row ct_drawn_row
      F_drawn_row := fun_mk (st := s_drawn_row) l_drawn_row c_drawn_row k_drawn_row
      b_drawn_row := (fun_mk (st := s_drawn_row) l_drawn_row c_drawn_row k_drawn_row).binds (ps := ["_law_state", "_law_width"]) fun _ _ _ _ _ _ us hl => match us, hl with | [_, _], _ => rfl
      g_drawn_row := PySem.W.mg_of X G a_drawn_row
      a_count := f_count
      d_count := PySem.W.fnOf "_law_count" "_law_count" (defArgs s_count) (defBody s_count) (defScope s_count) .none kV_count dc_count pm_count an_count cd_count ct_count
      F_count := fun_mk (st := s_count) l_count c_count k_count
      b_count := (fun_mk (st := s_count) l_count c_count k_count).binds (ps := ["_law_row", "_law_rows"]) fun _ _ _ _ _ _ us hl => match us, hl with | [_, _], _ => rfl
      g_count := PySem.W.mg_of X G a_count
      a_more := f_more
      d_more := PySem.W.fnOf "_law_more" "_law_more" (defArgs s_more) (defBody s_more) (defScope s_more) .none kV_more dc_more pm_more an_more cd_more ct_more
      F_more := fun_mk (st := s_more) l_more c_more k_more
      b_more := (fun_mk (st := s_more) l_more c_more k_more).binds (ps := ["_law_old", "_law_new"]) fun _ _ _ _ _ _ us hl => match us, hl with | [_, _], _ => rfl
      g_more := PySem.W.mg_of X G a_more
      a_turned := f_turned
      d_turned := PySem.W.fnOf "_law_turned" "_law_turned" (defArgs s_turned) (defBody s_turned) (defScope s_turned) .none kV_turned dc_turned pm_turned an_turned cd_turned ct_turned
      F_turned := fun_mk (st := s_turned) l_turned c_turned k_turned
      b_turned := (fun_mk (st := s_turned) l_turned c_turned k_turned).binds (ps := ["_law_state", "_law_old"]) fun _ _ _ _ _ _ us hl => match us, hl with | [_, _], _ => rfl
      g_turned := PySem.W.mg_of X G a_turned
      a_balanced := f_balanced
      d_balanced := PySem.W.fnOf "_law_balanced" "_law_balanced" (defArgs s_balanced) (defBody s_balanced) (defScope s_balanced) .none kV_balanced dc_balanced pm_balanced an_balanced cd_balanced ct_balanced
      F_balanced := fun_mk (st := s_balanced) l_balanced c_balanced k_balanced
      b_balanced := (fun_mk (st := s_balanced) l_balanced c_balanced k_balanced).binds (ps := ["_law_old", "_law_new", "_law_more_here", "_law_fewer"]) fun _ _ _ _ _ _ us hl => match us, hl with | [_, _, _, _], _ => rfl
      g_balanced := PySem.W.mg_of X G a_balanced
      a_law := f_law
      d_law := PySem.W.fnOf "law" "law" (defArgs s_law) (defBody s_law) (defScope s_law) .none kV_law dc_law pm_law an_law cd_law ct_law
      F_law := fun_mk (st := s_law) l_law c_law k_law
      b_law := (fun_mk (st := s_law) l_law c_law k_law).binds (ps := ["_law_script"]) fun _ _ _ _ _ _ us hl => match us, hl with | [_], _ => rfl
      g_law := PySem.W.mg_of X G a_law
      z_bool := PySem.W.mg_none_of X G z_bool
      z_int := PySem.W.mg_none_of X G z_int
      z_isinstance := PySem.W.mg_none_of X G z_isinstance
      z_len := PySem.W.mg_none_of X G z_len
      z_list := PySem.W.mg_none_of X G z_list
      z_range := PySem.W.mg_none_of X G z_range
      z_str := PySem.W.mg_none_of X G z_str
      z_tuple := PySem.W.mg_none_of X G z_tuple })⟩
end Kb
open PySem PySem.W PyProof.Rows
set_option maxRecDepth 100000 in
set_option maxHeartbeats 0 in
theorem PySem.Challenge.cw_kithbase_k38_came_and_went_holds : PySem.Challenge.rw_kithbase_k38_came_and_went.Holds := by
  w_on; o_law; k_head; (case hw => w_witness2)
  k_fill
  refine L2.walk_of (l := PySem.Challenge.rw_kithbase_k38_came_and_went) (n := 63) (k := 5) (x := "_law_script") (CX := fun _ => L2.CX0) (sp := fun w => Kb.spLaw _) rfl (by decide) rfl ⟨rfl, by decide, by decide⟩ (fun w h Y => PySem.W.kIn_of Y) ?F (fun _ _ a ns hl _ hS => ⟨a, ns, rfl, hS, hl, fun _ => rfl⟩) (fun _ _ _ _ _ h => h)
  case F =>
    intro w mg fa h KX G hmg
    refine' Kb.all_mk KX G hmg ?a_value_key ?l_value_key ?c_value_key ?k_value_key ?a_row_key ?l_row_key ?c_row_key ?k_row_key ?a_came ?l_came ?c_came ?k_came ?a_went ?l_went ?c_went ?k_went ?a_next ?l_next ?c_next ?k_next ?a_same ?l_same ?c_same ?k_same ?a_char ?l_char ?c_char ?k_char ?a_value ?l_value ?c_value ?k_value ?a_drawn_row ?l_drawn_row ?c_drawn_row ?k_drawn_row ?a_count ?l_count ?c_count ?k_count ?a_more ?l_more ?c_more ?k_more ?a_turned ?l_turned ?c_turned ?k_turned ?a_balanced ?l_balanced ?c_balanced ?k_balanced ?a_law ?l_law ?c_law ?k_law ?z_bool ?z_int ?z_isinstance ?z_len ?z_list ?z_range ?z_str ?z_tuple
    (case a_value_key => k_is)
    (case l_value_key => k_is)
    (case c_value_key => k_is)
    (case k_value_key => k_is)
    (case a_row_key => k_is)
    (case l_row_key => k_is)
    (case c_row_key => k_is)
    (case k_row_key => k_is)
    (case a_came => k_is)
    (case l_came => k_is)
    (case c_came => k_is)
    (case k_came => k_is)
    (case a_went => k_is)
    (case l_went => k_is)
    (case c_went => k_is)
    (case k_went => k_is)
    (case a_next => k_is)
    (case l_next => k_is)
    (case c_next => k_is)
    (case k_next => k_is)
    (case a_same => k_is)
    (case l_same => k_is)
    (case c_same => k_is)
    (case k_same => k_is)
    (case a_char => k_is)
    (case l_char => k_is)
    (case c_char => k_is)
    (case k_char => k_is)
    (case a_value => k_is)
    (case l_value => k_is)
    (case c_value => k_is)
    (case k_value => k_is)
    (case a_drawn_row => k_is)
    (case l_drawn_row => k_is)
    (case c_drawn_row => k_is)
    (case k_drawn_row => k_is)
    (case a_count => k_is)
    (case l_count => k_is)
    (case c_count => k_is)
    (case k_count => k_is)
    (case a_more => k_is)
    (case l_more => k_is)
    (case c_more => k_is)
    (case k_more => k_is)
    (case a_turned => k_is)
    (case l_turned => k_is)
    (case c_turned => k_is)
    (case k_turned => k_is)
    (case a_balanced => k_is)
    (case l_balanced => k_is)
    (case c_balanced => k_is)
    (case k_balanced => k_is)
    (case a_law => k_is)
    (case l_law => k_is)
    (case c_law => k_is)
    (case k_law => k_is)
    (case z_bool => k_is)
    (case z_int => k_is)
    (case z_isinstance => k_is)
    (case z_len => k_is)
    (case z_list => k_is)
    (case z_range => k_is)
    (case z_str => k_is)
    (case z_tuple => k_is)

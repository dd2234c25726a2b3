import PyProof.Rows.All
import Wide.All
import OpenK.AllK
import Wide.FinOn
import HandS.ForMost
import HandS.IsInst
import HandS.Wide
import HandS.TupAny
import HandS.Flow
import HandS.Text
import HandS.Codes

import PySem.Challenge.RW_kithbase_k51_file_keeps_a_prefix
set_option Elab.async false
set_option linter.all false
set_option maxRecDepth 100000
set_option maxHeartbeats 4000000
namespace Kb
open PySem PySem.Spec PyProof.Rows L2
/-! rules and words of my own, over HandS -/
section
variable {X : Cx}
/-- o[i] of a list, the place not negative, as an operand of an in-place statement -/
theorem get_list : PGet X (rIxL X.K) := by
  intro pins s σ H x y v u Q I rx ry h
  obtain ⟨p, xs, i, z, rfl, rfl, hq, he, q⟩ := h
  cases rx
  obtain ⟨t, rfl⟩ := ry
  obtain ⟨its, r, pl, hz⟩ := I.list hq
  obtain ⟨j, h1, h2, h3, h4, h5⟩ := atI_get he
  obtain ⟨w, ew, rw'⟩ := r.get h2
  have hl := r.length
  have hn := line63
  have fin : EP X pins σ Q w s := ⟨z, H, I, rw', q⟩
  by_cases h0 : 0 ≤ i
  · have hj : i.toNat = j := by
      rw [seqIndex_of h0 h5] at h1
      exact Option.some.inj h1
    exact getItem_listL pl.isList h0 (by omega) (by rw [hj]; exact ew) fin
  · have hj : (i + (its.toArray.size : Int)).toNat = j := by
      rw [seqIndex_neg (by omega) h4] at h1
      rw [List.size_toArray, ← hl]
      exact Option.some.inj h1
    exact wpAny_getItem_list_neg pl.isList (by omega) (by rw [List.size_toArray] <;> omega) (by omega) (by rw [hj]; simpa using ew) fin
theorem RelV.bl_iff {x : V} {v : Value} (b : Bool) (r : RelV x v) : (v == Value.bool b) = decide (x = .bl b) := by
  cases x <;> first
    | (obtain ⟨t, rfl⟩ := r; rfl)
    | (cases r; rfl)
    | skip
  cases r
  rename_i c
  cases b <;> cases c <;> rfl
theorem plain_bool {x : V} {v : Value} (b : Bool) (r : RelV x v) : plainIs v (.bool b) = true := by
  cases x <;> first
    | (obtain ⟨t, rfl⟩ := r; rfl)
    | (cases r; rfl)
/-- x is True, x is False -/
def rIsBl (neg : Bool) : R2 := fun x y H Q => ∃ b, y = .bl b ∧ Q (.bl (if neg then !decide (x = .bl b) else decide (x = .bl b))) H
theorem op_isB : OpR X (compareOp .Is) (rIsBl false) := by
  intro pins s σ H x y v u Q I rx ry h
  obtain ⟨b, rfl, q⟩ := h
  cases (show u = Value.bool b from ry)
  exact wpAny_is_plain (plain_bool b rx) (fin_bl I q (RelV.bl_iff b rx).symm)
theorem op_isNotB : OpR X (compareOp .IsNot) (rIsBl true) := by
  intro pins s σ H x y v u Q I rx ry h
  obtain ⟨b, rfl, q⟩ := h
  cases (show u = Value.bool b from ry)
  exact wpAny_isNot_plain (plain_bool b rx) (fin_bl I q (by rw [RelV.bl_iff b rx]; rfl))
end
theorem isi {K : PySem.W.Frag} {x : V} {tn n : String} {b : Bool} {H : Hp} {Q : VK} (ty : TyOf K H x (.type tn)) (h : kitB tn n = some b) (q : Q (.bl b) H) : rIsi K [x, .ty n] H Q :=
  ⟨x, .ty n, _, _, b, rfl, .ty n, .base ty, kit_ty h, q⟩
theorem kb_nn_bool : kitB "NoneType" "bool" = some false := by decide +kernel
theorem kb_nn_int : kitB "NoneType" "int" = some false := by decide +kernel
theorem kb_nn_str : kitB "NoneType" "str" = some false := by decide +kernel
theorem kb_bl_bool : kitB "bool" "bool" = some true := by decide +kernel
theorem kb_bl_int : kitB "bool" "int" = some true := by decide +kernel
theorem kb_bl_str : kitB "bool" "str" = some false := by decide +kernel
theorem kb_int_bool : kitB "int" "bool" = some false := by decide +kernel
theorem kb_int_int : kitB "int" "int" = some true := by decide +kernel
theorem kb_int_str : kitB "int" "str" = some false := by decide +kernel
theorem kb_str_bool : kitB "str" "bool" = some false := by decide +kernel
theorem kb_str_int : kitB "str" "int" = some false := by decide +kernel
theorem kb_str_str : kitB "str" "str" = some true := by decide +kernel
theorem kb_tup_tup : kitB "tuple" "tuple" = some true := by decide +kernel
theorem kb_lst_tup : kitB "list" "tuple" = some false := by decide +kernel
theorem kb_tup_lst : kitB "tuple" "list" = some false := by decide +kernel
theorem kb_lst_lst : kitB "list" "list" = some true := by decide +kernel
/-- two heaps that agree on all that H tracks, but at p -/
def But (p : Addr) (H H' : Hp) : Prop := ∀ b o, H b = some o → b ≠ p → H' b = some o
theorem But.refl (p : Addr) (H : Hp) : But p H H := fun _ _ h _ => h
theorem But.trans {p : Addr} {H H1 H2 : Hp} (a : But p H H1) (b : But p H1 H2) : But p H H2 := fun c o h n => b c o (a c o h n) n
theorem But.upd {p : Addr} {H H1 : Hp} {o : HO} (a : But p H H1) : But p H (L2.upd H1 p o) := fun c u h n => by
  rw [upd_ne n]
  exact a c u h n
theorem But.new {p q : Addr} {H H1 : Hp} {o : HO} (a : But p H H1) (h : H1 q = none) : But p H (L2.upd H1 q o) := fun c u e n => by
  rw [upd_ne (ne_of_none (a c u e n) h)]
  exact a c u e n
/-- another object, not tracked in H, is changed -/
theorem But.put {p q : Addr} {H H1 : Hp} {o : HO} (a : But p H H1) (h : H q = none) : But p H (L2.upd H1 q o) := fun c u e n => by
  rw [upd_ne (ne_of_none e h)]
  exact a c u e n
theorem But.free {p q : Addr} {H H1 : Hp} (a : But p H H1) (n : q ≠ p) (h : H1 q = none) : H q = none := by
  cases e : H q with
  | none => rfl
  | some o => rw [a q o e n] at h; cases h
theorem But.fresh {p q : Addr} {H H1 : Hp} (a : But p H H1) (hp : H p ≠ none) (h1 : H1 p ≠ none) (h : H1 q = none) : H q = none := by
  cases e : H q with
  | none => rfl
  | some o =>
    by_cases hq : q = p
    · rw [hq] at h; exact absurd h h1
    · rw [a q o e hq] at h; cases h
theorem Same.new {H H1 : Hp} {q : Addr} {o : HO} (a : Same H H1) (h : H1 q = none) : Same H (L2.upd H1 q o) := fun c u e => by
  rw [upd_ne (ne_of_none (a c u e) h)]
  exact a c u e
theorem Same.but {H H1 : Hp} (p : Addr) (a : Same H H1) : But p H H1 := fun c u e _ => a c u e
theorem sz {n : Nat} (h : n ≤ 1000000) : n ≤ sizeLine := Nat.le_trans h (by decide)
theorem szlt {n : Nat} (h : n < 1000000) : n < sizeLine := Nat.lt_of_lt_of_le h (by decide)
theorem upd_id {H : Hp} {p : Addr} {o : HO} (h : H p = some o) : L2.upd H p o = H := by
  funext b
  by_cases e : b = p
  · rw [e, upd_same, h]
  · rw [upd_ne e]
theorem at_codes {xs : List Nat} {z : Int} {j : Nat} {v : Nat} (e : z = (j : Int)) (h : xs[j]? = some v) : atI xs z = some v := by
  rw [e]
  exact atI_nat h
theorem kb_lst_bool : kitB "list" "bool" = some false := by decide +kernel
theorem kb_lst_int : kitB "list" "int" = some false := by decide +kernel
theorem kb_lst_str : kitB "list" "str" = some false := by decide +kernel
theorem kb_tup_bool : kitB "tuple" "bool" = some false := by decide +kernel
theorem kb_tup_int : kitB "tuple" "int" = some false := by decide +kernel
theorem kb_tup_str : kitB "tuple" "str" = some false := by decide +kernel

/-! the engine: one lemma a construct, applied by its head; walk_at "go" runs it -/
def rLen (K : PySem.W.Frag) : List V → Hp → VK → Prop := fun xs H Q => ∃ p ys, xs = [.ref p] ∧ (SqL K H p ys ∨ SqT K H p ys) ∧ Q (.int ys.length) H
def rLenS : List V → Hp → VK → Prop := fun xs H Q => ∃ z, xs = [.str z] ∧ z.length ≤ sizeLine ∧ Q (.int z.length) H
def rListOf (K : PySem.W.Frag) : List V → Hp → VK → Prop := fun xs H Q => ∃ p ys, xs = [.ref p] ∧ (SqL K H p ys ∨ SqT K H p ys) ∧ ∀ l, H l = none → Q (.ref l) (upd H l (.lst ys))
def rTupOf (K : PySem.W.Frag) : List V → Hp → VK → Prop := fun xs H Q => ∃ p ys, xs = [.ref p] ∧ ((SqL K H p ys ∧ ∀ l, H l = none → Q (.ref l) (upd H l (.tup ys))) ∨ (SqT K H p ys ∧ Q (.ref p) H))
def rAddS : R2 := fun x y H Q => ∃ i j, x = .str i ∧ y = .str j ∧ i.length + j.length ≤ sizeLine ∧ Q (.str (i ++ j)) H
def rInS : R2 := fun x y H Q => ∃ (c : Nat) (z : Str), x = .str ⟨#[c]⟩ ∧ y = .str z ∧ Q (.bl (decide (c ∈ z.cps.toList))) H
def rNotInS : R2 := fun x y H Q => ∃ (c : Nat) (z : Str), x = .str ⟨#[c]⟩ ∧ y = .str z ∧ Q (.bl (!decide (c ∈ z.cps.toList))) H
def rIsN : R2 := fun x y H Q => y = .non ∧ Q (.bl (decide (x = .non))) H
def rNotN : R2 := fun x y H Q => y = .non ∧ Q (.bl (!decide (x = .non))) H
def rAbs : List V → Hp → VK → Prop := fun xs H Q => ∃ i, xs = [.int i] ∧ Q (.int (if i < 0 then -i else i)) H
def rMax2 : List V → Hp → VK → Prop := fun xs H Q => ∃ i j, xs = [.int i, .int j] ∧ Q (.int (if j > i then j else i)) H
def rMin2 : List V → Hp → VK → Prop := fun xs H Q => ∃ i j, xs = [.int i, .int j] ∧ Q (.int (if j < i then j else i)) H
def rInt1 : List V → Hp → VK → Prop := fun xs H Q => (∃ i, xs = [.int i] ∧ Q (.int i) H) ∨ ∃ k, xs = [.bl k] ∧ Q (.int (if k then 1 else 0)) H
def rStr1 : List V → Hp → VK → Prop := fun xs H Q => ∃ i, xs = [.int i] ∧ i.natAbs.log2 < 1920 ∧ Q (.str (toString i)) H
def rOrd : List V → Hp → VK → Prop := fun xs H Q => ∃ x, xs = [.str x] ∧ x.length = 1 ∧ Q (.int (x.cps.getD 0 0 : Nat)) H
def rChr : List V → Hp → VK → Prop := fun xs H Q => ∃ i, xs = [.int i] ∧ 0 ≤ i ∧ i ≤ 1114111 ∧ Q (.str ⟨#[i.toNat]⟩) H
def rJoin (K : PySem.W.Frag) : V → List V → Hp → VK → Prop := fun x xs H Q => ∃ a p, ∃ ys : List Str, x = .str a ∧ xs = [.ref p] ∧ (SqL K H p (ys.map V.str) ∨ SqT K H p (ys.map V.str)) ∧
  (ys.map (·.length)).sum + ys.length * a.length ≤ 16777216 ∧ Q (.str (Txt.join a ys)) H
def rSplit : V → List V → Hp → VK → Prop := fun x xs H Q => ∃ a b, x = .str a ∧ xs = [.str b] ∧ (b.length == 0) = false ∧ a.length + 2 ≤ sizeLine ∧ rNewStrs (Txt.split a b) H Q
section
variable {X : Cx}
theorem c_len : CallR X (.builtin "len") (rLen X.K) := call_len_seq
theorem c_lenS : CallR X (.builtin "len") rLenS := call_len_str
theorem c_list : CallR X (.type "list") (rListOf X.K) := call_list_of
theorem c_tuple : CallR X (.type "tuple") (rTupOf X.K) := call_tuple_of
theorem o_addS : OpR X (binaryOp .Add) rAddS := op_add_str
theorem o_inS : OpR X (compareOp .In) rInS := op_in_sign
theorem o_notInS : OpR X (compareOp .NotIn) rNotInS := op_notIn_sign
theorem o_isN : OpR X (compareOp .Is) rIsN := op_isN
theorem o_notN : OpR X (compareOp .IsNot) rNotN := op_notN
theorem c_abs : CallR X (.builtin "abs") rAbs := call_abs
theorem c_max2 (hc : X.calm = true) : CallR X (.builtin "max") rMax2 := call_max2 hc
theorem c_min2 (hc : X.calm = true) : CallR X (.builtin "min") rMin2 := call_min2 hc
theorem c_int1 : CallR X (.type "int") rInt1 := call_int1
theorem c_str1 : CallR X (.type "str") rStr1 := call_str_int
theorem c_ord : CallR X (.builtin "ord") rOrd := call_ord
theorem c_chr : CallR X (.builtin "chr") rChr := call_chr
theorem e_join {o e : Expr} {to te : TE} {apos pos : Pos} (ho : PE X o to) (he : PE X e te) (hs : starEach [e] X.env = [(false, eval e X.env)] := by rfl) (hbase : attributeBase o "join" X.env (eval o X.env) = eval o X.env := by rfl) (hline : (apos.endLine == pos.line) = true := by rfl) :
    PE X (.Call (.Attribute o "join" apos) [e] [] pos) (tM1 (rJoin X.K) to te) := pe_join ho he hs hbase hline
theorem e_split {o e : Expr} {to te : TE} {apos pos : Pos} (ho : PE X o to) (he : PE X e te) (hs : starEach [e] X.env = [(false, eval e X.env)] := by rfl) (hbase : attributeBase o "split" X.env (eval o X.env) = eval o X.env := by rfl) (hline : (apos.endLine == pos.line) = true := by rfl) :
    PE X (.Call (.Attribute o "split" apos) [e] [] pos) (tM1 rSplit to te) := pe_split ho he hs hbase hline
end
def D0 (Q : VK) : Ends := { nx := fun _ H' => Q .non H', rt := Q }
def Dl (D : Ends) (N : L2.St → Hp → Prop) : Ends := { D with nx := N, ct := N, bk := D.nx }
theorem dI {i j : Int} : decide (V.int i = V.int j) = decide (i = j) := by rw [dec_int, Bool.beq_eq_decide_eq]
theorem dB {i j : Bool} : decide (V.bl i = V.bl j) = decide (i = j) := by rw [dec_bl, Bool.beq_eq_decide_eq]
theorem dS {i j : Str} : decide (V.str i = V.str j) = decide (i = j) := by rw [dec_str, Bool.beq_eq_decide_eq]
theorem in_two (x a b : Str) : inV (.str x) [.str a, .str b] = decide (x = a ∨ x = b) := by
  show (a == x || (b == x || false)) = _
  rw [Bool.or_false, Bool.beq_eq_decide_eq, Bool.beq_eq_decide_eq]
  by_cases h1 : x = a
  · rw [decide_eq_true (Or.inl h1 : x = a ∨ x = b), decide_eq_true h1.symm]; rfl
  · by_cases h2 : x = b
    · rw [decide_eq_true (Or.inr h2 : x = a ∨ x = b), decide_eq_true h2.symm, Bool.or_true]
    · rw [decide_eq_false (fun z : a = x => h1 z.symm), decide_eq_false (fun z : b = x => h2 z.symm), decide_eq_false (fun z : x = a ∨ x = b => z.elim h1 h2)]; rfl
section
variable {X : Cx} {K : PySem.W.Frag}
theorem k_len (hK : X.K = K := by rfl) : CallR X (.builtin "len") (rLen K) := by subst hK; exact c_len
theorem k_list (hK : X.K = K := by rfl) : CallR X (.type "list") (rListOf K) := by subst hK; exact c_list
theorem k_tuple (hK : X.K = K := by rfl) : CallR X (.type "tuple") (rTupOf K) := by subst hK; exact c_tuple
theorem k_isi (hK : X.K = K := by rfl) : CallR X (.builtin "isinstance") (rIsi K) := by subst hK; exact call_isi
theorem k_isiT (hK : X.K = K := by rfl) : CallR X (.builtin "isinstance") (rIsiT K) := by subst hK; exact call_isiT
theorem k_sum (hc : X.calm = true) (hK : X.K = K := by rfl) : CallR X (.builtin "sum") (rSum K) := by subst hK; exact cr_sum hc
theorem k_ixL (hK : X.K = K := by rfl) : IxR X (rIxL K) := by subst hK; exact ix_list
theorem k_ixT (hK : X.K = K := by rfl) : IxR X (rIxT K) := by subst hK; exact ix_tup
theorem k_slL (hK : X.K = K := by rfl) : SlR X (rSlL K) := by subst hK; exact sl_list
theorem k_slT (hK : X.K = K := by rfl) : SlR X (rSlT K) := by subst hK; exact sl_tup
theorem k_slA (hK : X.K = K := by rfl) : SlR X (rSlA K) := by subst hK; exact sl_tupA
theorem k_in (hK : X.K = K := by rfl) : OpR X (compareOp .In) (rIn K false) := by subst hK; exact op_in_seq
theorem k_notIn (hK : X.K = K := by rfl) : OpR X (compareOp .NotIn) (rIn K true) := by subst hK; exact op_notIn_seq
theorem k_catA (hK : X.K = K := by rfl) : OpR X (binaryOp .Add) (rCatA K) := by subst hK; exact op_catA
theorem k_eqD (hu : X.A.units + 64 < cLine) (hK : X.K = K := by rfl) : OpR X (compareOp .Eq) (rEqD K) := by subst hK; exact op_eqD hu
theorem k_neD (hu : X.A.units + 64 < cLine) (hK : X.K = K := by rfl) : OpR X (compareOp .NotEq) (rNeD K) := by subst hK; exact op_neD hu
theorem k_fld {e : Expr} {f : Str} {pos : Pos} {ta : TE} (he : PE X e ta) (hb : attributeBase e f X.env (eval e X.env) = eval e X.env) (hK : X.K = K := by rfl) : PE X (.Attribute e f pos) (tFld K ta f) := by subst hK; exact pe_fld he hb
theorem k_piL {tg l : Expr} {tl : TE} (hl : PE X l tl) (hK : X.K = K := by rfl) : PI X tg l (iList K tl) := by subst hK; exact pi_list hl
theorem k_piT {tg l : Expr} {tl : TE} (hl : PE X l tl) (hK : X.K = K := by rfl) : PI X tg l (iTup K tl) := by subst hK; exact pi_tup hl
theorem k_join {o e : Expr} {to te : TE} {apos pos : Pos} (ho : PE X o to) (he : PE X e te) (hs : starEach [e] X.env = [(false, eval e X.env)] := by rfl) (hbase : attributeBase o "join" X.env (eval o X.env) = eval o X.env := by rfl) (hline : (apos.endLine == pos.line) = true := by rfl) (hK : X.K = K := by rfl) :
    PE X (.Call (.Attribute o "join" apos) [e] [] pos) (tM1 (rJoin K) to te) := by subst hK; exact e_join ho he hs hbase hline
end
def tTru (K : PySem.W.Frag) (ta : TE) : TT := fun σ H Q => ta σ H fun x H' => ∃ k, TruV K x H' k ∧ Q k H'
theorem k_tru {X : Cx} {K : PySem.W.Frag} {a : Expr} {ta : TE} (ha : PE X a ta) (he : ∀ whole, isTrue a X.env whole = (do let v ← whole; standAt a.pos; holding [v] (truthy v))) (hK : X.K = K := by rfl) : PT X a (tTru K ta) := by
  subst hK; exact pt_truth ha he
def Dn (D : Ends) (f : L2.St → Hp → Prop) : Ends := { D with nx := f }
section
variable {K : PySem.W.Frag} {D : Ends} {σ : L2.St} {H : Hp} {Q : VK} {QB : Bool → Hp → Prop} {QA : List V → Hp → Prop} {f f1 : L2.St → Hp → Prop} {b c : VK} {v x y : V} {i j : Int} {t t1 t2 u : TS} {ta tb tc te : TE} {tt tt1 tt2 : TT} {r r' : R2} {n : Nat} {p : Addr} {xs : List V} {vs : List V}
theorem g_seq (h : t (Dn D (u D)) σ H) : tSeq t u D σ H := h
theorem g_cut (Mid : L2.St → Hp → Prop) (h : t (Dn D Mid) σ H) (k : ∀ σ' H', Mid σ' H' → u D σ' H') : C8.tCut t u D σ H := ⟨Mid, h, k⟩
theorem g_mid (M : L2.St → Hp → Prop) (mono : ∀ (f1 f2 : L2.St → Hp → Prop), (∀ σ H, f1 σ H → f2 σ H) → t (Dn D f1) σ H → t (Dn D f2) σ H) (h : t (Dn D M) σ H) (k : ∀ σ H, M σ H → u D σ H) : tSeq t u D σ H := mono _ _ k h
theorem g_next (h : D.nx σ H) : tNext D σ H := h
theorem g_nx (h : f σ H) : (Dn D f).nx σ H := h
theorem g_rt (h : D.rt v H) : (Dn D f).rt v H := h
theorem g_rt0 (h : Q v H) : (D0 Q).rt v H := h
theorem g_nx0 (h : Q .non H) : (D0 Q).nx σ H := h
theorem g_lnx (h : f σ H) : (Dl D f).nx σ H := h
theorem g_lct (h : f σ H) : (Dl D f).ct σ H := h
theorem g_lbk (h : D.nx σ H) : (Dl D f).bk σ H := h
theorem g_lrt (h : D.rt v H) : (Dl D f).rt v H := h
theorem g_bk (h : D.bk σ H) : (Dn D f).bk σ H := h
theorem g_ct (h : D.ct σ H) : (Dn D f).ct σ H := h
theorem g_break (h : D.bk σ H) : tBreak D σ H := h
theorem g_cont (h : D.ct σ H) : tCont D σ H := h
theorem g_asg {g : TG} (h : te σ H fun x H1 => g x σ H1 D.nx) : tAsg te g D σ H := h
theorem g_name (h : f (σ.set n (some v)) H) : gName n v σ H f := h
theorem g_sub {to ti : TE} {ts : TSet} (h : to σ H fun o H1 => ti σ H1 fun i H2 => ts o i v H2 fun H3 => f σ H3) : gSub to ti ts v σ H f := h
theorem g_setL {k : Int} {m : Nat} {F : Hp → Prop} (h : H p = some (.lst xs)) (a : ixN xs.length k = some m) (q : F (upd H p (.lst (xs.set m v)))) : rSetL (.ref p) (.int k) v H F := ⟨p, xs, k, m, rfl, rfl, h, a, q⟩
theorem g_ret (h : te σ H D.rt) : tRet te D σ H := h
theorem g_retN (h : D.rt .non H) : tRetN D σ H := h
theorem g_drop (h : te σ H fun _ H1 => D.nx σ H1) : tDrop te D σ H := h
theorem g_ifs (h : tt σ H fun b H1 => if b = true then t D σ H1 else u D σ H1) : tIfS tt t u D σ H := h
theorem g_aug {ti : TIp} (a : σ[n]? = some (some x)) (h : te σ H fun y H1 => ti x y H1 fun z H2 => D.nx (σ.set n (some z)) H2) : tAug n te ti D σ H := ⟨x, a, h⟩
theorem g_ipI {g : Int → Int → Int} (h : Q (.int (g i j)) H) : ipI g (.int i) (.int j) H Q := ⟨i, j, rfl, rfl, h⟩
theorem g_augS {to ti : TE} {tget : V → V → Hp → VK → Prop} {tip : TIp} {ts : TSet} (h : to σ H fun o H1 => ti σ H1 fun i H2 => tget o i H2 fun x H3 => te σ H3 fun y H4 => tip x y H4 fun z H5 => ts o i z H5 fun H6 => D.nx σ H6) : tAugS to ti te tget tip ts D σ H := h
theorem g_var (h : σ[n]? = some (some v)) (q : Q v H) : tVar n σ H Q := ⟨v, h, q⟩
theorem g_c (q : Q v H) : tC v σ H Q := q
theorem g_op (h : ta σ H fun x H1 => tb σ H1 fun y H2 => r x y H2 Q) : tOp r ta tb σ H Q := h
theorem g_un {r : V → Hp → VK → Prop} (h : ta σ H fun x H1 => r x H1 Q) : tUn r ta σ H Q := h
theorem g_neg (h : Q (.int (-i)) H) : rU (fun i => .int (-i)) (.int i) H Q := ⟨i, rfl, h⟩
theorem g_chain (h : ta σ H fun x H1 => tb σ H1 fun y H2 => r x y H2 fun z H3 => ∃ k, z = .bl k ∧ (if k = true then tc σ H3 fun w' H4 => r' y w' H4 Q else Q (.bl false) H3)) : tChain r r' ta tb tc σ H Q := h
theorem g_ch {A B : Bool → Prop} {k : Bool} (h : if k = true then A k else B k) : ∃ c, V.bl k = .bl c ∧ (if c = true then A c else B c) := ⟨k, rfl, h⟩
theorem g_test (h : te σ H fun x H1 => ∃ k, x = .bl k ∧ QB k H1) : tTest te σ H QB := h
theorem g_tB (h : te σ H fun x H1 => ∃ k, x = .bl k ∧ QB k H1) : tB te σ H QB := h
theorem g_kb {A : Bool → Prop} {k : Bool} (h : A k) : ∃ c, V.bl k = .bl c ∧ A c := ⟨k, rfl, h⟩
theorem g_and (h : tt1 σ H fun c H1 => if c = true then tt2 σ H1 QB else QB false H1) : tAnd tt1 tt2 σ H QB := h
theorem g_or (h : tt1 σ H fun c H1 => if c = true then QB true H1 else tt2 σ H1 QB) : tOr tt1 tt2 σ H QB := h
theorem g_not (h : tt σ H fun c H1 => QB (!c) H1) : tNot tt σ H QB := h
theorem g_andV (h : ta σ H fun x H1 => ∃ c, x = .bl c ∧ if c = true then tb σ H1 Q else Q (.bl false) H1) : tAndV ta tb σ H Q := h
theorem g_orV (h : ta σ H fun x H1 => ∃ c, x = .bl c ∧ if c = true then Q (.bl true) H1 else tb σ H1 Q) : tOrV ta tb σ H Q := h
theorem g_notV (h : ta σ H fun x H1 => ∃ c, x = .bl c ∧ Q (.bl (!c)) H1) : tNotV ta σ H Q := h
theorem g_if (h : tt σ H fun c H1 => if c = true then ta σ H1 Q else tb σ H1 Q) : tIf tt ta tb σ H Q := h
theorem g_T {A B : Prop} (h : A) : if true = true then A else B := iteT h
theorem g_F {A B : Prop} (h : B) : if false = true then A else B := iteF h
theorem g_nF {A B : Prop} (h : A) : if (!false) = true then A else B := iteT h
theorem g_nT {A B : Prop} (h : B) : if (!true) = true then A else B := iteF h
theorem g_dec {P A B : Prop} [Decidable P] (h1 : P → A) (h2 : ¬ P → B) : if decide P = true then A else B := ite2 (fun h => h1 (of_decide_eq_true h)) (fun h => h2 (fun z => h (decide_eq_true z)))
theorem g_ndec {P A B : Prop} [Decidable P] (h1 : ¬ P → A) (h2 : P → B) : if (!decide P) = true then A else B := by
  by_cases h : P
  · rw [decide_eq_true h]; exact iteF (h2 h)
  · rw [decide_eq_false h]; exact iteT (h1 h)
theorem g_decT {P A B : Prop} [Decidable P] (h : P) (a : A) : if decide P = true then A else B := g_dec (fun _ => a) (fun z => absurd h z)
theorem g_decF {P A B : Prop} [Decidable P] (h : ¬ P) (a : B) : if decide P = true then A else B := g_dec (fun z => absurd z h) (fun _ => a)
theorem g_ndecF {P A B : Prop} [Decidable P] (h : P) (a : B) : if (!decide P) = true then A else B := g_ndec (fun z => absurd h z) (fun _ => a)
theorem g_ndecT {P A B : Prop} [Decidable P] (h : ¬ P) (a : A) : if (!decide P) = true then A else B := g_ndec (fun _ => a) (fun z => absurd z h)
theorem g_nbl {k : Bool} {A B : Prop} (h : if k = true then B else A) : if (!k) = true then A else B := by cases k <;> exact h
theorem g_bl {k : Bool} {A B : Prop} (h1 : k = true → A) (h2 : k = false → B) : if k = true then A else B := by
  cases k
  · exact iteF (h2 rfl)
  · exact iteT (h1 rfl)
theorem g_nil (q : QA [] H) : tNil σ H QA := q
theorem g_cons {tr : TA} (h : ta σ H fun x H1 => tr σ H1 fun xs H2 => QA (x :: xs) H2) : tCons ta tr σ H QA := h
theorem g_tup {t : TA} (h : t σ H fun xs H1 => xs.length ≤ sizeLine ∧ ∀ p, H1 p = none → Q (.ref p) (upd H1 p (.tup xs))) : tTup t σ H Q := h
theorem g_lst {t : TA} (h : t σ H fun xs H1 => xs.length ≤ sizeLine ∧ ∀ p, H1 p = none → Q (.ref p) (upd H1 p (.lst xs))) : tLst t σ H Q := h
theorem g_new {A : Prop} (h : xs.length ≤ 1000) (q : A) : xs.length ≤ sizeLine ∧ A := ⟨sz (Nat.le_trans h (by decide)), q⟩
theorem g_call {sp : Sp} {dvs : List V} {E : XK} {t : TA} (h : t σ H fun vs H1 => sp (vs ++ dvs) H1 Q E) : tCall sp dvs E t σ H Q := h
theorem g_meth {C : Addr} {m : Str} {sp : Sp} {dvs : List V} {E : XK} {t : TA} (h : ta σ H fun x H1 => ∃ a dx fs, x = .ref a ∧ H1 a = some (.ins C dx fs) ∧ fs.lookup m = none ∧ t σ H1 fun vs H2 => sp (x :: (vs ++ dvs)) H2 Q E) : tMeth C m sp dvs E ta t σ H Q := h
theorem g_m {C a dx : Addr} {fs : List (Str × V)} {m : Str} {B : Prop} (h : H a = some (.ins C dx fs)) (l : fs.lookup m = none) (q : B) : ∃ a' dx fs, V.ref a = .ref a' ∧ H a' = some (.ins C dx fs) ∧ fs.lookup m = none ∧ B := ⟨a, dx, fs, rfl, h, l, q⟩
theorem g_make {C : Addr} {sp : Sp} {dvs : List V} {E : XK} {t : TA} (h : t σ H fun vs H1 => ∀ x dx, H1 x = none → H1 dx = none → dx ≠ x → sp (.ref x :: (vs ++ dvs)) (upd (upd H1 dx (.own x)) x (.ins C dx [])) (fun v H2 => v = .non ∧ Q (.ref x) H2) E) : tMake C sp dvs E t σ H Q := h
theorem g_fld {F : Str} (h : ta σ H fun x H1 => ∃ a C dx fs v, x = .ref a ∧ H1 a = some (.ins C dx fs) ∧ Cls K C ∧ NoAttr K C F ∧ fs.lookup F = some v ∧ Q v H1) : tFld K ta F σ H Q := h
theorem g_fl {a C dx : Addr} {fs : List (Str × V)} {F : Str} {B : V → Prop} (h : H a = some (.ins C dx fs)) (c : Cls K C) (nn : NoAttr K C F) (l : fs.lookup F = some v) (q : B v) : ∃ a' C dx fs v, V.ref a = .ref a' ∧ H a' = some (.ins C dx fs) ∧ Cls K C ∧ NoAttr K C F ∧ fs.lookup F = some v ∧ B v := ⟨a, C, dx, fs, v, rfl, h, c, nn, l, q⟩
theorem g_sfld {tv : TE} {F : Str} (h : tv σ H fun y H1 => ta σ H1 fun x H2 => ∃ a C dx fs, x = .ref a ∧ H2 a = some (.ins C dx fs) ∧ Cls K C ∧ NoAttr K C F ∧ fs.length < 1000 ∧ D.nx σ (upd H2 a (.ins C dx (putF F y fs)))) : sFld K ta tv F D σ H := h
theorem g_sf {a C dx : Addr} {fs : List (Str × V)} {F : Str} {B : Addr → Addr → Addr → List (Str × V) → Prop} (h : H a = some (.ins C dx fs)) (c : Cls K C) (nn : NoAttr K C F) (l : fs.length < 1000) (q : B a C dx fs) : ∃ a' C dx fs, V.ref a = .ref a' ∧ H a' = some (.ins C dx fs) ∧ Cls K C ∧ NoAttr K C F ∧ fs.length < 1000 ∧ B a' C dx fs := ⟨a, C, dx, fs, rfl, h, c, nn, l, q⟩
theorem g_cb {r : List V → Hp → VK → Prop} {t : TA} (h : t σ H fun vs H1 => r vs H1 Q) : tCB r t σ H Q := h
theorem g_ixL (h : SqL K H p xs) (a : atI xs i = some v) (q : Q v H) : rIxL K (.ref p) (.int i) H Q := ⟨p, xs, i, v, rfl, rfl, h, a, q⟩
theorem g_ixT (h : SqT K H p xs) (a : atI xs i = some v) (q : Q v H) : rIxT K (.ref p) (.int i) H Q := ⟨p, xs, i, v, rfl, rfl, h, a, q⟩
theorem g_ixS {z : Str} {k : Nat} (h : z.length ≤ sizeLine) (a : atI z.cps.toList i = some k) (q : Q (.str ⟨#[k]⟩) H) : rIxS (.str z) (.int i) H Q := ⟨z, i, k, rfl, rfl, h, a, q⟩
theorem g_lenL (h : SqL K H p xs) (q : Q (.int xs.length) H) : rLen K [.ref p] H Q := ⟨p, xs, rfl, .inl h, q⟩
theorem g_lenT (h : SqT K H p xs) (q : Q (.int xs.length) H) : rLen K [.ref p] H Q := ⟨p, xs, rfl, .inr h, q⟩
theorem g_lenS {z : Str} (h : z.length ≤ sizeLine) (q : Q (.int z.length) H) : rLenS [.str z] H Q := ⟨z, rfl, h, q⟩
theorem g_listL (h : SqL K H p xs) (q : ∀ l, H l = none → Q (.ref l) (upd H l (.lst xs))) : rListOf K [.ref p] H Q := ⟨p, xs, rfl, .inl h, q⟩
theorem g_listT (h : SqT K H p xs) (q : ∀ l, H l = none → Q (.ref l) (upd H l (.lst xs))) : rListOf K [.ref p] H Q := ⟨p, xs, rfl, .inr h, q⟩
theorem g_tupL (h : SqL K H p xs) (q : ∀ l, H l = none → Q (.ref l) (upd H l (.tup xs))) : rTupOf K [.ref p] H Q := ⟨p, xs, rfl, .inl ⟨h, q⟩⟩
theorem g_tupT (h : SqT K H p xs) (q : Q (.ref p) H) : rTupOf K [.ref p] H Q := ⟨p, xs, rfl, .inr ⟨h, q⟩⟩
theorem g_addS {a b : Str} (h : a.length + b.length ≤ sizeLine) (q : Q (.str (a ++ b)) H) : rAddS (.str a) (.str b) H Q := ⟨a, b, rfl, rfl, h, q⟩
theorem g_inS {k : Nat} {z : Str} (q : Q (.bl (decide (k ∈ z.cps.toList))) H) : rInS (.str ⟨#[k]⟩) (.str z) H Q := ⟨k, z, rfl, rfl, q⟩
theorem g_notInS {k : Nat} {z : Str} (q : Q (.bl (!decide (k ∈ z.cps.toList))) H) : rNotInS (.str ⟨#[k]⟩) (.str z) H Q := ⟨k, z, rfl, rfl, q⟩
theorem g_inV {neg : Bool} (h : SqL K H p xs ∨ SqT K H p xs) (hx : flatV x = true) (hs : xs.all flatV = true) (q : Q (.bl (if neg then !inV x xs else inV x xs)) H) : rIn K neg x (.ref p) H Q := ⟨p, xs, rfl, h, hx, hs, q⟩
theorem g_isN (q : Q (.bl (decide (x = .non))) H) : rIsN x .non H Q := ⟨rfl, q⟩
theorem g_isNn (q : Q (.bl true) H) : rIsN .non .non H Q := ⟨rfl, q⟩
theorem g_isNi (q : Q (.bl false) H) : rIsN (.int i) .non H Q := ⟨rfl, q⟩
theorem g_isNb {k : Bool} (q : Q (.bl false) H) : rIsN (.bl k) .non H Q := ⟨rfl, q⟩
theorem g_isNs {z : Str} (q : Q (.bl false) H) : rIsN (.str z) .non H Q := ⟨rfl, q⟩
theorem g_isNr (q : Q (.bl false) H) : rIsN (.ref p) .non H Q := ⟨rfl, q⟩
theorem g_notNn (q : Q (.bl false) H) : rNotN .non .non H Q := ⟨rfl, q⟩
theorem g_notNi (q : Q (.bl true) H) : rNotN (.int i) .non H Q := ⟨rfl, q⟩
theorem g_notNb {k : Bool} (q : Q (.bl true) H) : rNotN (.bl k) .non H Q := ⟨rfl, q⟩
theorem g_notNs {z : Str} (q : Q (.bl true) H) : rNotN (.str z) .non H Q := ⟨rfl, q⟩
theorem g_notNr (q : Q (.bl true) H) : rNotN (.ref p) .non H Q := ⟨rfl, q⟩
theorem g_isB {k : Bool} (q : Q (.bl (decide (x = .bl k))) H) : rIsBl false x (.bl k) H Q := ⟨k, rfl, q⟩
theorem g_abs (q : Q (.int (if i < 0 then -i else i)) H) : rAbs [.int i] H Q := ⟨i, rfl, q⟩
theorem g_max2 (q : Q (.int (if j > i then j else i)) H) : rMax2 [.int i, .int j] H Q := ⟨i, j, rfl, q⟩
theorem g_min2 (q : Q (.int (if j < i then j else i)) H) : rMin2 [.int i, .int j] H Q := ⟨i, j, rfl, q⟩
theorem g_int1 (q : Q (.int i) H) : rInt1 [.int i] H Q := .inl ⟨i, rfl, q⟩
theorem g_intB {k : Bool} (q : Q (.int (if k then 1 else 0)) H) : rInt1 [.bl k] H Q := .inr ⟨k, rfl, q⟩
theorem g_I0 {g : Int → Int → V} (q : Q (g i j) H) : rI0 g (.int i) (.int j) H Q := ⟨i, j, rfl, rfl, q⟩
theorem g_I {C : Int → Int → Prop} {g : Int → Int → V} (c : C i j) (q : Q (g i j) H) : rI C g (.int i) (.int j) H Q := ⟨i, j, rfl, rfl, c, q⟩
theorem g_eqI (q : Q (.bl (decide (i = j))) H) : rEq (.int i) (.int j) H Q := ⟨rfl, by rw [dec_int, Bool.beq_eq_decide_eq]; exact q⟩
theorem g_eqS {a b : Str} (q : Q (.bl (decide (a = b))) H) : rEq (.str a) (.str b) H Q := ⟨rfl, by rw [dec_str, Bool.beq_eq_decide_eq]; exact q⟩
theorem g_eqB {a b : Bool} (q : Q (.bl (decide (a = b))) H) : rEq (.bl a) (.bl b) H Q := ⟨rfl, by rw [dec_bl, Bool.beq_eq_decide_eq]; exact q⟩
theorem g_neI (q : Q (.bl (!decide (i = j))) H) : rNe (.int i) (.int j) H Q := ⟨rfl, by rw [dec_int, Bool.beq_eq_decide_eq]; exact q⟩
theorem g_neS {a b : Str} (q : Q (.bl (!decide (a = b))) H) : rNe (.str a) (.str b) H Q := ⟨rfl, by rw [dec_str, Bool.beq_eq_decide_eq]; exact q⟩
theorem g_neB {a b : Bool} (q : Q (.bl (!decide (a = b))) H) : rNe (.bl a) (.bl b) H Q := ⟨rfl, by rw [dec_bl, Bool.beq_eq_decide_eq]; exact q⟩
theorem g_i_nn_bool (q : Q (.bl false) H) : rIsi K [.non, .ty "bool"] H Q := isi TyOf.non kb_nn_bool q
theorem g_i_nn_int (q : Q (.bl false) H) : rIsi K [.non, .ty "int"] H Q := isi TyOf.non kb_nn_int q
theorem g_i_nn_str (q : Q (.bl false) H) : rIsi K [.non, .ty "str"] H Q := isi TyOf.non kb_nn_str q
theorem g_i_bl_bool {k : Bool} (q : Q (.bl true) H) : rIsi K [.bl k, .ty "bool"] H Q := isi (TyOf.bl _) kb_bl_bool q
theorem g_i_bl_int {k : Bool} (q : Q (.bl true) H) : rIsi K [.bl k, .ty "int"] H Q := isi (TyOf.bl _) kb_bl_int q
theorem g_i_bl_str {k : Bool} (q : Q (.bl false) H) : rIsi K [.bl k, .ty "str"] H Q := isi (TyOf.bl _) kb_bl_str q
theorem g_i_int_bool (q : Q (.bl false) H) : rIsi K [.int i, .ty "bool"] H Q := isi (TyOf.int _) kb_int_bool q
theorem g_i_int_int (q : Q (.bl true) H) : rIsi K [.int i, .ty "int"] H Q := isi (TyOf.int _) kb_int_int q
theorem g_i_int_str (q : Q (.bl false) H) : rIsi K [.int i, .ty "str"] H Q := isi (TyOf.int _) kb_int_str q
theorem g_i_str_bool {z : Str} (q : Q (.bl false) H) : rIsi K [.str z, .ty "bool"] H Q := isi (TyOf.str _) kb_str_bool q
theorem g_i_str_int {z : Str} (q : Q (.bl false) H) : rIsi K [.str z, .ty "int"] H Q := isi (TyOf.str _) kb_str_int q
theorem g_i_str_str {z : Str} (q : Q (.bl true) H) : rIsi K [.str z, .ty "str"] H Q := isi (TyOf.str _) kb_str_str q
theorem g_isi {n : String} (h : rIsi K [x, .ty n] H Q) : rIsi K [x, .ty n] H Q := h
theorem g_part {QO : Option Int → Hp → Prop} (h : te σ H fun x H1 => ∃ i, x = .int i ∧ QO (some i) H1) : tPart te σ H QO := h
theorem g_pi {A : Int → Prop} (h : A i) : ∃ k, V.int i = .int k ∧ A k := ⟨i, rfl, h⟩
theorem g_nopart {QO : Option Int → Hp → Prop} (h : QO none H) : tNoPart σ H QO := h
theorem g_sl {r : V → Option Int → Option Int → Hp → VK → Prop} {tl th : TO} (h : te σ H fun x H1 => tl σ H1 fun l H2 => th σ H2 fun u H3 => r x l u H3 Q) : tSl r te tl th σ H Q := h
theorem g_slL {lo hi : Option Int} (h : SqL K H p xs) (q : ∀ l, H l = none → Q (.ref l) (upd H l (.lst (cutV xs lo hi)))) : rSlL K (.ref p) lo hi H Q := ⟨p, xs, rfl, h, q⟩
theorem g_cat {p q : Addr} {zs : List V} (h : H p = some (.lst xs)) (h2 : H q = some (.lst zs)) (l : xs.length + zs.length ≤ sizeLine) (k : ∀ l, H l = none → Q (.ref l) (upd H l (.lst (xs ++ zs)))) : rCat (.ref p) (.ref q) H Q := ⟨p, q, xs, zs, rfl, rfl, h, h2, l, k⟩
theorem g_bm {T : String} {r : V → List V → Hp → VK → Prop} {to : TE} {t : TA} (h : to σ H fun x H1 => tyV K T x H1 ∧ t σ H1 fun xs H2 => r x xs H2 Q) : tBM K T r to t σ H Q := h
theorem g_bm0 {T : String} {r : V → List V → Hp → VK → Prop} {to : TE} (h : to σ H fun x H1 => tyV K T x H1 ∧ r x [] H1 Q) : tBM0 K T r to σ H Q := h
theorem g_tyL {B : Prop} (h : SqL K H p xs) (q : B) : tyV K "list" (.ref p) H ∧ B := ⟨.inl ⟨rfl, _, h⟩, q⟩
theorem g_append (h : H p = some (.lst xs)) (l : xs.length < sizeLine) (q : Q .non (upd H p (.lst (xs ++ [v])))) : rAppend (.ref p) [v] H Q := ⟨p, xs, v, rfl, rfl, h, l, q⟩
theorem g_m1 {r : V → List V → Hp → VK → Prop} {to : TE} (h : to σ H fun x H1 => (∃ a, x = .str a) ∧ te σ H1 fun y H2 => r x [y] H2 Q) : tM1 r to te σ H Q := h
theorem g_str {z : Str} {B : Prop} (q : B) : (∃ a, V.str z = .str a) ∧ B := ⟨⟨z, rfl⟩, q⟩
theorem g_for {wi : TI} {g : TG} (h : wi σ H fun J H1 => ∃ W : Nat → Nat → L2.St → Hp → Prop, (∃ m, W 0 m σ H1) ∧ ∀ i m σ H, W i m σ H →
  (J.stop i H ∧ D.nx σ H) ∨ (J.go i H ∧ ∃ N : L2.St → Hp → Prop, (∀ σ' H', N σ' H' → ∃ m', m' < m ∧ W (i + 1) m' σ' H') ∧ ∀ x H', J.yld i H x H' → g x σ H' fun σ2 H2 => t (Dl D N) σ2 H2)) : tFor wi g t D σ H := h
theorem g_forR {lo : Int} {m : Nat} {g : TG} (Pv : Nat → L2.St → Hp → Prop) (h0 : Pv 0 σ H) (hs : ∀ i σ H, i < m → Pv i σ H → g (.int (lo + i)) σ H fun σ2 H2 => t (Dl D (Pv (i + 1))) σ2 H2) (hd : ∀ σ H, Pv m σ H → D.nx σ H) :
    ∃ W : Nat → Nat → L2.St → Hp → Prop, (∃ m, W 0 m σ H) ∧ ∀ i m' σ H, W i m' σ H →
      ((Itr lo m).stop i H ∧ D.nx σ H) ∨ ((Itr lo m).go i H ∧ ∃ N : L2.St → Hp → Prop, (∀ σ' H', N σ' H' → ∃ m'', m'' < m' ∧ W (i + 1) m'' σ' H') ∧ ∀ x H', (Itr lo m).yld i H x H' → g x σ H' fun σ2 H2 => t (Dl D N) σ2 H2) := for_range (D := D) Pv h0 hs hd
theorem g_forL {g : TG} (Pv : Nat → L2.St → Hp → Prop) (h0 : Pv 0 σ H) (hl : ∀ i σ H, i ≤ xs.length → Pv i σ H → SqL K H p xs) (hs : ∀ i x σ H, xs[i]? = some x → Pv i σ H → g x σ H fun σ2 H2 => t (Dl D (Pv (i + 1))) σ2 H2) (hd : ∀ σ H, Pv xs.length σ H → D.nx σ H) :
    ∃ W : Nat → Nat → L2.St → Hp → Prop, (∃ m, W 0 m σ H) ∧ ∀ i m' σ H, W i m' σ H →
      ((Itl K p).stop i H ∧ D.nx σ H) ∨ ((Itl K p).go i H ∧ ∃ N : L2.St → Hp → Prop, (∀ σ' H', N σ' H' → ∃ m'', m'' < m' ∧ W (i + 1) m'' σ' H') ∧ ∀ x H', (Itl K p).yld i H x H' → g x σ H' fun σ2 H2 => t (Dl D N) σ2 H2) := for_list (D := D) Pv h0 hl hs hd
theorem g_forT {g : TG} (Pv : Nat → L2.St → Hp → Prop) (h0 : Pv 0 σ H) (hl : ∀ i σ H, i ≤ xs.length → Pv i σ H → SqT K H p xs) (hs : ∀ i x σ H, xs[i]? = some x → Pv i σ H → g x σ H fun σ2 H2 => t (Dl D (Pv (i + 1))) σ2 H2) (hd : ∀ σ H, Pv xs.length σ H → D.nx σ H) :
    ∃ W : Nat → Nat → L2.St → Hp → Prop, (∃ m, W 0 m σ H) ∧ ∀ i m' σ H, W i m' σ H →
      ((Itt K p).stop i H ∧ D.nx σ H) ∨ ((Itt K p).go i H ∧ ∃ N : L2.St → Hp → Prop, (∀ σ' H', N σ' H' → ∃ m'', m'' < m' ∧ W (i + 1) m'' σ' H') ∧ ∀ x H', (Itt K p).yld i H x H' → g x σ H' fun σ2 H2 => t (Dl D N) σ2 H2) := for_tup (D := D) Pv h0 hl hs hd
theorem g_iRng1 {R : It → Hp → Prop} {t : TA} (h : t σ H fun vs H1 => ∃ j : Int, vs = [.int j] ∧ -(2 ^ 62) ≤ j ∧ j < 2 ^ 62 ∧ R (Itr 0 j.toNat) H1) : iRng1 t σ H R := h
theorem g_r1 {B : Int → Prop} (h0 : -(2 ^ 62) ≤ i) (h1 : i < 2 ^ 62) (h : B i) : ∃ j : Int, [V.int i] = [.int j] ∧ -(2 ^ 62) ≤ j ∧ j < 2 ^ 62 ∧ B j := ⟨i, rfl, h0, h1, h⟩
theorem g_iRng2 {R : It → Hp → Prop} {t : TA} (h : t σ H fun vs H1 => ∃ i j : Int, vs = [.int i, .int j] ∧ (-(2 ^ 62) ≤ i ∧ i < 2 ^ 62 ∧ -(2 ^ 62) ≤ j ∧ j < 2 ^ 62) ∧ R (Itr i (j - i).toNat) H1) : iRng2 t σ H R := h
theorem g_r2 {B : Int → Int → Prop} (h0 : -(2 ^ 62) ≤ i ∧ i < 2 ^ 62 ∧ -(2 ^ 62) ≤ j ∧ j < 2 ^ 62) (h : B i j) : ∃ i' j' : Int, [V.int i, V.int j] = [.int i', .int j'] ∧ (-(2 ^ 62) ≤ i' ∧ i' < 2 ^ 62 ∧ -(2 ^ 62) ≤ j' ∧ j' < 2 ^ 62) ∧ B i' j' := ⟨i, j, rfl, h0, h⟩
theorem g_iList {R : It → Hp → Prop} (h : te σ H fun x H1 => ∃ a, x = .ref a ∧ (∃ xs, SqL K H1 a xs) ∧ R (Itl K a) H1) : iList K te σ H R := h
theorem g_il {B : Addr → Prop} (h : SqL K H p xs) (q : B p) : ∃ a, V.ref p = .ref a ∧ (∃ xs, SqL K H a xs) ∧ B a := ⟨p, rfl, ⟨xs, h⟩, q⟩
theorem g_iTup {R : It → Hp → Prop} (h : te σ H fun x H1 => ∃ a, x = .ref a ∧ (∃ xs, SqT K H1 a xs) ∧ R (Itt K a) H1) : iTup K te σ H R := h
theorem g_it {B : Addr → Prop} (h : SqT K H p xs) (q : B p) : ∃ a, V.ref p = .ref a ∧ (∃ xs, SqT K H a xs) ∧ B a := ⟨p, rfl, ⟨xs, h⟩, q⟩
theorem g_gtup {n : Nat} {u : TGs} (h : SqT K H p xs) (l : xs.length = n) (q : u xs σ H f) : gTup K n u (.ref p) σ H f := ⟨p, xs, rfl, h, l, q⟩
theorem g_gcons {g : TG} {u : TGs} {zs : List V} (q : g v σ H fun σ' H' => u zs σ' H' f) : gCons g u (v :: zs) σ H f := ⟨v, zs, rfl, q⟩
theorem g_gnil (q : f σ H) : gNil [] σ H f := ⟨rfl, q⟩
theorem g_isBn {k : Bool} (q : Q (.bl false) H) : rIsBl false .non (.bl k) H Q := ⟨k, rfl, q⟩
theorem g_isBb {k m : Bool} (q : Q (.bl (decide (m = k))) H) : rIsBl false (.bl m) (.bl k) H Q := ⟨k, rfl, by show Q (.bl (decide (V.bl m = V.bl k))) H; rw [dB]; exact q⟩
theorem g_isBi {k : Bool} (q : Q (.bl false) H) : rIsBl false (.int i) (.bl k) H Q := ⟨k, rfl, q⟩
theorem g_isBs {k : Bool} {z : Str} (q : Q (.bl false) H) : rIsBl false (.str z) (.bl k) H Q := ⟨k, rfl, q⟩
theorem g_catA {a b : Addr} {zs : List V} (h1 : SqT K H a xs) (h2 : H b = some (.tup zs)) (l : xs.length + zs.length ≤ sizeLine) (ne : zs ≠ []) (q : ∀ q H', Same H H' → H' q = some (.tup (xs ++ zs)) → Q (.ref q) H') : rCatA K (.ref a) (.ref b) H Q :=
  ⟨a, b, xs, zs, rfl, rfl, h1, .inl (.inl h2), l, fun e => q b H (Same.refl H) (by rw [e]; exact h2), fun _ z => absurd z ne, fun _ _ p np => q p _ (Same.new (Same.refl H) np) upd_same⟩
theorem g_tru (h : te σ H fun x H' => ∃ k, TruV K x H' k ∧ QB k H') : tTru K te σ H QB := h
theorem g_truL {B : Bool → Prop} (h : SqL K H p xs) (q : B (!xs.isEmpty)) : ∃ k, TruV K (.ref p) H k ∧ B k := ⟨_, .inl ⟨xs, h, rfl⟩, q⟩
theorem g_eqNI (q : Q (.bl false) H) : rEq .non (.int i) H Q := ⟨rfl, q⟩
theorem g_eqIN (q : Q (.bl false) H) : rEq (.int i) .non H Q := ⟨rfl, q⟩
theorem g_eqNS {z : Str} (q : Q (.bl false) H) : rEq .non (.str z) H Q := ⟨rfl, q⟩
theorem g_dget {td ty : TE} (h : td σ H fun x H1 => ty σ H1 fun y H2 => ∃ a v, x = .ref a ∧ DGet H2 a y (some v) ∧ Q v H2) : tDGet td ty σ H Q := h
theorem g_dg {z : Str} {kvs : List (Key × V)} {B : V → Prop} (h : H p = some (.dK kvs)) (l : valV kvs (.inr z) = some v) (q : B v) : ∃ a v, V.ref p = .ref a ∧ DGet H a (.str z) (some v) ∧ B v := ⟨p, v, rfl, by rw [← l]; exact DGet.k (k := .inr z) h, q⟩
theorem g_sdput {td ty tv : TE} (h : tv σ H fun v H1 => td σ H1 fun x H2 => ty σ H2 fun y H3 => ∃ a H4, x = .ref a ∧ DPut H3 a y v H4 ∧ D.nx σ H4) : sDPut td ty tv D σ H := h
theorem g_dp {z : Str} {kvs : List (Key × V)} {B : Hp → Prop} (h : H p = some (.dK kvs)) (l : kvs.length < sizeLine) (q : B (upd H p (.dK (putK kvs (.inr z) v)))) : ∃ a H4, V.ref p = .ref a ∧ DPut H a (.str z) v H4 ∧ B H4 := ⟨p, _, rfl, DPut.k (k := .inr z) h l, q⟩
theorem g_disp {trs : List (TE × TE)} (h : ∀ p, H p = none → tPairs trs σ (upd H p (.dK [])) fun ps H2 => H2 p = some (.dK []) ∧ ∃ kvs : List (Key × V), ps = kvs.map (fun kv => (kV kv.1, kv.2)) ∧ kvs.length ≤ 15 ∧ Q (.ref p) (upd H2 p (.dK (mergeK [] kvs)))) : tDisp trs σ H Q := h
theorem g_pc {tk tv : TE} {r : List (TE × TE)} {QP : List (V × V) → Hp → Prop} (h : tk σ H fun x H1 => tv σ H1 fun y H2 => tPairs r σ H2 fun ps H3 => QP ((x, y) :: ps) H3) : tPairs ((tk, tv) :: r) σ H QP := h
theorem g_pn {QP : List (V × V) → Hp → Prop} (h : QP [] H) : tPairs [] σ H QP := h
theorem g_yes (h : QB true H) : tYes σ H QB := h
theorem g_lc {wi : TI} {g : TG} {vs : List Nat} (h : wi σ H fun J H1 => ∀ D, H1 D = none → ∃ W : Nat → Nat → Hp → Prop, (∃ m, W 0 m (upd H1 D (.lst []))) ∧ ∀ i m H, W i m H →
  (J.stop i H ∧ Q (.ref D) H) ∨ (J.go i H ∧ ∃ Nx : Hp → Prop, (∀ H', Nx H' → ∃ m', m' < m ∧ W (i + 1) m' H') ∧ ∀ x H', J.yld i H x H' → g x (wipe σ vs) H' fun σ2 H2 => wipe σ2 vs = wipe σ vs ∧ tt σ2 H2 fun b H3 =>
    if b = true then te σ2 H3 fun y H4 => ∃ acc, H4 D = some (.lst acc) ∧ acc.length < sizeLine ∧ Nx (upd H4 D (.lst (acc ++ [y]))) else Nx H3)) : tLc wi g tt te vs σ H Q := h
theorem g_wipe {σ2 : L2.St} {vs : List Nat} {B : Prop} (h : wipe σ2 vs = wipe σ vs) (q : B) : wipe σ2 vs = wipe σ vs ∧ B := ⟨h, q⟩
end

/-! texts -/
def cd (z : Str) : List Nat := z.cps.toList
theorem cd_app (a b : Str) : cd (a ++ b) = cd a ++ cd b := by
  show (a.cps ++ b.cps).toList = a.cps.toList ++ b.cps.toList
  simp
theorem cd_len (a : Str) : (cd a).length = a.length := Array.length_toList
theorem cd_ext {a b : Str} (h : cd a = cd b) : a = b := by
  cases a with | mk x => cases b with | mk y =>
    have e : x = y := Array.toList_inj.mp h
    rw [e]
theorem cd_nil : cd "" = [] := by decide +kernel
theorem join_cd : ∀ l : List Str, cd (Txt.join "" l) = (l.map cd).flatten
  | [] => by rw [TL.join_eq]; rfl
  | [x] => by rw [TL.join_eq]; show cd x = (cd x :: []).flatten; simp
  | x :: y :: r => by
    rw [TL.join_eq]
    show cd (x ++ ("" : Str) ++ PySem.Str.join "" (y :: r)) = cd x ++ ((y :: r).map cd).flatten
    rw [cd_app, cd_app, cd_nil, List.append_nil, ← join_cd (y :: r), TL.join_eq]
theorem join_len (l : List Str) : (Txt.join "" l).length = (l.map (·.length)).sum := by
  rw [← cd_len, join_cd, List.length_flatten, List.map_map]
  congr 1

/-! lists of ints, compared -/
theorem dp_ints {K : PySem.W.Frag} {H : Hp} : ∀ ns : List Int, DpAll K H (ns.map V.int) (ns.map PyData.int)
  | [] => .nil
  | n :: ns => .cons (.int n) (dp_ints ns)
theorem eqv_intsAll : ∀ ns ms : List Int, PyData.eqvAll (ns.map PyData.int) (ms.map PyData.int) = decide (ns = ms)
  | [], [] => by rw [show PyData.eqvAll ([].map PyData.int) ([].map PyData.int) = true from by simp [PyData.eqvAll]]; rfl
  | [], _ :: _ => by simp [PyData.eqvAll]
  | _ :: _, [] => by simp [PyData.eqvAll]
  | n :: ns, m :: ms => by
    rw [List.map_cons, List.map_cons, PyData.eqvAll, eqv_intsAll ns ms, PyData.eqv]
    by_cases e : n = m
    · subst e; simp
    · rw [decide_eq_false (show ¬ n :: ns = m :: ms from fun z => e (List.cons.inj z).1), beq_eq_false_iff_ne.mpr e, Bool.false_and]
theorem eqv_ints (ns ms : List Int) : PyData.eqv (.list (ns.map .int)) (.list (ms.map .int)) = decide (ns = ms) := by
  rw [PyData.eqv]; exact eqv_intsAll ns ms
theorem can_ints : ∀ ns : List Int, PyData.canLayAll0 (ns.map PyData.int) = true
  | [] => by simp [PyData.canLayAll0]
  | n :: ns => by rw [List.map_cons, PyData.canLayAll0, can_ints ns, PyData.canLay0]; rfl
theorem dep_ints : ∀ ns : List Int, PyData.depthAll (ns.map PyData.int) = 0
  | [] => by simp [PyData.depthAll]
  | n :: ns => by rw [List.map_cons, PyData.depthAll, dep_ints ns, PyData.depth]; rfl
theorem shaped_ints (ns : List Int) : SeqAt.shaped (.list (ns.map .int)) = true := by
  unfold SeqAt.shaped
  rw [PyData.canLay0, can_ints, PyData.depth, dep_ints]
  rfl
theorem eq_ints {K : PySem.W.Frag} {H : Hp} {a b : Addr} {ns ms : List Int} {Q : VK} (ha : SqL K H a (ns.map V.int)) (hb : SqL K H b (ms.map V.int)) (q : Q (.bl (decide (ns = ms))) H) : rEqD K (.ref a) (.ref b) H Q :=
  ⟨_, _, .lst ha (dp_ints ns), .lst hb (dp_ints ms), shaped_ints ns, shaped_ints ms, by rw [eqv_ints]; exact q⟩
theorem ne_ints {K : PySem.W.Frag} {H : Hp} {a b : Addr} {ns ms : List Int} {Q : VK} (ha : SqL K H a (ns.map V.int)) (hb : SqL K H b (ms.map V.int)) (q : Q (.bl (!decide (ns = ms))) H) : rNeD K (.ref a) (.ref b) H Q :=
  ⟨_, _, .lst ha (dp_ints ns), .lst hb (dp_ints ms), shaped_ints ns, shaped_ints ms, by rw [eqv_ints]; exact q⟩
theorem cut_take (xs : List V) (n : Int) (h : 0 ≤ n) : cutV xs none (some n) = xs.take n.toNat := by
  unfold cutV
  obtain ⟨k, rfl⟩ : ∃ k : Nat, n = (k : Int) := ⟨n.toNat, by omega⟩
  rw [HT.sIx_none, HT.sIx_nat, List.drop_zero, Nat.sub_zero, Int.toNat_natCast]
  by_cases hk : k ≤ xs.length
  · rw [Nat.min_eq_left hk]
  · rw [Nat.min_eq_right (by omega), List.take_of_length_le (Nat.le_refl _), List.take_of_length_le (by omega)]
/-- all but the objects at fs is as it was -/
def Fr (fs : List Addr) (H H' : Hp) : Prop := ∀ b o, H b = some o → b ∉ fs → H' b = some o
theorem Fr.refl (fs : List Addr) (H : Hp) : Fr fs H H := fun _ _ h _ => h
theorem Fr.trans {fs : List Addr} {H H1 H2 : Hp} (a : Fr fs H H1) (b : Fr fs H1 H2) : Fr fs H H2 := fun c o h n => b c o (a c o h n) n
theorem Fr.mono {fs gs : List Addr} {H H1 : Hp} (a : Fr fs H H1) (h : ∀ x ∈ fs, x ∈ gs) : Fr gs H H1 := fun c o e n => a c o e fun z => n (h c z)
theorem Fr.same {H H1 : Hp} (fs : List Addr) (a : Same H H1) : Fr fs H H1 := fun c o e _ => a c o e
theorem Fr.new {fs : List Addr} {H H1 : Hp} {q : Addr} {o : HO} (a : Fr fs H H1) (h : H1 q = none) : Fr fs H (L2.upd H1 q o) := fun c u e n => by
  rw [upd_ne (ne_of_none (a c u e n) h)]
  exact a c u e n
theorem Fr.put {fs : List Addr} {H H1 : Hp} {q : Addr} {o : HO} (a : Fr fs H H1) (h : q ∈ fs) : Fr fs H (L2.upd H1 q o) := fun c u e n => by
  rw [upd_ne (fun z : c = q => n (by rw [z]; exact h))]
  exact a c u e n
theorem Fr.put' {fs : List Addr} {H H1 : Hp} {q : Addr} {o : HO} (a : Fr fs H H1) (h : H q = none) : Fr fs H (L2.upd H1 q o) := fun c u e n => by
  rw [upd_ne (ne_of_none e h)]
  exact a c u e n
theorem sqL_same {K : PySem.W.Frag} {H H' : Hp} {a : Addr} {xs : List V} (h : SqL K H a xs) (e : Same H H') : SqL K H' a xs :=
  h.elim (fun h => .inl (h.elim (fun h => .inl (e _ _ h)) fun ⟨o, h⟩ => .inr ⟨o, e _ _ h⟩)) fun h => .inr h

/-! _law_draw -/
def spDraw (K : PySem.W.Frag) : Sp := fun vs H Q _ => ∃ (a : Addr) (ns : List Int) (k : Int), vs = [.ref a, .int k] ∧ SqL K H a (ns.map V.int) ∧ ns.length ≤ 63 ∧ 0 ≤ k ∧ k ≤ 100000 ∧ ∀ n, 0 ≤ n → Q (.int n) H

local macro_rules | `(tactic| walk_at "fl") => `(tactic| assumption)
local macro_rules | `(tactic| walk_at "fn") => `(tactic| assumption)
local macro_rules | `(tactic| walk_at "fm") => `(tactic| assumption)
local macro_rules | `(tactic| walk_at "dv") => `(tactic| assumption)
local macro_rules | `(tactic| walk_at "dl") => `(tactic| assumption)
local macro_rules | `(tactic| walk_at "ne") => `(tactic| first | assumption | exact Ne.symm (by assumption) | exact ne_of_none (by assumption) (by assumption) | exact (ne_of_none (by assumption) (by assumption)).symm)
local macro_rules | `(tactic| walk_at "hp") => `(tactic| first | assumption | exact upd_same | exact (upd_ne (by walk_at "ne")).trans (by walk_at "hp"))
local macro_rules | `(tactic| walk_at "sq") => `(tactic| first | assumption | exact .inl (.inl (by walk_at "hp")))
local macro_rules | `(tactic| walk_at "at") => `(tactic| first | rfl | assumption)
local macro_rules | `(tactic| walk_at "cond") => `(tactic| first | exact ⟨by decide, by decide⟩ | exact Or.inr ⟨by decide, by decide⟩ | exact Or.inl ⟨by decide, by decide⟩ | decide | omega | exact ⟨by decide, by decide, by decide⟩ | exact ⟨by omega, by omega, by omega, by omega⟩)
local macro_rules | `(tactic| walk_at "go1") => `(tactic| first
  | with_reducible apply g_seq
  | ((with_reducible apply g_var); (· rfl))
  | with_reducible apply g_c
  | with_reducible apply g_op
  | with_reducible apply g_test
  | with_reducible apply g_kb
  | ((with_reducible apply g_ixL); (· walk_at "sq"); (· walk_at "at"))
  | with_reducible apply g_I0
  | ((with_reducible apply g_I); (· walk_at "cond"))
  | with_reducible apply g_eqI | with_reducible apply g_eqS | with_reducible apply g_eqB
  | with_reducible apply g_neI | with_reducible apply g_neS | with_reducible apply g_neB
  | with_reducible apply g_nx | with_reducible apply g_nx0 | with_reducible apply g_next
  | with_reducible apply g_rt | with_reducible apply g_rt0
  | with_reducible apply g_asg | with_reducible apply g_name | with_reducible apply g_ret | with_reducible apply g_retN | with_reducible apply g_drop | with_reducible apply g_ifs
  | with_reducible apply g_cons | with_reducible apply g_nil | with_reducible apply g_cb | with_reducible apply g_call
  | with_reducible apply g_T | with_reducible apply g_F | with_reducible apply g_nF | with_reducible apply g_nT
  | with_reducible apply g_tB | with_reducible apply g_and | with_reducible apply g_or | with_reducible apply g_not
  | with_reducible apply g_andV | with_reducible apply g_orV | with_reducible apply g_notV | with_reducible apply g_if | with_reducible apply g_ch | with_reducible apply g_chain
  | ((with_reducible apply g_lenL); (· walk_at "sq")) | ((with_reducible apply g_lenT); (· walk_at "sq"))
  | ((with_reducible apply g_listL); (· walk_at "sq")) | ((with_reducible apply g_listT); (· walk_at "sq"))
  | with_reducible apply g_int1 | with_reducible apply g_intB | with_reducible apply g_abs | with_reducible apply g_max2 | with_reducible apply g_min2
  | with_reducible apply g_isNn | with_reducible apply g_isNi | with_reducible apply g_isNb | with_reducible apply g_isNs | with_reducible apply g_isNr | with_reducible apply g_isN
  | with_reducible apply g_notNn | with_reducible apply g_notNi | with_reducible apply g_notNb | with_reducible apply g_notNs | with_reducible apply g_notNr
  | with_reducible apply g_isBn | with_reducible apply g_isBb | with_reducible apply g_isBi | with_reducible apply g_isBs | with_reducible apply g_isB
  | with_reducible apply g_i_nn_bool | with_reducible apply g_i_nn_int | with_reducible apply g_i_nn_str | with_reducible apply g_i_bl_bool | with_reducible apply g_i_bl_int | with_reducible apply g_i_bl_str | with_reducible apply g_i_int_bool | with_reducible apply g_i_int_int | with_reducible apply g_i_int_str | with_reducible apply g_i_str_bool | with_reducible apply g_i_str_int | with_reducible apply g_i_str_str
  | with_reducible apply g_sub | ((with_reducible apply g_setL); (· walk_at "hp"); (· rfl))
  | with_reducible apply g_tup | with_reducible apply g_lst | ((with_reducible apply g_new); (· exact Nat.le_of_ble_eq_true rfl))
  | with_reducible apply g_augS | with_reducible apply g_ipI | ((with_reducible apply g_aug); (· rfl))
  | with_reducible apply g_un | with_reducible apply g_neg
  | with_reducible apply g_inS | with_reducible apply g_notInS
  | with_reducible apply g_sl | with_reducible apply g_part | with_reducible apply g_pi | with_reducible apply g_nopart | ((with_reducible apply g_slL); (· walk_at "sq"))
  | ((with_reducible apply g_ixT); (· walk_at "sq"); (· walk_at "at"))
  | with_reducible apply g_bm | with_reducible apply g_bm0 | ((with_reducible apply g_tyL); (· walk_at "sq")) | with_reducible apply g_m1 | with_reducible apply g_str
  | with_reducible apply g_for | with_reducible apply g_iRng1 | ((with_reducible apply g_r1); (· walk_at "cond"); (· walk_at "cond")) | with_reducible apply g_iRng2 | ((with_reducible apply g_r2); (· walk_at "cond")) | with_reducible apply g_iList | ((with_reducible apply g_il); (· walk_at "sq")) | with_reducible apply g_iTup | ((with_reducible apply g_it); (· walk_at "sq"))
  | with_reducible apply g_lc | with_reducible apply g_yes
  | with_reducible apply g_fld | with_reducible apply g_sfld | with_reducible apply g_meth | with_reducible apply g_make
  | with_reducible apply g_break | with_reducible apply g_cont | with_reducible apply g_bk | with_reducible apply g_ct | with_reducible apply g_lnx | with_reducible apply g_lct | with_reducible apply g_lbk | with_reducible apply g_lrt
  | ((with_reducible apply g_gtup); (· walk_at "sq"); (· rfl)) | with_reducible apply g_gcons | with_reducible apply g_gnil
  | with_reducible apply g_tru | ((with_reducible apply g_truL); (· walk_at "sq")) | with_reducible apply g_eqNI | with_reducible apply g_eqIN | with_reducible apply g_eqNS
  | with_reducible apply g_dget | with_reducible apply g_sdput | with_reducible apply g_disp | with_reducible apply g_pc | with_reducible apply g_pn
  | ((with_reducible apply g_fl); (· walk_at "hp"); (· assumption); (· assumption); (· walk_at "fl")) | ((with_reducible apply g_sf); (· walk_at "hp"); (· assumption); (· assumption); (· walk_at "fn"))
  | ((with_reducible apply g_m); (· walk_at "hp"); (· walk_at "fm")) | ((with_reducible apply g_dg); (· walk_at "hp"); (· walk_at "dv")) | ((with_reducible apply g_dp); (· walk_at "hp"); (· walk_at "dl"))
  | ((with_reducible apply g_decT); (· decide)) | ((with_reducible apply g_decF); (· decide)))
local macro_rules | `(tactic| walk_at "go") => `(tactic| repeat walk_at "go1")
theorem g_start {t : TS} {Q : VK} {σ : L2.St} {H : Hp} (h : t (D0 Q) σ H) : t { nx := fun _ H' => Q .non H', rt := Q } σ H := h
local macro_rules | `(tactic| walk_at "go0") => `(tactic| with_reducible apply g_start)

def topS (i : Nat) : Stmt := PySem.Challenge.pw_kithbase_k51_file_keeps_a_prefix.main.body.getD i (.Pass ⟨0, 0, 0, 0⟩)
abbrev s_File_init : Stmt := (inClass (topS 1) 0)
theorem sc_File_init : FnScope ["self"] ["self"] (defScope s_File_init) := ⟨rfl, rfl, rfl, by decide +kernel, rfl, by decide +kernel, by decide +kernel⟩
abbrev s_File_write : Stmt := (inClass (topS 1) 1)
theorem sc_File_write : FnScope ["self", "data", "steps", "count", "byte"] ["self", "data", "steps"] (defScope s_File_write) := ⟨rfl, rfl, rfl, by decide +kernel, rfl, by decide +kernel, by decide +kernel⟩
abbrev s_File_shorten : Stmt := (inClass (topS 1) 2)
theorem sc_File_shorten : FnScope ["self", "size", "steps"] ["self", "size", "steps"] (defScope s_File_shorten) := ⟨rfl, rfl, rfl, by decide +kernel, rfl, by decide +kernel, by decide +kernel⟩
abbrev s_File_flush : Stmt := (inClass (topS 1) 3)
theorem sc_File_flush : FnScope ["self", "steps"] ["self", "steps"] (defScope s_File_flush) := ⟨rfl, rfl, rfl, by decide +kernel, rfl, by decide +kernel, by decide +kernel⟩
abbrev s_File_content : Stmt := (inClass (topS 1) 4)
theorem sc_File_content : FnScope ["self"] ["self"] (defScope s_File_content) := ⟨rfl, rfl, rfl, by decide +kernel, rfl, by decide +kernel, by decide +kernel⟩
abbrev s_File_pending : Stmt := (inClass (topS 1) 5)
theorem sc_File_pending : FnScope ["self"] ["self"] (defScope s_File_pending) := ⟨rfl, rfl, rfl, by decide +kernel, rfl, by decide +kernel, by decide +kernel⟩
abbrev s_File_lose : Stmt := (inClass (topS 1) 6)
theorem sc_File_lose : FnScope ["self", "steps"] ["self", "steps"] (defScope s_File_lose) := ⟨rfl, rfl, rfl, by decide +kernel, rfl, by decide +kernel, by decide +kernel⟩
abbrev s_after_steps : Stmt := (topS 2)
theorem sc_after_steps : FnScope ["data", "steps", "result", "word", "number"] ["data", "steps"] (defScope s_after_steps) := ⟨rfl, rfl, rfl, by decide +kernel, rfl, by decide +kernel, by decide +kernel⟩
abbrev s_draw : Stmt := (topS 4)
theorem sc_draw : FnScope ["_law_script", "_law_k", "_law_cell", "_law_turn", "_law_step"] ["_law_script", "_law_k"] (defScope s_draw) := ⟨rfl, rfl, rfl, by decide +kernel, rfl, by decide +kernel, by decide +kernel⟩
abbrev s_after : Stmt := (topS 5)
theorem sc_after : FnScope ["_law_data", "_law_steps", "_law_step"] ["_law_data", "_law_steps"] (defScope s_after) := ⟨rfl, rfl, rfl, by decide +kernel, rfl, by decide +kernel, by decide +kernel⟩
abbrev s_deed : Stmt := (topS 6)
theorem sc_deed : FnScope ["_law_file", "_law_state", "_law_number", "_law_kind", "_law_limit", "_law_data", "_law_count", "_law_done", "_law_size", "_law_k", "_law_byte"] ["_law_file", "_law_state", "_law_number"] (defScope s_deed) := ⟨rfl, rfl, rfl, by decide +kernel, rfl, by decide +kernel, by decide +kernel⟩
abbrev s_law : Stmt := (topS 7)
theorem sc_law : FnScope ["_law_script", "_law_file", "_law_state", "_law_k", "_law_told"] ["_law_script"] (defScope s_law) := ⟨rfl, rfl, rfl, by decide +kernel, rfl, by decide +kernel, by decide +kernel⟩
theorem bt_int : bootBuiltins "int" = some (.type "int") := by decide +kernel
theorem bt_len : bootBuiltins "len" = some (.builtin "len") := by decide +kernel
theorem bt_list : bootBuiltins "list" = some (.type "list") := by decide +kernel
theorem bt_min : bootBuiltins "min" = some (.builtin "min") := by decide +kernel
theorem bt_range : bootBuiltins "range" = some (.type "range") := by decide +kernel
structure Txt (K : PySem.W.Frag) (mg : Str → Option Value) where
  c_File : Addr
  cl_File : Cls K c_File
  g_File : mg "File" = some (.ref c_File)
  n_File_lasting : NoAttr K c_File "lasting"
  n_File_steps : NoAttr K c_File "steps"
  a_File_init : Addr
  d_File_init : FuncData
  F_File_init : Fun K "__init__" "File.__init__" s_File_init a_File_init d_File_init
  b_File_init : Binds K d_File_init ["self"] []
  M_File : Mk K c_File a_File_init
  a_File_write : Addr
  d_File_write : FuncData
  F_File_write : Fun K "write" "File.write" s_File_write a_File_write d_File_write
  b_File_write : Binds K d_File_write ["self", "data", "steps"] []
  m_File_write : Meth K c_File "write" a_File_write
  a_File_shorten : Addr
  d_File_shorten : FuncData
  F_File_shorten : Fun K "shorten" "File.shorten" s_File_shorten a_File_shorten d_File_shorten
  b_File_shorten : Binds K d_File_shorten ["self", "size", "steps"] []
  m_File_shorten : Meth K c_File "shorten" a_File_shorten
  a_File_flush : Addr
  d_File_flush : FuncData
  F_File_flush : Fun K "flush" "File.flush" s_File_flush a_File_flush d_File_flush
  b_File_flush : Binds K d_File_flush ["self", "steps"] []
  m_File_flush : Meth K c_File "flush" a_File_flush
  a_File_content : Addr
  d_File_content : FuncData
  F_File_content : Fun K "content" "File.content" s_File_content a_File_content d_File_content
  b_File_content : Binds K d_File_content ["self"] []
  m_File_content : Meth K c_File "content" a_File_content
  a_File_pending : Addr
  d_File_pending : FuncData
  F_File_pending : Fun K "pending" "File.pending" s_File_pending a_File_pending d_File_pending
  b_File_pending : Binds K d_File_pending ["self"] []
  m_File_pending : Meth K c_File "pending" a_File_pending
  a_File_lose : Addr
  d_File_lose : FuncData
  F_File_lose : Fun K "lose" "File.lose" s_File_lose a_File_lose d_File_lose
  b_File_lose : Binds K d_File_lose ["self", "steps"] []
  m_File_lose : Meth K c_File "lose" a_File_lose
  a_after_steps : Addr
  d_after_steps : FuncData
  F_after_steps : Fun K "after_steps" "after_steps" s_after_steps a_after_steps d_after_steps
  b_after_steps : Binds K d_after_steps ["data", "steps"] []
  g_after_steps : mg "after_steps" = some (.ref a_after_steps)
  a_draw : Addr
  d_draw : FuncData
  F_draw : Fun K "_law_draw" "_law_draw" s_draw a_draw d_draw
  b_draw : Binds K d_draw ["_law_script", "_law_k"] []
  g_draw : mg "_law_draw" = some (.ref a_draw)
  a_after : Addr
  d_after : FuncData
  F_after : Fun K "_law_after" "_law_after" s_after a_after d_after
  b_after : Binds K d_after ["_law_data", "_law_steps"] []
  g_after : mg "_law_after" = some (.ref a_after)
  a_deed : Addr
  d_deed : FuncData
  F_deed : Fun K "_law_deed" "_law_deed" s_deed a_deed d_deed
  b_deed : Binds K d_deed ["_law_file", "_law_state", "_law_number"] []
  g_deed : mg "_law_deed" = some (.ref a_deed)
  a_law : Addr
  d_law : FuncData
  F_law : Fun K "law" "law" s_law a_law d_law
  b_law : Binds K d_law ["_law_script"] []
  g_law : mg "law" = some (.ref a_law)
  z_int : mg "int" = none
  z_len : mg "len" = none
  z_list : mg "list" = none
  z_min : mg "min" = none
  z_range : mg "range" = none
section
variable {P : Program} {w : World} {K : PySem.W.Frag} {mg : Str → Option Value} {base : Heap}
theorem ok_draw (T : Txt K mg) : FnOk P w K mg base CX0 1 T.a_draw T.d_draw ["_law_script", "_law_k"] (spDraw K) := by
  refine T.F_draw.ok sc_draw (fun vs H Q E h => ?_) (fun cdv A outer s H vs Q E hr h => ?_)
  · obtain ⟨a, ns, k, rfl, _⟩ := h
    rfl
  · obtain ⟨a, ns, k, rfl, hS, hl, k0, k1, q⟩ := h
    refine ⟨_, (pss_cons (ps_if (pt_not (k_tru (K := K) (pv 0) (by intro _; rfl))) (pss_one (ps_ret (pe_op op_mod (pe_op op_mul (pv 1) pe_int) pe_int))) pss_nil)
      (pss_cons (ps_set (i := 2) sc_draw.nd rfl (.inl rfl) (pe_callTy c_int1 (by rfl) T.z_int bt_int (pa_cons (pe_ix (k_ixL (K := K)) (pv 0) (pe_op op_mod (pv 1) (pe_callB (k_len (K := K)) (by rfl) T.z_len bt_len (pa_cons (pv 0) pa_nil))) (fun _ _ => rfl)) pa_nil)))
      (pss_cons (ps_set (i := 3) sc_draw.nd rfl (.inl rfl) (pe_op op_fdiv (pv 1) (pe_callB (k_len (K := K)) (by rfl) T.z_len bt_len (pa_cons (pv 0) pa_nil))))
      (pss_cons (ps_if (pt_cmpR op_ge (pv 2) pe_int (nomark _)) (pss_cons (ps_for PassesOwn.never rfl (pi_range1 (by rfl) T.z_range (pa_cons (pe_callB (c_min2 rfl) (by rfl) T.z_min bt_min (pa_cons (pv 3) (pa_cons pe_int pa_nil))) pa_nil)) (pg_name (i := 4) sc_draw.nd rfl (.inl rfl)) (pss_one (ps_set (i := 2) sc_draw.nd rfl (.inl rfl) (pe_op op_fdiv (pv 2) pe_int))))
      (pss_one (ps_ret (pe_op op_mod (pv 2) pe_int)))) pss_nil)
      (pss_one (ps_ret (pe_op op_mod (pe_op op_mul (pe_op op_mod (pe_op op_add (pe_op op_add (pe_op op_mul (pv 2) pe_int) (pe_op op_mul (pv 1) pe_int)) pe_int) pe_int) pe_int) pe_int))))))), ?_⟩
    walk_at "go0"
    walk_at "go"
    cases ns with
    | nil =>
      rw [show (!(List.map V.int []).isEmpty) = false from rfl]
      walk_at "go"
      exact q _ (Int.emod_nonneg _ (by decide))
    | cons z zs =>
      rw [show (!(List.map V.int (z :: zs)).isEmpty) = true from rfl]
      have el : ((z :: zs).map V.int).length = (z :: zs).length := List.length_map _
      have ez : (z :: zs).length = zs.length + 1 := rfl
      have hn : (0 : Int) < (((z :: zs).map V.int).length : Int) := by omega
      have hn2 : (((z :: zs).map V.int).length : Int) < 1073741824 := by omega
      have i0 := Int.emod_nonneg k (show (((z :: zs).map V.int).length : Int) ≠ 0 by omega)
      have i1 := Int.emod_lt_of_pos k hn
      have t0 : 0 ≤ k / (((z :: zs).map V.int).length : Int) := Int.ediv_nonneg k0 (by omega)
      have hit : (k % (((z :: zs).map V.int).length : Int)).toNat < (z :: zs).length := by omega
      have hat : atI ((z :: zs).map V.int) (k % (((z :: zs).map V.int).length : Int)) = some (.int (z :: zs)[(k % (((z :: zs).map V.int).length : Int)).toNat]) := at_of (j := (k % (((z :: zs).map V.int).length : Int)).toNat) (by omega) (by rw [List.getElem?_map, List.getElem?_eq_getElem hit]; rfl)
      walk_at "go"
      refine g_I (show CDiv k _ from ⟨hn, hn2⟩) ?_
      generalize (z :: zs)[(k % (((z :: zs).map V.int).length : Int)).toNat] = cell
      generalize k / (((z :: zs).map V.int).length : Int) = tn at t0 ⊢
      walk_at "go"
      refine g_dec (fun hc => ?_) (fun _ => ?_)
      · walk_at "go"
        refine g_forR (fun i σ' H' => ∃ (c : Int) (y4 : Option V), σ' = [some (.ref a), some (.int k), some (.int c), some (.int tn), y4] ∧ H' = H) ⟨cell, none, rfl, rfl⟩ ?_ ?_
        · rintro i σ' H' hi ⟨c, y4, rfl, rfl⟩
          walk_at "go"
          exact ⟨_, _, rfl, rfl⟩
        · rintro σ' H' ⟨c, y4, rfl, rfl⟩
          walk_at "go"
          exact q _ (Int.emod_nonneg _ (by decide))
      · walk_at "go"
        exact q _ (Int.emod_nonneg _ (by decide))
end


/-! steps: (true, n) a byte, (false, n) a size -/
abbrev Step := Bool × Int
def after (L : List Int) (S : List Step) : List Int := S.foldl (fun r s => if s.1 then r ++ [s.2] else r.take s.2.toNat) L
theorem after_app (L : List Int) (S T : List Step) : after L (S ++ T) = after (after L S) T := List.foldl_append
theorem after_len : ∀ (S : List Step) (L : List Int), (after L S).length ≤ L.length + S.length
  | [], L => Nat.le_refl _
  | (true, n) :: S, L => by
    have h := after_len S (L ++ [n])
    rw [List.length_append] at h
    show (after (L ++ [n]) S).length ≤ L.length + (S.length + 1)
    have e : ([n] : List Int).length = 1 := rfl
    omega
  | (false, n) :: S, L => by
    have h := after_len S (L.take n.toNat)
    rw [List.length_take] at h
    show (after (L.take n.toNat) S).length ≤ L.length + (S.length + 1)
    omega
def encF (s : Step) : List V := [.str (if s.1 then "byte" else "size"), .int s.2]
def encL (s : Step) : List V := [.int (if s.1 then 0 else 1), .int s.2]
/-- at ts stand the tuples of the steps -/
def TupsAt (H : Hp) (enc : Step → List V) : List Addr → List Step → Prop
  | [], [] => True
  | t :: ts, s :: S => H t = some (.tup (enc s)) ∧ 0 ≤ s.2 ∧ TupsAt H enc ts S
  | _, _ => False
theorem TupsAt.len {H : Hp} {enc : Step → List V} : ∀ {ts : List Addr} {S : List Step}, TupsAt H enc ts S → ts.length = S.length
  | [], [], _ => rfl
  | _ :: _, _ :: _, h => congrArg (· + 1) (TupsAt.len h.2.2)
  | [], _ :: _, h => h.elim
  | _ :: _, [], h => h.elim
theorem TupsAt.keep {H H' : Hp} {enc : Step → List V} (k : ∀ b xs, H b = some (.tup xs) → H' b = some (.tup xs)) : ∀ {ts : List Addr} {S : List Step}, TupsAt H enc ts S → TupsAt H' enc ts S
  | [], [], _ => trivial
  | _ :: _, _ :: _, h => ⟨k _ _ h.1, h.2.1, TupsAt.keep k h.2.2⟩
  | [], _ :: _, h => h.elim
  | _ :: _, [], h => h.elim
theorem TupsAt.same {H H' : Hp} {enc : Step → List V} {ts : List Addr} {S : List Step} (h : TupsAt H enc ts S) (k : Same H H') : TupsAt H' enc ts S := h.keep fun b xs e => k _ _ e
theorem TupsAt.fr {H H' : Hp} {enc : Step → List V} {ts : List Addr} {S : List Step} {fs : List Addr} (h : TupsAt H enc ts S) (k : Fr fs H H') (n : ∀ b ∈ fs, ∀ xs, H b ≠ some (.tup xs)) : TupsAt H' enc ts S := h.keep fun b xs e => k _ _ e fun z => n b z xs e
theorem TupsAt.snoc {H : Hp} {enc : Step → List V} {t : Addr} {s : Step} (ht : H t = some (.tup (enc s))) (hs : 0 ≤ s.2) : ∀ {ts : List Addr} {S : List Step}, TupsAt H enc ts S → TupsAt H enc (ts ++ [t]) (S ++ [s])
  | [], [], _ => ⟨ht, hs, trivial⟩
  | _ :: _, _ :: _, h => ⟨h.1, h.2.1, TupsAt.snoc ht hs h.2.2⟩
  | [], _ :: _, h => h.elim
  | _ :: _, [], h => h.elim
theorem TupsAt.app {H : Hp} {enc : Step → List V} {us : List Addr} {U : List Step} (hu : TupsAt H enc us U) : ∀ {ts : List Addr} {S : List Step}, TupsAt H enc ts S → TupsAt H enc (ts ++ us) (S ++ U)
  | [], [], _ => hu
  | _ :: _, _ :: _, h => ⟨h.1, h.2.1, TupsAt.app hu h.2.2⟩
  | [], _ :: _, h => h.elim
  | _ :: _, [], h => h.elim
theorem TupsAt.take {H : Hp} {enc : Step → List V} : ∀ (n : Nat) {ts : List Addr} {S : List Step}, TupsAt H enc ts S → TupsAt H enc (ts.take n) (S.take n)
  | 0, _, _, _ => trivial
  | _ + 1, [], [], _ => trivial
  | n + 1, _ :: _, _ :: _, h => ⟨h.1, h.2.1, TupsAt.take n h.2.2⟩
  | _ + 1, [], _ :: _, h => h.elim
  | _ + 1, _ :: _, [], h => h.elim
theorem TupsAt.at {H : Hp} {enc : Step → List V} : ∀ {ts : List Addr} {S : List Step} {i : Nat} {t : Addr}, TupsAt H enc ts S → ts[i]? = some t → ∃ s, S[i]? = some s ∧ H t = some (.tup (enc s)) ∧ 0 ≤ s.2
  | _ :: _, s :: _, 0, _, h, e => ⟨s, rfl, by have := Option.some.inj e; rw [← this]; exact h.1, h.2.1⟩
  | _ :: _, _ :: _, i + 1, _, h, e => TupsAt.at (i := i) h.2.2 e
  | [], [], _, _, _, e => by simp at e
  | [], _ :: _, _, _, h, _ => h.elim
  | _ :: _, [], _, _, h, _ => h.elim
/-- after_steps, _law_after -/
def spAfter (K : PySem.W.Frag) (enc : Step → List V) : Sp := fun vs H Q _ => ∃ (a b : Addr) (L : List Int) (ts : List Addr) (S : List Step), vs = [.ref a, .ref b] ∧ H a = some (.lst (L.map V.int)) ∧ H b = some (.lst (ts.map V.ref)) ∧ TupsAt H enc ts S ∧ L.length + S.length ≤ 100000 ∧
  ∀ H' r, Same H H' → H r = none → H' r = some (.lst ((after L S).map V.int)) → Q (.ref r) H'
section
variable {P : Program} {w : World} {K : PySem.W.Frag} {mg : Str → Option Value} {base : Heap}
theorem ok_after_steps (T : Txt K mg) : FnOk P w K mg base CX0 1 T.a_after_steps T.d_after_steps ["data", "steps"] (spAfter K encF) := by
  refine T.F_after_steps.ok sc_after_steps (fun vs H Q E h => ?_) (fun cdv A outer s H vs Q E hr h => ?_)
  · obtain ⟨a, b, L, ts, S, rfl, _⟩ := h
    rfl
  · obtain ⟨a, b, L, ts, S, rfl, ha, hb, hT, hl, q⟩ := h
    refine ⟨_, (pss_cons (ps_set (i := 2) sc_after_steps.nd rfl (.inl rfl) (pe_callTy (k_list (K := K)) (by rfl) T.z_list bt_list (pa_cons (pv 0) pa_nil)))
      (pss_cons (ps_for PassesOwn.never rfl (k_piL (K := K) (pv 1)) (pg_tup rfl (pgs_cons (pg_name (i := 3) sc_after_steps.nd rfl (.inl rfl)) (pgs_cons (pg_name (i := 4) sc_after_steps.nd rfl (.inl rfl)) pgs_nil))) (pss_one (ps_if (pt_cmpR op_eq (pv 3) pe_str (nomark _)) (pss_one (ps_expr (pe_bm PySem.F.plainAttrs_list PySem.F.slot_list_append PySem.F.type_list_append mt_append (pv 2) (pa_cons (pv 4) pa_nil)))) (pss_one (ps_set (i := 2) sc_after_steps.nd rfl (.inl rfl) (pe_slice (k_slL (K := K)) (pv 2) po_none (po_some (pv 4))))))))
      (pss_one (ps_ret (pv 2))))), ?_⟩
    walk_at "go0"
    walk_at "go"
    intro r0 nr0
    have s0 : Same H (upd H r0 (.lst (L.map V.int))) := Same.new (Same.refl _) nr0
    have hb0 := s0 _ _ hb
    walk_at "go"
    have hlen := hT.len
    refine g_forL (xs := ts.map V.ref) (fun i σ' H' => ∃ r y3 y4, σ' = [some (.ref a), some (.ref b), some (.ref r), y3, y4] ∧ Same H H' ∧ H r = none ∧ H' r = some (.lst ((after L (S.take i)).map V.int))) ⟨r0, none, none, rfl, s0, nr0, upd_same⟩ (fun _ _ _ _ ⟨_, _, _, _, sm, _⟩ => SqL.of (sm _ _ hb)) ?_ ?_
    · rintro i v σ' H' hi ⟨r, y3, y4, rfl, sm, nr, hr'⟩
      obtain ⟨t, ht, rfl⟩ : ∃ t, ts[i]? = some t ∧ v = .ref t := by
        rw [List.getElem?_map] at hi
        cases e : ts[i]? with
        | none => rw [e] at hi; cases hi
        | some t => rw [e] at hi; exact ⟨t, rfl, (Option.some.inj hi).symm⟩
      obtain ⟨⟨bt, n⟩, hs, htt, hn⟩ := hT.at ht
      have htt' := sm _ _ htt
      have et : S.take (i + 1) = S.take i ++ [(bt, n)] := by rw [List.take_add_one, hs]; rfl
      have el := after_len (S.take i) L
      rw [List.length_take] at el
      cases bt with
      | true =>
        unfold encF at htt'
        walk_at "go"
        refine g_decT rfl ?_
        walk_at "go"
        refine g_append hr' (by rw [List.length_map]; exact szlt (by omega)) ?_
        walk_at "go"
        refine ⟨r, _, _, rfl, fun c o e => ?_, nr, ?_⟩
        · rw [upd_ne (ne_of_none e nr)]; exact sm _ _ e
        · rw [upd_same, et, after_app]
          show _ = some (HO.lst ((after L (S.take i) ++ [n]).map V.int))
          rw [List.map_append]; rfl
      | false =>
        unfold encF at htt'
        walk_at "go"
        refine g_decF (show ¬ ("size" : Str) = "byte" by decide +kernel) ?_
        walk_at "go"
        intro r2 nr2
        walk_at "go"
        refine ⟨r2, _, _, rfl, Same.new sm nr2, sm.free nr2, ?_⟩
        rw [upd_same, et, after_app, cut_take _ _ hn, ← List.map_take]
        rfl
    · rintro σ' H' ⟨r, y3, y4, rfl, sm, nr, hr'⟩
      rw [List.length_map, hlen, List.take_length] at hr'
      walk_at "go"
      exact q _ r sm nr hr'
theorem ok_after (T : Txt K mg) : FnOk P w K mg base CX0 1 T.a_after T.d_after ["_law_data", "_law_steps"] (spAfter K encL) := by
  refine T.F_after.ok sc_after (fun vs H Q E h => ?_) (fun cdv A outer s H vs Q E hr h => ?_)
  · obtain ⟨a, b, L, ts, S, rfl, _⟩ := h
    rfl
  · obtain ⟨a, b, L, ts, S, rfl, ha, hb, hT, hl, q⟩ := h
    refine ⟨_, (pss_cons (ps_set (i := 0) sc_after.nd rfl (.inl rfl) (pe_callTy (k_list (K := K)) (by rfl) T.z_list bt_list (pa_cons (pv 0) pa_nil)))
      (pss_cons (ps_for PassesOwn.never rfl (k_piL (K := K) (pv 1)) (pg_name (i := 2) sc_after.nd rfl (.inl rfl)) (pss_one (ps_if (pt_cmpR op_eq (pe_ix (k_ixT (K := K)) (pv 2) pe_int (fun _ _ => rfl)) pe_int (nomark _)) (pss_one (ps_expr (pe_bm PySem.F.plainAttrs_list PySem.F.slot_list_append PySem.F.type_list_append mt_append (pv 0) (pa_cons (pe_ix (k_ixT (K := K)) (pv 2) pe_int (fun _ _ => rfl)) pa_nil)))) (pss_one (ps_set (i := 0) sc_after.nd rfl (.inl rfl) (pe_slice (k_slL (K := K)) (pv 0) po_none (po_some (pe_ix (k_ixT (K := K)) (pv 2) pe_int (fun _ _ => rfl)))))))))
      (pss_one (ps_ret (pv 0))))), ?_⟩
    walk_at "go0"
    walk_at "go"
    intro r0 nr0
    have s0 : Same H (upd H r0 (.lst (L.map V.int))) := Same.new (Same.refl _) nr0
    have hb0 := s0 _ _ hb
    walk_at "go"
    have hlen := hT.len
    refine g_forL (xs := ts.map V.ref) (fun i σ' H' => ∃ r y3, σ' = [some (.ref r), some (.ref b), y3] ∧ Same H H' ∧ H r = none ∧ H' r = some (.lst ((after L (S.take i)).map V.int))) ⟨r0, none, rfl, s0, nr0, upd_same⟩ (fun _ _ _ _ ⟨_, _, _, sm, _⟩ => SqL.of (sm _ _ hb)) ?_ ?_
    · rintro i v σ' H' hi ⟨r, y3, rfl, sm, nr, hr'⟩
      obtain ⟨t, ht, rfl⟩ : ∃ t, ts[i]? = some t ∧ v = .ref t := by
        rw [List.getElem?_map] at hi
        cases e : ts[i]? with
        | none => rw [e] at hi; cases hi
        | some t => rw [e] at hi; exact ⟨t, rfl, (Option.some.inj hi).symm⟩
      obtain ⟨⟨bt, n⟩, hs, htt, hn⟩ := hT.at ht
      have htt' := sm _ _ htt
      have et : S.take (i + 1) = S.take i ++ [(bt, n)] := by rw [List.take_add_one, hs]; rfl
      have el := after_len (S.take i) L
      rw [List.length_take] at el
      cases bt with
      | true =>
        unfold encL at htt'
        walk_at "go"
        refine g_decT rfl ?_
        walk_at "go"
        refine g_append hr' (by rw [List.length_map]; exact szlt (by omega)) ?_
        walk_at "go"
        refine ⟨r, _, rfl, fun c o e => ?_, nr, ?_⟩
        · rw [upd_ne (ne_of_none e nr)]; exact sm _ _ e
        · rw [upd_same, et, after_app]
          show _ = some (HO.lst ((after L (S.take i) ++ [n]).map V.int))
          rw [List.map_append]; rfl
      | false =>
        unfold encL at htt'
        walk_at "go"
        refine g_decF (show ¬ (1 : Int) = 0 by decide) ?_
        walk_at "go"
        intro r2 nr2
        walk_at "go"
        refine ⟨r2, _, rfl, Same.new sm nr2, sm.free nr2, ?_⟩
        rw [upd_same, et, after_app, cut_take _ _ hn, ← List.map_take]
        rfl
    · rintro σ' H' ⟨r, y3, rfl, sm, nr, hr'⟩
      rw [List.length_map, hlen, List.take_length] at hr'
      walk_at "go"
      exact q _ r sm nr hr'
end
/-! the file -/
theorem lnes : ¬ (("lasting" : Str) = "steps") := by decide +kernel
theorem snel : ¬ (("steps" : Str) = "lasting") := by decide +kernel
def ff (la st : Addr) : List (Str × V) := putF "steps" (.ref st) (putF "lasting" (.ref la) [])
theorem ff_eq (la st : Addr) : ff la st = ([("lasting", V.ref la), ("steps", V.ref st)] : List (Str × V)) := by
  show (if ("lasting" : Str) = "steps" then [(("lasting" : Str), V.ref st)] else (("lasting" : Str), V.ref la) :: putF "steps" (V.ref st) []) = _
  rw [if_neg lnes]
  rfl
theorem ff_lasting (la st : Addr) : (ff la st).lookup ("lasting" : Str) = some (.ref la) := by
  unfold ff
  rw [lookup_putF, if_neg lnes, lookup_putF, if_pos rfl]
theorem ff_steps (la st : Addr) : (ff la st).lookup ("steps" : Str) = some (.ref st) := by
  unfold ff
  rw [lookup_putF, if_pos rfl]
theorem ff_no (la st : Addr) {m : Str} (h1 : ¬ m = "steps") (h2 : ¬ m = "lasting") : (ff la st).lookup m = none := by
  unfold ff
  rw [lookup_putF, if_neg h1, lookup_putF, if_neg h2]
  rfl
theorem ff_len (la st : Addr) : (ff la st).length < 1000 := by rw [ff_eq]; show 2 < 1000; decide
theorem ff_putL (la st x : Addr) : putF "lasting" (.ref x) (ff la st) = ff x st := by
  rw [ff_eq, ff_eq]
  show (if ("lasting" : Str) = "lasting" then (("lasting" : Str), V.ref x) :: _ else _) = _
  rw [if_pos rfl]
theorem ff_putS (la st x : Addr) : putF "steps" (.ref x) (ff la st) = ff la x := by
  rw [ff_eq, ff_eq]
  show (if ("lasting" : Str) = "steps" then _ else (("lasting" : Str), V.ref la) :: (if ("steps" : Str) = "steps" then [(("steps" : Str), V.ref x)] else _)) = _
  rw [if_neg lnes, if_pos rfl]
theorem put1_len (v : V) : (putF "lasting" v []).length < 1000 := Nat.lt_of_le_of_lt (length_putF _ _ _) (by decide)
local macro_rules | `(tactic| walk_at "fl") => `(tactic| first | exact ff_lasting _ _ | exact ff_steps _ _)
local macro_rules | `(tactic| walk_at "fn") => `(tactic| first | exact ff_len _ _ | exact put1_len _ | exact (by decide : (0 : Nat) < 1000))
local macro_rules | `(tactic| walk_at "fm") => `(tactic| exact ff_no _ _ (by decide +kernel) (by decide +kernel))
structure FileAt (C : Addr) (H : Hp) (f dx la st : Addr) (L : List Int) (S : List Step) : Prop where
  ob : H f = some (.ins C dx (ff la st))
  las : H la = some (.lst (L.map V.int))
  sts : ∃ ts : List Addr, H st = some (.lst (ts.map V.ref)) ∧ TupsAt H encF ts S
  ne : la ≠ st
  len : L.length + S.length ≤ 50000
theorem FileAt.fr {C : Addr} {H H' : Hp} {f dx la st : Addr} {L : List Int} {S : List Step} {fs : List Addr} (F : FileAt C H f dx la st L S) (k : Fr fs H H') (h1 : f ∉ fs) (h2 : la ∉ fs) (h3 : st ∉ fs) (n : ∀ b ∈ fs, ∀ xs, H b ≠ some (.tup xs)) : FileAt C H' f dx la st L S := by
  obtain ⟨ob, las, ⟨ts, e, t⟩, ne, len⟩ := F
  exact ⟨k _ _ ob h1, k _ _ las h2, ⟨ts, k _ _ e h3, t.fr k n⟩, ne, len⟩
theorem FileAt.same {C : Addr} {H H' : Hp} {f dx la st : Addr} {L : List Int} {S : List Step} (F : FileAt C H f dx la st L S) (k : Same H H') : FileAt C H' f dx la st L S :=
  F.fr (Fr.same [] k) (by simp) (by simp) (by simp) (by simp)
def limV : Option Int → V
  | none => .non
  | some k => .int k
def cntOf (lim : Option Int) (n : Nat) : Int := match lim with
  | none => (n : Int)
  | some k => if k < (n : Int) then k else (n : Int)
def LimOk (lim : Option Int) : Prop := ∀ k, lim = some k → 0 ≤ k
def spInit (C : Addr) : Sp := fun vs H Q _ => ∃ (p dx : Addr), vs = [.ref p] ∧ H p = some (.ins C dx []) ∧ ∀ H' la st, FileAt C H' p dx la st [] [] → H la = none → H st = none → Fr [p] H H' → Q .non H'
def spWrite (C : Addr) : Sp := fun vs H Q _ => ∃ (f dx la st d : Addr) (L : List Int) (S : List Step) (D : List Int) (lim : Option Int), vs = [.ref f, .ref d, limV lim] ∧ FileAt C H f dx la st L S ∧ H d = some (.lst (D.map V.int)) ∧ d ≠ st ∧ (∀ x ∈ D, 0 ≤ x) ∧ LimOk lim ∧ L.length + S.length + D.length ≤ 50000 ∧
  ∀ H', FileAt C H' f dx la st L (S ++ (D.take (cntOf lim D.length).toNat).map fun x => (true, x)) → Fr [st] H H' → Q (.int (cntOf lim D.length)) H'
def spShorten (C : Addr) : Sp := fun vs H Q _ => ∃ (f dx la st : Addr) (L : List Int) (S : List Step) (n : Int) (lim : Option Int), vs = [.ref f, .int n, limV lim] ∧ FileAt C H f dx la st L S ∧ 0 ≤ n ∧ L.length + S.length < 50000 ∧ (lim = some 0 → Q (.int 0) H) ∧
  (lim ≠ some 0 → ∀ H', FileAt C H' f dx la st L (S ++ [(false, n)]) → Fr [st] H H' → Q (.int 1) H')
def spLose (C : Addr) : Sp := fun vs H Q _ => ∃ (f dx la st : Addr) (L : List Int) (S : List Step) (n : Int), vs = [.ref f, .int n] ∧ FileAt C H f dx la st L S ∧ 0 ≤ n ∧
  ∀ H' la' st', FileAt C H' f dx la' st' (after L (S.take n.toNat)) [] → H la' = none → H st' = none → Fr [f] H H' → Q .non H'
def spFlush (C : Addr) : Sp := fun vs H Q _ => ∃ (f dx la st : Addr) (L : List Int) (S : List Step) (lim : Option Int), vs = [.ref f, limV lim] ∧ FileAt C H f dx la st L S ∧ (lim = some 0 → Q (.int 0) H) ∧
  (lim ≠ some 0 → ∀ H' la' st', FileAt C H' f dx la' st' (after L S) [] → H la' = none → H st' = none → Fr [f] H H' → Q (.int 1) H')
def spContent (C : Addr) : Sp := fun vs H Q _ => ∃ (f dx la st : Addr) (L : List Int) (S : List Step), vs = [.ref f] ∧ FileAt C H f dx la st L S ∧ ∀ H' r, Same H H' → H r = none → H' r = some (.lst ((after L S).map V.int)) → Q (.ref r) H'
def spPending (C : Addr) : Sp := fun vs H Q _ => ∃ (f dx la st : Addr) (L : List Int) (S : List Step), vs = [.ref f] ∧ FileAt C H f dx la st L S ∧ Q (.int S.length) H
section
variable {P : Program} {w : World} {K : PySem.W.Frag} {mg : Str → Option Value} {base : Heap}
theorem ok_init (T : Txt K mg) : FnOk P w K mg base CX0 1 T.a_File_init T.d_File_init ["self"] (spInit T.c_File) := by
  have cl := T.cl_File
  have nL := T.n_File_lasting
  have nS := T.n_File_steps
  refine T.F_File_init.ok sc_File_init (fun vs H Q E h => ?_) (fun cdv A outer s H vs Q E hr h => ?_)
  · obtain ⟨p, dx, rfl, _⟩ := h
    rfl
  · obtain ⟨p, dx, rfl, hp, q⟩ := h
    refine ⟨_, (pss_cons (ps_fld (pv 0) (pe_lst pa_nil) rfl)
      (pss_one (ps_fld (pv 0) (pe_lst pa_nil) rfl))), ?_⟩
    walk_at "go0"
    walk_at "go"
    intro la nla
    have npl : p ≠ la := ne_of_none hp nla
    walk_at "go"
    intro st nst
    have npst : p ≠ st := ne_of_none upd_same nst
    have nls : la ≠ st := fun e => by rw [← e, upd_ne npl.symm, upd_same] at nst; cases nst
    walk_at "go"
    have nst0 : H st = none := by
      rw [upd_ne npst.symm, upd_ne (Ne.symm nls)] at nst
      exact nst
    refine q _ la st ⟨upd_same, ?_, ⟨[], ?_, trivial⟩, nls, by decide⟩ nla nst0 ?_
    · rw [upd_ne npl.symm, upd_ne nls, upd_ne npl.symm, upd_same]; rfl
    · rw [upd_ne npst.symm, upd_same]; rfl
    · exact ((((Fr.refl [p] H).new nla).put (by simp)).put' nst0).put (by simp)
theorem ok_pending (T : Txt K mg) : FnOk P w K mg base CX0 1 T.a_File_pending T.d_File_pending ["self"] (spPending T.c_File) := by
  have cl := T.cl_File
  have nL := T.n_File_lasting
  have nS := T.n_File_steps
  refine T.F_File_pending.ok sc_File_pending (fun vs H Q E h => ?_) (fun cdv A outer s H vs Q E hr h => ?_)
  · obtain ⟨f, dx, la, st, L, S, rfl, _⟩ := h
    rfl
  · obtain ⟨f, dx, la, st, L, S, rfl, F, q⟩ := h
    refine ⟨_, (pss_one (ps_ret (pe_callB (k_len (K := K)) (by rfl) T.z_len bt_len (pa_cons (k_fld (K := K) (pv 0) rfl) pa_nil)))), ?_⟩
    obtain ⟨ob, las, ⟨ts, hst, hT⟩, ne, len⟩ := F
    have hlen := hT.len
    walk_at "go0"
    walk_at "go"
    rw [List.length_map, hlen]
    exact q
theorem ok_content (T : Txt K mg) : FnOk P w K mg base CX0 2 T.a_File_content T.d_File_content ["self"] (spContent T.c_File) := by
  have cl := T.cl_File
  have nL := T.n_File_lasting
  have nS := T.n_File_steps
  have G_after_steps : FnOk P w K mg base CX0 1 _ _ _ _ := ok_after_steps T
  refine T.F_File_content.ok sc_File_content (fun vs H Q E h => ?_) (fun cdv A outer s H vs Q E hr h => ?_)
  · obtain ⟨f, dx, la, st, L, S, rfl, _⟩ := h
    rfl
  · obtain ⟨f, dx, la, st, L, S, rfl, F, q⟩ := h
    refine ⟨_, (pss_one (ps_ret (pe_call G_after_steps (hr.mono (by decide)) (by rfl) T.g_after_steps T.F_after_steps.kp T.b_after_steps .nil pass0 (pa_cons (k_fld (K := K) (pv 0) rfl) (pa_cons (k_fld (K := K) (pv 0) rfl) pa_nil))))), ?_⟩
    obtain ⟨ob, las, ⟨ts, hst, hT⟩, ne, len⟩ := F
    walk_at "go0"
    walk_at "go"
    exact ⟨la, st, L, ts, S, rfl, las, hst, hT, by omega, q⟩
theorem ok_lose (T : Txt K mg) : FnOk P w K mg base CX0 2 T.a_File_lose T.d_File_lose ["self", "steps"] (spLose T.c_File) := by
  have cl := T.cl_File
  have nL := T.n_File_lasting
  have nS := T.n_File_steps
  have G_after_steps : FnOk P w K mg base CX0 1 _ _ _ _ := ok_after_steps T
  refine T.F_File_lose.ok sc_File_lose (fun vs H Q E h => ?_) (fun cdv A outer s H vs Q E hr h => ?_)
  · obtain ⟨f, dx, la, st, L, S, n, rfl, _⟩ := h
    rfl
  · obtain ⟨f, dx, la, st, L, S, n, rfl, F, hn, q⟩ := h
    refine ⟨_, (pss_cons (ps_fld (pv 0) (pe_call G_after_steps (hr.mono (by decide)) (by rfl) T.g_after_steps T.F_after_steps.kp T.b_after_steps .nil pass0 (pa_cons (k_fld (K := K) (pv 0) rfl) (pa_cons (pe_slice (k_slL (K := K)) (k_fld (K := K) (pv 0) rfl) po_none (po_some (pv 1))) pa_nil))) rfl)
      (pss_one (ps_fld (pv 0) (pe_lst pa_nil) rfl))), ?_⟩
    obtain ⟨ob, las, ⟨ts, hst, hT⟩, ne, len⟩ := F
    walk_at "go0"
    walk_at "go"
    intro c nc
    have s1 : Same H (upd H c (.lst (cutV (ts.map V.ref) none (some n)))) := Same.new (Same.refl _) nc
    rw [cut_take _ _ hn, ← List.map_take] at s1 ⊢
    have hc : (upd H c (.lst ((ts.take n.toNat).map V.ref))) c = some (.lst ((ts.take n.toNat).map V.ref)) := upd_same
    have hlt : (S.take n.toNat).length ≤ S.length := by rw [List.length_take]; omega
    walk_at "go"
    refine ⟨la, c, L, ts.take n.toNat, S.take n.toNat, rfl, s1 _ _ las, hc, (hT.take _).same s1, by omega, fun H2 r s2 nr hr2 => ?_⟩
    have s02 := s1.trans s2
    have ob2 := s02 _ _ ob
    have nr0 := s1.free nr
    have nfr : f ≠ r := ne_of_none (s1 _ _ ob) nr
    walk_at "go"
    rw [ff_putL]
    intro st' nst'
    have nfs : f ≠ st' := ne_of_none upd_same nst'
    have nst2 : H2 st' = none := by rw [upd_ne nfs.symm] at nst'; exact nst'
    walk_at "go"
    rw [ff_putS]
    have al := after_len (S.take n.toNat) L
    refine q _ r st' ⟨upd_same, ?_, ⟨[], ?_, trivial⟩, ?_, ?_⟩ nr0 (s02.free nst2) ?_
    · rw [upd_ne nfr.symm, upd_ne (ne_of_none hr2 nst2), upd_ne nfr.symm]; exact hr2
    · rw [upd_ne nfs.symm, upd_same]; rfl
    · exact ne_of_none hr2 nst2
    · show (after L (S.take n.toNat)).length + 0 ≤ 50000
      omega
    · exact (((Fr.same [f] s02).put (by simp)).put' (s02.free nst2)).put (by simp)
theorem ok_shorten (T : Txt K mg) : FnOk P w K mg base CX0 1 T.a_File_shorten T.d_File_shorten ["self", "size", "steps"] (spShorten T.c_File) := by
  have cl := T.cl_File
  have nL := T.n_File_lasting
  have nS := T.n_File_steps
  refine T.F_File_shorten.ok sc_File_shorten (fun vs H Q E h => ?_) (fun cdv A outer s H vs Q E hr h => ?_)
  · obtain ⟨f, dx, la, st, L, S, n, lim, rfl, _⟩ := h
    rfl
  · obtain ⟨f, dx, la, st, L, S, n, lim, rfl, F, hn, hl, q0, q1⟩ := h
    refine ⟨_, (pss_cons (ps_if (pt_cmpR op_eq (pv 2) pe_int (nomark _)) (pss_one (ps_ret pe_int)) pss_nil)
      (pss_cons (ps_expr (pe_bm PySem.F.plainAttrs_list PySem.F.slot_list_append PySem.F.type_list_append mt_append (k_fld (K := K) (pv 0) rfl) (pa_cons (pe_tup (pa_cons pe_str (pa_cons (pv 1) pa_nil))) pa_nil)))
      (pss_one (ps_ret pe_int)))), ?_⟩
    obtain ⟨ob, las, ⟨ts, hst, hT⟩, ne, len⟩ := F
    have hlen := hT.len
    walk_at "go0"
    have tail : lim ≠ some 0 → ∀ t, H t = none → Q (.int 1) (upd (upd H t (.tup [.str "size", .int n])) st (.lst (ts.map V.ref ++ [.ref t]))) := fun hne t nt => by
      have s1 : Same H (upd H t (.tup [.str "size", .int n])) := Same.new (Same.refl _) nt
      have nst : st ≠ t := ne_of_none hst nt
      have fr : Fr [st] H (upd (upd H t (.tup [.str "size", .int n])) st (.lst (ts.map V.ref ++ [.ref t]))) := (Fr.same [st] s1).put (by simp)
      refine q1 hne _ ⟨?_, ?_, ⟨ts ++ [t], ?_, ?_⟩, ne, by rw [List.length_append]; show L.length + (S.length + 1) ≤ 50000; omega⟩ fr
      · exact fr _ _ ob (by simp [ne_of ob hst (fun z => nomatch z)])
      · exact fr _ _ las (by simp [ne])
      · rw [upd_same, List.map_append]; rfl
      · have hT' := hT.fr fr fun b hb xs e => (by rw [List.mem_singleton.mp hb, hst] at e; cases e)
        exact TupsAt.snoc (show _ = some (HO.tup (encF (false, n))) from (upd_ne nst.symm).trans upd_same) hn hT'
    cases lim with
    | none =>
      simp only [limV]
      walk_at "go"
      intro t nt
      have nst : st ≠ t := ne_of_none hst nt
      have nft : f ≠ t := ne_of_none ob nt
      walk_at "go"
      refine g_append ((upd_ne nst).trans hst) (by rw [List.length_map]; exact szlt (by omega)) ?_
      walk_at "go"
      exact tail (fun z => nomatch z) t nt
    | some k =>
      simp only [limV]
      walk_at "go"
      refine g_dec (fun e => ?_) (fun e => ?_)
      · walk_at "go"
        exact q0 (by rw [e])
      · walk_at "go"
        intro t nt
        have nst : st ≠ t := ne_of_none hst nt
        have nft : f ≠ t := ne_of_none ob nt
        walk_at "go"
        refine g_append ((upd_ne nst).trans hst) (by rw [List.length_map]; exact szlt (by omega)) ?_
        walk_at "go"
        exact tail (fun z => e (Option.some.inj z)) t nt
theorem ok_write (T : Txt K mg) : FnOk P w K mg base CX0 1 T.a_File_write T.d_File_write ["self", "data", "steps"] (spWrite T.c_File) := by
  have cl := T.cl_File
  have nL := T.n_File_lasting
  have nS := T.n_File_steps
  refine T.F_File_write.ok sc_File_write (fun vs H Q E h => ?_) (fun cdv A outer s H vs Q E hr h => ?_)
  · obtain ⟨f, dx, la, st, d, L, S, D, lim, rfl, _⟩ := h
    rfl
  · obtain ⟨f, dx, la, st, d, L, S, D, lim, rfl, F, hd, nds, hD, hl, len, q⟩ := h
    refine ⟨_, (pss_cons (ps_set (i := 3) sc_File_write.nd rfl (.inl rfl) (pe_callB (k_len (K := K)) (by rfl) T.z_len bt_len (pa_cons (pv 1) pa_nil)))
      (C8.pss_cut (ps_if (PW.pt (pw_and (pt_cmpR o_notN (pv 2) pe_non (nomark _)) (pw_and1 (pt_cmpR op_lt (pv 2) (pv 3) (nomark _))))) (pss_one (ps_set (i := 3) sc_File_write.nd rfl (.inl rfl) (pv 2))) pss_nil)
      (pss_cons (ps_for PassesOwn.never rfl (k_piL (K := K) (pe_slice (k_slL (K := K)) (pv 1) po_none (po_some (pv 3)))) (pg_name (i := 4) sc_File_write.nd rfl (.inl rfl)) (pss_one (ps_expr (pe_bm PySem.F.plainAttrs_list PySem.F.slot_list_append PySem.F.type_list_append mt_append (k_fld (K := K) (pv 0) rfl) (pa_cons (pe_tup (pa_cons pe_str (pa_cons (pv 4) pa_nil))) pa_nil)))))
      (pss_one (ps_ret (pv 3)))))), ?_⟩
    obtain ⟨ob, las, ⟨ts, hst, hT⟩, ne, len'⟩ := F
    have hlen := hT.len
    have nfs : f ≠ st := ne_of ob hst (fun z => nomatch z)
    walk_at "go0"
    walk_at "go"
    rw [List.length_map]
    refine g_cut (fun σ' H' => σ' = [some (.ref f), some (.ref d), some (limV lim), some (.int (cntOf lim D.length)), none] ∧ H = H') ?_ ?_
    · cases lim with
      | none =>
        simp only [limV]
        walk_at "go"
        exact ⟨rfl, rfl⟩
      | some k =>
        simp only [limV]
        walk_at "go"
        refine g_dec (fun e => ?_) (fun e => ?_)
        · walk_at "go"
          refine ⟨?_, rfl⟩
          show _ = [_, _, _, some (V.int (if k < (D.length : Int) then k else D.length)), none]
          rw [if_pos e]; rfl
        · walk_at "go"
          refine ⟨?_, rfl⟩
          show _ = [_, _, _, some (V.int (if k < (D.length : Int) then k else D.length)), none]
          rw [if_neg e]; rfl
    · rintro _ _ ⟨rfl, rfl⟩
      have hc0 : 0 ≤ cntOf lim D.length := by
        cases lim with
        | none => show (0 : Int) ≤ D.length; omega
        | some k =>
          have := hl k rfl
          show 0 ≤ if k < (D.length : Int) then k else D.length
          split <;> omega
      generalize cntOf lim D.length = cnt at hc0 q ⊢
      generalize limV lim = lv
      walk_at "go"
      intro c nc
      rw [cut_take _ _ hc0, ← List.map_take]
      walk_at "go"
      have s1 : Same H (upd H c (.lst ((D.take cnt.toNat).map V.int))) := Same.new (Same.refl _) nc
      refine g_forL (xs := (D.take cnt.toNat).map V.int) (fun i σ' H' => ∃ y ts', σ' = [some (.ref f), some (.ref d), some lv, some (.int cnt), y] ∧ Fr [st] H H' ∧ H' c = some (.lst ((D.take cnt.toNat).map V.int)) ∧ H' st = some (.lst (ts'.map V.ref)) ∧ TupsAt H' encF ts' (S ++ ((D.take cnt.toNat).take i).map fun x => (true, x))) ⟨none, ts, rfl, Fr.same _ s1, upd_same, s1 _ _ hst, ?_⟩ (fun _ _ _ _ ⟨_, _, _, _, h, _⟩ => SqL.of h) ?_ ?_
      · rw [List.take_zero, List.map_nil, List.append_nil]
        exact hT.same s1
      · rintro i v σ' H' hi ⟨y, ts', rfl, fr, hc, hs', hT'⟩
        obtain ⟨x, hx, rfl⟩ : ∃ x, (D.take cnt.toNat)[i]? = some x ∧ v = .int x := by
          rw [List.getElem?_map] at hi
          cases e : (D.take cnt.toNat)[i]? with
          | none => rw [e] at hi; cases hi
          | some t => rw [e] at hi; exact ⟨t, rfl, (Option.some.inj hi).symm⟩
        have hx0 : 0 ≤ x := hD x (List.mem_of_mem_take (List.mem_of_getElem? hx))
        have ob' := fr _ _ ob (by simp [nfs])
        have hln := hT'.len
        rw [List.length_append, List.length_map, List.length_take, List.length_take] at hln
        have ncs : c ≠ st := fun e => by rw [e, hst] at nc; cases nc
        walk_at "go"
        intro t nt
        have nst : st ≠ t := ne_of_none hs' nt
        walk_at "go"
        refine g_append ((upd_ne nst).trans hs') (by rw [List.length_map]; exact szlt (by omega)) ?_
        walk_at "go"
        have s2 : Same H' (upd H' t (.tup [.str "byte", .int x])) := Same.new (Same.refl _) nt
        have fr2 : Fr [st] H' (upd (upd H' t (.tup [.str "byte", .int x])) st (.lst (ts'.map V.ref ++ [.ref t]))) := (Fr.same [st] s2).put (by simp)
        refine ⟨_, ts' ++ [t], rfl, fr.trans fr2, fr2 _ _ hc (by simp [ncs]), ?_, ?_⟩
        · rw [upd_same, List.map_append]; rfl
        · rw [List.take_add_one, hx, List.map_append, ← List.append_assoc]
          have hT2 := hT'.fr fr2 fun b hb xs e => (by rw [List.mem_singleton.mp hb, hs'] at e; cases e)
          exact TupsAt.snoc (show _ = some (HO.tup (encF (true, x))) from (upd_ne nst.symm).trans upd_same) hx0 hT2
      · rintro σ' H' ⟨y, ts', rfl, fr, hc, hs', hT'⟩
        rw [List.length_map, List.take_length] at hT'
        walk_at "go"
        refine q _ ⟨fr _ _ ob (by simp [nfs]), fr _ _ las (by simp [ne]), ⟨ts', hs', hT'⟩, ne, ?_⟩ fr
        rw [List.length_append, List.length_map, List.length_take]
        omega
theorem ok_flush (T : Txt K mg) : FnOk P w K mg base CX0 3 T.a_File_flush T.d_File_flush ["self", "steps"] (spFlush T.c_File) := by
  have cl := T.cl_File
  have nL := T.n_File_lasting
  have nS := T.n_File_steps
  have G_File_lose : FnOk P w K mg base CX0 2 _ _ _ _ := ok_lose T
  refine T.F_File_flush.ok sc_File_flush (fun vs H Q E h => ?_) (fun cdv A outer s H vs Q E hr h => ?_)
  · obtain ⟨f, dx, la, st, L, S, lim, rfl, _⟩ := h
    rfl
  · obtain ⟨f, dx, la, st, L, S, lim, rfl, F, q0, q1⟩ := h
    refine ⟨_, (pss_cons (ps_if (pt_cmpR op_eq (pv 1) pe_int (nomark _)) (pss_one (ps_ret pe_int)) pss_nil)
      (pss_cons (ps_expr (pe_meth (pv 0) T.cl_File T.m_File_lose G_File_lose (hr.mono (by decide)) T.b_File_lose .nil pass0 (pa_cons (pe_callB (k_len (K := K)) (by rfl) T.z_len bt_len (pa_cons (k_fld (K := K) (pv 0) rfl) pa_nil)) pa_nil)))
      (pss_one (ps_ret pe_int)))), ?_⟩
    have F' := F
    obtain ⟨ob, las, ⟨ts, hst, hT⟩, ne, len⟩ := F
    have hlen := hT.len
    have tk : S.take ((ts.map V.ref).length : Int).toNat = S := by rw [List.length_map, hlen, Int.toNat_natCast, List.take_length]
    walk_at "go0"
    cases lim with
    | none =>
      simp only [limV]
      walk_at "go"
      refine ⟨f, dx, la, st, L, S, _, rfl, F', by omega, fun H' la' st' F2 n1 n2 fr => ?_⟩
      walk_at "go"
      rw [tk] at F2
      exact q1 (fun z => nomatch z) H' la' st' F2 n1 n2 fr
    | some k =>
      simp only [limV]
      walk_at "go"
      refine g_dec (fun e => ?_) (fun e => ?_)
      · walk_at "go"
        exact q0 (by rw [e])
      · walk_at "go"
        refine ⟨f, dx, la, st, L, S, _, rfl, F', by omega, fun H' la' st' F2 n1 n2 fr => ?_⟩
        walk_at "go"
        rw [tk] at F2
        exact q1 (fun z => e (Option.some.inj z)) H' la' st' F2 n1 n2 fr
end
/-! the law's own state -/
abbrev dkv (l1 l2 : Addr) : List (Key × V) := [(.inr "lasting", .ref l1), (.inr "steps", .ref l2)]
theorem kln : ¬ ((Sum.inr ("lasting" : Str) : Key) = .inr "steps") := fun e => lnes (Sum.inr.inj e)
theorem kns : ¬ ((Sum.inr ("steps" : Str) : Key) = .inr "lasting") := fun e => snel (Sum.inr.inj e)
theorem dkv_l (l1 l2 : Addr) : valV (dkv l1 l2) (.inr "lasting") = some (.ref l1) := valV_pos rfl
theorem dkv_s (l1 l2 : Addr) : valV (dkv l1 l2) (.inr "steps") = some (.ref l2) := (valV_neg kln).trans (valV_pos rfl)
theorem dkv_len (l1 l2 : Addr) : (dkv l1 l2).length < sizeLine := szlt (show 2 < _ by decide)
theorem dkv_putL (l1 l2 x : Addr) : putK (dkv l1 l2) (.inr "lasting") (.ref x) = dkv x l2 := by
  unfold putK
  rw [valV_any, dkv_l]
  show ((if (Sum.inr ("lasting" : Str) : Key) = .inr "lasting" then ((Sum.inr ("lasting" : Str) : Key), V.ref x) else _) :: (if (Sum.inr ("steps" : Str) : Key) = .inr "lasting" then _ else ((Sum.inr ("steps" : Str) : Key), V.ref l2)) :: []) = _
  rw [if_pos rfl, if_neg kns]
theorem dkv_putS (l1 l2 x : Addr) : putK (dkv l1 l2) (.inr "steps") (.ref x) = dkv l1 x := by
  unfold putK
  rw [valV_any, dkv_s]
  show ((if (Sum.inr ("lasting" : Str) : Key) = .inr "steps" then _ else ((Sum.inr ("lasting" : Str) : Key), V.ref l1)) :: (if (Sum.inr ("steps" : Str) : Key) = .inr "steps" then ((Sum.inr ("steps" : Str) : Key), V.ref x) else _) :: []) = _
  rw [if_neg kln, if_pos rfl]
theorem merge2 (l1 l2 : Addr) : mergeK [] ([((Sum.inr ("lasting" : Str) : Key), V.ref l1), (.inr "steps", .ref l2)] : List (Key × V)) = dkv l1 l2 := by
  show putK [((Sum.inr ("lasting" : Str) : Key), V.ref l1)] (.inr "steps") (.ref l2) = _
  unfold putK
  rw [valV_any, valV_neg kln]
  rfl
local macro_rules | `(tactic| walk_at "dv") => `(tactic| first | exact dkv_l _ _ | exact dkv_s _ _)
local macro_rules | `(tactic| walk_at "dl") => `(tactic| exact dkv_len _ _)
structure LawAt (H : Hp) (d l1 l2 : Addr) (L : List Int) (S : List Step) : Prop where
  dk : H d = some (.dK (dkv l1 l2))
  las : H l1 = some (.lst (L.map V.int))
  sts : ∃ ts : List Addr, H l2 = some (.lst (ts.map V.ref)) ∧ TupsAt H encL ts S
theorem LawAt.fr {H H' : Hp} {d l1 l2 : Addr} {L : List Int} {S : List Step} {fs : List Addr} (F : LawAt H d l1 l2 L S) (k : Fr fs H H') (h1 : d ∉ fs) (h2 : l1 ∉ fs) (h3 : l2 ∉ fs) (n : ∀ b ∈ fs, ∀ xs, H b ≠ some (.tup xs)) : LawAt H' d l1 l2 L S := by
  obtain ⟨ob, las, ⟨ts, e, t⟩⟩ := F
  exact ⟨k _ _ ob h1, k _ _ las h2, ⟨ts, k _ _ e h3, t.fr k n⟩⟩
theorem LawAt.same {H H' : Hp} {d l1 l2 : Addr} {L : List Int} {S : List Step} (F : LawAt H d l1 l2 L S) (k : Same H H') : LawAt H' d l1 l2 L S :=
  F.fr (Fr.same [] k) (by simp) (by simp) (by simp) (by simp)
structure WAt (C : Addr) (H : Hp) (f dx la st d l1 l2 : Addr) (L : List Int) (S : List Step) : Prop where
  F : FileAt C H f dx la st L S
  W : LawAt H d l1 l2 L S
  n1 : st ≠ l1
  n2 : st ≠ l2
theorem WAt.mono {C : Addr} {H H' : Hp} {f dx la st d l1 l2 : Addr} {L : List Int} {S : List Step} (k : Same H H') (w : WAt C H f dx la st d l1 l2 L S) : WAt C H' f dx la st d l1 l2 L S := ⟨w.F.same k, w.W.same k, w.n1, w.n2⟩
theorem fin2 {C : Addr} {H1 H2 : Hp} {f dx la st d l1 l2 r e : Addr} {L : List Int} (F : FileAt C H1 f dx la st L []) (dk : H1 d = some (.dK (dkv l1 l2))) (s : Same H1 H2) (nr : H1 r = none) (hr : H2 r = some (.lst (L.map V.int))) (ne : (upd H2 d (.dK (dkv r l2))) e = none) :
    WAt C (upd (upd (upd H2 d (.dK (dkv r l2))) e (.lst [])) d (.dK (dkv r e))) f dx la st d r e L [] ∧ Fr [d] H1 (upd (upd (upd H2 d (.dK (dkv r l2))) e (.lst [])) d (.dK (dkv r e))) := by
  have nde : d ≠ e := ne_of_none upd_same ne
  have ne2 : H2 e = none := by rw [upd_ne nde.symm] at ne; exact ne
  have fr : Fr [d] H1 (upd (upd (upd H2 d (.dK (dkv r l2))) e (.lst [])) d (.dK (dkv r e))) := (((Fr.same [d] s).put (by simp)).new ne).put (by simp)
  obtain ⟨ts, hst, hT⟩ := F.sts
  have ndr : d ≠ r := ne_of_none dk nr
  have nfd : f ≠ d := ne_of F.ob dk (fun z => nomatch z)
  have nad : la ≠ d := ne_of F.las dk (fun z => nomatch z)
  have nsd : st ≠ d := ne_of hst dk (fun z => nomatch z)
  have nre : r ≠ e := ne_of_none hr ne2
  refine ⟨⟨F.fr fr (by simp [nfd]) (by simp [nad]) (by simp [nsd]) fun b hb xs e => ?_, ⟨upd_same, ?_, ⟨[], ?_, trivial⟩⟩, ?_, ?_⟩, fr⟩
  · rw [List.mem_singleton.mp hb, dk] at e; cases e
  · rw [upd_ne ndr.symm, upd_ne nre, upd_ne ndr.symm]; exact hr
  · rw [upd_ne nde.symm, upd_same]; rfl
  · exact ne_of_none hst nr
  · exact ne_of_none (s _ _ hst) ne2
theorem fin1 {C : Addr} {H4 H6 : Hp} {f dx la st d l1 l2 p : Addr} {L : List Int} {S U : List Step} {us ts : List Addr} (F : FileAt C H4 f dx la st L (S ++ U)) (dk : H4 d = some (.dK (dkv l1 l2))) (las : H4 l1 = some (.lst (L.map V.int))) (hU : TupsAt H4 encL us S) (s : Same H4 H6) (hT : TupsAt H6 encL ts U) (np : H6 p = none) (n1 : st ≠ l1) :
    WAt C (upd (upd H6 p (.lst (us.map V.ref ++ ts.map V.ref))) d (.dK (dkv l1 p))) f dx la st d l1 p L (S ++ U) ∧ Fr [d] H4 (upd (upd H6 p (.lst (us.map V.ref ++ ts.map V.ref))) d (.dK (dkv l1 p))) := by
  have fr : Fr [d] H4 (upd (upd H6 p (.lst (us.map V.ref ++ ts.map V.ref))) d (.dK (dkv l1 p))) := ((Fr.same [d] s).new np).put (by simp)
  have fr6 : Fr [d] H6 (upd (upd H6 p (.lst (us.map V.ref ++ ts.map V.ref))) d (.dK (dkv l1 p))) := ((Fr.refl [d] H6).new np).put (by simp)
  obtain ⟨ss, hst, hS⟩ := F.sts
  have nfd : f ≠ d := ne_of F.ob dk (fun z => nomatch z)
  have nad : la ≠ d := ne_of F.las dk (fun z => nomatch z)
  have nsd : st ≠ d := ne_of hst dk (fun z => nomatch z)
  have nld : l1 ≠ d := ne_of las dk (fun z => nomatch z)
  have ndp : d ≠ p := ne_of_none (s _ _ dk) np
  have nt : ∀ b ∈ [d], ∀ xs, H4 b ≠ some (.tup xs) := fun b hb xs e => by rw [List.mem_singleton.mp hb, dk] at e; cases e
  have nt6 : ∀ b ∈ [d], ∀ xs, H6 b ≠ some (.tup xs) := fun b hb xs e => by rw [List.mem_singleton.mp hb, s _ _ dk] at e; cases e
  refine ⟨⟨F.fr fr (by simp [nfd]) (by simp [nad]) (by simp [nsd]) nt, ⟨upd_same, fr _ _ las (by simp [nld]), ⟨us ++ ts, ?_, ?_⟩⟩, n1, ne_of_none (s _ _ hst) np⟩, fr⟩
  · rw [upd_ne ndp.symm, upd_same, List.map_append]
  · exact TupsAt.app (hT.fr fr6 nt6) (hU.fr fr nt)
def spLaw (K : PySem.W.Frag) : Sp := fun vs H Q _ => ∃ (a : Addr) (ns : List Int), vs = [.ref a] ∧ SqL K H a (ns.map V.int) ∧ ns.length ≤ 63 ∧ ∀ H', Q (.bl true) H'
def spDeed (C : Addr) : Sp := fun vs H Q _ => ∃ (f dx la st d l1 l2 : Addr) (L : List Int) (S : List Step) (n : Int), vs = [.ref f, .ref d, .int n] ∧ WAt C H f dx la st d l1 l2 L S ∧ 0 ≤ n ∧ L.length + S.length ≤ 40000 ∧
  ∀ H' la' st' l1' l2' L' S', WAt C H' f dx la' st' d l1' l2' L' S' → L'.length + S'.length ≤ L.length + S.length + 10 → (st' = st ∨ H st' = none) → Fr [f, d, st] H H' → Q (.bl true) H'
section
variable {P : Program} {w : World} {K : PySem.W.Frag} {mg : Str → Option Value} {base : Heap}
theorem ok_deed (T : Txt K mg) : FnOk P w K mg base CX0 4 T.a_deed T.d_deed ["_law_file", "_law_state", "_law_number"] (spDeed T.c_File) := by
  have cl := T.cl_File
  have nL := T.n_File_lasting
  have nS := T.n_File_steps
  have G_File_lose : FnOk P w K mg base CX0 2 _ _ _ _ := ok_lose T
  have G_File_write : FnOk P w K mg base CX0 1 _ _ _ _ := ok_write T
  have G_File_shorten : FnOk P w K mg base CX0 1 _ _ _ _ := ok_shorten T
  have G_File_flush : FnOk P w K mg base CX0 3 _ _ _ _ := ok_flush T
  have G_after : FnOk P w K mg base CX0 1 _ _ _ _ := ok_after T
  refine T.F_deed.ok sc_deed (fun vs H Q E h => ?_) (fun cdv A outer s H vs Q E hr h => ?_)
  · obtain ⟨f, dx, la, st, d, l1, l2, L, S, n, rfl, _⟩ := h
    rfl
  · obtain ⟨f, dx, la, st, d, l1, l2, L, S, n, rfl, WW, n0, hl, q⟩ := h
    refine ⟨_, (pss_cons (ps_set (i := 3) sc_deed.nd rfl (.inl rfl) (pe_op op_mod (pv 2) pe_int))
      (pss_cons (ps_set (i := 4) sc_deed.nd rfl (.inl rfl) pe_non)
      (C8.pss_cut (ps_if (pt_cmpR op_eq (pe_op op_mod (pe_op op_fdiv (pv 2) pe_int) pe_int) pe_int (nomark _)) (pss_one (ps_set (i := 4) sc_deed.nd rfl (.inl rfl) (pe_op op_mod (pe_op op_fdiv (pv 2) pe_int) pe_int))) pss_nil)
      (pss_cons (ps_if (pt_cmpR op_le (pv 3) pe_int (nomark _)) (pss_cons (ps_setLc (i := 5) (own := [("_law_k", 9)]) (g := gName 9) (tt := tYes) rfl sc_deed.nd rfl rfl (sw_true rfl rfl rfl (by decide +kernel)) (pi_range1 (by rfl) T.z_range (pa_cons (pe_op op_mod (pe_op op_fdiv (pv 2) pe_int) pe_int) pa_nil)) (blkOk_by (own := [("_law_k", 9)]) (N := ["_law_file", "_law_state", "_law_number", "_law_kind", "_law_limit", "_law_data", "_law_count", "_law_done", "_law_size", "_law_k", "_law_byte"]) (sc := defScope s_deed) (by decide +kernel)) (fun _ _ _ _ _ => (pg_name (i := 9) sc_deed.nd rfl (.inl rfl))) (fun _ _ _ _ _ => pts_nil) (fun _ _ _ _ _ => (pe_op op_mod (pe_op op_add (pv 2) (pe_op op_mul pe_int (pv 9))) pe_int)))
      (pss_cons (ps_set (i := 6) sc_deed.nd rfl (.inl rfl) (pe_callB (k_len (K := K)) (by rfl) T.z_len bt_len (pa_cons (pv 5) pa_nil)))
      (C8.pss_cut (ps_if (PW.pt (pw_and (pt_cmpR o_notN (pv 4) pe_non (nomark _)) (pw_and1 (pt_cmpR op_lt (pv 4) (pv 6) (nomark _))))) (pss_one (ps_set (i := 6) sc_deed.nd rfl (.inl rfl) (pv 4))) pss_nil)
      (pss_cons (ps_set (i := 7) sc_deed.nd rfl (.inl rfl) (pe_meth (pv 0) T.cl_File T.m_File_write G_File_write (hr.mono (by decide)) T.b_File_write .nil pass0 (pa_cons (pe_callTy (k_list (K := K)) (by rfl) T.z_list bt_list (pa_cons (pv 5) pa_nil)) (pa_cons (pv 4) pa_nil))))
      (pss_cons (ps_dput (hu_of hr) (pv 1) pe_str (pe_op op_cat (pe_dget (hu_of hr) (pv 1) pe_str (fun _ _ => rfl)) (pe_lc (own := [("_law_byte", 10)]) (g := gName 10) (tt := tYes) rfl sc_deed.nd (k_piL (K := K) (pe_slice (k_slL (K := K)) (pv 5) po_none (po_some (pv 6)))) (blkOk_by (own := [("_law_byte", 10)]) (N := ["_law_file", "_law_state", "_law_number", "_law_kind", "_law_limit", "_law_data", "_law_count", "_law_done", "_law_size", "_law_k", "_law_byte"]) (sc := defScope s_deed) (by decide +kernel)) (fun _ _ _ _ _ => (pg_name (i := 10) sc_deed.nd rfl (.inl rfl))) (fun _ _ _ _ _ => pts_nil) (fun _ _ _ _ _ => (pe_tup (pa_cons pe_int (pa_cons (pv 10) pa_nil)))))) rfl)
      (pss_one (ps_ret (pe_cmpR op_eq (pv 7) (pv 6) (nomark _))))))))) pss_nil)
      (pss_cons (ps_if (pt_cmpR op_le (pv 3) pe_int (nomark _)) (pss_cons (ps_set (i := 8) sc_deed.nd rfl (.inl rfl) (pe_op op_mod (pe_op op_fdiv (pv 2) pe_int) (pe_op op_add pe_int (pe_callB (k_len (K := K)) (by rfl) T.z_len bt_len (pa_cons (pe_call G_after (hr.mono (by decide)) (by rfl) T.g_after T.F_after.kp T.b_after .nil pass0 (pa_cons (pe_dget (hu_of hr) (pv 1) pe_str (fun _ _ => rfl)) (pa_cons (pe_dget (hu_of hr) (pv 1) pe_str (fun _ _ => rfl)) pa_nil))) pa_nil)))))
      (pss_cons (ps_set (i := 7) sc_deed.nd rfl (.inl rfl) (pe_meth (pv 0) T.cl_File T.m_File_shorten G_File_shorten (hr.mono (by decide)) T.b_File_shorten .nil pass0 (pa_cons (pv 8) (pa_cons (pv 4) pa_nil))))
      (C8.pss_cut (ps_if (pt_cmpR op_eq (pv 4) pe_int (nomark _)) (pss_one (ps_ret (pe_cmpR op_eq (pv 7) pe_int (nomark _)))) pss_nil)
      (pss_cons (ps_dput (hu_of hr) (pv 1) pe_str (pe_op op_cat (pe_dget (hu_of hr) (pv 1) pe_str (fun _ _ => rfl)) (pe_lst (pa_cons (pe_tup (pa_cons pe_int (pa_cons (pv 8) pa_nil))) pa_nil))) rfl)
      (pss_one (ps_ret (pe_cmpR op_eq (pv 7) pe_int (nomark _)))))))) pss_nil)
      (pss_cons (ps_if (pt_cmpR op_eq (pv 3) pe_int (nomark _)) (pss_cons (ps_set (i := 7) sc_deed.nd rfl (.inl rfl) (pe_meth (pv 0) T.cl_File T.m_File_flush G_File_flush (hr.mono (by decide)) T.b_File_flush .nil pass0 (pa_cons (pv 4) pa_nil)))
      (C8.pss_cut (ps_if (pt_cmpR op_eq (pv 4) pe_int (nomark _)) (pss_one (ps_ret (pe_cmpR op_eq (pv 7) pe_int (nomark _)))) pss_nil)
      (pss_cons (ps_dput (hu_of hr) (pv 1) pe_str (pe_call G_after (hr.mono (by decide)) (by rfl) T.g_after T.F_after.kp T.b_after .nil pass0 (pa_cons (pe_dget (hu_of hr) (pv 1) pe_str (fun _ _ => rfl)) (pa_cons (pe_dget (hu_of hr) (pv 1) pe_str (fun _ _ => rfl)) pa_nil))) rfl)
      (pss_cons (ps_dput (hu_of hr) (pv 1) pe_str (pe_lst pa_nil) rfl)
      (pss_one (ps_ret (pe_cmpR op_eq (pv 7) pe_int (nomark _)))))))) pss_nil)
      (pss_cons (ps_set (i := 6) sc_deed.nd rfl (.inl rfl) (pe_op op_mod (pe_op op_fdiv (pv 2) pe_int) (pe_op op_add pe_int (pe_callB (k_len (K := K)) (by rfl) T.z_len bt_len (pa_cons (pe_dget (hu_of hr) (pv 1) pe_str (fun _ _ => rfl)) pa_nil)))))
      (pss_cons (ps_expr (pe_meth (pv 0) T.cl_File T.m_File_lose G_File_lose (hr.mono (by decide)) T.b_File_lose .nil pass0 (pa_cons (pv 6) pa_nil)))
      (pss_cons (ps_dput (hu_of hr) (pv 1) pe_str (pe_call G_after (hr.mono (by decide)) (by rfl) T.g_after T.F_after.kp T.b_after .nil pass0 (pa_cons (pe_dget (hu_of hr) (pv 1) pe_str (fun _ _ => rfl)) (pa_cons (pe_slice (k_slL (K := K)) (pe_dget (hu_of hr) (pv 1) pe_str (fun _ _ => rfl)) po_none (po_some (pv 6))) pa_nil))) rfl)
      (pss_cons (ps_dput (hu_of hr) (pv 1) pe_str (pe_lst pa_nil) rfl)
      (pss_one (ps_ret pe_bl)))))))))))), ?_⟩
    have WW' := WW
    obtain ⟨FF, ⟨dk, las, ⟨us, hus, hU⟩⟩, n1, n2⟩ := WW
    have FF' := FF
    obtain ⟨ob, lasF, ⟨ts, hst, hT⟩, ne, len⟩ := FF
    have nfs : f ≠ st := ne_of ob hst (fun z => nomatch z)
    have nds : d ≠ st := ne_of dk hst (fun z => nomatch z)
    have nfd : f ≠ d := ne_of ob dk (fun z => nomatch z)
    have hlT := hT.len
    have hlU := hU.len
    walk_at "go0"
    walk_at "go"
    refine g_cut (fun σ' H' => H = H' ∧ ∃ lim, LimOk lim ∧ σ' = [some (.ref f), some (.ref d), some (.int n), some (.int (n % 7)), some (limV lim), none, none, none, none, none, none]) ?_ ?_
    · walk_at "go"
      refine g_dec (fun e => ?_) (fun e => ?_)
      · walk_at "go"
        exact ⟨rfl, some (n / 21 % 7), (fun k z => by cases z; omega), rfl⟩
      · walk_at "go"
        exact ⟨rfl, none, (fun k z => nomatch z), rfl⟩
    rintro σ' H' ⟨rfl, lim, hlim, rfl⟩
    walk_at "go"
    refine g_dec (fun e => ?_) (fun e => ?_)
    · walk_at "go"
      intro D nD
      refine lc_range (lo := 0) (n := (n / 5 % 10).toNat) (fun i H' => Same H H' ∧ ∃ xs : List Int, H' D = some (.lst (xs.map V.int)) ∧ xs.length = i ∧ ∀ x ∈ xs, 0 ≤ x) ⟨Same.new (Same.refl _) nD, [], upd_same, rfl, fun _ z => nomatch z⟩ ?_ ?_
      · rintro i H2 hi ⟨s2, xs, hD, hxl, hx⟩
        walk_at "go"
        refine g_wipe rfl ?_
        walk_at "go"
        refine ⟨_, hD, szlt (by rw [List.length_map]; omega), fun b o e => ?_, xs ++ [(n + 17 * (0 + (i : Int))) % 256], ?_, by rw [List.length_append, hxl]; rfl, fun x hm => ?_⟩
        · rw [upd_ne (ne_of_none e nD)]; exact s2 b o e
        · rw [upd_same, List.map_append]; rfl
        · rcases List.mem_append.mp hm with h | h
          · exact hx x h
          · rw [List.mem_singleton.mp h]; omega
      rintro H2 ⟨s2, xs, hD, hxl, hx⟩
      have nDs : D ≠ st := fun e => by rw [e, hst] at nD; cases nD
      walk_at "go"
      rw [List.length_map]
      refine g_cut (fun σ' H' => H2 = H' ∧ σ' = [some (.ref f), some (.ref d), some (.int n), some (.int (n % 7)), some (limV lim), some (.ref D), some (.int (cntOf lim xs.length)), none, none, none, none]) ?_ ?_
      · cases lim with
        | none =>
          simp only [limV]
          walk_at "go"
          exact ⟨rfl, rfl⟩
        | some k =>
          simp only [limV]
          walk_at "go"
          refine g_dec (fun e => ?_) (fun e => ?_)
          · walk_at "go"
            refine ⟨rfl, ?_⟩
            show _ = [_, _, _, _, _, _, some (V.int (if k < (xs.length : Int) then k else xs.length)), none, none, none, none]
            rw [if_pos e]; rfl
          · walk_at "go"
            refine ⟨rfl, ?_⟩
            show _ = [_, _, _, _, _, _, some (V.int (if k < (xs.length : Int) then k else xs.length)), none, none, none, none]
            rw [if_neg e]; rfl
      rintro σ' H' ⟨rfl, rfl⟩
      have hcc : 0 ≤ cntOf lim xs.length := by
        cases lim with
        | none => show (0 : Int) ≤ xs.length; omega
        | some k =>
          have := hlim k rfl
          show 0 ≤ if k < (xs.length : Int) then k else xs.length
          split <;> omega
      generalize hlv : limV lim = lv
      have ob2 := s2 _ _ ob
      walk_at "go"
      intro c nc
      have s3 : Same H2 (upd H2 c (.lst (xs.map V.int))) := Same.new (Same.refl _) nc
      have nse : st ≠ c := ne_of_none (s2 _ _ hst) nc
      have hc3 : (upd H2 c (.lst (xs.map V.int))) c = some (.lst (xs.map V.int)) := upd_same
      generalize upd H2 c (.lst (xs.map V.int)) = H3 at s3 hc3 ⊢
      walk_at "go"
      have s03 := s2.trans s3
      refine ⟨f, dx, la, st, c, L, S, xs, lim, by rw [hlv]; rfl, FF'.same s03, hc3, nse.symm, hx, hlim, by omega, fun H4 F4 fr4 => ?_⟩
      have W4 := (WW'.W.same s03).fr fr4 (by simp [nds]) (by simp [n1.symm]) (by simp [n2.symm]) fun b hb xs e => (by rw [List.mem_singleton.mp hb, s03 _ _ hst] at e; cases e)
      have fr04 : Fr [st] H H4 := (Fr.same _ s03).trans fr4
      obtain ⟨dk4, las4, ⟨us4, hus4, hU4⟩⟩ := W4
      have hD4 := fr4 _ _ (s3 _ _ hD) (by simp [nDs])
      generalize cntOf lim xs.length = cnt at hcc F4 ⊢
      walk_at "go"
      intro c5 nc5
      rw [cut_take _ _ hcc, ← List.map_take]
      have s45 : Same H4 (upd H4 c5 (.lst ((xs.take cnt.toNat).map V.int))) := Same.new (Same.refl _) nc5
      have hc5 : (upd H4 c5 (.lst ((xs.take cnt.toNat).map V.int))) c5 = some (.lst ((xs.take cnt.toNat).map V.int)) := upd_same
      generalize upd H4 c5 (.lst ((xs.take cnt.toNat).map V.int)) = H5 at s45 hc5 ⊢
      walk_at "go"
      intro D6 nD6
      refine lc_list (K := K) (a := c5) (xs := (xs.take cnt.toNat).map V.int) (fun i H' => Same H5 H' ∧ ∃ ts : List Addr, H' D6 = some (.lst (ts.map V.ref)) ∧ TupsAt H' encL ts (((xs.take cnt.toNat).take i).map fun x => (true, x))) ⟨Same.new (Same.refl _) nD6, [], upd_same, trivial⟩ (fun _ _ _ ⟨sm, _⟩ => SqL.of (sm _ _ hc5)) ?_ ?_
      · rintro i v H6 hi ⟨sm, ts6, hD6, hT6⟩
        obtain ⟨x, hx6, rfl⟩ : ∃ x, (xs.take cnt.toNat)[i]? = some x ∧ v = .int x := by
          rw [List.getElem?_map] at hi
          cases e : (xs.take cnt.toNat)[i]? with
          | none => rw [e] at hi; cases hi
          | some t => rw [e] at hi; exact ⟨t, rfl, (Option.some.inj hi).symm⟩
        have hx0 : 0 ≤ x := hx x (List.mem_of_mem_take (List.mem_of_getElem? hx6))
        have hl6 := hT6.len
        rw [List.length_map, List.length_take, List.length_take] at hl6
        walk_at "go"
        refine g_wipe rfl ?_
        walk_at "go"
        intro t nt
        walk_at "go"
        have s67 : Same H6 (upd H6 t (.tup [.int 0, .int x])) := Same.new (Same.refl _) nt
        have nD6t : D6 ≠ t := ne_of_none hD6 nt
        refine ⟨_, (upd_ne nD6t).trans hD6, szlt (by rw [List.length_map]; omega), fun b o e => ?_, ts6 ++ [t], ?_, ?_⟩
        · rw [upd_ne (ne_of_none e nD6)]; exact s67 _ _ (sm b o e)
        · rw [upd_same, List.map_append]; rfl
        · rw [List.take_add_one, hx6, List.map_append]
          exact TupsAt.snoc (show _ = some (HO.tup (encL (true, x))) from (upd_ne nD6t.symm).trans upd_same) hx0 (hT6.fr ((Fr.same [D6] s67).put (by simp)) fun b hb xs e => by rw [List.mem_singleton.mp hb, hD6] at e; cases e)
      rintro H6 ⟨s56, ts6, hD6, hT6⟩
      rw [List.length_map, List.take_length] at hT6
      have s46 := s45.trans s56
      have hl6 := hT6.len
      rw [List.length_map, List.length_take] at hl6
      refine ⟨l2, D6, us4.map V.ref, ts6.map V.ref, rfl, rfl, s46 _ _ hus4, hD6, sz (by rw [List.length_map, List.length_map, hU4.len]; omega), fun p np => ?_⟩
      have dk6 := s46 _ _ dk4
      have npd : d ≠ p := ne_of_none dk6 np
      walk_at "go"
      rw [dkv_putS, decide_eq_true rfl]
      obtain ⟨w7, fr7⟩ := fin1 F4 dk4 las4 hU4 s46 hT6 np n1
      refine q _ la st l1 p L _ w7 ?_ (.inl rfl) ((fr04.mono (by simp)).trans (fr7.mono (by simp)))
      rw [List.length_append, List.length_map, List.length_take]
      omega
    · walk_at "go"
      refine g_dec (fun e => ?_) (fun e => ?_)
      · walk_at "go"
        refine ⟨l1, l2, L, us, S, rfl, las, hus, hU, by omega, fun H1 r s1 nr hr1 => ?_⟩
        have ob1 := s1 _ _ ob
        have dk1 := s1 _ _ dk
        have hz : 0 ≤ n / 3 % (4 + (((after L S).map V.int).length : Int)) := Int.emod_nonneg _ (by omega)
        walk_at "go"
        generalize n / 3 % (4 + (((after L S).map V.int).length : Int)) = size at hz ⊢
        walk_at "go"
        refine ⟨f, dx, la, st, L, S, size, lim, rfl, FF'.same s1, hz, by omega, fun e => ?_, fun ne0 H2 F2 fr2 => ?_⟩
        · subst e
          simp only [limV]
          walk_at "go"
          refine g_cut (fun _ _ => False) ?_ (fun _ _ z => z.elim)
          walk_at "go"
          rw [decide_eq_true rfl]
          exact q H1 la st l1 l2 L S (WW'.mono s1) (by omega) (.inl rfl) (Fr.same _ s1)
        · walk_at "go"
          refine g_cut (fun σ' H' => H2 = H' ∧ σ' = [some (.ref f), some (.ref d), some (.int n), some (.int (n % 7)), some (limV lim), none, none, some (.int 1), some (.int size), none, none]) ?_ ?_
          · cases lim with
            | none =>
              simp only [limV]
              walk_at "go"
              exact ⟨rfl, rfl⟩
            | some k =>
              simp only [limV]
              walk_at "go"
              refine g_decF (fun e => ne0 (by rw [e])) ?_
              walk_at "go"
              exact ⟨rfl, rfl⟩
          rintro σ' H' ⟨rfl, rfl⟩
          have W2 := (WW'.W.same s1).fr fr2 (by simp [nds]) (by simp [n1.symm]) (by simp [n2.symm]) fun b hb xs e => (by rw [List.mem_singleton.mp hb, s1 _ _ hst] at e; cases e)
          have fr02 : Fr [st] H H2 := (Fr.same _ s1).trans fr2
          obtain ⟨dk2, las2, ⟨us2, hus2, hU2⟩⟩ := W2
          walk_at "go"
          intro t nt
          walk_at "go"
          intro g ng
          have s3 : Same H2 (upd H2 t (.tup [.int 1, .int size])) := Same.new (Same.refl _) nt
          have ht3 : (upd H2 t (.tup [.int 1, .int size])) t = some (.tup [.int 1, .int size]) := upd_same
          generalize upd H2 t (.tup [.int 1, .int size]) = H3 at s3 ht3 ng ⊢
          have s4 : Same H3 (upd H3 g (.lst [.ref t])) := Same.new (Same.refl _) ng
          have hg4 : (upd H3 g (.lst [.ref t])) g = some (.lst [.ref t]) := upd_same
          generalize upd H3 g (.lst [.ref t]) = H4 at s4 hg4 ⊢
          have s24 := s3.trans s4
          refine ⟨l2, g, us2.map V.ref, [.ref t], rfl, rfl, s24 _ _ hus2, hg4, sz (by rw [List.length_map, hU2.len]; show S.length + 1 ≤ _; omega), fun p np => ?_⟩
          have dk4 := s24 _ _ dk2
          have npd : d ≠ p := ne_of_none dk4 np
          walk_at "go"
          rw [dkv_putS, decide_eq_true rfl]
          have hT4 : TupsAt H4 encL [t] [(false, size)] := ⟨s4 _ _ ht3, hz, trivial⟩
          obtain ⟨w7, fr7⟩ := fin1 F2 dk2 las2 hU2 s24 hT4 np n1
          refine q _ la st l1 p L _ w7 ?_ (.inl rfl) ((fr02.mono (by simp)).trans (fr7.mono (by simp)))
          rw [List.length_append]
          show L.length + (S.length + 1) ≤ _
          omega
      · walk_at "go"
        have nlf : l1 ≠ f := ne_of las ob (fun z => nomatch z)
        have n2f : l2 ≠ f := ne_of hus ob (fun z => nomatch z)
        have ntf : ∀ b ∈ [f], ∀ xs, H b ≠ some (.tup xs) := fun b hb xs e => by rw [List.mem_singleton.mp hb, ob] at e; cases e
        refine g_dec (fun e => ?_) (fun e => ?_)
        · walk_at "go"
          refine ⟨f, dx, la, st, L, S, lim, rfl, FF', fun e => ?_, fun ne0 H1 la1 st1 F1 nla nst fr1 => ?_⟩
          · subst e
            simp only [limV]
            walk_at "go"
            refine g_cut (fun _ _ => False) ?_ (fun _ _ z => z.elim)
            walk_at "go"
            rw [decide_eq_true rfl]
            exact q H la st l1 l2 L S WW' (by omega) (.inl rfl) (Fr.refl _ _)
          · walk_at "go"
            refine g_cut (fun σ' H' => H1 = H' ∧ σ' = [some (.ref f), some (.ref d), some (.int n), some (.int (n % 7)), some (limV lim), none, none, some (.int 1), none, none, none]) ?_ ?_
            · cases lim with
              | none =>
                simp only [limV]
                walk_at "go"
                exact ⟨rfl, rfl⟩
              | some k =>
                simp only [limV]
                walk_at "go"
                refine g_decF (fun e => ne0 (by rw [e])) ?_
                walk_at "go"
                exact ⟨rfl, rfl⟩
            rintro σ' H' ⟨rfl, rfl⟩
            have W1 := WW'.W.fr fr1 (by simp [nfd.symm]) (by simp [nlf]) (by simp [n2f]) ntf
            obtain ⟨dk1, las1, ⟨us1, hus1, hU1⟩⟩ := W1
            walk_at "go"
            refine ⟨l1, l2, L, us1, S, rfl, las1, hus1, hU1, by omega, fun H2 r s2 nr hr2 => ?_⟩
            have dk2 := s2 _ _ dk1
            walk_at "go"
            rw [dkv_putL]
            intro g ng
            have nde : d ≠ g := ne_of_none upd_same ng
            walk_at "go"
            rw [dkv_putS, decide_eq_true rfl]
            obtain ⟨w7, fr7⟩ := fin2 F1 dk1 s2 nr hr2 ng
            have al := after_len S L
            exact q _ la1 st1 r g (after L S) [] w7 (by show (after L S).length + 0 ≤ L.length + S.length + 10; omega) (.inr nst) ((fr1.mono (by simp)).trans (fr7.mono (by simp)))
        · walk_at "go"
          have hz : 0 ≤ n / 11 % (1 + ((us.map V.ref).length : Int)) := Int.emod_nonneg _ (by omega)
          generalize n / 11 % (1 + ((us.map V.ref).length : Int)) = cnt at hz ⊢
          refine ⟨f, dx, la, st, L, S, cnt, rfl, FF', hz, fun H1 la1 st1 F1 nla nst fr1 => ?_⟩
          have W1 := WW'.W.fr fr1 (by simp [nfd.symm]) (by simp [nlf]) (by simp [n2f]) ntf
          obtain ⟨dk1, las1, ⟨us1, hus1, hU1⟩⟩ := W1
          walk_at "go"
          intro c nc
          rw [cut_take _ _ hz, ← List.map_take]
          have s2 : Same H1 (upd H1 c (.lst ((us1.take cnt.toNat).map V.ref))) := Same.new (Same.refl _) nc
          have hc2 : (upd H1 c (.lst ((us1.take cnt.toNat).map V.ref))) c = some (.lst ((us1.take cnt.toNat).map V.ref)) := upd_same
          generalize upd H1 c (.lst ((us1.take cnt.toNat).map V.ref)) = H2 at s2 hc2 ⊢
          have hlt : (S.take cnt.toNat).length ≤ S.length := by rw [List.length_take]; omega
          walk_at "go"
          refine ⟨l1, c, L, us1.take cnt.toNat, S.take cnt.toNat, rfl, s2 _ _ las1, hc2, (hU1.same s2).take _, by omega, fun H3 r s3 nr hr3 => ?_⟩
          have s13 := s2.trans s3
          have dk3 := s13 _ _ dk1
          walk_at "go"
          rw [dkv_putL]
          intro g ng
          have nde : d ≠ g := ne_of_none upd_same ng
          walk_at "go"
          rw [dkv_putS]
          obtain ⟨w7, fr7⟩ := fin2 F1 dk1 s13 (s2.free nr) hr3 ng
          have al := after_len (S.take cnt.toNat) L
          exact q _ la1 st1 r g (after L (S.take cnt.toNat)) [] w7 (by show (after L (S.take cnt.toNat)).length + 0 ≤ L.length + S.length + 10; omega) (.inr nst) ((fr1.mono (by simp)).trans (fr7.mono (by simp)))
theorem ok_law (T : Txt K mg) : FnOk P w K mg base CX0 5 T.a_law T.d_law ["_law_script"] (spLaw K) := by
  have cl := T.cl_File
  have nL := T.n_File_lasting
  have nS := T.n_File_steps
  have G_File_init : FnOk P w K mg base CX0 1 _ _ _ _ := ok_init T
  have G_File_lose : FnOk P w K mg base CX0 2 _ _ _ _ := ok_lose T
  have G_File_content : FnOk P w K mg base CX0 2 _ _ _ _ := ok_content T
  have G_File_pending : FnOk P w K mg base CX0 1 _ _ _ _ := ok_pending T
  have G_after : FnOk P w K mg base CX0 1 _ _ _ _ := ok_after T
  have G_deed : FnOk P w K mg base CX0 4 _ _ _ _ := ok_deed T
  have G_draw : FnOk P w K mg base CX0 1 _ _ _ _ := ok_draw T
  refine T.F_law.ok sc_law (fun vs H Q E h => ?_) (fun cdv A outer s H vs Q E hr h => ?_)
  · obtain ⟨a, ns, rfl, _⟩ := h
    rfl
  · obtain ⟨a, ns, rfl, hS, hlen, q⟩ := h
    refine ⟨_, (pss_cons (ps_set (i := 1) sc_law.nd rfl (.inl rfl) (pe_make0 T.M_File G_File_init (hr.mono (by decide)) (by rfl) T.g_File T.b_File_init .nil pass0))
      (pss_cons (ps_set (i := 2) sc_law.nd rfl (.inl rfl) (pe_disp (pps_cons pe_str (pe_lst pa_nil) (pps_cons pe_str (pe_lst pa_nil) pps_nil)) (by rfl) (by rfl) (fun z => by cases z) (by decide)))
      (pss_cons (ps_for PassesOwn.never rfl (pi_range1 (by rfl) T.z_range (pa_cons (pe_callB (c_min2 rfl) (by rfl) T.z_min bt_min (pa_cons pe_int (pa_cons (pe_callB (k_len (K := K)) (by rfl) T.z_len bt_len (pa_cons (pv 0) pa_nil)) pa_nil))) pa_nil)) (pg_name (i := 3) sc_law.nd rfl (.inl rfl)) (pss_cons (ps_if (pt_not (pt_val (pe_call G_deed (hr.mono (by decide)) (by rfl) T.g_deed T.F_deed.kp T.b_deed .nil pass0 (pa_cons (pv 1) (pa_cons (pv 2) (pa_cons (pe_call G_draw (hr.mono (by decide)) (by rfl) T.g_draw T.F_draw.kp T.b_draw .nil pass0 (pa_cons (pv 0) (pa_cons (pv 3) pa_nil))) pa_nil)))))) (pss_one (ps_ret pe_bl)) pss_nil)
      (pss_cons (ps_if (PW.pt (pw_or (pt_cmpR (k_neD (K := K) hr.units) (pe_meth0 (pv 1) T.cl_File T.m_File_content G_File_content (hr.mono (by decide)) T.b_File_content .nil pass0) (pe_call G_after (hr.mono (by decide)) (by rfl) T.g_after T.F_after.kp T.b_after .nil pass0 (pa_cons (pe_dget (hu_of hr) (pv 2) pe_str (fun _ _ => rfl)) (pa_cons (pe_dget (hu_of hr) (pv 2) pe_str (fun _ _ => rfl)) pa_nil))) (nomark _)) (pw_or1 (pt_cmpR op_ne (pe_meth0 (pv 1) T.cl_File T.m_File_pending G_File_pending (hr.mono (by decide)) T.b_File_pending .nil pass0) (pe_callB (k_len (K := K)) (by rfl) T.z_len bt_len (pa_cons (pe_dget (hu_of hr) (pv 2) pe_str (fun _ _ => rfl)) pa_nil)) (nomark _))))) (pss_one (ps_ret pe_bl)) pss_nil)
      (pss_cons (ps_set (i := 4) sc_law.nd rfl (.inl rfl) (pe_meth0 (pv 1) T.cl_File T.m_File_content G_File_content (hr.mono (by decide)) T.b_File_content .nil pass0))
      (pss_cons (ps_expr (pe_bm PySem.F.plainAttrs_list PySem.F.slot_list_append PySem.F.type_list_append mt_append (pv 4) (pa_cons pe_int pa_nil)))
      (pss_one (ps_if (pt_cmpR (k_eqD (K := K) hr.units) (pe_meth0 (pv 1) T.cl_File T.m_File_content G_File_content (hr.mono (by decide)) T.b_File_content .nil pass0) (pv 4) (nomark _)) (pss_one (ps_ret pe_bl)) pss_nil)))))))
      (pss_cons (ps_expr (pe_meth (pv 1) T.cl_File T.m_File_lose G_File_lose (hr.mono (by decide)) T.b_File_lose .nil pass0 (pa_cons pe_int pa_nil)))
      (pss_one (ps_ret (pe_and (pe_cmpR (k_eqD (K := K) hr.units) (pe_meth0 (pv 1) T.cl_File T.m_File_content G_File_content (hr.mono (by decide)) T.b_File_content .nil pass0) (pe_dget (hu_of hr) (pv 2) pe_str (fun _ _ => rfl)) (nomark _)) (pe_one (pe_cmpR op_eq (pe_meth0 (pv 1) T.cl_File T.m_File_pending G_File_pending (hr.mono (by decide)) T.b_File_pending .nil pass0) pe_int (nomark _)))))))))), ?_⟩
    walk_at "go0"
    walk_at "go"
    intro f dx nf ndx ndf
    refine ⟨f, dx, rfl, upd_same, fun H1 la st F1 nla nst fr1 => ⟨rfl, ?_⟩⟩
    have s01 : Same H (upd (upd H dx (.own f)) f (.ins T.c_File dx [])) := fun b o e => by rw [upd_ne (ne_of_none e nf), upd_ne (ne_of_none e ndx)]; exact e
    have s1 : Same H H1 := fun b o e => fr1 b o (s01 b o e) (by simp [ne_of_none e nf])
    have nst0 := s01.free nst
    walk_at "go"
    intro d nd
    have nd0 := s1.free nd
    have s2 : Same H1 (upd H1 d (.dK [])) := Same.new (Same.refl _) nd
    have hd2 : (upd H1 d (.dK [])) d = some (.dK []) := upd_same
    generalize upd H1 d (.dK []) = H2 at s2 hd2 ⊢
    walk_at "go"
    intro l1 nl1
    have s3 : Same H2 (upd H2 l1 (.lst [])) := Same.new (Same.refl _) nl1
    have h13 : (upd H2 l1 (.lst [])) l1 = some (.lst []) := upd_same
    generalize upd H2 l1 (.lst []) = H3 at s3 h13 ⊢
    walk_at "go"
    intro l2 nl2
    have s4 : Same H3 (upd H3 l2 (.lst [])) := Same.new (Same.refl _) nl2
    have h24 : (upd H3 l2 (.lst [])) l2 = some (.lst []) := upd_same
    generalize upd H3 l2 (.lst []) = H4 at s4 h24 ⊢
    have s24 := s3.trans s4
    have s14 := s2.trans s24
    walk_at "go"
    refine ⟨s24 _ _ hd2, [(.inr "lasting", .ref l1), (.inr "steps", .ref l2)], rfl, Nat.le_of_ble_eq_true rfl, ?_⟩
    rw [merge2]
    obtain ⟨ts, hst, hT⟩ := F1.sts
    have nst1 : st ≠ l1 := ne_of_none (s2 _ _ hst) nl1
    have nst2 : st ≠ l2 := ne_of_none ((s2.trans s3) _ _ hst) nl2
    have ndl1 : d ≠ l1 := ne_of_none hd2 nl1
    have ndl2 : d ≠ l2 := ne_of_none (s3 _ _ hd2) nl2
    have nfd : f ≠ d := ne_of_none F1.ob nd
    have nad : la ≠ d := ne_of_none F1.las nd
    have nsd : st ≠ d := ne_of_none hst nd
    have fr4 : Fr [d] H1 (upd H4 d (.dK (dkv l1 l2))) := (Fr.same [d] s14).put (by simp)
    have s05 : Same H (upd H4 d (.dK (dkv l1 l2))) := fun b o e => fr4 b o (s1 _ _ e) (by simp [ne_of_none (s1 _ _ e) nd])
    have W : WAt T.c_File (upd H4 d (.dK (dkv l1 l2))) f dx la st d l1 l2 [] [] := ⟨F1.fr fr4 (by simp [nfd]) (by simp [nad]) (by simp [nsd]) (fun b hb xs e => by rw [List.mem_singleton.mp hb, nd] at e; cases e), ⟨upd_same, (upd_ne ndl1.symm).trans (s4 _ _ h13), ⟨[], (upd_ne ndl2.symm).trans h24, trivial⟩⟩, nst1, nst2⟩
    generalize upd H4 d (.dK (dkv l1 l2)) = H5 at s05 W ⊢
    clear fr4 hst hT
    have hS5 := sqL_same hS s05
    walk_at "go"
    have hlen2 : ((ns.map V.int).length : Int) ≤ 63 := by rw [List.length_map]; omega
    refine g_forR (lo := 0) (fun i σ' H' => i ≤ 63 ∧ ∃ la st l1 l2 L S y3 y4, σ' = [some (.ref a), some (.ref f), some (.ref d), y3, y4] ∧ Same H H' ∧ H st = none ∧ WAt T.c_File H' f dx la st d l1 l2 L S ∧ L.length + S.length ≤ 10 * i) ⟨Nat.zero_le _, la, st, l1, l2, [], [], none, none, rfl, s05, nst0, W, Nat.le_refl _⟩ ?_ ?_
    · rintro i σ' H' hi ⟨_, la, st, l1, l2, L, S, y3, y4, rfl, sm, nst, W, hb⟩
      have hS' := sqL_same hS sm
      have hi2 : i < 63 := by omega
      walk_at "go"
      refine ⟨a, ns, _, rfl, hS', hlen, by omega, by omega, fun n n0 => ?_⟩
      walk_at "go"
      refine ⟨f, dx, la, st, d, l1, l2, L, S, n, rfl, W, n0, by omega, fun H2 la2 st2 m1 m2 L2 S2 W2 hl2 hst2 fr2 => ?_⟩
      have s2 : Same H H2 := fun b o e => fr2 b o (sm _ _ e) (by simp [ne_of_none e nf, ne_of_none e nd0, ne_of_none e nst])
      have nst2 : H st2 = none := hst2.elim (fun e => by rw [e]; exact nst) sm.free
      walk_at "go"
      have ob2 := W2.F.ob
      walk_at "go"
      refine ⟨f, dx, la2, st2, L2, S2, rfl, W2.F, fun H3 r s3 nr hr => ?_⟩
      have W3 := W2.mono s3
      obtain ⟨us, hus, hU⟩ := W3.W.sts
      have dk3 := W3.W.dk
      have ln := hU.len
      walk_at "go"
      refine ⟨m1, m2, L2, us, S2, rfl, W3.W.las, hus, hU, by omega, fun H4 r2 s4 nr2 hr2 => ?_⟩
      refine ne_ints (SqL.of (s4 _ _ hr)) (SqL.of hr2) ?_
      rw [decide_eq_true rfl, Bool.not_true]
      have W4 := W3.mono s4
      have ob4 := W4.F.ob
      have dk4 := W4.W.dk
      have hus4 := s4 _ _ hus
      walk_at "go"
      refine ⟨f, dx, la2, st2, L2, S2, rfl, W4.F, ?_⟩
      walk_at "go"
      rw [List.length_map, ln]
      refine g_ndecF rfl ?_
      walk_at "go"
      refine ⟨f, dx, la2, st2, L2, S2, rfl, W4.F, fun H5 r5 s5 nr5 hr5 => ?_⟩
      have al := after_len S2 L2
      walk_at "go"
      refine g_append hr5 (by rw [List.length_map]; exact szlt (by omega)) ?_
      have s6 : Same H4 (upd H5 r5 (.lst ((after L2 S2).map V.int ++ [.int 7]))) := fun b o e => by rw [upd_ne (ne_of_none e nr5)]; exact s5 _ _ e
      have hr6 : (upd H5 r5 (.lst ((after L2 S2).map V.int ++ [.int 7]))) r5 = some (.lst ((after L2 S2 ++ [7]).map V.int)) := by rw [upd_same, List.map_append]; rfl
      generalize upd H5 r5 (.lst ((after L2 S2).map V.int ++ [.int 7])) = H6 at s6 hr6 ⊢
      have W6 := W4.mono s6
      have ob6 := W6.F.ob
      walk_at "go"
      refine ⟨f, dx, la2, st2, L2, S2, rfl, W6.F, fun H7 r7 s7 nr7 hr7 => ?_⟩
      walk_at "go"
      refine eq_ints (SqL.of hr7) (SqL.of (s7 _ _ hr6)) ?_
      rw [decide_eq_false (show ¬ after L2 S2 = after L2 S2 ++ [7] from fun e => by have := congrArg List.length e; rw [List.length_append] at this; exact absurd this (by simp))]
      walk_at "go"
      exact ⟨hi2, la2, st2, m1, m2, L2, S2, _, _, rfl, (((s2.trans s3).trans s4).trans s6).trans s7, nst2, W6.mono s7, by omega⟩
    · rintro σ' H' ⟨_, la, st, l1, l2, L, S, y3, y4, rfl, sm, nst, W, hb⟩
      have ob := W.F.ob
      walk_at "go"
      refine ⟨f, dx, la, st, L, S, 0, rfl, W.F, by decide, fun H2 la2 st2 F2 nla2 nst2 fr2 => ?_⟩
      have W2 := W.W.fr fr2 (by simp [nfd.symm]) (by simp [ne_of W.W.las ob (fun z => nomatch z)]) (by obtain ⟨us, hus, _⟩ := W.W.sts; simp [ne_of hus ob (fun z => nomatch z)]) fun b hb xs e => (by rw [List.mem_singleton.mp hb, ob] at e; cases e)
      have F2' : FileAt T.c_File H2 f dx la2 st2 L [] := F2
      have ob2 := F2.ob
      walk_at "go"
      refine ⟨f, dx, la2, st2, L, [], rfl, F2', fun H3 r s3 nr hr => ?_⟩
      have dk3 := s3 _ _ W2.dk
      walk_at "go"
      refine eq_ints (SqL.of hr) (SqL.of (s3 _ _ W2.las)) ?_
      rw [decide_eq_true (show after L [] = L from rfl)]
      have F3 := F2'.same s3
      have ob3 := F3.ob
      walk_at "go"
      refine ⟨f, dx, la2, st2, L, [], rfl, F3, ?_⟩
      walk_at "go"
      exact q _
end
theorem all_mk {l : PySem.W.OpenLaw} {w : World} {K : PySem.W.Frag} {h : Heap} {mg : Str → Option Value} {fa C_File f_File_init f_File_write f_File_shorten f_File_flush f_File_content f_File_pending f_File_lose f_after_steps f_draw f_after f_deed f_law : Addr} (X : K.In h) (G : h.Ns mainGlobals mg) (hfa : mg "law" = some (.ref fa))
    {od_File_init an_File_init : Option Addr} {sl_File_init : Array (Option Value)} {oc_File_init kV_File_init dc_File_init pm_File_init cd_File_init ct_File_init : Value}
    {od_File_write an_File_write : Option Addr} {sl_File_write : Array (Option Value)} {oc_File_write kV_File_write dc_File_write pm_File_write cd_File_write ct_File_write : Value}
    {od_File_shorten an_File_shorten : Option Addr} {sl_File_shorten : Array (Option Value)} {oc_File_shorten kV_File_shorten dc_File_shorten pm_File_shorten cd_File_shorten ct_File_shorten : Value}
    {od_File_flush an_File_flush : Option Addr} {sl_File_flush : Array (Option Value)} {oc_File_flush kV_File_flush dc_File_flush pm_File_flush cd_File_flush ct_File_flush : Value}
    {od_File_content an_File_content : Option Addr} {sl_File_content : Array (Option Value)} {oc_File_content kV_File_content dc_File_content pm_File_content cd_File_content ct_File_content : Value}
    {od_File_pending an_File_pending : Option Addr} {sl_File_pending : Array (Option Value)} {oc_File_pending kV_File_pending dc_File_pending pm_File_pending cd_File_pending ct_File_pending : Value}
    {od_File_lose an_File_lose : Option Addr} {sl_File_lose : Array (Option Value)} {oc_File_lose kV_File_lose dc_File_lose pm_File_lose cd_File_lose ct_File_lose : Value}
    {od_after_steps an_after_steps : Option Addr} {sl_after_steps : Array (Option Value)} {oc_after_steps kV_after_steps dc_after_steps pm_after_steps cd_after_steps ct_after_steps : Value}
    {od_draw an_draw : Option Addr} {sl_draw : Array (Option Value)} {oc_draw kV_draw dc_draw pm_draw cd_draw ct_draw : Value}
    {od_after an_after : Option Addr} {sl_after : Array (Option Value)} {oc_after kV_after dc_after pm_after cd_after ct_after : Value}
    {od_deed an_deed : Option Addr} {sl_deed : Array (Option Value)} {oc_deed kV_deed dc_deed pm_deed cd_deed ct_deed : Value}
    {od_law an_law : Option Addr} {sl_law : Array (Option Value)} {oc_law kV_law dc_law pm_law cd_law ct_law : Value}
    (aC_File : PySem.W.nsIn K mainGlobals "File" = some (some (.ref C_File)))
    (pg_File : PySem.W.plainGet K C_File Str.empty = true)
    (hd_File : PySem.W.hasDictIn K C_File = true)
    (po_File : PySem.W.plainOver K C_File = true)
    (sa_File : PySem.W.findIn K (.ref C_File) "__setattr__" = some (some (.builtin "object.__setattr__")))
    (mk_File : PySem.W.makesIn K C_File = true)
    (kc_File : PySem.W.keepIn K (.ref C_File) = true)
    (n_File_lasting : PySem.W.findIn K (.ref C_File) "lasting" = some none)
    (n_File_steps : PySem.W.findIn K (.ref C_File) "steps" = some none)
    (a_File_init : PySem.W.findIn K (.ref C_File) "__init__" = some (some (.ref f_File_init)))
    (i_File_init : PySem.W.isFn K (.ref f_File_init) = true)
    (l_File_init : K.lookup f_File_init = some ⟨oc_File_init, od_File_init, .func (PySem.W.fnOf "__init__" "File.__init__" (defArgs s_File_init) (defBody s_File_init) (defScope s_File_init) .none kV_File_init dc_File_init pm_File_init an_File_init cd_File_init ct_File_init), sl_File_init⟩)
    (c_File_init : PySem.W.codeIn K cd_File_init "File.__init__" = true)
    (k_File_init : PySem.W.keepIn K (.ref f_File_init) = true)
    (a_File_write : PySem.W.findIn K (.ref C_File) "write" = some (some (.ref f_File_write)))
    (i_File_write : PySem.W.isFn K (.ref f_File_write) = true)
    (l_File_write : K.lookup f_File_write = some ⟨oc_File_write, od_File_write, .func (PySem.W.fnOf "write" "File.write" (defArgs s_File_write) (defBody s_File_write) (defScope s_File_write) .none kV_File_write dc_File_write pm_File_write an_File_write cd_File_write ct_File_write), sl_File_write⟩)
    (c_File_write : PySem.W.codeIn K cd_File_write "File.write" = true)
    (k_File_write : PySem.W.keepIn K (.ref f_File_write) = true)
    (a_File_shorten : PySem.W.findIn K (.ref C_File) "shorten" = some (some (.ref f_File_shorten)))
    (i_File_shorten : PySem.W.isFn K (.ref f_File_shorten) = true)
    (l_File_shorten : K.lookup f_File_shorten = some ⟨oc_File_shorten, od_File_shorten, .func (PySem.W.fnOf "shorten" "File.shorten" (defArgs s_File_shorten) (defBody s_File_shorten) (defScope s_File_shorten) .none kV_File_shorten dc_File_shorten pm_File_shorten an_File_shorten cd_File_shorten ct_File_shorten), sl_File_shorten⟩)
    (c_File_shorten : PySem.W.codeIn K cd_File_shorten "File.shorten" = true)
    (k_File_shorten : PySem.W.keepIn K (.ref f_File_shorten) = true)
    (a_File_flush : PySem.W.findIn K (.ref C_File) "flush" = some (some (.ref f_File_flush)))
    (i_File_flush : PySem.W.isFn K (.ref f_File_flush) = true)
    (l_File_flush : K.lookup f_File_flush = some ⟨oc_File_flush, od_File_flush, .func (PySem.W.fnOf "flush" "File.flush" (defArgs s_File_flush) (defBody s_File_flush) (defScope s_File_flush) .none kV_File_flush dc_File_flush pm_File_flush an_File_flush cd_File_flush ct_File_flush), sl_File_flush⟩)
    (c_File_flush : PySem.W.codeIn K cd_File_flush "File.flush" = true)
    (k_File_flush : PySem.W.keepIn K (.ref f_File_flush) = true)
    (a_File_content : PySem.W.findIn K (.ref C_File) "content" = some (some (.ref f_File_content)))
    (i_File_content : PySem.W.isFn K (.ref f_File_content) = true)
    (l_File_content : K.lookup f_File_content = some ⟨oc_File_content, od_File_content, .func (PySem.W.fnOf "content" "File.content" (defArgs s_File_content) (defBody s_File_content) (defScope s_File_content) .none kV_File_content dc_File_content pm_File_content an_File_content cd_File_content ct_File_content), sl_File_content⟩)
    (c_File_content : PySem.W.codeIn K cd_File_content "File.content" = true)
    (k_File_content : PySem.W.keepIn K (.ref f_File_content) = true)
    (a_File_pending : PySem.W.findIn K (.ref C_File) "pending" = some (some (.ref f_File_pending)))
    (i_File_pending : PySem.W.isFn K (.ref f_File_pending) = true)
    (l_File_pending : K.lookup f_File_pending = some ⟨oc_File_pending, od_File_pending, .func (PySem.W.fnOf "pending" "File.pending" (defArgs s_File_pending) (defBody s_File_pending) (defScope s_File_pending) .none kV_File_pending dc_File_pending pm_File_pending an_File_pending cd_File_pending ct_File_pending), sl_File_pending⟩)
    (c_File_pending : PySem.W.codeIn K cd_File_pending "File.pending" = true)
    (k_File_pending : PySem.W.keepIn K (.ref f_File_pending) = true)
    (a_File_lose : PySem.W.findIn K (.ref C_File) "lose" = some (some (.ref f_File_lose)))
    (i_File_lose : PySem.W.isFn K (.ref f_File_lose) = true)
    (l_File_lose : K.lookup f_File_lose = some ⟨oc_File_lose, od_File_lose, .func (PySem.W.fnOf "lose" "File.lose" (defArgs s_File_lose) (defBody s_File_lose) (defScope s_File_lose) .none kV_File_lose dc_File_lose pm_File_lose an_File_lose cd_File_lose ct_File_lose), sl_File_lose⟩)
    (c_File_lose : PySem.W.codeIn K cd_File_lose "File.lose" = true)
    (k_File_lose : PySem.W.keepIn K (.ref f_File_lose) = true)
    (a_after_steps : PySem.W.nsIn K mainGlobals "after_steps" = some (some (.ref f_after_steps)))
    (l_after_steps : K.lookup f_after_steps = some ⟨oc_after_steps, od_after_steps, .func (PySem.W.fnOf "after_steps" "after_steps" (defArgs s_after_steps) (defBody s_after_steps) (defScope s_after_steps) .none kV_after_steps dc_after_steps pm_after_steps an_after_steps cd_after_steps ct_after_steps), sl_after_steps⟩)
    (c_after_steps : PySem.W.codeIn K cd_after_steps "after_steps" = true)
    (k_after_steps : PySem.W.keepIn K (.ref f_after_steps) = true)
    (a_draw : PySem.W.nsIn K mainGlobals "_law_draw" = some (some (.ref f_draw)))
    (l_draw : K.lookup f_draw = some ⟨oc_draw, od_draw, .func (PySem.W.fnOf "_law_draw" "_law_draw" (defArgs s_draw) (defBody s_draw) (defScope s_draw) .none kV_draw dc_draw pm_draw an_draw cd_draw ct_draw), sl_draw⟩)
    (c_draw : PySem.W.codeIn K cd_draw "_law_draw" = true)
    (k_draw : PySem.W.keepIn K (.ref f_draw) = true)
    (a_after : PySem.W.nsIn K mainGlobals "_law_after" = some (some (.ref f_after)))
    (l_after : K.lookup f_after = some ⟨oc_after, od_after, .func (PySem.W.fnOf "_law_after" "_law_after" (defArgs s_after) (defBody s_after) (defScope s_after) .none kV_after dc_after pm_after an_after cd_after ct_after), sl_after⟩)
    (c_after : PySem.W.codeIn K cd_after "_law_after" = true)
    (k_after : PySem.W.keepIn K (.ref f_after) = true)
    (a_deed : PySem.W.nsIn K mainGlobals "_law_deed" = some (some (.ref f_deed)))
    (l_deed : K.lookup f_deed = some ⟨oc_deed, od_deed, .func (PySem.W.fnOf "_law_deed" "_law_deed" (defArgs s_deed) (defBody s_deed) (defScope s_deed) .none kV_deed dc_deed pm_deed an_deed cd_deed ct_deed), sl_deed⟩)
    (c_deed : PySem.W.codeIn K cd_deed "_law_deed" = true)
    (k_deed : PySem.W.keepIn K (.ref f_deed) = true)
    (a_law : PySem.W.nsIn K mainGlobals "law" = some (some (.ref f_law)))
    (l_law : K.lookup f_law = some ⟨oc_law, od_law, .func (PySem.W.fnOf "law" "law" (defArgs s_law) (defBody s_law) (defScope s_law) .none kV_law dc_law pm_law an_law cd_law ct_law), sl_law⟩)
    (c_law : PySem.W.codeIn K cd_law "law" = true)
    (k_law : PySem.W.keepIn K (.ref f_law) = true)
    (z_int : PySem.W.nsIn K mainGlobals "int" = some none)
    (z_len : PySem.W.nsIn K mainGlobals "len" = some none)
    (z_list : PySem.W.nsIn K mainGlobals "list" = some none)
    (z_min : PySem.W.nsIn K mainGlobals "min" = some none)
    (z_range : PySem.W.nsIn K mainGlobals "range" = some none)
    : ∃ fd : FuncData, (∀ (s : Shared) (v : Value), BindsTo s fd ⟨[v], []⟩ [("_law_script", v)]) ∧ ∀ base : Heap, K.In base → base.Ns mainGlobals mg → FnOk l.prog w K mg base CX0 5 fa fd ["_law_script"] (spLaw K) := by
  have e := hfa.symm.trans (PySem.W.mg_of X G a_law)
  have e2 : fa = f_law := by cases e; rfl
  rw [e2]
  exact ⟨PySem.W.fnOf "law" "law" (defArgs s_law) (defBody s_law) (defScope s_law) .none kV_law dc_law pm_law an_law cd_law ct_law, fun s v => .of_eq rfl, fun base _ _ =>
    ok_law (T := {
      c_File := C_File
      cl_File := ⟨pg_File, hd_File, po_File, sa_File⟩
      g_File := PySem.W.mg_of X G aC_File
      n_File_lasting := n_File_lasting
      n_File_steps := n_File_steps
      a_File_init := f_File_init
      d_File_init := PySem.W.fnOf "__init__" "File.__init__" (defArgs s_File_init) (defBody s_File_init) (defScope s_File_init) .none kV_File_init dc_File_init pm_File_init an_File_init cd_File_init ct_File_init
      F_File_init := fun_mk (st := s_File_init) l_File_init c_File_init k_File_init
      b_File_init := (fun_mk (st := s_File_init) l_File_init c_File_init k_File_init).binds (ps := ["self"]) fun _ _ _ _ _ _ us hl => match us, hl with | [_], _ => rfl
      M_File := ⟨mk_File, a_File_init, i_File_init, kc_File⟩
      a_File_write := f_File_write
      d_File_write := PySem.W.fnOf "write" "File.write" (defArgs s_File_write) (defBody s_File_write) (defScope s_File_write) .none kV_File_write dc_File_write pm_File_write an_File_write cd_File_write ct_File_write
      F_File_write := fun_mk (st := s_File_write) l_File_write c_File_write k_File_write
      b_File_write := (fun_mk (st := s_File_write) l_File_write c_File_write k_File_write).binds (ps := ["self", "data", "steps"]) fun _ _ _ _ _ _ us hl => match us, hl with | [_, _, _], _ => rfl
      m_File_write := ⟨a_File_write, i_File_write, k_File_write⟩
      a_File_shorten := f_File_shorten
      d_File_shorten := PySem.W.fnOf "shorten" "File.shorten" (defArgs s_File_shorten) (defBody s_File_shorten) (defScope s_File_shorten) .none kV_File_shorten dc_File_shorten pm_File_shorten an_File_shorten cd_File_shorten ct_File_shorten
      F_File_shorten := fun_mk (st := s_File_shorten) l_File_shorten c_File_shorten k_File_shorten
      b_File_shorten := (fun_mk (st := s_File_shorten) l_File_shorten c_File_shorten k_File_shorten).binds (ps := ["self", "size", "steps"]) fun _ _ _ _ _ _ us hl => match us, hl with | [_, _, _], _ => rfl
      m_File_shorten := ⟨a_File_shorten, i_File_shorten, k_File_shorten⟩
      a_File_flush := f_File_flush
      d_File_flush := PySem.W.fnOf "flush" "File.flush" (defArgs s_File_flush) (defBody s_File_flush) (defScope s_File_flush) .none kV_File_flush dc_File_flush pm_File_flush an_File_flush cd_File_flush ct_File_flush
      F_File_flush := fun_mk (st := s_File_flush) l_File_flush c_File_flush k_File_flush
      b_File_flush := (fun_mk (st := s_File_flush) l_File_flush c_File_flush k_File_flush).binds (ps := ["self", "steps"]) fun _ _ _ _ _ _ us hl => match us, hl with | [_, _], _ => rfl
      m_File_flush := ⟨a_File_flush, i_File_flush, k_File_flush⟩
      a_File_content := f_File_content
      d_File_content := PySem.W.fnOf "content" "File.content" (defArgs s_File_content) (defBody s_File_content) (defScope s_File_content) .none kV_File_content dc_File_content pm_File_content an_File_content cd_File_content ct_File_content
      F_File_content := fun_mk (st := s_File_content) l_File_content c_File_content k_File_content
      b_File_content := (fun_mk (st := s_File_content) l_File_content c_File_content k_File_content).binds (ps := ["self"]) fun _ _ _ _ _ _ us hl => match us, hl with | [_], _ => rfl
      m_File_content := ⟨a_File_content, i_File_content, k_File_content⟩
      a_File_pending := f_File_pending
      d_File_pending := PySem.W.fnOf "pending" "File.pending" (defArgs s_File_pending) (defBody s_File_pending) (defScope s_File_pending) .none kV_File_pending dc_File_pending pm_File_pending an_File_pending cd_File_pending ct_File_pending
      F_File_pending := fun_mk (st := s_File_pending) l_File_pending c_File_pending k_File_pending
      b_File_pending := (fun_mk (st := s_File_pending) l_File_pending c_File_pending k_File_pending).binds (ps := ["self"]) fun _ _ _ _ _ _ us hl => match us, hl with | [_], _ => rfl
      m_File_pending := ⟨a_File_pending, i_File_pending, k_File_pending⟩
      a_File_lose := f_File_lose
      d_File_lose := PySem.W.fnOf "lose" "File.lose" (defArgs s_File_lose) (defBody s_File_lose) (defScope s_File_lose) .none kV_File_lose dc_File_lose pm_File_lose an_File_lose cd_File_lose ct_File_lose
      F_File_lose := fun_mk (st := s_File_lose) l_File_lose c_File_lose k_File_lose
      b_File_lose := (fun_mk (st := s_File_lose) l_File_lose c_File_lose k_File_lose).binds (ps := ["self", "steps"]) fun _ _ _ _ _ _ us hl => match us, hl with | [_, _], _ => rfl
      m_File_lose := ⟨a_File_lose, i_File_lose, k_File_lose⟩
      a_after_steps := f_after_steps
      d_after_steps := PySem.W.fnOf "after_steps" "after_steps" (defArgs s_after_steps) (defBody s_after_steps) (defScope s_after_steps) .none kV_after_steps dc_after_steps pm_after_steps an_after_steps cd_after_steps ct_after_steps
      F_after_steps := fun_mk (st := s_after_steps) l_after_steps c_after_steps k_after_steps
      b_after_steps := (fun_mk (st := s_after_steps) l_after_steps c_after_steps k_after_steps).binds (ps := ["data", "steps"]) fun _ _ _ _ _ _ us hl => match us, hl with | [_, _], _ => rfl
      g_after_steps := PySem.W.mg_of X G a_after_steps
      a_draw := f_draw
      d_draw := PySem.W.fnOf "_law_draw" "_law_draw" (defArgs s_draw) (defBody s_draw) (defScope s_draw) .none kV_draw dc_draw pm_draw an_draw cd_draw ct_draw
      F_draw := fun_mk (st := s_draw) l_draw c_draw k_draw
      b_draw := (fun_mk (st := s_draw) l_draw c_draw k_draw).binds (ps := ["_law_script", "_law_k"]) fun _ _ _ _ _ _ us hl => match us, hl with | [_, _], _ => rfl
      g_draw := PySem.W.mg_of X G a_draw
      a_after := f_after
      d_after := PySem.W.fnOf "_law_after" "_law_after" (defArgs s_after) (defBody s_after) (defScope s_after) .none kV_after dc_after pm_after an_after cd_after ct_after
      F_after := fun_mk (st := s_after) l_after c_after k_after
      b_after := (fun_mk (st := s_after) l_after c_after k_after).binds (ps := ["_law_data", "_law_steps"]) fun _ _ _ _ _ _ us hl => match us, hl with | [_, _], _ => rfl
      g_after := PySem.W.mg_of X G a_after
      a_deed := f_deed
      d_deed := PySem.W.fnOf "_law_deed" "_law_deed" (defArgs s_deed) (defBody s_deed) (defScope s_deed) .none kV_deed dc_deed pm_deed an_deed cd_deed ct_deed
      F_deed := fun_mk (st := s_deed) l_deed c_deed k_deed
      b_deed := (fun_mk (st := s_deed) l_deed c_deed k_deed).binds (ps := ["_law_file", "_law_state", "_law_number"]) fun _ _ _ _ _ _ us hl => match us, hl with | [_, _, _], _ => rfl
      g_deed := PySem.W.mg_of X G a_deed
      a_law := f_law
      d_law := PySem.W.fnOf "law" "law" (defArgs s_law) (defBody s_law) (defScope s_law) .none kV_law dc_law pm_law an_law cd_law ct_law
      F_law := fun_mk (st := s_law) l_law c_law k_law
      b_law := (fun_mk (st := s_law) l_law c_law k_law).binds (ps := ["_law_script"]) fun _ _ _ _ _ _ us hl => match us, hl with | [_], _ => rfl
      g_law := PySem.W.mg_of X G a_law
      z_int := PySem.W.mg_none_of X G z_int
      z_len := PySem.W.mg_none_of X G z_len
      z_list := PySem.W.mg_none_of X G z_list
      z_min := PySem.W.mg_none_of X G z_min
      z_range := PySem.W.mg_none_of X G z_range })⟩
end Kb
open PySem PySem.W PyProof.Rows
set_option maxRecDepth 100000 in
set_option maxHeartbeats 0 in
theorem PySem.Challenge.cw_kithbase_k51_file_keeps_a_prefix_holds : PySem.Challenge.rw_kithbase_k51_file_keeps_a_prefix.Holds := by
  w_on; o_law; k_head; (case hw => w_witness2)
  k_fill
  refine L2.walk_of (l := PySem.Challenge.rw_kithbase_k51_file_keeps_a_prefix) (n := 63) (k := 5) (x := "_law_script") (CX := fun _ => L2.CX0) (sp := fun w => Kb.spLaw _) rfl (by decide) rfl ⟨rfl, by decide, by decide⟩ (fun w h Y => PySem.W.kIn_of Y) ?F (fun _ _ a ns hl _ hS => ⟨a, ns, rfl, hS, hl, fun _ => rfl⟩) (fun _ _ _ _ _ h => h)
  case F =>
    intro w mg fa h KX G hmg
    refine' Kb.all_mk KX G hmg ?aC_File ?pg_File ?hd_File ?po_File ?sa_File ?mk_File ?kc_File ?n_File_lasting ?n_File_steps ?a_File_init ?i_File_init ?l_File_init ?c_File_init ?k_File_init ?a_File_write ?i_File_write ?l_File_write ?c_File_write ?k_File_write ?a_File_shorten ?i_File_shorten ?l_File_shorten ?c_File_shorten ?k_File_shorten ?a_File_flush ?i_File_flush ?l_File_flush ?c_File_flush ?k_File_flush ?a_File_content ?i_File_content ?l_File_content ?c_File_content ?k_File_content ?a_File_pending ?i_File_pending ?l_File_pending ?c_File_pending ?k_File_pending ?a_File_lose ?i_File_lose ?l_File_lose ?c_File_lose ?k_File_lose ?a_after_steps ?l_after_steps ?c_after_steps ?k_after_steps ?a_draw ?l_draw ?c_draw ?k_draw ?a_after ?l_after ?c_after ?k_after ?a_deed ?l_deed ?c_deed ?k_deed ?a_law ?l_law ?c_law ?k_law ?z_int ?z_len ?z_list ?z_min ?z_range
    (case aC_File => k_is)
    (case pg_File => k_is)
    (case hd_File => k_is)
    (case po_File => k_is)
    (case sa_File => k_is)
    (case mk_File => k_is)
    (case kc_File => k_is)
    (case n_File_lasting => k_is)
    (case n_File_steps => k_is)
    (case a_File_init => k_is)
    (case i_File_init => k_is)
    (case l_File_init => k_is)
    (case c_File_init => k_is)
    (case k_File_init => k_is)
    (case a_File_write => k_is)
    (case i_File_write => k_is)
    (case l_File_write => k_is)
    (case c_File_write => k_is)
    (case k_File_write => k_is)
    (case a_File_shorten => k_is)
    (case i_File_shorten => k_is)
    (case l_File_shorten => k_is)
    (case c_File_shorten => k_is)
    (case k_File_shorten => k_is)
    (case a_File_flush => k_is)
    (case i_File_flush => k_is)
    (case l_File_flush => k_is)
    (case c_File_flush => k_is)
    (case k_File_flush => k_is)
    (case a_File_content => k_is)
    (case i_File_content => k_is)
    (case l_File_content => k_is)
    (case c_File_content => k_is)
    (case k_File_content => k_is)
    (case a_File_pending => k_is)
    (case i_File_pending => k_is)
    (case l_File_pending => k_is)
    (case c_File_pending => k_is)
    (case k_File_pending => k_is)
    (case a_File_lose => k_is)
    (case i_File_lose => k_is)
    (case l_File_lose => k_is)
    (case c_File_lose => k_is)
    (case k_File_lose => k_is)
    (case a_after_steps => k_is)
    (case l_after_steps => k_is)
    (case c_after_steps => k_is)
    (case k_after_steps => k_is)
    (case a_draw => k_is)
    (case l_draw => k_is)
    (case c_draw => k_is)
    (case k_draw => k_is)
    (case a_after => k_is)
    (case l_after => k_is)
    (case c_after => k_is)
    (case k_after => k_is)
    (case a_deed => k_is)
    (case l_deed => k_is)
    (case c_deed => k_is)
    (case k_deed => k_is)
    (case a_law => k_is)
    (case l_law => k_is)
    (case c_law => k_is)
    (case k_law => k_is)
    (case z_int => k_is)
    (case z_len => k_is)
    (case z_list => k_is)
    (case z_min => k_is)
    (case z_range => k_is)
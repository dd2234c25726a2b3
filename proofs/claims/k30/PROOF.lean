import PyProof.Rows.All
import Wide.All
import OpenK.AllK
import Wide.FinOn
import HandS.ForMost
import HandS.IsInst
import HandS.Wide
import HandS.TupAny
import HandS.Flow
import HandS.Text
import HandS.Codes

import PySem.Challenge.RW_kithbase_k30_arithmetic
set_option Elab.async false
set_option linter.all false
set_option maxRecDepth 100000
set_option maxHeartbeats 4000000
namespace Kb
open PySem PySem.Spec PyProof.Rows L2
/-! rules and words of my own, over HandS -/
section
variable {X : Cx}
/-- o[i] of a list, the place not negative, as an operand of an in-place statement -/
theorem get_list : PGet X (rIxL X.K) := by
  intro pins s σ H x y v u Q I rx ry h
  obtain ⟨p, xs, i, z, rfl, rfl, hq, he, q⟩ := h
  cases rx
  obtain ⟨t, rfl⟩ := ry
  obtain ⟨its, r, pl, hz⟩ := I.list hq
  obtain ⟨j, h1, h2, h3, h4, h5⟩ := atI_get he
  obtain ⟨w, ew, rw'⟩ := r.get h2
  have hl := r.length
  have hn := line63
  have fin : EP X pins σ Q w s := ⟨z, H, I, rw', q⟩
  by_cases h0 : 0 ≤ i
  · have hj : i.toNat = j := by
      rw [seqIndex_of h0 h5] at h1
      exact Option.some.inj h1
    exact getItem_listL pl.isList h0 (by omega) (by rw [hj]; exact ew) fin
  · have hj : (i + (its.toArray.size : Int)).toNat = j := by
      rw [seqIndex_neg (by omega) h4] at h1
      rw [List.size_toArray, ← hl]
      exact Option.some.inj h1
    exact wpAny_getItem_list_neg pl.isList (by omega) (by rw [List.size_toArray] <;> omega) (by omega) (by rw [hj]; simpa using ew) fin
theorem RelV.bl_iff {x : V} {v : Value} (b : Bool) (r : RelV x v) : (v == Value.bool b) = decide (x = .bl b) := by
  cases x <;> first
    | (obtain ⟨t, rfl⟩ := r; rfl)
    | (cases r; rfl)
    | skip
  cases r
  rename_i c
  cases b <;> cases c <;> rfl
theorem plain_bool {x : V} {v : Value} (b : Bool) (r : RelV x v) : plainIs v (.bool b) = true := by
  cases x <;> first
    | (obtain ⟨t, rfl⟩ := r; rfl)
    | (cases r; rfl)
/-- x is True, x is False -/
def rIsBl (neg : Bool) : R2 := fun x y H Q => ∃ b, y = .bl b ∧ Q (.bl (if neg then !decide (x = .bl b) else decide (x = .bl b))) H
theorem op_isB : OpR X (compareOp .Is) (rIsBl false) := by
  intro pins s σ H x y v u Q I rx ry h
  obtain ⟨b, rfl, q⟩ := h
  cases (show u = Value.bool b from ry)
  exact wpAny_is_plain (plain_bool b rx) (fin_bl I q (RelV.bl_iff b rx).symm)
theorem op_isNotB : OpR X (compareOp .IsNot) (rIsBl true) := by
  intro pins s σ H x y v u Q I rx ry h
  obtain ⟨b, rfl, q⟩ := h
  cases (show u = Value.bool b from ry)
  exact wpAny_isNot_plain (plain_bool b rx) (fin_bl I q (by rw [RelV.bl_iff b rx]; rfl))
end
theorem isi {K : PySem.W.Frag} {x : V} {tn n : String} {b : Bool} {H : Hp} {Q : VK} (ty : TyOf K H x (.type tn)) (h : kitB tn n = some b) (q : Q (.bl b) H) : rIsi K [x, .ty n] H Q :=
  ⟨x, .ty n, _, _, b, rfl, .ty n, .base ty, kit_ty h, q⟩
theorem kb_nn_bool : kitB "NoneType" "bool" = some false := by decide +kernel
theorem kb_nn_int : kitB "NoneType" "int" = some false := by decide +kernel
theorem kb_nn_str : kitB "NoneType" "str" = some false := by decide +kernel
theorem kb_bl_bool : kitB "bool" "bool" = some true := by decide +kernel
theorem kb_bl_int : kitB "bool" "int" = some true := by decide +kernel
theorem kb_bl_str : kitB "bool" "str" = some false := by decide +kernel
theorem kb_int_bool : kitB "int" "bool" = some false := by decide +kernel
theorem kb_int_int : kitB "int" "int" = some true := by decide +kernel
theorem kb_int_str : kitB "int" "str" = some false := by decide +kernel
theorem kb_str_bool : kitB "str" "bool" = some false := by decide +kernel
theorem kb_str_int : kitB "str" "int" = some false := by decide +kernel
theorem kb_str_str : kitB "str" "str" = some true := by decide +kernel
theorem kb_tup_tup : kitB "tuple" "tuple" = some true := by decide +kernel
theorem kb_lst_tup : kitB "list" "tuple" = some false := by decide +kernel
theorem kb_tup_lst : kitB "tuple" "list" = some false := by decide +kernel
theorem kb_lst_lst : kitB "list" "list" = some true := by decide +kernel
/-- two heaps that agree on all that H tracks, but at p -/
def But (p : Addr) (H H' : Hp) : Prop := ∀ b o, H b = some o → b ≠ p → H' b = some o
theorem But.refl (p : Addr) (H : Hp) : But p H H := fun _ _ h _ => h
theorem But.trans {p : Addr} {H H1 H2 : Hp} (a : But p H H1) (b : But p H1 H2) : But p H H2 := fun c o h n => b c o (a c o h n) n
theorem But.upd {p : Addr} {H H1 : Hp} {o : HO} (a : But p H H1) : But p H (L2.upd H1 p o) := fun c u h n => by
  rw [upd_ne n]
  exact a c u h n
theorem But.new {p q : Addr} {H H1 : Hp} {o : HO} (a : But p H H1) (h : H1 q = none) : But p H (L2.upd H1 q o) := fun c u e n => by
  rw [upd_ne (ne_of_none (a c u e n) h)]
  exact a c u e n
/-- another object, not tracked in H, is changed -/
theorem But.put {p q : Addr} {H H1 : Hp} {o : HO} (a : But p H H1) (h : H q = none) : But p H (L2.upd H1 q o) := fun c u e n => by
  rw [upd_ne (ne_of_none e h)]
  exact a c u e n
theorem But.free {p q : Addr} {H H1 : Hp} (a : But p H H1) (n : q ≠ p) (h : H1 q = none) : H q = none := by
  cases e : H q with
  | none => rfl
  | some o => rw [a q o e n] at h; cases h
theorem But.fresh {p q : Addr} {H H1 : Hp} (a : But p H H1) (hp : H p ≠ none) (h1 : H1 p ≠ none) (h : H1 q = none) : H q = none := by
  cases e : H q with
  | none => rfl
  | some o =>
    by_cases hq : q = p
    · rw [hq] at h; exact absurd h h1
    · rw [a q o e hq] at h; cases h
theorem Same.new {H H1 : Hp} {q : Addr} {o : HO} (a : Same H H1) (h : H1 q = none) : Same H (L2.upd H1 q o) := fun c u e => by
  rw [upd_ne (ne_of_none (a c u e) h)]
  exact a c u e
theorem Same.but {H H1 : Hp} (p : Addr) (a : Same H H1) : But p H H1 := fun c u e _ => a c u e
theorem sz {n : Nat} (h : n ≤ 1000000) : n ≤ sizeLine := Nat.le_trans h (by decide)
theorem szlt {n : Nat} (h : n < 1000000) : n < sizeLine := Nat.lt_of_lt_of_le h (by decide)
theorem upd_id {H : Hp} {p : Addr} {o : HO} (h : H p = some o) : L2.upd H p o = H := by
  funext b
  by_cases e : b = p
  · rw [e, upd_same, h]
  · rw [upd_ne e]
theorem at_codes {xs : List Nat} {z : Int} {j : Nat} {v : Nat} (e : z = (j : Int)) (h : xs[j]? = some v) : atI xs z = some v := by
  rw [e]
  exact atI_nat h
theorem kb_lst_bool : kitB "list" "bool" = some false := by decide +kernel
theorem kb_lst_int : kitB "list" "int" = some false := by decide +kernel
theorem kb_lst_str : kitB "list" "str" = some false := by decide +kernel
theorem kb_tup_bool : kitB "tuple" "bool" = some false := by decide +kernel
theorem kb_tup_int : kitB "tuple" "int" = some false := by decide +kernel
theorem kb_tup_str : kitB "tuple" "str" = some false := by decide +kernel

/-! the engine: one lemma a construct, applied by its head; walk_at "go" runs it -/
def rLen (K : PySem.W.Frag) : List V → Hp → VK → Prop := fun xs H Q => ∃ p ys, xs = [.ref p] ∧ (SqL K H p ys ∨ SqT K H p ys) ∧ Q (.int ys.length) H
def rLenS : List V → Hp → VK → Prop := fun xs H Q => ∃ z, xs = [.str z] ∧ z.length ≤ sizeLine ∧ Q (.int z.length) H
def rListOf (K : PySem.W.Frag) : List V → Hp → VK → Prop := fun xs H Q => ∃ p ys, xs = [.ref p] ∧ (SqL K H p ys ∨ SqT K H p ys) ∧ ∀ l, H l = none → Q (.ref l) (upd H l (.lst ys))
def rTupOf (K : PySem.W.Frag) : List V → Hp → VK → Prop := fun xs H Q => ∃ p ys, xs = [.ref p] ∧ ((SqL K H p ys ∧ ∀ l, H l = none → Q (.ref l) (upd H l (.tup ys))) ∨ (SqT K H p ys ∧ Q (.ref p) H))
def rAddS : R2 := fun x y H Q => ∃ i j, x = .str i ∧ y = .str j ∧ i.length + j.length ≤ sizeLine ∧ Q (.str (i ++ j)) H
def rInS : R2 := fun x y H Q => ∃ (c : Nat) (z : Str), x = .str ⟨#[c]⟩ ∧ y = .str z ∧ Q (.bl (decide (c ∈ z.cps.toList))) H
def rNotInS : R2 := fun x y H Q => ∃ (c : Nat) (z : Str), x = .str ⟨#[c]⟩ ∧ y = .str z ∧ Q (.bl (!decide (c ∈ z.cps.toList))) H
def rIsN : R2 := fun x y H Q => y = .non ∧ Q (.bl (decide (x = .non))) H
def rNotN : R2 := fun x y H Q => y = .non ∧ Q (.bl (!decide (x = .non))) H
def rAbs : List V → Hp → VK → Prop := fun xs H Q => ∃ i, xs = [.int i] ∧ Q (.int (if i < 0 then -i else i)) H
def rMax2 : List V → Hp → VK → Prop := fun xs H Q => ∃ i j, xs = [.int i, .int j] ∧ Q (.int (if j > i then j else i)) H
def rMin2 : List V → Hp → VK → Prop := fun xs H Q => ∃ i j, xs = [.int i, .int j] ∧ Q (.int (if j < i then j else i)) H
def rInt1 : List V → Hp → VK → Prop := fun xs H Q => (∃ i, xs = [.int i] ∧ Q (.int i) H) ∨ ∃ k, xs = [.bl k] ∧ Q (.int (if k then 1 else 0)) H
def rStr1 : List V → Hp → VK → Prop := fun xs H Q => ∃ i, xs = [.int i] ∧ i.natAbs.log2 < 1920 ∧ Q (.str (toString i)) H
def rOrd : List V → Hp → VK → Prop := fun xs H Q => ∃ x, xs = [.str x] ∧ x.length = 1 ∧ Q (.int (x.cps.getD 0 0 : Nat)) H
def rChr : List V → Hp → VK → Prop := fun xs H Q => ∃ i, xs = [.int i] ∧ 0 ≤ i ∧ i ≤ 1114111 ∧ Q (.str ⟨#[i.toNat]⟩) H
def rJoin (K : PySem.W.Frag) : V → List V → Hp → VK → Prop := fun x xs H Q => ∃ a p, ∃ ys : List Str, x = .str a ∧ xs = [.ref p] ∧ (SqL K H p (ys.map V.str) ∨ SqT K H p (ys.map V.str)) ∧
  (ys.map (·.length)).sum + ys.length * a.length ≤ 16777216 ∧ Q (.str (Txt.join a ys)) H
def rSplit : V → List V → Hp → VK → Prop := fun x xs H Q => ∃ a b, x = .str a ∧ xs = [.str b] ∧ (b.length == 0) = false ∧ a.length + 2 ≤ sizeLine ∧ rNewStrs (Txt.split a b) H Q
section
variable {X : Cx}
theorem c_len : CallR X (.builtin "len") (rLen X.K) := call_len_seq
theorem c_lenS : CallR X (.builtin "len") rLenS := call_len_str
theorem c_list : CallR X (.type "list") (rListOf X.K) := call_list_of
theorem c_tuple : CallR X (.type "tuple") (rTupOf X.K) := call_tuple_of
theorem o_addS : OpR X (binaryOp .Add) rAddS := op_add_str
theorem o_inS : OpR X (compareOp .In) rInS := op_in_sign
theorem o_notInS : OpR X (compareOp .NotIn) rNotInS := op_notIn_sign
theorem o_isN : OpR X (compareOp .Is) rIsN := op_isN
theorem o_notN : OpR X (compareOp .IsNot) rNotN := op_notN
theorem c_abs : CallR X (.builtin "abs") rAbs := call_abs
theorem c_max2 (hc : X.calm = true) : CallR X (.builtin "max") rMax2 := call_max2 hc
theorem c_min2 (hc : X.calm = true) : CallR X (.builtin "min") rMin2 := call_min2 hc
theorem c_int1 : CallR X (.type "int") rInt1 := call_int1
theorem c_str1 : CallR X (.type "str") rStr1 := call_str_int
theorem c_ord : CallR X (.builtin "ord") rOrd := call_ord
theorem c_chr : CallR X (.builtin "chr") rChr := call_chr
theorem e_join {o e : Expr} {to te : TE} {apos pos : Pos} (ho : PE X o to) (he : PE X e te) (hs : starEach [e] X.env = [(false, eval e X.env)] := by rfl) (hbase : attributeBase o "join" X.env (eval o X.env) = eval o X.env := by rfl) (hline : (apos.endLine == pos.line) = true := by rfl) :
    PE X (.Call (.Attribute o "join" apos) [e] [] pos) (tM1 (rJoin X.K) to te) := pe_join ho he hs hbase hline
theorem e_split {o e : Expr} {to te : TE} {apos pos : Pos} (ho : PE X o to) (he : PE X e te) (hs : starEach [e] X.env = [(false, eval e X.env)] := by rfl) (hbase : attributeBase o "split" X.env (eval o X.env) = eval o X.env := by rfl) (hline : (apos.endLine == pos.line) = true := by rfl) :
    PE X (.Call (.Attribute o "split" apos) [e] [] pos) (tM1 rSplit to te) := pe_split ho he hs hbase hline
end
def D0 (Q : VK) : Ends := { nx := fun _ H' => Q .non H', rt := Q }
def Dl (D : Ends) (N : L2.St → Hp → Prop) : Ends := { D with nx := N, ct := N, bk := D.nx }
theorem dI {i j : Int} : decide (V.int i = V.int j) = decide (i = j) := by rw [dec_int, Bool.beq_eq_decide_eq]
theorem dB {i j : Bool} : decide (V.bl i = V.bl j) = decide (i = j) := by rw [dec_bl, Bool.beq_eq_decide_eq]
theorem dS {i j : Str} : decide (V.str i = V.str j) = decide (i = j) := by rw [dec_str, Bool.beq_eq_decide_eq]
theorem in_two (x a b : Str) : inV (.str x) [.str a, .str b] = decide (x = a ∨ x = b) := by
  show (a == x || (b == x || false)) = _
  rw [Bool.or_false, Bool.beq_eq_decide_eq, Bool.beq_eq_decide_eq]
  by_cases h1 : x = a
  · rw [decide_eq_true (Or.inl h1 : x = a ∨ x = b), decide_eq_true h1.symm]; rfl
  · by_cases h2 : x = b
    · rw [decide_eq_true (Or.inr h2 : x = a ∨ x = b), decide_eq_true h2.symm, Bool.or_true]
    · rw [decide_eq_false (fun z : a = x => h1 z.symm), decide_eq_false (fun z : b = x => h2 z.symm), decide_eq_false (fun z : x = a ∨ x = b => z.elim h1 h2)]; rfl
section
variable {X : Cx} {K : PySem.W.Frag}
theorem k_len (hK : X.K = K := by rfl) : CallR X (.builtin "len") (rLen K) := by subst hK; exact c_len
theorem k_list (hK : X.K = K := by rfl) : CallR X (.type "list") (rListOf K) := by subst hK; exact c_list
theorem k_tuple (hK : X.K = K := by rfl) : CallR X (.type "tuple") (rTupOf K) := by subst hK; exact c_tuple
theorem k_isi (hK : X.K = K := by rfl) : CallR X (.builtin "isinstance") (rIsi K) := by subst hK; exact call_isi
theorem k_isiT (hK : X.K = K := by rfl) : CallR X (.builtin "isinstance") (rIsiT K) := by subst hK; exact call_isiT
theorem k_sum (hc : X.calm = true) (hK : X.K = K := by rfl) : CallR X (.builtin "sum") (rSum K) := by subst hK; exact cr_sum hc
theorem k_ixL (hK : X.K = K := by rfl) : IxR X (rIxL K) := by subst hK; exact ix_list
theorem k_ixT (hK : X.K = K := by rfl) : IxR X (rIxT K) := by subst hK; exact ix_tup
theorem k_slL (hK : X.K = K := by rfl) : SlR X (rSlL K) := by subst hK; exact sl_list
theorem k_slT (hK : X.K = K := by rfl) : SlR X (rSlT K) := by subst hK; exact sl_tup
theorem k_slA (hK : X.K = K := by rfl) : SlR X (rSlA K) := by subst hK; exact sl_tupA
theorem k_in (hK : X.K = K := by rfl) : OpR X (compareOp .In) (rIn K false) := by subst hK; exact op_in_seq
theorem k_notIn (hK : X.K = K := by rfl) : OpR X (compareOp .NotIn) (rIn K true) := by subst hK; exact op_notIn_seq
theorem k_catA (hK : X.K = K := by rfl) : OpR X (binaryOp .Add) (rCatA K) := by subst hK; exact op_catA
theorem k_eqD (hu : X.A.units + 64 < cLine) (hK : X.K = K := by rfl) : OpR X (compareOp .Eq) (rEqD K) := by subst hK; exact op_eqD hu
theorem k_neD (hu : X.A.units + 64 < cLine) (hK : X.K = K := by rfl) : OpR X (compareOp .NotEq) (rNeD K) := by subst hK; exact op_neD hu
theorem k_fld {e : Expr} {f : Str} {pos : Pos} {ta : TE} (he : PE X e ta) (hb : attributeBase e f X.env (eval e X.env) = eval e X.env) (hK : X.K = K := by rfl) : PE X (.Attribute e f pos) (tFld K ta f) := by subst hK; exact pe_fld he hb
theorem k_piL {tg l : Expr} {tl : TE} (hl : PE X l tl) (hK : X.K = K := by rfl) : PI X tg l (iList K tl) := by subst hK; exact pi_list hl
theorem k_piT {tg l : Expr} {tl : TE} (hl : PE X l tl) (hK : X.K = K := by rfl) : PI X tg l (iTup K tl) := by subst hK; exact pi_tup hl
theorem k_join {o e : Expr} {to te : TE} {apos pos : Pos} (ho : PE X o to) (he : PE X e te) (hs : starEach [e] X.env = [(false, eval e X.env)] := by rfl) (hbase : attributeBase o "join" X.env (eval o X.env) = eval o X.env := by rfl) (hline : (apos.endLine == pos.line) = true := by rfl) (hK : X.K = K := by rfl) :
    PE X (.Call (.Attribute o "join" apos) [e] [] pos) (tM1 (rJoin K) to te) := by subst hK; exact e_join ho he hs hbase hline
end
def Dn (D : Ends) (f : L2.St → Hp → Prop) : Ends := { D with nx := f }
section
variable {K : PySem.W.Frag} {D : Ends} {σ : L2.St} {H : Hp} {Q : VK} {QB : Bool → Hp → Prop} {QA : List V → Hp → Prop} {f f1 : L2.St → Hp → Prop} {b c : VK} {v x y : V} {i j : Int} {t t1 t2 u : TS} {ta tb tc te : TE} {tt tt1 tt2 : TT} {r r' : R2} {n : Nat} {p : Addr} {xs : List V} {vs : List V}
theorem g_seq (h : t (Dn D (u D)) σ H) : tSeq t u D σ H := h
theorem g_cut (Mid : L2.St → Hp → Prop) (h : t (Dn D Mid) σ H) (k : ∀ σ' H', Mid σ' H' → u D σ' H') : C8.tCut t u D σ H := ⟨Mid, h, k⟩
theorem g_mid (M : L2.St → Hp → Prop) (mono : ∀ (f1 f2 : L2.St → Hp → Prop), (∀ σ H, f1 σ H → f2 σ H) → t (Dn D f1) σ H → t (Dn D f2) σ H) (h : t (Dn D M) σ H) (k : ∀ σ H, M σ H → u D σ H) : tSeq t u D σ H := mono _ _ k h
theorem g_next (h : D.nx σ H) : tNext D σ H := h
theorem g_nx (h : f σ H) : (Dn D f).nx σ H := h
theorem g_rt (h : D.rt v H) : (Dn D f).rt v H := h
theorem g_rt0 (h : Q v H) : (D0 Q).rt v H := h
theorem g_nx0 (h : Q .non H) : (D0 Q).nx σ H := h
theorem g_lnx (h : f σ H) : (Dl D f).nx σ H := h
theorem g_lct (h : f σ H) : (Dl D f).ct σ H := h
theorem g_lbk (h : D.nx σ H) : (Dl D f).bk σ H := h
theorem g_lrt (h : D.rt v H) : (Dl D f).rt v H := h
theorem g_bk (h : D.bk σ H) : (Dn D f).bk σ H := h
theorem g_ct (h : D.ct σ H) : (Dn D f).ct σ H := h
theorem g_break (h : D.bk σ H) : tBreak D σ H := h
theorem g_cont (h : D.ct σ H) : tCont D σ H := h
theorem g_asg {g : TG} (h : te σ H fun x H1 => g x σ H1 D.nx) : tAsg te g D σ H := h
theorem g_name (h : f (σ.set n (some v)) H) : gName n v σ H f := h
theorem g_sub {to ti : TE} {ts : TSet} (h : to σ H fun o H1 => ti σ H1 fun i H2 => ts o i v H2 fun H3 => f σ H3) : gSub to ti ts v σ H f := h
theorem g_setL {k : Int} {m : Nat} {F : Hp → Prop} (h : H p = some (.lst xs)) (a : ixN xs.length k = some m) (q : F (upd H p (.lst (xs.set m v)))) : rSetL (.ref p) (.int k) v H F := ⟨p, xs, k, m, rfl, rfl, h, a, q⟩
theorem g_ret (h : te σ H D.rt) : tRet te D σ H := h
theorem g_retN (h : D.rt .non H) : tRetN D σ H := h
theorem g_drop (h : te σ H fun _ H1 => D.nx σ H1) : tDrop te D σ H := h
theorem g_ifs (h : tt σ H fun b H1 => if b = true then t D σ H1 else u D σ H1) : tIfS tt t u D σ H := h
theorem g_aug {ti : TIp} (a : σ[n]? = some (some x)) (h : te σ H fun y H1 => ti x y H1 fun z H2 => D.nx (σ.set n (some z)) H2) : tAug n te ti D σ H := ⟨x, a, h⟩
theorem g_ipI {g : Int → Int → Int} (h : Q (.int (g i j)) H) : ipI g (.int i) (.int j) H Q := ⟨i, j, rfl, rfl, h⟩
theorem g_augS {to ti : TE} {tget : V → V → Hp → VK → Prop} {tip : TIp} {ts : TSet} (h : to σ H fun o H1 => ti σ H1 fun i H2 => tget o i H2 fun x H3 => te σ H3 fun y H4 => tip x y H4 fun z H5 => ts o i z H5 fun H6 => D.nx σ H6) : tAugS to ti te tget tip ts D σ H := h
theorem g_var (h : σ[n]? = some (some v)) (q : Q v H) : tVar n σ H Q := ⟨v, h, q⟩
theorem g_c (q : Q v H) : tC v σ H Q := q
theorem g_op (h : ta σ H fun x H1 => tb σ H1 fun y H2 => r x y H2 Q) : tOp r ta tb σ H Q := h
theorem g_un {r : V → Hp → VK → Prop} (h : ta σ H fun x H1 => r x H1 Q) : tUn r ta σ H Q := h
theorem g_neg (h : Q (.int (-i)) H) : rU (fun i => .int (-i)) (.int i) H Q := ⟨i, rfl, h⟩
theorem g_chain (h : ta σ H fun x H1 => tb σ H1 fun y H2 => r x y H2 fun z H3 => ∃ k, z = .bl k ∧ (if k = true then tc σ H3 fun w' H4 => r' y w' H4 Q else Q (.bl false) H3)) : tChain r r' ta tb tc σ H Q := h
theorem g_ch {A B : Bool → Prop} {k : Bool} (h : if k = true then A k else B k) : ∃ c, V.bl k = .bl c ∧ (if c = true then A c else B c) := ⟨k, rfl, h⟩
theorem g_test (h : te σ H fun x H1 => ∃ k, x = .bl k ∧ QB k H1) : tTest te σ H QB := h
theorem g_tB (h : te σ H fun x H1 => ∃ k, x = .bl k ∧ QB k H1) : tB te σ H QB := h
theorem g_kb {A : Bool → Prop} {k : Bool} (h : A k) : ∃ c, V.bl k = .bl c ∧ A c := ⟨k, rfl, h⟩
theorem g_and (h : tt1 σ H fun c H1 => if c = true then tt2 σ H1 QB else QB false H1) : tAnd tt1 tt2 σ H QB := h
theorem g_or (h : tt1 σ H fun c H1 => if c = true then QB true H1 else tt2 σ H1 QB) : tOr tt1 tt2 σ H QB := h
theorem g_not (h : tt σ H fun c H1 => QB (!c) H1) : tNot tt σ H QB := h
theorem g_andV (h : ta σ H fun x H1 => ∃ c, x = .bl c ∧ if c = true then tb σ H1 Q else Q (.bl false) H1) : tAndV ta tb σ H Q := h
theorem g_orV (h : ta σ H fun x H1 => ∃ c, x = .bl c ∧ if c = true then Q (.bl true) H1 else tb σ H1 Q) : tOrV ta tb σ H Q := h
theorem g_notV (h : ta σ H fun x H1 => ∃ c, x = .bl c ∧ Q (.bl (!c)) H1) : tNotV ta σ H Q := h
theorem g_if (h : tt σ H fun c H1 => if c = true then ta σ H1 Q else tb σ H1 Q) : tIf tt ta tb σ H Q := h
theorem g_T {A B : Prop} (h : A) : if true = true then A else B := iteT h
theorem g_F {A B : Prop} (h : B) : if false = true then A else B := iteF h
theorem g_nF {A B : Prop} (h : A) : if (!false) = true then A else B := iteT h
theorem g_nT {A B : Prop} (h : B) : if (!true) = true then A else B := iteF h
theorem g_dec {P A B : Prop} [Decidable P] (h1 : P → A) (h2 : ¬ P → B) : if decide P = true then A else B := ite2 (fun h => h1 (of_decide_eq_true h)) (fun h => h2 (fun z => h (decide_eq_true z)))
theorem g_ndec {P A B : Prop} [Decidable P] (h1 : ¬ P → A) (h2 : P → B) : if (!decide P) = true then A else B := by
  by_cases h : P
  · rw [decide_eq_true h]; exact iteF (h2 h)
  · rw [decide_eq_false h]; exact iteT (h1 h)
theorem g_decT {P A B : Prop} [Decidable P] (h : P) (a : A) : if decide P = true then A else B := g_dec (fun _ => a) (fun z => absurd h z)
theorem g_decF {P A B : Prop} [Decidable P] (h : ¬ P) (a : B) : if decide P = true then A else B := g_dec (fun z => absurd z h) (fun _ => a)
theorem g_ndecF {P A B : Prop} [Decidable P] (h : P) (a : B) : if (!decide P) = true then A else B := g_ndec (fun z => absurd h z) (fun _ => a)
theorem g_ndecT {P A B : Prop} [Decidable P] (h : ¬ P) (a : A) : if (!decide P) = true then A else B := g_ndec (fun _ => a) (fun z => absurd z h)
theorem g_nbl {k : Bool} {A B : Prop} (h : if k = true then B else A) : if (!k) = true then A else B := by cases k <;> exact h
theorem g_bl {k : Bool} {A B : Prop} (h1 : k = true → A) (h2 : k = false → B) : if k = true then A else B := by
  cases k
  · exact iteF (h2 rfl)
  · exact iteT (h1 rfl)
theorem g_nil (q : QA [] H) : tNil σ H QA := q
theorem g_cons {tr : TA} (h : ta σ H fun x H1 => tr σ H1 fun xs H2 => QA (x :: xs) H2) : tCons ta tr σ H QA := h
theorem g_tup {t : TA} (h : t σ H fun xs H1 => xs.length ≤ sizeLine ∧ ∀ p, H1 p = none → Q (.ref p) (upd H1 p (.tup xs))) : tTup t σ H Q := h
theorem g_lst {t : TA} (h : t σ H fun xs H1 => xs.length ≤ sizeLine ∧ ∀ p, H1 p = none → Q (.ref p) (upd H1 p (.lst xs))) : tLst t σ H Q := h
theorem g_new {A : Prop} (h : xs.length ≤ 1000) (q : A) : xs.length ≤ sizeLine ∧ A := ⟨sz (Nat.le_trans h (by decide)), q⟩
theorem g_call {sp : Sp} {dvs : List V} {E : XK} {t : TA} (h : t σ H fun vs H1 => sp (vs ++ dvs) H1 Q E) : tCall sp dvs E t σ H Q := h
theorem g_meth {C : Addr} {m : Str} {sp : Sp} {dvs : List V} {E : XK} {t : TA} (h : ta σ H fun x H1 => ∃ a dx fs, x = .ref a ∧ H1 a = some (.ins C dx fs) ∧ fs.lookup m = none ∧ t σ H1 fun vs H2 => sp (x :: (vs ++ dvs)) H2 Q E) : tMeth C m sp dvs E ta t σ H Q := h
theorem g_m {C a dx : Addr} {fs : List (Str × V)} {m : Str} {B : Prop} (h : H a = some (.ins C dx fs)) (l : fs.lookup m = none) (q : B) : ∃ a' dx fs, V.ref a = .ref a' ∧ H a' = some (.ins C dx fs) ∧ fs.lookup m = none ∧ B := ⟨a, dx, fs, rfl, h, l, q⟩
theorem g_make {C : Addr} {sp : Sp} {dvs : List V} {E : XK} {t : TA} (h : t σ H fun vs H1 => ∀ x dx, H1 x = none → H1 dx = none → dx ≠ x → sp (.ref x :: (vs ++ dvs)) (upd (upd H1 dx (.own x)) x (.ins C dx [])) (fun v H2 => v = .non ∧ Q (.ref x) H2) E) : tMake C sp dvs E t σ H Q := h
theorem g_fld {F : Str} (h : ta σ H fun x H1 => ∃ a C dx fs v, x = .ref a ∧ H1 a = some (.ins C dx fs) ∧ Cls K C ∧ NoAttr K C F ∧ fs.lookup F = some v ∧ Q v H1) : tFld K ta F σ H Q := h
theorem g_fl {a C dx : Addr} {fs : List (Str × V)} {F : Str} {B : V → Prop} (h : H a = some (.ins C dx fs)) (c : Cls K C) (nn : NoAttr K C F) (l : fs.lookup F = some v) (q : B v) : ∃ a' C dx fs v, V.ref a = .ref a' ∧ H a' = some (.ins C dx fs) ∧ Cls K C ∧ NoAttr K C F ∧ fs.lookup F = some v ∧ B v := ⟨a, C, dx, fs, v, rfl, h, c, nn, l, q⟩
theorem g_sfld {tv : TE} {F : Str} (h : tv σ H fun y H1 => ta σ H1 fun x H2 => ∃ a C dx fs, x = .ref a ∧ H2 a = some (.ins C dx fs) ∧ Cls K C ∧ NoAttr K C F ∧ fs.length < 1000 ∧ D.nx σ (upd H2 a (.ins C dx (putF F y fs)))) : sFld K ta tv F D σ H := h
theorem g_sf {a C dx : Addr} {fs : List (Str × V)} {F : Str} {B : Addr → Addr → Addr → List (Str × V) → Prop} (h : H a = some (.ins C dx fs)) (c : Cls K C) (nn : NoAttr K C F) (l : fs.length < 1000) (q : B a C dx fs) : ∃ a' C dx fs, V.ref a = .ref a' ∧ H a' = some (.ins C dx fs) ∧ Cls K C ∧ NoAttr K C F ∧ fs.length < 1000 ∧ B a' C dx fs := ⟨a, C, dx, fs, rfl, h, c, nn, l, q⟩
theorem g_cb {r : List V → Hp → VK → Prop} {t : TA} (h : t σ H fun vs H1 => r vs H1 Q) : tCB r t σ H Q := h
theorem g_ixL (h : SqL K H p xs) (a : atI xs i = some v) (q : Q v H) : rIxL K (.ref p) (.int i) H Q := ⟨p, xs, i, v, rfl, rfl, h, a, q⟩
theorem g_ixT (h : SqT K H p xs) (a : atI xs i = some v) (q : Q v H) : rIxT K (.ref p) (.int i) H Q := ⟨p, xs, i, v, rfl, rfl, h, a, q⟩
theorem g_ixS {z : Str} {k : Nat} (h : z.length ≤ sizeLine) (a : atI z.cps.toList i = some k) (q : Q (.str ⟨#[k]⟩) H) : rIxS (.str z) (.int i) H Q := ⟨z, i, k, rfl, rfl, h, a, q⟩
theorem g_lenL (h : SqL K H p xs) (q : Q (.int xs.length) H) : rLen K [.ref p] H Q := ⟨p, xs, rfl, .inl h, q⟩
theorem g_lenT (h : SqT K H p xs) (q : Q (.int xs.length) H) : rLen K [.ref p] H Q := ⟨p, xs, rfl, .inr h, q⟩
theorem g_lenS {z : Str} (h : z.length ≤ sizeLine) (q : Q (.int z.length) H) : rLenS [.str z] H Q := ⟨z, rfl, h, q⟩
theorem g_listL (h : SqL K H p xs) (q : ∀ l, H l = none → Q (.ref l) (upd H l (.lst xs))) : rListOf K [.ref p] H Q := ⟨p, xs, rfl, .inl h, q⟩
theorem g_listT (h : SqT K H p xs) (q : ∀ l, H l = none → Q (.ref l) (upd H l (.lst xs))) : rListOf K [.ref p] H Q := ⟨p, xs, rfl, .inr h, q⟩
theorem g_tupL (h : SqL K H p xs) (q : ∀ l, H l = none → Q (.ref l) (upd H l (.tup xs))) : rTupOf K [.ref p] H Q := ⟨p, xs, rfl, .inl ⟨h, q⟩⟩
theorem g_tupT (h : SqT K H p xs) (q : Q (.ref p) H) : rTupOf K [.ref p] H Q := ⟨p, xs, rfl, .inr ⟨h, q⟩⟩
theorem g_addS {a b : Str} (h : a.length + b.length ≤ sizeLine) (q : Q (.str (a ++ b)) H) : rAddS (.str a) (.str b) H Q := ⟨a, b, rfl, rfl, h, q⟩
theorem g_inS {k : Nat} {z : Str} (q : Q (.bl (decide (k ∈ z.cps.toList))) H) : rInS (.str ⟨#[k]⟩) (.str z) H Q := ⟨k, z, rfl, rfl, q⟩
theorem g_notInS {k : Nat} {z : Str} (q : Q (.bl (!decide (k ∈ z.cps.toList))) H) : rNotInS (.str ⟨#[k]⟩) (.str z) H Q := ⟨k, z, rfl, rfl, q⟩
theorem g_inV {neg : Bool} (h : SqL K H p xs ∨ SqT K H p xs) (hx : flatV x = true) (hs : xs.all flatV = true) (q : Q (.bl (if neg then !inV x xs else inV x xs)) H) : rIn K neg x (.ref p) H Q := ⟨p, xs, rfl, h, hx, hs, q⟩
theorem g_isN (q : Q (.bl (decide (x = .non))) H) : rIsN x .non H Q := ⟨rfl, q⟩
theorem g_isNn (q : Q (.bl true) H) : rIsN .non .non H Q := ⟨rfl, q⟩
theorem g_isNi (q : Q (.bl false) H) : rIsN (.int i) .non H Q := ⟨rfl, q⟩
theorem g_isNb {k : Bool} (q : Q (.bl false) H) : rIsN (.bl k) .non H Q := ⟨rfl, q⟩
theorem g_isNs {z : Str} (q : Q (.bl false) H) : rIsN (.str z) .non H Q := ⟨rfl, q⟩
theorem g_isNr (q : Q (.bl false) H) : rIsN (.ref p) .non H Q := ⟨rfl, q⟩
theorem g_notNn (q : Q (.bl false) H) : rNotN .non .non H Q := ⟨rfl, q⟩
theorem g_notNi (q : Q (.bl true) H) : rNotN (.int i) .non H Q := ⟨rfl, q⟩
theorem g_notNb {k : Bool} (q : Q (.bl true) H) : rNotN (.bl k) .non H Q := ⟨rfl, q⟩
theorem g_notNs {z : Str} (q : Q (.bl true) H) : rNotN (.str z) .non H Q := ⟨rfl, q⟩
theorem g_notNr (q : Q (.bl true) H) : rNotN (.ref p) .non H Q := ⟨rfl, q⟩
theorem g_isB {k : Bool} (q : Q (.bl (decide (x = .bl k))) H) : rIsBl false x (.bl k) H Q := ⟨k, rfl, q⟩
theorem g_abs (q : Q (.int (if i < 0 then -i else i)) H) : rAbs [.int i] H Q := ⟨i, rfl, q⟩
theorem g_max2 (q : Q (.int (if j > i then j else i)) H) : rMax2 [.int i, .int j] H Q := ⟨i, j, rfl, q⟩
theorem g_min2 (q : Q (.int (if j < i then j else i)) H) : rMin2 [.int i, .int j] H Q := ⟨i, j, rfl, q⟩
theorem g_int1 (q : Q (.int i) H) : rInt1 [.int i] H Q := .inl ⟨i, rfl, q⟩
theorem g_intB {k : Bool} (q : Q (.int (if k then 1 else 0)) H) : rInt1 [.bl k] H Q := .inr ⟨k, rfl, q⟩
theorem g_I0 {g : Int → Int → V} (q : Q (g i j) H) : rI0 g (.int i) (.int j) H Q := ⟨i, j, rfl, rfl, q⟩
theorem g_I {C : Int → Int → Prop} {g : Int → Int → V} (c : C i j) (q : Q (g i j) H) : rI C g (.int i) (.int j) H Q := ⟨i, j, rfl, rfl, c, q⟩
theorem g_eqI (q : Q (.bl (decide (i = j))) H) : rEq (.int i) (.int j) H Q := ⟨rfl, by rw [dec_int, Bool.beq_eq_decide_eq]; exact q⟩
theorem g_eqS {a b : Str} (q : Q (.bl (decide (a = b))) H) : rEq (.str a) (.str b) H Q := ⟨rfl, by rw [dec_str, Bool.beq_eq_decide_eq]; exact q⟩
theorem g_eqB {a b : Bool} (q : Q (.bl (decide (a = b))) H) : rEq (.bl a) (.bl b) H Q := ⟨rfl, by rw [dec_bl, Bool.beq_eq_decide_eq]; exact q⟩
theorem g_neI (q : Q (.bl (!decide (i = j))) H) : rNe (.int i) (.int j) H Q := ⟨rfl, by rw [dec_int, Bool.beq_eq_decide_eq]; exact q⟩
theorem g_neS {a b : Str} (q : Q (.bl (!decide (a = b))) H) : rNe (.str a) (.str b) H Q := ⟨rfl, by rw [dec_str, Bool.beq_eq_decide_eq]; exact q⟩
theorem g_neB {a b : Bool} (q : Q (.bl (!decide (a = b))) H) : rNe (.bl a) (.bl b) H Q := ⟨rfl, by rw [dec_bl, Bool.beq_eq_decide_eq]; exact q⟩
theorem g_i_nn_bool (q : Q (.bl false) H) : rIsi K [.non, .ty "bool"] H Q := isi TyOf.non kb_nn_bool q
theorem g_i_nn_int (q : Q (.bl false) H) : rIsi K [.non, .ty "int"] H Q := isi TyOf.non kb_nn_int q
theorem g_i_nn_str (q : Q (.bl false) H) : rIsi K [.non, .ty "str"] H Q := isi TyOf.non kb_nn_str q
theorem g_i_bl_bool {k : Bool} (q : Q (.bl true) H) : rIsi K [.bl k, .ty "bool"] H Q := isi (TyOf.bl _) kb_bl_bool q
theorem g_i_bl_int {k : Bool} (q : Q (.bl true) H) : rIsi K [.bl k, .ty "int"] H Q := isi (TyOf.bl _) kb_bl_int q
theorem g_i_bl_str {k : Bool} (q : Q (.bl false) H) : rIsi K [.bl k, .ty "str"] H Q := isi (TyOf.bl _) kb_bl_str q
theorem g_i_int_bool (q : Q (.bl false) H) : rIsi K [.int i, .ty "bool"] H Q := isi (TyOf.int _) kb_int_bool q
theorem g_i_int_int (q : Q (.bl true) H) : rIsi K [.int i, .ty "int"] H Q := isi (TyOf.int _) kb_int_int q
theorem g_i_int_str (q : Q (.bl false) H) : rIsi K [.int i, .ty "str"] H Q := isi (TyOf.int _) kb_int_str q
theorem g_i_str_bool {z : Str} (q : Q (.bl false) H) : rIsi K [.str z, .ty "bool"] H Q := isi (TyOf.str _) kb_str_bool q
theorem g_i_str_int {z : Str} (q : Q (.bl false) H) : rIsi K [.str z, .ty "int"] H Q := isi (TyOf.str _) kb_str_int q
theorem g_i_str_str {z : Str} (q : Q (.bl true) H) : rIsi K [.str z, .ty "str"] H Q := isi (TyOf.str _) kb_str_str q
theorem g_isi {n : String} (h : rIsi K [x, .ty n] H Q) : rIsi K [x, .ty n] H Q := h
theorem g_part {QO : Option Int → Hp → Prop} (h : te σ H fun x H1 => ∃ i, x = .int i ∧ QO (some i) H1) : tPart te σ H QO := h
theorem g_pi {A : Int → Prop} (h : A i) : ∃ k, V.int i = .int k ∧ A k := ⟨i, rfl, h⟩
theorem g_nopart {QO : Option Int → Hp → Prop} (h : QO none H) : tNoPart σ H QO := h
theorem g_sl {r : V → Option Int → Option Int → Hp → VK → Prop} {tl th : TO} (h : te σ H fun x H1 => tl σ H1 fun l H2 => th σ H2 fun u H3 => r x l u H3 Q) : tSl r te tl th σ H Q := h
theorem g_slL {lo hi : Option Int} (h : SqL K H p xs) (q : ∀ l, H l = none → Q (.ref l) (upd H l (.lst (cutV xs lo hi)))) : rSlL K (.ref p) lo hi H Q := ⟨p, xs, rfl, h, q⟩
theorem g_cat {p q : Addr} {zs : List V} (h : H p = some (.lst xs)) (h2 : H q = some (.lst zs)) (l : xs.length + zs.length ≤ sizeLine) (k : ∀ l, H l = none → Q (.ref l) (upd H l (.lst (xs ++ zs)))) : rCat (.ref p) (.ref q) H Q := ⟨p, q, xs, zs, rfl, rfl, h, h2, l, k⟩
theorem g_bm {T : String} {r : V → List V → Hp → VK → Prop} {to : TE} {t : TA} (h : to σ H fun x H1 => tyV K T x H1 ∧ t σ H1 fun xs H2 => r x xs H2 Q) : tBM K T r to t σ H Q := h
theorem g_bm0 {T : String} {r : V → List V → Hp → VK → Prop} {to : TE} (h : to σ H fun x H1 => tyV K T x H1 ∧ r x [] H1 Q) : tBM0 K T r to σ H Q := h
theorem g_tyL {B : Prop} (h : SqL K H p xs) (q : B) : tyV K "list" (.ref p) H ∧ B := ⟨.inl ⟨rfl, _, h⟩, q⟩
theorem g_append (h : H p = some (.lst xs)) (l : xs.length < sizeLine) (q : Q .non (upd H p (.lst (xs ++ [v])))) : rAppend (.ref p) [v] H Q := ⟨p, xs, v, rfl, rfl, h, l, q⟩
theorem g_m1 {r : V → List V → Hp → VK → Prop} {to : TE} (h : to σ H fun x H1 => (∃ a, x = .str a) ∧ te σ H1 fun y H2 => r x [y] H2 Q) : tM1 r to te σ H Q := h
theorem g_str {z : Str} {B : Prop} (q : B) : (∃ a, V.str z = .str a) ∧ B := ⟨⟨z, rfl⟩, q⟩
theorem g_for {wi : TI} {g : TG} (h : wi σ H fun J H1 => ∃ W : Nat → Nat → L2.St → Hp → Prop, (∃ m, W 0 m σ H1) ∧ ∀ i m σ H, W i m σ H →
  (J.stop i H ∧ D.nx σ H) ∨ (J.go i H ∧ ∃ N : L2.St → Hp → Prop, (∀ σ' H', N σ' H' → ∃ m', m' < m ∧ W (i + 1) m' σ' H') ∧ ∀ x H', J.yld i H x H' → g x σ H' fun σ2 H2 => t (Dl D N) σ2 H2)) : tFor wi g t D σ H := h
theorem g_forR {lo : Int} {m : Nat} {g : TG} (Pv : Nat → L2.St → Hp → Prop) (h0 : Pv 0 σ H) (hs : ∀ i σ H, i < m → Pv i σ H → g (.int (lo + i)) σ H fun σ2 H2 => t (Dl D (Pv (i + 1))) σ2 H2) (hd : ∀ σ H, Pv m σ H → D.nx σ H) :
    ∃ W : Nat → Nat → L2.St → Hp → Prop, (∃ m, W 0 m σ H) ∧ ∀ i m' σ H, W i m' σ H →
      ((Itr lo m).stop i H ∧ D.nx σ H) ∨ ((Itr lo m).go i H ∧ ∃ N : L2.St → Hp → Prop, (∀ σ' H', N σ' H' → ∃ m'', m'' < m' ∧ W (i + 1) m'' σ' H') ∧ ∀ x H', (Itr lo m).yld i H x H' → g x σ H' fun σ2 H2 => t (Dl D N) σ2 H2) := for_range (D := D) Pv h0 hs hd
theorem g_forL {g : TG} (Pv : Nat → L2.St → Hp → Prop) (h0 : Pv 0 σ H) (hl : ∀ i σ H, i ≤ xs.length → Pv i σ H → SqL K H p xs) (hs : ∀ i x σ H, xs[i]? = some x → Pv i σ H → g x σ H fun σ2 H2 => t (Dl D (Pv (i + 1))) σ2 H2) (hd : ∀ σ H, Pv xs.length σ H → D.nx σ H) :
    ∃ W : Nat → Nat → L2.St → Hp → Prop, (∃ m, W 0 m σ H) ∧ ∀ i m' σ H, W i m' σ H →
      ((Itl K p).stop i H ∧ D.nx σ H) ∨ ((Itl K p).go i H ∧ ∃ N : L2.St → Hp → Prop, (∀ σ' H', N σ' H' → ∃ m'', m'' < m' ∧ W (i + 1) m'' σ' H') ∧ ∀ x H', (Itl K p).yld i H x H' → g x σ H' fun σ2 H2 => t (Dl D N) σ2 H2) := for_list (D := D) Pv h0 hl hs hd
theorem g_forT {g : TG} (Pv : Nat → L2.St → Hp → Prop) (h0 : Pv 0 σ H) (hl : ∀ i σ H, i ≤ xs.length → Pv i σ H → SqT K H p xs) (hs : ∀ i x σ H, xs[i]? = some x → Pv i σ H → g x σ H fun σ2 H2 => t (Dl D (Pv (i + 1))) σ2 H2) (hd : ∀ σ H, Pv xs.length σ H → D.nx σ H) :
    ∃ W : Nat → Nat → L2.St → Hp → Prop, (∃ m, W 0 m σ H) ∧ ∀ i m' σ H, W i m' σ H →
      ((Itt K p).stop i H ∧ D.nx σ H) ∨ ((Itt K p).go i H ∧ ∃ N : L2.St → Hp → Prop, (∀ σ' H', N σ' H' → ∃ m'', m'' < m' ∧ W (i + 1) m'' σ' H') ∧ ∀ x H', (Itt K p).yld i H x H' → g x σ H' fun σ2 H2 => t (Dl D N) σ2 H2) := for_tup (D := D) Pv h0 hl hs hd
theorem g_iRng1 {R : It → Hp → Prop} {t : TA} (h : t σ H fun vs H1 => ∃ j : Int, vs = [.int j] ∧ -(2 ^ 62) ≤ j ∧ j < 2 ^ 62 ∧ R (Itr 0 j.toNat) H1) : iRng1 t σ H R := h
theorem g_r1 {B : Int → Prop} (h0 : -(2 ^ 62) ≤ i) (h1 : i < 2 ^ 62) (h : B i) : ∃ j : Int, [V.int i] = [.int j] ∧ -(2 ^ 62) ≤ j ∧ j < 2 ^ 62 ∧ B j := ⟨i, rfl, h0, h1, h⟩
theorem g_iRng2 {R : It → Hp → Prop} {t : TA} (h : t σ H fun vs H1 => ∃ i j : Int, vs = [.int i, .int j] ∧ (-(2 ^ 62) ≤ i ∧ i < 2 ^ 62 ∧ -(2 ^ 62) ≤ j ∧ j < 2 ^ 62) ∧ R (Itr i (j - i).toNat) H1) : iRng2 t σ H R := h
theorem g_r2 {B : Int → Int → Prop} (h0 : -(2 ^ 62) ≤ i ∧ i < 2 ^ 62 ∧ -(2 ^ 62) ≤ j ∧ j < 2 ^ 62) (h : B i j) : ∃ i' j' : Int, [V.int i, V.int j] = [.int i', .int j'] ∧ (-(2 ^ 62) ≤ i' ∧ i' < 2 ^ 62 ∧ -(2 ^ 62) ≤ j' ∧ j' < 2 ^ 62) ∧ B i' j' := ⟨i, j, rfl, h0, h⟩
theorem g_iList {R : It → Hp → Prop} (h : te σ H fun x H1 => ∃ a, x = .ref a ∧ (∃ xs, SqL K H1 a xs) ∧ R (Itl K a) H1) : iList K te σ H R := h
theorem g_il {B : Addr → Prop} (h : SqL K H p xs) (q : B p) : ∃ a, V.ref p = .ref a ∧ (∃ xs, SqL K H a xs) ∧ B a := ⟨p, rfl, ⟨xs, h⟩, q⟩
theorem g_iTup {R : It → Hp → Prop} (h : te σ H fun x H1 => ∃ a, x = .ref a ∧ (∃ xs, SqT K H1 a xs) ∧ R (Itt K a) H1) : iTup K te σ H R := h
theorem g_it {B : Addr → Prop} (h : SqT K H p xs) (q : B p) : ∃ a, V.ref p = .ref a ∧ (∃ xs, SqT K H a xs) ∧ B a := ⟨p, rfl, ⟨xs, h⟩, q⟩
theorem g_gtup {n : Nat} {u : TGs} (h : SqT K H p xs) (l : xs.length = n) (q : u xs σ H f) : gTup K n u (.ref p) σ H f := ⟨p, xs, rfl, h, l, q⟩
theorem g_gcons {g : TG} {u : TGs} {zs : List V} (q : g v σ H fun σ' H' => u zs σ' H' f) : gCons g u (v :: zs) σ H f := ⟨v, zs, rfl, q⟩
theorem g_gnil (q : f σ H) : gNil [] σ H f := ⟨rfl, q⟩
theorem g_isBn {k : Bool} (q : Q (.bl false) H) : rIsBl false .non (.bl k) H Q := ⟨k, rfl, q⟩
theorem g_isBb {k m : Bool} (q : Q (.bl (decide (m = k))) H) : rIsBl false (.bl m) (.bl k) H Q := ⟨k, rfl, by show Q (.bl (decide (V.bl m = V.bl k))) H; rw [dB]; exact q⟩
theorem g_isBi {k : Bool} (q : Q (.bl false) H) : rIsBl false (.int i) (.bl k) H Q := ⟨k, rfl, q⟩
theorem g_isBs {k : Bool} {z : Str} (q : Q (.bl false) H) : rIsBl false (.str z) (.bl k) H Q := ⟨k, rfl, q⟩
theorem g_catA {a b : Addr} {zs : List V} (h1 : SqT K H a xs) (h2 : H b = some (.tup zs)) (l : xs.length + zs.length ≤ sizeLine) (ne : zs ≠ []) (q : ∀ q H', Same H H' → H' q = some (.tup (xs ++ zs)) → Q (.ref q) H') : rCatA K (.ref a) (.ref b) H Q :=
  ⟨a, b, xs, zs, rfl, rfl, h1, .inl (.inl h2), l, fun e => q b H (Same.refl H) (by rw [e]; exact h2), fun _ z => absurd z ne, fun _ _ p np => q p _ (Same.new (Same.refl H) np) upd_same⟩
theorem g_yes (h : QB true H) : tYes σ H QB := h
theorem g_lc {wi : TI} {g : TG} {vs : List Nat} (h : wi σ H fun J H1 => ∀ D, H1 D = none → ∃ W : Nat → Nat → Hp → Prop, (∃ m, W 0 m (upd H1 D (.lst []))) ∧ ∀ i m H, W i m H →
  (J.stop i H ∧ Q (.ref D) H) ∨ (J.go i H ∧ ∃ Nx : Hp → Prop, (∀ H', Nx H' → ∃ m', m' < m ∧ W (i + 1) m' H') ∧ ∀ x H', J.yld i H x H' → g x (wipe σ vs) H' fun σ2 H2 => wipe σ2 vs = wipe σ vs ∧ tt σ2 H2 fun b H3 =>
    if b = true then te σ2 H3 fun y H4 => ∃ acc, H4 D = some (.lst acc) ∧ acc.length < sizeLine ∧ Nx (upd H4 D (.lst (acc ++ [y]))) else Nx H3)) : tLc wi g tt te vs σ H Q := h
theorem g_wipe {σ2 : L2.St} {vs : List Nat} {B : Prop} (h : wipe σ2 vs = wipe σ vs) (q : B) : wipe σ2 vs = wipe σ vs ∧ B := ⟨h, q⟩
end

/-! texts -/
def cd (z : Str) : List Nat := z.cps.toList
theorem cd_app (a b : Str) : cd (a ++ b) = cd a ++ cd b := by
  show (a.cps ++ b.cps).toList = a.cps.toList ++ b.cps.toList
  simp
theorem cd_len (a : Str) : (cd a).length = a.length := Array.length_toList
theorem cd_ext {a b : Str} (h : cd a = cd b) : a = b := by
  cases a with | mk x => cases b with | mk y =>
    have e : x = y := Array.toList_inj.mp h
    rw [e]
theorem cd_nil : cd "" = [] := by decide +kernel
theorem join_cd : ∀ l : List Str, cd (Txt.join "" l) = (l.map cd).flatten
  | [] => by rw [TL.join_eq]; rfl
  | [x] => by rw [TL.join_eq]; show cd x = (cd x :: []).flatten; simp
  | x :: y :: r => by
    rw [TL.join_eq]
    show cd (x ++ ("" : Str) ++ PySem.Str.join "" (y :: r)) = cd x ++ ((y :: r).map cd).flatten
    rw [cd_app, cd_app, cd_nil, List.append_nil, ← join_cd (y :: r), TL.join_eq]
theorem join_len (l : List Str) : (Txt.join "" l).length = (l.map (·.length)).sum := by
  rw [← cd_len, join_cd, List.length_flatten, List.map_map]
  congr 1

/-! a text times a number -/
def repS (z : Str) (n : Nat) : Str := ⟨(List.replicate n z.cps).foldl (· ++ ·) #[]⟩
theorem rep_size (x : Array Nat) : ∀ (n : Nat) (acc : Array Nat), ((List.replicate n x).foldl (· ++ ·) acc).size = acc.size + n * x.size
  | 0, acc => by simp
  | n + 1, acc => by
    rw [List.replicate_succ, List.foldl_cons, rep_size x n, Array.size_append, Nat.succ_mul]
    omega
theorem repS_len (z : Str) (n : Nat) : (repS z n).length = n * z.length := by
  show ((List.replicate n z.cps).foldl (· ++ ·) #[]).size = n * z.cps.size
  rw [rep_size]
  simp
def rMulS : R2 := fun x y H Q => ∃ (z : Str) (n : Nat), x = .str z ∧ y = .int (n : Int) ∧ 2 ≤ n ∧ n ≤ 10000 ∧ 1 ≤ z.length ∧ z.length ≤ 100 ∧ Q (.str (repS z n)) H
theorem o_mulS {X : Cx} : OpR X (binaryOp .Mult) rMulS := by
  intro pins s σ H x y v u Q I rx ry h
  obtain ⟨z, n, rfl, rfl, h2, hn, z1, z2, q⟩ := h
  obtain ⟨t, rfl⟩ := rx
  obtain ⟨t', rfl⟩ := ry
  have h1 : ¬ (n : Int) < 1 := by omega
  have e1 : ((n : Int) == 1) = false := beq_eq_false_iff_ne.mpr (by omega)
  have e2 : (z.length == 0) = false := beq_eq_false_iff_ne.mpr (by omega)
  have hm : z.length * n ≤ 1000000 := Nat.le_trans (Nat.mul_le_mul z2 hn) (by decide)
  refine PySem.P.mul_str (by rw [decide_eq_false (by omega), decide_eq_false (by omega)]; rfl) (fun _ _ => ?_) (fun _ _ => ?_) ?_
  · have hd : ((2 : Int) ^ 63 - 1) / (10000 : Int) ≤ (2 ^ 63 - 1) / (n : Int) := Int.le_ediv_of_mul_le (by omega) (by
      have : ((2 : Int) ^ 63 - 1) / 10000 = 922337203685477 := by decide
      rw [this]
      have hq : (922337203685477 : Int) * (n : Int) ≤ 922337203685477 * 10000 := Int.mul_le_mul_of_nonneg_left (by omega) (by decide)
      omega)
    have hc : ((2 : Int) ^ 63 - 1) / 10000 = 922337203685477 := by decide
    omega
  · rw [Int.toNat_natCast]
    unfold Builtin.Str.tooLong
    exact decide_eq_false (by have := sz hm; omega)
  · rw [if_neg h1, e1, e2]
    refine ⟨?_, .str (repS z n), H, I.tok _, ⟨_, rfl⟩, q⟩
    show (repS z n).length ≤ sizeLine
    rw [repS_len, Nat.mul_comm]
    exact sz hm

/-! _law_next: draws -/
/-- the state of the draws: the script's copy at a, three numbers -/
def StO (a : Addr) (i v r : Int) : HO := .lst [.ref a, .int i, .int v, .int r]
structure StAt (K : PySem.W.Frag) (H : Hp) (s a : Addr) (ns : List Int) : Prop where
  st : ∃ i v r, H s = some (StO a i v r) ∧ 0 ≤ i ∧ 0 ≤ v ∧ 0 ≤ r ∧ r < 2147483647
  li : H a = some (.lst (ns.map V.int))
  len : ns.length ≤ 63
  ne : a ≠ s
theorem StAt.but {K : PySem.W.Frag} {H H' : Hp} {s a : Addr} {ns : List Int} (x : StAt K H s a ns) (h : H' s = H s) (b : But s H H') : StAt K H' s a ns := by
  obtain ⟨⟨i, v, r, e, k⟩, li, len, ne⟩ := x
  exact ⟨⟨i, v, r, h.trans e, k⟩, b _ _ li ne, len, ne⟩
theorem StAt.same {K : PySem.W.Frag} {H H' : Hp} {s a : Addr} {ns : List Int} (x : StAt K H s a ns) (b : Same H H') : StAt K H' s a ns := by
  obtain ⟨i, v, r, e, k⟩ := x.st
  exact x.but ((b _ _ e).trans e.symm) (Same.but s b)
theorem StAt.new {K : PySem.W.Frag} {H : Hp} {s a : Addr} {ns : List Int} {q : Addr} {o : HO} (x : StAt K H s a ns) (b : H q = none) : StAt K (L2.upd H q o) s a ns := x.same (Same.new (Same.refl _) b)
theorem StAt.put {K : PySem.W.Frag} {H : Hp} {s a : Addr} {ns : List Int} {q : Addr} {o : HO} (x : StAt K H s a ns) (h1 : q ≠ s) (h2 : q ≠ a) : StAt K (L2.upd H q o) s a ns := by
  obtain ⟨⟨i, v, r, e, k⟩, li, len, ne⟩ := x
  exact ⟨⟨i, v, r, (upd_ne h1.symm).trans e, k⟩, (upd_ne h2.symm).trans li, len, ne⟩
theorem StAt.upd {K : PySem.W.Frag} {H : Hp} {s a : Addr} {ns : List Int} {i v r : Int} (x : StAt K H s a ns) (k : 0 ≤ i ∧ 0 ≤ v ∧ 0 ≤ r ∧ r < 2147483647) : StAt K (L2.upd H s (StO a i v r)) s a ns :=
  ⟨⟨i, v, r, upd_same, k⟩, (upd_ne x.ne).trans x.li, x.len, x.ne⟩
theorem StAt.there {K : PySem.W.Frag} {H : Hp} {s a : Addr} {ns : List Int} (x : StAt K H s a ns) : H s ≠ none := by
  obtain ⟨_, _, _, e, _⟩ := x.st
  rw [e]; exact fun z => nomatch z
theorem StAt.nes {K : PySem.W.Frag} {H : Hp} {s a : Addr} {ns : List Int} {q : Addr} (x : StAt K H s a ns) (b : H q = none) : q ≠ s := fun e => x.there (by rw [← e]; exact b)
theorem StAt.nea {K : PySem.W.Frag} {H : Hp} {s a : Addr} {ns : List Int} {q : Addr} (x : StAt K H s a ns) (b : H q = none) : q ≠ a := fun e => by
  have h := x.li
  rw [← e, b] at h
  cases h
def spNext (K : PySem.W.Frag) : Sp := fun vs H Q _ => ∃ (s a : Addr) (ns : List Int) (m : Int), vs = [.ref s, .int m] ∧ StAt K H s a ns ∧ 0 < m ∧ m.natAbs < 2 ^ 140 ∧
  ∀ i v r x, (0 ≤ i ∧ 0 ≤ v ∧ 0 ≤ r ∧ r < 2147483647) → 0 ≤ x → x < m → Q (.int x) (upd H s (StO a i v r))

local macro_rules | `(tactic| walk_at "ne") => `(tactic| first | assumption | exact Ne.symm (by assumption) | exact ne_of_none (by assumption) (by assumption) | exact (ne_of_none (by assumption) (by assumption)).symm)
local macro_rules | `(tactic| walk_at "hp") => `(tactic| first | assumption | exact upd_same | exact (upd_ne (by walk_at "ne")).trans (by walk_at "hp"))
local macro_rules | `(tactic| walk_at "sq") => `(tactic| first | assumption | exact .inl (.inl (by walk_at "hp")))
local macro_rules | `(tactic| walk_at "at") => `(tactic| first | rfl | assumption)
local macro_rules | `(tactic| walk_at "cond") => `(tactic| first | exact ⟨by decide, by decide⟩ | exact Or.inr ⟨by decide, by decide⟩ | exact Or.inl ⟨by decide, by decide⟩ | decide | omega | exact ⟨by decide, by decide, by decide⟩ | exact ⟨by omega, by omega, by omega, by omega⟩)
local macro_rules | `(tactic| walk_at "go1") => `(tactic| first
  | with_reducible apply g_seq
  | ((with_reducible apply g_var); (· rfl))
  | with_reducible apply g_c
  | with_reducible apply g_op
  | with_reducible apply g_test
  | with_reducible apply g_kb
  | ((with_reducible apply g_ixL); (· walk_at "sq"); (· walk_at "at"))
  | with_reducible apply g_I0
  | ((with_reducible apply g_I); (· walk_at "cond"))
  | with_reducible apply g_eqI | with_reducible apply g_eqS | with_reducible apply g_eqB
  | with_reducible apply g_neI | with_reducible apply g_neS | with_reducible apply g_neB
  | with_reducible apply g_nx | with_reducible apply g_nx0 | with_reducible apply g_next
  | with_reducible apply g_rt | with_reducible apply g_rt0
  | with_reducible apply g_asg | with_reducible apply g_name | with_reducible apply g_ret | with_reducible apply g_retN | with_reducible apply g_drop | with_reducible apply g_ifs
  | with_reducible apply g_cons | with_reducible apply g_nil | with_reducible apply g_cb | with_reducible apply g_call
  | with_reducible apply g_T | with_reducible apply g_F | with_reducible apply g_nF | with_reducible apply g_nT
  | with_reducible apply g_tB | with_reducible apply g_and | with_reducible apply g_or | with_reducible apply g_not
  | with_reducible apply g_andV | with_reducible apply g_orV | with_reducible apply g_notV | with_reducible apply g_if | with_reducible apply g_ch | with_reducible apply g_chain
  | ((with_reducible apply g_lenL); (· walk_at "sq")) | ((with_reducible apply g_lenT); (· walk_at "sq"))
  | ((with_reducible apply g_listL); (· walk_at "sq")) | ((with_reducible apply g_listT); (· walk_at "sq"))
  | with_reducible apply g_int1 | with_reducible apply g_intB | with_reducible apply g_abs | with_reducible apply g_max2 | with_reducible apply g_min2
  | with_reducible apply g_isNn | with_reducible apply g_isNi | with_reducible apply g_isNb | with_reducible apply g_isNs | with_reducible apply g_isNr | with_reducible apply g_isN
  | with_reducible apply g_notNn | with_reducible apply g_notNi | with_reducible apply g_notNb | with_reducible apply g_notNs | with_reducible apply g_notNr
  | with_reducible apply g_isBn | with_reducible apply g_isBb | with_reducible apply g_isBi | with_reducible apply g_isBs | with_reducible apply g_isB
  | with_reducible apply g_i_nn_bool | with_reducible apply g_i_nn_int | with_reducible apply g_i_nn_str | with_reducible apply g_i_bl_bool | with_reducible apply g_i_bl_int | with_reducible apply g_i_bl_str | with_reducible apply g_i_int_bool | with_reducible apply g_i_int_int | with_reducible apply g_i_int_str | with_reducible apply g_i_str_bool | with_reducible apply g_i_str_int | with_reducible apply g_i_str_str
  | with_reducible apply g_sub | ((with_reducible apply g_setL); (· walk_at "hp"); (· rfl))
  | with_reducible apply g_tup | with_reducible apply g_lst | ((with_reducible apply g_new); (· exact Nat.le_of_ble_eq_true rfl))
  | with_reducible apply g_augS | with_reducible apply g_ipI | ((with_reducible apply g_aug); (· rfl))
  | with_reducible apply g_un | with_reducible apply g_neg
  | with_reducible apply g_inS | with_reducible apply g_notInS
  | with_reducible apply g_sl | with_reducible apply g_part | with_reducible apply g_pi | with_reducible apply g_nopart | ((with_reducible apply g_slL); (· walk_at "sq"))
  | ((with_reducible apply g_ixT); (· walk_at "sq"); (· walk_at "at"))
  | with_reducible apply g_bm | with_reducible apply g_bm0 | ((with_reducible apply g_tyL); (· walk_at "sq")) | with_reducible apply g_m1 | with_reducible apply g_str
  | with_reducible apply g_for | with_reducible apply g_iRng1 | ((with_reducible apply g_r1); (· walk_at "cond"); (· walk_at "cond")) | with_reducible apply g_iRng2 | ((with_reducible apply g_r2); (· walk_at "cond")) | with_reducible apply g_iList | ((with_reducible apply g_il); (· walk_at "sq")) | with_reducible apply g_iTup | ((with_reducible apply g_it); (· walk_at "sq"))
  | with_reducible apply g_lc | with_reducible apply g_yes
  | with_reducible apply g_fld | with_reducible apply g_sfld | with_reducible apply g_meth | with_reducible apply g_make
  | with_reducible apply g_break | with_reducible apply g_cont | with_reducible apply g_bk | with_reducible apply g_ct | with_reducible apply g_lnx | with_reducible apply g_lct | with_reducible apply g_lbk | with_reducible apply g_lrt
  | ((with_reducible apply g_gtup); (· walk_at "sq"); (· rfl)) | with_reducible apply g_gcons | with_reducible apply g_gnil
  | ((with_reducible apply g_decT); (· decide)) | ((with_reducible apply g_decF); (· decide)))
local macro_rules | `(tactic| walk_at "go") => `(tactic| repeat walk_at "go1")
theorem g_start {t : TS} {Q : VK} {σ : L2.St} {H : Hp} (h : t (D0 Q) σ H) : t { nx := fun _ H' => Q .non H', rt := Q } σ H := h
local macro_rules | `(tactic| walk_at "go0") => `(tactic| with_reducible apply g_start)

def topS (i : Nat) : Stmt := PySem.Challenge.pw_kithbase_k30_arithmetic.main.body.getD i (.Pass ⟨0, 0, 0, 0⟩)
abbrev s_bounded : Stmt := (topS 3)
theorem sc_bounded : FnScope ["number"] ["number"] (defScope s_bounded) := ⟨rfl, rfl, rfl, by decide +kernel, rfl, by decide +kernel, by decide +kernel⟩
abbrev s_quotient : Stmt := (topS 4)
theorem sc_quotient : FnScope ["first", "second", "result"] ["first", "second"] (defScope s_quotient) := ⟨rfl, rfl, rfl, by decide +kernel, rfl, by decide +kernel, by decide +kernel⟩
abbrev s_arithmetic : Stmt := (topS 5)
theorem sc_arithmetic : FnScope ["operator", "first", "second", "joined"] ["operator", "first", "second"] (defScope s_arithmetic) := ⟨rfl, rfl, rfl, by decide +kernel, rfl, by decide +kernel, by decide +kernel⟩
abbrev s_next : Stmt := (topS 7)
theorem sc_next : FnScope ["_law_state", "_law_limit", "_law_cell", "_law_value"] ["_law_state", "_law_limit"] (defScope s_next) := ⟨rfl, rfl, rfl, by decide +kernel, rfl, by decide +kernel, by decide +kernel⟩
abbrev s_same : Stmt := (topS 8)
theorem sc_same : FnScope ["_law_actual", "_law_expected", "_law_k"] ["_law_actual", "_law_expected"] (defScope s_same) := ⟨rfl, rfl, rfl, by decide +kernel, rfl, by decide +kernel, by decide +kernel⟩
abbrev s_char : Stmt := (topS 9)
theorem sc_char : FnScope ["_law_index", "_law_chars"] ["_law_index"] (defScope s_char) := ⟨rfl, rfl, rfl, by decide +kernel, rfl, by decide +kernel, by decide +kernel⟩
abbrev s_integer : Stmt := (topS 10)
theorem sc_integer : FnScope ["_law_state", "_law_sign", "_law_pick"] ["_law_state"] (defScope s_integer) := ⟨rfl, rfl, rfl, by decide +kernel, rfl, by decide +kernel, by decide +kernel⟩
abbrev s_string : Stmt := (topS 11)
theorem sc_string : FnScope ["_law_state", "_law_pick", "_law_text", "_law_k"] ["_law_state"] (defScope s_string) := ⟨rfl, rfl, rfl, by decide +kernel, rfl, by decide +kernel, by decide +kernel⟩
abbrev s_lbounded : Stmt := (topS 12)
theorem sc_lbounded : FnScope ["_law_number"] ["_law_number"] (defScope s_lbounded) := ⟨rfl, rfl, rfl, by decide +kernel, rfl, by decide +kernel, by decide +kernel⟩
abbrev s_divides : Stmt := (topS 13)
theorem sc_divides : FnScope ["_law_first", "_law_second", "_law_quotient", "_law_remainder"] ["_law_first", "_law_second", "_law_quotient", "_law_remainder"] (defScope s_divides) := ⟨rfl, rfl, rfl, by decide +kernel, rfl, by decide +kernel, by decide +kernel⟩
abbrev s_numbers : Stmt := (topS 14)
theorem sc_numbers : FnScope ["_law_first", "_law_second", "_law_actual", "_law_expected", "_law_operator"] ["_law_first", "_law_second"] (defScope s_numbers) := ⟨rfl, rfl, rfl, by decide +kernel, rfl, by decide +kernel, by decide +kernel⟩
abbrev s_law : Stmt := (topS 15)
theorem sc_law : FnScope ["_law_script", "_law_state", "_law_first", "_law_second", "_law_left", "_law_right", "_law_joined"] ["_law_script"] (defScope s_law) := ⟨rfl, rfl, rfl, by decide +kernel, rfl, by decide +kernel, by decide +kernel⟩
theorem bt_abs : bootBuiltins "abs" = some (.builtin "abs") := by decide +kernel
theorem bt_bool : bootBuiltins "bool" = some (.type "bool") := by decide +kernel
theorem bt_int : bootBuiltins "int" = some (.type "int") := by decide +kernel
theorem bt_isinstance : bootBuiltins "isinstance" = some (.builtin "isinstance") := by decide +kernel
theorem bt_len : bootBuiltins "len" = some (.builtin "len") := by decide +kernel
theorem bt_list : bootBuiltins "list" = some (.type "list") := by decide +kernel
theorem bt_range : bootBuiltins "range" = some (.type "range") := by decide +kernel
theorem bt_str : bootBuiltins "str" = some (.type "str") := by decide +kernel
theorem bt_tuple : bootBuiltins "tuple" = some (.type "tuple") := by decide +kernel
structure Txt (K : PySem.W.Frag) (mg : Str → Option Value) where
  a_bounded : Addr
  d_bounded : FuncData
  F_bounded : Fun K "bounded" "bounded" s_bounded a_bounded d_bounded
  b_bounded : Binds K d_bounded ["number"] []
  g_bounded : mg "bounded" = some (.ref a_bounded)
  a_quotient : Addr
  d_quotient : FuncData
  F_quotient : Fun K "quotient" "quotient" s_quotient a_quotient d_quotient
  b_quotient : Binds K d_quotient ["first", "second"] []
  g_quotient : mg "quotient" = some (.ref a_quotient)
  a_arithmetic : Addr
  d_arithmetic : FuncData
  F_arithmetic : Fun K "arithmetic" "arithmetic" s_arithmetic a_arithmetic d_arithmetic
  b_arithmetic : Binds K d_arithmetic ["operator", "first", "second"] []
  g_arithmetic : mg "arithmetic" = some (.ref a_arithmetic)
  a_next : Addr
  d_next : FuncData
  F_next : Fun K "_law_next" "_law_next" s_next a_next d_next
  b_next : Binds K d_next ["_law_state", "_law_limit"] []
  g_next : mg "_law_next" = some (.ref a_next)
  a_same : Addr
  d_same : FuncData
  F_same : Fun K "_law_same" "_law_same" s_same a_same d_same
  b_same : Binds K d_same ["_law_actual", "_law_expected"] []
  g_same : mg "_law_same" = some (.ref a_same)
  a_char : Addr
  d_char : FuncData
  F_char : Fun K "_law_char" "_law_char" s_char a_char d_char
  b_char : Binds K d_char ["_law_index"] []
  g_char : mg "_law_char" = some (.ref a_char)
  a_integer : Addr
  d_integer : FuncData
  F_integer : Fun K "_law_integer" "_law_integer" s_integer a_integer d_integer
  b_integer : Binds K d_integer ["_law_state"] []
  g_integer : mg "_law_integer" = some (.ref a_integer)
  a_string : Addr
  d_string : FuncData
  F_string : Fun K "_law_string" "_law_string" s_string a_string d_string
  b_string : Binds K d_string ["_law_state"] []
  g_string : mg "_law_string" = some (.ref a_string)
  a_lbounded : Addr
  d_lbounded : FuncData
  F_lbounded : Fun K "_law_bounded" "_law_bounded" s_lbounded a_lbounded d_lbounded
  b_lbounded : Binds K d_lbounded ["_law_number"] []
  g_lbounded : mg "_law_bounded" = some (.ref a_lbounded)
  a_divides : Addr
  d_divides : FuncData
  F_divides : Fun K "_law_divides" "_law_divides" s_divides a_divides d_divides
  b_divides : Binds K d_divides ["_law_first", "_law_second", "_law_quotient", "_law_remainder"] []
  g_divides : mg "_law_divides" = some (.ref a_divides)
  a_numbers : Addr
  d_numbers : FuncData
  F_numbers : Fun K "_law_numbers" "_law_numbers" s_numbers a_numbers d_numbers
  b_numbers : Binds K d_numbers ["_law_first", "_law_second"] []
  g_numbers : mg "_law_numbers" = some (.ref a_numbers)
  a_law : Addr
  d_law : FuncData
  F_law : Fun K "law" "law" s_law a_law d_law
  b_law : Binds K d_law ["_law_script"] []
  g_law : mg "law" = some (.ref a_law)
  z_abs : mg "abs" = none
  z_bool : mg "bool" = none
  z_int : mg "int" = none
  z_isinstance : mg "isinstance" = none
  z_len : mg "len" = none
  z_list : mg "list" = none
  z_range : mg "range" = none
  z_str : mg "str" = none
  z_tuple : mg "tuple" = none
  u_BOUND : Value
  g_BOUND : mg "BOUND" = some u_BOUND
  r_BOUND : RelV (.int (10 ^ 40)) u_BOUND
  u_LONGEST_TEXT : Value
  g_LONGEST_TEXT : mg "LONGEST_TEXT" = some u_LONGEST_TEXT
  r_LONGEST_TEXT : RelV (.int 2000) u_LONGEST_TEXT
section
variable {P : Program} {w : World} {K : PySem.W.Frag} {mg : Str → Option Value} {base : Heap}
theorem ok_next (T : Txt K mg) : FnOk P w K mg base CX0 1 T.a_next T.d_next ["_law_state", "_law_limit"] (spNext K) := by
  refine T.F_next.ok sc_next (fun vs H Q E h => ?_) (fun cdv A outer s H vs Q E hr h => ?_)
  · obtain ⟨s, a, ns, m, rfl, _⟩ := h
    rfl
  · obtain ⟨p, a, ns, m, rfl, S, hm, hm2, q⟩ := h
    refine ⟨_, (C8.pss_cut (ps_if (PW.pt (pw_and (pt_cmpR op_eq (pe_ix (k_ixL (K := K)) (pv 0) pe_int (fun _ _ => rfl)) pe_int (nomark _)) (pw_and1 (pt_cmpR op_lt (pe_ix (k_ixL (K := K)) (pv 0) pe_int (fun _ _ => rfl)) (pe_callB (k_len (K := K)) (by rfl) T.z_len bt_len (pa_cons (pe_ix (k_ixL (K := K)) (pv 0) pe_int (fun _ _ => rfl)) pa_nil)) (nomark _))))) (pss_cons (ps_set (i := 2) sc_next.nd rfl (.inl rfl) (pe_ix (k_ixL (K := K)) (pe_ix (k_ixL (K := K)) (pv 0) pe_int (fun _ _ => rfl)) (pe_ix (k_ixL (K := K)) (pv 0) pe_int (fun _ _ => rfl)) (fun _ _ => rfl)))
      (pss_cons (ps_augS (pv 0) pe_int get_list pe_int ip_add set_list)
      (pss_one (ps_if (pt_cmpR op_ge (pv 2) (pe_op op_pow pe_int pe_int) (nomark _)) (pss_one (ps_asg (pv 2) (pg_sub (pv 0) pe_int set_list))) (pss_one (ps_asg (pe_op op_mod (pe_callTy c_int1 (by rfl) T.z_int bt_int (pa_cons (pe_op op_add (pe_op op_add (pe_op op_mul (pe_ix (k_ixL (K := K)) (pv 0) pe_int (fun _ _ => rfl)) pe_int) (pe_op op_mod (pe_callTy c_int1 (by rfl) T.z_int bt_int (pa_cons (pv 2) pa_nil)) pe_int)) pe_int) pa_nil)) pe_int) (pg_sub (pv 0) pe_int set_list))))))) pss_nil)
      (pss_cons (ps_if (pt_cmpR op_gt (pe_ix (k_ixL (K := K)) (pv 0) pe_int (fun _ _ => rfl)) pe_int (nomark _)) (pss_cons (ps_set (i := 3) sc_next.nd rfl (.inl rfl) (pe_op op_mod (pe_callTy c_int1 (by rfl) T.z_int bt_int (pa_cons (pe_ix (k_ixL (K := K)) (pv 0) pe_int (fun _ _ => rfl)) pa_nil)) (pv 1)))
      (pss_cons (ps_asg (pe_op op_fdivW (pe_ix (k_ixL (K := K)) (pv 0) pe_int (fun _ _ => rfl)) (pv 1)) (pg_sub (pv 0) pe_int set_list))
      (pss_one (ps_ret (pv 3))))) pss_nil)
      (pss_cons (ps_asg (pe_op op_mod (pe_callTy c_int1 (by rfl) T.z_int bt_int (pa_cons (pe_op op_add (pe_op op_mul (pe_ix (k_ixL (K := K)) (pv 0) pe_int (fun _ _ => rfl)) pe_int) pe_int) pa_nil)) pe_int) (pg_sub (pv 0) pe_int set_list))
      (pss_one (ps_ret (pe_op op_mod (pe_callTy c_int1 (by rfl) T.z_int bt_int (pa_cons (pe_op op_fdiv (pe_ix (k_ixL (K := K)) (pv 0) pe_int (fun _ _ => rfl)) pe_int) pa_nil)) (pv 1))))))), ?_⟩
    obtain ⟨i, v, r, hS, k⟩ := S.st
    have hS0 := hS
    unfold StO at hS
    have hL := SqL.of (K := K) S.li
    have hlen := S.len
    have hne := S.ne
    walk_at "go0"
    refine g_cut (fun σ' H' => ∃ i v r c y, σ' = [some (.ref p), some (.int m), c, y] ∧ H' = upd H p (StO a i v r) ∧ 0 ≤ i ∧ 0 ≤ v ∧ 0 ≤ r ∧ r < 2147483647) ?_ ?_
    · walk_at "go"
      refine g_dec (fun hv => ?_) (fun _ => ?_)
      · walk_at "go"
        refine g_dec (fun hi => ?_) (fun _ => ?_)
        · rw [List.length_map] at hi
          obtain ⟨z, hz⟩ : ∃ z, ns[i.toNat]? = some z := ⟨ns[i.toNat], List.getElem?_eq_getElem (by omega)⟩
          have hz' : atI (ns.map V.int) i = some (.int z) := at_of (j := i.toNat) (by omega) (by rw [List.getElem?_map, hz]; rfl)
          walk_at "go"
          refine g_dec (fun hc => ?_) (fun _ => ?_)
          · walk_at "go"
            refine ⟨i + 1, z, r, some (.int z), none, rfl, by rw [upd_upd]; rfl, by omega, ?_, k.2.2.1, k.2.2.2⟩
            have : (0 : Int) ≤ 10 ^ (18 : Int).toNat := by decide
            omega
          · walk_at "go"
            refine ⟨i + 1, v, _, some (.int z), none, rfl, by rw [upd_upd]; rfl, by omega, k.2.1, Int.emod_nonneg _ (by decide), Int.emod_lt_of_pos _ (by decide)⟩
        · walk_at "go"
          exact ⟨i, v, r, none, none, rfl, (upd_id hS0).symm, k⟩
      · walk_at "go"
        exact ⟨i, v, r, none, none, rfl, (upd_id hS0).symm, k⟩
    · rintro σ' H' ⟨i, v, r, c, y, rfl, rfl, k⟩
      have hP : (upd H p (StO a i v r)) p = some (.lst [.ref a, .int i, .int v, .int r]) := upd_same
      walk_at "go"
      refine g_dec (fun hv => ?_) (fun _ => ?_)
      · walk_at "go"
        refine g_I (wide_div hm hm2 (by decide) (by decide)) ?_
        walk_at "go"
        rw [upd_upd]
        exact q i (v / m) r _ ⟨k.1, Int.ediv_nonneg k.2.1 (by omega), k.2.2.1, k.2.2.2⟩ (Int.emod_nonneg _ (by omega)) (Int.emod_lt_of_pos _ hm)
      · walk_at "go"
        rw [upd_upd]
        exact q i v _ _ ⟨k.1, k.2.1, Int.emod_nonneg _ (by decide), Int.emod_lt_of_pos _ (by decide)⟩ (Int.emod_nonneg _ (by omega)) (Int.emod_lt_of_pos _ hm)
end

def spSame : Sp := fun vs H Q _ => ∃ x y, vs = [x, y] ∧ flatV x = true ∧ flatV y = true ∧ Q (.bl (decide (x = y))) H
section
variable {P : Program} {w : World} {K : PySem.W.Frag} {mg : Str → Option Value} {base : Heap}
theorem ok_same0 (T : Txt K mg) : FnOk P w K mg base CX0 1 T.a_same T.d_same ["_law_actual", "_law_expected"] spSame := by
  refine T.F_same.ok sc_same (fun vs H Q E h => ?_) (fun cdv A outer s H vs Q E hr h => ?_)
  · obtain ⟨x, y, rfl, _⟩ := h
    rfl
  · obtain ⟨x, y, rfl, hx, hy, q⟩ := h
    refine ⟨_, (pss_cons (ps_if (pt_cmpR o_isN (pv 1) pe_non (nomark _)) (pss_one (ps_ret (pe_cmpR o_isN (pv 0) pe_non (nomark _)))) pss_nil)
      (pss_cons (ps_if (pt_val (pe_callB (k_isi (K := K)) (by rfl) T.z_isinstance bt_isinstance (pa_cons (pv 1) (pa_cons (pe_bltn (v := .ty "bool") (by rfl) T.z_bool bt_bool rfl) pa_nil)))) (pss_one (ps_ret (pe_and (pe_callB (k_isi (K := K)) (by rfl) T.z_isinstance bt_isinstance (pa_cons (pv 0) (pa_cons (pe_bltn (v := .ty "bool") (by rfl) T.z_bool bt_bool rfl) pa_nil))) (pe_one (pe_cmpR op_eq (pv 0) (pv 1) (nomark _)))))) pss_nil)
      (pss_cons (ps_if (pt_val (pe_callB (k_isi (K := K)) (by rfl) T.z_isinstance bt_isinstance (pa_cons (pv 1) (pa_cons (pe_bltn (v := .ty "int") (by rfl) T.z_int bt_int rfl) pa_nil)))) (pss_one (ps_ret (pe_and (pe_callB (k_isi (K := K)) (by rfl) T.z_isinstance bt_isinstance (pa_cons (pv 0) (pa_cons (pe_bltn (v := .ty "int") (by rfl) T.z_int bt_int rfl) pa_nil))) (pe_and (pe_not (pe_callB (k_isi (K := K)) (by rfl) T.z_isinstance bt_isinstance (pa_cons (pv 0) (pa_cons (pe_bltn (v := .ty "bool") (by rfl) T.z_bool bt_bool rfl) pa_nil)))) (pe_one (pe_cmpR op_eq (pv 0) (pv 1) (nomark _))))))) pss_nil)
      (pss_cons (ps_if (pt_val (pe_callB (k_isi (K := K)) (by rfl) T.z_isinstance bt_isinstance (pa_cons (pv 1) (pa_cons (pe_bltn (v := .ty "str") (by rfl) T.z_str bt_str rfl) pa_nil)))) (pss_one (ps_ret (pe_and (pe_callB (k_isi (K := K)) (by rfl) T.z_isinstance bt_isinstance (pa_cons (pv 0) (pa_cons (pe_bltn (v := .ty "str") (by rfl) T.z_str bt_str rfl) pa_nil))) (pe_one (pe_cmpR op_eq (pv 0) (pv 1) (nomark _)))))) pss_nil)
      pss_never)))), ?_⟩
    walk_at "go0"
    cases y <;> cases hy <;> cases x <;> cases hx <;> (walk_at "go"; first | exact q | (rw [dI] at q; exact q) | (rw [dB] at q; exact q) | (rw [dS] at q; exact q))
/-- the same of lists of flat values -/
def spSameL : Sp := fun vs H Q _ => ∃ a b xs ys, vs = [.ref a, .ref b] ∧ H a = some (.lst xs) ∧ H b = some (.lst ys) ∧ xs.all flatV = true ∧ ys.all flatV = true ∧ xs.length ≤ 1000 ∧ ys.length ≤ 1000 ∧ Q (.bl (decide (xs = ys))) H
theorem ok_sameL (T : Txt K mg) : FnOk P w K mg base CX0 2 T.a_same T.d_same ["_law_actual", "_law_expected"] spSameL := by
  have G_same : FnOk P w K mg base CX0 1 _ _ _ _ := ok_same0 T
  refine T.F_same.ok sc_same (fun vs H Q E h => ?_) (fun cdv A outer s H vs Q E hr h => ?_)
  · obtain ⟨a, b, xs, ys, rfl, _⟩ := h
    rfl
  · obtain ⟨a, b, xs, ys, rfl, ha, hb, fx, fy, lx, ly, q⟩ := h
    refine ⟨_, (pss_cons (ps_if (pt_cmpR o_isN (pv 1) pe_non (nomark _)) (pss_one (ps_ret (pe_cmpR o_isN (pv 0) pe_non (nomark _)))) pss_nil)
      (pss_cons (ps_if (pt_val (pe_callB (k_isi (K := K)) (by rfl) T.z_isinstance bt_isinstance (pa_cons (pv 1) (pa_cons (pe_bltn (v := .ty "bool") (by rfl) T.z_bool bt_bool rfl) pa_nil)))) (pss_one (ps_ret (pe_and (pe_callB (k_isi (K := K)) (by rfl) T.z_isinstance bt_isinstance (pa_cons (pv 0) (pa_cons (pe_bltn (v := .ty "bool") (by rfl) T.z_bool bt_bool rfl) pa_nil))) (pe_one (pe_cmpR op_eq (pv 0) (pv 1) (nomark _)))))) pss_nil)
      (pss_cons (ps_if (pt_val (pe_callB (k_isi (K := K)) (by rfl) T.z_isinstance bt_isinstance (pa_cons (pv 1) (pa_cons (pe_bltn (v := .ty "int") (by rfl) T.z_int bt_int rfl) pa_nil)))) (pss_one (ps_ret (pe_and (pe_callB (k_isi (K := K)) (by rfl) T.z_isinstance bt_isinstance (pa_cons (pv 0) (pa_cons (pe_bltn (v := .ty "int") (by rfl) T.z_int bt_int rfl) pa_nil))) (pe_and (pe_not (pe_callB (k_isi (K := K)) (by rfl) T.z_isinstance bt_isinstance (pa_cons (pv 0) (pa_cons (pe_bltn (v := .ty "bool") (by rfl) T.z_bool bt_bool rfl) pa_nil)))) (pe_one (pe_cmpR op_eq (pv 0) (pv 1) (nomark _))))))) pss_nil)
      (pss_cons (ps_if (pt_val (pe_callB (k_isi (K := K)) (by rfl) T.z_isinstance bt_isinstance (pa_cons (pv 1) (pa_cons (pe_bltn (v := .ty "str") (by rfl) T.z_str bt_str rfl) pa_nil)))) (pss_one (ps_ret (pe_and (pe_callB (k_isi (K := K)) (by rfl) T.z_isinstance bt_isinstance (pa_cons (pv 0) (pa_cons (pe_bltn (v := .ty "str") (by rfl) T.z_str bt_str rfl) pa_nil))) (pe_one (pe_cmpR op_eq (pv 0) (pv 1) (nomark _)))))) pss_nil)
      (pss_cons (ps_if (PW.pt (pw_and (pt_val (pe_callB (k_isi (K := K)) (by rfl) T.z_isinstance bt_isinstance (pa_cons (pv 1) (pa_cons (pe_bltn (v := .ty "tuple") (by rfl) T.z_tuple bt_tuple rfl) pa_nil)))) (pw_and1 (pt_not (pt_val (pe_callB (k_isi (K := K)) (by rfl) T.z_isinstance bt_isinstance (pa_cons (pv 0) (pa_cons (pe_bltn (v := .ty "tuple") (by rfl) T.z_tuple bt_tuple rfl) pa_nil)))))))) (pss_one (ps_ret pe_bl)) pss_nil)
      (pss_cons (ps_if (PW.pt (pw_and (pt_val (pe_callB (k_isi (K := K)) (by rfl) T.z_isinstance bt_isinstance (pa_cons (pv 1) (pa_cons (pe_bltn (v := .ty "list") (by rfl) T.z_list bt_list rfl) pa_nil)))) (pw_and1 (pt_not (pt_val (pe_callB (k_isi (K := K)) (by rfl) T.z_isinstance bt_isinstance (pa_cons (pv 0) (pa_cons (pe_bltn (v := .ty "list") (by rfl) T.z_list bt_list rfl) pa_nil)))))))) (pss_one (ps_ret pe_bl)) pss_nil)
      (pss_cons (ps_if (pt_cmpR op_ne (pe_callB (k_len (K := K)) (by rfl) T.z_len bt_len (pa_cons (pv 0) pa_nil)) (pe_callB (k_len (K := K)) (by rfl) T.z_len bt_len (pa_cons (pv 1) pa_nil)) (nomark _)) (pss_one (ps_ret pe_bl)) pss_nil)
      (pss_cons (ps_for PassesOwn.never rfl (pi_range1 (by rfl) T.z_range (pa_cons (pe_callB (k_len (K := K)) (by rfl) T.z_len bt_len (pa_cons (pv 1) pa_nil)) pa_nil)) (pg_name (i := 2) sc_same.nd rfl (.inl rfl)) (pss_one (ps_if (pt_not (pt_val (pe_call G_same (hr.mono (by decide)) (by rfl) T.g_same T.F_same.kp T.b_same .nil pass0 (pa_cons (pe_ix (k_ixL (K := K)) (pv 0) (pv 2) (fun _ _ => rfl)) (pa_cons (pe_ix (k_ixL (K := K)) (pv 1) (pv 2) (fun _ _ => rfl)) pa_nil))))) (pss_one (ps_ret pe_bl)) pss_nil)))
      (pss_one (ps_ret pe_bl)))))))))), ?_⟩
    walk_at "go0"
    walk_at "go"
    refine isi (.lst hb) kb_lst_bool ?_
    walk_at "go"
    refine isi (.lst hb) kb_lst_int ?_
    walk_at "go"
    refine isi (.lst hb) kb_lst_str ?_
    walk_at "go"
    refine isi (.lst hb) kb_lst_tup ?_
    walk_at "go"
    refine isi (.lst hb) kb_lst_lst ?_
    walk_at "go"
    refine isi (.lst ha) kb_lst_lst ?_
    walk_at "go"
    refine g_ndec (fun h => ?_) (fun h => ?_)
    · walk_at "go"
      rw [decide_eq_false (fun e : xs = ys => h (by rw [e]))] at q
      exact q
    have hl : xs.length = ys.length := by omega
    walk_at "go"
    refine g_forR (fun i σ' H' => ∃ y2, σ' = [some (.ref a), some (.ref b), y2] ∧ H' = H ∧ xs.take i = ys.take i) ⟨none, rfl, rfl, rfl⟩ ?_ ?_
    · rintro i σ' H' hi ⟨y2, rfl, rfl, e⟩
      have h1 : i < xs.length := by omega
      have h2 : i < ys.length := by omega
      have g1 : atI xs (0 + (i : Int)) = some xs[i] := at_of (j := i) (by omega) (List.getElem?_eq_getElem h1)
      have g2 : atI ys (0 + (i : Int)) = some ys[i] := at_of (j := i) (by omega) (List.getElem?_eq_getElem h2)
      walk_at "go"
      refine ⟨_, _, rfl, List.all_eq_true.mp fx _ (List.getElem_mem h1), List.all_eq_true.mp fy _ (List.getElem_mem h2), ?_⟩
      walk_at "go"
      refine g_ndec (fun h => ?_) (fun h => ?_)
      · walk_at "go"
        rw [decide_eq_false (fun e : xs = ys => h (by subst e; rfl))] at q
        exact q
      · walk_at "go"
        refine ⟨_, rfl, rfl, ?_⟩
        rw [List.take_succ_eq_append_getElem h1, List.take_succ_eq_append_getElem h2, e, h]
    · rintro σ' H' ⟨y2, rfl, rfl, e⟩
      walk_at "go"
      have ee : xs = ys := by
        rw [show ((ys.length : Int)).toNat = ys.length from by omega] at e
        rw [List.take_of_length_le (by omega), List.take_of_length_le (by omega)] at e
        exact e
      rw [decide_eq_true ee] at q
      exact q
end

def charCodes : List Nat := (" '!\"#$&()*+,-./0123456789:;<=>?@ABCDEFGHIJKLMNOPQRSTUVWXYZ[\\]^_`" : Str).cps.toList ++ ("abcdefghijklmnopqrstuvwxyz{|}~\n" : Str).cps.toList
def spChar : Sp := fun vs H Q _ => ∃ i : Int, vs = [.int i] ∧ ∀ c ∈ charCodes, Q (.str ⟨#[c]⟩) H
section
variable {P : Program} {w : World} {K : PySem.W.Frag} {mg : Str → Option Value} {base : Heap}
theorem ok_char (T : Txt K mg) : FnOk P w K mg base CX0 1 T.a_char T.d_char ["_law_index"] spChar := by
  refine T.F_char.ok sc_char (fun vs H Q E h => ?_) (fun cdv A outer s H vs Q E hr h => ?_)
  · obtain ⟨i, rfl, _⟩ := h
    rfl
  · obtain ⟨i, rfl, q⟩ := h
    refine ⟨_, (pss_cons (ps_set (i := 1) sc_char.nd rfl (.inl rfl) pe_str)
      (pss_cons (ps_set (i := 1) sc_char.nd rfl (.inl rfl) (pe_op o_addS (pv 1) pe_str))
      (pss_one (ps_ret (pe_ix ix_str (pv 1) (pe_op op_mod (pe_callTy c_int1 (by rfl) T.z_int bt_int (pa_cons (pv 0) pa_nil)) pe_int) (fun _ _ => rfl)))))), ?_⟩
    walk_at "go0"
    walk_at "go"
    refine g_addS (sz (by decide +kernel)) ?_
    walk_at "go"
    have h0 : 0 ≤ i % 95 := Int.emod_nonneg _ (by decide)
    have h1 : i % 95 < 95 := Int.emod_lt_of_pos _ (by decide)
    have hl : charCodes.length = 95 := by decide +kernel
    have hj : (i % 95).toNat < charCodes.length := by omega
    refine g_ixS (k := charCodes[(i % 95).toNat]) (sz (by decide +kernel)) (at_codes (j := (i % 95).toNat) (by omega) (List.getElem?_eq_getElem hj)) ?_
    exact q _ (List.getElem_mem hj)
end


/-! arithmetic -/
def B40 : Int := 10 ^ 40
def bd (n : Int) : V := if B40 ≤ (if n < 0 then -n else n) then .non else .int n
def ab (n : Int) : Int := if n < 0 then -n else n
def qt (a b : Int) : Int := if decide (a < 0) = decide (b < 0) then ab a / ab b else -(ab a / ab b)
def arI (op : Str) (i j : Int) : V := if op = "+" then bd (i + j) else if op = "-" then bd (i - j) else if op = "*" then bd (i * j) else if j = 0 then .non else if op = "/" then .int (qt i j) else .int (i - qt i j * j)
theorem ab_nn (n : Int) : 0 ≤ ab n := by unfold ab; split <;> omega
theorem ab_nat (n : Int) : ab n = (n.natAbs : Int) := by unfold ab; split <;> omega
theorem qt_rem (a b : Int) (hb : b ≠ 0) : ab (a - qt a b * b) < ab b ∧ (a - qt a b * b = 0 ∨ (a - qt a b * b < 0 ↔ a < 0)) := by
  have key : ∀ x y : Int, 0 ≤ x → 0 < y → x - x / y * y = x % y ∧ 0 ≤ x % y ∧ x % y < y := fun x y _ hy =>
    ⟨by have := Int.emod_add_mul_ediv x y; rw [Int.mul_comm] at this; omega, Int.emod_nonneg _ (by omega), Int.emod_lt_of_pos _ hy⟩
  unfold qt
  by_cases ha : a < 0 <;> by_cases hb' : b < 0
  · rw [decide_eq_true ha, decide_eq_true hb', if_pos rfl]
    have ea : ab a = -a := if_pos ha
    have eb : ab b = -b := if_pos hb'
    rw [ea, eb]
    obtain ⟨h1, h2, h3⟩ := key (-a) (-b) (by omega) (by omega)
    rw [Int.mul_neg] at h1
    generalize -a / -b * b = m at h1 ⊢
    refine ⟨?_, ?_⟩
    · unfold ab; split <;> omega
    · omega
  · rw [decide_eq_true ha, decide_eq_false hb', if_neg (by decide)]
    have ea : ab a = -a := if_pos ha
    have eb : ab b = b := if_neg hb'
    rw [ea, eb, Int.neg_mul]
    obtain ⟨h1, h2, h3⟩ := key (-a) b (by omega) (by omega)
    generalize -a / b * b = m at h1 ⊢
    refine ⟨?_, ?_⟩
    · unfold ab; split <;> omega
    · omega
  · rw [decide_eq_false ha, decide_eq_true hb', if_neg (by decide)]
    have ea : ab a = a := if_neg ha
    have eb : ab b = -b := if_pos hb'
    rw [ea, eb, Int.neg_mul]
    obtain ⟨h1, h2, h3⟩ := key a (-b) (by omega) (by omega)
    rw [Int.mul_neg] at h1
    generalize a / -b * b = m at h1 ⊢
    refine ⟨?_, ?_⟩
    · unfold ab; split <;> omega
    · omega
  · rw [decide_eq_false ha, decide_eq_false hb', if_pos rfl]
    have ea : ab a = a := if_neg ha
    have eb : ab b = b := if_neg hb'
    rw [ea, eb]
    obtain ⟨h1, h2, h3⟩ := key a b (by omega) (by omega)
    generalize a / b * b = m at h1 ⊢
    refine ⟨?_, ?_⟩
    · unfold ab; split <;> omega
    · omega
theorem qt_small {a b : Int} {n : Nat} (ha : a.natAbs < n) : (qt a b).natAbs < n := by
  have h : (ab a / ab b).natAbs ≤ (ab a).natAbs := Int.natAbs_ediv_le_natAbs _ _
  have e : (ab a).natAbs = a.natAbs := by rw [ab_nat]; rfl
  unfold qt
  split
  · omega
  · rw [Int.natAbs_neg]; omega
theorem w40 {i : Int} (h : i.natAbs < 10 ^ 40) : i.natAbs < 2 ^ 140 := Nat.lt_trans h (by decide)
def In40 (x : V) : Prop := x = .non ∨ ∃ i : Int, x = .int i ∧ i.natAbs < 10 ^ 40
def Txt3 (x : V) : Prop := x = .non ∨ ∃ z : Str, x = .str z ∧ z.length ≤ 3000
def joinV : V → V → V
  | .str a, .str b => if a.length + b.length > 2000 then .non else .str (a ++ b)
  | _, _ => .non
def spBounded : Sp := fun vs H Q _ => ∃ i : Int, vs = [.int i] ∧ Q (bd i) H
def spQuot : Sp := fun vs H Q _ => ∃ i j : Int, vs = [.int i, .int j] ∧ j ≠ 0 ∧ j.natAbs < 10 ^ 40 ∧ Q (.int (qt i j)) H
def spArith : Sp := fun vs H Q _ => ∃ (op : Str) (x y : V), vs = [.str op, x, y] ∧
  (((x = .non ∨ y = .non) ∧ (In40 x ∨ Txt3 x) ∧ (In40 y ∨ Txt3 y) ∧ Q .non H) ∨ (∃ i j : Int, x = .int i ∧ y = .int j ∧ i.natAbs < 10 ^ 40 ∧ j.natAbs < 10 ^ 40 ∧ op ≠ "||" ∧ Q (arI op i j) H) ∨ (∃ a b : Str, x = .str a ∧ y = .str b ∧ a.length ≤ 3000 ∧ b.length ≤ 3000 ∧ op = "||" ∧ Q (joinV x y) H))
def spInteger (K : PySem.W.Frag) : Sp := fun vs H Q _ => ∃ (s a : Addr) (ns : List Int), vs = [.ref s] ∧ StAt K H s a ns ∧ ∀ H' v, In40 v → StAt K H' s a ns → But s H H' → Q v H'
def spString (K : PySem.W.Frag) : Sp := fun vs H Q _ => ∃ (s a : Addr) (ns : List Int), vs = [.ref s] ∧ StAt K H s a ns ∧ ∀ H' v, Txt3 v → StAt K H' s a ns → But s H H' → Q v H'
def spDivides : Sp := fun vs H Q _ => ∃ i j q r : Int, vs = [.int i, .int j, .int q, .int r] ∧ i.natAbs < 10 ^ 40 ∧ j.natAbs < 10 ^ 40 ∧ q.natAbs < 10 ^ 40 ∧ q * j + r = i ∧ ab r < ab j ∧ (r = 0 ∨ (r < 0 ↔ i < 0)) ∧ Q (.bl true) H
def spNumbers : Sp := fun vs H Q _ => ∃ x y : V, vs = [x, y] ∧ In40 x ∧ In40 y ∧ ∀ H', Same H H' → Q (.bl true) H'
section
variable {P : Program} {w : World} {K : PySem.W.Frag} {mg : Str → Option Value} {base : Heap}
theorem ok_bounded (T : Txt K mg) : FnOk P w K mg base CX0 1 T.a_bounded T.d_bounded ["number"] spBounded := by
  refine T.F_bounded.ok sc_bounded (fun vs H Q E h => ?_) (fun cdv A outer s H vs Q E hr h => ?_)
  · obtain ⟨i, rfl, _⟩ := h
    rfl
  · obtain ⟨i, rfl, q⟩ := h
    refine ⟨_, (pss_cons (ps_if (pt_cmpR op_ge (pe_callB c_abs (by rfl) T.z_abs bt_abs (pa_cons (pv 0) pa_nil)) (pe_glob (by rfl) T.g_BOUND T.r_BOUND) (nomark _)) (pss_one (ps_ret pe_non)) pss_nil)
      (pss_one (ps_ret (pv 0)))), ?_⟩
    walk_at "go0"
    walk_at "go"
    unfold bd at q
    refine g_dec (fun h => ?_) (fun h => ?_)
    · walk_at "go"
      rw [if_pos (show B40 ≤ _ from h)] at q
      exact q
    · walk_at "go"
      rw [if_neg (show ¬ B40 ≤ _ from h)] at q
      exact q
theorem ok_lbounded (T : Txt K mg) : FnOk P w K mg base CX0 1 T.a_lbounded T.d_lbounded ["_law_number"] spBounded := by
  refine T.F_lbounded.ok sc_lbounded (fun vs H Q E h => ?_) (fun cdv A outer s H vs Q E hr h => ?_)
  · obtain ⟨i, rfl, _⟩ := h
    rfl
  · obtain ⟨i, rfl, q⟩ := h
    refine ⟨_, (pss_cons (ps_if (pt_cmpR op_ge (pe_callB c_abs (by rfl) T.z_abs bt_abs (pa_cons (pv 0) pa_nil)) (pe_op op_pow pe_int pe_int) (nomark _)) (pss_one (ps_ret pe_non)) pss_nil)
      (pss_one (ps_ret (pv 0)))), ?_⟩
    walk_at "go0"
    walk_at "go"
    unfold bd at q
    have e : (10 : Int) ^ (40 : Int).toNat = B40 := by decide
    rw [e]
    refine g_dec (fun h => ?_) (fun h => ?_)
    · walk_at "go"
      rw [if_pos h] at q
      exact q
    · walk_at "go"
      rw [if_neg h] at q
      exact q
theorem ok_quotient (T : Txt K mg) : FnOk P w K mg base CX0 1 T.a_quotient T.d_quotient ["first", "second"] spQuot := by
  refine T.F_quotient.ok sc_quotient (fun vs H Q E h => ?_) (fun cdv A outer s H vs Q E hr h => ?_)
  · obtain ⟨i, j, rfl, _⟩ := h
    rfl
  · obtain ⟨i, j, rfl, hj, hj2, q⟩ := h
    refine ⟨_, (pss_cons (ps_set (i := 2) sc_quotient.nd rfl (.inl rfl) (pe_op op_fdivW (pe_callB c_abs (by rfl) T.z_abs bt_abs (pa_cons (pv 0) pa_nil)) (pe_callB c_abs (by rfl) T.z_abs bt_abs (pa_cons (pv 1) pa_nil))))
      (pss_cons (ps_if (pt_cmpR op_ne (pe_cmpR op_lt (pv 0) pe_int (nomark _)) (pe_cmpR op_lt (pv 1) pe_int (nomark _)) (nomark _)) (pss_one (ps_ret (pe_un un_neg (pv 2)))) pss_nil)
      (pss_one (ps_ret (pv 2))))), ?_⟩
    walk_at "go0"
    walk_at "go"
    have h1 : ab j = (j.natAbs : Int) := ab_nat j
    refine g_I (show CDivW _ (ab j) from wide_div (b := 140) (by omega) (by rw [h1]; exact w40 hj2) (by decide) (by decide)) ?_
    walk_at "go"
    unfold qt at q
    refine g_ndec (fun h => ?_) (fun h => ?_)
    · rw [if_neg h] at q
      walk_at "go"
      exact q
    · rw [if_pos h] at q
      walk_at "go"
      exact q
theorem ok_arithmetic (T : Txt K mg) : FnOk P w K mg base CX0 2 T.a_arithmetic T.d_arithmetic ["operator", "first", "second"] spArith := by
  have G_bounded : FnOk P w K mg base CX0 1 _ _ _ _ := ok_bounded T
  have G_quotient : FnOk P w K mg base CX0 1 _ _ _ _ := ok_quotient T
  refine T.F_arithmetic.ok sc_arithmetic (fun vs H Q E h => ?_) (fun cdv A outer s H vs Q E hr h => ?_)
  · obtain ⟨op, x, y, rfl, _⟩ := h
    rfl
  · obtain ⟨op, x, y, rfl, h⟩ := h
    refine ⟨_, (pss_cons (ps_if (PW.pt (pw_or (pt_cmpR o_isN (pv 1) pe_non (nomark _)) (pw_or1 (pt_cmpR o_isN (pv 2) pe_non (nomark _))))) (pss_one (ps_ret pe_non)) pss_nil)
      (pss_cons (ps_if (pt_cmpR op_eq (pv 0) pe_str (nomark _)) (pss_cons (ps_set (i := 3) sc_arithmetic.nd rfl (.inl rfl) (pe_op o_addS (pv 1) (pv 2)))
      (pss_cons (ps_if (pt_cmpR op_gt (pe_callB c_lenS (by rfl) T.z_len bt_len (pa_cons (pv 3) pa_nil)) (pe_glob (by rfl) T.g_LONGEST_TEXT T.r_LONGEST_TEXT) (nomark _)) (pss_one (ps_ret pe_non)) pss_nil)
      (pss_one (ps_ret (pv 3))))) pss_nil)
      (pss_cons (ps_if (pt_cmpR op_eq (pv 0) pe_str (nomark _)) (pss_one (ps_ret (pe_call G_bounded (hr.mono (by decide)) (by rfl) T.g_bounded T.F_bounded.kp T.b_bounded .nil pass0 (pa_cons (pe_op op_add (pv 1) (pv 2)) pa_nil)))) pss_nil)
      (pss_cons (ps_if (pt_cmpR op_eq (pv 0) pe_str (nomark _)) (pss_one (ps_ret (pe_call G_bounded (hr.mono (by decide)) (by rfl) T.g_bounded T.F_bounded.kp T.b_bounded .nil pass0 (pa_cons (pe_op op_sub (pv 1) (pv 2)) pa_nil)))) pss_nil)
      (pss_cons (ps_if (pt_cmpR op_eq (pv 0) pe_str (nomark _)) (pss_one (ps_ret (pe_call G_bounded (hr.mono (by decide)) (by rfl) T.g_bounded T.F_bounded.kp T.b_bounded .nil pass0 (pa_cons (pe_op op_mulW (pv 1) (pv 2)) pa_nil)))) pss_nil)
      (pss_cons (ps_if (pt_cmpR op_eq (pv 2) pe_int (nomark _)) (pss_one (ps_ret pe_non)) pss_nil)
      (pss_cons (ps_if (pt_cmpR op_eq (pv 0) pe_str (nomark _)) (pss_one (ps_ret (pe_call G_quotient (hr.mono (by decide)) (by rfl) T.g_quotient T.F_quotient.kp T.b_quotient .nil pass0 (pa_cons (pv 1) (pa_cons (pv 2) pa_nil))))) pss_nil)
      (pss_one (ps_ret (pe_op op_sub (pv 1) (pe_op op_mulW (pe_call G_quotient (hr.mono (by decide)) (by rfl) T.g_quotient T.F_quotient.kp T.b_quotient .nil pass0 (pa_cons (pv 1) (pa_cons (pv 2) pa_nil))) (pv 2)))))))))))), ?_⟩
    walk_at "go0"
    rcases h with ⟨hn, hx, hy, q⟩ | ⟨i, j, rfl, rfl, hi, hj, ho, q⟩ | ⟨a, b, rfl, rfl, la, lb, rfl, q⟩
    · rcases hn with rfl | rfl
      · walk_at "go"
        exact q
      · rcases hx with (rfl | ⟨i, rfl, _⟩) | (rfl | ⟨z, rfl, _⟩) <;> (walk_at "go"; exact q)
    · unfold arI at q
      walk_at "go"
      refine g_decF ho ?_
      walk_at "go"
      refine g_dec (fun e => ?_) (fun e => ?_)
      · rw [if_pos e] at q
        walk_at "go"
        exact ⟨_, rfl, q⟩
      rw [if_neg e] at q
      walk_at "go"
      refine g_dec (fun e => ?_) (fun e => ?_)
      · rw [if_pos e] at q
        walk_at "go"
        exact ⟨_, rfl, q⟩
      rw [if_neg e] at q
      walk_at "go"
      refine g_dec (fun e => ?_) (fun e => ?_)
      · rw [if_pos e] at q
        walk_at "go"
        refine g_I (wide_mul (w40 hi) (w40 hj) (by decide) (by decide) (by decide)) ?_
        walk_at "go"
        exact ⟨_, rfl, q⟩
      rw [if_neg e] at q
      walk_at "go"
      refine g_dec (fun e => ?_) (fun ej => ?_)
      · rw [if_pos e] at q
        walk_at "go"
        exact q
      rw [if_neg ej] at q
      walk_at "go"
      refine g_dec (fun e => ?_) (fun e => ?_)
      · rw [if_pos e] at q
        walk_at "go"
        exact ⟨_, _, rfl, ej, hj, q⟩
      rw [if_neg e] at q
      walk_at "go"
      refine ⟨_, _, rfl, ej, hj, ?_⟩
      walk_at "go"
      refine g_I (wide_mul (w40 (qt_small hi)) (w40 hj) (by decide) (by decide) (by decide)) ?_
      walk_at "go"
      exact q
    · walk_at "go"
      refine g_addS (sz (by omega)) ?_
      walk_at "go"
      have el : (a ++ b).length = a.length + b.length := by rw [← cd_len, cd_app, List.length_append, cd_len, cd_len]
      refine g_lenS (sz (by omega)) ?_
      walk_at "go"
      rw [el]
      replace q : Q (if a.length + b.length > 2000 then .non else .str (a ++ b)) H := q
      refine g_dec (fun e => ?_) (fun e => ?_)
      · rw [if_pos (by omega)] at q
        walk_at "go"
        exact q
      · rw [if_neg (by omega)] at q
        walk_at "go"
        exact q
theorem ok_divides (T : Txt K mg) : FnOk P w K mg base CX0 1 T.a_divides T.d_divides ["_law_first", "_law_second", "_law_quotient", "_law_remainder"] spDivides := by
  refine T.F_divides.ok sc_divides (fun vs H Q E h => ?_) (fun cdv A outer s H vs Q E hr h => ?_)
  · obtain ⟨i, j, q, r, rfl, _⟩ := h
    rfl
  · obtain ⟨i, j, qu, r, rfl, hi, hj, hq, e1, e2, e3, q⟩ := h
    refine ⟨_, (pss_cons (ps_if (PW.pt (pw_or (pt_not (pt_val (pe_callB (k_isi (K := K)) (by rfl) T.z_isinstance bt_isinstance (pa_cons (pv 2) (pa_cons (pe_bltn (v := .ty "int") (by rfl) T.z_int bt_int rfl) pa_nil))))) (pw_or1 (pt_val (pe_callB (k_isi (K := K)) (by rfl) T.z_isinstance bt_isinstance (pa_cons (pv 2) (pa_cons (pe_bltn (v := .ty "bool") (by rfl) T.z_bool bt_bool rfl) pa_nil))))))) (pss_one (ps_ret pe_bl)) pss_nil)
      (pss_cons (ps_if (PW.pt (pw_or (pt_not (pt_val (pe_callB (k_isi (K := K)) (by rfl) T.z_isinstance bt_isinstance (pa_cons (pv 3) (pa_cons (pe_bltn (v := .ty "int") (by rfl) T.z_int bt_int rfl) pa_nil))))) (pw_or1 (pt_val (pe_callB (k_isi (K := K)) (by rfl) T.z_isinstance bt_isinstance (pa_cons (pv 3) (pa_cons (pe_bltn (v := .ty "bool") (by rfl) T.z_bool bt_bool rfl) pa_nil))))))) (pss_one (ps_ret pe_bl)) pss_nil)
      (pss_cons (ps_if (PW.pt (pw_or (pt_cmpR op_ne (pe_op op_add (pe_op op_mulW (pv 2) (pv 1)) (pv 3)) (pv 0) (nomark _)) (pw_or1 (pt_cmpR op_ge (pe_callB c_abs (by rfl) T.z_abs bt_abs (pa_cons (pv 3) pa_nil)) (pe_callB c_abs (by rfl) T.z_abs bt_abs (pa_cons (pv 1) pa_nil)) (nomark _))))) (pss_one (ps_ret pe_bl)) pss_nil)
      (pss_one (ps_ret (pe_or (pe_cmpR op_eq (pv 3) pe_int (nomark _)) (pe_one (pe_cmpR op_eq (pe_cmpR op_lt (pv 3) pe_int (nomark _)) (pe_cmpR op_lt (pv 0) pe_int (nomark _)) (nomark _))))))))), ?_⟩
    walk_at "go0"
    walk_at "go"
    refine g_I (wide_mul (w40 hq) (w40 hj) (by decide) (by decide) (by decide)) ?_
    walk_at "go"
    refine g_ndecF e1 ?_
    walk_at "go"
    refine g_decF (show ¬ ab j ≤ ab r by omega) ?_
    walk_at "go"
    refine g_dec (fun h => ?_) (fun h => ?_)
    · walk_at "go"
      exact q
    · walk_at "go"
      have hd : decide (r < 0) = decide (i < 0) := by
        rcases e3 with e3 | e3
        · exact absurd e3 h
        · exact decide_eq_decide.mpr e3
      rw [decide_eq_true hd]
      exact q
theorem ok_integer (T : Txt K mg) : FnOk P w K mg base CX0 2 T.a_integer T.d_integer ["_law_state"] (spInteger K) := by
  have G_next : FnOk P w K mg base CX0 1 _ _ _ _ := ok_next T
  refine T.F_integer.ok sc_integer (fun vs H Q E h => ?_) (fun cdv A outer s H vs Q E hr h => ?_)
  · obtain ⟨s, a, ns, rfl, _⟩ := h
    rfl
  · obtain ⟨p, a, ns, rfl, S, q⟩ := h
    refine ⟨_, (pss_cons (ps_set (i := 1) sc_integer.nd rfl (.inl rfl) (pe_op op_sub pe_int (pe_op op_mul pe_int (pe_call G_next (hr.mono (by decide)) (by rfl) T.g_next T.F_next.kp T.b_next .nil pass0 (pa_cons (pv 0) (pa_cons pe_int pa_nil))))))
      (pss_cons (ps_set (i := 2) sc_integer.nd rfl (.inl rfl) (pe_call G_next (hr.mono (by decide)) (by rfl) T.g_next T.F_next.kp T.b_next .nil pass0 (pa_cons (pv 0) (pa_cons pe_int pa_nil))))
      (pss_cons (ps_if (pt_cmpR op_eq (pv 2) pe_int (nomark _)) (pss_one (ps_ret pe_non)) pss_nil)
      (pss_cons (ps_if (pt_cmpR op_lt (pv 2) pe_int (nomark _)) (pss_one (ps_ret (pe_op op_mul (pv 1) (pe_call G_next (hr.mono (by decide)) (by rfl) T.g_next T.F_next.kp T.b_next .nil pass0 (pa_cons (pv 0) (pa_cons pe_int pa_nil)))))) pss_nil)
      (pss_cons (ps_if (pt_cmpR op_eq (pv 2) pe_int (nomark _)) (pss_one (ps_ret (pe_op op_mul (pv 1) (pe_op op_sub (pe_op op_add (pe_op op_pow pe_int pe_int) (pe_call G_next (hr.mono (by decide)) (by rfl) T.g_next T.F_next.kp T.b_next .nil pass0 (pa_cons (pv 0) (pa_cons pe_int pa_nil)))) pe_int)))) pss_nil)
      (pss_cons (ps_if (pt_cmpR op_eq (pv 2) pe_int (nomark _)) (pss_one (ps_ret (pe_op op_mul (pv 1) (pe_op op_sub (pe_op op_sub (pe_op op_pow pe_int pe_int) pe_int) (pe_call G_next (hr.mono (by decide)) (by rfl) T.g_next T.F_next.kp T.b_next .nil pass0 (pa_cons (pv 0) (pa_cons pe_int pa_nil))))))) pss_nil)
      (pss_cons (ps_if (pt_cmpR op_eq (pv 2) pe_int (nomark _)) (pss_one (ps_ret (pe_op op_mul (pv 1) (pe_op op_sub (pe_op op_add (pe_op op_mul pe_int (pe_op op_pow pe_int pe_int)) (pe_call G_next (hr.mono (by decide)) (by rfl) T.g_next T.F_next.kp T.b_next .nil pass0 (pa_cons (pv 0) (pa_cons pe_int pa_nil)))) pe_int)))) pss_nil)
      (pss_one (ps_ret (pe_op op_mul (pv 1) (pe_call G_next (hr.mono (by decide)) (by rfl) T.g_next T.F_next.kp T.b_next .nil pass0 (pa_cons (pv 0) (pa_cons (pe_ix (k_ixL (K := K)) (pe_lst (pa_cons (pe_op op_pow pe_int pe_int) (pa_cons (pe_op op_pow pe_int pe_int) (pa_cons (pe_op op_pow pe_int pe_int) pa_nil)))) (pe_call G_next (hr.mono (by decide)) (by rfl) T.g_next T.F_next.kp T.b_next .nil pass0 (pa_cons (pv 0) (pa_cons pe_int pa_nil))) (fun _ _ => rfl)) pa_nil))))))))))))), ?_⟩
    have e40 : (10 : Int) ^ (40 : Int).toNat = 10 ^ 40 := by decide
    have e39 : (10 : Int) ^ (39 : Int).toNat = 10 ^ 39 := by decide
    have e20 : (10 : Int) ^ (20 : Int).toNat = 10 ^ 20 := by decide
    walk_at "go0"
    walk_at "go"
    refine ⟨p, a, ns, 2, rfl, S, by decide, by decide, fun i v r sg k g0 g1 => ?_⟩
    have S1 := S.upd k
    have b1 : But p H (upd H p (StO a i v r)) := (But.refl p H).upd
    generalize upd H p (StO a i v r) = H1 at S1 b1
    walk_at "go"
    refine ⟨p, a, ns, 8, rfl, S1, by decide, by decide, fun i v r x k h0 h1 => ?_⟩
    have S2 := S1.upd k
    have b2 : But p H (upd H1 p (StO a i v r)) := b1.upd
    generalize upd H1 p (StO a i v r) = H2 at S2 b2
    have fin : ∀ n : Int, n.natAbs < 10 ^ 40 → In40 (.int ((1 - 2 * sg) * n)) := fun n hn => by
      refine .inr ⟨_, rfl, ?_⟩
      rw [Int.natAbs_mul]
      obtain e | e : sg = 0 ∨ sg = 1 := by omega
      · subst e; rw [show (1 - 2 * (0 : Int)).natAbs = 1 from by decide]; omega
      · subst e; rw [show (1 - 2 * (1 : Int)).natAbs = 1 from by decide]; omega
    walk_at "go"
    refine g_dec (fun e => ?_) (fun e => ?_)
    · walk_at "go"
      exact q _ _ (.inl rfl) S2 b2
    walk_at "go"
    refine g_dec (fun e => ?_) (fun e => ?_)
    · walk_at "go"
      refine ⟨p, a, ns, 12, rfl, S2, by decide, by decide, fun i v r y k y0 y1 => ?_⟩
      walk_at "go"
      refine g_I (.inl ⟨by omega, by omega⟩) ?_
      exact q _ _ (fin y (by omega)) (S2.upd k) b2.upd
    walk_at "go"
    refine g_dec (fun e => ?_) (fun e => ?_)
    · walk_at "go"
      refine ⟨p, a, ns, 3, rfl, S2, by decide, by decide, fun i v r y k y0 y1 => ?_⟩
      walk_at "go"
      rw [e20]
      refine g_I (.inl ⟨by omega, by omega⟩) ?_
      exact q _ _ (fin _ (by omega)) (S2.upd k) b2.upd
    walk_at "go"
    refine g_dec (fun e => ?_) (fun e => ?_)
    · walk_at "go"
      refine ⟨p, a, ns, 3, rfl, S2, by decide, by decide, fun i v r y k y0 y1 => ?_⟩
      walk_at "go"
      rw [e40]
      refine g_I (.inl ⟨by omega, by omega⟩) ?_
      exact q _ _ (fin _ (by omega)) (S2.upd k) b2.upd
    walk_at "go"
    refine g_dec (fun e => ?_) (fun e => ?_)
    · walk_at "go"
      refine ⟨p, a, ns, 3, rfl, S2, by decide, by decide, fun i v r y k y0 y1 => ?_⟩
      walk_at "go"
      rw [e39]
      refine g_I (.inl ⟨by omega, by omega⟩) ?_
      exact q _ _ (fin _ (by omega)) (S2.upd k) b2.upd
    walk_at "go"
    intro l nl
    have S3 := StAt.new (o := .lst [.int (10 ^ (6 : Int).toNat), .int (10 ^ (21 : Int).toNat), .int (10 ^ (40 : Int).toNat)]) S2 nl
    have b3 := But.new (o := .lst [.int (10 ^ (6 : Int).toNat), .int (10 ^ (21 : Int).toNat), .int (10 ^ (40 : Int).toNat)]) b2 nl
    have hl3 : (upd H2 l (.lst [.int (10 ^ (6 : Int).toNat), .int (10 ^ (21 : Int).toNat), .int (10 ^ (40 : Int).toNat)])) l = some (.lst [.int (10 ^ (6 : Int).toNat), .int (10 ^ (21 : Int).toNat), .int (10 ^ (40 : Int).toNat)]) := upd_same
    have nlp := S2.nes nl
    generalize upd H2 l (.lst [.int (10 ^ (6 : Int).toNat), .int (10 ^ (21 : Int).toNat), .int (10 ^ (40 : Int).toNat)]) = H3 at S3 b3 hl3 ⊢
    walk_at "go"
    refine ⟨p, a, ns, 3, rfl, S3, by decide, by decide, fun i v r x k h0 h1 => ?_⟩
    have S4 := S3.upd k
    have b4 : But p H (upd H3 p (StO a i v r)) := b3.upd
    have hl4 : (upd H3 p (StO a i v r)) l = some (.lst [.int (10 ^ (6 : Int).toNat), .int (10 ^ (21 : Int).toNat), .int (10 ^ (40 : Int).toNat)]) := (upd_ne nlp).trans hl3
    generalize upd H3 p (StO a i v r) = H4 at S4 b4 hl4 ⊢
    obtain ⟨m, hm, m0, m1, m2⟩ : ∃ m : Int, atI [V.int (10 ^ (6 : Int).toNat), V.int (10 ^ (21 : Int).toNat), V.int (10 ^ (40 : Int).toNat)] x = some (.int m) ∧ 0 < m ∧ m.natAbs < 2 ^ 140 ∧ m ≤ 10 ^ 40 := by
      obtain e | e | e : x = 0 ∨ x = 1 ∨ x = 2 := by omega
      · subst e; exact ⟨_, rfl, by decide, by decide, by decide⟩
      · subst e; exact ⟨_, rfl, by decide, by decide, by decide⟩
      · subst e; exact ⟨_, rfl, by decide, by decide, by decide⟩
    walk_at "go"
    refine ⟨p, a, ns, m, rfl, S4, m0, m1, fun i v r z k h0 h1 => ?_⟩
    walk_at "go"
    refine g_I (.inl ⟨by omega, by omega⟩) ?_
    exact q _ _ (fin _ (by omega)) (S4.upd k) b4.upd
theorem ok_string (T : Txt K mg) : FnOk P w K mg base CX0 2 T.a_string T.d_string ["_law_state"] (spString K) := by
  have G_next : FnOk P w K mg base CX0 1 _ _ _ _ := ok_next T
  have G_char : FnOk P w K mg base CX0 1 _ _ _ _ := ok_char T
  refine T.F_string.ok sc_string (fun vs H Q E h => ?_) (fun cdv A outer s H vs Q E hr h => ?_)
  · obtain ⟨s, a, ns, rfl, _⟩ := h
    rfl
  · obtain ⟨p, a, ns, rfl, S, q⟩ := h
    refine ⟨_, (pss_cons (ps_set (i := 1) sc_string.nd rfl (.inl rfl) (pe_call G_next (hr.mono (by decide)) (by rfl) T.g_next T.F_next.kp T.b_next .nil pass0 (pa_cons (pv 0) (pa_cons pe_int pa_nil))))
      (pss_cons (ps_if (pt_cmpR op_eq (pv 1) pe_int (nomark _)) (pss_one (ps_ret pe_non)) pss_nil)
      (pss_cons (ps_set (i := 2) sc_string.nd rfl (.inl rfl) (k_join (K := K) pe_str (pe_lc (own := [("_law_k", 3)]) (g := gName 3) (tt := tYes) rfl sc_string.nd (pi_range1 (by rfl) T.z_range (pa_cons (pe_call G_next (hr.mono (by decide)) (by rfl) T.g_next T.F_next.kp T.b_next .nil pass0 (pa_cons (pv 0) (pa_cons pe_int pa_nil))) pa_nil)) (blkOk_by (own := [("_law_k", 3)]) (N := ["_law_state", "_law_pick", "_law_text", "_law_k"]) (sc := defScope s_string) (by decide +kernel)) (fun _ _ _ _ _ => (pg_name (i := 3) sc_string.nd rfl (.inl rfl))) (fun _ _ _ _ _ => pts_nil) (fun _ _ _ _ _ => (pe_call G_char (hr.mono (by decide)) (by rfl) T.g_char T.F_char.kp T.b_char .nil pass0 (pa_cons (pe_call G_next (hr.mono (by decide)) (by rfl) T.g_next T.F_next.kp T.b_next .nil pass0 (pa_cons (pv 0) (pa_cons pe_int pa_nil))) pa_nil))))))
      (pss_cons (ps_if (pt_cmpR op_eq (pv 1) pe_int (nomark _)) (pss_one (ps_ret (pe_op o_addS (pv 2) (pe_op o_mulS pe_str pe_int)))) pss_nil)
      (pss_cons (ps_if (pt_cmpR op_eq (pv 1) pe_int (nomark _)) (pss_one (ps_ret (pe_op o_mulS pe_str (pe_op op_add pe_int (pe_call G_next (hr.mono (by decide)) (by rfl) T.g_next T.F_next.kp T.b_next .nil pass0 (pa_cons (pv 0) (pa_cons pe_int pa_nil))))))) pss_nil)
      (pss_one (ps_ret (pv 2)))))))), ?_⟩
    walk_at "go0"
    walk_at "go"
    refine ⟨p, a, ns, 6, rfl, S, by decide, by decide, fun i v r pk k g0 g1 => ?_⟩
    have S1 := S.upd k
    have b1 : But p H (upd H p (StO a i v r)) := (But.refl p H).upd
    generalize upd H p (StO a i v r) = H1 at S1 b1
    walk_at "go"
    refine g_dec (fun e => ?_) (fun e => ?_)
    · walk_at "go"
      exact q _ _ (.inl rfl) S1 b1
    walk_at "go"
    refine ⟨p, a, ns, 4, rfl, S1, by decide, by decide, fun i v r y k h0 h1 => ?_⟩
    have S2 := S1.upd k
    have b2 : But p H (upd H1 p (StO a i v r)) := b1.upd
    generalize upd H1 p (StO a i v r) = H2 at S2 b2
    walk_at "go"
    intro D nD
    have nDp := S2.nes nD
    have nDa := S2.nea nD
    refine lc_range (lo := 0) (n := y.toNat) (fun i H' => StAt K H' p a ns ∧ But p H H' ∧ ∃ ys : List Str, H' D = some (.lst (ys.map V.str)) ∧ ys.length = i ∧ ∀ z ∈ ys, z.length = 1)
      ⟨S2.new nD, b2.new nD, [], upd_same, rfl, fun _ z => nomatch z⟩ ?_ ?_
    · rintro i H3 hi ⟨S3, b3, ys, hD, hl, hz⟩
      walk_at "go"
      refine g_wipe rfl ?_
      walk_at "go"
      refine ⟨p, a, ns, 95, rfl, S3, by decide, by decide, fun i' v r z k h0 h1 => ?_⟩
      walk_at "go"
      refine ⟨z, rfl, fun c hc => ?_⟩
      refine ⟨ys.map V.str, (upd_ne nDp).trans hD, szlt (by rw [List.length_map]; omega), (S3.upd k).put nDp nDa, b3.upd.put (b2.free nDp nD), ys ++ [⟨#[c]⟩], ?_, ?_, ?_⟩
      · rw [upd_same, List.map_append]; rfl
      · rw [List.length_append, hl]; rfl
      · intro z hz'
        rcases List.mem_append.mp hz' with h | h
        · exact hz z h
        · rw [List.mem_singleton.mp h]; rfl
    · rintro H3 ⟨S3, b3, ys, hD, hl, hz⟩
      have hs : (ys.map (·.length)).sum = ys.length := by
        clear hl hD
        induction ys with
        | nil => rfl
        | cons z r ih =>
          rw [List.map_cons, List.sum_cons, ih (fun u hu => hz u (List.mem_cons_of_mem _ hu)), hz z List.mem_cons_self, List.length_cons]
          omega
      refine ⟨"", D, ys, rfl, rfl, .inl (.inl (.inl hD)), ?_, ?_⟩
      · rw [hs]
        show ys.length + ys.length * 0 ≤ 16777216
        omega
      have lz : (Txt.join "" ys).length ≤ 4 := by rw [join_len, hs]; omega
      generalize Txt.join "" ys = tx at lz ⊢
      walk_at "go"
      refine g_dec (fun e => ?_) (fun e => ?_)
      · walk_at "go"
        refine ⟨_, 500, rfl, rfl, by decide, by decide, by decide +kernel, by decide +kernel, ?_⟩
        walk_at "go"
        have lr : (repS "ab" 500).length = 1000 := by rw [repS_len]; decide +kernel
        refine g_addS (sz (by omega)) ?_
        refine q _ _ (.inr ⟨_, rfl, ?_⟩) S3 b3
        rw [← cd_len, cd_app, List.length_append, cd_len, cd_len]
        omega
      walk_at "go"
      refine g_dec (fun e => ?_) (fun e => ?_)
      · walk_at "go"
        refine ⟨p, a, ns, 1011, rfl, S3, by decide, by decide, fun i' v r z k h0 h1 => ?_⟩
        walk_at "go"
        refine ⟨_, (990 + z).toNat, rfl, by rw [Int.toNat_of_nonneg (by omega)], by omega, by omega, by decide +kernel, by decide +kernel, ?_⟩
        refine q _ _ (.inr ⟨_, rfl, ?_⟩) (S3.upd k) b3.upd
        rw [repS_len, show ("y" : Str).length = 1 from by decide +kernel]
        omega
      walk_at "go"
      exact q _ _ (.inr ⟨_, rfl, by omega⟩) S3 b3
def OP5 : List Str := ["+", "-", "*", "/", "mod"]
def arV (op : Str) : V → V → V
  | .int i, .int j => arI op i j
  | _, _ => .non
theorem bd_flat (n : Int) : flatV (bd n) = true := by
  unfold bd
  by_cases h : B40 ≤ (if n < 0 then -n else n)
  · rw [if_pos h]; rfl
  · rw [if_neg h]; rfl
theorem op5_ne {op : Str} (h : op ∈ OP5) : op ≠ "||" := by
  simp only [OP5, List.mem_cons, List.not_mem_nil, or_false] at h
  rcases h with rfl | rfl | rfl | rfl | rfl <;> decide +kernel
theorem op5_map (i j : Int) : OP5.map (fun op => arV op (.int i) (.int j)) = [bd (i + j), bd (i - j), bd (i * j), if j = 0 then .non else .int (qt i j), if j = 0 then .non else .int (i - qt i j * j)] := by
  have n1 : ¬ ("-" : Str) = "+" := by decide +kernel
  have n2 : ¬ ("*" : Str) = "+" := by decide +kernel
  have n3 : ¬ ("*" : Str) = "-" := by decide +kernel
  have n4 : ¬ ("/" : Str) = "+" := by decide +kernel
  have n5 : ¬ ("/" : Str) = "-" := by decide +kernel
  have n6 : ¬ ("/" : Str) = "*" := by decide +kernel
  have n7 : ¬ ("mod" : Str) = "+" := by decide +kernel
  have n8 : ¬ ("mod" : Str) = "-" := by decide +kernel
  have n9 : ¬ ("mod" : Str) = "*" := by decide +kernel
  have n10 : ¬ ("mod" : Str) = "/" := by decide +kernel
  show [arI "+" i j, arI "-" i j, arI "*" i j, arI "/" i j, arI "mod" i j] = _
  unfold arI
  rw [if_pos rfl, if_neg n1, if_pos rfl, if_neg n2, if_neg n3, if_pos rfl, if_neg n4, if_neg n5, if_neg n6, if_pos rfl, if_neg n7, if_neg n8, if_neg n9, if_neg n10]
theorem dp_nons {K : PySem.W.Frag} {H : Hp} : ∀ n : Nat, DpAll K H (List.replicate n .non) (List.replicate n .none)
  | 0 => .nil
  | n + 1 => .cons .non (dp_nons n)
theorem ok_numbers (T : Txt K mg) : FnOk P w K mg base CX0 3 T.a_numbers T.d_numbers ["_law_first", "_law_second"] spNumbers := by
  have G_arithmetic : FnOk P w K mg base CX0 2 _ _ _ _ := ok_arithmetic T
  have G_lbounded : FnOk P w K mg base CX0 1 _ _ _ _ := ok_lbounded T
  have G_same : FnOk P w K mg base CX0 2 _ _ _ _ := ok_sameL T
  have G_divides : FnOk P w K mg base CX0 1 _ _ _ _ := ok_divides T
  refine T.F_numbers.ok sc_numbers (fun vs H Q E h => ?_) (fun cdv A outer s H vs Q E hr h => ?_)
  · obtain ⟨x, y, rfl, _⟩ := h
    rfl
  · obtain ⟨x, y, rfl, hx, hy, q⟩ := h
    refine ⟨_, (pss_cons (ps_setLc (i := 2) (own := [("_law_operator", 4)]) (g := gName 4) (tt := tYes) rfl sc_numbers.nd rfl rfl (sw_true rfl rfl rfl (by decide +kernel)) (k_piL (K := K) (pe_lst (pa_cons pe_str (pa_cons pe_str (pa_cons pe_str (pa_cons pe_str (pa_cons pe_str pa_nil))))))) (blkOk_by (own := [("_law_operator", 4)]) (N := ["_law_first", "_law_second", "_law_actual", "_law_expected", "_law_operator"]) (sc := defScope s_numbers) (by decide +kernel)) (fun _ _ _ _ _ => (pg_name (i := 4) sc_numbers.nd rfl (.inl rfl))) (fun _ _ _ _ _ => pts_nil) (fun _ _ _ _ _ => (pe_call G_arithmetic (hr.mono (by decide)) (by rfl) T.g_arithmetic T.F_arithmetic.kp T.b_arithmetic .nil pass0 (pa_cons (pv 4) (pa_cons (pv 0) (pa_cons (pv 1) pa_nil))))))
      (pss_cons (ps_if (PW.pt (pw_or (pt_cmpR o_isN (pv 0) pe_non (nomark _)) (pw_or1 (pt_cmpR o_isN (pv 1) pe_non (nomark _))))) (pss_one (ps_ret (pe_cmpR (k_eqD (K := K) hr.units) (pv 2) (pe_lst (pa_cons pe_non (pa_cons pe_non (pa_cons pe_non (pa_cons pe_non (pa_cons pe_non pa_nil)))))) (nomark _)))) pss_nil)
      (pss_cons (ps_set (i := 3) sc_numbers.nd rfl (.inl rfl) (pe_lst (pa_cons (pe_call G_lbounded (hr.mono (by decide)) (by rfl) T.g_lbounded T.F_lbounded.kp T.b_lbounded .nil pass0 (pa_cons (pe_op op_add (pv 0) (pv 1)) pa_nil)) (pa_cons (pe_call G_lbounded (hr.mono (by decide)) (by rfl) T.g_lbounded T.F_lbounded.kp T.b_lbounded .nil pass0 (pa_cons (pe_op op_sub (pv 0) (pv 1)) pa_nil)) (pa_cons (pe_call G_lbounded (hr.mono (by decide)) (by rfl) T.g_lbounded T.F_lbounded.kp T.b_lbounded .nil pass0 (pa_cons (pe_op op_mulW (pv 0) (pv 1)) pa_nil)) pa_nil)))))
      (pss_cons (ps_if (pt_not (pt_val (pe_call G_same (hr.mono (by decide)) (by rfl) T.g_same T.F_same.kp T.b_same .nil pass0 (pa_cons (pe_slice (k_slL (K := K)) (pv 2) po_none (po_some pe_int)) (pa_cons (pv 3) pa_nil))))) (pss_one (ps_ret pe_bl)) pss_nil)
      (pss_cons (ps_if (pt_cmpR op_eq (pv 1) pe_int (nomark _)) (pss_one (ps_ret (pe_and (pe_cmpR o_isN (pe_ix (k_ixL (K := K)) (pv 2) pe_int (fun _ _ => rfl)) pe_non (nomark _)) (pe_one (pe_cmpR o_isN (pe_ix (k_ixL (K := K)) (pv 2) pe_int (fun _ _ => rfl)) pe_non (nomark _)))))) pss_nil)
      (pss_one (ps_ret (pe_call G_divides (hr.mono (by decide)) (by rfl) T.g_divides T.F_divides.kp T.b_divides .nil pass0 (pa_cons (pv 0) (pa_cons (pv 1) (pa_cons (pe_ix (k_ixL (K := K)) (pv 2) pe_int (fun _ _ => rfl)) (pa_cons (pe_ix (k_ixL (K := K)) (pv 2) pe_int (fun _ _ => rfl)) pa_nil)))))))))))), ?_⟩
    walk_at "go0"
    walk_at "go"
    intro ol nol
    have so : Same H (upd H ol (.lst (OP5.map V.str))) := Same.new (Same.refl _) nol
    have ho : (upd H ol (.lst (OP5.map V.str))) ol = some (.lst (OP5.map V.str)) := upd_same
    generalize hH1 : upd H ol (.lst (OP5.map V.str)) = H1 at so ho
    rw [show upd H ol (.lst [.str "+", .str "-", .str "*", .str "/", .str "mod"]) = H1 from hH1]
    walk_at "go"
    intro D nD
    have nDo : ol ≠ D := ne_of_none ho nD
    refine lc_list (K := K) (a := ol) (xs := OP5.map V.str) (fun i H' => Same H1 H' ∧ H' D = some (.lst ((OP5.take i).map fun op => arV op x y))) ⟨Same.new (Same.refl _) nD, upd_same⟩ (fun _ _ _ ⟨sm, _⟩ => SqL.of (sm _ _ ho)) ?_ ?_
    · rintro i v H2 hi ⟨sm, hD⟩
      obtain ⟨op, hop, rfl⟩ : ∃ op, OP5[i]? = some op ∧ v = .str op := by
        rw [List.getElem?_map] at hi
        cases e : OP5[i]? with
        | none => rw [e] at hi; cases hi
        | some op => rw [e] at hi; exact ⟨op, rfl, (Option.some.inj hi).symm⟩
      have hmem := List.mem_of_getElem? hop
      walk_at "go"
      refine g_wipe rfl ?_
      walk_at "go"
      have et : OP5.take (i + 1) = OP5.take i ++ [op] := by rw [List.take_add_one, hop]; rfl
      have fin : ∃ acc, H2 D = some (.lst acc) ∧ acc.length < sizeLine ∧ Same H1 (upd H2 D (.lst (acc ++ [arV op x y]))) ∧ (upd H2 D (.lst (acc ++ [arV op x y]))) D = some (.lst ((OP5.take (i + 1)).map fun op => arV op x y)) := by
        refine ⟨_, hD, szlt (by rw [List.length_map, List.length_take]; have : OP5.length = 5 := rfl; omega), fun b o e => ?_, ?_⟩
        · rw [upd_ne (ne_of_none e nD)]
          exact sm b o e
        · rw [upd_same, et, List.map_append]; rfl
      refine ⟨op, x, y, rfl, ?_⟩
      rcases hx with rfl | ⟨a, rfl, ha⟩
      · exact .inl ⟨.inl rfl, .inl (.inl rfl), .inl hy, fin⟩
      rcases hy with rfl | ⟨b, rfl, hb⟩
      · exact .inl ⟨.inr rfl, .inl (.inr ⟨_, rfl, ha⟩), .inl (.inl rfl), fin⟩
      exact .inr (.inl ⟨a, b, rfl, rfl, ha, hb, op5_ne hmem, fin⟩)
    rintro H2 ⟨sm, hD⟩
    rw [show (OP5.map V.str).length = 5 from rfl, show OP5.take 5 = OP5 from rfl] at hD
    have s2 : Same H H2 := so.trans sm
    by_cases hn : x = .non ∨ y = .non
    · have hD' : H2 D = some (.lst [.non, .non, .non, .non, .non]) := by
        rw [hD]
        rcases hn with rfl | rfl
        · rfl
        · cases x <;> rfl
      have fin : ∀ H3, Same H2 H3 → Q (.bl true) H3 := fun H3 s3 => q H3 (s2.trans s3)
      walk_at "go"
      have tail : ∀ l, H2 l = none → rEqD K (.ref D) (.ref l) (upd H2 l (.lst [.non, .non, .non, .non, .non])) Q := fun l nl => by
        refine ⟨.list (List.replicate 5 .none), .list (List.replicate 5 .none), .lst (.inl (.inl ((upd_ne (ne_of_none hD' nl)).trans hD'))) (dp_nons 5), .lst (.inl (.inl upd_same)) (dp_nons 5), by decide, by decide, ?_⟩
        rw [show PyData.eqv (.list (List.replicate 5 .none)) (.list (List.replicate 5 .none)) = true from by decide]
        exact fin _ (Same.new (Same.refl _) nl)
      rcases hn with rfl | rfl
      · walk_at "go"
        intro l nl
        walk_at "go"
        exact tail l nl
      · refine g_dec (fun _ => ?_) (fun _ => ?_)
        · walk_at "go"
          intro l nl
          walk_at "go"
          exact tail l nl
        · walk_at "go"
          intro l nl
          walk_at "go"
          exact tail l nl
    obtain ⟨a, rfl, ha⟩ : ∃ a : Int, x = .int a ∧ a.natAbs < 10 ^ 40 := by
      rcases hx with rfl | h
      · exact absurd (.inl rfl) hn
      · exact h
    obtain ⟨b, rfl, hb⟩ : ∃ a : Int, y = .int a ∧ a.natAbs < 10 ^ 40 := by
      rcases hy with rfl | h
      · exact absurd (.inr rfl) hn
      · exact h
    rw [op5_map] at hD
    walk_at "go"
    refine ⟨_, rfl, ?_⟩
    walk_at "go"
    refine ⟨_, rfl, ?_⟩
    walk_at "go"
    refine g_I (wide_mul (w40 ha) (w40 hb) (by decide) (by decide) (by decide)) ?_
    walk_at "go"
    refine ⟨_, rfl, ?_⟩
    walk_at "go"
    intro el nel
    have s3 : Same H2 (upd H2 el (.lst [bd (a + b), bd (a - b), bd (a * b)])) := Same.new (Same.refl _) nel
    have he3 : (upd H2 el (.lst [bd (a + b), bd (a - b), bd (a * b)])) el = some (.lst [bd (a + b), bd (a - b), bd (a * b)]) := upd_same
    generalize upd H2 el (.lst [bd (a + b), bd (a - b), bd (a * b)]) = H3 at s3 he3 ⊢
    have hD3 := s3 _ _ hD
    walk_at "go"
    intro c nc
    have hc4 : (upd H3 c (.lst [bd (a + b), bd (a - b), bd (a * b)])) c = some (.lst [bd (a + b), bd (a - b), bd (a * b)]) := upd_same
    have s4 : Same H3 (upd H3 c (.lst [bd (a + b), bd (a - b), bd (a * b)])) := Same.new (Same.refl _) nc
    rw [show cutV [bd (a + b), bd (a - b), bd (a * b), if b = 0 then .non else .int (qt a b), if b = 0 then .non else .int (a - qt a b * b)] none (some 3) = [bd (a + b), bd (a - b), bd (a * b)] from rfl]
    generalize upd H3 c (.lst [bd (a + b), bd (a - b), bd (a * b)]) = H4 at s4 hc4 ⊢
    have he4 := s4 _ _ he3
    have hD4 := s4 _ _ hD3
    walk_at "go"
    have fl3 : ([bd (a + b), bd (a - b), bd (a * b)] : List V).all flatV = true := by
      rw [List.all_cons, List.all_cons, List.all_cons, bd_flat, bd_flat, bd_flat]; rfl
    refine ⟨c, el, _, _, rfl, hc4, he4, fl3, fl3, by simp, by simp, ?_⟩
    rw [decide_eq_true rfl]
    walk_at "go"
    refine g_dec (fun e => ?_) (fun e => ?_)
    · subst e
      rw [if_pos rfl, if_pos rfl] at hD4
      walk_at "go"
      exact q _ ((s2.trans s3).trans s4)
    · rw [if_neg e, if_neg e] at hD4
      walk_at "go"
      obtain ⟨q1, q2⟩ := qt_rem a b e
      exact ⟨a, b, qt a b, a - qt a b * b, rfl, ha, hb, qt_small ha, by omega, q1, q2, q _ ((s2.trans s3).trans s4)⟩
def spLaw (K : PySem.W.Frag) : Sp := fun vs H Q _ => ∃ (a : Addr) (ns : List Int), vs = [.ref a] ∧ SqL K H a (ns.map V.int) ∧ ns.length ≤ 63 ∧ ∀ H', Q (.bl true) H'
theorem join_flat {x y : V} (hx : Txt3 x) (hy : Txt3 y) : flatV (joinV x y) = true := by
  rcases hx with rfl | ⟨a, rfl, _⟩ <;> rcases hy with rfl | ⟨b, rfl, _⟩ <;> first | rfl | (show flatV (if a.length + b.length > 2000 then .non else .str (a ++ b)) = true; split <;> rfl)
theorem ok_law (T : Txt K mg) : FnOk P w K mg base CX0 4 T.a_law T.d_law ["_law_script"] (spLaw K) := by
  have G_integer : FnOk P w K mg base CX0 2 _ _ _ _ := ok_integer T
  have G_string : FnOk P w K mg base CX0 2 _ _ _ _ := ok_string T
  have G_numbers : FnOk P w K mg base CX0 3 _ _ _ _ := ok_numbers T
  have G_arithmetic : FnOk P w K mg base CX0 2 _ _ _ _ := ok_arithmetic T
  have G_same : FnOk P w K mg base CX0 1 _ _ _ _ := ok_same0 T
  refine T.F_law.ok sc_law (fun vs H Q E h => ?_) (fun cdv A outer s H vs Q E hr h => ?_)
  · obtain ⟨a, ns, rfl, _⟩ := h
    rfl
  · obtain ⟨a, ns, rfl, hS, hlen, q⟩ := h
    refine ⟨_, (pss_cons (ps_set (i := 1) sc_law.nd rfl (.inl rfl) (pe_lst (pa_cons (pe_callTy (k_list (K := K)) (by rfl) T.z_list bt_list (pa_cons (pv 0) pa_nil)) (pa_cons pe_int (pa_cons pe_int (pa_cons pe_int pa_nil))))))
      (pss_cons (ps_set (i := 2) sc_law.nd rfl (.inl rfl) (pe_call G_integer (hr.mono (by decide)) (by rfl) T.g_integer T.F_integer.kp T.b_integer .nil pass0 (pa_cons (pv 1) pa_nil)))
      (pss_cons (ps_set (i := 3) sc_law.nd rfl (.inl rfl) (pe_call G_integer (hr.mono (by decide)) (by rfl) T.g_integer T.F_integer.kp T.b_integer .nil pass0 (pa_cons (pv 1) pa_nil)))
      (pss_cons (ps_if (PW.pt (pw_or (pt_not (pt_val (pe_call G_numbers (hr.mono (by decide)) (by rfl) T.g_numbers T.F_numbers.kp T.b_numbers .nil pass0 (pa_cons (pv 2) (pa_cons (pv 3) pa_nil))))) (pw_or1 (pt_not (pt_val (pe_call G_numbers (hr.mono (by decide)) (by rfl) T.g_numbers T.F_numbers.kp T.b_numbers .nil pass0 (pa_cons (pv 3) (pa_cons (pv 2) pa_nil)))))))) (pss_one (ps_ret pe_bl)) pss_nil)
      (pss_cons (ps_set (i := 4) sc_law.nd rfl (.inl rfl) (pe_call G_string (hr.mono (by decide)) (by rfl) T.g_string T.F_string.kp T.b_string .nil pass0 (pa_cons (pv 1) pa_nil)))
      (pss_cons (ps_set (i := 5) sc_law.nd rfl (.inl rfl) (pe_call G_string (hr.mono (by decide)) (by rfl) T.g_string T.F_string.kp T.b_string .nil pass0 (pa_cons (pv 1) pa_nil)))
      (pss_cons (ps_set (i := 6) sc_law.nd rfl (.inl rfl) pe_non)
      (C8.pss_cut (ps_if (PW.pt (pw_and (pt_cmpR o_notN (pv 4) pe_non (nomark _)) (pw_and (pt_cmpR o_notN (pv 5) pe_non (nomark _)) (pw_and1 (pt_cmpR op_le (pe_op op_add (pe_callB c_lenS (by rfl) T.z_len bt_len (pa_cons (pv 4) pa_nil)) (pe_callB c_lenS (by rfl) T.z_len bt_len (pa_cons (pv 5) pa_nil))) pe_int (nomark _)))))) (pss_one (ps_set (i := 6) sc_law.nd rfl (.inl rfl) (pe_op o_addS (pv 4) (pv 5)))) pss_nil)
      (pss_one (ps_ret (pe_call G_same (hr.mono (by decide)) (by rfl) T.g_same T.F_same.kp T.b_same .nil pass0 (pa_cons (pe_call G_arithmetic (hr.mono (by decide)) (by rfl) T.g_arithmetic T.F_arithmetic.kp T.b_arithmetic .nil pass0 (pa_cons pe_str (pa_cons (pv 4) (pa_cons (pv 5) pa_nil)))) (pa_cons (pv 6) pa_nil))))))))))))), ?_⟩
    walk_at "go0"
    walk_at "go"
    intro l nl
    walk_at "go"
    intro p np
    have npl : l ≠ p := fun e => by rw [e, upd_same] at np; cases np
    have S : StAt K (upd (upd H l (.lst (ns.map V.int))) p (.lst [.ref l, .int 0, .int 0, .int 1])) p l ns := ⟨⟨0, 0, 1, upd_same, by decide⟩, (upd_ne npl).trans upd_same, hlen, npl⟩
    generalize upd (upd H l (.lst (ns.map V.int))) p (.lst [.ref l, .int 0, .int 0, .int 1]) = H1 at S ⊢
    walk_at "go"
    refine ⟨p, l, ns, rfl, S, fun H2 x hx S2 b2 => ?_⟩
    walk_at "go"
    refine ⟨p, l, ns, rfl, S2, fun H3 y hy S3 b3 => ?_⟩
    walk_at "go"
    refine ⟨x, y, rfl, hx, hy, fun H4 s4 => ?_⟩
    walk_at "go"
    refine ⟨y, x, rfl, hy, hx, fun H5 s5 => ?_⟩
    have S5 := S3.same (s4.trans s5)
    walk_at "go"
    refine ⟨p, l, ns, rfl, S5, fun H6 lt hl S6 b6 => ?_⟩
    walk_at "go"
    refine ⟨p, l, ns, rfl, S6, fun H7 rt hr' S7 b7 => ?_⟩
    walk_at "go"
    refine g_cut (fun σ' H' => H' = H7 ∧ σ' = [some (.ref a), some (.ref p), some x, some y, some lt, some rt, some (joinV lt rt)]) ?_ ?_
    · rcases hl with rfl | ⟨z1, rfl, h1⟩
      · walk_at "go"
        exact ⟨rfl, rfl⟩
      rcases hr' with rfl | ⟨z2, rfl, h2⟩
      · walk_at "go"
        exact ⟨rfl, rfl⟩
      walk_at "go"
      refine g_lenS (sz (by omega)) ?_
      walk_at "go"
      refine g_lenS (sz (by omega)) ?_
      walk_at "go"
      refine g_dec (fun e => ?_) (fun e => ?_)
      · walk_at "go"
        refine g_addS (sz (by omega)) ?_
        walk_at "go"
        refine ⟨rfl, ?_⟩
        rw [show joinV (.str z1) (.str z2) = .str (z1 ++ z2) from if_neg (by omega)]
        rfl
      · walk_at "go"
        refine ⟨rfl, ?_⟩
        rw [show joinV (.str z1) (.str z2) = .non from if_pos (by omega)]
        rfl
    · rintro σ' H' ⟨rfl, rfl⟩
      walk_at "go"
      refine ⟨"||", lt, rt, rfl, ?_⟩
      have fin : tNil [some (V.ref a), some (V.ref p), some x, some y, some lt, some rt, some (joinV lt rt)] H' (fun _ _ => True) := trivial
      rcases hl with rfl | ⟨z1, rfl, h1⟩
      · refine .inl ⟨.inl rfl, .inl (.inl rfl), .inr hr', ?_⟩
        walk_at "go"
        refine ⟨_, _, rfl, rfl, rfl, ?_⟩
        exact q _
      rcases hr' with rfl | ⟨z2, rfl, h2⟩
      · refine .inl ⟨.inr rfl, .inr (.inr ⟨_, rfl, h1⟩), .inl (.inl rfl), ?_⟩
        walk_at "go"
        refine ⟨_, _, rfl, rfl, rfl, ?_⟩
        exact q _
      refine .inr (.inr ⟨z1, z2, rfl, rfl, h1, h2, rfl, ?_⟩)
      have jf := join_flat (.inr ⟨z1, rfl, h1⟩) (.inr ⟨z2, rfl, h2⟩)
      walk_at "go"
      refine ⟨_, _, rfl, jf, jf, ?_⟩
      rw [decide_eq_true rfl]
      exact q _
end
theorem all_mk {l : PySem.W.OpenLaw} {w : World} {K : PySem.W.Frag} {h : Heap} {mg : Str → Option Value} {fa f_bounded f_quotient f_arithmetic f_next f_same f_char f_integer f_string f_lbounded f_divides f_numbers f_law : Addr} (X : K.In h) (G : h.Ns mainGlobals mg) (hfa : mg "law" = some (.ref fa))
    {od_bounded an_bounded : Option Addr} {sl_bounded : Array (Option Value)} {oc_bounded kV_bounded dc_bounded pm_bounded cd_bounded ct_bounded : Value}
    {od_quotient an_quotient : Option Addr} {sl_quotient : Array (Option Value)} {oc_quotient kV_quotient dc_quotient pm_quotient cd_quotient ct_quotient : Value}
    {od_arithmetic an_arithmetic : Option Addr} {sl_arithmetic : Array (Option Value)} {oc_arithmetic kV_arithmetic dc_arithmetic pm_arithmetic cd_arithmetic ct_arithmetic : Value}
    {od_next an_next : Option Addr} {sl_next : Array (Option Value)} {oc_next kV_next dc_next pm_next cd_next ct_next : Value}
    {od_same an_same : Option Addr} {sl_same : Array (Option Value)} {oc_same kV_same dc_same pm_same cd_same ct_same : Value}
    {od_char an_char : Option Addr} {sl_char : Array (Option Value)} {oc_char kV_char dc_char pm_char cd_char ct_char : Value}
    {od_integer an_integer : Option Addr} {sl_integer : Array (Option Value)} {oc_integer kV_integer dc_integer pm_integer cd_integer ct_integer : Value}
    {od_string an_string : Option Addr} {sl_string : Array (Option Value)} {oc_string kV_string dc_string pm_string cd_string ct_string : Value}
    {od_lbounded an_lbounded : Option Addr} {sl_lbounded : Array (Option Value)} {oc_lbounded kV_lbounded dc_lbounded pm_lbounded cd_lbounded ct_lbounded : Value}
    {od_divides an_divides : Option Addr} {sl_divides : Array (Option Value)} {oc_divides kV_divides dc_divides pm_divides cd_divides ct_divides : Value}
    {od_numbers an_numbers : Option Addr} {sl_numbers : Array (Option Value)} {oc_numbers kV_numbers dc_numbers pm_numbers cd_numbers ct_numbers : Value}
    {od_law an_law : Option Addr} {sl_law : Array (Option Value)} {oc_law kV_law dc_law pm_law cd_law ct_law : Value}
    {u_BOUND : Value}
    {u_LONGEST_TEXT : Value}
    (a_bounded : PySem.W.nsIn K mainGlobals "bounded" = some (some (.ref f_bounded)))
    (l_bounded : K.lookup f_bounded = some ⟨oc_bounded, od_bounded, .func (PySem.W.fnOf "bounded" "bounded" (defArgs s_bounded) (defBody s_bounded) (defScope s_bounded) .none kV_bounded dc_bounded pm_bounded an_bounded cd_bounded ct_bounded), sl_bounded⟩)
    (c_bounded : PySem.W.codeIn K cd_bounded "bounded" = true)
    (k_bounded : PySem.W.keepIn K (.ref f_bounded) = true)
    (a_quotient : PySem.W.nsIn K mainGlobals "quotient" = some (some (.ref f_quotient)))
    (l_quotient : K.lookup f_quotient = some ⟨oc_quotient, od_quotient, .func (PySem.W.fnOf "quotient" "quotient" (defArgs s_quotient) (defBody s_quotient) (defScope s_quotient) .none kV_quotient dc_quotient pm_quotient an_quotient cd_quotient ct_quotient), sl_quotient⟩)
    (c_quotient : PySem.W.codeIn K cd_quotient "quotient" = true)
    (k_quotient : PySem.W.keepIn K (.ref f_quotient) = true)
    (a_arithmetic : PySem.W.nsIn K mainGlobals "arithmetic" = some (some (.ref f_arithmetic)))
    (l_arithmetic : K.lookup f_arithmetic = some ⟨oc_arithmetic, od_arithmetic, .func (PySem.W.fnOf "arithmetic" "arithmetic" (defArgs s_arithmetic) (defBody s_arithmetic) (defScope s_arithmetic) .none kV_arithmetic dc_arithmetic pm_arithmetic an_arithmetic cd_arithmetic ct_arithmetic), sl_arithmetic⟩)
    (c_arithmetic : PySem.W.codeIn K cd_arithmetic "arithmetic" = true)
    (k_arithmetic : PySem.W.keepIn K (.ref f_arithmetic) = true)
    (a_next : PySem.W.nsIn K mainGlobals "_law_next" = some (some (.ref f_next)))
    (l_next : K.lookup f_next = some ⟨oc_next, od_next, .func (PySem.W.fnOf "_law_next" "_law_next" (defArgs s_next) (defBody s_next) (defScope s_next) .none kV_next dc_next pm_next an_next cd_next ct_next), sl_next⟩)
    (c_next : PySem.W.codeIn K cd_next "_law_next" = true)
    (k_next : PySem.W.keepIn K (.ref f_next) = true)
    (a_same : PySem.W.nsIn K mainGlobals "_law_same" = some (some (.ref f_same)))
    (l_same : K.lookup f_same = some ⟨oc_same, od_same, .func (PySem.W.fnOf "_law_same" "_law_same" (defArgs s_same) (defBody s_same) (defScope s_same) .none kV_same dc_same pm_same an_same cd_same ct_same), sl_same⟩)
    (c_same : PySem.W.codeIn K cd_same "_law_same" = true)
    (k_same : PySem.W.keepIn K (.ref f_same) = true)
    (a_char : PySem.W.nsIn K mainGlobals "_law_char" = some (some (.ref f_char)))
    (l_char : K.lookup f_char = some ⟨oc_char, od_char, .func (PySem.W.fnOf "_law_char" "_law_char" (defArgs s_char) (defBody s_char) (defScope s_char) .none kV_char dc_char pm_char an_char cd_char ct_char), sl_char⟩)
    (c_char : PySem.W.codeIn K cd_char "_law_char" = true)
    (k_char : PySem.W.keepIn K (.ref f_char) = true)
    (a_integer : PySem.W.nsIn K mainGlobals "_law_integer" = some (some (.ref f_integer)))
    (l_integer : K.lookup f_integer = some ⟨oc_integer, od_integer, .func (PySem.W.fnOf "_law_integer" "_law_integer" (defArgs s_integer) (defBody s_integer) (defScope s_integer) .none kV_integer dc_integer pm_integer an_integer cd_integer ct_integer), sl_integer⟩)
    (c_integer : PySem.W.codeIn K cd_integer "_law_integer" = true)
    (k_integer : PySem.W.keepIn K (.ref f_integer) = true)
    (a_string : PySem.W.nsIn K mainGlobals "_law_string" = some (some (.ref f_string)))
    (l_string : K.lookup f_string = some ⟨oc_string, od_string, .func (PySem.W.fnOf "_law_string" "_law_string" (defArgs s_string) (defBody s_string) (defScope s_string) .none kV_string dc_string pm_string an_string cd_string ct_string), sl_string⟩)
    (c_string : PySem.W.codeIn K cd_string "_law_string" = true)
    (k_string : PySem.W.keepIn K (.ref f_string) = true)
    (a_lbounded : PySem.W.nsIn K mainGlobals "_law_bounded" = some (some (.ref f_lbounded)))
    (l_lbounded : K.lookup f_lbounded = some ⟨oc_lbounded, od_lbounded, .func (PySem.W.fnOf "_law_bounded" "_law_bounded" (defArgs s_lbounded) (defBody s_lbounded) (defScope s_lbounded) .none kV_lbounded dc_lbounded pm_lbounded an_lbounded cd_lbounded ct_lbounded), sl_lbounded⟩)
    (c_lbounded : PySem.W.codeIn K cd_lbounded "_law_bounded" = true)
    (k_lbounded : PySem.W.keepIn K (.ref f_lbounded) = true)
    (a_divides : PySem.W.nsIn K mainGlobals "_law_divides" = some (some (.ref f_divides)))
    (l_divides : K.lookup f_divides = some ⟨oc_divides, od_divides, .func (PySem.W.fnOf "_law_divides" "_law_divides" (defArgs s_divides) (defBody s_divides) (defScope s_divides) .none kV_divides dc_divides pm_divides an_divides cd_divides ct_divides), sl_divides⟩)
    (c_divides : PySem.W.codeIn K cd_divides "_law_divides" = true)
    (k_divides : PySem.W.keepIn K (.ref f_divides) = true)
    (a_numbers : PySem.W.nsIn K mainGlobals "_law_numbers" = some (some (.ref f_numbers)))
    (l_numbers : K.lookup f_numbers = some ⟨oc_numbers, od_numbers, .func (PySem.W.fnOf "_law_numbers" "_law_numbers" (defArgs s_numbers) (defBody s_numbers) (defScope s_numbers) .none kV_numbers dc_numbers pm_numbers an_numbers cd_numbers ct_numbers), sl_numbers⟩)
    (c_numbers : PySem.W.codeIn K cd_numbers "_law_numbers" = true)
    (k_numbers : PySem.W.keepIn K (.ref f_numbers) = true)
    (a_law : PySem.W.nsIn K mainGlobals "law" = some (some (.ref f_law)))
    (l_law : K.lookup f_law = some ⟨oc_law, od_law, .func (PySem.W.fnOf "law" "law" (defArgs s_law) (defBody s_law) (defScope s_law) .none kV_law dc_law pm_law an_law cd_law ct_law), sl_law⟩)
    (c_law : PySem.W.codeIn K cd_law "law" = true)
    (k_law : PySem.W.keepIn K (.ref f_law) = true)
    (z_abs : PySem.W.nsIn K mainGlobals "abs" = some none)
    (z_bool : PySem.W.nsIn K mainGlobals "bool" = some none)
    (z_int : PySem.W.nsIn K mainGlobals "int" = some none)
    (z_isinstance : PySem.W.nsIn K mainGlobals "isinstance" = some none)
    (z_len : PySem.W.nsIn K mainGlobals "len" = some none)
    (z_list : PySem.W.nsIn K mainGlobals "list" = some none)
    (z_range : PySem.W.nsIn K mainGlobals "range" = some none)
    (z_str : PySem.W.nsIn K mainGlobals "str" = some none)
    (z_tuple : PySem.W.nsIn K mainGlobals "tuple" = some none)
    (gc_BOUND : PySem.W.nsIn K mainGlobals "BOUND" = some (some u_BOUND))
    (rc_BOUND : RelV (.int (10 ^ 40)) u_BOUND)
    (gc_LONGEST_TEXT : PySem.W.nsIn K mainGlobals "LONGEST_TEXT" = some (some u_LONGEST_TEXT))
    (rc_LONGEST_TEXT : RelV (.int 2000) u_LONGEST_TEXT)
    : ∃ fd : FuncData, (∀ (s : Shared) (v : Value), BindsTo s fd ⟨[v], []⟩ [("_law_script", v)]) ∧ ∀ base : Heap, K.In base → base.Ns mainGlobals mg → FnOk l.prog w K mg base CX0 4 fa fd ["_law_script"] (spLaw K) := by
  have e := hfa.symm.trans (PySem.W.mg_of X G a_law)
  have e2 : fa = f_law := by cases e; rfl
  rw [e2]
  exact ⟨PySem.W.fnOf "law" "law" (defArgs s_law) (defBody s_law) (defScope s_law) .none kV_law dc_law pm_law an_law cd_law ct_law, fun s v => .of_eq rfl, fun base _ _ =>
    ok_law (T := {
      a_bounded := f_bounded
      d_bounded := PySem.W.fnOf "bounded" "bounded" (defArgs s_bounded) (defBody s_bounded) (defScope s_bounded) .none kV_bounded dc_bounded pm_bounded an_bounded cd_bounded ct_bounded
      F_bounded := fun_mk (st := s_bounded) l_bounded c_bounded k_bounded
      b_bounded := (fun_mk (st := s_bounded) l_bounded c_bounded k_bounded).binds (ps := ["number"]) fun _ _ _ _ _ _ us hl => match us, hl with | [_], _ => rfl
      g_bounded := PySem.W.mg_of X G a_bounded
      a_quotient := f_quotient
      d_quotient := PySem.W.fnOf "quotient" "quotient" (defArgs s_quotient) (defBody s_quotient) (defScope s_quotient) .none kV_quotient dc_quotient pm_quotient an_quotient cd_quotient ct_quotient
      F_quotient := fun_mk (st := s_quotient) l_quotient c_quotient k_quotient
      b_quotient := (fun_mk (st := s_quotient) l_quotient c_quotient k_quotient).binds (ps := ["first", "second"]) fun _ _ _ _ _ _ us hl => match us, hl with | [_, _], _ => rfl
      g_quotient := PySem.W.mg_of X G a_quotient
      a_arithmetic := f_arithmetic
      d_arithmetic := PySem.W.fnOf "arithmetic" "arithmetic" (defArgs s_arithmetic) (defBody s_arithmetic) (defScope s_arithmetic) .none kV_arithmetic dc_arithmetic pm_arithmetic an_arithmetic cd_arithmetic ct_arithmetic
      F_arithmetic := fun_mk (st := s_arithmetic) l_arithmetic c_arithmetic k_arithmetic
      b_arithmetic := (fun_mk (st := s_arithmetic) l_arithmetic c_arithmetic k_arithmetic).binds (ps := ["operator", "first", "second"]) fun _ _ _ _ _ _ us hl => match us, hl with | [_, _, _], _ => rfl
      g_arithmetic := PySem.W.mg_of X G a_arithmetic
      a_next := f_next
      d_next := PySem.W.fnOf "_law_next" "_law_next" (defArgs s_next) (defBody s_next) (defScope s_next) .none kV_next dc_next pm_next an_next cd_next ct_next
      F_next := fun_mk (st := s_next) l_next c_next k_next
      b_next := (fun_mk (st := s_next) l_next c_next k_next).binds (ps := ["_law_state", "_law_limit"]) fun _ _ _ _ _ _ us hl => match us, hl with | [_, _], _ => rfl
      g_next := PySem.W.mg_of X G a_next
      a_same := f_same
      d_same := PySem.W.fnOf "_law_same" "_law_same" (defArgs s_same) (defBody s_same) (defScope s_same) .none kV_same dc_same pm_same an_same cd_same ct_same
      F_same := fun_mk (st := s_same) l_same c_same k_same
      b_same := (fun_mk (st := s_same) l_same c_same k_same).binds (ps := ["_law_actual", "_law_expected"]) fun _ _ _ _ _ _ us hl => match us, hl with | [_, _], _ => rfl
      g_same := PySem.W.mg_of X G a_same
      a_char := f_char
      d_char := PySem.W.fnOf "_law_char" "_law_char" (defArgs s_char) (defBody s_char) (defScope s_char) .none kV_char dc_char pm_char an_char cd_char ct_char
      F_char := fun_mk (st := s_char) l_char c_char k_char
      b_char := (fun_mk (st := s_char) l_char c_char k_char).binds (ps := ["_law_index"]) fun _ _ _ _ _ _ us hl => match us, hl with | [_], _ => rfl
      g_char := PySem.W.mg_of X G a_char
      a_integer := f_integer
      d_integer := PySem.W.fnOf "_law_integer" "_law_integer" (defArgs s_integer) (defBody s_integer) (defScope s_integer) .none kV_integer dc_integer pm_integer an_integer cd_integer ct_integer
      F_integer := fun_mk (st := s_integer) l_integer c_integer k_integer
      b_integer := (fun_mk (st := s_integer) l_integer c_integer k_integer).binds (ps := ["_law_state"]) fun _ _ _ _ _ _ us hl => match us, hl with | [_], _ => rfl
      g_integer := PySem.W.mg_of X G a_integer
      a_string := f_string
      d_string := PySem.W.fnOf "_law_string" "_law_string" (defArgs s_string) (defBody s_string) (defScope s_string) .none kV_string dc_string pm_string an_string cd_string ct_string
      F_string := fun_mk (st := s_string) l_string c_string k_string
      b_string := (fun_mk (st := s_string) l_string c_string k_string).binds (ps := ["_law_state"]) fun _ _ _ _ _ _ us hl => match us, hl with | [_], _ => rfl
      g_string := PySem.W.mg_of X G a_string
      a_lbounded := f_lbounded
      d_lbounded := PySem.W.fnOf "_law_bounded" "_law_bounded" (defArgs s_lbounded) (defBody s_lbounded) (defScope s_lbounded) .none kV_lbounded dc_lbounded pm_lbounded an_lbounded cd_lbounded ct_lbounded
      F_lbounded := fun_mk (st := s_lbounded) l_lbounded c_lbounded k_lbounded
      b_lbounded := (fun_mk (st := s_lbounded) l_lbounded c_lbounded k_lbounded).binds (ps := ["_law_number"]) fun _ _ _ _ _ _ us hl => match us, hl with | [_], _ => rfl
      g_lbounded := PySem.W.mg_of X G a_lbounded
      a_divides := f_divides
      d_divides := PySem.W.fnOf "_law_divides" "_law_divides" (defArgs s_divides) (defBody s_divides) (defScope s_divides) .none kV_divides dc_divides pm_divides an_divides cd_divides ct_divides
      F_divides := fun_mk (st := s_divides) l_divides c_divides k_divides
      b_divides := (fun_mk (st := s_divides) l_divides c_divides k_divides).binds (ps := ["_law_first", "_law_second", "_law_quotient", "_law_remainder"]) fun _ _ _ _ _ _ us hl => match us, hl with | [_, _, _, _], _ => rfl
      g_divides := PySem.W.mg_of X G a_divides
      a_numbers := f_numbers
      d_numbers := PySem.W.fnOf "_law_numbers" "_law_numbers" (defArgs s_numbers) (defBody s_numbers) (defScope s_numbers) .none kV_numbers dc_numbers pm_numbers an_numbers cd_numbers ct_numbers
      F_numbers := fun_mk (st := s_numbers) l_numbers c_numbers k_numbers
      b_numbers := (fun_mk (st := s_numbers) l_numbers c_numbers k_numbers).binds (ps := ["_law_first", "_law_second"]) fun _ _ _ _ _ _ us hl => match us, hl with | [_, _], _ => rfl
      g_numbers := PySem.W.mg_of X G a_numbers
      a_law := f_law
      d_law := PySem.W.fnOf "law" "law" (defArgs s_law) (defBody s_law) (defScope s_law) .none kV_law dc_law pm_law an_law cd_law ct_law
      F_law := fun_mk (st := s_law) l_law c_law k_law
      b_law := (fun_mk (st := s_law) l_law c_law k_law).binds (ps := ["_law_script"]) fun _ _ _ _ _ _ us hl => match us, hl with | [_], _ => rfl
      g_law := PySem.W.mg_of X G a_law
      z_abs := PySem.W.mg_none_of X G z_abs
      z_bool := PySem.W.mg_none_of X G z_bool
      z_int := PySem.W.mg_none_of X G z_int
      z_isinstance := PySem.W.mg_none_of X G z_isinstance
      z_len := PySem.W.mg_none_of X G z_len
      z_list := PySem.W.mg_none_of X G z_list
      z_range := PySem.W.mg_none_of X G z_range
      z_str := PySem.W.mg_none_of X G z_str
      z_tuple := PySem.W.mg_none_of X G z_tuple
      u_BOUND := u_BOUND
      g_BOUND := PySem.W.mg_of X G gc_BOUND
      r_BOUND := rc_BOUND
      u_LONGEST_TEXT := u_LONGEST_TEXT
      g_LONGEST_TEXT := PySem.W.mg_of X G gc_LONGEST_TEXT
      r_LONGEST_TEXT := rc_LONGEST_TEXT })⟩
end Kb
open PySem PySem.W PyProof.Rows
set_option maxRecDepth 100000 in
set_option maxHeartbeats 0 in
theorem PySem.Challenge.cw_kithbase_k30_arithmetic_holds : PySem.Challenge.rw_kithbase_k30_arithmetic.Holds := by
  w_on; o_law; k_head; (case hw => w_witness2)
  k_fill
  refine L2.walk_of (l := PySem.Challenge.rw_kithbase_k30_arithmetic) (n := 63) (k := 4) (x := "_law_script") (CX := fun _ => L2.CX0) (sp := fun w => Kb.spLaw _) rfl (by decide) rfl ⟨rfl, by decide, by decide⟩ (fun w h Y => PySem.W.kIn_of Y) ?F (fun _ _ a ns hl _ hS => ⟨a, ns, rfl, hS, hl, fun _ => rfl⟩) (fun _ _ _ _ _ h => h)
  case F =>
    intro w mg fa h KX G hmg
    refine' Kb.all_mk KX G hmg ?a_bounded ?l_bounded ?c_bounded ?k_bounded ?a_quotient ?l_quotient ?c_quotient ?k_quotient ?a_arithmetic ?l_arithmetic ?c_arithmetic ?k_arithmetic ?a_next ?l_next ?c_next ?k_next ?a_same ?l_same ?c_same ?k_same ?a_char ?l_char ?c_char ?k_char ?a_integer ?l_integer ?c_integer ?k_integer ?a_string ?l_string ?c_string ?k_string ?a_lbounded ?l_lbounded ?c_lbounded ?k_lbounded ?a_divides ?l_divides ?c_divides ?k_divides ?a_numbers ?l_numbers ?c_numbers ?k_numbers ?a_law ?l_law ?c_law ?k_law ?z_abs ?z_bool ?z_int ?z_isinstance ?z_len ?z_list ?z_range ?z_str ?z_tuple ?gc_BOUND ?rc_BOUND ?gc_LONGEST_TEXT ?rc_LONGEST_TEXT
    (case a_bounded => k_is)
    (case l_bounded => k_is)
    (case c_bounded => k_is)
    (case k_bounded => k_is)
    (case a_quotient => k_is)
    (case l_quotient => k_is)
    (case c_quotient => k_is)
    (case k_quotient => k_is)
    (case a_arithmetic => k_is)
    (case l_arithmetic => k_is)
    (case c_arithmetic => k_is)
    (case k_arithmetic => k_is)
    (case a_next => k_is)
    (case l_next => k_is)
    (case c_next => k_is)
    (case k_next => k_is)
    (case a_same => k_is)
    (case l_same => k_is)
    (case c_same => k_is)
    (case k_same => k_is)
    (case a_char => k_is)
    (case l_char => k_is)
    (case c_char => k_is)
    (case k_char => k_is)
    (case a_integer => k_is)
    (case l_integer => k_is)
    (case c_integer => k_is)
    (case k_integer => k_is)
    (case a_string => k_is)
    (case l_string => k_is)
    (case c_string => k_is)
    (case k_string => k_is)
    (case a_lbounded => k_is)
    (case l_lbounded => k_is)
    (case c_lbounded => k_is)
    (case k_lbounded => k_is)
    (case a_divides => k_is)
    (case l_divides => k_is)
    (case c_divides => k_is)
    (case k_divides => k_is)
    (case a_numbers => k_is)
    (case l_numbers => k_is)
    (case c_numbers => k_is)
    (case k_numbers => k_is)
    (case a_law => k_is)
    (case l_law => k_is)
    (case c_law => k_is)
    (case k_law => k_is)
    (case z_abs => k_is)
    (case z_bool => k_is)
    (case z_int => k_is)
    (case z_isinstance => k_is)
    (case z_len => k_is)
    (case z_list => k_is)
    (case z_range => k_is)
    (case z_str => k_is)
    (case z_tuple => k_is)
    (case gc_BOUND => k_is)
    (case rc_BOUND => exact ⟨_, rfl⟩)
    (case gc_LONGEST_TEXT => k_is)
    (case rc_LONGEST_TEXT => exact ⟨_, rfl⟩)

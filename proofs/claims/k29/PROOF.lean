import PyProof.Rows.All
import Wide.All
import OpenK.AllK
import Wide.FinOn
import HandS.ForMost
import HandS.IsInst
import HandS.Wide
import HandS.TupAny
import HandS.Flow
import HandS.Text
import HandS.Codes

import HandS.TupLe
import PySem.Challenge.RW_kithbase_k29_order_of_values
set_option Elab.async false
set_option linter.all false
set_option maxRecDepth 100000
set_option maxHeartbeats 4000000
namespace Kb
open PySem PySem.Spec PyProof.Rows L2
/-! rules and words of my own, over HandS -/
section
variable {X : Cx}
/-- o[i] of a list, the place not negative, as an operand of an in-place statement -/
theorem get_list : PGet X (rIxL X.K) := by
  intro pins s σ H x y v u Q I rx ry h
  obtain ⟨p, xs, i, z, rfl, rfl, hq, he, q⟩ := h
  cases rx
  obtain ⟨t, rfl⟩ := ry
  obtain ⟨its, r, pl, hz⟩ := I.list hq
  obtain ⟨j, h1, h2, h3, h4, h5⟩ := atI_get he
  obtain ⟨w, ew, rw'⟩ := r.get h2
  have hl := r.length
  have hn := line63
  have fin : EP X pins σ Q w s := ⟨z, H, I, rw', q⟩
  by_cases h0 : 0 ≤ i
  · have hj : i.toNat = j := by
      rw [seqIndex_of h0 h5] at h1
      exact Option.some.inj h1
    exact getItem_listL pl.isList h0 (by omega) (by rw [hj]; exact ew) fin
  · have hj : (i + (its.toArray.size : Int)).toNat = j := by
      rw [seqIndex_neg (by omega) h4] at h1
      rw [List.size_toArray, ← hl]
      exact Option.some.inj h1
    exact wpAny_getItem_list_neg pl.isList (by omega) (by rw [List.size_toArray] <;> omega) (by omega) (by rw [hj]; simpa using ew) fin
theorem RelV.bl_iff {x : V} {v : Value} (b : Bool) (r : RelV x v) : (v == Value.bool b) = decide (x = .bl b) := by
  cases x <;> first
    | (obtain ⟨t, rfl⟩ := r; rfl)
    | (cases r; rfl)
    | skip
  cases r
  rename_i c
  cases b <;> cases c <;> rfl
theorem plain_bool {x : V} {v : Value} (b : Bool) (r : RelV x v) : plainIs v (.bool b) = true := by
  cases x <;> first
    | (obtain ⟨t, rfl⟩ := r; rfl)
    | (cases r; rfl)
/-- x is True, x is False -/
def rIsBl (neg : Bool) : R2 := fun x y H Q => ∃ b, y = .bl b ∧ Q (.bl (if neg then !decide (x = .bl b) else decide (x = .bl b))) H
theorem op_isB : OpR X (compareOp .Is) (rIsBl false) := by
  intro pins s σ H x y v u Q I rx ry h
  obtain ⟨b, rfl, q⟩ := h
  cases (show u = Value.bool b from ry)
  exact wpAny_is_plain (plain_bool b rx) (fin_bl I q (RelV.bl_iff b rx).symm)
theorem op_isNotB : OpR X (compareOp .IsNot) (rIsBl true) := by
  intro pins s σ H x y v u Q I rx ry h
  obtain ⟨b, rfl, q⟩ := h
  cases (show u = Value.bool b from ry)
  exact wpAny_isNot_plain (plain_bool b rx) (fin_bl I q (by rw [RelV.bl_iff b rx]; rfl))
end
theorem isi {K : PySem.W.Frag} {x : V} {tn n : String} {b : Bool} {H : Hp} {Q : VK} (ty : TyOf K H x (.type tn)) (h : kitB tn n = some b) (q : Q (.bl b) H) : rIsi K [x, .ty n] H Q :=
  ⟨x, .ty n, _, _, b, rfl, .ty n, .base ty, kit_ty h, q⟩
theorem kb_nn_bool : kitB "NoneType" "bool" = some false := by decide +kernel
theorem kb_nn_int : kitB "NoneType" "int" = some false := by decide +kernel
theorem kb_nn_str : kitB "NoneType" "str" = some false := by decide +kernel
theorem kb_bl_bool : kitB "bool" "bool" = some true := by decide +kernel
theorem kb_bl_int : kitB "bool" "int" = some true := by decide +kernel
theorem kb_bl_str : kitB "bool" "str" = some false := by decide +kernel
theorem kb_int_bool : kitB "int" "bool" = some false := by decide +kernel
theorem kb_int_int : kitB "int" "int" = some true := by decide +kernel
theorem kb_int_str : kitB "int" "str" = some false := by decide +kernel
theorem kb_str_bool : kitB "str" "bool" = some false := by decide +kernel
theorem kb_str_int : kitB "str" "int" = some false := by decide +kernel
theorem kb_str_str : kitB "str" "str" = some true := by decide +kernel
theorem kb_tup_tup : kitB "tuple" "tuple" = some true := by decide +kernel
theorem kb_lst_tup : kitB "list" "tuple" = some false := by decide +kernel
theorem kb_tup_lst : kitB "tuple" "list" = some false := by decide +kernel
theorem kb_lst_lst : kitB "list" "list" = some true := by decide +kernel
/-- two heaps that agree on all that H tracks, but at p -/
def But (p : Addr) (H H' : Hp) : Prop := ∀ b o, H b = some o → b ≠ p → H' b = some o
theorem But.refl (p : Addr) (H : Hp) : But p H H := fun _ _ h _ => h
theorem But.trans {p : Addr} {H H1 H2 : Hp} (a : But p H H1) (b : But p H1 H2) : But p H H2 := fun c o h n => b c o (a c o h n) n
theorem But.upd {p : Addr} {H H1 : Hp} {o : HO} (a : But p H H1) : But p H (L2.upd H1 p o) := fun c u h n => by
  rw [upd_ne n]
  exact a c u h n
theorem But.new {p q : Addr} {H H1 : Hp} {o : HO} (a : But p H H1) (h : H1 q = none) : But p H (L2.upd H1 q o) := fun c u e n => by
  rw [upd_ne (ne_of_none (a c u e n) h)]
  exact a c u e n
/-- another object, not tracked in H, is changed -/
theorem But.put {p q : Addr} {H H1 : Hp} {o : HO} (a : But p H H1) (h : H q = none) : But p H (L2.upd H1 q o) := fun c u e n => by
  rw [upd_ne (ne_of_none e h)]
  exact a c u e n
theorem But.free {p q : Addr} {H H1 : Hp} (a : But p H H1) (n : q ≠ p) (h : H1 q = none) : H q = none := by
  cases e : H q with
  | none => rfl
  | some o => rw [a q o e n] at h; cases h
theorem But.fresh {p q : Addr} {H H1 : Hp} (a : But p H H1) (hp : H p ≠ none) (h1 : H1 p ≠ none) (h : H1 q = none) : H q = none := by
  cases e : H q with
  | none => rfl
  | some o =>
    by_cases hq : q = p
    · rw [hq] at h; exact absurd h h1
    · rw [a q o e hq] at h; cases h
theorem Same.new {H H1 : Hp} {q : Addr} {o : HO} (a : Same H H1) (h : H1 q = none) : Same H (L2.upd H1 q o) := fun c u e => by
  rw [upd_ne (ne_of_none (a c u e) h)]
  exact a c u e
theorem Same.but {H H1 : Hp} (p : Addr) (a : Same H H1) : But p H H1 := fun c u e _ => a c u e
theorem sz {n : Nat} (h : n ≤ 1000000) : n ≤ sizeLine := Nat.le_trans h (by decide)
theorem szlt {n : Nat} (h : n < 1000000) : n < sizeLine := Nat.lt_of_lt_of_le h (by decide)
theorem upd_id {H : Hp} {p : Addr} {o : HO} (h : H p = some o) : L2.upd H p o = H := by
  funext b
  by_cases e : b = p
  · rw [e, upd_same, h]
  · rw [upd_ne e]
theorem at_codes {xs : List Nat} {z : Int} {j : Nat} {v : Nat} (e : z = (j : Int)) (h : xs[j]? = some v) : atI xs z = some v := by
  rw [e]
  exact atI_nat h

/-! the engine: one lemma a construct, applied by its head; walk_at "go" runs it -/
def rLen (K : PySem.W.Frag) : List V → Hp → VK → Prop := fun xs H Q => ∃ p ys, xs = [.ref p] ∧ (SqL K H p ys ∨ SqT K H p ys) ∧ Q (.int ys.length) H
def rLenS : List V → Hp → VK → Prop := fun xs H Q => ∃ z, xs = [.str z] ∧ z.length ≤ sizeLine ∧ Q (.int z.length) H
def rListOf (K : PySem.W.Frag) : List V → Hp → VK → Prop := fun xs H Q => ∃ p ys, xs = [.ref p] ∧ (SqL K H p ys ∨ SqT K H p ys) ∧ ∀ l, H l = none → Q (.ref l) (upd H l (.lst ys))
def rTupOf (K : PySem.W.Frag) : List V → Hp → VK → Prop := fun xs H Q => ∃ p ys, xs = [.ref p] ∧ ((SqL K H p ys ∧ ∀ l, H l = none → Q (.ref l) (upd H l (.tup ys))) ∨ (SqT K H p ys ∧ Q (.ref p) H))
def rAddS : R2 := fun x y H Q => ∃ i j, x = .str i ∧ y = .str j ∧ i.length + j.length ≤ sizeLine ∧ Q (.str (i ++ j)) H
def rInS : R2 := fun x y H Q => ∃ (c : Nat) (z : Str), x = .str ⟨#[c]⟩ ∧ y = .str z ∧ Q (.bl (decide (c ∈ z.cps.toList))) H
def rNotInS : R2 := fun x y H Q => ∃ (c : Nat) (z : Str), x = .str ⟨#[c]⟩ ∧ y = .str z ∧ Q (.bl (!decide (c ∈ z.cps.toList))) H
def rIsN : R2 := fun x y H Q => y = .non ∧ Q (.bl (decide (x = .non))) H
def rNotN : R2 := fun x y H Q => y = .non ∧ Q (.bl (!decide (x = .non))) H
def rAbs : List V → Hp → VK → Prop := fun xs H Q => ∃ i, xs = [.int i] ∧ Q (.int (if i < 0 then -i else i)) H
def rMax2 : List V → Hp → VK → Prop := fun xs H Q => ∃ i j, xs = [.int i, .int j] ∧ Q (.int (if j > i then j else i)) H
def rMin2 : List V → Hp → VK → Prop := fun xs H Q => ∃ i j, xs = [.int i, .int j] ∧ Q (.int (if j < i then j else i)) H
def rInt1 : List V → Hp → VK → Prop := fun xs H Q => (∃ i, xs = [.int i] ∧ Q (.int i) H) ∨ ∃ k, xs = [.bl k] ∧ Q (.int (if k then 1 else 0)) H
def rStr1 : List V → Hp → VK → Prop := fun xs H Q => ∃ i, xs = [.int i] ∧ i.natAbs.log2 < 1920 ∧ Q (.str (toString i)) H
def rOrd : List V → Hp → VK → Prop := fun xs H Q => ∃ x, xs = [.str x] ∧ x.length = 1 ∧ Q (.int (x.cps.getD 0 0 : Nat)) H
def rChr : List V → Hp → VK → Prop := fun xs H Q => ∃ i, xs = [.int i] ∧ 0 ≤ i ∧ i ≤ 1114111 ∧ Q (.str ⟨#[i.toNat]⟩) H
def rJoin (K : PySem.W.Frag) : V → List V → Hp → VK → Prop := fun x xs H Q => ∃ a p, ∃ ys : List Str, x = .str a ∧ xs = [.ref p] ∧ (SqL K H p (ys.map V.str) ∨ SqT K H p (ys.map V.str)) ∧
  (ys.map (·.length)).sum + ys.length * a.length ≤ 16777216 ∧ Q (.str (Txt.join a ys)) H
def rSplit : V → List V → Hp → VK → Prop := fun x xs H Q => ∃ a b, x = .str a ∧ xs = [.str b] ∧ (b.length == 0) = false ∧ a.length + 2 ≤ sizeLine ∧ rNewStrs (Txt.split a b) H Q
section
variable {X : Cx}
theorem c_len : CallR X (.builtin "len") (rLen X.K) := call_len_seq
theorem c_lenS : CallR X (.builtin "len") rLenS := call_len_str
theorem c_list : CallR X (.type "list") (rListOf X.K) := call_list_of
theorem c_tuple : CallR X (.type "tuple") (rTupOf X.K) := call_tuple_of
theorem o_addS : OpR X (binaryOp .Add) rAddS := op_add_str
theorem o_inS : OpR X (compareOp .In) rInS := op_in_sign
theorem o_notInS : OpR X (compareOp .NotIn) rNotInS := op_notIn_sign
theorem o_isN : OpR X (compareOp .Is) rIsN := op_isN
theorem o_notN : OpR X (compareOp .IsNot) rNotN := op_notN
theorem c_abs : CallR X (.builtin "abs") rAbs := call_abs
theorem c_max2 (hc : X.calm = true) : CallR X (.builtin "max") rMax2 := call_max2 hc
theorem c_min2 (hc : X.calm = true) : CallR X (.builtin "min") rMin2 := call_min2 hc
theorem c_int1 : CallR X (.type "int") rInt1 := call_int1
theorem c_str1 : CallR X (.type "str") rStr1 := call_str_int
theorem c_ord : CallR X (.builtin "ord") rOrd := call_ord
theorem c_chr : CallR X (.builtin "chr") rChr := call_chr
theorem e_join {o e : Expr} {to te : TE} {apos pos : Pos} (ho : PE X o to) (he : PE X e te) (hs : starEach [e] X.env = [(false, eval e X.env)] := by rfl) (hbase : attributeBase o "join" X.env (eval o X.env) = eval o X.env := by rfl) (hline : (apos.endLine == pos.line) = true := by rfl) :
    PE X (.Call (.Attribute o "join" apos) [e] [] pos) (tM1 (rJoin X.K) to te) := pe_join ho he hs hbase hline
theorem e_split {o e : Expr} {to te : TE} {apos pos : Pos} (ho : PE X o to) (he : PE X e te) (hs : starEach [e] X.env = [(false, eval e X.env)] := by rfl) (hbase : attributeBase o "split" X.env (eval o X.env) = eval o X.env := by rfl) (hline : (apos.endLine == pos.line) = true := by rfl) :
    PE X (.Call (.Attribute o "split" apos) [e] [] pos) (tM1 rSplit to te) := pe_split ho he hs hbase hline
end
def D0 (Q : VK) : Ends := { nx := fun _ H' => Q .non H', rt := Q }
def Dl (D : Ends) (N : L2.St → Hp → Prop) : Ends := { D with nx := N, ct := N, bk := D.nx }
theorem dI {i j : Int} : decide (V.int i = V.int j) = decide (i = j) := by rw [dec_int, Bool.beq_eq_decide_eq]
theorem dB {i j : Bool} : decide (V.bl i = V.bl j) = decide (i = j) := by rw [dec_bl, Bool.beq_eq_decide_eq]
theorem dS {i j : Str} : decide (V.str i = V.str j) = decide (i = j) := by rw [dec_str, Bool.beq_eq_decide_eq]
theorem in_two (x a b : Str) : inV (.str x) [.str a, .str b] = decide (x = a ∨ x = b) := by
  show (a == x || (b == x || false)) = _
  rw [Bool.or_false, Bool.beq_eq_decide_eq, Bool.beq_eq_decide_eq]
  by_cases h1 : x = a
  · rw [decide_eq_true (Or.inl h1 : x = a ∨ x = b), decide_eq_true h1.symm]; rfl
  · by_cases h2 : x = b
    · rw [decide_eq_true (Or.inr h2 : x = a ∨ x = b), decide_eq_true h2.symm, Bool.or_true]
    · rw [decide_eq_false (fun z : a = x => h1 z.symm), decide_eq_false (fun z : b = x => h2 z.symm), decide_eq_false (fun z : x = a ∨ x = b => z.elim h1 h2)]; rfl
section
variable {X : Cx} {K : PySem.W.Frag}
theorem k_len (hK : X.K = K := by rfl) : CallR X (.builtin "len") (rLen K) := by subst hK; exact c_len
theorem k_list (hK : X.K = K := by rfl) : CallR X (.type "list") (rListOf K) := by subst hK; exact c_list
theorem k_tuple (hK : X.K = K := by rfl) : CallR X (.type "tuple") (rTupOf K) := by subst hK; exact c_tuple
theorem k_isi (hK : X.K = K := by rfl) : CallR X (.builtin "isinstance") (rIsi K) := by subst hK; exact call_isi
theorem k_isiT (hK : X.K = K := by rfl) : CallR X (.builtin "isinstance") (rIsiT K) := by subst hK; exact call_isiT
theorem k_sum (hc : X.calm = true) (hK : X.K = K := by rfl) : CallR X (.builtin "sum") (rSum K) := by subst hK; exact cr_sum hc
theorem k_ixL (hK : X.K = K := by rfl) : IxR X (rIxL K) := by subst hK; exact ix_list
theorem k_ixT (hK : X.K = K := by rfl) : IxR X (rIxT K) := by subst hK; exact ix_tup
theorem k_slL (hK : X.K = K := by rfl) : SlR X (rSlL K) := by subst hK; exact sl_list
theorem k_slT (hK : X.K = K := by rfl) : SlR X (rSlT K) := by subst hK; exact sl_tup
theorem k_slA (hK : X.K = K := by rfl) : SlR X (rSlA K) := by subst hK; exact sl_tupA
theorem k_in (hK : X.K = K := by rfl) : OpR X (compareOp .In) (rIn K false) := by subst hK; exact op_in_seq
theorem k_notIn (hK : X.K = K := by rfl) : OpR X (compareOp .NotIn) (rIn K true) := by subst hK; exact op_notIn_seq
theorem k_catA (hK : X.K = K := by rfl) : OpR X (binaryOp .Add) (rCatA K) := by subst hK; exact op_catA
theorem k_eqD (hu : X.A.units + 64 < cLine) (hK : X.K = K := by rfl) : OpR X (compareOp .Eq) (rEqD K) := by subst hK; exact op_eqD hu
theorem k_neD (hu : X.A.units + 64 < cLine) (hK : X.K = K := by rfl) : OpR X (compareOp .NotEq) (rNeD K) := by subst hK; exact op_neD hu
theorem k_fld {e : Expr} {f : Str} {pos : Pos} {ta : TE} (he : PE X e ta) (hb : attributeBase e f X.env (eval e X.env) = eval e X.env) (hK : X.K = K := by rfl) : PE X (.Attribute e f pos) (tFld K ta f) := by subst hK; exact pe_fld he hb
theorem k_piL {tg l : Expr} {tl : TE} (hl : PE X l tl) (hK : X.K = K := by rfl) : PI X tg l (iList K tl) := by subst hK; exact pi_list hl
theorem k_piT {tg l : Expr} {tl : TE} (hl : PE X l tl) (hK : X.K = K := by rfl) : PI X tg l (iTup K tl) := by subst hK; exact pi_tup hl
theorem k_join {o e : Expr} {to te : TE} {apos pos : Pos} (ho : PE X o to) (he : PE X e te) (hs : starEach [e] X.env = [(false, eval e X.env)] := by rfl) (hbase : attributeBase o "join" X.env (eval o X.env) = eval o X.env := by rfl) (hline : (apos.endLine == pos.line) = true := by rfl) (hK : X.K = K := by rfl) :
    PE X (.Call (.Attribute o "join" apos) [e] [] pos) (tM1 (rJoin K) to te) := by subst hK; exact e_join ho he hs hbase hline
end
def Dn (D : Ends) (f : L2.St → Hp → Prop) : Ends := { D with nx := f }
section
variable {K : PySem.W.Frag} {D : Ends} {σ : L2.St} {H : Hp} {Q : VK} {QB : Bool → Hp → Prop} {QA : List V → Hp → Prop} {f f1 : L2.St → Hp → Prop} {b c : VK} {v x y : V} {i j : Int} {t t1 t2 u : TS} {ta tb tc te : TE} {tt tt1 tt2 : TT} {r r' : R2} {n : Nat} {p : Addr} {xs : List V} {vs : List V}
theorem g_seq (h : t (Dn D (u D)) σ H) : tSeq t u D σ H := h
theorem g_cut (Mid : L2.St → Hp → Prop) (h : t (Dn D Mid) σ H) (k : ∀ σ' H', Mid σ' H' → u D σ' H') : C8.tCut t u D σ H := ⟨Mid, h, k⟩
theorem g_mid (M : L2.St → Hp → Prop) (mono : ∀ (f1 f2 : L2.St → Hp → Prop), (∀ σ H, f1 σ H → f2 σ H) → t (Dn D f1) σ H → t (Dn D f2) σ H) (h : t (Dn D M) σ H) (k : ∀ σ H, M σ H → u D σ H) : tSeq t u D σ H := mono _ _ k h
theorem g_next (h : D.nx σ H) : tNext D σ H := h
theorem g_nx (h : f σ H) : (Dn D f).nx σ H := h
theorem g_rt (h : D.rt v H) : (Dn D f).rt v H := h
theorem g_rt0 (h : Q v H) : (D0 Q).rt v H := h
theorem g_nx0 (h : Q .non H) : (D0 Q).nx σ H := h
theorem g_lnx (h : f σ H) : (Dl D f).nx σ H := h
theorem g_lct (h : f σ H) : (Dl D f).ct σ H := h
theorem g_lbk (h : D.nx σ H) : (Dl D f).bk σ H := h
theorem g_lrt (h : D.rt v H) : (Dl D f).rt v H := h
theorem g_bk (h : D.bk σ H) : (Dn D f).bk σ H := h
theorem g_ct (h : D.ct σ H) : (Dn D f).ct σ H := h
theorem g_break (h : D.bk σ H) : tBreak D σ H := h
theorem g_cont (h : D.ct σ H) : tCont D σ H := h
theorem g_asg {g : TG} (h : te σ H fun x H1 => g x σ H1 D.nx) : tAsg te g D σ H := h
theorem g_name (h : f (σ.set n (some v)) H) : gName n v σ H f := h
theorem g_sub {to ti : TE} {ts : TSet} (h : to σ H fun o H1 => ti σ H1 fun i H2 => ts o i v H2 fun H3 => f σ H3) : gSub to ti ts v σ H f := h
theorem g_setL {k : Int} {m : Nat} {F : Hp → Prop} (h : H p = some (.lst xs)) (a : ixN xs.length k = some m) (q : F (upd H p (.lst (xs.set m v)))) : rSetL (.ref p) (.int k) v H F := ⟨p, xs, k, m, rfl, rfl, h, a, q⟩
theorem g_ret (h : te σ H D.rt) : tRet te D σ H := h
theorem g_retN (h : D.rt .non H) : tRetN D σ H := h
theorem g_drop (h : te σ H fun _ H1 => D.nx σ H1) : tDrop te D σ H := h
theorem g_ifs (h : tt σ H fun b H1 => if b = true then t D σ H1 else u D σ H1) : tIfS tt t u D σ H := h
theorem g_aug {ti : TIp} (a : σ[n]? = some (some x)) (h : te σ H fun y H1 => ti x y H1 fun z H2 => D.nx (σ.set n (some z)) H2) : tAug n te ti D σ H := ⟨x, a, h⟩
theorem g_ipI {g : Int → Int → Int} (h : Q (.int (g i j)) H) : ipI g (.int i) (.int j) H Q := ⟨i, j, rfl, rfl, h⟩
theorem g_augS {to ti : TE} {tget : V → V → Hp → VK → Prop} {tip : TIp} {ts : TSet} (h : to σ H fun o H1 => ti σ H1 fun i H2 => tget o i H2 fun x H3 => te σ H3 fun y H4 => tip x y H4 fun z H5 => ts o i z H5 fun H6 => D.nx σ H6) : tAugS to ti te tget tip ts D σ H := h
theorem g_var (h : σ[n]? = some (some v)) (q : Q v H) : tVar n σ H Q := ⟨v, h, q⟩
theorem g_c (q : Q v H) : tC v σ H Q := q
theorem g_op (h : ta σ H fun x H1 => tb σ H1 fun y H2 => r x y H2 Q) : tOp r ta tb σ H Q := h
theorem g_un {r : V → Hp → VK → Prop} (h : ta σ H fun x H1 => r x H1 Q) : tUn r ta σ H Q := h
theorem g_neg (h : Q (.int (-i)) H) : rU (fun i => .int (-i)) (.int i) H Q := ⟨i, rfl, h⟩
theorem g_chain (h : ta σ H fun x H1 => tb σ H1 fun y H2 => r x y H2 fun z H3 => ∃ k, z = .bl k ∧ (if k = true then tc σ H3 fun w' H4 => r' y w' H4 Q else Q (.bl false) H3)) : tChain r r' ta tb tc σ H Q := h
theorem g_ch {A B : Bool → Prop} {k : Bool} (h : if k = true then A k else B k) : ∃ c, V.bl k = .bl c ∧ (if c = true then A c else B c) := ⟨k, rfl, h⟩
theorem g_test (h : te σ H fun x H1 => ∃ k, x = .bl k ∧ QB k H1) : tTest te σ H QB := h
theorem g_tB (h : te σ H fun x H1 => ∃ k, x = .bl k ∧ QB k H1) : tB te σ H QB := h
theorem g_kb {A : Bool → Prop} {k : Bool} (h : A k) : ∃ c, V.bl k = .bl c ∧ A c := ⟨k, rfl, h⟩
theorem g_and (h : tt1 σ H fun c H1 => if c = true then tt2 σ H1 QB else QB false H1) : tAnd tt1 tt2 σ H QB := h
theorem g_or (h : tt1 σ H fun c H1 => if c = true then QB true H1 else tt2 σ H1 QB) : tOr tt1 tt2 σ H QB := h
theorem g_not (h : tt σ H fun c H1 => QB (!c) H1) : tNot tt σ H QB := h
theorem g_andV (h : ta σ H fun x H1 => ∃ c, x = .bl c ∧ if c = true then tb σ H1 Q else Q (.bl false) H1) : tAndV ta tb σ H Q := h
theorem g_orV (h : ta σ H fun x H1 => ∃ c, x = .bl c ∧ if c = true then Q (.bl true) H1 else tb σ H1 Q) : tOrV ta tb σ H Q := h
theorem g_notV (h : ta σ H fun x H1 => ∃ c, x = .bl c ∧ Q (.bl (!c)) H1) : tNotV ta σ H Q := h
theorem g_if (h : tt σ H fun c H1 => if c = true then ta σ H1 Q else tb σ H1 Q) : tIf tt ta tb σ H Q := h
theorem g_T {A B : Prop} (h : A) : if true = true then A else B := iteT h
theorem g_F {A B : Prop} (h : B) : if false = true then A else B := iteF h
theorem g_nF {A B : Prop} (h : A) : if (!false) = true then A else B := iteT h
theorem g_nT {A B : Prop} (h : B) : if (!true) = true then A else B := iteF h
theorem g_dec {P A B : Prop} [Decidable P] (h1 : P → A) (h2 : ¬ P → B) : if decide P = true then A else B := ite2 (fun h => h1 (of_decide_eq_true h)) (fun h => h2 (fun z => h (decide_eq_true z)))
theorem g_ndec {P A B : Prop} [Decidable P] (h1 : ¬ P → A) (h2 : P → B) : if (!decide P) = true then A else B := by
  by_cases h : P
  · rw [decide_eq_true h]; exact iteF (h2 h)
  · rw [decide_eq_false h]; exact iteT (h1 h)
theorem g_decT {P A B : Prop} [Decidable P] (h : P) (a : A) : if decide P = true then A else B := g_dec (fun _ => a) (fun z => absurd h z)
theorem g_decF {P A B : Prop} [Decidable P] (h : ¬ P) (a : B) : if decide P = true then A else B := g_dec (fun z => absurd z h) (fun _ => a)
theorem g_ndecF {P A B : Prop} [Decidable P] (h : P) (a : B) : if (!decide P) = true then A else B := g_ndec (fun z => absurd h z) (fun _ => a)
theorem g_ndecT {P A B : Prop} [Decidable P] (h : ¬ P) (a : A) : if (!decide P) = true then A else B := g_ndec (fun _ => a) (fun z => absurd z h)
theorem g_nbl {k : Bool} {A B : Prop} (h : if k = true then B else A) : if (!k) = true then A else B := by cases k <;> exact h
theorem g_bl {k : Bool} {A B : Prop} (h1 : k = true → A) (h2 : k = false → B) : if k = true then A else B := by
  cases k
  · exact iteF (h2 rfl)
  · exact iteT (h1 rfl)
theorem g_nil (q : QA [] H) : tNil σ H QA := q
theorem g_cons {tr : TA} (h : ta σ H fun x H1 => tr σ H1 fun xs H2 => QA (x :: xs) H2) : tCons ta tr σ H QA := h
theorem g_tup {t : TA} (h : t σ H fun xs H1 => xs.length ≤ sizeLine ∧ ∀ p, H1 p = none → Q (.ref p) (upd H1 p (.tup xs))) : tTup t σ H Q := h
theorem g_lst {t : TA} (h : t σ H fun xs H1 => xs.length ≤ sizeLine ∧ ∀ p, H1 p = none → Q (.ref p) (upd H1 p (.lst xs))) : tLst t σ H Q := h
theorem g_new {A : Prop} (h : xs.length ≤ 1000) (q : A) : xs.length ≤ sizeLine ∧ A := ⟨sz (Nat.le_trans h (by decide)), q⟩
theorem g_call {sp : Sp} {dvs : List V} {E : XK} {t : TA} (h : t σ H fun vs H1 => sp (vs ++ dvs) H1 Q E) : tCall sp dvs E t σ H Q := h
theorem g_meth {C : Addr} {m : Str} {sp : Sp} {dvs : List V} {E : XK} {t : TA} (h : ta σ H fun x H1 => ∃ a dx fs, x = .ref a ∧ H1 a = some (.ins C dx fs) ∧ fs.lookup m = none ∧ t σ H1 fun vs H2 => sp (x :: (vs ++ dvs)) H2 Q E) : tMeth C m sp dvs E ta t σ H Q := h
theorem g_m {C a dx : Addr} {fs : List (Str × V)} {m : Str} {B : Prop} (h : H a = some (.ins C dx fs)) (l : fs.lookup m = none) (q : B) : ∃ a' dx fs, V.ref a = .ref a' ∧ H a' = some (.ins C dx fs) ∧ fs.lookup m = none ∧ B := ⟨a, dx, fs, rfl, h, l, q⟩
theorem g_make {C : Addr} {sp : Sp} {dvs : List V} {E : XK} {t : TA} (h : t σ H fun vs H1 => ∀ x dx, H1 x = none → H1 dx = none → dx ≠ x → sp (.ref x :: (vs ++ dvs)) (upd (upd H1 dx (.own x)) x (.ins C dx [])) (fun v H2 => v = .non ∧ Q (.ref x) H2) E) : tMake C sp dvs E t σ H Q := h
theorem g_fld {F : Str} (h : ta σ H fun x H1 => ∃ a C dx fs v, x = .ref a ∧ H1 a = some (.ins C dx fs) ∧ Cls K C ∧ NoAttr K C F ∧ fs.lookup F = some v ∧ Q v H1) : tFld K ta F σ H Q := h
theorem g_fl {a C dx : Addr} {fs : List (Str × V)} {F : Str} {B : V → Prop} (h : H a = some (.ins C dx fs)) (c : Cls K C) (nn : NoAttr K C F) (l : fs.lookup F = some v) (q : B v) : ∃ a' C dx fs v, V.ref a = .ref a' ∧ H a' = some (.ins C dx fs) ∧ Cls K C ∧ NoAttr K C F ∧ fs.lookup F = some v ∧ B v := ⟨a, C, dx, fs, v, rfl, h, c, nn, l, q⟩
theorem g_sfld {tv : TE} {F : Str} (h : tv σ H fun y H1 => ta σ H1 fun x H2 => ∃ a C dx fs, x = .ref a ∧ H2 a = some (.ins C dx fs) ∧ Cls K C ∧ NoAttr K C F ∧ fs.length < 1000 ∧ D.nx σ (upd H2 a (.ins C dx (putF F y fs)))) : sFld K ta tv F D σ H := h
theorem g_sf {a C dx : Addr} {fs : List (Str × V)} {F : Str} {B : Addr → Addr → Addr → List (Str × V) → Prop} (h : H a = some (.ins C dx fs)) (c : Cls K C) (nn : NoAttr K C F) (l : fs.length < 1000) (q : B a C dx fs) : ∃ a' C dx fs, V.ref a = .ref a' ∧ H a' = some (.ins C dx fs) ∧ Cls K C ∧ NoAttr K C F ∧ fs.length < 1000 ∧ B a' C dx fs := ⟨a, C, dx, fs, rfl, h, c, nn, l, q⟩
theorem g_cb {r : List V → Hp → VK → Prop} {t : TA} (h : t σ H fun vs H1 => r vs H1 Q) : tCB r t σ H Q := h
theorem g_ixL (h : SqL K H p xs) (a : atI xs i = some v) (q : Q v H) : rIxL K (.ref p) (.int i) H Q := ⟨p, xs, i, v, rfl, rfl, h, a, q⟩
theorem g_ixT (h : SqT K H p xs) (a : atI xs i = some v) (q : Q v H) : rIxT K (.ref p) (.int i) H Q := ⟨p, xs, i, v, rfl, rfl, h, a, q⟩
theorem g_ixS {z : Str} {k : Nat} (h : z.length ≤ sizeLine) (a : atI z.cps.toList i = some k) (q : Q (.str ⟨#[k]⟩) H) : rIxS (.str z) (.int i) H Q := ⟨z, i, k, rfl, rfl, h, a, q⟩
theorem g_lenL (h : SqL K H p xs) (q : Q (.int xs.length) H) : rLen K [.ref p] H Q := ⟨p, xs, rfl, .inl h, q⟩
theorem g_lenT (h : SqT K H p xs) (q : Q (.int xs.length) H) : rLen K [.ref p] H Q := ⟨p, xs, rfl, .inr h, q⟩
theorem g_lenS {z : Str} (h : z.length ≤ sizeLine) (q : Q (.int z.length) H) : rLenS [.str z] H Q := ⟨z, rfl, h, q⟩
theorem g_listL (h : SqL K H p xs) (q : ∀ l, H l = none → Q (.ref l) (upd H l (.lst xs))) : rListOf K [.ref p] H Q := ⟨p, xs, rfl, .inl h, q⟩
theorem g_listT (h : SqT K H p xs) (q : ∀ l, H l = none → Q (.ref l) (upd H l (.lst xs))) : rListOf K [.ref p] H Q := ⟨p, xs, rfl, .inr h, q⟩
theorem g_tupL (h : SqL K H p xs) (q : ∀ l, H l = none → Q (.ref l) (upd H l (.tup xs))) : rTupOf K [.ref p] H Q := ⟨p, xs, rfl, .inl ⟨h, q⟩⟩
theorem g_tupT (h : SqT K H p xs) (q : Q (.ref p) H) : rTupOf K [.ref p] H Q := ⟨p, xs, rfl, .inr ⟨h, q⟩⟩
theorem g_addS {a b : Str} (h : a.length + b.length ≤ sizeLine) (q : Q (.str (a ++ b)) H) : rAddS (.str a) (.str b) H Q := ⟨a, b, rfl, rfl, h, q⟩
theorem g_inS {k : Nat} {z : Str} (q : Q (.bl (decide (k ∈ z.cps.toList))) H) : rInS (.str ⟨#[k]⟩) (.str z) H Q := ⟨k, z, rfl, rfl, q⟩
theorem g_notInS {k : Nat} {z : Str} (q : Q (.bl (!decide (k ∈ z.cps.toList))) H) : rNotInS (.str ⟨#[k]⟩) (.str z) H Q := ⟨k, z, rfl, rfl, q⟩
theorem g_inV {neg : Bool} (h : SqL K H p xs ∨ SqT K H p xs) (hx : flatV x = true) (hs : xs.all flatV = true) (q : Q (.bl (if neg then !inV x xs else inV x xs)) H) : rIn K neg x (.ref p) H Q := ⟨p, xs, rfl, h, hx, hs, q⟩
theorem g_isN (q : Q (.bl (decide (x = .non))) H) : rIsN x .non H Q := ⟨rfl, q⟩
theorem g_isNn (q : Q (.bl true) H) : rIsN .non .non H Q := ⟨rfl, q⟩
theorem g_isNi (q : Q (.bl false) H) : rIsN (.int i) .non H Q := ⟨rfl, q⟩
theorem g_isNb {k : Bool} (q : Q (.bl false) H) : rIsN (.bl k) .non H Q := ⟨rfl, q⟩
theorem g_isNs {z : Str} (q : Q (.bl false) H) : rIsN (.str z) .non H Q := ⟨rfl, q⟩
theorem g_isNr (q : Q (.bl false) H) : rIsN (.ref p) .non H Q := ⟨rfl, q⟩
theorem g_notNn (q : Q (.bl false) H) : rNotN .non .non H Q := ⟨rfl, q⟩
theorem g_notNi (q : Q (.bl true) H) : rNotN (.int i) .non H Q := ⟨rfl, q⟩
theorem g_notNb {k : Bool} (q : Q (.bl true) H) : rNotN (.bl k) .non H Q := ⟨rfl, q⟩
theorem g_notNs {z : Str} (q : Q (.bl true) H) : rNotN (.str z) .non H Q := ⟨rfl, q⟩
theorem g_notNr (q : Q (.bl true) H) : rNotN (.ref p) .non H Q := ⟨rfl, q⟩
theorem g_isB {k : Bool} (q : Q (.bl (decide (x = .bl k))) H) : rIsBl false x (.bl k) H Q := ⟨k, rfl, q⟩
theorem g_abs (q : Q (.int (if i < 0 then -i else i)) H) : rAbs [.int i] H Q := ⟨i, rfl, q⟩
theorem g_max2 (q : Q (.int (if j > i then j else i)) H) : rMax2 [.int i, .int j] H Q := ⟨i, j, rfl, q⟩
theorem g_min2 (q : Q (.int (if j < i then j else i)) H) : rMin2 [.int i, .int j] H Q := ⟨i, j, rfl, q⟩
theorem g_int1 (q : Q (.int i) H) : rInt1 [.int i] H Q := .inl ⟨i, rfl, q⟩
theorem g_intB {k : Bool} (q : Q (.int (if k then 1 else 0)) H) : rInt1 [.bl k] H Q := .inr ⟨k, rfl, q⟩
theorem g_I0 {g : Int → Int → V} (q : Q (g i j) H) : rI0 g (.int i) (.int j) H Q := ⟨i, j, rfl, rfl, q⟩
theorem g_I {C : Int → Int → Prop} {g : Int → Int → V} (c : C i j) (q : Q (g i j) H) : rI C g (.int i) (.int j) H Q := ⟨i, j, rfl, rfl, c, q⟩
theorem g_eqI (q : Q (.bl (decide (i = j))) H) : rEq (.int i) (.int j) H Q := ⟨rfl, by rw [dec_int, Bool.beq_eq_decide_eq]; exact q⟩
theorem g_eqS {a b : Str} (q : Q (.bl (decide (a = b))) H) : rEq (.str a) (.str b) H Q := ⟨rfl, by rw [dec_str, Bool.beq_eq_decide_eq]; exact q⟩
theorem g_eqB {a b : Bool} (q : Q (.bl (decide (a = b))) H) : rEq (.bl a) (.bl b) H Q := ⟨rfl, by rw [dec_bl, Bool.beq_eq_decide_eq]; exact q⟩
theorem g_neI (q : Q (.bl (!decide (i = j))) H) : rNe (.int i) (.int j) H Q := ⟨rfl, by rw [dec_int, Bool.beq_eq_decide_eq]; exact q⟩
theorem g_neS {a b : Str} (q : Q (.bl (!decide (a = b))) H) : rNe (.str a) (.str b) H Q := ⟨rfl, by rw [dec_str, Bool.beq_eq_decide_eq]; exact q⟩
theorem g_neB {a b : Bool} (q : Q (.bl (!decide (a = b))) H) : rNe (.bl a) (.bl b) H Q := ⟨rfl, by rw [dec_bl, Bool.beq_eq_decide_eq]; exact q⟩
theorem g_i_nn_bool (q : Q (.bl false) H) : rIsi K [.non, .ty "bool"] H Q := isi TyOf.non kb_nn_bool q
theorem g_i_nn_int (q : Q (.bl false) H) : rIsi K [.non, .ty "int"] H Q := isi TyOf.non kb_nn_int q
theorem g_i_nn_str (q : Q (.bl false) H) : rIsi K [.non, .ty "str"] H Q := isi TyOf.non kb_nn_str q
theorem g_i_bl_bool {k : Bool} (q : Q (.bl true) H) : rIsi K [.bl k, .ty "bool"] H Q := isi (TyOf.bl _) kb_bl_bool q
theorem g_i_bl_int {k : Bool} (q : Q (.bl true) H) : rIsi K [.bl k, .ty "int"] H Q := isi (TyOf.bl _) kb_bl_int q
theorem g_i_bl_str {k : Bool} (q : Q (.bl false) H) : rIsi K [.bl k, .ty "str"] H Q := isi (TyOf.bl _) kb_bl_str q
theorem g_i_int_bool (q : Q (.bl false) H) : rIsi K [.int i, .ty "bool"] H Q := isi (TyOf.int _) kb_int_bool q
theorem g_i_int_int (q : Q (.bl true) H) : rIsi K [.int i, .ty "int"] H Q := isi (TyOf.int _) kb_int_int q
theorem g_i_int_str (q : Q (.bl false) H) : rIsi K [.int i, .ty "str"] H Q := isi (TyOf.int _) kb_int_str q
theorem g_i_str_bool {z : Str} (q : Q (.bl false) H) : rIsi K [.str z, .ty "bool"] H Q := isi (TyOf.str _) kb_str_bool q
theorem g_i_str_int {z : Str} (q : Q (.bl false) H) : rIsi K [.str z, .ty "int"] H Q := isi (TyOf.str _) kb_str_int q
theorem g_i_str_str {z : Str} (q : Q (.bl true) H) : rIsi K [.str z, .ty "str"] H Q := isi (TyOf.str _) kb_str_str q
theorem g_isi {n : String} (h : rIsi K [x, .ty n] H Q) : rIsi K [x, .ty n] H Q := h
theorem g_part {QO : Option Int → Hp → Prop} (h : te σ H fun x H1 => ∃ i, x = .int i ∧ QO (some i) H1) : tPart te σ H QO := h
theorem g_pi {A : Int → Prop} (h : A i) : ∃ k, V.int i = .int k ∧ A k := ⟨i, rfl, h⟩
theorem g_nopart {QO : Option Int → Hp → Prop} (h : QO none H) : tNoPart σ H QO := h
theorem g_sl {r : V → Option Int → Option Int → Hp → VK → Prop} {tl th : TO} (h : te σ H fun x H1 => tl σ H1 fun l H2 => th σ H2 fun u H3 => r x l u H3 Q) : tSl r te tl th σ H Q := h
theorem g_slL {lo hi : Option Int} (h : SqL K H p xs) (q : ∀ l, H l = none → Q (.ref l) (upd H l (.lst (cutV xs lo hi)))) : rSlL K (.ref p) lo hi H Q := ⟨p, xs, rfl, h, q⟩
theorem g_cat {p q : Addr} {zs : List V} (h : H p = some (.lst xs)) (h2 : H q = some (.lst zs)) (l : xs.length + zs.length ≤ sizeLine) (k : ∀ l, H l = none → Q (.ref l) (upd H l (.lst (xs ++ zs)))) : rCat (.ref p) (.ref q) H Q := ⟨p, q, xs, zs, rfl, rfl, h, h2, l, k⟩
theorem g_bm {T : String} {r : V → List V → Hp → VK → Prop} {to : TE} {t : TA} (h : to σ H fun x H1 => tyV K T x H1 ∧ t σ H1 fun xs H2 => r x xs H2 Q) : tBM K T r to t σ H Q := h
theorem g_bm0 {T : String} {r : V → List V → Hp → VK → Prop} {to : TE} (h : to σ H fun x H1 => tyV K T x H1 ∧ r x [] H1 Q) : tBM0 K T r to σ H Q := h
theorem g_tyL {B : Prop} (h : SqL K H p xs) (q : B) : tyV K "list" (.ref p) H ∧ B := ⟨.inl ⟨rfl, _, h⟩, q⟩
theorem g_append (h : H p = some (.lst xs)) (l : xs.length < sizeLine) (q : Q .non (upd H p (.lst (xs ++ [v])))) : rAppend (.ref p) [v] H Q := ⟨p, xs, v, rfl, rfl, h, l, q⟩
theorem g_m1 {r : V → List V → Hp → VK → Prop} {to : TE} (h : to σ H fun x H1 => (∃ a, x = .str a) ∧ te σ H1 fun y H2 => r x [y] H2 Q) : tM1 r to te σ H Q := h
theorem g_str {z : Str} {B : Prop} (q : B) : (∃ a, V.str z = .str a) ∧ B := ⟨⟨z, rfl⟩, q⟩
theorem g_for {wi : TI} {g : TG} (h : wi σ H fun J H1 => ∃ W : Nat → Nat → L2.St → Hp → Prop, (∃ m, W 0 m σ H1) ∧ ∀ i m σ H, W i m σ H →
  (J.stop i H ∧ D.nx σ H) ∨ (J.go i H ∧ ∃ N : L2.St → Hp → Prop, (∀ σ' H', N σ' H' → ∃ m', m' < m ∧ W (i + 1) m' σ' H') ∧ ∀ x H', J.yld i H x H' → g x σ H' fun σ2 H2 => t (Dl D N) σ2 H2)) : tFor wi g t D σ H := h
theorem g_forR {lo : Int} {m : Nat} {g : TG} (Pv : Nat → L2.St → Hp → Prop) (h0 : Pv 0 σ H) (hs : ∀ i σ H, i < m → Pv i σ H → g (.int (lo + i)) σ H fun σ2 H2 => t (Dl D (Pv (i + 1))) σ2 H2) (hd : ∀ σ H, Pv m σ H → D.nx σ H) :
    ∃ W : Nat → Nat → L2.St → Hp → Prop, (∃ m, W 0 m σ H) ∧ ∀ i m' σ H, W i m' σ H →
      ((Itr lo m).stop i H ∧ D.nx σ H) ∨ ((Itr lo m).go i H ∧ ∃ N : L2.St → Hp → Prop, (∀ σ' H', N σ' H' → ∃ m'', m'' < m' ∧ W (i + 1) m'' σ' H') ∧ ∀ x H', (Itr lo m).yld i H x H' → g x σ H' fun σ2 H2 => t (Dl D N) σ2 H2) := for_range (D := D) Pv h0 hs hd
theorem g_forL {g : TG} (Pv : Nat → L2.St → Hp → Prop) (h0 : Pv 0 σ H) (hl : ∀ i σ H, i ≤ xs.length → Pv i σ H → SqL K H p xs) (hs : ∀ i x σ H, xs[i]? = some x → Pv i σ H → g x σ H fun σ2 H2 => t (Dl D (Pv (i + 1))) σ2 H2) (hd : ∀ σ H, Pv xs.length σ H → D.nx σ H) :
    ∃ W : Nat → Nat → L2.St → Hp → Prop, (∃ m, W 0 m σ H) ∧ ∀ i m' σ H, W i m' σ H →
      ((Itl K p).stop i H ∧ D.nx σ H) ∨ ((Itl K p).go i H ∧ ∃ N : L2.St → Hp → Prop, (∀ σ' H', N σ' H' → ∃ m'', m'' < m' ∧ W (i + 1) m'' σ' H') ∧ ∀ x H', (Itl K p).yld i H x H' → g x σ H' fun σ2 H2 => t (Dl D N) σ2 H2) := for_list (D := D) Pv h0 hl hs hd
theorem g_forT {g : TG} (Pv : Nat → L2.St → Hp → Prop) (h0 : Pv 0 σ H) (hl : ∀ i σ H, i ≤ xs.length → Pv i σ H → SqT K H p xs) (hs : ∀ i x σ H, xs[i]? = some x → Pv i σ H → g x σ H fun σ2 H2 => t (Dl D (Pv (i + 1))) σ2 H2) (hd : ∀ σ H, Pv xs.length σ H → D.nx σ H) :
    ∃ W : Nat → Nat → L2.St → Hp → Prop, (∃ m, W 0 m σ H) ∧ ∀ i m' σ H, W i m' σ H →
      ((Itt K p).stop i H ∧ D.nx σ H) ∨ ((Itt K p).go i H ∧ ∃ N : L2.St → Hp → Prop, (∀ σ' H', N σ' H' → ∃ m'', m'' < m' ∧ W (i + 1) m'' σ' H') ∧ ∀ x H', (Itt K p).yld i H x H' → g x σ H' fun σ2 H2 => t (Dl D N) σ2 H2) := for_tup (D := D) Pv h0 hl hs hd
theorem g_iRng1 {R : It → Hp → Prop} {t : TA} (h : t σ H fun vs H1 => ∃ j : Int, vs = [.int j] ∧ -(2 ^ 62) ≤ j ∧ j < 2 ^ 62 ∧ R (Itr 0 j.toNat) H1) : iRng1 t σ H R := h
theorem g_r1 {B : Int → Prop} (h0 : -(2 ^ 62) ≤ i) (h1 : i < 2 ^ 62) (h : B i) : ∃ j : Int, [V.int i] = [.int j] ∧ -(2 ^ 62) ≤ j ∧ j < 2 ^ 62 ∧ B j := ⟨i, rfl, h0, h1, h⟩
theorem g_iRng2 {R : It → Hp → Prop} {t : TA} (h : t σ H fun vs H1 => ∃ i j : Int, vs = [.int i, .int j] ∧ (-(2 ^ 62) ≤ i ∧ i < 2 ^ 62 ∧ -(2 ^ 62) ≤ j ∧ j < 2 ^ 62) ∧ R (Itr i (j - i).toNat) H1) : iRng2 t σ H R := h
theorem g_r2 {B : Int → Int → Prop} (h0 : -(2 ^ 62) ≤ i ∧ i < 2 ^ 62 ∧ -(2 ^ 62) ≤ j ∧ j < 2 ^ 62) (h : B i j) : ∃ i' j' : Int, [V.int i, V.int j] = [.int i', .int j'] ∧ (-(2 ^ 62) ≤ i' ∧ i' < 2 ^ 62 ∧ -(2 ^ 62) ≤ j' ∧ j' < 2 ^ 62) ∧ B i' j' := ⟨i, j, rfl, h0, h⟩
theorem g_iList {R : It → Hp → Prop} (h : te σ H fun x H1 => ∃ a, x = .ref a ∧ (∃ xs, SqL K H1 a xs) ∧ R (Itl K a) H1) : iList K te σ H R := h
theorem g_il {B : Addr → Prop} (h : SqL K H p xs) (q : B p) : ∃ a, V.ref p = .ref a ∧ (∃ xs, SqL K H a xs) ∧ B a := ⟨p, rfl, ⟨xs, h⟩, q⟩
theorem g_iTup {R : It → Hp → Prop} (h : te σ H fun x H1 => ∃ a, x = .ref a ∧ (∃ xs, SqT K H1 a xs) ∧ R (Itt K a) H1) : iTup K te σ H R := h
theorem g_it {B : Addr → Prop} (h : SqT K H p xs) (q : B p) : ∃ a, V.ref p = .ref a ∧ (∃ xs, SqT K H a xs) ∧ B a := ⟨p, rfl, ⟨xs, h⟩, q⟩
theorem g_gtup {n : Nat} {u : TGs} (h : SqT K H p xs) (l : xs.length = n) (q : u xs σ H f) : gTup K n u (.ref p) σ H f := ⟨p, xs, rfl, h, l, q⟩
theorem g_gcons {g : TG} {u : TGs} {zs : List V} (q : g v σ H fun σ' H' => u zs σ' H' f) : gCons g u (v :: zs) σ H f := ⟨v, zs, rfl, q⟩
theorem g_gnil (q : f σ H) : gNil [] σ H f := ⟨rfl, q⟩
theorem g_isBn {k : Bool} (q : Q (.bl false) H) : rIsBl false .non (.bl k) H Q := ⟨k, rfl, q⟩
theorem g_isBb {k m : Bool} (q : Q (.bl (decide (m = k))) H) : rIsBl false (.bl m) (.bl k) H Q := ⟨k, rfl, by show Q (.bl (decide (V.bl m = V.bl k))) H; rw [dB]; exact q⟩
theorem g_isBi {k : Bool} (q : Q (.bl false) H) : rIsBl false (.int i) (.bl k) H Q := ⟨k, rfl, q⟩
theorem g_isBs {k : Bool} {z : Str} (q : Q (.bl false) H) : rIsBl false (.str z) (.bl k) H Q := ⟨k, rfl, q⟩
theorem g_catA {a b : Addr} {zs : List V} (h1 : SqT K H a xs) (h2 : H b = some (.tup zs)) (l : xs.length + zs.length ≤ sizeLine) (ne : zs ≠ []) (q : ∀ q H', Same H H' → H' q = some (.tup (xs ++ zs)) → Q (.ref q) H') : rCatA K (.ref a) (.ref b) H Q :=
  ⟨a, b, xs, zs, rfl, rfl, h1, .inl (.inl h2), l, fun e => q b H (Same.refl H) (by rw [e]; exact h2), fun _ z => absurd z ne, fun _ _ p np => q p _ (Same.new (Same.refl H) np) upd_same⟩
theorem g_yes (h : QB true H) : tYes σ H QB := h
theorem g_lc {wi : TI} {g : TG} {vs : List Nat} (h : wi σ H fun J H1 => ∀ D, H1 D = none → ∃ W : Nat → Nat → Hp → Prop, (∃ m, W 0 m (upd H1 D (.lst []))) ∧ ∀ i m H, W i m H →
  (J.stop i H ∧ Q (.ref D) H) ∨ (J.go i H ∧ ∃ Nx : Hp → Prop, (∀ H', Nx H' → ∃ m', m' < m ∧ W (i + 1) m' H') ∧ ∀ x H', J.yld i H x H' → g x (wipe σ vs) H' fun σ2 H2 => wipe σ2 vs = wipe σ vs ∧ tt σ2 H2 fun b H3 =>
    if b = true then te σ2 H3 fun y H4 => ∃ acc, H4 D = some (.lst acc) ∧ acc.length < sizeLine ∧ Nx (upd H4 D (.lst (acc ++ [y]))) else Nx H3)) : tLc wi g tt te vs σ H Q := h
theorem g_wipe {σ2 : L2.St} {vs : List Nat} {B : Prop} (h : wipe σ2 vs = wipe σ vs) (q : B) : wipe σ2 vs = wipe σ vs ∧ B := ⟨h, q⟩
end

/-! texts -/
def cd (z : Str) : List Nat := z.cps.toList
theorem cd_app (a b : Str) : cd (a ++ b) = cd a ++ cd b := by
  show (a.cps ++ b.cps).toList = a.cps.toList ++ b.cps.toList
  simp
theorem cd_len (a : Str) : (cd a).length = a.length := Array.length_toList
theorem cd_ext {a b : Str} (h : cd a = cd b) : a = b := by
  cases a with | mk x => cases b with | mk y =>
    have e : x = y := Array.toList_inj.mp h
    rw [e]
theorem cd_nil : cd "" = [] := by decide +kernel
theorem join_cd : ∀ l : List Str, cd (Txt.join "" l) = (l.map cd).flatten
  | [] => by rw [TL.join_eq]; rfl
  | [x] => by rw [TL.join_eq]; show cd x = (cd x :: []).flatten; simp
  | x :: y :: r => by
    rw [TL.join_eq]
    show cd (x ++ ("" : Str) ++ PySem.Str.join "" (y :: r)) = cd x ++ ((y :: r).map cd).flatten
    rw [cd_app, cd_app, cd_nil, List.append_nil, ← join_cd (y :: r), TL.join_eq]
theorem join_len (l : List Str) : (Txt.join "" l).length = (l.map (·.length)).sum := by
  rw [← cd_len, join_cd, List.length_flatten, List.map_map]
  congr 1

/-! order of tuples, the first pair that differs decides (pairs behind it need not be comparable) -/
namespace TupO
open PySem.SeqAt
open PySem.AutoSeq1 (wpAny_loadPart')
open PySem.MeetsSeq PySem.MeetsSeq2 PySem.MeetsSeq3

theorem at_lt (l b : Addr) (xs ys : Array Value) (n1 n2 : Nat) (d1 d2 : Option Addr) (sl1 sl2 : Array (Option Value)) (e r : Nat → Bool) :
    Meets (Builtin.«tuple.__lt__» ⟨[.ref l, .ref b], []⟩)
      (fun A R s => s.heap.get? l = some { cls := .type "tuple", dict := d1, data := .seq xs n1, slots := sl1 } ∧ s.heap.get? b = some { cls := .type "tuple", dict := d2, data := .seq ys n2, slots := sl2 } ∧
        (∀ j (h1 : j < xs.size) (h2 : j < ys.size), EqAt A.in1 s xs[j] ys[j] (e j)) ∧
        (∀ j (h1 : j < xs.size) (h2 : j < ys.size), (∀ m, m < j → e m = true) → e j = false → Ob.RcOp .Lt A.in1 s xs[j] ys[j] (r j)) ∧
        R (.ok (.ret (.bool (Ob.lexAt e r (decide (xs.size < ys.size)) 0 (min xs.size ys.size))))) s) :=
  .of_wp fun prog w A R s h => by
    obtain ⟨hp, gs, dr, tk, os⟩ := s; obtain ⟨hl, hb, he, hr, hR0⟩ := h
    have sub := AutoSeq1.sub_tuple_tuple
    have lenZ : (xs.toList.zip ys.toList).length = min xs.size ys.size := by simp
    wp_walk using wpAny_loadPart' hl, wpAny_loadPart' hb, wpAny_forIn_list _ (fun left c s' => c.1 = none ∧ s' = ⟨hp, gs, dr, tk, os⟩ ∧ ∃ i, left = (xs.toList.zip ys.toList).drop i ∧ (∀ m, m < i → e m = true) ∧
      R (.ok (.ret (.bool (Ob.lexAt e r (decide (xs.size < ys.size)) i (min xs.size ys.size - i))))) ⟨hp, gs, dr, tk, os⟩) _
    case turn =>
      rintro ⟨y, x⟩ left c s' ⟨hc', rfl, i, hz, hprev, hR⟩
      have lt0 : i < (xs.toList.zip ys.toList).length := by
        rcases Nat.lt_or_ge i (xs.toList.zip ys.toList).length with q | q
        · exact q
        · rw [List.drop_of_length_le q] at hz; cases hz
      have lt1 : i < min xs.size ys.size := lenZ ▸ lt0
      have h1 : i < xs.size := Nat.lt_of_lt_of_le lt1 (Nat.min_le_left _ _)
      have h2 : i < ys.size := Nat.lt_of_lt_of_le lt1 (Nat.min_le_right _ _)
      rw [List.drop_eq_getElem_cons lt0] at hz
      injection hz with hyx hleft
      have hy : y = xs[i] := by simpa using congrArg Prod.fst hyx
      have hx : x = ys[i] := by simpa using congrArg Prod.snd hyx
      subst hy hx
      rw [show min xs.size ys.size - i = (min xs.size ys.size - (i + 1)) + 1 by omega, Ob.lexAt_succ] at hR
      refine wpAny_bind (he i h1 h2 prog w _ _ ?_)
      cases hei : e i with
      | true =>
        rw [hei, if_pos rfl] at hR
        wp_walk
        refine ⟨rfl, rfl, i + 1, hleft, fun m hm => ?_, hR⟩
        rcases Nat.lt_succ_iff_lt_or_eq.mp hm with q | q
        · exact hprev m q
        · rw [q]; exact hei
      | false =>
        rw [hei, if_neg Bool.false_ne_true] at hR
        have hri := hr i h1 h2 hprev hei prog w
        wp_walk using hri
        exact ⟨_, rfl, by simpa using hR⟩
    case fin =>
      rintro ⟨c1, c2⟩ s' ⟨hc', rfl, i, hz, _, hR⟩
      simp only at hc'
      subst hc'
      have hge : min xs.size ys.size ≤ i := by
        rcases Nat.lt_or_ge i (xs.toList.zip ys.toList).length with q | q
        · rw [List.drop_eq_getElem_cons q] at hz; cases hz
        · exact lenZ ▸ q
      rw [Nat.sub_eq_zero_of_le hge, Ob.lexAt_zero] at hR
      wp_walk
      exact ⟨_, rfl, by simpa [Builtin.Tuple.tupleCompareSizes] using hR⟩
    case h =>
      exact ⟨rfl, rfl, 0, rfl, fun m hm => absurd hm (Nat.not_lt_zero m), by simpa using hR0⟩
theorem rc_lt {A : Around} {s : Shared} {l b : Addr} {xs ys : Array Value} {e r : Nat → Bool} (hl : s.heap.IsTuple l xs) (hb : s.heap.IsTuple b ys) (hu : A.units < cLine)
    (he : ∀ j (h1 : j < xs.size) (h2 : j < ys.size), EqAt A.in1 s xs[j] ys[j] (e j))
    (hr : ∀ j (h1 : j < xs.size) (h2 : j < ys.size), (∀ m, m < j → e m = true) → e j = false → Ob.RcOp .Lt A.in1 s xs[j] ys[j] (r j)) :
    Ob.RcOp .Lt A s (.ref l) (.ref b) (Ob.lexAt e r (decide (xs.size < ys.size)) 0 (min xs.size ys.size)) := fun prog w E Q h => by
  obtain ⟨⟨k1, d1, q1, sl1⟩, ho1, hc1, n1, hd1⟩ := id hl
  obtain ⟨⟨k2, d2, q2, sl2⟩, ho2, hc2, n2, hd2⟩ := id hb
  simp only at hc1 hd1 hc2 hd2
  subst hc1 hd1 hc2 hd2
  exact richCompare_meets_room (op := .Lt) ⟨_, ho1, rfl⟩ ⟨_, ho2, rfl⟩ F.slot_tuple_lt F.entry_tuple_lt (F.args_tuple_lt_2 _ _) (at_lt l b xs ys n1 n2 d1 d2 sl1 sl2 e r)
    ⟨ho1, ho2, he, hr, ⟨(fun x => nomatch x), h⟩⟩ hu

theorem at_le (l b : Addr) (xs ys : Array Value) (n1 n2 : Nat) (d1 d2 : Option Addr) (sl1 sl2 : Array (Option Value)) (e r : Nat → Bool) :
    Meets (Builtin.«tuple.__le__» ⟨[.ref l, .ref b], []⟩)
      (fun A R s => s.heap.get? l = some { cls := .type "tuple", dict := d1, data := .seq xs n1, slots := sl1 } ∧ s.heap.get? b = some { cls := .type "tuple", dict := d2, data := .seq ys n2, slots := sl2 } ∧
        (∀ j (h1 : j < xs.size) (h2 : j < ys.size), EqAt A.in1 s xs[j] ys[j] (e j)) ∧
        (∀ j (h1 : j < xs.size) (h2 : j < ys.size), (∀ m, m < j → e m = true) → e j = false → Ob.RcOp .LtE A.in1 s xs[j] ys[j] (r j)) ∧
        R (.ok (.ret (.bool (Ob.lexAt e r (decide (xs.size ≤ ys.size)) 0 (min xs.size ys.size))))) s) :=
  .of_wp fun prog w A R s h => by
    obtain ⟨hp, gs, dr, tk, os⟩ := s; obtain ⟨hl, hb, he, hr, hR0⟩ := h
    have sub := AutoSeq1.sub_tuple_tuple
    have lenZ : (xs.toList.zip ys.toList).length = min xs.size ys.size := by simp
    wp_walk using wpAny_loadPart' hl, wpAny_loadPart' hb, wpAny_forIn_list _ (fun left c s' => c.1 = none ∧ s' = ⟨hp, gs, dr, tk, os⟩ ∧ ∃ i, left = (xs.toList.zip ys.toList).drop i ∧ (∀ m, m < i → e m = true) ∧
      R (.ok (.ret (.bool (Ob.lexAt e r (decide (xs.size ≤ ys.size)) i (min xs.size ys.size - i))))) ⟨hp, gs, dr, tk, os⟩) _
    case turn =>
      rintro ⟨y, x⟩ left c s' ⟨hc', rfl, i, hz, hprev, hR⟩
      have lt0 : i < (xs.toList.zip ys.toList).length := by
        rcases Nat.lt_or_ge i (xs.toList.zip ys.toList).length with q | q
        · exact q
        · rw [List.drop_of_length_le q] at hz; cases hz
      have lt1 : i < min xs.size ys.size := lenZ ▸ lt0
      have h1 : i < xs.size := Nat.lt_of_lt_of_le lt1 (Nat.min_le_left _ _)
      have h2 : i < ys.size := Nat.lt_of_lt_of_le lt1 (Nat.min_le_right _ _)
      rw [List.drop_eq_getElem_cons lt0] at hz
      injection hz with hyx hleft
      have hy : y = xs[i] := by simpa using congrArg Prod.fst hyx
      have hx : x = ys[i] := by simpa using congrArg Prod.snd hyx
      subst hy hx
      rw [show min xs.size ys.size - i = (min xs.size ys.size - (i + 1)) + 1 by omega, Ob.lexAt_succ] at hR
      refine wpAny_bind (he i h1 h2 prog w _ _ ?_)
      cases hei : e i with
      | true =>
        rw [hei, if_pos rfl] at hR
        wp_walk
        refine ⟨rfl, rfl, i + 1, hleft, fun m hm => ?_, hR⟩
        rcases Nat.lt_succ_iff_lt_or_eq.mp hm with q | q
        · exact hprev m q
        · rw [q]; exact hei
      | false =>
        rw [hei, if_neg Bool.false_ne_true] at hR
        have hri := hr i h1 h2 hprev hei prog w
        wp_walk using hri
        exact ⟨_, rfl, by simpa using hR⟩
    case fin =>
      rintro ⟨c1, c2⟩ s' ⟨hc', rfl, i, hz, _, hR⟩
      simp only at hc'
      subst hc'
      have hge : min xs.size ys.size ≤ i := by
        rcases Nat.lt_or_ge i (xs.toList.zip ys.toList).length with q | q
        · rw [List.drop_eq_getElem_cons q] at hz; cases hz
        · exact lenZ ▸ q
      rw [Nat.sub_eq_zero_of_le hge, Ob.lexAt_zero] at hR
      wp_walk
      exact ⟨_, rfl, by simpa [Builtin.Tuple.tupleCompareSizes] using hR⟩
    case h =>
      exact ⟨rfl, rfl, 0, rfl, fun m hm => absurd hm (Nat.not_lt_zero m), by simpa using hR0⟩
theorem rc_le {A : Around} {s : Shared} {l b : Addr} {xs ys : Array Value} {e r : Nat → Bool} (hl : s.heap.IsTuple l xs) (hb : s.heap.IsTuple b ys) (hu : A.units < cLine)
    (he : ∀ j (h1 : j < xs.size) (h2 : j < ys.size), EqAt A.in1 s xs[j] ys[j] (e j))
    (hr : ∀ j (h1 : j < xs.size) (h2 : j < ys.size), (∀ m, m < j → e m = true) → e j = false → Ob.RcOp .LtE A.in1 s xs[j] ys[j] (r j)) :
    Ob.RcOp .LtE A s (.ref l) (.ref b) (Ob.lexAt e r (decide (xs.size ≤ ys.size)) 0 (min xs.size ys.size)) := fun prog w E Q h => by
  obtain ⟨⟨k1, d1, q1, sl1⟩, ho1, hc1, n1, hd1⟩ := id hl
  obtain ⟨⟨k2, d2, q2, sl2⟩, ho2, hc2, n2, hd2⟩ := id hb
  simp only at hc1 hd1 hc2 hd2
  subst hc1 hd1 hc2 hd2
  exact richCompare_meets_room (op := .LtE) ⟨_, ho1, rfl⟩ ⟨_, ho2, rfl⟩ F.slot_tuple_le F.entry_tuple_le (F.args_tuple_le_2 _ _) (at_le l b xs ys n1 n2 d1 d2 sl1 sl2 e r)
    ⟨ho1, ho2, he, hr, ⟨(fun x => nomatch x), h⟩⟩ hu

theorem at_gt (l b : Addr) (xs ys : Array Value) (n1 n2 : Nat) (d1 d2 : Option Addr) (sl1 sl2 : Array (Option Value)) (e r : Nat → Bool) :
    Meets (Builtin.«tuple.__gt__» ⟨[.ref l, .ref b], []⟩)
      (fun A R s => s.heap.get? l = some { cls := .type "tuple", dict := d1, data := .seq xs n1, slots := sl1 } ∧ s.heap.get? b = some { cls := .type "tuple", dict := d2, data := .seq ys n2, slots := sl2 } ∧
        (∀ j (h1 : j < xs.size) (h2 : j < ys.size), EqAt A.in1 s xs[j] ys[j] (e j)) ∧
        (∀ j (h1 : j < xs.size) (h2 : j < ys.size), (∀ m, m < j → e m = true) → e j = false → Ob.RcOp .Gt A.in1 s xs[j] ys[j] (r j)) ∧
        R (.ok (.ret (.bool (Ob.lexAt e r (decide (xs.size > ys.size)) 0 (min xs.size ys.size))))) s) :=
  .of_wp fun prog w A R s h => by
    obtain ⟨hp, gs, dr, tk, os⟩ := s; obtain ⟨hl, hb, he, hr, hR0⟩ := h
    have sub := AutoSeq1.sub_tuple_tuple
    have lenZ : (xs.toList.zip ys.toList).length = min xs.size ys.size := by simp
    wp_walk using wpAny_loadPart' hl, wpAny_loadPart' hb, wpAny_forIn_list _ (fun left c s' => c.1 = none ∧ s' = ⟨hp, gs, dr, tk, os⟩ ∧ ∃ i, left = (xs.toList.zip ys.toList).drop i ∧ (∀ m, m < i → e m = true) ∧
      R (.ok (.ret (.bool (Ob.lexAt e r (decide (xs.size > ys.size)) i (min xs.size ys.size - i))))) ⟨hp, gs, dr, tk, os⟩) _
    case turn =>
      rintro ⟨y, x⟩ left c s' ⟨hc', rfl, i, hz, hprev, hR⟩
      have lt0 : i < (xs.toList.zip ys.toList).length := by
        rcases Nat.lt_or_ge i (xs.toList.zip ys.toList).length with q | q
        · exact q
        · rw [List.drop_of_length_le q] at hz; cases hz
      have lt1 : i < min xs.size ys.size := lenZ ▸ lt0
      have h1 : i < xs.size := Nat.lt_of_lt_of_le lt1 (Nat.min_le_left _ _)
      have h2 : i < ys.size := Nat.lt_of_lt_of_le lt1 (Nat.min_le_right _ _)
      rw [List.drop_eq_getElem_cons lt0] at hz
      injection hz with hyx hleft
      have hy : y = xs[i] := by simpa using congrArg Prod.fst hyx
      have hx : x = ys[i] := by simpa using congrArg Prod.snd hyx
      subst hy hx
      rw [show min xs.size ys.size - i = (min xs.size ys.size - (i + 1)) + 1 by omega, Ob.lexAt_succ] at hR
      refine wpAny_bind (he i h1 h2 prog w _ _ ?_)
      cases hei : e i with
      | true =>
        rw [hei, if_pos rfl] at hR
        wp_walk
        refine ⟨rfl, rfl, i + 1, hleft, fun m hm => ?_, hR⟩
        rcases Nat.lt_succ_iff_lt_or_eq.mp hm with q | q
        · exact hprev m q
        · rw [q]; exact hei
      | false =>
        rw [hei, if_neg Bool.false_ne_true] at hR
        have hri := hr i h1 h2 hprev hei prog w
        wp_walk using hri
        exact ⟨_, rfl, by simpa using hR⟩
    case fin =>
      rintro ⟨c1, c2⟩ s' ⟨hc', rfl, i, hz, _, hR⟩
      simp only at hc'
      subst hc'
      have hge : min xs.size ys.size ≤ i := by
        rcases Nat.lt_or_ge i (xs.toList.zip ys.toList).length with q | q
        · rw [List.drop_eq_getElem_cons q] at hz; cases hz
        · exact lenZ ▸ q
      rw [Nat.sub_eq_zero_of_le hge, Ob.lexAt_zero] at hR
      wp_walk
      exact ⟨_, rfl, by simpa [Builtin.Tuple.tupleCompareSizes] using hR⟩
    case h =>
      exact ⟨rfl, rfl, 0, rfl, fun m hm => absurd hm (Nat.not_lt_zero m), by simpa using hR0⟩
theorem rc_gt {A : Around} {s : Shared} {l b : Addr} {xs ys : Array Value} {e r : Nat → Bool} (hl : s.heap.IsTuple l xs) (hb : s.heap.IsTuple b ys) (hu : A.units < cLine)
    (he : ∀ j (h1 : j < xs.size) (h2 : j < ys.size), EqAt A.in1 s xs[j] ys[j] (e j))
    (hr : ∀ j (h1 : j < xs.size) (h2 : j < ys.size), (∀ m, m < j → e m = true) → e j = false → Ob.RcOp .Gt A.in1 s xs[j] ys[j] (r j)) :
    Ob.RcOp .Gt A s (.ref l) (.ref b) (Ob.lexAt e r (decide (xs.size > ys.size)) 0 (min xs.size ys.size)) := fun prog w E Q h => by
  obtain ⟨⟨k1, d1, q1, sl1⟩, ho1, hc1, n1, hd1⟩ := id hl
  obtain ⟨⟨k2, d2, q2, sl2⟩, ho2, hc2, n2, hd2⟩ := id hb
  simp only at hc1 hd1 hc2 hd2
  subst hc1 hd1 hc2 hd2
  exact richCompare_meets_room (op := .Gt) ⟨_, ho1, rfl⟩ ⟨_, ho2, rfl⟩ F.slot_tuple_gt F.entry_tuple_gt (F.args_tuple_gt_2 _ _) (at_gt l b xs ys n1 n2 d1 d2 sl1 sl2 e r)
    ⟨ho1, ho2, he, hr, ⟨(fun x => nomatch x), h⟩⟩ hu

theorem at_ge (l b : Addr) (xs ys : Array Value) (n1 n2 : Nat) (d1 d2 : Option Addr) (sl1 sl2 : Array (Option Value)) (e r : Nat → Bool) :
    Meets (Builtin.«tuple.__ge__» ⟨[.ref l, .ref b], []⟩)
      (fun A R s => s.heap.get? l = some { cls := .type "tuple", dict := d1, data := .seq xs n1, slots := sl1 } ∧ s.heap.get? b = some { cls := .type "tuple", dict := d2, data := .seq ys n2, slots := sl2 } ∧
        (∀ j (h1 : j < xs.size) (h2 : j < ys.size), EqAt A.in1 s xs[j] ys[j] (e j)) ∧
        (∀ j (h1 : j < xs.size) (h2 : j < ys.size), (∀ m, m < j → e m = true) → e j = false → Ob.RcOp .GtE A.in1 s xs[j] ys[j] (r j)) ∧
        R (.ok (.ret (.bool (Ob.lexAt e r (decide (xs.size ≥ ys.size)) 0 (min xs.size ys.size))))) s) :=
  .of_wp fun prog w A R s h => by
    obtain ⟨hp, gs, dr, tk, os⟩ := s; obtain ⟨hl, hb, he, hr, hR0⟩ := h
    have sub := AutoSeq1.sub_tuple_tuple
    have lenZ : (xs.toList.zip ys.toList).length = min xs.size ys.size := by simp
    wp_walk using wpAny_loadPart' hl, wpAny_loadPart' hb, wpAny_forIn_list _ (fun left c s' => c.1 = none ∧ s' = ⟨hp, gs, dr, tk, os⟩ ∧ ∃ i, left = (xs.toList.zip ys.toList).drop i ∧ (∀ m, m < i → e m = true) ∧
      R (.ok (.ret (.bool (Ob.lexAt e r (decide (xs.size ≥ ys.size)) i (min xs.size ys.size - i))))) ⟨hp, gs, dr, tk, os⟩) _
    case turn =>
      rintro ⟨y, x⟩ left c s' ⟨hc', rfl, i, hz, hprev, hR⟩
      have lt0 : i < (xs.toList.zip ys.toList).length := by
        rcases Nat.lt_or_ge i (xs.toList.zip ys.toList).length with q | q
        · exact q
        · rw [List.drop_of_length_le q] at hz; cases hz
      have lt1 : i < min xs.size ys.size := lenZ ▸ lt0
      have h1 : i < xs.size := Nat.lt_of_lt_of_le lt1 (Nat.min_le_left _ _)
      have h2 : i < ys.size := Nat.lt_of_lt_of_le lt1 (Nat.min_le_right _ _)
      rw [List.drop_eq_getElem_cons lt0] at hz
      injection hz with hyx hleft
      have hy : y = xs[i] := by simpa using congrArg Prod.fst hyx
      have hx : x = ys[i] := by simpa using congrArg Prod.snd hyx
      subst hy hx
      rw [show min xs.size ys.size - i = (min xs.size ys.size - (i + 1)) + 1 by omega, Ob.lexAt_succ] at hR
      refine wpAny_bind (he i h1 h2 prog w _ _ ?_)
      cases hei : e i with
      | true =>
        rw [hei, if_pos rfl] at hR
        wp_walk
        refine ⟨rfl, rfl, i + 1, hleft, fun m hm => ?_, hR⟩
        rcases Nat.lt_succ_iff_lt_or_eq.mp hm with q | q
        · exact hprev m q
        · rw [q]; exact hei
      | false =>
        rw [hei, if_neg Bool.false_ne_true] at hR
        have hri := hr i h1 h2 hprev hei prog w
        wp_walk using hri
        exact ⟨_, rfl, by simpa using hR⟩
    case fin =>
      rintro ⟨c1, c2⟩ s' ⟨hc', rfl, i, hz, _, hR⟩
      simp only at hc'
      subst hc'
      have hge : min xs.size ys.size ≤ i := by
        rcases Nat.lt_or_ge i (xs.toList.zip ys.toList).length with q | q
        · rw [List.drop_eq_getElem_cons q] at hz; cases hz
        · exact lenZ ▸ q
      rw [Nat.sub_eq_zero_of_le hge, Ob.lexAt_zero] at hR
      wp_walk
      exact ⟨_, rfl, by simpa [Builtin.Tuple.tupleCompareSizes] using hR⟩
    case h =>
      exact ⟨rfl, rfl, 0, rfl, fun m hm => absurd hm (Nat.not_lt_zero m), by simpa using hR0⟩
theorem rc_ge {A : Around} {s : Shared} {l b : Addr} {xs ys : Array Value} {e r : Nat → Bool} (hl : s.heap.IsTuple l xs) (hb : s.heap.IsTuple b ys) (hu : A.units < cLine)
    (he : ∀ j (h1 : j < xs.size) (h2 : j < ys.size), EqAt A.in1 s xs[j] ys[j] (e j))
    (hr : ∀ j (h1 : j < xs.size) (h2 : j < ys.size), (∀ m, m < j → e m = true) → e j = false → Ob.RcOp .GtE A.in1 s xs[j] ys[j] (r j)) :
    Ob.RcOp .GtE A s (.ref l) (.ref b) (Ob.lexAt e r (decide (xs.size ≥ ys.size)) 0 (min xs.size ys.size)) := fun prog w E Q h => by
  obtain ⟨⟨k1, d1, q1, sl1⟩, ho1, hc1, n1, hd1⟩ := id hl
  obtain ⟨⟨k2, d2, q2, sl2⟩, ho2, hc2, n2, hd2⟩ := id hb
  simp only at hc1 hd1 hc2 hd2
  subst hc1 hd1 hc2 hd2
  exact richCompare_meets_room (op := .GtE) ⟨_, ho1, rfl⟩ ⟨_, ho2, rfl⟩ F.slot_tuple_ge F.entry_tuple_ge (F.args_tuple_ge_2 _ _) (at_ge l b xs ys n1 n2 d1 d2 sl1 sl2 e r)
    ⟨ho1, ho2, he, hr, ⟨(fun x => nomatch x), h⟩⟩ hu

end TupO
/-- what decides, at the first pair that differs -/
def ltV : V → V → Bool
  | .int a, .int b => decide (a < b)
  | .str a, .str b => decide (a.cps.toList < b.cps.toList)
  | _, _ => false
def likeV : V → V → Bool
  | .int _, .int _ => true
  | .str _, .str _ => true
  | _, _ => false
def eAt (xs ys : List V) (j : Nat) : Bool := eqV (xs.getD j .non) (ys.getD j .non)
/-- the kinds of the first pair that differs are alike -/
def OkT (xs ys : List V) : Prop := ∀ j, j < xs.length → j < ys.length → (∀ m, m < j → eAt xs ys m = true) → eAt xs ys j = false → likeV (xs.getD j .non) (ys.getD j .non) = true
def lexV (c : V → V → Bool) (z : Bool) (xs ys : List V) : Bool := Ob.lexAt (eAt xs ys) (fun j => c (xs.getD j .non) (ys.getD j .non)) z 0 (min xs.length ys.length)
def rTO (K : PySem.W.Frag) (c : V → V → Bool) (z : Nat → Nat → Bool) : R2 := fun x y H Q => ∃ (a b : Addr) (xs ys : List V), x = .ref a ∧ y = .ref b ∧ SqT K H a xs ∧ SqT K H b ys ∧ xs.all flatV = true ∧ ys.all flatV = true ∧ OkT xs ys ∧
  Q (.bl (lexV c (z xs.length ys.length) xs ys)) H
section
variable {A : Around} {s : Shared}
theorem item_of {xs : List V} {its : List Value} (r : L2.Vals xs its) (hf : xs.all flatV = true) {j : Nat} (h : j < its.toArray.size) : RelV (xs.getD j .non) its.toArray[j] ∧ flatV (xs.getD j .non) = true := by
  have hl := r.length
  have hj : j < xs.length := by rw [hl]; simpa using h
  obtain ⟨u, e, k⟩ := r.get (List.getElem?_eq_getElem hj)
  have e1 : its.toArray[j] = u := by
    have : its[j]? = some its.toArray[j] := by simp
    exact Option.some.inj (this.symm.trans e)
  have e2 : xs.getD j .non = xs[j] := by rw [List.getD_eq_getElem?_getD, List.getElem?_eq_getElem hj]; rfl
  rw [e1, e2]
  exact ⟨k, List.all_eq_true.mp hf _ (List.getElem_mem hj)⟩

theorem rcV_lt {x y : V} {u v : Value} (rx : RelV x u) (ry : RelV y v) (h : likeV x y = true) : Ob.RcOp .Lt A s u v (ltV x y) := by
  cases x <;> cases y <;> first | (cases h; done) | skip
  · rename_i a b
    obtain ⟨t, rfl⟩ := rx
    obtain ⟨t', rfl⟩ := ry
    exact fun prog w E Q h => PyProof.Rows.lt_int h
  · rename_i a b
    obtain ⟨t, rfl⟩ := rx
    obtain ⟨t', rfl⟩ := ry
    exact fun prog w E Q h => PyProof.Rows.lt_str h
theorem o_ltT {X : Cx} (hu : X.A.units < cLine) : OpR X (compareOp .Lt) (rTO X.K ltV (fun n m => decide (n < m))) := by
  intro pins s σ H x y v u Q I rx ry h
  obtain ⟨a, b, xs, ys, rfl, rfl, ha, hb, fx, fy, ok, q⟩ := h
  cases rx
  cases ry
  obtain ⟨its1, r1, p1, _⟩ := I.tuple ha
  obtain ⟨its2, r2, p2, _⟩ := I.tuple hb
  have e1 : its1.toArray.size = xs.length := by rw [List.size_toArray]; exact r1.length.symm
  have e2 : its2.toArray.size = ys.length := by rw [List.size_toArray]; exact r2.length.symm
  have R := TupO.rc_lt (A := X.A) (s := s) (e := eAt xs ys) (r := fun j => ltV (xs.getD j .non) (ys.getD j .non)) p1 p2 hu
    (fun j h1 h2 => eqAt_V (item_of r1 fx h1).1 (item_of r2 fy h2).1 (item_of r1 fx h1).2 (item_of r2 fy h2).2)
    (fun j h1 h2 hp he => rcV_lt (item_of r1 fx h1).1 (item_of r2 fy h2).1 (ok j (by omega) (by omega) hp he))
  rw [e1, e2] at R
  exact R X.prog X.w X.xe (EP X pins σ Q) ⟨.bl _, H, I, rfl, q⟩

theorem rcV_le {x y : V} {u v : Value} (rx : RelV x u) (ry : RelV y v) (h : likeV x y = true) : Ob.RcOp .LtE A s u v ((fun x y => !ltV y x) x y) := by
  cases x <;> cases y <;> first | (cases h; done) | skip
  · rename_i a b
    obtain ⟨t, rfl⟩ := rx
    obtain ⟨t', rfl⟩ := ry
    exact fun prog w E Q h => PyProof.Rows.le_int (by rw [show decide (a ≤ b) = !decide (b < a) from by by_cases q : a ≤ b <;> simp [q] <;> (try omega)]; exact h)
  · rename_i a b
    obtain ⟨t, rfl⟩ := rx
    obtain ⟨t', rfl⟩ := ry
    exact fun prog w E Q h => PySem.P.le_str h
theorem o_leT {X : Cx} (hu : X.A.units < cLine) : OpR X (compareOp .LtE) (rTO X.K (fun x y => !ltV y x) (fun n m => decide (n ≤ m))) := by
  intro pins s σ H x y v u Q I rx ry h
  obtain ⟨a, b, xs, ys, rfl, rfl, ha, hb, fx, fy, ok, q⟩ := h
  cases rx
  cases ry
  obtain ⟨its1, r1, p1, _⟩ := I.tuple ha
  obtain ⟨its2, r2, p2, _⟩ := I.tuple hb
  have e1 : its1.toArray.size = xs.length := by rw [List.size_toArray]; exact r1.length.symm
  have e2 : its2.toArray.size = ys.length := by rw [List.size_toArray]; exact r2.length.symm
  have R := TupO.rc_le (A := X.A) (s := s) (e := eAt xs ys) (r := fun j => (fun x y => !ltV y x) (xs.getD j .non) (ys.getD j .non)) p1 p2 hu
    (fun j h1 h2 => eqAt_V (item_of r1 fx h1).1 (item_of r2 fy h2).1 (item_of r1 fx h1).2 (item_of r2 fy h2).2)
    (fun j h1 h2 hp he => rcV_le (item_of r1 fx h1).1 (item_of r2 fy h2).1 (ok j (by omega) (by omega) hp he))
  rw [e1, e2] at R
  exact R X.prog X.w X.xe (EP X pins σ Q) ⟨.bl _, H, I, rfl, q⟩

theorem rcV_gt {x y : V} {u v : Value} (rx : RelV x u) (ry : RelV y v) (h : likeV x y = true) : Ob.RcOp .Gt A s u v ((fun x y => ltV y x) x y) := by
  cases x <;> cases y <;> first | (cases h; done) | skip
  · rename_i a b
    obtain ⟨t, rfl⟩ := rx
    obtain ⟨t', rfl⟩ := ry
    exact fun prog w E Q h => PyProof.Rows.gt_int h
  · rename_i a b
    obtain ⟨t, rfl⟩ := rx
    obtain ⟨t', rfl⟩ := ry
    exact fun prog w E Q h => PySem.P.gt_str h
theorem o_gtT {X : Cx} (hu : X.A.units < cLine) : OpR X (compareOp .Gt) (rTO X.K (fun x y => ltV y x) (fun n m => decide (n > m))) := by
  intro pins s σ H x y v u Q I rx ry h
  obtain ⟨a, b, xs, ys, rfl, rfl, ha, hb, fx, fy, ok, q⟩ := h
  cases rx
  cases ry
  obtain ⟨its1, r1, p1, _⟩ := I.tuple ha
  obtain ⟨its2, r2, p2, _⟩ := I.tuple hb
  have e1 : its1.toArray.size = xs.length := by rw [List.size_toArray]; exact r1.length.symm
  have e2 : its2.toArray.size = ys.length := by rw [List.size_toArray]; exact r2.length.symm
  have R := TupO.rc_gt (A := X.A) (s := s) (e := eAt xs ys) (r := fun j => (fun x y => ltV y x) (xs.getD j .non) (ys.getD j .non)) p1 p2 hu
    (fun j h1 h2 => eqAt_V (item_of r1 fx h1).1 (item_of r2 fy h2).1 (item_of r1 fx h1).2 (item_of r2 fy h2).2)
    (fun j h1 h2 hp he => rcV_gt (item_of r1 fx h1).1 (item_of r2 fy h2).1 (ok j (by omega) (by omega) hp he))
  rw [e1, e2] at R
  exact R X.prog X.w X.xe (EP X pins σ Q) ⟨.bl _, H, I, rfl, q⟩

theorem rcV_ge {x y : V} {u v : Value} (rx : RelV x u) (ry : RelV y v) (h : likeV x y = true) : Ob.RcOp .GtE A s u v ((fun x y => !ltV x y) x y) := by
  cases x <;> cases y <;> first | (cases h; done) | skip
  · rename_i a b
    obtain ⟨t, rfl⟩ := rx
    obtain ⟨t', rfl⟩ := ry
    exact fun prog w E Q h => PyProof.Rows.ge_int (by rw [show decide (b ≤ a) = !decide (a < b) from by by_cases q : b ≤ a <;> simp [q] <;> (try omega)]; exact h)
  · rename_i a b
    obtain ⟨t, rfl⟩ := rx
    obtain ⟨t', rfl⟩ := ry
    exact fun prog w E Q h => PySem.P.ge_str h
theorem o_geT {X : Cx} (hu : X.A.units < cLine) : OpR X (compareOp .GtE) (rTO X.K (fun x y => !ltV x y) (fun n m => decide (n ≥ m))) := by
  intro pins s σ H x y v u Q I rx ry h
  obtain ⟨a, b, xs, ys, rfl, rfl, ha, hb, fx, fy, ok, q⟩ := h
  cases rx
  cases ry
  obtain ⟨its1, r1, p1, _⟩ := I.tuple ha
  obtain ⟨its2, r2, p2, _⟩ := I.tuple hb
  have e1 : its1.toArray.size = xs.length := by rw [List.size_toArray]; exact r1.length.symm
  have e2 : its2.toArray.size = ys.length := by rw [List.size_toArray]; exact r2.length.symm
  have R := TupO.rc_ge (A := X.A) (s := s) (e := eAt xs ys) (r := fun j => (fun x y => !ltV x y) (xs.getD j .non) (ys.getD j .non)) p1 p2 hu
    (fun j h1 h2 => eqAt_V (item_of r1 fx h1).1 (item_of r2 fy h2).1 (item_of r1 fx h1).2 (item_of r2 fy h2).2)
    (fun j h1 h2 hp he => rcV_ge (item_of r1 fx h1).1 (item_of r2 fy h2).1 (ok j (by omega) (by omega) hp he))
  rw [e1, e2] at R
  exact R X.prog X.w X.xe (EP X pins σ Q) ⟨.bl _, H, I, rfl, q⟩

end

/-! == and != of flat tuples; the keys of values -/
def eqT (xs ys : List V) : Bool := (List.range (min xs.length ys.length)).all (eAt xs ys) && xs.length == ys.length
def rEqT (K : PySem.W.Frag) (neg : Bool) : R2 := fun x y H Q => ∃ (a b : Addr) (xs ys : List V), x = .ref a ∧ y = .ref b ∧ SqT K H a xs ∧ SqT K H b ys ∧ xs.all flatV = true ∧ ys.all flatV = true ∧ Q (.bl (if neg then !eqT xs ys else eqT xs ys)) H
theorem o_eqT {X : Cx} (hu : X.A.units < cLine) : OpR X (compareOp .Eq) (rEqT X.K false) := by
  intro pins s σ H x y v u Q I rx ry h
  obtain ⟨a, b, xs, ys, rfl, rfl, ha, hb, fx, fy, q⟩ := h
  cases rx
  cases ry
  obtain ⟨its1, r1, p1, _⟩ := I.tuple ha
  obtain ⟨its2, r2, p2, _⟩ := I.tuple hb
  have e1 : its1.toArray.size = xs.length := by rw [List.size_toArray]; exact r1.length.symm
  have e2 : its2.toArray.size = ys.length := by rw [List.size_toArray]; exact r2.length.symm
  refine SeqAt.eq_tupleAt (e := eAt xs ys) p1 p2 hu (fun j h1 h2 => eqAt_V (item_of r1 fx h1).1 (item_of r2 fy h2).1 (item_of r1 fx h1).2 (item_of r2 fy h2).2) ?_
  rw [e1, e2]
  exact ⟨.bl _, H, I, rfl, q⟩
theorem neAt_V {A : Around} {s : Shared} {y x : V} {u v : Value} (ry : RelV y u) (rx : RelV x v) (fy : flatV y = true) (fx : flatV x = true) : SeqAt.EqAt A s u v (eqV y x) := eqAt_V ry rx fy fx
theorem o_neT {X : Cx} (hu : X.A.units < cLine) : OpR X (compareOp .NotEq) (rEqT X.K true) := by
  intro pins s σ H x y v u Q I rx ry h
  obtain ⟨a, b, xs, ys, rfl, rfl, ha, hb, fx, fy, q⟩ := h
  cases rx
  cases ry
  obtain ⟨its1, r1, p1, _⟩ := I.tuple ha
  obtain ⟨its2, r2, p2, _⟩ := I.tuple hb
  have e1 : its1.toArray.size = xs.length := by rw [List.size_toArray]; exact r1.length.symm
  have e2 : its2.toArray.size = ys.length := by rw [List.size_toArray]; exact r2.length.symm
  have R := SeqAt.RcNeAt.tuples (e := eAt xs ys) p1 p2 hu (fun j h1 h2 => eqAt_V (item_of r1 fx h1).1 (item_of r2 fy h2).1 (item_of r1 fx h1).2 (item_of r2 fy h2).2)
  rw [e1, e2] at R
  exact R X.prog X.w X.xe (EP X pins σ Q) ⟨.bl _, H, I, rfl, q⟩
def keyV : V → List V
  | .non => [.int 0]
  | .bl b => [.int 1, .int (if b then 1 else 0)]
  | .int i => [.int 2, .int i]
  | x => [.int 3, x]
theorem keyV_flat {x : V} (h : flatV x = true) : (keyV x).all flatV = true := by cases x <;> first | rfl | cases h
def spKey : Sp := fun vs H Q _ => ∃ x, vs = [x] ∧ flatV x = true ∧ ∀ p, H p = none → Q (.ref p) (upd H p (.tup (keyV x)))
/-- the order of values -/
def keyLt : V → V → Bool
  | .non, .non => false
  | .non, _ => true
  | _, .non => false
  | .bl a, .bl b => !a && b
  | .bl _, _ => true
  | _, .bl _ => false
  | .int a, .int b => decide (a < b)
  | .int _, _ => true
  | _, .int _ => false
  | .str a, .str b => decide (a.cps.toList < b.cps.toList)
  | _, _ => false
theorem okT_key {x y : V} (hx : flatV x = true) (hy : flatV y = true) : OkT (keyV x) (keyV y) := by
  intro j h1 h2 hp he
  match j, h1, h2 with
  | 0, _, _ => cases x <;> cases hx <;> cases y <;> cases hy <;> rfl
  | 1, h1, h2 =>
    have h0 := hp 0 (by decide)
    cases x <;> cases hx <;> cases y <;> cases hy <;> first | rfl | (exact absurd (show false = true from h0) Bool.false_ne_true) | (simp [keyV] at h1; done) | (simp [keyV] at h2; done)
  | j + 2, h1, h2 => cases x <;> cases hx <;> simp [keyV] at h1 <;> omega
theorem beqI (a b : Int) : (a == b) = decide (a = b) := Bool.beq_eq_decide_eq ..
theorem beqS (a b : Str) : (a == b) = decide (a = b) := Bool.beq_eq_decide_eq ..
theorem key_lt {x y : V} (hx : flatV x = true) (hy : flatV y = true) : lexV ltV (decide ((keyV x).length < (keyV y).length)) (keyV x) (keyV y) = keyLt x y := by
  cases x <;> cases hx <;> cases y <;> cases hy <;> first
    | rfl
    | (rename_i a b; cases a <;> cases b <;> rfl)
    | (rename_i a b; show (if (a == b) = true then false else decide (a < b)) = decide (a < b); rw [beqI]; by_cases q : a = b <;> simp [q])
    | (rename_i a b; show (if (a == b) = true then false else decide (a.cps.toList < b.cps.toList)) = decide (a.cps.toList < b.cps.toList); rw [beqS]; by_cases q : a = b <;> simp [q])
theorem key_eq {x y : V} (hx : flatV x = true) (hy : flatV y = true) : eqT (keyV x) (keyV y) = decide (x = y) := by
  cases x <;> cases hx <;> cases y <;> cases hy <;> first
    | rfl
    | (rename_i a b; cases a <;> cases b <;> rfl)
    | (rename_i a b; rw [dI]; show (true && (a == b && true) && true) = decide (a = b); rw [beqI]; cases decide (a = b) <;> rfl)
    | (rename_i a b; rw [dS]; show (true && (a == b && true) && true) = decide (a = b); rw [beqS]; cases decide (a = b) <;> rfl)
theorem key_ge {x y : V} (hx : flatV x = true) (hy : flatV y = true) : lexV (fun x y => !ltV x y) (decide ((keyV x).length ≥ (keyV y).length)) (keyV x) (keyV y) = !keyLt x y := by
  cases x <;> cases hx <;> cases y <;> cases hy <;> first
    | rfl
    | (rename_i a b; cases a <;> cases b <;> rfl)
    | (rename_i a b; show (if (a == b) = true then true else !decide (a < b)) = !decide (a < b); rw [beqI]; by_cases q : a = b <;> simp [q])
    | (rename_i a b; show (if (a == b) = true then true else !decide (a.cps.toList < b.cps.toList)) = !decide (a.cps.toList < b.cps.toList); rw [beqS]; by_cases q : a = b <;> simp [q])
theorem key_gt {x y : V} (hx : flatV x = true) (hy : flatV y = true) : lexV (fun x y => ltV y x) (decide ((keyV x).length > (keyV y).length)) (keyV x) (keyV y) = keyLt y x := by
  cases x <;> cases hx <;> cases y <;> cases hy <;> first
    | rfl
    | (rename_i a b; cases a <;> cases b <;> rfl)
    | (rename_i a b; show (if (a == b) = true then false else decide (b < a)) = decide (b < a); rw [beqI]; by_cases q : a = b <;> simp [q])
    | (rename_i a b; show (if (a == b) = true then false else decide (b.cps.toList < a.cps.toList)) = decide (b.cps.toList < a.cps.toList); rw [beqS]; by_cases q : a = b <;> simp [q])
theorem key_le {x y : V} (hx : flatV x = true) (hy : flatV y = true) : lexV (fun x y => !ltV y x) (decide ((keyV x).length ≤ (keyV y).length)) (keyV x) (keyV y) = !keyLt y x := by
  cases x <;> cases hx <;> cases y <;> cases hy <;> first
    | rfl
    | (rename_i a b; cases a <;> cases b <;> rfl)
    | (rename_i a b; show (if (a == b) = true then true else !decide (b < a)) = !decide (b < a); rw [beqI]; by_cases q : a = b <;> simp [q])
    | (rename_i a b; show (if (a == b) = true then true else !decide (b.cps.toList < a.cps.toList)) = !decide (b.cps.toList < a.cps.toList); rw [beqS]; by_cases q : a = b <;> simp [q])
theorem cps_tri {a b : Str} : (!decide (a.cps.toList < b.cps.toList) && !decide (b.cps.toList < a.cps.toList)) = decide (a = b) := by
  by_cases e : a = b
  · subst e
    rw [decide_eq_true rfl, decide_eq_false (List.lt_irrefl _)]
    rfl
  · rw [decide_eq_false e]
    by_cases h1 : a.cps.toList < b.cps.toList
    · rw [decide_eq_true h1]; rfl
    · by_cases h2 : b.cps.toList < a.cps.toList
      · rw [decide_eq_true h2, Bool.not_true, Bool.and_false]
      · exact absurd (cd_ext (List.le_antisymm h2 h1)) e
theorem key_tri {x y : V} (hx : flatV x = true) (hy : flatV y = true) : (!keyLt x y && !keyLt y x) = decide (x = y) := by
  cases x <;> cases hx <;> cases y <;> cases hy <;> first
    | rfl
    | (rename_i a b; cases a <;> cases b <;> rfl)
    | (rename_i a b; rw [dI]; show (!decide (a < b) && !decide (b < a)) = decide (a = b); by_cases q : a = b <;> by_cases q1 : a < b <;> by_cases q2 : b < a <;> simp [q, q1, q2] <;> omega)
    | (rename_i a b; rw [dS]; exact cps_tri)

/-! the order of flat tuples, item by item -/
theorem lexAt_shift {e r : Nat → Bool} {z : Bool} : ∀ (k i : Nat), Ob.lexAt e r z (i + 1) k = Ob.lexAt (fun j => e (j + 1)) (fun j => r (j + 1)) z i k
  | 0, _ => rfl
  | k + 1, i => by
    rw [Ob.lexAt_succ, Ob.lexAt_succ, lexAt_shift k (i + 1)]
theorem lexV_cons (c : V → V → Bool) (z : Bool) (x y : V) (xs ys : List V) : lexV c z (x :: xs) (y :: ys) = if eqV x y = true then lexV c z xs ys else c x y := by
  unfold lexV
  rw [show min (x :: xs).length (y :: ys).length = min xs.length ys.length + 1 by simp only [List.length_cons]; omega, Ob.lexAt_succ, lexAt_shift]
  rfl
theorem okT_cons {x y : V} {xs ys : List V} (h1 : eqV x y = false → likeV x y = true) (h2 : eqV x y = true → OkT xs ys) : OkT (x :: xs) (y :: ys) := by
  intro j a b hp he
  match j, a, b with
  | 0, _, _ => exact h1 he
  | j + 1, a, b =>
    refine h2 (hp 0 (Nat.succ_pos j)) j (Nat.lt_of_succ_lt_succ a) (Nat.lt_of_succ_lt_succ b) (fun m hm => hp (m + 1) (Nat.succ_lt_succ hm)) he
theorem okT_nil {ys : List V} : OkT [] ys := fun j a => absurd a (Nat.not_lt_zero j)
theorem eqT_cons (x y : V) (xs ys : List V) : eqT (x :: xs) (y :: ys) = (eqV x y && eqT xs ys) := by
  unfold eqT
  rw [show min (x :: xs).length (y :: ys).length = min xs.length ys.length + 1 by simp only [List.length_cons]; omega, List.range_succ_eq_map, List.all_cons, List.all_map]
  rw [Bool.and_assoc]
  rw [show ((x :: xs).length == (y :: ys).length) = (xs.length == ys.length) by simp]
  rfl
theorem eqV_int (i j : Int) : eqV (.int i) (.int j) = decide (i = j) := Bool.beq_eq_decide_eq ..
theorem eqV_str (i j : Str) : eqV (.str i) (.str j) = decide (i = j) := Bool.beq_eq_decide_eq ..
theorem lexV_same {c : V → V → Bool} {z : Bool} {x : V} (hx : flatV x = true) (r s : List V) : lexV c z (keyV x ++ r) (keyV x ++ s) = lexV c z r s := by
  cases x <;> cases hx <;> simp [keyV, lexV_cons, eqV_int, eqV_str]
theorem okT_same {x : V} (hx : flatV x = true) {r s : List V} (h : OkT r s) : OkT (keyV x ++ r) (keyV x ++ s) := by
  cases x <;> cases hx <;> simp only [keyV, List.cons_append, List.nil_append] <;>
    first
    | exact okT_cons (fun _ => rfl) (fun _ => h)
    | exact okT_cons (fun _ => rfl) (fun _ => okT_cons (fun _ => rfl) (fun _ => h))
theorem okT_other {x y : V} (hx : flatV x = true) (hy : flatV y = true) (ne : x ≠ y) (r s : List V) : OkT (keyV x ++ r) (keyV y ++ s) := by
  cases x <;> cases hx <;> cases y <;> cases hy <;> simp only [keyV, List.cons_append, List.nil_append] <;>
    first
    | exact absurd rfl ne
    | exact okT_cons (fun _ => rfl) (fun z => absurd (show false = true from z) Bool.false_ne_true)
    | (refine okT_cons (fun _ => rfl) (fun _ => okT_cons (fun _ => rfl) (fun z => ?_))
       first
       | exact absurd (congrArg V.int (of_decide_eq_true ((eqV_int _ _).symm.trans z))) ne
       | exact absurd (congrArg V.str (of_decide_eq_true ((eqV_str _ _).symm.trans z))) ne
       | (cases ‹Bool› <;> cases ‹Bool› <;> first | exact absurd rfl ne | exact absurd (show false = true from z) Bool.false_ne_true))
theorem lt_other {x y : V} {z : Bool} (hx : flatV x = true) (hy : flatV y = true) (ne : x ≠ y) (r s : List V) : lexV ltV z (keyV x ++ r) (keyV y ++ s) = keyLt x y := by
  cases x <;> cases hx <;> cases y <;> cases hy <;> simp only [keyV, List.cons_append, List.nil_append, lexV_cons] <;>
    first
    | exact absurd rfl ne
    | rfl
    | (rename_i a b; rw [if_pos (show eqV (.int 2) (.int 2) = true from rfl), if_neg (by rw [eqV_int]; exact fun z => ne (congrArg V.int (of_decide_eq_true z)))]; rfl)
    | (rename_i a b; rw [if_pos (show eqV (.int 3) (.int 3) = true from rfl), if_neg (by rw [eqV_str]; exact fun z => ne (congrArg V.str (of_decide_eq_true z)))]; rfl)
    | (rename_i a b; cases a <;> cases b <;> first | exact absurd rfl ne | rfl)
theorem gt_other {x y : V} {z : Bool} (hx : flatV x = true) (hy : flatV y = true) (ne : x ≠ y) (r s : List V) : lexV (fun x y => ltV y x) z (keyV x ++ r) (keyV y ++ s) = keyLt y x := by
  cases x <;> cases hx <;> cases y <;> cases hy <;> simp only [keyV, List.cons_append, List.nil_append, lexV_cons] <;>
    first
    | exact absurd rfl ne
    | rfl
    | (rename_i a b; rw [if_pos (show eqV (.int 2) (.int 2) = true from rfl), if_neg (by rw [eqV_int]; exact fun z => ne (congrArg V.int (of_decide_eq_true z)))]; rfl)
    | (rename_i a b; rw [if_pos (show eqV (.int 3) (.int 3) = true from rfl), if_neg (by rw [eqV_str]; exact fun z => ne (congrArg V.str (of_decide_eq_true z)))]; rfl)
    | (rename_i a b; cases a <;> cases b <;> first | exact absurd rfl ne | rfl)
theorem eq_key {x y : V} (hx : flatV x = true) (hy : flatV y = true) (r s : List V) : eqT (keyV x ++ r) (keyV y ++ s) = (decide (x = y) && eqT r s) := by
  by_cases e : x = y
  · subst e
    rw [decide_eq_true rfl, Bool.true_and]
    cases x <;> cases hx <;> simp [keyV, eqT_cons, eqV_int, eqV_str]
  · rw [decide_eq_false e, Bool.false_and]
    cases x <;> cases hx <;> cases y <;> cases hy <;> simp only [keyV, List.cons_append, List.nil_append, eqT_cons] <;>
      first
      | exact absurd rfl e
      | rfl
      | (rename_i a b; rw [eqV_int a b, decide_eq_false (fun z => e (congrArg V.int z)), Bool.false_and, Bool.and_false])
      | (rename_i a b; rw [eqV_str a b, decide_eq_false (fun z => e (congrArg V.str z)), Bool.false_and, Bool.and_false])
      | (rename_i a b; cases a <;> cases b <;> first | exact absurd rfl e | rfl)
theorem eqT_nil : eqT [] [] = true := rfl
/-- the order of two values as a number, of two rows by their first values that differ -/
def ordV (x y : V) : Int := if x = y then 0 else if keyLt x y = true then -1 else 1
def rowOrd : List V → List V → Int
  | x :: xs, y :: ys => if ordV x y = 0 then rowOrd xs ys else ordV x y
  | _, _ => 0
def flK (xs : List V) : List V := (xs.map keyV).flatten
theorem flK_cons (x : V) (xs : List V) : flK (x :: xs) = keyV x ++ flK xs := rfl
theorem keyLt_asymm {x y : V} (hx : flatV x = true) (hy : flatV y = true) (ne : x ≠ y) : keyLt y x = !keyLt x y := by
  have h := key_tri hx hy
  rw [decide_eq_false ne] at h
  have h2 : ¬ (keyLt x y = true ∧ keyLt y x = true) := by
    rintro ⟨a, b⟩
    cases x <;> cases hx <;> cases y <;> cases hy <;> first
      | exact absurd rfl ne
      | exact absurd (show false = true from a) Bool.false_ne_true
      | exact absurd (show false = true from b) Bool.false_ne_true
      | (rename_i p q; cases p <;> cases q <;> first | exact absurd (show false = true from a) Bool.false_ne_true | exact absurd (show false = true from b) Bool.false_ne_true)
      | (have a' := of_decide_eq_true a; have b' := of_decide_eq_true b; omega)
      | exact List.lt_asymm (of_decide_eq_true a) (of_decide_eq_true b)
  cases hxy : keyLt x y <;> cases hyx : keyLt y x <;> rw [hxy, hyx] at h h2 <;> first | rfl | exact absurd ⟨rfl, rfl⟩ h2 | cases h
theorem rows_all {xs ys : List V} (hl : xs.length = ys.length) (fx : xs.all flatV = true) (fy : ys.all flatV = true) (z1 z2 : Bool) (h1 : xs = ys → z1 = false ∧ z2 = false) :
    OkT (flK xs) (flK ys) ∧ lexV ltV z1 (flK xs) (flK ys) = decide (rowOrd xs ys < 0) ∧ eqT (flK xs) (flK ys) = decide (rowOrd xs ys = 0) ∧ lexV (fun x y => ltV y x) z2 (flK xs) (flK ys) = decide (rowOrd xs ys > 0) := by
  induction xs generalizing ys with
  | nil =>
    cases ys with
    | nil =>
      obtain ⟨rfl, rfl⟩ := h1 rfl
      exact ⟨okT_nil, rfl, rfl, rfl⟩
    | cons y ys => cases hl
  | cons x xs ih =>
    cases ys with
    | nil => cases hl
    | cons y ys =>
      rw [List.all_cons, Bool.and_eq_true] at fx fy
      rw [flK_cons, flK_cons, eq_key fx.1 fy.1]
      by_cases e : x = y
      · subst e
        have o : ordV x x = 0 := if_pos rfl
        have r : rowOrd (x :: xs) (x :: ys) = rowOrd xs ys := if_pos o
        obtain ⟨a, b, c, d⟩ := ih (Nat.succ.inj hl) fx.2 fy.2 (fun q => h1 (by rw [q]))
        rw [r, lexV_same fx.1, lexV_same fx.1, decide_eq_true rfl, Bool.true_and]
        exact ⟨okT_same fx.1 a, b, c, d⟩
      · have o : ordV x y = if keyLt x y = true then -1 else 1 := if_neg e
        have on : ordV x y ≠ 0 := by rw [o]; split <;> decide
        have r : rowOrd (x :: xs) (y :: ys) = ordV x y := if_neg on
        rw [r, lt_other fx.1 fy.1 e, gt_other fx.1 fy.1 e, keyLt_asymm fx.1 fy.1 e, decide_eq_false e, Bool.false_and, decide_eq_false on, o]
        refine ⟨okT_other fx.1 fy.1 e _ _, ?_, rfl, ?_⟩ <;> cases keyLt x y <;> rfl

/-! xs.extend(t), t a tuple -/
namespace ExtT
open PySem.AutoSeq1 (wpAny_loadPart')
open PySem.MeetsSeq PySem.MeetsSeq2 PySem.MeetsSeq3
theorem extend_tuple (l : Addr) (xs : Array Value) (n : Nat) (b : Addr) (ys : Array Value) (m : Nat) (dd : Option Addr) (sl : Array (Option Value)) (h0 : ¬(!xs.isEmpty && Builtin.List.listTooLong (xs.size + ys.size)) = true) (h1 : xs.size ≤ sizeLine) (h2 : xs.size + ys.size ≤ sizeLine + 1) :
    Meets (Builtin.«list.extend» ⟨[.ref l, .ref b], []⟩) (fun _ R s => s.heap.get? l = some { cls := .type "list", dict := none, data := .seq xs n, slots := #[] } ∧ s.heap.get? b = some { cls := .type "tuple", dict := dd, data := .seq ys m, slots := sl } ∧
      R (.ok (.ret Value.none)) { s with heap := s.heap.update l (Obj.mapSeq fun x => x ++ ys), toks := s.toks }) :=
  .of_wp fun prog w A R s h => by
    obtain ⟨hp, g, d, tk, os⟩ := s; obtain ⟨hl, hb, h⟩ := h
    have e1 := AutoSeq1.sub_tuple_tuple
    have e2 := AutoSeq1.sub_list_list
    have e3 := AutoSeq1.sub_tuple_list
    have e4 := AutoSeq1.sub_list_tuple
    have hz' : (xs ++ ys).size ≤ sizeLine + 1 := by rw [Array.size_append]; exact h2
    wp_walk using (wpAny_updateSeq hl rfl (hz := h1) (_hz' := hz')), wpAny_loadPart' hl, wpAny_loadPart' hb
    exact ⟨_, rfl, h⟩
end ExtT
def rExtT (K : PySem.W.Frag) : V → List V → Hp → VK → Prop := fun x vs H Q => ∃ l b xs zs, x = .ref l ∧ vs = [.ref b] ∧ H l = some (.lst xs) ∧ SqT K H b zs ∧ xs.length + zs.length ≤ sizeLine ∧ Q .non (upd H l (.lst (xs ++ zs)))
theorem mt_extT {X : Cx} : MtM X "list.extend" (rExtT X.K) := by
  intro pins s σ H x vs v us Q I rx rv h
  obtain ⟨l, b, xs, zs, rfl, rfl, hH, hB, hz, q⟩ := h
  cases rx
  obtain ⟨u, rfl, ru⟩ := rv.one
  cases ru
  obtain ⟨z, its, n, r, hl, e⟩ := I.lstM hH
  obtain ⟨its2, r2, pT, _⟩ := I.tuple hB
  obtain ⟨⟨cls, dd, data, sl⟩, e2, hc, m, hd⟩ := pT
  simp only at hc hd
  subst hc hd
  have l1 := r.length
  have l2 := r2.length
  have hsz : its.toArray.size + its2.toArray.size ≤ sizeLine := by rw [List.size_toArray, List.size_toArray]; omega
  have hlong : ¬ (!its.toArray.isEmpty && Builtin.List.listTooLong (its.toArray.size + its2.toArray.size)) = true := by
    rw [notLongL hsz, Bool.and_false]
    exact Bool.false_ne_true
  refine call_meets F.slot_list_extend ⟨_, e, rfl⟩ F.entry_list_extend (F.args_list_extend_2 _ _)
    (ExtT.extend_tuple l its.toArray n b its2.toArray m dd sl hlong (by rw [List.size_toArray]; omega) (by omega)) ⟨e, e2, ?_⟩
  refine ⟨.non, _, I.lset (its' := its ++ its2) hH e (by simp) (r.append r2) ?_, rfl, q⟩
  rw [List.length_append]
  omega

/-! the order of values of one kind -/
def sameK : V → V → Bool
  | .bl _, .bl _ => true
  | .int _, .int _ => true
  | .str _, .str _ => true
  | _, _ => false
def rLtV : R2 := fun x y H Q => sameK x y = true ∧ Q (.bl (keyLt x y)) H
theorem o_ltV {X : Cx} : OpR X (compareOp .Lt) rLtV := by
  intro pins s σ H x y v u Q I rx ry h
  obtain ⟨k, q⟩ := h
  cases x <;> cases y <;> first | (cases k; done) | skip
  · rename_i a b
    cases (show v = Value.bool a from rx)
    cases (show u = Value.bool b from ry)
    exact lt_bool (fin_bl I q (by cases a <;> cases b <;> rfl))
  · obtain ⟨t, rfl⟩ := rx
    obtain ⟨t', rfl⟩ := ry
    exact lt_int (fin_bl I q rfl)
  · obtain ⟨t, rfl⟩ := rx
    obtain ⟨t', rfl⟩ := ry
    exact lt_str (fin_bl I q rfl)
def rankV : V → Int
  | .non => 0
  | .bl _ => 1
  | .int _ => 2
  | _ => 3
theorem rank_lt {x y : V} (hx : flatV x = true) (hy : flatV y = true) (nx : x ≠ .non) (ny : y ≠ .non) (h : rankV x ≠ rankV y) : keyLt x y = decide (rankV x < rankV y) := by
  cases x <;> cases hx <;> cases y <;> cases hy <;> first | rfl | exact absurd rfl h | exact absurd rfl nx | exact absurd rfl ny
theorem rank_eq {x y : V} (hx : flatV x = true) (hy : flatV y = true) (nx : x ≠ .non) (ny : y ≠ .non) (h : rankV x = rankV y) : sameK x y = true := by
  cases x <;> cases hx <;> cases y <;> cases hy <;> first | rfl | exact absurd rfl nx | exact absurd rfl ny | (simp [rankV] at h; done)
theorem ord_rank {x y : V} (hx : flatV x = true) (hy : flatV y = true) (h : ¬ rankV x = rankV y) : ordV x y = 1 - 2 * (if decide (rankV x < rankV y) = true then 1 else 0) := by
  cases x <;> cases hx <;> cases y <;> cases hy <;> first | rfl | exact absurd rfl h
theorem ord_ne {x y : V} (h : x ≠ y) : ordV x y = 1 - 2 * (if keyLt x y = true then 1 else 0) := by
  unfold ordV
  rw [if_neg h]
  cases keyLt x y <;> rfl
theorem flK_app (xs ys : List V) (v : V) (h : ys = [v]) : flK (xs ++ ys) = flK xs ++ keyV v := by
  subst h
  unfold flK
  rw [List.map_append, List.flatten_append]
  simp
theorem keyV_len (v : V) : (keyV v).length ≤ 2 := by cases v <;> exact Nat.le_of_ble_eq_true rfl
theorem flK_len : ∀ xs : List V, (flK xs).length ≤ 2 * xs.length
  | [] => Nat.le_refl _
  | x :: xs => by
    rw [flK_cons, List.length_append, List.length_cons]
    have := keyV_len x
    have := flK_len xs
    omega
theorem sqT_same {K : PySem.W.Frag} {H H' : Hp} {a : Addr} {xs : List V} (e : Same H H') (h : SqT K H a xs) : SqT K H' a xs := by
  rcases h with (h | ⟨o, h⟩) | h
  · exact .inl (.inl (e _ _ h))
  · exact .inl (.inr ⟨o, e _ _ h⟩)
  · exact .inr h
theorem isi_part {K : PySem.W.Frag} {x : V} {H : Hp} {tp : Addr} {Q : VK} (h : (match x with | .int _ => true | .str _ => true | _ => false) = true) (ht : H tp = some (.tup [.ty "int", .ty "str"])) (q : Q (.bl true) H) : rIsiT K [x, .ref tp] H Q := by
  cases x <;> first | (cases h; done) | skip
  · rename_i i
    exact ⟨.int i, tp, _, _, _, true, rfl, ht, .cons (.ty "int") (.cons (.ty "str") .nil), .base (.int i), kitAny_cons (kit_ty kb_int_int) (fun z => nomatch z) (fun _ => rfl), q⟩
  · rename_i z
    exact ⟨.str z, tp, _, _, _, true, rfl, ht, .cons (.ty "int") (.cons (.ty "str") .nil), .base (.str z), kitAny_cons (kit_ty kb_str_int) (fun _ => kitAny_cons (kit_ty kb_str_str) (fun z => nomatch z) (fun _ => rfl)) (fun z => nomatch z), q⟩
theorem eq_bools3 {K : PySem.W.Frag} {a b : Addr} {x y z : Bool} {H : Hp} {Q : VK} (ha : SqL K H a [.bl x, .bl y, .bl z]) (hb : SqL K H b [.bl x, .bl y, .bl z]) (q : Q (.bl true) H) : rEqD K (.ref a) (.ref b) H Q := by
  refine ⟨.list [.bool x, .bool y, .bool z], .list [.bool x, .bool y, .bool z], .lst ha (.cons (.bl _) (.cons (.bl _) (.cons (.bl _) .nil))), .lst hb (.cons (.bl _) (.cons (.bl _) (.cons (.bl _) .nil))), ?_, ?_, ?_⟩
  · cases x <;> cases y <;> cases z <;> decide
  · cases x <;> cases y <;> cases z <;> decide
  · rw [show PyData.eqv (.list [.bool x, .bool y, .bool z]) (.list [.bool x, .bool y, .bool z]) = true from by cases x <;> cases y <;> cases z <;> decide]
    exact q
theorem ord_zero (x y : V) : decide (x = y) = decide (ordV x y = 0) := by
  by_cases e : x = y
  · rw [decide_eq_true e, decide_eq_true (show ordV x y = 0 from if_pos e)]
  · rw [decide_eq_false e, decide_eq_false]
    unfold ordV
    rw [if_neg e]
    cases keyLt x y <;> decide
theorem key_all {x y : V} (fx : flatV x = true) (fy : flatV y = true) : OkT (keyV x) (keyV y) ∧ lexV ltV (decide ((keyV x).length < (keyV y).length)) (keyV x) (keyV y) = decide (ordV x y < 0) ∧ eqT (keyV x) (keyV y) = decide (ordV x y = 0) ∧
    lexV (fun x y => ltV y x) (decide ((keyV x).length > (keyV y).length)) (keyV x) (keyV y) = decide (ordV x y > 0) := by
  have h := rows_all (xs := [x]) (ys := [y]) rfl (by rw [List.all_cons, fx]; rfl) (by rw [List.all_cons, fy]; rfl) (decide ((keyV x).length < (keyV y).length)) (decide ((keyV x).length > (keyV y).length))
    (fun e => by
      injection e with e
      rw [e]
      exact ⟨decide_eq_false (Nat.lt_irrefl _), decide_eq_false (Nat.lt_irrefl _)⟩)
  have e1 : flK [x] = keyV x := by show keyV x ++ [] = keyV x; exact List.append_nil _
  have e2 : flK [y] = keyV y := by show keyV y ++ [] = keyV y; exact List.append_nil _
  have e3 : rowOrd [x] [y] = ordV x y := by
    show (if ordV x y = 0 then 0 else ordV x y) = ordV x y
    split
    · rename_i h; exact h.symm
    · rfl
  rw [e1, e2, e3] at h
  exact h

/-! _law_next: draws -/
/-- the state of the draws: the script's copy at a, three numbers -/
def StO (a : Addr) (i v r : Int) : HO := .lst [.ref a, .int i, .int v, .int r]
structure StAt (K : PySem.W.Frag) (H : Hp) (s a : Addr) (ns : List Int) : Prop where
  st : ∃ i v r, H s = some (StO a i v r) ∧ 0 ≤ i ∧ 0 ≤ v ∧ 0 ≤ r ∧ r < 2147483647
  li : H a = some (.lst (ns.map V.int))
  len : ns.length ≤ 63
  ne : a ≠ s
theorem StAt.but {K : PySem.W.Frag} {H H' : Hp} {s a : Addr} {ns : List Int} (x : StAt K H s a ns) (h : H' s = H s) (b : But s H H') : StAt K H' s a ns := by
  obtain ⟨⟨i, v, r, e, k⟩, li, len, ne⟩ := x
  exact ⟨⟨i, v, r, h.trans e, k⟩, b _ _ li ne, len, ne⟩
theorem StAt.same {K : PySem.W.Frag} {H H' : Hp} {s a : Addr} {ns : List Int} (x : StAt K H s a ns) (b : Same H H') : StAt K H' s a ns := by
  obtain ⟨i, v, r, e, k⟩ := x.st
  exact x.but ((b _ _ e).trans e.symm) (Same.but s b)
theorem StAt.new {K : PySem.W.Frag} {H : Hp} {s a : Addr} {ns : List Int} {q : Addr} {o : HO} (x : StAt K H s a ns) (b : H q = none) : StAt K (L2.upd H q o) s a ns := x.same (Same.new (Same.refl _) b)
theorem StAt.put {K : PySem.W.Frag} {H : Hp} {s a : Addr} {ns : List Int} {q : Addr} {o : HO} (x : StAt K H s a ns) (h1 : q ≠ s) (h2 : q ≠ a) : StAt K (L2.upd H q o) s a ns := by
  obtain ⟨⟨i, v, r, e, k⟩, li, len, ne⟩ := x
  exact ⟨⟨i, v, r, (upd_ne h1.symm).trans e, k⟩, (upd_ne h2.symm).trans li, len, ne⟩
theorem StAt.upd {K : PySem.W.Frag} {H : Hp} {s a : Addr} {ns : List Int} {i v r : Int} (x : StAt K H s a ns) (k : 0 ≤ i ∧ 0 ≤ v ∧ 0 ≤ r ∧ r < 2147483647) : StAt K (L2.upd H s (StO a i v r)) s a ns :=
  ⟨⟨i, v, r, upd_same, k⟩, (upd_ne x.ne).trans x.li, x.len, x.ne⟩
theorem StAt.there {K : PySem.W.Frag} {H : Hp} {s a : Addr} {ns : List Int} (x : StAt K H s a ns) : H s ≠ none := by
  obtain ⟨_, _, _, e, _⟩ := x.st
  rw [e]; exact fun z => nomatch z
theorem StAt.nes {K : PySem.W.Frag} {H : Hp} {s a : Addr} {ns : List Int} {q : Addr} (x : StAt K H s a ns) (b : H q = none) : q ≠ s := fun e => x.there (by rw [← e]; exact b)
theorem StAt.nea {K : PySem.W.Frag} {H : Hp} {s a : Addr} {ns : List Int} {q : Addr} (x : StAt K H s a ns) (b : H q = none) : q ≠ a := fun e => by
  have h := x.li
  rw [← e, b] at h
  cases h
def spNext (K : PySem.W.Frag) : Sp := fun vs H Q _ => ∃ (s a : Addr) (ns : List Int) (m : Int), vs = [.ref s, .int m] ∧ StAt K H s a ns ∧ 0 < m ∧ m.natAbs < 2 ^ 140 ∧
  ∀ i v r x, (0 ≤ i ∧ 0 ≤ v ∧ 0 ≤ r ∧ r < 2147483647) → 0 ≤ x → x < m → Q (.int x) (upd H s (StO a i v r))

local macro_rules | `(tactic| walk_at "ne") => `(tactic| first | assumption | exact Ne.symm (by assumption) | exact ne_of_none (by assumption) (by assumption) | exact (ne_of_none (by assumption) (by assumption)).symm)
local macro_rules | `(tactic| walk_at "hp") => `(tactic| first | assumption | exact upd_same | exact (upd_ne (by walk_at "ne")).trans (by walk_at "hp"))
local macro_rules | `(tactic| walk_at "sq") => `(tactic| first | assumption | exact .inl (.inl (by walk_at "hp")))
local macro_rules | `(tactic| walk_at "at") => `(tactic| first | rfl | assumption)
local macro_rules | `(tactic| walk_at "cond") => `(tactic| first | exact ⟨by decide, by decide⟩ | exact Or.inr ⟨by decide, by decide⟩ | exact Or.inl ⟨by decide, by decide⟩ | decide | omega | exact ⟨by decide, by decide, by decide⟩ | exact ⟨by omega, by omega, by omega, by omega⟩)
local macro_rules | `(tactic| walk_at "go1") => `(tactic| first
  | with_reducible apply g_seq
  | ((with_reducible apply g_var); (· rfl))
  | with_reducible apply g_c
  | with_reducible apply g_op
  | with_reducible apply g_test
  | with_reducible apply g_kb
  | ((with_reducible apply g_ixL); (· walk_at "sq"); (· walk_at "at"))
  | with_reducible apply g_I0
  | ((with_reducible apply g_I); (· walk_at "cond"))
  | with_reducible apply g_eqI | with_reducible apply g_eqS | with_reducible apply g_eqB
  | with_reducible apply g_neI | with_reducible apply g_neS | with_reducible apply g_neB
  | with_reducible apply g_nx | with_reducible apply g_nx0 | with_reducible apply g_next
  | with_reducible apply g_rt | with_reducible apply g_rt0
  | with_reducible apply g_asg | with_reducible apply g_name | with_reducible apply g_ret | with_reducible apply g_retN | with_reducible apply g_drop | with_reducible apply g_ifs
  | with_reducible apply g_cons | with_reducible apply g_nil | with_reducible apply g_cb | with_reducible apply g_call
  | with_reducible apply g_T | with_reducible apply g_F | with_reducible apply g_nF | with_reducible apply g_nT
  | with_reducible apply g_tB | with_reducible apply g_and | with_reducible apply g_or | with_reducible apply g_not
  | with_reducible apply g_andV | with_reducible apply g_orV | with_reducible apply g_notV | with_reducible apply g_if | with_reducible apply g_ch | with_reducible apply g_chain
  | ((with_reducible apply g_lenL); (· walk_at "sq")) | ((with_reducible apply g_lenT); (· walk_at "sq"))
  | ((with_reducible apply g_listL); (· walk_at "sq")) | ((with_reducible apply g_listT); (· walk_at "sq"))
  | with_reducible apply g_int1 | with_reducible apply g_intB | with_reducible apply g_abs | with_reducible apply g_max2 | with_reducible apply g_min2
  | with_reducible apply g_isNn | with_reducible apply g_isNi | with_reducible apply g_isNb | with_reducible apply g_isNs | with_reducible apply g_isNr | with_reducible apply g_isN
  | with_reducible apply g_notNn | with_reducible apply g_notNi | with_reducible apply g_notNb | with_reducible apply g_notNs | with_reducible apply g_notNr
  | with_reducible apply g_isBn | with_reducible apply g_isBb | with_reducible apply g_isBi | with_reducible apply g_isBs | with_reducible apply g_isB
  | with_reducible apply g_i_nn_bool | with_reducible apply g_i_nn_int | with_reducible apply g_i_nn_str | with_reducible apply g_i_bl_bool | with_reducible apply g_i_bl_int | with_reducible apply g_i_bl_str | with_reducible apply g_i_int_bool | with_reducible apply g_i_int_int | with_reducible apply g_i_int_str | with_reducible apply g_i_str_bool | with_reducible apply g_i_str_int | with_reducible apply g_i_str_str
  | with_reducible apply g_sub | ((with_reducible apply g_setL); (· walk_at "hp"); (· rfl))
  | with_reducible apply g_tup | with_reducible apply g_lst | ((with_reducible apply g_new); (· exact Nat.le_of_ble_eq_true rfl))
  | with_reducible apply g_augS | with_reducible apply g_ipI | ((with_reducible apply g_aug); (· rfl))
  | with_reducible apply g_un | with_reducible apply g_neg
  | with_reducible apply g_inS | with_reducible apply g_notInS
  | with_reducible apply g_sl | with_reducible apply g_part | with_reducible apply g_pi | with_reducible apply g_nopart | ((with_reducible apply g_slL); (· walk_at "sq"))
  | ((with_reducible apply g_ixT); (· walk_at "sq"); (· walk_at "at"))
  | with_reducible apply g_bm | with_reducible apply g_bm0 | ((with_reducible apply g_tyL); (· walk_at "sq")) | with_reducible apply g_m1 | with_reducible apply g_str
  | with_reducible apply g_for | with_reducible apply g_iRng1 | ((with_reducible apply g_r1); (· walk_at "cond"); (· walk_at "cond")) | with_reducible apply g_iRng2 | ((with_reducible apply g_r2); (· walk_at "cond")) | with_reducible apply g_iList | ((with_reducible apply g_il); (· walk_at "sq")) | with_reducible apply g_iTup | ((with_reducible apply g_it); (· walk_at "sq"))
  | with_reducible apply g_lc | with_reducible apply g_yes
  | with_reducible apply g_fld | with_reducible apply g_sfld | with_reducible apply g_meth | with_reducible apply g_make
  | with_reducible apply g_break | with_reducible apply g_cont | with_reducible apply g_bk | with_reducible apply g_ct | with_reducible apply g_lnx | with_reducible apply g_lct | with_reducible apply g_lbk | with_reducible apply g_lrt
  | ((with_reducible apply g_gtup); (· walk_at "sq"); (· rfl)) | with_reducible apply g_gcons | with_reducible apply g_gnil
  | ((with_reducible apply g_decT); (· decide)) | ((with_reducible apply g_decF); (· decide)))
local macro_rules | `(tactic| walk_at "go") => `(tactic| repeat walk_at "go1")
theorem g_start {t : TS} {Q : VK} {σ : L2.St} {H : Hp} (h : t (D0 Q) σ H) : t { nx := fun _ H' => Q .non H', rt := Q } σ H := h
local macro_rules | `(tactic| walk_at "go0") => `(tactic| with_reducible apply g_start)

def topS (i : Nat) : Stmt := PySem.Challenge.pw_kithbase_k29_order_of_values.main.body.getD i (.Pass ⟨0, 0, 0, 0⟩)
abbrev s_value_key : Stmt := (topS 1)
theorem sc_value_key : FnScope ["value"] ["value"] (defScope s_value_key) := ⟨rfl, rfl, rfl, by decide +kernel, rfl, by decide +kernel, by decide +kernel⟩
abbrev s_row_key : Stmt := (topS 2)
theorem sc_row_key : FnScope ["row", "parts", "value"] ["row"] (defScope s_row_key) := ⟨rfl, rfl, rfl, by decide +kernel, rfl, by decide +kernel, by decide +kernel⟩
abbrev s_same : Stmt := (topS 3)
theorem sc_same : FnScope ["first", "second"] ["first", "second"] (defScope s_same) := ⟨rfl, rfl, rfl, by decide +kernel, rfl, by decide +kernel, by decide +kernel⟩
abbrev s_next : Stmt := (topS 5)
theorem sc_next : FnScope ["_law_state", "_law_limit", "_law_cell", "_law_value_here"] ["_law_state", "_law_limit"] (defScope s_next) := ⟨rfl, rfl, rfl, by decide +kernel, rfl, by decide +kernel, by decide +kernel⟩
abbrev s_char : Stmt := (topS 6)
theorem sc_char : FnScope ["_law_index", "_law_chars"] ["_law_index"] (defScope s_char) := ⟨rfl, rfl, rfl, by decide +kernel, rfl, by decide +kernel, by decide +kernel⟩
abbrev s_value : Stmt := (topS 7)
theorem sc_value : FnScope ["_law_state", "_law_pick", "_law_k"] ["_law_state"] (defScope s_value) := ⟨rfl, rfl, rfl, by decide +kernel, rfl, by decide +kernel, by decide +kernel⟩
abbrev s_rank : Stmt := (topS 8)
theorem sc_rank : FnScope ["_law_value_here"] ["_law_value_here"] (defScope s_rank) := ⟨rfl, rfl, rfl, by decide +kernel, rfl, by decide +kernel, by decide +kernel⟩
abbrev s_order : Stmt := (topS 9)
theorem sc_order : FnScope ["_law_first", "_law_second"] ["_law_first", "_law_second"] (defScope s_order) := ⟨rfl, rfl, rfl, by decide +kernel, rfl, by decide +kernel, by decide +kernel⟩
abbrev s_row_order : Stmt := (topS 10)
theorem sc_row_order : FnScope ["_law_first", "_law_second", "_law_k", "_law_order_here"] ["_law_first", "_law_second"] (defScope s_row_order) := ⟨rfl, rfl, rfl, by decide +kernel, rfl, by decide +kernel, by decide +kernel⟩
abbrev s_is_key : Stmt := (topS 11)
theorem sc_is_key : FnScope ["_law_key", "_law_part"] ["_law_key"] (defScope s_is_key) := ⟨rfl, rfl, rfl, by decide +kernel, rfl, by decide +kernel, by decide +kernel⟩
abbrev s_agrees : Stmt := (topS 12)
theorem sc_agrees : FnScope ["_law_left", "_law_right", "_law_order_here"] ["_law_left", "_law_right", "_law_order_here"] (defScope s_agrees) := ⟨rfl, rfl, rfl, by decide +kernel, rfl, by decide +kernel, by decide +kernel⟩
abbrev s_law : Stmt := (topS 13)
theorem sc_law : FnScope ["_law_script", "_law_state", "_law_values", "_law_width", "_law_rows", "_law_first", "_law_second", "_law_order_here", "_law_alike", "_law_k", "_law_j"] ["_law_script"] (defScope s_law) := ⟨rfl, rfl, rfl, by decide +kernel, rfl, by decide +kernel, by decide +kernel⟩
theorem bt_bool : bootBuiltins "bool" = some (.type "bool") := by decide +kernel
theorem bt_int : bootBuiltins "int" = some (.type "int") := by decide +kernel
theorem bt_isinstance : bootBuiltins "isinstance" = some (.builtin "isinstance") := by decide +kernel
theorem bt_len : bootBuiltins "len" = some (.builtin "len") := by decide +kernel
theorem bt_list : bootBuiltins "list" = some (.type "list") := by decide +kernel
theorem bt_range : bootBuiltins "range" = some (.type "range") := by decide +kernel
theorem bt_str : bootBuiltins "str" = some (.type "str") := by decide +kernel
theorem bt_tuple : bootBuiltins "tuple" = some (.type "tuple") := by decide +kernel
structure Txt (K : PySem.W.Frag) (mg : Str → Option Value) where
  a_value_key : Addr
  d_value_key : FuncData
  F_value_key : Fun K "value_key" "value_key" s_value_key a_value_key d_value_key
  b_value_key : Binds K d_value_key ["value"] []
  g_value_key : mg "value_key" = some (.ref a_value_key)
  a_row_key : Addr
  d_row_key : FuncData
  F_row_key : Fun K "row_key" "row_key" s_row_key a_row_key d_row_key
  b_row_key : Binds K d_row_key ["row"] []
  g_row_key : mg "row_key" = some (.ref a_row_key)
  a_same : Addr
  d_same : FuncData
  F_same : Fun K "same" "same" s_same a_same d_same
  b_same : Binds K d_same ["first", "second"] []
  g_same : mg "same" = some (.ref a_same)
  a_next : Addr
  d_next : FuncData
  F_next : Fun K "_law_next" "_law_next" s_next a_next d_next
  b_next : Binds K d_next ["_law_state", "_law_limit"] []
  g_next : mg "_law_next" = some (.ref a_next)
  a_char : Addr
  d_char : FuncData
  F_char : Fun K "_law_char" "_law_char" s_char a_char d_char
  b_char : Binds K d_char ["_law_index"] []
  g_char : mg "_law_char" = some (.ref a_char)
  a_value : Addr
  d_value : FuncData
  F_value : Fun K "_law_value" "_law_value" s_value a_value d_value
  b_value : Binds K d_value ["_law_state"] []
  g_value : mg "_law_value" = some (.ref a_value)
  a_rank : Addr
  d_rank : FuncData
  F_rank : Fun K "_law_rank" "_law_rank" s_rank a_rank d_rank
  b_rank : Binds K d_rank ["_law_value_here"] []
  g_rank : mg "_law_rank" = some (.ref a_rank)
  a_order : Addr
  d_order : FuncData
  F_order : Fun K "_law_order" "_law_order" s_order a_order d_order
  b_order : Binds K d_order ["_law_first", "_law_second"] []
  g_order : mg "_law_order" = some (.ref a_order)
  a_row_order : Addr
  d_row_order : FuncData
  F_row_order : Fun K "_law_row_order" "_law_row_order" s_row_order a_row_order d_row_order
  b_row_order : Binds K d_row_order ["_law_first", "_law_second"] []
  g_row_order : mg "_law_row_order" = some (.ref a_row_order)
  a_is_key : Addr
  d_is_key : FuncData
  F_is_key : Fun K "_law_is_key" "_law_is_key" s_is_key a_is_key d_is_key
  b_is_key : Binds K d_is_key ["_law_key"] []
  g_is_key : mg "_law_is_key" = some (.ref a_is_key)
  a_agrees : Addr
  d_agrees : FuncData
  F_agrees : Fun K "_law_agrees" "_law_agrees" s_agrees a_agrees d_agrees
  b_agrees : Binds K d_agrees ["_law_left", "_law_right", "_law_order_here"] []
  g_agrees : mg "_law_agrees" = some (.ref a_agrees)
  a_law : Addr
  d_law : FuncData
  F_law : Fun K "law" "law" s_law a_law d_law
  b_law : Binds K d_law ["_law_script"] []
  g_law : mg "law" = some (.ref a_law)
  z_bool : mg "bool" = none
  z_int : mg "int" = none
  z_isinstance : mg "isinstance" = none
  z_len : mg "len" = none
  z_list : mg "list" = none
  z_range : mg "range" = none
  z_str : mg "str" = none
  z_tuple : mg "tuple" = none
section
variable {P : Program} {w : World} {K : PySem.W.Frag} {mg : Str → Option Value} {base : Heap}
theorem ok_next (T : Txt K mg) : FnOk P w K mg base CX0 1 T.a_next T.d_next ["_law_state", "_law_limit"] (spNext K) := by
  refine T.F_next.ok sc_next (fun vs H Q E h => ?_) (fun cdv A outer s H vs Q E hr h => ?_)
  · obtain ⟨s, a, ns, m, rfl, _⟩ := h
    rfl
  · obtain ⟨p, a, ns, m, rfl, S, hm, hm2, q⟩ := h
    refine ⟨_, (C8.pss_cut (ps_if (PW.pt (pw_and (pt_cmpR op_eq (pe_ix (k_ixL (K := K)) (pv 0) pe_int (fun _ _ => rfl)) pe_int (nomark _)) (pw_and1 (pt_cmpR op_lt (pe_ix (k_ixL (K := K)) (pv 0) pe_int (fun _ _ => rfl)) (pe_callB (k_len (K := K)) (by rfl) T.z_len bt_len (pa_cons (pe_ix (k_ixL (K := K)) (pv 0) pe_int (fun _ _ => rfl)) pa_nil)) (nomark _))))) (pss_cons (ps_set (i := 2) sc_next.nd rfl (.inl rfl) (pe_ix (k_ixL (K := K)) (pe_ix (k_ixL (K := K)) (pv 0) pe_int (fun _ _ => rfl)) (pe_ix (k_ixL (K := K)) (pv 0) pe_int (fun _ _ => rfl)) (fun _ _ => rfl)))
      (pss_cons (ps_augS (pv 0) pe_int get_list pe_int ip_add set_list)
      (pss_one (ps_if (pt_cmpR op_ge (pv 2) (pe_op op_pow pe_int pe_int) (nomark _)) (pss_one (ps_asg (pv 2) (pg_sub (pv 0) pe_int set_list))) (pss_one (ps_asg (pe_op op_mod (pe_callTy c_int1 (by rfl) T.z_int bt_int (pa_cons (pe_op op_add (pe_op op_add (pe_op op_mul (pe_ix (k_ixL (K := K)) (pv 0) pe_int (fun _ _ => rfl)) pe_int) (pe_op op_mod (pe_callTy c_int1 (by rfl) T.z_int bt_int (pa_cons (pv 2) pa_nil)) pe_int)) pe_int) pa_nil)) pe_int) (pg_sub (pv 0) pe_int set_list))))))) pss_nil)
      (pss_cons (ps_if (pt_cmpR op_gt (pe_ix (k_ixL (K := K)) (pv 0) pe_int (fun _ _ => rfl)) pe_int (nomark _)) (pss_cons (ps_set (i := 3) sc_next.nd rfl (.inl rfl) (pe_op op_mod (pe_callTy c_int1 (by rfl) T.z_int bt_int (pa_cons (pe_ix (k_ixL (K := K)) (pv 0) pe_int (fun _ _ => rfl)) pa_nil)) (pv 1)))
      (pss_cons (ps_asg (pe_op op_fdivW (pe_ix (k_ixL (K := K)) (pv 0) pe_int (fun _ _ => rfl)) (pv 1)) (pg_sub (pv 0) pe_int set_list))
      (pss_one (ps_ret (pv 3))))) pss_nil)
      (pss_cons (ps_asg (pe_op op_mod (pe_callTy c_int1 (by rfl) T.z_int bt_int (pa_cons (pe_op op_add (pe_op op_mul (pe_ix (k_ixL (K := K)) (pv 0) pe_int (fun _ _ => rfl)) pe_int) pe_int) pa_nil)) pe_int) (pg_sub (pv 0) pe_int set_list))
      (pss_one (ps_ret (pe_op op_mod (pe_callTy c_int1 (by rfl) T.z_int bt_int (pa_cons (pe_op op_fdiv (pe_ix (k_ixL (K := K)) (pv 0) pe_int (fun _ _ => rfl)) pe_int) pa_nil)) (pv 1))))))), ?_⟩
    obtain ⟨i, v, r, hS, k⟩ := S.st
    have hS0 := hS
    unfold StO at hS
    have hL := SqL.of (K := K) S.li
    have hlen := S.len
    have hne := S.ne
    walk_at "go0"
    refine g_cut (fun σ' H' => ∃ i v r c y, σ' = [some (.ref p), some (.int m), c, y] ∧ H' = upd H p (StO a i v r) ∧ 0 ≤ i ∧ 0 ≤ v ∧ 0 ≤ r ∧ r < 2147483647) ?_ ?_
    · walk_at "go"
      refine g_dec (fun hv => ?_) (fun _ => ?_)
      · walk_at "go"
        refine g_dec (fun hi => ?_) (fun _ => ?_)
        · rw [List.length_map] at hi
          obtain ⟨z, hz⟩ : ∃ z, ns[i.toNat]? = some z := ⟨ns[i.toNat], List.getElem?_eq_getElem (by omega)⟩
          have hz' : atI (ns.map V.int) i = some (.int z) := at_of (j := i.toNat) (by omega) (by rw [List.getElem?_map, hz]; rfl)
          walk_at "go"
          refine g_dec (fun hc => ?_) (fun _ => ?_)
          · walk_at "go"
            refine ⟨i + 1, z, r, some (.int z), none, rfl, by rw [upd_upd]; rfl, by omega, ?_, k.2.2.1, k.2.2.2⟩
            have : (0 : Int) ≤ 10 ^ (18 : Int).toNat := by decide
            omega
          · walk_at "go"
            refine ⟨i + 1, v, _, some (.int z), none, rfl, by rw [upd_upd]; rfl, by omega, k.2.1, Int.emod_nonneg _ (by decide), Int.emod_lt_of_pos _ (by decide)⟩
        · walk_at "go"
          exact ⟨i, v, r, none, none, rfl, (upd_id hS0).symm, k⟩
      · walk_at "go"
        exact ⟨i, v, r, none, none, rfl, (upd_id hS0).symm, k⟩
    · rintro σ' H' ⟨i, v, r, c, y, rfl, rfl, k⟩
      have hP : (upd H p (StO a i v r)) p = some (.lst [.ref a, .int i, .int v, .int r]) := upd_same
      walk_at "go"
      refine g_dec (fun hv => ?_) (fun _ => ?_)
      · walk_at "go"
        refine g_I (wide_div hm hm2 (by decide) (by decide)) ?_
        walk_at "go"
        rw [upd_upd]
        exact q i (v / m) r _ ⟨k.1, Int.ediv_nonneg k.2.1 (by omega), k.2.2.1, k.2.2.2⟩ (Int.emod_nonneg _ (by omega)) (Int.emod_lt_of_pos _ hm)
      · walk_at "go"
        rw [upd_upd]
        exact q i v _ _ ⟨k.1, k.2.1, Int.emod_nonneg _ (by decide), Int.emod_lt_of_pos _ (by decide)⟩ (Int.emod_nonneg _ (by omega)) (Int.emod_lt_of_pos _ hm)
end

def charCodes : List Nat := (" '!\"#$&()*+,-./0123456789:;<=>?@ABCDEFGHIJKLMNOPQRSTUVWXYZ[\\]^_`" : Str).cps.toList ++ ("abcdefghijklmnopqrstuvwxyz{|}~\n" : Str).cps.toList
def spChar : Sp := fun vs H Q _ => ∃ i : Int, vs = [.int i] ∧ ∀ c ∈ charCodes, Q (.str ⟨#[c]⟩) H
section
variable {P : Program} {w : World} {K : PySem.W.Frag} {mg : Str → Option Value} {base : Heap}
theorem ok_char (T : Txt K mg) : FnOk P w K mg base CX0 1 T.a_char T.d_char ["_law_index"] spChar := by
  refine T.F_char.ok sc_char (fun vs H Q E h => ?_) (fun cdv A outer s H vs Q E hr h => ?_)
  · obtain ⟨i, rfl, _⟩ := h
    rfl
  · obtain ⟨i, rfl, q⟩ := h
    refine ⟨_, (pss_cons (ps_set (i := 1) sc_char.nd rfl (.inl rfl) pe_str)
      (pss_cons (ps_set (i := 1) sc_char.nd rfl (.inl rfl) (pe_op o_addS (pv 1) pe_str))
      (pss_one (ps_ret (pe_ix ix_str (pv 1) (pe_op op_mod (pe_callTy c_int1 (by rfl) T.z_int bt_int (pa_cons (pv 0) pa_nil)) pe_int) (fun _ _ => rfl)))))), ?_⟩
    walk_at "go0"
    walk_at "go"
    refine g_addS (sz (by decide +kernel)) ?_
    walk_at "go"
    have h0 : 0 ≤ i % 95 := Int.emod_nonneg _ (by decide)
    have h1 : i % 95 < 95 := Int.emod_lt_of_pos _ (by decide)
    have hl : charCodes.length = 95 := by decide +kernel
    have hj : (i % 95).toNat < charCodes.length := by omega
    refine g_ixS (k := charCodes[(i % 95).toNat]) (sz (by decide +kernel)) (at_codes (j := (i % 95).toNat) (by omega) (List.getElem?_eq_getElem hj)) ?_
    exact q _ (List.getElem_mem hj)
end

def ScB : V → Prop
  | .non => True
  | .bl _ => True
  | .int i => i.natAbs < 10 ^ 40
  | .str z => z.length ≤ 10
  | _ => False
theorem ScB.flat {v : V} (h : ScB v) : flatV v = true := by cases v <;> first | rfl | exact h.elim
def spValue (K : PySem.W.Frag) : Sp := fun vs H Q _ => ∃ (s a : Addr) (ns : List Int), vs = [.ref s] ∧ StAt K H s a ns ∧ ∀ H' v, ScB v → StAt K H' s a ns → But s H H' → Q v H'
def spSame2 : Sp := fun vs H Q _ => ∃ x y, vs = [x, y] ∧ flatV x = true ∧ flatV y = true ∧ ∀ H', Same H H' → Q (.bl (decide (x = y))) H'
def spRank : Sp := fun vs H Q _ => ∃ x, vs = [x] ∧ flatV x = true ∧ Q (.int (rankV x)) H
def spOrder : Sp := fun vs H Q _ => ∃ x y, vs = [x, y] ∧ flatV x = true ∧ flatV y = true ∧ Q (.int (ordV x y)) H
def spRowKey (K : PySem.W.Frag) : Sp := fun vs H Q _ => ∃ (t : Addr) (xs : List V), vs = [.ref t] ∧ SqT K H t xs ∧ xs.all flatV = true ∧ xs.length ≤ 10 ∧ ∀ H' p, Same H H' → H p = none → H' p = some (.tup (flK xs)) → Q (.ref p) H'
def spRowOrder (K : PySem.W.Frag) : Sp := fun vs H Q _ => ∃ (a b : Addr) (xs ys : List V), vs = [.ref a, .ref b] ∧ SqT K H a xs ∧ SqT K H b ys ∧ xs.all flatV = true ∧ ys.all flatV = true ∧ xs.length = ys.length ∧ xs.length ≤ 10 ∧ Q (.int (rowOrd xs ys)) H
def isPart : V → Bool
  | .int _ => true
  | .str _ => true
  | _ => false
def spIsKey (K : PySem.W.Frag) : Sp := fun vs H Q _ => ∃ (a : Addr) (xs : List V), vs = [.ref a] ∧ H a = some (.tup xs) ∧ xs.all isPart = true ∧ ∀ H', Same H H' → Q (.bl true) H'
def spAgrees (K : PySem.W.Frag) : Sp := fun vs H Q _ => ∃ (a b : Addr) (xs ys : List V) (o : Int), vs = [.ref a, .ref b, .int o] ∧ H a = some (.tup xs) ∧ H b = some (.tup ys) ∧ xs.all flatV = true ∧ ys.all flatV = true ∧ OkT xs ys ∧
  lexV ltV (decide (xs.length < ys.length)) xs ys = decide (o < 0) ∧ eqT xs ys = decide (o = 0) ∧ lexV (fun x y => ltV y x) (decide (xs.length > ys.length)) xs ys = decide (o > 0) ∧ ∀ H', Same H H' → Q (.bl true) H'
section
variable {P : Program} {w : World} {K : PySem.W.Frag} {mg : Str → Option Value} {base : Heap}
theorem ok_value_key (T : Txt K mg) : FnOk P w K mg base CX0 1 T.a_value_key T.d_value_key ["value"] spKey := by
  refine T.F_value_key.ok sc_value_key (fun vs H Q E h => ?_) (fun cdv A outer s H vs Q E hr h => ?_)
  · obtain ⟨x, rfl, _⟩ := h
    rfl
  · obtain ⟨x, rfl, hx, q⟩ := h
    refine ⟨_, (pss_cons (ps_if (pt_cmpR o_isN (pv 0) pe_non (nomark _)) (pss_one (ps_ret (pe_tup (pa_cons pe_int pa_nil)))) pss_nil)
      (pss_cons (ps_if (pt_val (pe_callB (k_isi (K := K)) (by rfl) T.z_isinstance bt_isinstance (pa_cons (pv 0) (pa_cons (pe_bltn (v := .ty "bool") (by rfl) T.z_bool bt_bool rfl) pa_nil)))) (pss_one (ps_ret (pe_tup (pa_cons pe_int (pa_cons (pe_callTy c_int1 (by rfl) T.z_int bt_int (pa_cons (pv 0) pa_nil)) pa_nil))))) pss_nil)
      (pss_cons (ps_if (pt_val (pe_callB (k_isi (K := K)) (by rfl) T.z_isinstance bt_isinstance (pa_cons (pv 0) (pa_cons (pe_bltn (v := .ty "int") (by rfl) T.z_int bt_int rfl) pa_nil)))) (pss_one (ps_ret (pe_tup (pa_cons pe_int (pa_cons (pv 0) pa_nil))))) pss_nil)
      (pss_one (ps_ret (pe_tup (pa_cons pe_int (pa_cons (pv 0) pa_nil)))))))), ?_⟩
    walk_at "go0"
    cases x <;> cases hx <;> (walk_at "go"; intro p np; walk_at "go"; exact q p np)
theorem ok_same (T : Txt K mg) : FnOk P w K mg base CX0 2 T.a_same T.d_same ["first", "second"] spSame2 := by
  have G_value_key : FnOk P w K mg base CX0 1 _ _ _ _ := ok_value_key T
  refine T.F_same.ok sc_same (fun vs H Q E h => ?_) (fun cdv A outer s H vs Q E hr h => ?_)
  · obtain ⟨x, y, rfl, _⟩ := h
    rfl
  · obtain ⟨x, y, rfl, hx, hy, q⟩ := h
    refine ⟨_, (pss_one (ps_ret (pe_cmpR (o_eqT hr.units0) (pe_call G_value_key (hr.mono (by decide)) (by rfl) T.g_value_key T.F_value_key.kp T.b_value_key .nil pass0 (pa_cons (pv 0) pa_nil)) (pe_call G_value_key (hr.mono (by decide)) (by rfl) T.g_value_key T.F_value_key.kp T.b_value_key .nil pass0 (pa_cons (pv 1) pa_nil)) (nomark _)))), ?_⟩
    walk_at "go0"
    walk_at "go"
    refine ⟨x, rfl, hx, fun p np => ?_⟩
    walk_at "go"
    refine ⟨y, rfl, hy, fun p2 np2 => ?_⟩
    have nn : p ≠ p2 := fun e => by rw [← e, upd_same] at np2; cases np2
    refine ⟨p, p2, _, _, rfl, rfl, .inl (.inl ((upd_ne nn).trans upd_same)), .inl (.inl upd_same), keyV_flat hx, keyV_flat hy, ?_⟩
    rw [if_neg Bool.false_ne_true, key_eq hx hy]
    exact q _ (Same.new (Same.new (Same.refl _) np) np2)
theorem ok_rank (T : Txt K mg) : FnOk P w K mg base CX0 1 T.a_rank T.d_rank ["_law_value_here"] spRank := by
  refine T.F_rank.ok sc_rank (fun vs H Q E h => ?_) (fun cdv A outer s H vs Q E hr h => ?_)
  · obtain ⟨x, rfl, _⟩ := h
    rfl
  · obtain ⟨x, rfl, hx, q⟩ := h
    refine ⟨_, (pss_cons (ps_if (pt_cmpR o_isN (pv 0) pe_non (nomark _)) (pss_one (ps_ret pe_int)) pss_nil)
      (pss_cons (ps_if (pt_val (pe_callB (k_isi (K := K)) (by rfl) T.z_isinstance bt_isinstance (pa_cons (pv 0) (pa_cons (pe_bltn (v := .ty "bool") (by rfl) T.z_bool bt_bool rfl) pa_nil)))) (pss_one (ps_ret pe_int)) pss_nil)
      (pss_cons (ps_if (pt_val (pe_callB (k_isi (K := K)) (by rfl) T.z_isinstance bt_isinstance (pa_cons (pv 0) (pa_cons (pe_bltn (v := .ty "int") (by rfl) T.z_int bt_int rfl) pa_nil)))) (pss_one (ps_ret pe_int)) pss_nil)
      (pss_one (ps_ret pe_int))))), ?_⟩
    walk_at "go0"
    cases x <;> cases hx <;> (walk_at "go"; exact q)
theorem ok_order (T : Txt K mg) : FnOk P w K mg base CX0 2 T.a_order T.d_order ["_law_first", "_law_second"] spOrder := by
  have G_rank : FnOk P w K mg base CX0 1 _ _ _ _ := ok_rank T
  refine T.F_order.ok sc_order (fun vs H Q E h => ?_) (fun cdv A outer s H vs Q E hr h => ?_)
  · obtain ⟨x, y, rfl, _⟩ := h
    rfl
  · obtain ⟨x, y, rfl, hx, hy, q⟩ := h
    refine ⟨_, (pss_cons (ps_if (pt_cmpR op_ne (pe_call G_rank (hr.mono (by decide)) (by rfl) T.g_rank T.F_rank.kp T.b_rank .nil pass0 (pa_cons (pv 0) pa_nil)) (pe_call G_rank (hr.mono (by decide)) (by rfl) T.g_rank T.F_rank.kp T.b_rank .nil pass0 (pa_cons (pv 1) pa_nil)) (nomark _)) (pss_one (ps_ret (pe_op op_sub pe_int (pe_op op_mul pe_int (pe_callTy c_int1 (by rfl) T.z_int bt_int (pa_cons (pe_cmpR op_lt (pe_call G_rank (hr.mono (by decide)) (by rfl) T.g_rank T.F_rank.kp T.b_rank .nil pass0 (pa_cons (pv 0) pa_nil)) (pe_call G_rank (hr.mono (by decide)) (by rfl) T.g_rank T.F_rank.kp T.b_rank .nil pass0 (pa_cons (pv 1) pa_nil)) (nomark _)) pa_nil)))))) pss_nil)
      (pss_cons (ps_if (PW.pt (pw_or (pt_cmpR o_isN (pv 0) pe_non (nomark _)) (pw_or1 (pt_cmpR op_eq (pv 0) (pv 1) (nomark _))))) (pss_one (ps_ret pe_int)) pss_nil)
      (pss_one (ps_ret (pe_op op_sub pe_int (pe_op op_mul pe_int (pe_callTy c_int1 (by rfl) T.z_int bt_int (pa_cons (pe_cmpR o_ltV (pv 0) (pv 1) (nomark _)) pa_nil)))))))), ?_⟩
    walk_at "go0"
    walk_at "go"
    refine ⟨x, rfl, hx, ?_⟩
    walk_at "go"
    refine ⟨y, rfl, hy, ?_⟩
    walk_at "go"
    refine g_ndec (fun h => ?_) (fun h => ?_)
    · walk_at "go"
      refine ⟨x, rfl, hx, ?_⟩
      walk_at "go"
      refine ⟨y, rfl, hy, ?_⟩
      walk_at "go"
      rw [show ordV x y = 1 - 2 * (if decide (rankV x < rankV y) = true then 1 else 0) from ord_rank hx hy h] at q
      exact q
    · cases x <;> cases hx <;> cases y <;> cases hy <;> first | (simp [rankV] at h; done) | skip
      · walk_at "go"
        exact q
      all_goals
        walk_at "go"
        refine g_dec (fun e => ?_) (fun e => ?_)
        · subst e
          walk_at "go"
          rw [show ∀ v : V, ordV v v = 0 from fun v => if_pos rfl] at q
          exact q
        · walk_at "go"
          refine ⟨rfl, ?_⟩
          walk_at "go"
          rw [ord_ne (fun z => e (by first | exact V.bl.inj z | exact V.int.inj z | exact V.str.inj z))] at q
          exact q
theorem ok_row_order (T : Txt K mg) : FnOk P w K mg base CX0 3 T.a_row_order T.d_row_order ["_law_first", "_law_second"] (spRowOrder K) := by
  have G_order : FnOk P w K mg base CX0 2 _ _ _ _ := ok_order T
  refine T.F_row_order.ok sc_row_order (fun vs H Q E h => ?_) (fun cdv A outer s H vs Q E hr h => ?_)
  · obtain ⟨a, b, xs, ys, rfl, _⟩ := h
    rfl
  · obtain ⟨a, b, xs, ys, rfl, ha, hb, fx, fy, hl, h10, q⟩ := h
    refine ⟨_, (pss_cons (ps_for PassesOwn.never rfl (pi_range1 (by rfl) T.z_range (pa_cons (pe_callB (k_len (K := K)) (by rfl) T.z_len bt_len (pa_cons (pv 0) pa_nil)) pa_nil)) (pg_name (i := 2) sc_row_order.nd rfl (.inl rfl)) (pss_cons (ps_set (i := 3) sc_row_order.nd rfl (.inl rfl) (pe_call G_order (hr.mono (by decide)) (by rfl) T.g_order T.F_order.kp T.b_order .nil pass0 (pa_cons (pe_ix (k_ixT (K := K)) (pv 0) (pv 2) (fun _ _ => rfl)) (pa_cons (pe_ix (k_ixT (K := K)) (pv 1) (pv 2) (fun _ _ => rfl)) pa_nil))))
      (pss_one (ps_if (pt_cmpR op_ne (pv 3) pe_int (nomark _)) (pss_one (ps_ret (pv 3))) pss_nil))))
      (pss_one (ps_ret pe_int))), ?_⟩
    walk_at "go0"
    walk_at "go"
    refine g_forR (fun i σ' H' => ∃ y2 y3, σ' = [some (.ref a), some (.ref b), y2, y3] ∧ H' = H ∧ rowOrd xs ys = rowOrd (xs.drop i) (ys.drop i)) ⟨none, none, rfl, rfl, rfl⟩ ?_ ?_
    · rintro i σ' H' hi ⟨y2, y3, rfl, rfl, e⟩
      have h1 : i < xs.length := by omega
      have h2 : i < ys.length := by omega
      have g1 : atI xs (0 + (i : Int)) = some xs[i] := at_of (j := i) (by omega) (List.getElem?_eq_getElem h1)
      have g2 : atI ys (0 + (i : Int)) = some ys[i] := at_of (j := i) (by omega) (List.getElem?_eq_getElem h2)
      have f1 : flatV xs[i] = true := List.all_eq_true.mp fx _ (List.getElem_mem h1)
      have f2 : flatV ys[i] = true := List.all_eq_true.mp fy _ (List.getElem_mem h2)
      have ed : rowOrd (xs.drop i) (ys.drop i) = if ordV xs[i] ys[i] = 0 then rowOrd (xs.drop (i + 1)) (ys.drop (i + 1)) else ordV xs[i] ys[i] := by
        rw [List.drop_eq_getElem_cons h1, List.drop_eq_getElem_cons h2]; rfl
      walk_at "go"
      refine ⟨_, _, rfl, f1, f2, ?_⟩
      walk_at "go"
      refine g_ndec (fun h => ?_) (fun h => ?_)
      · walk_at "go"
        rw [e, ed, if_neg h] at q
        exact q
      · walk_at "go"
        exact ⟨_, _, rfl, rfl, by rw [e, ed, if_pos h]⟩
    · rintro σ' H' ⟨y2, y3, rfl, rfl, e⟩
      walk_at "go"
      have ez : rowOrd xs ys = 0 := by
        rw [e, List.drop_of_length_le (by omega)]
        rfl
      rw [ez] at q
      exact q
theorem ok_row_key (T : Txt K mg) : FnOk P w K mg base CX0 2 T.a_row_key T.d_row_key ["row"] (spRowKey K) := by
  have G_value_key : FnOk P w K mg base CX0 1 _ _ _ _ := ok_value_key T
  refine T.F_row_key.ok sc_row_key (fun vs H Q E h => ?_) (fun cdv A outer s H vs Q E hr h => ?_)
  · obtain ⟨t, xs, rfl, _⟩ := h
    rfl
  · obtain ⟨t, xs, rfl, ht, fx, h10, q⟩ := h
    refine ⟨_, (pss_cons (ps_set (i := 1) sc_row_key.nd rfl (.inl rfl) (pe_lst pa_nil))
      (pss_cons (ps_for PassesOwn.never rfl (k_piT (K := K) (pv 0)) (pg_name (i := 2) sc_row_key.nd rfl (.inl rfl)) (pss_one (ps_expr (pe_bm PySem.F.plainAttrs_list PySem.F.slot_list_extend PySem.F.type_list_extend mt_extT (pv 1) (pa_cons (pe_call G_value_key (hr.mono (by decide)) (by rfl) T.g_value_key T.F_value_key.kp T.b_value_key .nil pass0 (pa_cons (pv 2) pa_nil)) pa_nil)))))
      (pss_one (ps_ret (pe_callTy (k_tuple (K := K)) (by rfl) T.z_tuple bt_tuple (pa_cons (pv 1) pa_nil)))))), ?_⟩
    walk_at "go0"
    walk_at "go"
    intro l nl
    have ht1 : SqT K (upd H l (.lst [])) t xs := sqT_same (Same.new (Same.refl _) nl) ht
    walk_at "go"
    refine g_forT (xs := xs) (fun i σ' H' => ∃ y2, σ' = [some (.ref t), some (.ref l), y2] ∧ Same H H' ∧ H' l = some (.lst (flK (xs.take i)))) ⟨none, rfl, Same.new (Same.refl _) nl, upd_same⟩ (fun i σ' H' _ ⟨_, _, sm, _⟩ => sqT_same sm ht) ?_ ?_
    · rintro i v σ' H' hi ⟨y2, rfl, sm, hl⟩
      have h1 : i < xs.length := (List.getElem?_eq_some_iff.mp hi).1
      have fv : flatV v = true := List.all_eq_true.mp fx _ (List.mem_of_getElem? hi)
      have et : xs.take (i + 1) = xs.take i ++ [v] := by rw [List.take_add_one, hi]; rfl
      have el : (flK (xs.take i)).length ≤ 2 * i := Nat.le_trans (flK_len _) (by rw [List.length_take]; omega)
      have ek : (keyV v).length ≤ 2 := keyV_len v
      walk_at "go"
      refine ⟨v, rfl, fv, fun p np => ?_⟩
      have nlp : l ≠ p := fun e => by rw [e, np] at hl; cases hl
      refine ⟨l, p, _, _, rfl, rfl, (upd_ne nlp).trans hl, .inl (.inl upd_same), sz (by omega), ?_⟩
      walk_at "go"
      refine ⟨_, rfl, ?_, ?_⟩
      · intro b o e
        rw [upd_ne (ne_of_none e nl), upd_ne (ne_of_none (sm _ _ e) np)]
        exact sm _ _ e
      · rw [upd_same, et, flK_app _ _ v rfl]
    · rintro σ' H' ⟨y2, rfl, sm, hl⟩
      rw [List.take_length] at hl
      walk_at "go"
      refine g_tupL (.inl (.inl hl)) fun p np => ?_
      walk_at "go"
      exact q _ p (Same.new sm np) (sm.free np) upd_same
theorem ok_is_key (T : Txt K mg) : FnOk P w K mg base CX0 1 T.a_is_key T.d_is_key ["_law_key"] (spIsKey K) := by
  refine T.F_is_key.ok sc_is_key (fun vs H Q E h => ?_) (fun cdv A outer s H vs Q E hr h => ?_)
  · obtain ⟨a, xs, rfl, _⟩ := h
    rfl
  · obtain ⟨a, xs, rfl, ha, fx, q⟩ := h
    refine ⟨_, (pss_cons (ps_if (pt_not (pt_val (pe_callB (k_isi (K := K)) (by rfl) T.z_isinstance bt_isinstance (pa_cons (pv 0) (pa_cons (pe_bltn (v := .ty "tuple") (by rfl) T.z_tuple bt_tuple rfl) pa_nil))))) (pss_one (ps_ret pe_bl)) pss_nil)
      (pss_cons (ps_for PassesOwn.never rfl (k_piT (K := K) (pv 0)) (pg_name (i := 1) sc_is_key.nd rfl (.inl rfl)) (pss_one (ps_if (pt_not (pt_val (pe_callB (k_isiT (K := K)) (by rfl) T.z_isinstance bt_isinstance (pa_cons (pv 1) (pa_cons (pe_tup (pa_cons (pe_bltn (v := .ty "int") (by rfl) T.z_int bt_int rfl) (pa_cons (pe_bltn (v := .ty "str") (by rfl) T.z_str bt_str rfl) pa_nil))) pa_nil))))) (pss_one (ps_ret pe_bl)) pss_nil)))
      (pss_one (ps_ret pe_bl)))), ?_⟩
    walk_at "go0"
    walk_at "go"
    refine isi (.tup ha) kb_tup_tup ?_
    walk_at "go"
    refine g_forT (xs := xs) (fun i σ' H' => ∃ y1, σ' = [some (.ref a), y1] ∧ Same H H') ⟨none, rfl, Same.refl _⟩ (fun i σ' H' _ ⟨_, _, sm⟩ => .inl (.inl (sm _ _ ha))) ?_ ?_
    · rintro i v σ' H' hi ⟨y1, rfl, sm⟩
      have fv : isPart v = true := List.all_eq_true.mp fx _ (List.mem_of_getElem? hi)
      walk_at "go"
      intro t nt
      walk_at "go"
      refine isi_part fv upd_same ?_
      walk_at "go"
      exact ⟨_, rfl, Same.new sm nt⟩
    · rintro σ' H' ⟨y1, rfl, sm⟩
      walk_at "go"
      exact q _ sm
theorem ok_agrees (T : Txt K mg) : FnOk P w K mg base CX0 1 T.a_agrees T.d_agrees ["_law_left", "_law_right", "_law_order_here"] (spAgrees K) := by
  refine T.F_agrees.ok sc_agrees (fun vs H Q E h => ?_) (fun cdv A outer s H vs Q E hr h => ?_)
  · obtain ⟨a, b, xs, ys, o, rfl, _⟩ := h
    rfl
  · obtain ⟨a, b, xs, ys, o, rfl, ha, hb, fx, fy, ok, e1, e2, e3, q⟩ := h
    refine ⟨_, (pss_one (ps_ret (pe_cmpR (k_eqD (K := K) hr.units) (pe_lst (pa_cons (pe_cmpR (o_ltT hr.units0) (pv 0) (pv 1) (nomark _)) (pa_cons (pe_cmpR (o_eqT hr.units0) (pv 0) (pv 1) (nomark _)) (pa_cons (pe_cmpR (o_gtT hr.units0) (pv 0) (pv 1) (nomark _)) pa_nil)))) (pe_lst (pa_cons (pe_cmpR op_lt (pv 2) pe_int (nomark _)) (pa_cons (pe_cmpR op_eq (pv 2) pe_int (nomark _)) (pa_cons (pe_cmpR op_gt (pv 2) pe_int (nomark _)) pa_nil)))) (nomark _)))), ?_⟩
    walk_at "go0"
    walk_at "go"
    refine ⟨a, b, xs, ys, rfl, rfl, .inl (.inl ha), .inl (.inl hb), fx, fy, ok, ?_⟩
    walk_at "go"
    refine ⟨a, b, xs, ys, rfl, rfl, .inl (.inl ha), .inl (.inl hb), fx, fy, ?_⟩
    walk_at "go"
    refine ⟨a, b, xs, ys, rfl, rfl, .inl (.inl ha), .inl (.inl hb), fx, fy, ok, ?_⟩
    rw [e1, if_neg Bool.false_ne_true, e2, e3]
    walk_at "go"
    intro p np
    walk_at "go"
    intro p2 np2
    have nn : p ≠ p2 := fun e => by rw [← e, upd_same] at np2; cases np2
    refine eq_bools3 (.inl (.inl ((upd_ne nn).trans upd_same))) (.inl (.inl upd_same)) ?_
    exact q _ (Same.new (Same.new (Same.refl _) np) np2)
theorem ok_value (T : Txt K mg) : FnOk P w K mg base CX0 2 T.a_value T.d_value ["_law_state"] (spValue K) := by
  have G_next : FnOk P w K mg base CX0 1 _ _ _ _ := ok_next T
  have G_char : FnOk P w K mg base CX0 1 _ _ _ _ := ok_char T
  refine T.F_value.ok sc_value (fun vs H Q E h => ?_) (fun cdv A outer s H vs Q E hr h => ?_)
  · obtain ⟨s, a, ns, rfl, _⟩ := h
    rfl
  · obtain ⟨p, a, ns, rfl, S, q⟩ := h
    refine ⟨_, (pss_cons (ps_set (i := 1) sc_value.nd rfl (.inl rfl) (pe_call G_next (hr.mono (by decide)) (by rfl) T.g_next T.F_next.kp T.b_next .nil pass0 (pa_cons (pv 0) (pa_cons pe_int pa_nil))))
      (pss_cons (ps_if (pt_cmpR op_lt (pv 1) pe_int (nomark _)) (pss_one (ps_ret (pe_ix (k_ixL (K := K)) (pe_lst (pa_cons pe_non (pa_cons pe_bl (pa_cons pe_bl pa_nil)))) (pv 1) (fun _ _ => rfl)))) pss_nil)
      (pss_cons (ps_if (pt_cmpR op_lt (pv 1) pe_int (nomark _)) (pss_one (ps_ret (pe_op op_sub (pe_call G_next (hr.mono (by decide)) (by rfl) T.g_next T.F_next.kp T.b_next .nil pass0 (pa_cons (pv 0) (pa_cons pe_int pa_nil))) pe_int))) pss_nil)
      (pss_cons (ps_if (pt_cmpR op_eq (pv 1) pe_int (nomark _)) (pss_one (ps_ret (pe_op op_mul (pe_call G_next (hr.mono (by decide)) (by rfl) T.g_next T.F_next.kp T.b_next .nil pass0 (pa_cons (pv 0) (pa_cons (pe_op op_pow pe_int pe_int) pa_nil))) (pe_op op_sub pe_int (pe_op op_mul pe_int (pe_call G_next (hr.mono (by decide)) (by rfl) T.g_next T.F_next.kp T.b_next .nil pass0 (pa_cons (pv 0) (pa_cons pe_int pa_nil)))))))) pss_nil)
      (pss_one (ps_ret (k_join (K := K) pe_str (pe_lc (own := [("_law_k", 2)]) (g := gName 2) (tt := tYes) rfl sc_value.nd (pi_range1 (by rfl) T.z_range (pa_cons (pe_call G_next (hr.mono (by decide)) (by rfl) T.g_next T.F_next.kp T.b_next .nil pass0 (pa_cons (pv 0) (pa_cons pe_int pa_nil))) pa_nil)) (blkOk_by (own := [("_law_k", 2)]) (N := ["_law_state", "_law_pick", "_law_k"]) (sc := defScope s_value) (by decide +kernel)) (fun _ _ _ _ _ => (pg_name (i := 2) sc_value.nd rfl (.inl rfl))) (fun _ _ _ _ _ => pts_nil) (fun _ _ _ _ _ => (pe_call G_char (hr.mono (by decide)) (by rfl) T.g_char T.F_char.kp T.b_char .nil pass0 (pa_cons (pe_call G_next (hr.mono (by decide)) (by rfl) T.g_next T.F_next.kp T.b_next .nil pass0 (pa_cons (pv 0) (pa_cons pe_int pa_nil))) pa_nil))))))))))), ?_⟩
    walk_at "go0"
    walk_at "go"
    refine ⟨p, a, ns, 9, rfl, S, by decide, by decide, fun i v r x k h0 h1 => ?_⟩
    have S1 := S.upd k
    have b1 : But p H (upd H p (StO a i v r)) := (But.refl p H).upd
    generalize upd H p (StO a i v r) = H1 at S1 b1
    walk_at "go"
    refine g_dec (fun h3 => ?_) (fun h3 => ?_)
    · walk_at "go"
      intro l nl
      walk_at "go"
      obtain e | e | e : x = 0 ∨ x = 1 ∨ x = 2 := by omega
      all_goals
        subst e
        walk_at "go"
        exact q _ _ (by trivial) (S1.same (Same.new (Same.refl _) nl)) (b1.new nl)
    walk_at "go"
    refine g_dec (fun h4 => ?_) (fun h4 => ?_)
    · walk_at "go"
      refine ⟨p, a, ns, 4, rfl, S1, by decide, by decide, fun i v r y k h0 h1 => ?_⟩
      walk_at "go"
      exact q _ _ (show (y - 1).natAbs < 10 ^ 40 by omega) (S1.upd k) b1.upd
    walk_at "go"
    refine g_dec (fun h4 => ?_) (fun h5 => ?_)
    · walk_at "go"
      refine ⟨p, a, ns, _, rfl, S1, by decide, by decide, fun i v r z k h0 h1 => ?_⟩
      have S2 := S1.upd k
      have b2 : But p H (upd H1 p (StO a i v r)) := b1.upd
      generalize upd H1 p (StO a i v r) = H2 at S2 b2
      walk_at "go"
      refine ⟨p, a, ns, 2, rfl, S2, by decide, by decide, fun i v r y k h0' h1' => ?_⟩
      walk_at "go"
      refine g_I (.inr ⟨by omega, by omega⟩) ?_
      refine q _ _ ?_ (S2.upd k) b2.upd
      have e : (10 : Int) ^ (40 : Int).toNat = 10 ^ 40 := by decide
      rw [e] at h1
      show (z * (1 - 2 * y)).natAbs < 10 ^ 40
      rw [Int.natAbs_mul]
      obtain e | e : y = 0 ∨ y = 1 := by omega
      · subst e; rw [show (1 - 2 * (0 : Int)).natAbs = 1 from by decide]; omega
      · subst e; rw [show (1 - 2 * (1 : Int)).natAbs = 1 from by decide]; omega
    walk_at "go"
    refine ⟨p, a, ns, 5, rfl, S1, by decide, by decide, fun i v r y k h0 h1 => ?_⟩
    have S2 := S1.upd k
    have b2 : But p H (upd H1 p (StO a i v r)) := b1.upd
    generalize upd H1 p (StO a i v r) = H2 at S2 b2
    walk_at "go"
    intro D nD
    have nDp := S2.nes nD
    have nDa := S2.nea nD
    refine lc_range (lo := 0) (n := y.toNat) (fun i H' => StAt K H' p a ns ∧ But p H H' ∧ ∃ ys : List Str, H' D = some (.lst (ys.map V.str)) ∧ ys.length = i ∧ ∀ z ∈ ys, z.length = 1)
      ⟨S2.new nD, b2.new nD, [], upd_same, rfl, fun _ z => nomatch z⟩ ?_ ?_
    · rintro i H3 hi ⟨S3, b3, ys, hD, hl, hz⟩
      walk_at "go"
      refine g_wipe rfl ?_
      walk_at "go"
      refine ⟨p, a, ns, 95, rfl, S3, by decide, by decide, fun i' v r z k h0 h1 => ?_⟩
      walk_at "go"
      refine ⟨z, rfl, fun c hc => ?_⟩
      refine ⟨ys.map V.str, (upd_ne nDp).trans hD, szlt (by rw [List.length_map]; omega), (S3.upd k).put nDp nDa, b3.upd.put (b2.free nDp nD), ys ++ [⟨#[c]⟩], ?_, ?_, ?_⟩
      · rw [upd_same, List.map_append]; rfl
      · rw [List.length_append, hl]; rfl
      · intro z hz'
        rcases List.mem_append.mp hz' with h | h
        · exact hz z h
        · rw [List.mem_singleton.mp h]; rfl
    · rintro H3 ⟨S3, b3, ys, hD, hl, hz⟩
      have hs : (ys.map (·.length)).sum = ys.length := by
        clear hl hD
        induction ys with
        | nil => rfl
        | cons z r ih =>
          rw [List.map_cons, List.sum_cons, ih (fun u hu => hz u (List.mem_cons_of_mem _ hu)), hz z List.mem_cons_self, List.length_cons]
          omega
      refine ⟨"", D, ys, rfl, rfl, .inl (.inl (.inl hD)), ?_, ?_⟩
      · rw [hs]
        show ys.length + ys.length * 0 ≤ 16777216
        omega
      refine q _ _ ?_ S3 b3
      show (Txt.join "" ys).length ≤ 10
      rw [join_len, hs]
      omega
def spLaw (K : PySem.W.Frag) : Sp := fun vs H Q _ => ∃ (a : Addr) (ns : List Int), vs = [.ref a] ∧ SqL K H a (ns.map V.int) ∧ ns.length ≤ 63 ∧ ∀ H', Q (.bl true) H'
theorem key_parts {v : V} (h : flatV v = true) : (keyV v).all isPart = true := by cases v <;> first | rfl | cases h
theorem flK_parts : ∀ {xs : List V}, xs.all flatV = true → (flK xs).all isPart = true
  | [], _ => rfl
  | x :: xs, h => by
    rw [List.all_cons, Bool.and_eq_true] at h
    rw [flK_cons, List.all_append, key_parts h.1, flK_parts h.2]
    rfl
theorem flK_flat : ∀ {xs : List V}, xs.all flatV = true → (flK xs).all flatV = true
  | [], _ => rfl
  | x :: xs, h => by
    rw [List.all_cons, Bool.and_eq_true] at h
    rw [flK_cons, List.all_append, keyV_flat h.1, flK_flat h.2]
    rfl
/-- a row stands at t -/
def RowAt (H : Hp) (w : Nat) (t : Addr) : Prop := ∃ xs, H t = some (.tup xs) ∧ xs.length = w ∧ xs.all flatV = true
theorem RowAt.same {H H' : Hp} {w : Nat} {t : Addr} (x : RowAt H w t) (e : Same H H') : RowAt H' w t := by
  obtain ⟨xs, h, k⟩ := x
  exact ⟨xs, e _ _ h, k⟩
theorem RowAt.but {H H' : Hp} {w : Nat} {t p : Addr} {o : HO} (x : RowAt H w t) (hp : H p = some o) (no : ∀ xs, o ≠ .tup xs) (e : But p H H') : RowAt H' w t := by
  obtain ⟨xs, h, k⟩ := x
  exact ⟨xs, e _ _ h (ne_of h hp fun z => no xs z.symm), k⟩
theorem ok_law (T : Txt K mg) : FnOk P w K mg base CX0 4 T.a_law T.d_law ["_law_script"] (spLaw K) := by
  have G_next : FnOk P w K mg base CX0 1 _ _ _ _ := ok_next T
  have G_value : FnOk P w K mg base CX0 2 _ _ _ _ := ok_value T
  have G_same : FnOk P w K mg base CX0 2 _ _ _ _ := ok_same T
  have G_value_key : FnOk P w K mg base CX0 1 _ _ _ _ := ok_value_key T
  have G_row_key : FnOk P w K mg base CX0 2 _ _ _ _ := ok_row_key T
  have G_order : FnOk P w K mg base CX0 2 _ _ _ _ := ok_order T
  have G_row_order : FnOk P w K mg base CX0 3 _ _ _ _ := ok_row_order T
  have G_is_key : FnOk P w K mg base CX0 1 _ _ _ _ := ok_is_key T
  have G_agrees : FnOk P w K mg base CX0 1 _ _ _ _ := ok_agrees T
  refine T.F_law.ok sc_law (fun vs H Q E h => ?_) (fun cdv A outer s H vs Q E hr h => ?_)
  · obtain ⟨a, ns, rfl, _⟩ := h
    rfl
  · obtain ⟨a, ns, rfl, hS, hlen, q⟩ := h
    refine ⟨_, (pss_cons (ps_set (i := 1) sc_law.nd rfl (.inr rfl) (pe_lst (pa_cons (pe_callTy (k_list (K := K)) (by rfl) T.z_list bt_list (pa_cons (pv 0) pa_nil)) (pa_cons pe_int (pa_cons pe_int (pa_cons pe_int pa_nil))))))
      (pss_cons (ps_setLc (i := 2) (own := [("_law_k", 9)]) (g := gName 9) (tt := tYes) rfl sc_law.nd rfl rfl (sw_true rfl rfl rfl (by decide +kernel)) (pi_range1 (by rfl) T.z_range (pa_cons (pe_call G_next (hr.mono (by decide)) (by rfl) T.g_next T.F_next.kp T.b_next .nil pass0 (pa_cons (pv 1) (pa_cons pe_int pa_nil))) pa_nil)) (blkOk_by (own := [("_law_k", 9)]) (N := ["_law_script", "_law_state", "_law_values", "_law_width", "_law_rows", "_law_first", "_law_second", "_law_order_here", "_law_alike", "_law_k", "_law_j"]) (sc := defScope s_law) (by decide +kernel)) (fun _ _ _ _ _ => (pg_name (i := 9) sc_law.nd rfl (.inl rfl))) (fun _ _ _ _ _ => pts_nil) (fun _ _ _ _ _ => (pe_call G_value (hr.mono (by decide)) (by rfl) T.g_value T.F_value.kp T.b_value .nil pass0 (pa_cons (pv 1) pa_nil))))
      (pss_cons (ps_set (i := 3) sc_law.nd rfl (.inr rfl) (pe_call G_next (hr.mono (by decide)) (by rfl) T.g_next T.F_next.kp T.b_next .nil pass0 (pa_cons (pv 1) (pa_cons pe_int pa_nil))))
      (pss_cons (ps_setLc (i := 4) (own := [("_law_j", 10)]) (g := gName 10) (tt := tYes) rfl sc_law.nd rfl rfl (sw_true rfl rfl rfl (by decide +kernel)) (pi_range1 (by rfl) T.z_range (pa_cons (pe_call G_next (hr.mono (by decide)) (by rfl) T.g_next T.F_next.kp T.b_next .nil pass0 (pa_cons (pv 1) (pa_cons pe_int pa_nil))) pa_nil)) (blkOk_by (own := [("_law_j", 10)]) (N := ["_law_script", "_law_state", "_law_values", "_law_width", "_law_rows", "_law_first", "_law_second", "_law_order_here", "_law_alike", "_law_k", "_law_j"]) (sc := defScope s_law) (by decide +kernel)) (fun _ _ _ _ _ => (pg_name (i := 10) sc_law.nd rfl (.inl rfl))) (fun _ _ _ _ _ => pts_nil) (fun _ _ _ _ _ => (pe_callTy (k_tuple (K := K)) (by rfl) T.z_tuple bt_tuple (pa_cons (pe_lc (own := [("_law_k", 9)]) (g := gName 9) (tt := tYes) rfl sc_law.nd (pi_range1 (by rfl) T.z_range (pa_cons (pv 3) pa_nil)) (blkOk_by (own := [("_law_k", 9)]) (N := ["_law_script", "_law_state", "_law_values", "_law_width", "_law_rows", "_law_first", "_law_second", "_law_order_here", "_law_alike", "_law_k", "_law_j"]) (sc := ({ kind := .function, names := [(PySem.Str.ofString ".0", .local), (PySem.Str.ofString "_law_j", .local), (PySem.Str.ofString "tuple", .globalImplicit), (PySem.Str.ofString "range", .globalImplicit), (PySem.Str.ofString "_law_state", .cell), (PySem.Str.ofString "_law_width", .cell)], isGenerator := false, isCoroutine := false } : Scope)) (by decide +kernel)) (fun _ _ _ _ _ => (pg_name (i := 9) sc_law.nd rfl (.inl rfl))) (fun _ _ _ _ _ => pts_nil) (fun _ _ _ _ _ => (pe_call G_value (hr.mono (by decide)) (by rfl) T.g_value T.F_value.kp T.b_value .nil pass0 (pa_cons (pv 1) pa_nil)))) pa_nil))))
      (C8.pss_cut (ps_if (PW.pt (pw_and (pt_cmpR op_gt (pe_callB (k_len (K := K)) (by rfl) T.z_len bt_len (pa_cons (pv 4) pa_nil)) pe_int (nomark _)) (pw_and1 (pt_cmpR op_gt (pv 3) pe_int (nomark _))))) (pss_one (ps_asg (pe_op (k_catA (K := K)) (pe_slice (k_slT (K := K)) (pe_ix (k_ixL (K := K)) (pv 4) pe_int (fun _ _ => rfl)) po_none (po_some (pe_un un_neg pe_int))) (pe_tup (pa_cons (pe_ix (k_ixT (K := K)) (pe_ix (k_ixL (K := K)) (pv 4) pe_int (fun _ _ => rfl)) (pe_un un_neg pe_int) (fun _ _ => rfl)) pa_nil))) (pg_sub (pv 4) pe_int set_list))) pss_nil)
      (pss_cons (ps_for PassesOwn.never rfl (k_piL (K := K) (pv 2)) (pg_name (i := 5) sc_law.nd rfl (.inl rfl)) (pss_cons (ps_if (pt_not (pt_val (pe_call G_is_key (hr.mono (by decide)) (by rfl) T.g_is_key T.F_is_key.kp T.b_is_key .nil pass0 (pa_cons (pe_call G_value_key (hr.mono (by decide)) (by rfl) T.g_value_key T.F_value_key.kp T.b_value_key .nil pass0 (pa_cons (pv 5) pa_nil)) pa_nil)))) (pss_one (ps_ret pe_bl)) pss_nil)
      (pss_one (ps_for PassesOwn.never rfl (k_piL (K := K) (pv 2)) (pg_name (i := 6) sc_law.nd rfl (.inl rfl)) (pss_cons (ps_set (i := 7) sc_law.nd rfl (.inl rfl) (pe_call G_order (hr.mono (by decide)) (by rfl) T.g_order T.F_order.kp T.b_order .nil pass0 (pa_cons (pv 5) (pa_cons (pv 6) pa_nil))))
      (pss_cons (ps_if (pt_not (pt_val (pe_call G_agrees (hr.mono (by decide)) (by rfl) T.g_agrees T.F_agrees.kp T.b_agrees .nil pass0 (pa_cons (pe_call G_value_key (hr.mono (by decide)) (by rfl) T.g_value_key T.F_value_key.kp T.b_value_key .nil pass0 (pa_cons (pv 5) pa_nil)) (pa_cons (pe_call G_value_key (hr.mono (by decide)) (by rfl) T.g_value_key T.F_value_key.kp T.b_value_key .nil pass0 (pa_cons (pv 6) pa_nil)) (pa_cons (pv 7) pa_nil)))))) (pss_one (ps_ret pe_bl)) pss_nil)
      (pss_cons (ps_set (i := 8) sc_law.nd rfl (.inl rfl) (pe_call G_same (hr.mono (by decide)) (by rfl) T.g_same T.F_same.kp T.b_same .nil pass0 (pa_cons (pv 5) (pa_cons (pv 6) pa_nil))))
      (pss_one (ps_if (PW.pt (pw_or (pt_not (pt_val (pe_callB (k_isi (K := K)) (by rfl) T.z_isinstance bt_isinstance (pa_cons (pv 8) (pa_cons (pe_bltn (v := .ty "bool") (by rfl) T.z_bool bt_bool rfl) pa_nil))))) (pw_or1 (pt_cmpR op_ne (pv 8) (pe_cmpR op_eq (pv 7) pe_int (nomark _)) (nomark _))))) (pss_one (ps_ret pe_bl)) pss_nil)))))))))
      (pss_cons (ps_for PassesOwn.never rfl (k_piL (K := K) (pv 4)) (pg_name (i := 5) sc_law.nd rfl (.inl rfl)) (pss_cons (ps_if (pt_not (pt_val (pe_call G_is_key (hr.mono (by decide)) (by rfl) T.g_is_key T.F_is_key.kp T.b_is_key .nil pass0 (pa_cons (pe_call G_row_key (hr.mono (by decide)) (by rfl) T.g_row_key T.F_row_key.kp T.b_row_key .nil pass0 (pa_cons (pv 5) pa_nil)) pa_nil)))) (pss_one (ps_ret pe_bl)) pss_nil)
      (pss_one (ps_for PassesOwn.never rfl (k_piL (K := K) (pv 4)) (pg_name (i := 6) sc_law.nd rfl (.inl rfl)) (pss_one (ps_if (pt_not (pt_val (pe_call G_agrees (hr.mono (by decide)) (by rfl) T.g_agrees T.F_agrees.kp T.b_agrees .nil pass0 (pa_cons (pe_call G_row_key (hr.mono (by decide)) (by rfl) T.g_row_key T.F_row_key.kp T.b_row_key .nil pass0 (pa_cons (pv 5) pa_nil)) (pa_cons (pe_call G_row_key (hr.mono (by decide)) (by rfl) T.g_row_key T.F_row_key.kp T.b_row_key .nil pass0 (pa_cons (pv 6) pa_nil)) (pa_cons (pe_call G_row_order (hr.mono (by decide)) (by rfl) T.g_row_order T.F_row_order.kp T.b_row_order .nil pass0 (pa_cons (pv 5) (pa_cons (pv 6) pa_nil))) pa_nil)))))) (pss_one (ps_ret pe_bl)) pss_nil))))))
      (pss_one (ps_ret pe_bl))))))))), ?_⟩
    walk_at "go0"
    walk_at "go"
    intro l nl
    walk_at "go"
    intro p np
    have npl : l ≠ p := fun e => by rw [e, upd_same] at np; cases np
    have S : StAt K (upd (upd H l (.lst (ns.map V.int))) p (.lst [.ref l, .int 0, .int 0, .int 1])) p l ns := ⟨⟨0, 0, 1, upd_same, by decide⟩, (upd_ne npl).trans upd_same, hlen, npl⟩
    generalize upd (upd H l (.lst (ns.map V.int))) p (.lst [.ref l, .int 0, .int 0, .int 1]) = H1 at S ⊢
    walk_at "go"
    refine ⟨p, l, ns, 10, rfl, S, by decide, by decide, fun i v r x k h0 h1 => ?_⟩
    have S1 := S.upd k
    generalize upd H1 p (StO l i v r) = H2 at S1 ⊢
    walk_at "go"
    intro D nD
    have nDp := S1.nes nD
    refine lc_range (lo := 0) (n := x.toNat) (fun i H' => StAt K H' p l ns ∧ ∃ vs : List V, H' D = some (.lst vs) ∧ vs.length = i ∧ vs.all flatV = true)
      ⟨S1.new nD, [], upd_same, rfl, rfl⟩ ?_ ?_
    · rintro i H3 hi ⟨S3, vs, hD, hl, hf⟩
      walk_at "go"
      refine g_wipe rfl ?_
      walk_at "go"
      refine ⟨p, l, ns, rfl, S3, fun H4 v hv S4 b4 => ?_⟩
      have hD4 := b4 _ _ hD nDp
      refine ⟨vs, hD4, szlt (by omega), S4.put nDp (fun e => ?_), vs ++ [v], upd_same, by rw [List.length_append, hl]; rfl, ?_⟩
      · exact S1.nea nD e
      · rw [List.all_append, hf, List.all_cons, hv.flat]; rfl
    rintro H3 ⟨S3, vs, hD, hl, hf⟩
    walk_at "go"
    refine ⟨p, l, ns, 5, rfl, S3, by decide, by decide, fun i v r wd k w0 w1 => ?_⟩
    have S4 := S3.upd k
    have hD4 : (upd H3 p (StO l i v r)) D = some (.lst vs) := (upd_ne nDp).trans hD
    generalize upd H3 p (StO l i v r) = H4 at S4 hD4 ⊢
    walk_at "go"
    refine ⟨p, l, ns, 8, rfl, S4, by decide, by decide, fun i v r x k h0 h1 => ?_⟩
    have S5 := S4.upd k
    have hD5 : (upd H4 p (StO l i v r)) D = some (.lst vs) := (upd_ne nDp).trans hD4
    generalize upd H4 p (StO l i v r) = H5 at S5 hD5 ⊢
    walk_at "go"
    intro R nR
    have nRp := S5.nes nR
    have nRl := S5.nea nR
    have nDR : D ≠ R := ne_of_none hD5 nR
    refine lc_range (lo := 0) (n := x.toNat) (fun i H' => StAt K H' p l ns ∧ H' D = some (.lst vs) ∧ ∃ ts : List Addr, H' R = some (.lst (ts.map V.ref)) ∧ ts.length = i ∧ ∀ t ∈ ts, RowAt H' wd.toNat t)
      ⟨S5.new nR, (upd_ne nDR).trans hD5, [], upd_same, rfl, fun _ z => nomatch z⟩ ?_ ?_
    · rintro i H6 hi ⟨S6, hD6, ts, hR, hl, hts⟩
      walk_at "go"
      refine g_wipe rfl ?_
      walk_at "go"
      intro D3 n3
      have n3p := S6.nes n3
      have n3l := S6.nea n3
      refine lc_range (lo := 0) (n := wd.toNat) (fun i H' => StAt K H' p l ns ∧ But p H6 H' ∧ ∃ xs : List V, H' D3 = some (.lst xs) ∧ xs.length = i ∧ xs.all flatV = true)
        ⟨S6.new n3, (But.refl p H6).new n3, [], upd_same, rfl, rfl⟩ ?_ ?_
      · rintro j H7 hj ⟨S7, b7, xs, h3, hxl, hxf⟩
        walk_at "go"
        refine g_wipe rfl ?_
        walk_at "go"
        refine ⟨p, l, ns, rfl, S7, fun H8 v hv S8 b8 => ?_⟩
        refine ⟨xs, b8 _ _ h3 n3p, szlt (by omega), S8.put n3p n3l, (b7.trans b8).put (But.free (But.refl p H6) n3p n3), xs ++ [v], upd_same, by rw [List.length_append, hxl]; rfl, ?_⟩
        rw [List.all_append, hxf, List.all_cons, hv.flat]; rfl
      · rintro H7 ⟨S7, b7, xs, h3, hxl, hxf⟩
        walk_at "go"
        refine g_tupL (.inl (.inl h3)) fun t nt => ?_
        have hS6 := S6.st
        obtain ⟨i1, v1, r1, hp6, _⟩ := hS6
        have s8 : Same H7 (upd H7 t (.tup xs)) := Same.new (Same.refl _) nt
        have hR7 : H7 R = some (.lst (ts.map V.ref)) := b7 _ _ hR nRp
        have ntR : R ≠ t := ne_of_none hR7 nt
        refine ⟨ts.map V.ref, s8 _ _ hR7, szlt (by rw [List.length_map]; omega), (S7.same s8).put nRp nRl, ?_, ts ++ [t], ?_, by rw [List.length_append, hl]; rfl, ?_⟩
        · rw [upd_ne nDR]
          exact s8 _ _ (b7 _ _ hD6 nDp)
        · rw [upd_same, List.map_append]; rfl
        · intro u hu
          rcases List.mem_append.mp hu with h | h
          · obtain ⟨ys, hy, hk⟩ := (hts u h).but hp6 (fun _ z => nomatch z) b7
            refine ⟨ys, ?_, hk⟩
            rw [upd_ne (ne_of (s8 _ _ hy) (s8 _ _ hR7) (fun z => nomatch z))]
            exact s8 _ _ hy
          · rw [List.mem_singleton.mp h]
            refine ⟨xs, ?_, hxl, hxf⟩
            rw [upd_ne ntR.symm]
            exact upd_same
    rintro H6 ⟨S6, hD6, ts, hR, hl, hts⟩
    walk_at "go"
    refine g_cut (fun σ' H' => ∃ ts : List Addr, σ' = [some (.ref a), some (.ref p), some (.ref D), some (.int wd), some (.ref R), none, none, none, none, none, none] ∧ H' D = some (.lst vs) ∧ H' R = some (.lst (ts.map V.ref)) ∧ ∀ t ∈ ts, RowAt H' wd.toNat t) ?_ ?_
    · walk_at "go"
      refine g_dec (fun hlen2 => ?_) (fun _ => ?_)
      · walk_at "go"
        refine g_dec (fun hw => ?_) (fun _ => ?_)
        · obtain ⟨t0, t1, rest, rfl⟩ : ∃ t0 t1 rest, ts = t0 :: t1 :: rest := by
            match ts, hlen2 with
            | [], h => exact absurd h (by simp)
            | [_], h => exact absurd h (by simp)
            | t0 :: t1 :: rest, _ => exact ⟨t0, t1, rest, rfl⟩
          obtain ⟨xs0, hx0, hl0, hf0⟩ := hts t0 List.mem_cons_self
          obtain ⟨xs1, hx1, hl1, hf1⟩ := hts t1 (List.mem_cons_of_mem _ List.mem_cons_self)
          have hwd : 0 < wd.toNat := by omega
          obtain ⟨ini, la, rfl⟩ : ∃ ini la, xs1 = ini ++ [la] := ⟨_, _, (List.dropLast_concat_getLast (l := xs1) (by intro e; rw [e] at hl1; simp at hl1; omega)).symm⟩
          have hcl : (cutV xs0 none (some (-1))).length = wd.toNat - 1 := by
            unfold cutV
            rw [HT.sIx_none, List.drop_zero, List.length_take]
            show min (((-1 : Int) + (xs0.length : Int)).toNat - 0) xs0.length = _
            omega
          walk_at "go"
          refine g_ixL (SqL.of hR) (at_of (j := 0) rfl rfl) ?_
          walk_at "go"
          refine ⟨t0, xs0, rfl, .inl (.inl hx0), ?_, fun u1 nu1 => ?_⟩
          · rintro ⟨_, z⟩
            have z' : ((-1 : Int) + (xs0.length : Int)).toNat = xs0.length := z
            omega
          have s1 : Same H6 (upd H6 u1 (.tup (cutV xs0 none (some (-1))))) := Same.new (Same.refl _) nu1
          walk_at "go"
          refine g_ixL (SqL.of (s1 _ _ hR)) (at_of (j := 1) rfl rfl) ?_
          walk_at "go"
          refine g_ixT (.inl (.inl (s1 _ _ hx1))) (atI_last _ _) ?_
          walk_at "go"
          intro u2 nu2
          have s2 : Same H6 (upd (upd H6 u1 (.tup (cutV xs0 none (some (-1))))) u2 (.tup [la])) := Same.new s1 nu2
          have k1 : (upd (upd H6 u1 (.tup (cutV xs0 none (some (-1))))) u2 (.tup [la])) u1 = some (.tup (cutV xs0 none (some (-1)))) := Same.new (Same.refl _) nu2 _ _ upd_same
          have k2 : (upd (upd H6 u1 (.tup (cutV xs0 none (some (-1))))) u2 (.tup [la])) u2 = some (.tup [la]) := upd_same
          generalize upd (upd H6 u1 (.tup (cutV xs0 none (some (-1))))) u2 (.tup [la]) = H7 at s2 k1 k2 ⊢
          have fla : flatV la = true := by rw [List.all_append, Bool.and_eq_true] at hf1; have := hf1.2; rw [List.all_cons, Bool.and_eq_true] at this; exact this.1
          have fcut : (cutV xs0 none (some (-1))).all flatV = true := List.all_eq_true.mpr fun v hv => List.all_eq_true.mp hf0 v (List.mem_of_mem_drop (List.mem_of_mem_take hv))
          walk_at "go"
          refine g_catA (.inl (.inl k1)) k2 (sz (by simp; omega)) (by simp) fun q H8 s8 hq8 => ?_
          have hq : RowAt H8 wd.toNat q := ⟨_, hq8, by rw [List.length_append, hcl]; simp; omega, by rw [List.all_append, fcut, List.all_cons, fla]; rfl⟩
          have hR8 := s8 _ _ (s2 _ _ hR)
          walk_at "go"
          refine g_setL (m := 1) hR8 ?_ ?_
          · show ixN ((rest.map V.ref).length + 2) 1 = some 1
            unfold ixN
            rw [if_pos (by decide), if_pos (by omega)]
            rfl
          walk_at "go"
          refine ⟨t0 :: q :: rest, rfl, (upd_ne nDR).trans (s8 _ _ (s2 _ _ hD6)), by rw [upd_same]; rfl, fun t ht => ?_⟩
          have put : ∀ u, RowAt H8 wd.toNat u → RowAt (upd H8 R (.lst ((V.ref t0 :: V.ref t1 :: rest.map V.ref).set 1 (.ref q)))) wd.toNat u := by
            rintro u ⟨ys, hy, hk⟩
            exact ⟨ys, (upd_ne (ne_of hy hR8 (fun z => nomatch z))).trans hy, hk⟩
          rcases List.mem_cons.mp ht with rfl | ht
          · exact put _ ((hts _ List.mem_cons_self).same (s2.trans s8))
          rcases List.mem_cons.mp ht with rfl | ht
          · exact put _ hq
          · exact put _ ((hts _ (List.mem_cons_of_mem _ (List.mem_cons_of_mem _ ht))).same (s2.trans s8))
        · walk_at "go"
          exact ⟨ts, rfl, hD6, hR, hts⟩
      · walk_at "go"
        exact ⟨ts, rfl, hD6, hR, hts⟩
    rintro σ' H7 ⟨ts, rfl, hD7, hR7, hts7⟩
    walk_at "go"
    refine g_forL (xs := vs) (fun i σ' H' => ∃ y5 y6 y7 y8, σ' = [some (.ref a), some (.ref p), some (.ref D), some (.int wd), some (.ref R), y5, y6, y7, y8, none, none] ∧ Same H7 H') ⟨_, _, _, _, rfl, Same.refl _⟩ (fun _ _ _ _ ⟨_, _, _, _, _, sm⟩ => SqL.of (sm _ _ hD7)) ?_ ?_
    · rintro i x σ' H8 hi ⟨y5, y6, y7, y8, rfl, sm8⟩
      have fx : flatV x = true := List.all_eq_true.mp hf _ (List.mem_of_getElem? hi)
      walk_at "go"
      refine ⟨x, rfl, fx, fun k nk => ?_⟩
      walk_at "go"
      refine ⟨k, _, rfl, upd_same, key_parts fx, fun H9 s9 => ?_⟩
      have sm9 : Same H7 H9 := (Same.new sm8 nk).trans s9
      have hD9 := sm9 _ _ hD7
      walk_at "go"
      refine g_forL (xs := vs) (fun i σ' H' => ∃ y6 y7 y8, σ' = [some (.ref a), some (.ref p), some (.ref D), some (.int wd), some (.ref R), some x, y6, y7, y8, none, none] ∧ Same H7 H') ⟨_, _, _, rfl, sm9⟩ (fun _ _ _ _ ⟨_, _, _, _, sm⟩ => SqL.of (sm _ _ hD7)) ?_ ?_
      · rintro j y σ' H10 hj ⟨y6, y7, y8, rfl, sm10⟩
        have fy : flatV y = true := List.all_eq_true.mp hf _ (List.mem_of_getElem? hj)
        walk_at "go"
        refine ⟨x, y, rfl, fx, fy, ?_⟩
        walk_at "go"
        refine ⟨x, rfl, fx, fun k1 nk1 => ?_⟩
        walk_at "go"
        refine ⟨y, rfl, fy, fun k2 nk2 => ?_⟩
        walk_at "go"
        have nk : k1 ≠ k2 := fun e => by rw [← e, upd_same] at nk2; cases nk2
        obtain ⟨a1, a2, a3, a4⟩ := key_all fx fy
        refine ⟨k1, k2, _, _, ordV x y, rfl, (upd_ne nk).trans upd_same, upd_same, keyV_flat fx, keyV_flat fy, a1, a2, a3, a4, fun H11 s11 => ?_⟩
        walk_at "go"
        refine ⟨x, y, rfl, fx, fy, fun H12 s12 => ?_⟩
        walk_at "go"
        have sm12 : Same H7 H12 := ((Same.new (Same.new sm10 nk1) nk2).trans s11).trans s12
        rw [show decide (x = y) = decide (ordV x y = 0) from ord_zero x y]
        refine g_ndecF rfl ?_
        walk_at "go"
        exact ⟨_, _, _, rfl, sm12⟩
      · rintro σ' H10 ⟨y6, y7, y8, rfl, sm10⟩
        walk_at "go"
        exact ⟨_, _, _, _, rfl, sm10⟩
    · rintro σ' H8 ⟨y5, y6, y7, y8, rfl, sm8⟩
      have hR8 := sm8 _ _ hR7
      walk_at "go"
      refine g_forL (xs := ts.map V.ref) (fun i σ' H' => ∃ y5 y6 y7 y8, σ' = [some (.ref a), some (.ref p), some (.ref D), some (.int wd), some (.ref R), y5, y6, y7, y8, none, none] ∧ Same H7 H') ⟨_, _, _, _, rfl, sm8⟩ (fun _ _ _ _ ⟨_, _, _, _, _, sm⟩ => SqL.of (sm _ _ hR7)) ?_ ?_
      · rintro i v σ' H9 hi ⟨y5, y6, y7, y8, rfl, sm9⟩
        obtain ⟨t, ht, rfl⟩ := List.mem_map.mp (List.mem_of_getElem? hi)
        obtain ⟨xs, hx, hxl, hxf⟩ := hts7 t ht
        walk_at "go"
        refine ⟨t, xs, rfl, .inl (.inl (sm9 _ _ hx)), hxf, by omega, fun H10 k s10 nk hk => ?_⟩
        walk_at "go"
        refine ⟨k, _, rfl, hk, flK_parts hxf, fun H11 s11 => ?_⟩
        have sm11 : Same H7 H11 := (sm9.trans s10).trans s11
        have hR11 := sm11 _ _ hR7
        walk_at "go"
        refine g_forL (xs := ts.map V.ref) (fun i σ' H' => ∃ y6 y7 y8, σ' = [some (.ref a), some (.ref p), some (.ref D), some (.int wd), some (.ref R), some (.ref t), y6, y7, y8, none, none] ∧ Same H7 H') ⟨_, _, _, rfl, sm11⟩ (fun _ _ _ _ ⟨_, _, _, _, sm⟩ => SqL.of (sm _ _ hR7)) ?_ ?_
        · rintro j v σ' H12 hj ⟨y6, y7, y8, rfl, sm12⟩
          obtain ⟨u, hu, rfl⟩ := List.mem_map.mp (List.mem_of_getElem? hj)
          obtain ⟨ys, hy, hyl, hyf⟩ := hts7 u hu
          walk_at "go"
          refine ⟨t, xs, rfl, .inl (.inl (sm12 _ _ hx)), hxf, by omega, fun H13 k1 s13 nk1 hk1 => ?_⟩
          walk_at "go"
          have sm13 := sm12.trans s13
          refine ⟨u, ys, rfl, .inl (.inl (sm13 _ _ hy)), hyf, by omega, fun H14 k2 s14 nk2 hk2 => ?_⟩
          walk_at "go"
          have sm14 := sm13.trans s14
          refine ⟨t, u, xs, ys, rfl, .inl (.inl (sm14 _ _ hx)), .inl (.inl (sm14 _ _ hy)), hxf, hyf, by omega, by omega, ?_⟩
          walk_at "go"
          obtain ⟨a1, a2, a3, a4⟩ := rows_all (hxl.trans hyl.symm) hxf hyf (decide ((flK xs).length < (flK ys).length)) (decide ((flK xs).length > (flK ys).length)) (fun e => by rw [e]; exact ⟨decide_eq_false (Nat.lt_irrefl _), decide_eq_false (Nat.lt_irrefl _)⟩)
          refine ⟨k1, k2, _, _, rowOrd xs ys, rfl, s14 _ _ hk1, hk2, flK_flat hxf, flK_flat hyf, a1, a2, a3, a4, fun H15 s15 => ?_⟩
          walk_at "go"
          exact ⟨_, _, _, rfl, sm14.trans s15⟩
        · rintro σ' H12 ⟨y6, y7, y8, rfl, sm12⟩
          walk_at "go"
          exact ⟨_, _, _, _, rfl, sm12⟩
      · rintro σ' H9 ⟨y5, y6, y7, y8, rfl, sm9⟩
        walk_at "go"
        exact q _
end
theorem all_mk {l : PySem.W.OpenLaw} {w : World} {K : PySem.W.Frag} {h : Heap} {mg : Str → Option Value} {fa f_value_key f_row_key f_same f_next f_char f_value f_rank f_order f_row_order f_is_key f_agrees f_law : Addr} (X : K.In h) (G : h.Ns mainGlobals mg) (hfa : mg "law" = some (.ref fa))
    {od_value_key an_value_key : Option Addr} {sl_value_key : Array (Option Value)} {oc_value_key kV_value_key dc_value_key pm_value_key cd_value_key ct_value_key : Value}
    {od_row_key an_row_key : Option Addr} {sl_row_key : Array (Option Value)} {oc_row_key kV_row_key dc_row_key pm_row_key cd_row_key ct_row_key : Value}
    {od_same an_same : Option Addr} {sl_same : Array (Option Value)} {oc_same kV_same dc_same pm_same cd_same ct_same : Value}
    {od_next an_next : Option Addr} {sl_next : Array (Option Value)} {oc_next kV_next dc_next pm_next cd_next ct_next : Value}
    {od_char an_char : Option Addr} {sl_char : Array (Option Value)} {oc_char kV_char dc_char pm_char cd_char ct_char : Value}
    {od_value an_value : Option Addr} {sl_value : Array (Option Value)} {oc_value kV_value dc_value pm_value cd_value ct_value : Value}
    {od_rank an_rank : Option Addr} {sl_rank : Array (Option Value)} {oc_rank kV_rank dc_rank pm_rank cd_rank ct_rank : Value}
    {od_order an_order : Option Addr} {sl_order : Array (Option Value)} {oc_order kV_order dc_order pm_order cd_order ct_order : Value}
    {od_row_order an_row_order : Option Addr} {sl_row_order : Array (Option Value)} {oc_row_order kV_row_order dc_row_order pm_row_order cd_row_order ct_row_order : Value}
    {od_is_key an_is_key : Option Addr} {sl_is_key : Array (Option Value)} {oc_is_key kV_is_key dc_is_key pm_is_key cd_is_key ct_is_key : Value}
    {od_agrees an_agrees : Option Addr} {sl_agrees : Array (Option Value)} {oc_agrees kV_agrees dc_agrees pm_agrees cd_agrees ct_agrees : Value}
    {od_law an_law : Option Addr} {sl_law : Array (Option Value)} {oc_law kV_law dc_law pm_law cd_law ct_law : Value}
    (a_value_key : PySem.W.nsIn K mainGlobals "value_key" = some (some (.ref f_value_key)))
    (l_value_key : K.lookup f_value_key = some ⟨oc_value_key, od_value_key, .func (PySem.W.fnOf "value_key" "value_key" (defArgs s_value_key) (defBody s_value_key) (defScope s_value_key) .none kV_value_key dc_value_key pm_value_key an_value_key cd_value_key ct_value_key), sl_value_key⟩)
    (c_value_key : PySem.W.codeIn K cd_value_key "value_key" = true)
    (k_value_key : PySem.W.keepIn K (.ref f_value_key) = true)
    (a_row_key : PySem.W.nsIn K mainGlobals "row_key" = some (some (.ref f_row_key)))
    (l_row_key : K.lookup f_row_key = some ⟨oc_row_key, od_row_key, .func (PySem.W.fnOf "row_key" "row_key" (defArgs s_row_key) (defBody s_row_key) (defScope s_row_key) .none kV_row_key dc_row_key pm_row_key an_row_key cd_row_key ct_row_key), sl_row_key⟩)
    (c_row_key : PySem.W.codeIn K cd_row_key "row_key" = true)
    (k_row_key : PySem.W.keepIn K (.ref f_row_key) = true)
    (a_same : PySem.W.nsIn K mainGlobals "same" = some (some (.ref f_same)))
    (l_same : K.lookup f_same = some ⟨oc_same, od_same, .func (PySem.W.fnOf "same" "same" (defArgs s_same) (defBody s_same) (defScope s_same) .none kV_same dc_same pm_same an_same cd_same ct_same), sl_same⟩)
    (c_same : PySem.W.codeIn K cd_same "same" = true)
    (k_same : PySem.W.keepIn K (.ref f_same) = true)
    (a_next : PySem.W.nsIn K mainGlobals "_law_next" = some (some (.ref f_next)))
    (l_next : K.lookup f_next = some ⟨oc_next, od_next, .func (PySem.W.fnOf "_law_next" "_law_next" (defArgs s_next) (defBody s_next) (defScope s_next) .none kV_next dc_next pm_next an_next cd_next ct_next), sl_next⟩)
    (c_next : PySem.W.codeIn K cd_next "_law_next" = true)
    (k_next : PySem.W.keepIn K (.ref f_next) = true)
    (a_char : PySem.W.nsIn K mainGlobals "_law_char" = some (some (.ref f_char)))
    (l_char : K.lookup f_char = some ⟨oc_char, od_char, .func (PySem.W.fnOf "_law_char" "_law_char" (defArgs s_char) (defBody s_char) (defScope s_char) .none kV_char dc_char pm_char an_char cd_char ct_char), sl_char⟩)
    (c_char : PySem.W.codeIn K cd_char "_law_char" = true)
    (k_char : PySem.W.keepIn K (.ref f_char) = true)
    (a_value : PySem.W.nsIn K mainGlobals "_law_value" = some (some (.ref f_value)))
    (l_value : K.lookup f_value = some ⟨oc_value, od_value, .func (PySem.W.fnOf "_law_value" "_law_value" (defArgs s_value) (defBody s_value) (defScope s_value) .none kV_value dc_value pm_value an_value cd_value ct_value), sl_value⟩)
    (c_value : PySem.W.codeIn K cd_value "_law_value" = true)
    (k_value : PySem.W.keepIn K (.ref f_value) = true)
    (a_rank : PySem.W.nsIn K mainGlobals "_law_rank" = some (some (.ref f_rank)))
    (l_rank : K.lookup f_rank = some ⟨oc_rank, od_rank, .func (PySem.W.fnOf "_law_rank" "_law_rank" (defArgs s_rank) (defBody s_rank) (defScope s_rank) .none kV_rank dc_rank pm_rank an_rank cd_rank ct_rank), sl_rank⟩)
    (c_rank : PySem.W.codeIn K cd_rank "_law_rank" = true)
    (k_rank : PySem.W.keepIn K (.ref f_rank) = true)
    (a_order : PySem.W.nsIn K mainGlobals "_law_order" = some (some (.ref f_order)))
    (l_order : K.lookup f_order = some ⟨oc_order, od_order, .func (PySem.W.fnOf "_law_order" "_law_order" (defArgs s_order) (defBody s_order) (defScope s_order) .none kV_order dc_order pm_order an_order cd_order ct_order), sl_order⟩)
    (c_order : PySem.W.codeIn K cd_order "_law_order" = true)
    (k_order : PySem.W.keepIn K (.ref f_order) = true)
    (a_row_order : PySem.W.nsIn K mainGlobals "_law_row_order" = some (some (.ref f_row_order)))
    (l_row_order : K.lookup f_row_order = some ⟨oc_row_order, od_row_order, .func (PySem.W.fnOf "_law_row_order" "_law_row_order" (defArgs s_row_order) (defBody s_row_order) (defScope s_row_order) .none kV_row_order dc_row_order pm_row_order an_row_order cd_row_order ct_row_order), sl_row_order⟩)
    (c_row_order : PySem.W.codeIn K cd_row_order "_law_row_order" = true)
    (k_row_order : PySem.W.keepIn K (.ref f_row_order) = true)
    (a_is_key : PySem.W.nsIn K mainGlobals "_law_is_key" = some (some (.ref f_is_key)))
    (l_is_key : K.lookup f_is_key = some ⟨oc_is_key, od_is_key, .func (PySem.W.fnOf "_law_is_key" "_law_is_key" (defArgs s_is_key) (defBody s_is_key) (defScope s_is_key) .none kV_is_key dc_is_key pm_is_key an_is_key cd_is_key ct_is_key), sl_is_key⟩)
    (c_is_key : PySem.W.codeIn K cd_is_key "_law_is_key" = true)
    (k_is_key : PySem.W.keepIn K (.ref f_is_key) = true)
    (a_agrees : PySem.W.nsIn K mainGlobals "_law_agrees" = some (some (.ref f_agrees)))
    (l_agrees : K.lookup f_agrees = some ⟨oc_agrees, od_agrees, .func (PySem.W.fnOf "_law_agrees" "_law_agrees" (defArgs s_agrees) (defBody s_agrees) (defScope s_agrees) .none kV_agrees dc_agrees pm_agrees an_agrees cd_agrees ct_agrees), sl_agrees⟩)
    (c_agrees : PySem.W.codeIn K cd_agrees "_law_agrees" = true)
    (k_agrees : PySem.W.keepIn K (.ref f_agrees) = true)
    (a_law : PySem.W.nsIn K mainGlobals "law" = some (some (.ref f_law)))
    (l_law : K.lookup f_law = some ⟨oc_law, od_law, .func (PySem.W.fnOf "law" "law" (defArgs s_law) (defBody s_law) (defScope s_law) .none kV_law dc_law pm_law an_law cd_law ct_law), sl_law⟩)
    (c_law : PySem.W.codeIn K cd_law "law" = true)
    (k_law : PySem.W.keepIn K (.ref f_law) = true)
    (z_bool : PySem.W.nsIn K mainGlobals "bool" = some none)
    (z_int : PySem.W.nsIn K mainGlobals "int" = some none)
    (z_isinstance : PySem.W.nsIn K mainGlobals "isinstance" = some none)
    (z_len : PySem.W.nsIn K mainGlobals "len" = some none)
    (z_list : PySem.W.nsIn K mainGlobals "list" = some none)
    (z_range : PySem.W.nsIn K mainGlobals "range" = some none)
    (z_str : PySem.W.nsIn K mainGlobals "str" = some none)
    (z_tuple : PySem.W.nsIn K mainGlobals "tuple" = some none)
    : ∃ fd : FuncData, (∀ (s : Shared) (v : Value), BindsTo s fd ⟨[v], []⟩ [("_law_script", v)]) ∧ ∀ base : Heap, K.In base → base.Ns mainGlobals mg → FnOk l.prog w K mg base CX0 4 fa fd ["_law_script"] (spLaw K) := by
  have e := hfa.symm.trans (PySem.W.mg_of X G a_law)
  have e2 : fa = f_law := by cases e; rfl
  rw [e2]
  exact ⟨PySem.W.fnOf "law" "law" (defArgs s_law) (defBody s_law) (defScope s_law) .none kV_law dc_law pm_law an_law cd_law ct_law, fun s v => .of_eq rfl, fun base _ _ =>
    ok_law (T := {
      a_value_key := f_value_key
      d_value_key := PySem.W.fnOf "value_key" "value_key" (defArgs s_value_key) (defBody s_value_key) (defScope s_value_key) .none kV_value_key dc_value_key pm_value_key an_value_key cd_value_key ct_value_key
      F_value_key := fun_mk (st := s_value_key) l_value_key c_value_key k_value_key
      b_value_key := (fun_mk (st := s_value_key) l_value_key c_value_key k_value_key).binds (ps := ["value"]) fun _ _ _ _ _ _ us hl => match us, hl with | [_], _ => rfl
      g_value_key := PySem.W.mg_of X G a_value_key
      a_row_key := f_row_key
      d_row_key := PySem.W.fnOf "row_key" "row_key" (defArgs s_row_key) (defBody s_row_key) (defScope s_row_key) .none kV_row_key dc_row_key pm_row_key an_row_key cd_row_key ct_row_key
      F_row_key := fun_mk (st := s_row_key) l_row_key c_row_key k_row_key
      b_row_key := (fun_mk (st := s_row_key) l_row_key c_row_key k_row_key).binds (ps := ["row"]) fun _ _ _ _ _ _ us hl => match us, hl with | [_], _ => rfl
      g_row_key := PySem.W.mg_of X G a_row_key
      a_same := f_same
      d_same := PySem.W.fnOf "same" "same" (defArgs s_same) (defBody s_same) (defScope s_same) .none kV_same dc_same pm_same an_same cd_same ct_same
      F_same := fun_mk (st := s_same) l_same c_same k_same
      b_same := (fun_mk (st := s_same) l_same c_same k_same).binds (ps := ["first", "second"]) fun _ _ _ _ _ _ us hl => match us, hl with | [_, _], _ => rfl
      g_same := PySem.W.mg_of X G a_same
      a_next := f_next
      d_next := PySem.W.fnOf "_law_next" "_law_next" (defArgs s_next) (defBody s_next) (defScope s_next) .none kV_next dc_next pm_next an_next cd_next ct_next
      F_next := fun_mk (st := s_next) l_next c_next k_next
      b_next := (fun_mk (st := s_next) l_next c_next k_next).binds (ps := ["_law_state", "_law_limit"]) fun _ _ _ _ _ _ us hl => match us, hl with | [_, _], _ => rfl
      g_next := PySem.W.mg_of X G a_next
      a_char := f_char
      d_char := PySem.W.fnOf "_law_char" "_law_char" (defArgs s_char) (defBody s_char) (defScope s_char) .none kV_char dc_char pm_char an_char cd_char ct_char
      F_char := fun_mk (st := s_char) l_char c_char k_char
      b_char := (fun_mk (st := s_char) l_char c_char k_char).binds (ps := ["_law_index"]) fun _ _ _ _ _ _ us hl => match us, hl with | [_], _ => rfl
      g_char := PySem.W.mg_of X G a_char
      a_value := f_value
      d_value := PySem.W.fnOf "_law_value" "_law_value" (defArgs s_value) (defBody s_value) (defScope s_value) .none kV_value dc_value pm_value an_value cd_value ct_value
      F_value := fun_mk (st := s_value) l_value c_value k_value
      b_value := (fun_mk (st := s_value) l_value c_value k_value).binds (ps := ["_law_state"]) fun _ _ _ _ _ _ us hl => match us, hl with | [_], _ => rfl
      g_value := PySem.W.mg_of X G a_value
      a_rank := f_rank
      d_rank := PySem.W.fnOf "_law_rank" "_law_rank" (defArgs s_rank) (defBody s_rank) (defScope s_rank) .none kV_rank dc_rank pm_rank an_rank cd_rank ct_rank
      F_rank := fun_mk (st := s_rank) l_rank c_rank k_rank
      b_rank := (fun_mk (st := s_rank) l_rank c_rank k_rank).binds (ps := ["_law_value_here"]) fun _ _ _ _ _ _ us hl => match us, hl with | [_], _ => rfl
      g_rank := PySem.W.mg_of X G a_rank
      a_order := f_order
      d_order := PySem.W.fnOf "_law_order" "_law_order" (defArgs s_order) (defBody s_order) (defScope s_order) .none kV_order dc_order pm_order an_order cd_order ct_order
      F_order := fun_mk (st := s_order) l_order c_order k_order
      b_order := (fun_mk (st := s_order) l_order c_order k_order).binds (ps := ["_law_first", "_law_second"]) fun _ _ _ _ _ _ us hl => match us, hl with | [_, _], _ => rfl
      g_order := PySem.W.mg_of X G a_order
      a_row_order := f_row_order
      d_row_order := PySem.W.fnOf "_law_row_order" "_law_row_order" (defArgs s_row_order) (defBody s_row_order) (defScope s_row_order) .none kV_row_order dc_row_order pm_row_order an_row_order cd_row_order ct_row_order
      F_row_order := fun_mk (st := s_row_order) l_row_order c_row_order k_row_order
      b_row_order := (fun_mk (st := s_row_order) l_row_order c_row_order k_row_order).binds (ps := ["_law_first", "_law_second"]) fun _ _ _ _ _ _ us hl => match us, hl with | [_, _], _ => rfl
      g_row_order := PySem.W.mg_of X G a_row_order
      a_is_key := f_is_key
      d_is_key := PySem.W.fnOf "_law_is_key" "_law_is_key" (defArgs s_is_key) (defBody s_is_key) (defScope s_is_key) .none kV_is_key dc_is_key pm_is_key an_is_key cd_is_key ct_is_key
      F_is_key := fun_mk (st := s_is_key) l_is_key c_is_key k_is_key
      b_is_key := (fun_mk (st := s_is_key) l_is_key c_is_key k_is_key).binds (ps := ["_law_key"]) fun _ _ _ _ _ _ us hl => match us, hl with | [_], _ => rfl
      g_is_key := PySem.W.mg_of X G a_is_key
      a_agrees := f_agrees
      d_agrees := PySem.W.fnOf "_law_agrees" "_law_agrees" (defArgs s_agrees) (defBody s_agrees) (defScope s_agrees) .none kV_agrees dc_agrees pm_agrees an_agrees cd_agrees ct_agrees
      F_agrees := fun_mk (st := s_agrees) l_agrees c_agrees k_agrees
      b_agrees := (fun_mk (st := s_agrees) l_agrees c_agrees k_agrees).binds (ps := ["_law_left", "_law_right", "_law_order_here"]) fun _ _ _ _ _ _ us hl => match us, hl with | [_, _, _], _ => rfl
      g_agrees := PySem.W.mg_of X G a_agrees
      a_law := f_law
      d_law := PySem.W.fnOf "law" "law" (defArgs s_law) (defBody s_law) (defScope s_law) .none kV_law dc_law pm_law an_law cd_law ct_law
      F_law := fun_mk (st := s_law) l_law c_law k_law
      b_law := (fun_mk (st := s_law) l_law c_law k_law).binds (ps := ["_law_script"]) fun _ _ _ _ _ _ us hl => match us, hl with | [_], _ => rfl
      g_law := PySem.W.mg_of X G a_law
      z_bool := PySem.W.mg_none_of X G z_bool
      z_int := PySem.W.mg_none_of X G z_int
      z_isinstance := PySem.W.mg_none_of X G z_isinstance
      z_len := PySem.W.mg_none_of X G z_len
      z_list := PySem.W.mg_none_of X G z_list
      z_range := PySem.W.mg_none_of X G z_range
      z_str := PySem.W.mg_none_of X G z_str
      z_tuple := PySem.W.mg_none_of X G z_tuple })⟩
end Kb
open PySem PySem.W PyProof.Rows
set_option maxRecDepth 100000 in
set_option maxHeartbeats 0 in
theorem PySem.Challenge.cw_kithbase_k29_order_of_values_holds : PySem.Challenge.rw_kithbase_k29_order_of_values.Holds := by
  w_on; o_law; k_head; (case hw => w_witness2)
  k_fill
  refine L2.walk_of (l := PySem.Challenge.rw_kithbase_k29_order_of_values) (n := 63) (k := 4) (x := "_law_script") (CX := fun _ => L2.CX0) (sp := fun w => Kb.spLaw _) rfl (by decide) rfl ⟨rfl, by decide, by decide⟩ (fun w h Y => PySem.W.kIn_of Y) ?F (fun _ _ a ns hl _ hS => ⟨a, ns, rfl, hS, hl, fun _ => rfl⟩) (fun _ _ _ _ _ h => h)
  case F =>
    intro w mg fa h KX G hmg
    refine' Kb.all_mk KX G hmg ?a_value_key ?l_value_key ?c_value_key ?k_value_key ?a_row_key ?l_row_key ?c_row_key ?k_row_key ?a_same ?l_same ?c_same ?k_same ?a_next ?l_next ?c_next ?k_next ?a_char ?l_char ?c_char ?k_char ?a_value ?l_value ?c_value ?k_value ?a_rank ?l_rank ?c_rank ?k_rank ?a_order ?l_order ?c_order ?k_order ?a_row_order ?l_row_order ?c_row_order ?k_row_order ?a_is_key ?l_is_key ?c_is_key ?k_is_key ?a_agrees ?l_agrees ?c_agrees ?k_agrees ?a_law ?l_law ?c_law ?k_law ?z_bool ?z_int ?z_isinstance ?z_len ?z_list ?z_range ?z_str ?z_tuple
    (case a_value_key => k_is)
    (case l_value_key => k_is)
    (case c_value_key => k_is)
    (case k_value_key => k_is)
    (case a_row_key => k_is)
    (case l_row_key => k_is)
    (case c_row_key => k_is)
    (case k_row_key => k_is)
    (case a_same => k_is)
    (case l_same => k_is)
    (case c_same => k_is)
    (case k_same => k_is)
    (case a_next => k_is)
    (case l_next => k_is)
    (case c_next => k_is)
    (case k_next => k_is)
    (case a_char => k_is)
    (case l_char => k_is)
    (case c_char => k_is)
    (case k_char => k_is)
    (case a_value => k_is)
    (case l_value => k_is)
    (case c_value => k_is)
    (case k_value => k_is)
    (case a_rank => k_is)
    (case l_rank => k_is)
    (case c_rank => k_is)
    (case k_rank => k_is)
    (case a_order => k_is)
    (case l_order => k_is)
    (case c_order => k_is)
    (case k_order => k_is)
    (case a_row_order => k_is)
    (case l_row_order => k_is)
    (case c_row_order => k_is)
    (case k_row_order => k_is)
    (case a_is_key => k_is)
    (case l_is_key => k_is)
    (case c_is_key => k_is)
    (case k_is_key => k_is)
    (case a_agrees => k_is)
    (case l_agrees => k_is)
    (case c_agrees => k_is)
    (case k_agrees => k_is)
    (case a_law => k_is)
    (case l_law => k_is)
    (case c_law => k_is)
    (case k_law => k_is)
    (case z_bool => k_is)
    (case z_int => k_is)
    (case z_isinstance => k_is)
    (case z_len => k_is)
    (case z_list => k_is)
    (case z_range => k_is)
    (case z_str => k_is)
    (case z_tuple => k_is)

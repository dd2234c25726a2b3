import PyProof.Rows.All
import Wide.All
import OpenK.AllK
import Wide.FinOn
import HandS.ForMost
import HandS.IsInst
import HandS.Wide
import HandS.TupAny
import HandS.Flow
import HandS.Text
import HandS.Codes
import KE.KTupSum
import KE.SortKeyHeap
import HandS.SortKw
import HandS.Keys
import HandS.Strs
import HandS.NoneIn
import HandS.SortOrd
import HandS.SortRule
import HandS.NamedTupSort
import PySem.Challenge.RW_kithbase_k05_capabilities_form_a_tree
set_option Elab.async false
set_option linter.all false
set_option maxRecDepth 100000
set_option maxHeartbeats 4000000
/-! values without a heap, over HandS -/
namespace Pv
open PySem PySem.Spec PyProof.Rows L2

/-- data, by value -/
inductive P where
  | non | bl (b : Bool) | int (i : Int) | str (x : Str)
  | tup (ps : List P) | lst (ps : List P)
  | dK (kvs : List (Key × P)) | dT (kvs : List (List Key × P))
  | ins (c : Nat) (fs : List (Str × P))
/-- a value of a name: data, or the place of an object that may change -/
inductive D where
  | p (x : P) | ref (n : Nat)
/-- an object that may change -/
inductive Ob where
  | lst (ds : List D) | dK (kvs : List (Key × D)) | dT (kvs : List (List Key × D)) | ins (c : Nat) (fs : List (Str × D))
/-- all objects that may change; those from b on were made by the def that runs -/
structure SH where
  b : Nat
  os : List Ob
abbrev SH.len (S : SH) : Nat := S.os.length
abbrev En := List (Option D)
def D.lt (k : Nat) : D → Prop | .p _ => True | .ref n => n < k
def Ob.ds : Ob → List D | .lst ds => ds | .dK kvs => kvs.map (·.2) | .dT kvs => kvs.map (·.2) | .ins _ fs => fs.map (·.2)
def Ob.lt (k : Nat) (o : Ob) : Prop := ∀ d ∈ o.ds, d.lt k
theorem D.lt.mono {j k : Nat} {d : D} (h : d.lt j) (l : j ≤ k) : d.lt k := by
  cases d with
  | p x => trivial
  | ref n => exact Nat.lt_of_lt_of_le h l

section
variable (K : PySem.W.Frag) (cl : Nat → Addr)
mutual
inductive Rp (F : Hp) : P → V → Prop
  | non : Rp F .non .non
  | bl (b : Bool) : Rp F (.bl b) (.bl b)
  | int (i : Int) : Rp F (.int i) (.int i)
  | str (x : Str) : Rp F (.str x) (.str x)
  | tup {a : Addr} {ps : List P} {vs : List V} : SqT K F a vs → RpA F ps vs → Rp F (.tup ps) (.ref a)
  | lst {a : Addr} {ps : List P} {vs : List V} : SqL K F a vs → RpA F ps vs → Rp F (.lst ps) (.ref a)
  | dK {a : Addr} {kvs : List (Key × P)} {vs : List (Key × V)} : F a = some (.dK vs) → RpK F kvs vs → Rp F (.dK kvs) (.ref a)
  | dT {a : Addr} {kvs : List (List Key × P)} {vs : List (List Key × V)} : F a = some (.dT vs) → RpT F kvs vs → Rp F (.dT kvs) (.ref a)
  | ins {a dx : Addr} {c : Nat} {fs : List (Str × P)} {gs : List (Str × V)} : F a = some (.ins (cl c) dx gs) → RpF F fs gs → Rp F (.ins c fs) (.ref a)
inductive RpA (F : Hp) : List P → List V → Prop
  | nil : RpA F [] []
  | cons {x : P} {xs : List P} {v : V} {vs : List V} : Rp F x v → RpA F xs vs → RpA F (x :: xs) (v :: vs)
inductive RpK (F : Hp) : List (Key × P) → List (Key × V) → Prop
  | nil : RpK F [] []
  | cons {k : Key} {x : P} {xs : List (Key × P)} {v : V} {vs : List (Key × V)} : Rp F x v → RpK F xs vs → RpK F ((k, x) :: xs) ((k, v) :: vs)
inductive RpT (F : Hp) : List (List Key × P) → List (List Key × V) → Prop
  | nil : RpT F [] []
  | cons {k : List Key} {x : P} {xs : List (List Key × P)} {v : V} {vs : List (List Key × V)} : Rp F x v → RpT F xs vs → RpT F ((k, x) :: xs) ((k, v) :: vs)
inductive RpF (F : Hp) : List (Str × P) → List (Str × V) → Prop
  | nil : RpF F [] []
  | cons {k : Str} {x : P} {xs : List (Str × P)} {v : V} {vs : List (Str × V)} : Rp F x v → RpF F xs vs → RpF F ((k, x) :: xs) ((k, v) :: vs)
end
/-- a value of a name -/
def DR (F : Hp) (φ : Nat → Addr) : D → V → Prop
  | .p x, v => Rp K cl F x v
  | .ref n, v => v = .ref (φ n)
abbrev DRA (F : Hp) (φ : Nat → Addr) : List D → List V → Prop := Paired (DR K cl F φ)
abbrev DRK {κ : Type} (F : Hp) (φ : Nat → Addr) : List (κ × D) → List (κ × V) → Prop := Paired fun p q => p.1 = q.1 ∧ DR K cl F φ p.2 q.2
def OR (F : Hp) (φ : Nat → Addr) (x : Option HO) : Ob → Prop
  | .lst ds => ∃ vs, x = some (.lst vs) ∧ DRA K cl F φ ds vs
  | .dK kvs => ∃ vs, x = some (.dK vs) ∧ DRK K cl F φ kvs vs
  | .dT kvs => ∃ vs, x = some (.dT vs) ∧ DRK K cl F φ kvs vs
  | .ins c fs => ∃ dx gs, x = some (.ins (cl c) dx gs) ∧ DRK K cl F φ fs gs
/-- the objects by place, the data, and the heap -/
structure Sim (S : SH) (B : List Nat) (F : Hp) (φ : Nat → Addr) (H : Hp) : Prop where
  le : Same F H
  ob : ∀ (n : Nat) (o : Ob), S.os[n]? = some o → F (φ n) = none ∧ OR K cl F φ (H (φ n)) o
  inj : ∀ n m, n < S.len → m < S.len → φ n = φ m → n = m
  wf : ∀ (n : Nat) (o : Ob), S.os[n]? = some o → o.lt S.len
  bs : ∀ b ∈ B, b ≤ S.b ∧ ∀ (n : Nat) (o : Ob), S.os[n]? = some o → n < b → o.lt b
  bl : S.b ≤ S.len
/-- what a step may have done -/
structure Ext (S : SH) (F : Hp) (φ : Nat → Addr) (H : Hp) (S' : SH) (F' : Hp) (φ' : Nat → Addr) (H' : Hp) : Prop where
  fz : Same F F'
  len : S.len ≤ S'.len
  b : S'.b = S.b
  phi : ∀ n, n < S.len → φ' n = φ n
  new : ∀ n, S.len ≤ n → n < S'.len → H (φ' n) = none
  keep : ∀ a o, H a = some o → (∀ n, n < S.len → φ n ≠ a) → H' a = some o
  tr : ∀ n, n < S.len → H' (φ n) ≠ none
  fr : ∀ a o, H a = some o → F a = none → (∀ n, n < S.len → φ n ≠ a) → F' a = none
/-- the names -/
def RS (F : Hp) (φ : Nat → Addr) (k : Nat) (σd : En) (σ : L2.St) : Prop :=
  σd.length = σ.length ∧ ∀ (i : Nat) (d : D), σd[i]? = some (some d) → d.lt k ∧ ∃ v : V, σ[i]? = some (some v) ∧ DR K cl F φ d v
end

section
variable {K : PySem.W.Frag} {cl : Nat → Addr} {S S' S1 S2 : SH} {B : List Nat} {F F' F1 F2 H H' H1 H2 : Hp} {φ φ' φ1 φ2 : Nat → Addr}
theorem SqL.mono (h : Same F F') {a : Addr} {xs : List V} (q : SqL K F a xs) : SqL K F' a xs := h.seq q
theorem SqT.mono (e : Same F F') {a : Addr} {xs : List V} (h : SqT K F a xs) : SqT K F' a xs := by
  rcases h with (h | ⟨o, h⟩) | h
  · exact .inl (.inl (e _ _ h))
  · exact .inl (.inr ⟨o, e _ _ h⟩)
  · exact .inr h
mutual
theorem Rp.mono (h : Same F F') {x : P} {v : V} : Rp K cl F x v → Rp K cl F' x v
  | .non => .non
  | .bl b => .bl b
  | .int i => .int i
  | .str x => .str x
  | .tup q r => .tup (SqT.mono h q) (RpA.mono h r)
  | .lst q r => .lst (SqL.mono h q) (RpA.mono h r)
  | .dK q r => .dK (h _ _ q) (RpK.mono h r)
  | .dT q r => .dT (h _ _ q) (RpT.mono h r)
  | .ins q r => .ins (h _ _ q) (RpF.mono h r)
theorem RpA.mono (h : Same F F') {x : List P} {v : List V} : RpA K cl F x v → RpA K cl F' x v
  | .nil => .nil
  | .cons a b => .cons (Rp.mono h a) (RpA.mono h b)
theorem RpK.mono (h : Same F F') {x : List (Key × P)} {v : List (Key × V)} : RpK K cl F x v → RpK K cl F' x v
  | .nil => .nil
  | .cons a b => .cons (Rp.mono h a) (RpK.mono h b)
theorem RpT.mono (h : Same F F') {x : List (List Key × P)} {v : List (List Key × V)} : RpT K cl F x v → RpT K cl F' x v
  | .nil => .nil
  | .cons a b => .cons (Rp.mono h a) (RpT.mono h b)
theorem RpF.mono (h : Same F F') {x : List (Str × P)} {v : List (Str × V)} : RpF K cl F x v → RpF K cl F' x v
  | .nil => .nil
  | .cons a b => .cons (Rp.mono h a) (RpF.mono h b)
end
theorem DR.mono (h : Same F F') {k : Nat} (p : ∀ n, n < k → φ' n = φ n) {d : D} {v : V} (l : d.lt k) (r : DR K cl F φ d v) : DR K cl F' φ' d v := by
  cases d with
  | p x => exact Rp.mono h r
  | ref n => exact r.trans (congrArg V.ref (p n l).symm)
theorem DRA.mono (h : Same F F') {k : Nat} (p : ∀ n, n < k → φ' n = φ n) : ∀ {ds : List D} {vs : List V}, (∀ d ∈ ds, d.lt k) → DRA K cl F φ ds vs → DRA K cl F' φ' ds vs
  | _, _, _, .nil => .nil
  | _, _, l, .cons a b => .cons (DR.mono h p (l _ List.mem_cons_self) a) (DRA.mono h p (fun d q => l d (List.mem_cons_of_mem _ q)) b)
theorem DRK.mono {κ : Type} (h : Same F F') {k : Nat} (p : ∀ n, n < k → φ' n = φ n) : ∀ {ds : List (κ × D)} {vs : List (κ × V)}, (∀ d ∈ ds.map (·.2), d.lt k) → DRK K cl F φ ds vs → DRK K cl F' φ' ds vs
  | _, _, _, .nil => .nil
  | _, _, l, .cons a b => .cons ⟨a.1, DR.mono h p (l _ List.mem_cons_self) a.2⟩ (DRK.mono h p (fun d q => l d (List.mem_cons_of_mem _ q)) b)
theorem OR.mono (h : Same F F') {k : Nat} (p : ∀ n, n < k → φ' n = φ n) {x : Option HO} {o : Ob} (l : o.lt k) (r : OR K cl F φ x o) : OR K cl F' φ' x o := by
  cases o with
  | lst ds => obtain ⟨vs, e, r⟩ := r; exact ⟨vs, e, DRA.mono h p l r⟩
  | dK ds => obtain ⟨vs, e, r⟩ := r; exact ⟨vs, e, DRK.mono h p l r⟩
  | dT ds => obtain ⟨vs, e, r⟩ := r; exact ⟨vs, e, DRK.mono h p l r⟩
  | ins c ds => obtain ⟨dx, vs, e, r⟩ := r; exact ⟨dx, vs, e, DRK.mono h p l r⟩
theorem OR.ne0 {x : Option HO} {o : Ob} (r : OR K cl F φ x o) : x ≠ none := by
  cases o with
  | lst ds => obtain ⟨vs, e, r⟩ := r; rw [e]; simp
  | dK ds => obtain ⟨vs, e, r⟩ := r; rw [e]; simp
  | dT ds => obtain ⟨vs, e, r⟩ := r; rw [e]; simp
  | ins c ds => obtain ⟨dx, vs, e, r⟩ := r; rw [e]; simp
theorem Sim.ne0 (s : Sim K cl S B F φ H) {n : Nat} (h : n < S.len) : H (φ n) ≠ none := (s.ob n _ (List.getElem?_eq_getElem h)).2.ne0
theorem Ext.refl (s : Sim K cl S B F φ H) : Ext S F φ H S F φ H := ⟨Same.refl _, Nat.le_refl _, rfl, fun _ _ => rfl, fun n h1 h2 => absurd h1 (Nat.not_le_of_lt h2), fun _ _ h _ => h, fun _ h => s.ne0 h, fun _ _ _ h _ => h⟩
theorem Ext.trans (a : Ext S F φ H S1 F1 φ1 H1) (b : Ext S1 F1 φ1 H1 S2 F2 φ2 H2) : Ext S F φ H S2 F2 φ2 H2 where
  fz := a.fz.trans b.fz
  len := Nat.le_trans a.len b.len
  b := b.b.trans a.b
  phi := fun n h => (b.phi n (Nat.lt_of_lt_of_le h a.len)).trans (a.phi n h)
  new := fun n h1 h2 => by
    by_cases h3 : n < S1.len
    · rw [b.phi n h3]
      exact a.new n h1 h3
    · cases e : H (φ2 n) with
      | none => rfl
      | some o =>
        have z := b.new n (Nat.le_of_not_lt h3) h2
        by_cases q : ∃ m, m < S.len ∧ φ m = φ2 n
        · obtain ⟨m, hm, ee⟩ := q
          exact absurd (by rw [ee]; exact z) (a.tr m hm)
        · rw [a.keep _ o e fun m hm ee => q ⟨m, hm, ee⟩] at z; cases z
  keep := fun c o h n => b.keep c o (a.keep c o h n) fun m hm e => by
    by_cases h3 : m < S.len
    · exact n m h3 (by rw [← a.phi m h3]; exact e)
    · have z := a.new m (Nat.le_of_not_lt h3) hm
      rw [e, h] at z; cases z
  tr := fun n h => by
    rw [← a.phi n h]
    exact b.tr n (Nat.lt_of_lt_of_le h a.len)
  fr := fun c o h f n => b.fr c o (a.keep c o h n) (a.fr c o h f n) fun m hm e => by
    by_cases h3 : m < S.len
    · exact n m h3 (by rw [← a.phi m h3]; exact e)
    · have z := a.new m (Nat.le_of_not_lt h3) hm
      rw [e, h] at z; cases z
theorem RS.mono (h : Same F F') {k k' : Nat} (l : k ≤ k') (p : ∀ n, n < k → φ' n = φ n) {σd : En} {σ : L2.St} (r : RS K cl F φ k σd σ) : RS K cl F' φ' k' σd σ :=
  ⟨r.1, fun i d e => let ⟨a, v, b, c⟩ := r.2 i d e; ⟨a.mono l, v, b, DR.mono h p a c⟩⟩
end
end Pv
namespace Pv
open PySem PySem.Spec PyProof.Rows L2

abbrev ME := En → SH → Option (D × SH)
abbrev MT := En → SH → Option (Bool × SH)
abbrev MA := En → SH → Option (List D × SH)
inductive Fl where
  | nx (σ : En) | ret (d : D) | brk (σ : En) | ct (σ : En)
abbrev MS := En → SH → Option (Fl × SH)
abbrev MF := List D → SH → Option (D × SH)

section
variable (K : PySem.W.Frag) (cl : Nat → Addr)
/-- an end as wished: a value, a truth, values -/
def OkE (S : SH) (B : List Nat) (F : Hp) (φ : Nat → Addr) (H : Hp) (r : Option (D × SH)) (Q : VK) : Prop :=
  ∃ d S1, r = some (d, S1) ∧ ∀ F1 φ1 H1 u, Sim K cl S1 B F1 φ1 H1 → Ext S F φ H S1 F1 φ1 H1 → DR K cl F1 φ1 d u → d.lt S1.len → Q u H1
def OkT (S : SH) (B : List Nat) (F : Hp) (φ : Nat → Addr) (H : Hp) (r : Option (Bool × SH)) (Q : Bool → Hp → Prop) : Prop :=
  ∃ d S1, r = some (d, S1) ∧ ∀ F1 φ1 H1, Sim K cl S1 B F1 φ1 H1 → Ext S F φ H S1 F1 φ1 H1 → Q d H1
def OkA (S : SH) (B : List Nat) (F : Hp) (φ : Nat → Addr) (H : Hp) (r : Option (List D × SH)) (Q : List V → Hp → Prop) : Prop :=
  ∃ ds S1, r = some (ds, S1) ∧ ∀ F1 φ1 H1 us, Sim K cl S1 B F1 φ1 H1 → Ext S F φ H S1 F1 φ1 H1 → DRA K cl F1 φ1 ds us → (∀ d ∈ ds, d.lt S1.len) → Q us H1
def OkF (S : SH) (B : List Nat) (F : Hp) (φ : Nat → Addr) (H : Hp) (Z : Ends) (S1 : SH) : Fl → Prop
  | .nx σd => ∀ F1 φ1 H1 σ, Sim K cl S1 B F1 φ1 H1 → Ext S F φ H S1 F1 φ1 H1 → RS K cl F1 φ1 S1.len σd σ → Z.nx σ H1
  | .ret d => ∀ F1 φ1 H1 u, Sim K cl S1 B F1 φ1 H1 → Ext S F φ H S1 F1 φ1 H1 → DR K cl F1 φ1 d u → d.lt S1.len → Z.rt u H1
  | .brk σd => ∀ F1 φ1 H1 σ, Sim K cl S1 B F1 φ1 H1 → Ext S F φ H S1 F1 φ1 H1 → RS K cl F1 φ1 S1.len σd σ → Z.bk σ H1
  | .ct σd => ∀ F1 φ1 H1 σ, Sim K cl S1 B F1 φ1 H1 → Ext S F φ H S1 F1 φ1 H1 → RS K cl F1 φ1 S1.len σd σ → Z.ct σ H1
def OkS (S : SH) (B : List Nat) (F : Hp) (φ : Nat → Addr) (H : Hp) (r : Option (Fl × SH)) (Z : Ends) : Prop :=
  ∃ f S1, r = some (f, S1) ∧ OkF K cl S B F φ H Z S1 f
/-- readings out of computations by value -/
def LE (m : ME) : TE := fun σ H Q => ∃ σd S B F φ, Sim K cl S B F φ H ∧ RS K cl F φ S.len σd σ ∧ OkE K cl S B F φ H (m σd S) Q
def LT (m : MT) : TT := fun σ H Q => ∃ σd S B F φ, Sim K cl S B F φ H ∧ RS K cl F φ S.len σd σ ∧ OkT K cl S B F φ H (m σd S) Q
def LA (m : MA) : TA := fun σ H Q => ∃ σd S B F φ, Sim K cl S B F φ H ∧ RS K cl F φ S.len σd σ ∧ OkA K cl S B F φ H (m σd S) Q
def LS (m : MS) : TS := fun Z σ H => ∃ σd S B F φ, Sim K cl S B F φ H ∧ RS K cl F φ S.len σd σ ∧ OkS K cl S B F φ H (m σd S) Z
end

/-! the combinators -/
def bnd {α β : Type} (r : Option (α × SH)) (f : α → SH → Option (β × SH)) : Option (β × SH) := match r with
  | some (a, S) => f a S
  | none => none
@[simp] theorem bnd_some {α β : Type} (a : α) (S : SH) (f : α → SH → Option (β × SH)) : bnd (some (a, S)) f = f a S := id rfl
@[simp] theorem bnd_none {α β : Type} (f : α → SH → Option (β × SH)) : bnd none f = none := id rfl
theorem bnd_of {α β : Type} {r : Option (α × SH)} {f : α → SH → Option (β × SH)} {x : β × SH} (h : bnd r f = some x) : ∃ a S, r = some (a, S) ∧ f a S = some x := by
  cases r with
  | none => cases h
  | some p => exact ⟨p.1, p.2, rfl, h⟩
def isB : D → Option Bool
  | .p (.bl b) => some b
  | _ => none
theorem isB_of {d : D} {b : Bool} (h : isB d = some b) : d = .p (.bl b) := by
  cases d with
  | ref n => cases h
  | p x => cases x <;> cases h <;> rfl
def dVar (i : Nat) : ME := fun σ S => match σ[i]? with | some (some d) => some (d, S) | _ => none
def dC (x : P) : ME := fun _ S => some (.p x, S)
def dOp (f : D → D → SH → Option (D × SH)) (a b : ME) : ME := fun σ S => bnd (a σ S) fun x S1 => bnd (b σ S1) fun y S2 => f x y S2
def dUn (f : D → SH → Option (D × SH)) (a : ME) : ME := fun σ S => bnd (a σ S) fun x S1 => f x S1
def toB (d : D) (S : SH) : Option (Bool × SH) := match isB d with | some b => some (b, S) | none => none
@[simp] theorem toB_p (b : Bool) (S : SH) : toB (.p (.bl b)) S = some (b, S) := id rfl
def dTest (a : ME) : MT := fun σ S => bnd (a σ S) toB
def dAnd (a b : MT) : MT := fun σ S => bnd (a σ S) fun t S1 => if t = true then b σ S1 else some (false, S1)
def dOr (a b : MT) : MT := fun σ S => bnd (a σ S) fun t S1 => if t = true then some (true, S1) else b σ S1
def dNot (a : MT) : MT := fun σ S => bnd (a σ S) fun t S1 => some (!t, S1)
def dNotV (a : ME) : ME := fun σ S => bnd (a σ S) fun d S1 => bnd (toB d S1) fun t S2 => some (.p (.bl (!t)), S2)
def dAndV (a b : ME) : ME := fun σ S => bnd (a σ S) fun d S1 => bnd (toB d S1) fun t S2 => if t = true then b σ S2 else some (.p (.bl false), S2)
def dOrV (a b : ME) : ME := fun σ S => bnd (a σ S) fun d S1 => bnd (toB d S1) fun t S2 => if t = true then some (.p (.bl true), S2) else b σ S2
def dIfE (t : MT) (a b : ME) : ME := fun σ S => bnd (t σ S) fun t S1 => if t = true then a σ S1 else b σ S1
def dNil : MA := fun _ S => some ([], S)
def dCons (a : ME) (r : MA) : MA := fun σ S => bnd (a σ S) fun x S1 => bnd (r σ S1) fun xs S2 => some (x :: xs, S2)
def dCall (f : MF) (a : MA) : ME := fun σ S => bnd (a σ S) fun xs S1 => f xs S1
def dNx : MS := fun σ S => some (.nx σ, S)
def dSeq (a b : MS) : MS := fun σ S => bnd (a σ S) fun f S1 => match f with | .nx σ1 => b σ1 S1 | r => some (r, S1)
def dBrk : MS := fun σ S => some (.brk σ, S)
def dCt : MS := fun σ S => some (.ct σ, S)
def dDrop (a : ME) : MS := fun σ S => bnd (a σ S) fun _ S1 => some (.nx σ, S1)
def dRet (a : ME) : MS := fun σ S => bnd (a σ S) fun d S1 => some (.ret d, S1)
def dRetN : MS := fun _ S => some (.ret (.p .non), S)
def dIf (t : MT) (a b : MS) : MS := fun σ S => bnd (t σ S) fun t S1 => if t = true then a σ S1 else b σ S1
def dNever : MS := fun _ _ => none
def dSet (i : Nat) (a : ME) : MS := fun σ S => bnd (a σ S) fun d S1 => some (.nx (σ.set i (some d)), S1)
/-- forget what some names hold -/
def wipeD : List Nat → En → En
  | [], σ => σ
  | i :: r, σ => wipeD r (σ.set i none)
def dWipe (vs : List Nat) (a : MS) : MS := fun σ S => a (wipeD vs σ) S

section
variable {K : PySem.W.Frag} {cl : Nat → Addr} {S S' S1 S2 : SH} {B : List Nat} {F F' F1 F2 H H' H1 H2 : Hp} {φ φ' φ1 φ2 : Nat → Addr}
theorem Ext.rs (e : Ext S F φ H S1 F1 φ1 H1) {σd : En} {σ : L2.St} (r : RS K cl F φ S.len σd σ) : RS K cl F1 φ1 S1.len σd σ := r.mono e.fz e.len e.phi
theorem Ext.dr (e : Ext S F φ H S1 F1 φ1 H1) {d : D} {v : V} (l : d.lt S.len) (r : DR K cl F φ d v) : DR K cl F1 φ1 d v := DR.mono e.fz e.phi l r
theorem Ext.lt (e : Ext S F φ H S1 F1 φ1 H1) {d : D} (l : d.lt S.len) : d.lt S1.len := l.mono e.len
theorem Ext.dra (e : Ext S F φ H S1 F1 φ1 H1) {d : List D} {v : List V} (l : ∀ x ∈ d, x.lt S.len) (r : DRA K cl F φ d v) : DRA K cl F1 φ1 d v := DRA.mono e.fz e.phi l r
theorem OkE.ext (e : Ext S F φ H S1 F1 φ1 H1) {r : Option (D × SH)} {Q : VK} (h : OkE K cl S B F φ H r Q) : OkE K cl S1 B F1 φ1 H1 r Q := by
  obtain ⟨d, S2, er, k⟩ := h
  exact ⟨d, S2, er, fun F2 φ2 H2 u s x => k F2 φ2 H2 u s (e.trans x)⟩
theorem OkT.ext (e : Ext S F φ H S1 F1 φ1 H1) {r : Option (Bool × SH)} {Q : Bool → Hp → Prop} (h : OkT K cl S B F φ H r Q) : OkT K cl S1 B F1 φ1 H1 r Q := by
  obtain ⟨d, S2, er, k⟩ := h
  exact ⟨d, S2, er, fun F2 φ2 H2 s x => k F2 φ2 H2 s (e.trans x)⟩
theorem OkA.ext (e : Ext S F φ H S1 F1 φ1 H1) {r : Option (List D × SH)} {Q : List V → Hp → Prop} (h : OkA K cl S B F φ H r Q) : OkA K cl S1 B F1 φ1 H1 r Q := by
  obtain ⟨d, S2, er, k⟩ := h
  exact ⟨d, S2, er, fun F2 φ2 H2 u s x => k F2 φ2 H2 u s (e.trans x)⟩
theorem OkF.ext (e : Ext S F φ H S1 F1 φ1 H1) {f : Fl} {Z : Ends} (h : OkF K cl S B F φ H Z S2 f) : OkF K cl S1 B F1 φ1 H1 Z S2 f := by
  cases f with
  | nx σ => exact fun F2 φ2 H2 u s x => h F2 φ2 H2 u s (e.trans x)
  | ret d => exact fun F2 φ2 H2 u s x => h F2 φ2 H2 u s (e.trans x)
  | brk σ => exact fun F2 φ2 H2 u s x => h F2 φ2 H2 u s (e.trans x)
  | ct σ => exact fun F2 φ2 H2 u s x => h F2 φ2 H2 u s (e.trans x)
theorem OkS.ext (e : Ext S F φ H S1 F1 φ1 H1) {r : Option (Fl × SH)} {Z : Ends} (h : OkS K cl S B F φ H r Z) : OkS K cl S1 B F1 φ1 H1 r Z := by
  obtain ⟨f, S2, er, k⟩ := h
  exact ⟨f, S2, er, k.ext e⟩
/-- one after the other: what the first one leaves -/
theorem LE.then_ {m : ME} {σ : L2.St} {σd : En} {Q : VK} {d : D} (s : Sim K cl S B F φ H) (r : RS K cl F φ S.len σd σ) (e : m σd S = some (d, S1))
    (k : ∀ F1 φ1 H1 u, Sim K cl S1 B F1 φ1 H1 → Ext S F φ H S1 F1 φ1 H1 → RS K cl F1 φ1 S1.len σd σ → DR K cl F1 φ1 d u → d.lt S1.len → Q u H1) : LE K cl m σ H Q :=
  ⟨σd, S, B, F, φ, s, r, d, S1, e, fun F1 φ1 H1 u s1 x dr l => k F1 φ1 H1 u s1 x (x.rs r) dr l⟩
theorem LT.then_ {m : MT} {σ : L2.St} {σd : En} {Q : Bool → Hp → Prop} {d : Bool} (s : Sim K cl S B F φ H) (r : RS K cl F φ S.len σd σ) (e : m σd S = some (d, S1))
    (k : ∀ F1 φ1 H1, Sim K cl S1 B F1 φ1 H1 → Ext S F φ H S1 F1 φ1 H1 → RS K cl F1 φ1 S1.len σd σ → Q d H1) : LT K cl m σ H Q :=
  ⟨σd, S, B, F, φ, s, r, d, S1, e, fun F1 φ1 H1 s1 x => k F1 φ1 H1 s1 x (x.rs r)⟩
theorem LA.then_ {m : MA} {σ : L2.St} {σd : En} {Q : List V → Hp → Prop} {d : List D} (s : Sim K cl S B F φ H) (r : RS K cl F φ S.len σd σ) (e : m σd S = some (d, S1))
    (k : ∀ F1 φ1 H1 u, Sim K cl S1 B F1 φ1 H1 → Ext S F φ H S1 F1 φ1 H1 → RS K cl F1 φ1 S1.len σd σ → DRA K cl F1 φ1 d u → (∀ x ∈ d, x.lt S1.len) → Q u H1) : LA K cl m σ H Q :=
  ⟨σd, S, B, F, φ, s, r, d, S1, e, fun F1 φ1 H1 u s1 x dr l => k F1 φ1 H1 u s1 x (x.rs r) dr l⟩
theorem LS.then_ {m : MS} {σ : L2.St} {σd : En} {Z : Ends} {f : Fl} (s : Sim K cl S B F φ H) (r : RS K cl F φ S.len σd σ) (e : m σd S = some (f, S1))
    (k : OkF K cl S B F φ H Z S1 f) : LS K cl m Z σ H := ⟨σd, S, B, F, φ, s, r, f, S1, e, k⟩
/-- the end as it is -/
theorem OkE.fin {r : Option (D × SH)} {Q : VK} {d : D} {u : V} (h : OkE K cl S B F φ H r Q) (e : r = some (d, S1)) (s : Sim K cl S1 B F1 φ1 H1) (x : Ext S F φ H S1 F1 φ1 H1) (dr : DR K cl F1 φ1 d u) (l : d.lt S1.len) : Q u H1 := by
  obtain ⟨d', S', e', k⟩ := h
  rw [e] at e'; cases e'
  exact k F1 φ1 H1 u s x dr l
theorem OkE.fin0 {r : Option (D × SH)} {Q : VK} {d : D} {u : V} (h : OkE K cl S B F φ H r Q) (e : r = some (d, S)) (s : Sim K cl S B F φ H) (dr : DR K cl F φ d u) (l : d.lt S.len) : Q u H := h.fin e s (.refl s) dr l
end

theorem _root_.L2.PE.imp {X : Cx} {e : Expr} {t t' : TE} (h : PE X e t) (i : ∀ σ H Q, t' σ H Q → t σ H Q) : PE X e t' := ⟨fun pins s σ H Q I q => h.run pins s σ H Q I (i σ H Q q)⟩
theorem _root_.L2.PT.imp {X : Cx} {e : Expr} {t t' : TT} (h : PT X e t) (i : ∀ σ H Q, t' σ H Q → t σ H Q) : PT X e t' := ⟨fun pins s σ H Q I q => h.run pins s σ H Q I (i σ H Q q)⟩
theorem _root_.L2.PW.imp {X : Cx} {e : Expr} {t t' : TT} (h : PW X e t) (i : ∀ σ H Q, t' σ H Q → t σ H Q) : PW X e t' := ⟨fun w pins s σ H Q I q => h.run w pins s σ H Q I (i σ H Q q)⟩
theorem _root_.L2.PA.imp {X : Cx} {e : List Expr} {t t' : TA} (h : PA X e t) (i : ∀ σ H Q, t' σ H Q → t σ H Q) : PA X e t' := ⟨fun p pins s σ H Q I q => h.run p pins s σ H Q I (i σ H Q q)⟩
theorem _root_.L2.PS.imp {X : Cx} {e : Stmt} {t t' : TS} (h : PS X e t) (i : ∀ Z σ H, t' Z σ H → t Z σ H) : PS X e t' := ⟨fun pins s σ H Z I q => h.run pins s σ H Z I (i Z σ H q)⟩
theorem _root_.L2.PSs.imp {X : Cx} {e : List Stmt} {t t' : TS} (h : PSs X e t) (i : ∀ Z σ H, t' Z σ H → t Z σ H) : PSs X e t' := ⟨fun pins s σ H Z I q => h.run pins s σ H Z I (i Z σ H q)⟩

/-! the rules -/
section
variable {X : Cx} {cl : Nat → Addr}
/-- an operation by values: its reading follows from its computation -/
def OpD (K : PySem.W.Frag) (cl : Nat → Addr) (f : D → D → SH → Option (D × SH)) (r : R2) : Prop :=
  ∀ S B F φ H d1 d2 x y Q, Sim K cl S B F φ H → DR K cl F φ d1 x → DR K cl F φ d2 y → d1.lt S.len → d2.lt S.len → OkE K cl S B F φ H (f d1 d2 S) Q → r x y H Q
def UnD (K : PySem.W.Frag) (cl : Nat → Addr) (f : D → SH → Option (D × SH)) (r : V → Hp → VK → Prop) : Prop :=
  ∀ S B F φ H d x Q, Sim K cl S B F φ H → DR K cl F φ d x → d.lt S.len → OkE K cl S B F φ H (f d S) Q → r x H Q
def CallD (K : PySem.W.Frag) (cl : Nat → Addr) (f : MF) (r : List V → Hp → VK → Prop) : Prop :=
  ∀ S B F φ H ds xs Q, Sim K cl S B F φ H → DRA K cl F φ ds xs → (∀ d ∈ ds, d.lt S.len) → OkE K cl S B F φ H (f ds S) Q → r xs H Q

theorem okE_bnd {K : PySem.W.Frag} {α : Type} {S : SH} {B : List Nat} {F : Hp} {φ : Nat → Addr} {H : Hp} {r : Option (α × SH)} {f : α → SH → Option (D × SH)} {Q : VK} (h : OkE K cl S B F φ H (bnd r f) Q) : ∃ a S1, r = some (a, S1) ∧ OkE K cl S B F φ H (f a S1) Q := by
  cases r with
  | none => obtain ⟨_, _, z, _⟩ := h; cases z
  | some p => exact ⟨p.1, p.2, rfl, h⟩
theorem okT_bnd {K : PySem.W.Frag} {α : Type} {S : SH} {B : List Nat} {F : Hp} {φ : Nat → Addr} {H : Hp} {r : Option (α × SH)} {f : α → SH → Option (Bool × SH)} {Q : Bool → Hp → Prop} (h : OkT K cl S B F φ H (bnd r f) Q) : ∃ a S1, r = some (a, S1) ∧ OkT K cl S B F φ H (f a S1) Q := by
  cases r with
  | none => obtain ⟨_, _, z, _⟩ := h; cases z
  | some p => exact ⟨p.1, p.2, rfl, h⟩
theorem okA_bnd {K : PySem.W.Frag} {α : Type} {S : SH} {B : List Nat} {F : Hp} {φ : Nat → Addr} {H : Hp} {r : Option (α × SH)} {f : α → SH → Option (List D × SH)} {Q : List V → Hp → Prop} (h : OkA K cl S B F φ H (bnd r f) Q) : ∃ a S1, r = some (a, S1) ∧ OkA K cl S B F φ H (f a S1) Q := by
  cases r with
  | none => obtain ⟨_, _, z, _⟩ := h; cases z
  | some p => exact ⟨p.1, p.2, rfl, h⟩
theorem okS_bnd {K : PySem.W.Frag} {α : Type} {S : SH} {B : List Nat} {F : Hp} {φ : Nat → Addr} {H : Hp} {r : Option (α × SH)} {f : α → SH → Option (Fl × SH)} {Q : Ends} (h : OkS K cl S B F φ H (bnd r f) Q) : ∃ a S1, r = some (a, S1) ∧ OkS K cl S B F φ H (f a S1) Q := by
  cases r with
  | none => obtain ⟨_, _, z, _⟩ := h; cases z
  | some p => exact ⟨p.1, p.2, rfl, h⟩
theorem toB_of {d : D} {S S' : SH} {b : Bool} (h : toB d S = some (b, S')) : d = .p (.bl b) ∧ S' = S := by
  unfold toB at h
  cases e : isB d with
  | none => rw [e] at h; cases h
  | some c => rw [e] at h; cases h; exact ⟨isB_of e, rfl⟩
theorem rp_bl {K : PySem.W.Frag} {F : Hp} {φ : Nat → Addr} {b : Bool} {x : V} (h : DR K cl F φ (.p (.bl b)) x) : x = .bl b := by
  cases (show Rp K cl F (.bl b) x from h); rfl
theorem e_op {K : PySem.W.Frag} {f : D → D → SH → Option (D × SH)} {r : R2} (h : OpD K cl f r) {ma mb : ME} {σ : L2.St} {H : Hp} {Q : VK} (q : LE K cl (dOp f ma mb) σ H Q) : tOp r (LE K cl ma) (LE K cl mb) σ H Q := by
  obtain ⟨σd, S, B, F, φ, s, rs, o⟩ := q
  obtain ⟨d1, S1, ea, o⟩ := okE_bnd o
  obtain ⟨d2, S2, eb, o⟩ := okE_bnd o
  refine LE.then_ s rs ea fun F1 φ1 H1 x s1 x1 rs1 dr1 l1 => ?_
  refine LE.then_ s1 rs1 eb fun F2 φ2 H2 y s2 x2 rs2 dr2 l2 => ?_
  exact h S2 B F2 φ2 H2 d1 d2 x y Q s2 (x2.dr l1 dr1) dr2 (x2.lt l1) l2 (o.ext (x1.trans x2))
theorem e_un {K : PySem.W.Frag} {f : D → SH → Option (D × SH)} {r : V → Hp → VK → Prop} (h : UnD K cl f r) {ma : ME} {σ : L2.St} {H : Hp} {Q : VK} (q : LE K cl (dUn f ma) σ H Q) : tUn r (LE K cl ma) σ H Q := by
  obtain ⟨σd, S, B, F, φ, s, rs, o⟩ := q
  obtain ⟨d1, S1, ea, o⟩ := okE_bnd o
  exact LE.then_ s rs ea fun F1 φ1 H1 x s1 x1 rs1 dr1 l1 => h S1 B F1 φ1 H1 d1 x Q s1 dr1 l1 (o.ext x1)
theorem k_var (i : Nat) {x : Str} {pos : Pos} (hN : X.N[i]? = some x := by rfl) (hv : Vis X.env.scope x := by first | exact Or.inl rfl | exact Or.inr (Or.inl rfl) | exact Or.inr (Or.inr rfl)) (hd : (x == ("__debug__" : Str)) = false := by decide)
    (hcd : (x == ("__classdict__" : Str)) = false := by decide) : PE X (.Name x pos) (LE X.K cl (dVar i)) := by
  refine (pe_var hN hv hd hcd).imp fun σ H Q q => ?_
  obtain ⟨σd, S, B, F, φ, s, rs, d, S1, e, k⟩ := q
  unfold dVar at e
  split at e
  · rename_i d' h
    cases e
    obtain ⟨l, v, hv, dr⟩ := rs.2 i _ h
    exact ⟨v, hv, k F φ H v s (.refl s) dr l⟩
  · cases e
theorem e_c {K : PySem.W.Frag} {p : P} {v : V} {σ : L2.St} {H : Hp} {Q : VK} (q : LE K cl (dC p) σ H Q) (h : ∀ F, Rp K cl F p v) : Q v H := by
  obtain ⟨σd, S, B, F, φ, s, rs, o⟩ := q
  exact o.fin0 rfl s (h F) trivial
theorem k_int {i j pos} : PE X (.Constant (.int i) j pos) (LE X.K cl (dC (.int i))) := pe_int.imp fun _ _ _ q => e_c q fun _ => .int _
theorem k_bl {i j pos} : PE X (.Constant (.bool i) j pos) (LE X.K cl (dC (.bl i))) := pe_bl.imp fun _ _ _ q => e_c q fun _ => .bl _
theorem k_str {i j pos} : PE X (.Constant (.str i) j pos) (LE X.K cl (dC (.str i))) := pe_str.imp fun _ _ _ q => e_c q fun _ => .str _
theorem k_non {j pos} : PE X (.Constant .none j pos) (LE X.K cl (dC .non)) := pe_non.imp fun _ _ _ q => e_c q fun _ => .non
variable {a b c : Expr} {ma mb mc : ME} {ta tb : MT} {pos : Pos}
theorem k_op {op : Operator} {f : D → D → SH → Option (D × SH)} {r : R2} (hd : OpD X.K cl f r) (ho : OpR X (binaryOp op) r) (ha : PE X a (LE X.K cl ma)) (hb : PE X b (LE X.K cl mb)) : PE X (.BinOp a op b pos) (LE X.K cl (dOp f ma mb)) :=
  (pe_op ho ha hb).imp fun _ _ _ q => e_op hd q
theorem k_un {op : UnaryOp} {f : D → SH → Option (D × SH)} {r : V → Hp → VK → Prop} (hd : UnD X.K cl f r) (ho : UnR X (unaryOp op) r) (ha : PE X a (LE X.K cl ma)) : PE X (.UnaryOp op a pos) (LE X.K cl (dUn f ma)) :=
  (pe_un ho ha).imp fun _ _ _ q => e_un hd q
theorem k_cmp {op : CmpOp} {f : D → D → SH → Option (D × SH)} {r : R2} (hd : OpD X.K cl f r) (ho : OpR X (compareOp op) r) (ha : PE X a (LE X.K cl ma)) (hb : PE X b (LE X.K cl mb)) (hm : behindInMarks op b = false) : PE X (.Compare a [op] [b] pos) (LE X.K cl (dOp f ma mb)) :=
  (pe_cmpR ho ha hb hm).imp fun _ _ _ q => e_op hd q
theorem e_test {K : PySem.W.Frag} {ma : ME} {σ : L2.St} {H : Hp} {Q : Bool → Hp → Prop} (q : LT K cl (dTest ma) σ H Q) : LE K cl ma σ H fun x H' => ∃ k, x = .bl k ∧ Q k H' := by
  obtain ⟨σd, S, B, F, φ, s, rs, o⟩ := q
  obtain ⟨d, S1, e, o⟩ := okT_bnd o
  obtain ⟨b, S2, e2, k⟩ := o
  obtain ⟨rfl, rfl⟩ := toB_of e2
  exact LE.then_ s rs e fun F1 φ1 H1 x s1 x1 rs1 dr1 l1 => ⟨b, rp_bl dr1, k F1 φ1 H1 s1 x1⟩
theorem e_test2 {K : PySem.W.Frag} {f : D → D → SH → Option (D × SH)} {r : R2} (h : OpD K cl f r) {ma mb : ME} {σ : L2.St} {H : Hp} {Q : Bool → Hp → Prop} (q : LT K cl (dTest (dOp f ma mb)) σ H Q) : tTest (tOp r (LE K cl ma) (LE K cl mb)) σ H Q := by
  refine e_op h ?_
  exact e_test q
theorem t_cmp {op : CmpOp} {f : D → D → SH → Option (D × SH)} {r : R2} (hd : OpD X.K cl f r) (ho : OpR X (compareOp op) r) (ha : PE X a (LE X.K cl ma)) (hb : PE X b (LE X.K cl mb)) (hm : behindInMarks op b = false) : PT X (.Compare a [op] [b] pos) (LT X.K cl (dTest (dOp f ma mb))) :=
  (pt_cmpR ho ha hb hm).imp fun _ _ _ q => e_test2 hd q
theorem t_val {e : Expr} {m : ME} (h : PE X e (LE X.K cl m)) (he : ∀ whole, isTrue e X.env whole = (do let v ← whole; standAt e.pos; holding [v] (truthy v)) := by intro _; rfl) : PT X e (LT X.K cl (dTest m)) :=
  (pt_val h he).imp fun σ H Q q => e_test q
theorem w_and1 (ha : PT X a (LT X.K cl ta)) : PW X (.BoolOp .And [a] pos) (LT X.K cl ta) := pw_and1 ha
theorem w_or1 (ha : PT X a (LT X.K cl ta)) : PW X (.BoolOp .Or [a] pos) (LT X.K cl ta) := pw_or1 ha
variable {rest : List Expr}
theorem w_and (ha : PT X a (LT X.K cl ta)) (hb : PW X (.BoolOp .And (b :: rest) pos) (LT X.K cl tb)) : PW X (.BoolOp .And (a :: b :: rest) pos) (LT X.K cl (dAnd ta tb)) := by
  refine (pw_and ha hb).imp fun σ H Q q => ?_
  obtain ⟨σd, S, B, F, φ, s, rs, o⟩ := q
  obtain ⟨t, S1, e, o⟩ := okT_bnd o
  refine LT.then_ s rs e fun F1 φ1 H1 s1 x1 rs1 => ?_
  split
  · rename_i ht; rw [if_pos ht] at o; exact ⟨σd, S1, B, F1, φ1, s1, rs1, o.ext x1⟩
  · rename_i ht; rw [if_neg ht] at o
    obtain ⟨_, _, z, k⟩ := o
    cases z
    exact k F1 φ1 H1 s1 x1
theorem w_or (ha : PT X a (LT X.K cl ta)) (hb : PW X (.BoolOp .Or (b :: rest) pos) (LT X.K cl tb)) : PW X (.BoolOp .Or (a :: b :: rest) pos) (LT X.K cl (dOr ta tb)) := by
  refine (pw_or ha hb).imp fun σ H Q q => ?_
  obtain ⟨σd, S, B, F, φ, s, rs, o⟩ := q
  obtain ⟨t, S1, e, o⟩ := okT_bnd o
  refine LT.then_ s rs e fun F1 φ1 H1 s1 x1 rs1 => ?_
  split
  · rename_i ht; rw [if_pos ht] at o
    obtain ⟨_, _, z, k⟩ := o
    cases z
    exact k F1 φ1 H1 s1 x1
  · rename_i ht; rw [if_neg ht] at o; exact ⟨σd, S1, B, F1, φ1, s1, rs1, o.ext x1⟩
theorem t_not (ha : PT X a (LT X.K cl ta)) : PT X (.UnaryOp .Not a pos) (LT X.K cl (dNot ta)) := by
  refine (pt_not ha).imp fun σ H Q q => ?_
  obtain ⟨σd, S, B, F, φ, s, rs, o⟩ := q
  obtain ⟨t, S1, e, o⟩ := okT_bnd o
  refine LT.then_ s rs e fun F1 φ1 H1 s1 x1 rs1 => ?_
  obtain ⟨_, _, z, k⟩ := o
  cases z
  exact k F1 φ1 H1 s1 x1
theorem k_not (ha : PE X a (LE X.K cl ma)) : PE X (.UnaryOp .Not a pos) (LE X.K cl (dNotV ma)) := by
  refine (pe_not ha).imp fun σ H Q q => ?_
  obtain ⟨σd, S, B, F, φ, s, rs, o⟩ := q
  obtain ⟨d, S1, e, o⟩ := okE_bnd o
  obtain ⟨b, S2, e2, o2⟩ := okE_bnd o
  clear o
  obtain ⟨rfl, rfl⟩ := toB_of e2
  have o := o2
  clear o2
  exact LE.then_ s rs e fun F1 φ1 H1 x s1 x1 rs1 dr1 l1 => ⟨b, rp_bl dr1, o.fin rfl s1 x1 (Rp.bl _) trivial⟩
theorem k_one {op} (h : PE X a (LE X.K cl ma)) : PE X (.BoolOp op [a] pos) (LE X.K cl ma) := pe_one h
theorem k_and (ha : PE X a (LE X.K cl ma)) (hb : PE X (.BoolOp .And (b :: rest) pos) (LE X.K cl mb)) : PE X (.BoolOp .And (a :: b :: rest) pos) (LE X.K cl (dAndV ma mb)) := by
  refine (pe_and ha hb).imp fun σ H Q q => ?_
  obtain ⟨σd, S, B, F, φ, s, rs, o⟩ := q
  obtain ⟨d, S1, e, o⟩ := okE_bnd o
  obtain ⟨b, S2, e2, o2⟩ := okE_bnd o
  clear o
  obtain ⟨rfl, rfl⟩ := toB_of e2
  have o := o2
  clear o2
  refine LE.then_ s rs e fun F1 φ1 H1 x s1 x1 rs1 dr1 l1 => ⟨b, rp_bl dr1, ?_⟩
  split
  · rename_i ht; rw [if_pos ht] at o; exact ⟨σd, S2, B, F1, φ1, s1, rs1, o.ext x1⟩
  · rename_i ht; rw [if_neg ht] at o; exact o.fin rfl s1 x1 (Rp.bl _) trivial
theorem k_or (ha : PE X a (LE X.K cl ma)) (hb : PE X (.BoolOp .Or (b :: rest) pos) (LE X.K cl mb)) : PE X (.BoolOp .Or (a :: b :: rest) pos) (LE X.K cl (dOrV ma mb)) := by
  refine (pe_or ha hb).imp fun σ H Q q => ?_
  obtain ⟨σd, S, B, F, φ, s, rs, o⟩ := q
  obtain ⟨d, S1, e, o⟩ := okE_bnd o
  obtain ⟨b, S2, e2, o2⟩ := okE_bnd o
  clear o
  obtain ⟨rfl, rfl⟩ := toB_of e2
  have o := o2
  clear o2
  refine LE.then_ s rs e fun F1 φ1 H1 x s1 x1 rs1 dr1 l1 => ⟨b, rp_bl dr1, ?_⟩
  split
  · rename_i ht; rw [if_pos ht] at o; exact o.fin rfl s1 x1 (Rp.bl _) trivial
  · rename_i ht; rw [if_neg ht] at o; exact ⟨σd, S2, B, F1, φ1, s1, rs1, o.ext x1⟩
theorem k_if {t : Expr} (ht : PT X t (LT X.K cl ta)) (ha : PE X a (LE X.K cl ma)) (hb : PE X b (LE X.K cl mb)) : PE X (.IfExp t a b pos) (LE X.K cl (dIfE ta ma mb)) := by
  refine (pe_ifExp ht ha hb).imp fun σ H Q q => ?_
  obtain ⟨σd, S, B, F, φ, s, rs, o⟩ := q
  obtain ⟨t, S1, e, o⟩ := okE_bnd o
  refine LT.then_ s rs e fun F1 φ1 H1 s1 x1 rs1 => ?_
  split
  · rename_i ht; rw [if_pos ht] at o; exact ⟨σd, S1, B, F1, φ1, s1, rs1, o.ext x1⟩
  · rename_i ht; rw [if_neg ht] at o; exact ⟨σd, S1, B, F1, φ1, s1, rs1, o.ext x1⟩
variable {e : Expr} {es : List Expr} {mr : MA}
theorem a_nil : PA X [] (LA X.K cl dNil) := pa_nil.imp fun σ H Q q => by
  obtain ⟨σd, S, B, F, φ, s, rs, d, S1, e, k⟩ := q
  cases e
  exact k F φ H [] s (.refl s) .nil (fun _ z => absurd z (by simp))
theorem a_cons (he : PE X e (LE X.K cl ma)) (hr : PA X es (LA X.K cl mr)) (hs : starEach (e :: es) X.env = (false, eval e X.env) :: starEach es X.env := by rfl) : PA X (e :: es) (LA X.K cl (dCons ma mr)) := by
  refine (pa_cons he hr hs).imp fun σ H Q q => ?_
  obtain ⟨σd, S, B, F, φ, s, rs, o⟩ := q
  obtain ⟨d1, S1, ea, o⟩ := okA_bnd o
  obtain ⟨d2, S2, eb, o⟩ := okA_bnd o
  refine LE.then_ s rs ea fun F1 φ1 H1 x s1 x1 rs1 dr1 l1 => ?_
  refine LA.then_ s1 rs1 eb fun F2 φ2 H2 y s2 x2 rs2 dr2 l2 => ?_
  obtain ⟨_, _, z, k⟩ := o
  cases z
  exact k F2 φ2 H2 (x :: y) s2 (x1.trans x2) (.cons (x2.dr l1 dr1) dr2) fun d hd => by
    rcases List.mem_cons.mp hd with rfl | hd
    · exact x2.lt l1
    · exact l2 d hd
theorem e_call {K : PySem.W.Frag} {f : MF} {r : List V → Hp → VK → Prop} (h : CallD K cl f r) {m : MA} {σ : L2.St} {H : Hp} {Q : VK} (q : LE K cl (dCall f m) σ H Q) : LA K cl m σ H fun vs H1 => r vs H1 Q := by
  obtain ⟨σd, S, B, F, φ, s, rs, o⟩ := q
  obtain ⟨d1, S1, ea, o⟩ := okE_bnd o
  exact LA.then_ s rs ea fun F1 φ1 H1 x s1 x1 rs1 dr1 l1 => h S1 B F1 φ1 H1 d1 x Q s1 dr1 l1 (o.ext x1)
end
end Pv
namespace Pv
open PySem PySem.Spec PyProof.Rows L2

/-! ### what a def leaves behind: the objects that it made are data from then on -/
def toP : Nat → Nat → SH → D → Option P
  | _, _, _, .p x => some x
  | 0, _, _, .ref _ => none
  | k + 1, b, S, .ref n => if n < b then none else match S.os[n]? with
    | some (.lst ds) => (ds.mapM (toP k b S)).map .lst
    | some (.dK kvs) => (kvs.mapM fun p => (toP k b S p.2).map fun x => (p.1, x)).map .dK
    | some (.dT kvs) => (kvs.mapM fun p => (toP k b S p.2).map fun x => (p.1, x)).map .dT
    | some (.ins c fs) => (fs.mapM fun p => (toP k b S p.2).map fun x => (p.1, x)).map (.ins c)
    | none => none
/-- a value as it is behind the end of a def that began at b -/
def outD (b : Nat) (S : SH) (d : D) : Option D := match d with
  | .p x => some (.p x)
  | .ref n => if n < b then some (.ref n) else (toP 8 b S (.ref n)).map .p
def cutS (S0 S1 : SH) : SH := ⟨S0.b, S1.os.take S0.len⟩
/-- a def's call: what it made becomes data, or goes -/
def frameF (S : SH) (r : Option (Fl × SH)) : Option (D × SH) := bnd r fun f S1 => match f with
  | .ret d => match outD S.len S1 d with | some d' => some (d', cutS S S1) | none => none
  | .nx _ => some (.p .non, cutS S S1)
  | _ => none
/-- a def's call where what it made stays -/
def liveF (r : Option (Fl × SH)) : Option (D × SH) := bnd r fun f S1 => match f with
  | .ret d => some (d, S1)
  | .nx _ => some (.p .non, S1)
  | _ => none
/-- a block whose new objects become data at its end; a name that can't be data is forgotten -/
def outO (b : Nat) (S : SH) : Option D → Option D
  | some d => outD b S d
  | none => none
def outE (b : Nat) (S : SH) (σ : En) : En := σ.map (outO b S)
def dBlock (m : MS) : MS := fun σ S => bnd (m σ ⟨S.len, S.os⟩) fun f S1 => match f with
  | .nx σ1 => some (.nx (outE S.len S1 σ1), cutS S S1)
  | .ct σ1 => some (.ct (outE S.len S1 σ1), cutS S S1)
  | .brk σ1 => some (.brk (outE S.len S1 σ1), cutS S S1)
  | .ret d => match outD S.len S1 d with | some d' => some (.ret d', cutS S S1) | none => none

section
variable {K : PySem.W.Frag} {cl : Nat → Addr} {S S' S1 S2 : SH} {B : List Nat} {F F' F0 F1 F2 H H' H0 H1 H2 : Hp} {φ φ' φ0 φ1 φ2 : Nat → Addr}
open Classical in
/-- the heap of data with the objects from b on -/
noncomputable def addF (b k : Nat) (F H : Hp) (φ : Nat → Addr) : Hp := fun a => if ∃ n, b ≤ n ∧ n < k ∧ φ n = a then H a else F a
theorem addF_in {b k n : Nat} (h1 : b ≤ n) (h2 : n < k) : addF b k F H φ (φ n) = H (φ n) := by unfold addF; rw [if_pos ⟨n, h1, h2, rfl⟩]
theorem addF_out {b k : Nat} {a : Addr} (h : ∀ n, b ≤ n → n < k → φ n ≠ a) : addF b k F H φ a = F a := by
  unfold addF; rw [if_neg]; rintro ⟨n, h1, h2, e⟩; exact h n h1 h2 e
theorem addF_le (s : Sim K cl S B F φ H) (b : Nat) : Same F (addF b S.len F H φ) := fun a o e => by
  rw [addF_out]
  · exact e
  · intro n h1 h2 q
    have z := (s.ob n _ (List.getElem?_eq_getElem h2)).1
    rw [q, e] at z; cases z
theorem addF_heap (s : Sim K cl S B F φ H) (b : Nat) : Same (addF b S.len F H φ) H := fun a o e => by
  by_cases h : ∃ n, b ≤ n ∧ n < S.len ∧ φ n = a
  · obtain ⟨n, h1, h2, rfl⟩ := h
    rw [addF_in h1 h2] at e; exact e
  · rw [addF_out fun n h1 h2 q => h ⟨n, h1, h2, q⟩] at e
    exact s.le _ _ e
theorem mapM_rp {α : Type} {g : α → Option P} {R : α → V → Prop} {F : Hp} (hR : ∀ a x v, g a = some x → R a v → Rp K cl F x v) : ∀ {l : List α} {xs : List P} {vs : List V}, l.mapM g = some xs → Paired R l vs → RpA K cl F xs vs
  | [], xs, vs, e, r => by
    cases r
    simp at e
    subst e
    exact .nil
  | a :: l, xs, vs, e, r => by
    cases r with
    | cons r1 r2 =>
      rw [List.mapM_cons] at e
      cases e1 : g a with
      | none => rw [e1] at e; cases e
      | some x =>
        rw [e1] at e
        cases e2 : l.mapM g with
        | none => rw [e2] at e; cases e
        | some ys =>
          rw [e2] at e
          cases e
          exact .cons (hR a x _ e1 r1) (mapM_rp hR e2 r2)
theorem mapM_rpk {κ : Type} {g : D → Option P} {R : D → V → Prop} {F : Hp} {Z : List (κ × P) → List (κ × V) → Prop} (z0 : Z [] []) (z1 : ∀ k x v xs vs, Rp K cl F x v → Z xs vs → Z ((k, x) :: xs) ((k, v) :: vs))
    (hR : ∀ a x v, g a = some x → R a v → Rp K cl F x v) : ∀ {l : List (κ × D)} {xs : List (κ × P)} {vs : List (κ × V)}, l.mapM (fun p => (g p.2).map fun x => (p.1, x)) = some xs → Paired (fun p q => p.1 = q.1 ∧ R p.2 q.2) l vs → Z xs vs
  | [], xs, vs, e, r => by
    cases r
    simp at e
    subst e
    exact z0
  | (k, a) :: l, xs, vs, e, r => by
    cases r with
    | cons r1 r2 =>
      rename_i q vs'
      obtain ⟨k', v⟩ := q
      obtain ⟨rfl, r1⟩ := r1
      rw [List.mapM_cons] at e
      cases e1 : g a with
      | none => rw [e1] at e; cases e
      | some x =>
        rw [e1] at e
        cases e2 : l.mapM (fun p => (g p.2).map fun x => (p.1, x)) with
        | none =>
          simp only [Option.map_some] at e
          rw [e2] at e; cases e
        | some ys =>
          simp only [Option.map_some] at e
          rw [e2] at e
          cases e
          exact z1 _ _ _ _ _ (hR a x _ e1 r1) (mapM_rpk z0 z1 hR e2 r2)
theorem toP_ok (s : Sim K cl S B F φ H) (b : Nat) : ∀ (k : Nat) (d : D) (x : P) (v : V), toP k b S d = some x → DR K cl F φ d v → Rp K cl (addF b S.len F H φ) x v
  | k, .p y, x, v, e, r => by
    have e : y = x := by cases k <;> (simp [toP] at e; exact e)
    subst e
    exact Rp.mono (addF_le s b) r
  | 0, .ref n, x, v, e, r => by simp [toP] at e
  | k + 1, .ref n, x, v, e, r => by
    have r' : v = .ref (φ n) := r
    subst r'
    unfold toP at e
    by_cases hb : n < b
    · rw [if_pos hb] at e; cases e
    · rw [if_neg hb] at e
      have ih : ∀ (a : D) (x : P) (v : V), toP k b S a = some x → DR K cl F φ a v → Rp K cl (addF b S.len F H φ) x v := toP_ok s b k
      cases ho : S.os[n]? with
      | none => rw [ho] at e; cases e
      | some o =>
        rw [ho] at e
        have hn : n < S.len := (List.getElem?_eq_some_iff.mp ho).1
        have hF : addF b S.len F H φ (φ n) = H (φ n) := addF_in (Nat.le_of_not_lt hb) hn
        have ob := (s.ob n o ho).2
        cases o with
        | lst ds =>
          obtain ⟨vs, ev, rv⟩ := ob
          dsimp only at e
          cases e2 : ds.mapM (toP k b S) with
          | none => rw [e2] at e; cases e
          | some xs =>
            rw [e2] at e
            cases e
            exact .lst (.inl (.inl (hF.trans ev))) (mapM_rp ih e2 rv)
        | dK kvs =>
          obtain ⟨vs, ev, rv⟩ := ob
          dsimp only at e
          cases e2 : kvs.mapM fun p => (toP k b S p.2).map fun x => (p.1, x) with
          | none => rw [e2] at e; cases e
          | some xs =>
            rw [e2] at e
            cases e
            exact .dK (hF.trans ev) (mapM_rpk (Z := RpK K cl _) .nil (fun _ _ _ _ _ h1 h2 => .cons h1 h2) ih e2 rv)
        | dT kvs =>
          obtain ⟨vs, ev, rv⟩ := ob
          dsimp only at e
          cases e2 : kvs.mapM fun p => (toP k b S p.2).map fun x => (p.1, x) with
          | none => rw [e2] at e; cases e
          | some xs =>
            rw [e2] at e
            cases e
            exact .dT (hF.trans ev) (mapM_rpk (Z := RpT K cl _) .nil (fun _ _ _ _ _ h1 h2 => .cons h1 h2) ih e2 rv)
        | ins c fs =>
          obtain ⟨dx, vs, ev, rv⟩ := ob
          dsimp only at e
          cases e2 : fs.mapM fun p => (toP k b S p.2).map fun x => (p.1, x) with
          | none => rw [e2] at e; cases e
          | some xs =>
            rw [e2] at e
            cases e
            exact .ins (hF.trans ev) (mapM_rpk (Z := RpF K cl _) .nil (fun _ _ _ _ _ h1 h2 => .cons h1 h2) ih e2 rv)
/-- a block, a def's body begins -/
theorem Sim.begin (s : Sim K cl S B F φ H) : Sim K cl ⟨S.len, S.os⟩ (S.len :: B) F φ H := by
  refine ⟨s.le, s.ob, s.inj, s.wf, fun b hb => ?_, Nat.le_refl _⟩
  rcases List.mem_cons.mp hb with rfl | hb
  · exact ⟨Nat.le_refl _, fun n o e _ => s.wf n o e⟩
  · exact ⟨Nat.le_trans (s.bs b hb).1 s.bl, (s.bs b hb).2⟩
theorem cutS_len (h : S.len ≤ S1.len) : (cutS S S1).len = S.len := by
  show (S1.os.take S.len).length = _
  rw [List.length_take]
  exact Nat.min_eq_left h
theorem cutS_get {n : Nat} {o : Ob} (e : (cutS S S1).os[n]? = some o) : n < S.len ∧ S1.os[n]? = some o := by
  have e : (S1.os.take S.len)[n]? = some o := e
  rw [List.getElem?_take] at e
  split at e
  · rename_i h; exact ⟨h, e⟩
  · cases e
/-- .. and ends -/
theorem Sim.end_ (s0 : Sim K cl S B F0 φ0 H0) (s : Sim K cl S1 (S.len :: B) F φ H) (h : S.len ≤ S1.len) : Sim K cl (cutS S S1) B (addF S.len S1.len F H φ) φ H := by
  have hl := cutS_len h
  refine ⟨addF_heap s _, fun n o e => ?_, fun n m h1 h2 => ?_, fun n o e => ?_, fun b hb => ⟨(s0.bs b hb).1, fun n o e hn => ?_⟩, ?_⟩
  · obtain ⟨hn, e⟩ := cutS_get e
    refine ⟨?_, ?_⟩
    · rw [addF_out fun m h1 h2 q => ?_]
      · exact (s.ob n o e).1
      · have := s.inj m n h2 (Nat.lt_of_lt_of_le hn h) q
        omega
    · exact OR.mono (addF_le s _) (fun _ _ => rfl) (s.wf n o e) (s.ob n o e).2
  · exact s.inj n m (by omega) (by omega)
  · obtain ⟨hn, e⟩ := cutS_get e
    rw [hl]
    exact (s.bs S.len List.mem_cons_self).2 n o e hn
  · obtain ⟨_, e⟩ := cutS_get e
    exact (s.bs b (List.mem_cons_of_mem _ hb)).2 n o e hn
  · rw [hl]; exact s0.bl
theorem Ext.end_ (s : Sim K cl S1 (S.len :: B) F φ H) (x : Ext ⟨S.len, S.os⟩ F0 φ0 H0 S1 F φ H) : Ext S F0 φ0 H0 (cutS S S1) (addF S.len S1.len F H φ) φ H := by
  have hl := cutS_len (S := S) (S1 := S1) x.len
  refine ⟨x.fz.trans (addF_le s _), Nat.le_of_eq hl.symm, rfl, x.phi, fun n h1 h2 => by omega, x.keep, x.tr, fun a o h f n => ?_⟩
  rw [addF_out fun m h1 h2 q => ?_]
  · exact x.fr a o h f n
  · have := x.new m h1 h2
    rw [q, h] at this; cases this
theorem outD_ok (s : Sim K cl S1 (S.len :: B) F φ H) (h : S.len ≤ S1.len) {d d' : D} {v : V} (e : outD S.len S1 d = some d') (r : DR K cl F φ d v) (l : d.lt S1.len) : DR K cl (addF S.len S1.len F H φ) φ d' v ∧ d'.lt (cutS S S1).len := by
  rw [cutS_len h]
  cases d with
  | p x => cases e; exact ⟨Rp.mono (addF_le s _) r, trivial⟩
  | ref n =>
    unfold outD at e
    dsimp only at e
    by_cases hn : n < S.len
    · rw [if_pos hn] at e; cases e; exact ⟨r, hn⟩
    · rw [if_neg hn] at e
      cases e2 : toP 8 S.len S1 (.ref n) with
      | none => rw [e2] at e; cases e
      | some x => rw [e2] at e; cases e; exact ⟨toP_ok s _ _ _ _ _ e2 r, trivial⟩
theorem outE_ok (s : Sim K cl S1 (S.len :: B) F φ H) (h : S.len ≤ S1.len) {σd : En} {σ : L2.St} (r : RS K cl F φ S1.len σd σ) : RS K cl (addF S.len S1.len F H φ) φ (cutS S S1).len (outE S.len S1 σd) σ := by
  refine ⟨by unfold outE; rw [List.length_map]; exact r.1, fun i d e => ?_⟩
  unfold outE at e
  rw [List.getElem?_map] at e
  cases e1 : σd[i]? with
  | none => rw [e1] at e; cases e
  | some o =>
    rw [e1] at e
    cases o with
    | none => cases e
    | some d0 =>
      have e : outD S.len S1 d0 = some d := Option.some.inj e
      obtain ⟨l, v, ev, rv⟩ := r.2 i d0 e1
      obtain ⟨a, b⟩ := outD_ok s h e rv l
      exact ⟨b, v, ev, a⟩
end
section
variable {X : Cx} {cl : Nat → Addr} {st : Stmt} {rest : List Stmt} {m n : MS} {me : ME} {mt : MT} {e : Expr} {pos : Pos}
theorem s_nil : PSs X [] (LS X.K cl dNx) := pss_nil.imp fun Z σ H q => by
  obtain ⟨σd, S, B, F, φ, s, rs, f, S1, e, k⟩ := q
  cases e
  exact k F φ H σ s (.refl s) rs
theorem s_pass : PS X (.Pass pos) (LS X.K cl dNx) := ps_pass.imp fun Z σ H q => by
  obtain ⟨σd, S, B, F, φ, s, rs, f, S1, e, k⟩ := q
  cases e
  exact k F φ H σ s (.refl s) rs
theorem s_brk : PS X (.Break pos) (LS X.K cl dBrk) := ps_break.imp fun Z σ H q => by
  obtain ⟨σd, S, B, F, φ, s, rs, f, S1, e, k⟩ := q
  cases e
  exact k F φ H σ s (.refl s) rs
theorem s_ct : PS X (.Continue pos) (LS X.K cl dCt) := ps_continue.imp fun Z σ H q => by
  obtain ⟨σd, S, B, F, φ, s, rs, f, S1, e, k⟩ := q
  cases e
  exact k F φ H σ s (.refl s) rs
theorem s_doc {x j pos'} : PS X (.Expr (.Constant (.str x) j pos) pos') (LS X.K cl dNx) := ps_doc.imp fun Z σ H q => by
  obtain ⟨σd, S, B, F, φ, s, rs, f, S1, e, k⟩ := q
  cases e
  exact k F φ H σ s (.refl s) rs
theorem s_one (h : PS X st (LS X.K cl m)) : PSs X [st] (LS X.K cl m) := pss_one h
theorem s_cons (h1 : PS X st (LS X.K cl m)) (h2 : PSs X rest (LS X.K cl n)) : PSs X (st :: rest) (LS X.K cl (dSeq m n)) := by
  refine (pss_cons h1 h2).imp fun Z σ H q => ?_
  obtain ⟨σd, S, B, F, φ, s, rs, o⟩ := q
  obtain ⟨f, S1, e, o⟩ := okS_bnd o
  refine LS.then_ s rs e ?_
  cases f with
  | nx σ1 => exact fun F1 φ1 H1 σ' s1 x1 rs1 => ⟨σ1, S1, B, F1, φ1, s1, rs1, o.ext x1⟩
  | ret d => obtain ⟨_, _, z, k⟩ := o; cases z; exact k
  | brk d => obtain ⟨_, _, z, k⟩ := o; cases z; exact k
  | ct d => obtain ⟨_, _, z, k⟩ := o; cases z; exact k
theorem s_never : PS X st (LS X.K cl dNever) := ps_never.imp fun Z σ H q => by
  obtain ⟨σd, S, B, F, φ, s, rs, f, S1, e, k⟩ := q
  cases e
theorem ss_never {sts : List Stmt} : PSs X sts (LS X.K cl dNever) := pss_never.imp fun Z σ H q => by
  obtain ⟨σd, S, B, F, φ, s, rs, f, S1, e, k⟩ := q
  cases e
theorem s_if {c : Expr} {a b : List Stmt} (hc : PT X c (LT X.K cl mt)) (ha : PSs X a (LS X.K cl m)) (hb : PSs X b (LS X.K cl n)) : PS X (.If c a b pos) (LS X.K cl (dIf mt m n)) := by
  refine (ps_if hc ha hb).imp fun Z σ H q => ?_
  obtain ⟨σd, S, B, F, φ, s, rs, o⟩ := q
  obtain ⟨t, S1, e, o⟩ := okS_bnd o
  refine LT.then_ s rs e fun F1 φ1 H1 s1 x1 rs1 => ?_
  split
  · rename_i ht; rw [if_pos ht] at o; exact ⟨σd, S1, B, F1, φ1, s1, rs1, o.ext x1⟩
  · rename_i ht; rw [if_neg ht] at o; exact ⟨σd, S1, B, F1, φ1, s1, rs1, o.ext x1⟩
theorem s_ret (he : PE X e (LE X.K cl me)) : PS X (.Return (some e) pos) (LS X.K cl (dRet me)) := by
  refine (ps_ret he).imp fun Z σ H q => ?_
  obtain ⟨σd, S, B, F, φ, s, rs, o⟩ := q
  obtain ⟨d, S1, e, o⟩ := okS_bnd o
  obtain ⟨_, _, z, k⟩ := o
  cases z
  exact LE.then_ s rs e fun F1 φ1 H1 u s1 x1 _ dr l => k F1 φ1 H1 u s1 x1 dr l
theorem s_retN : PS X (.Return none pos) (LS X.K cl dRetN) := ps_retN.imp fun Z σ H q => by
  obtain ⟨σd, S, B, F, φ, s, rs, f, S1, e, k⟩ := q
  cases e
  exact k F φ H .non s (.refl s) .non trivial
theorem s_drop (he : PE X e (LE X.K cl me)) (hs : swapsWith e none pos.line X.env = pure false := by rfl) : PS X (.Expr e pos) (LS X.K cl (dDrop me)) := by
  refine (ps_expr he hs).imp fun Z σ H q => ?_
  obtain ⟨σd, S, B, F, φ, s, rs, o⟩ := q
  obtain ⟨d, S1, e, o⟩ := okS_bnd o
  obtain ⟨_, _, z, k⟩ := o
  cases z
  exact LE.then_ s rs e fun F1 φ1 H1 u s1 x1 rs1 dr l => k F1 φ1 H1 σ s1 x1 rs1
theorem RS.set {K : PySem.W.Frag} {F : Hp} {φ : Nat → Addr} {k : Nat} {σd : En} {σ : L2.St} (r : RS K cl F φ k σd σ) (i : Nat) {d : D} {v : V} (dr : DR K cl F φ d v) (l : d.lt k) : RS K cl F φ k (σd.set i (some d)) (σ.set i (some v)) := by
  refine ⟨by rw [List.length_set, List.length_set]; exact r.1, fun j d' e => ?_⟩
  by_cases h : i = j
  · subst h
    rw [List.getElem?_set] at e
    rw [if_pos rfl] at e
    by_cases hi : i < σd.length
    · rw [if_pos hi] at e
      cases e
      exact ⟨l, v, by rw [List.getElem?_set_self (by rw [← r.1]; exact hi)], dr⟩
    · rw [if_neg hi] at e; cases e
  · rw [List.getElem?_set_ne h] at e
    obtain ⟨a, v', b, c⟩ := r.2 j d' e
    exact ⟨a, v', by rw [List.getElem?_set_ne h]; exact b, c⟩
theorem RS.unset {K : PySem.W.Frag} {F : Hp} {φ : Nat → Addr} {k : Nat} {σd : En} {σ : L2.St} (r : RS K cl F φ k σd σ) (i : Nat) : RS K cl F φ k (σd.set i none) σ := by
  refine ⟨by rw [List.length_set]; exact r.1, fun j d' e => ?_⟩
  by_cases h : i = j
  · subst h
    rw [List.getElem?_set, if_pos rfl] at e
    split at e <;> cases e
  · rw [List.getElem?_set_ne h] at e
    exact r.2 j d' e
theorem RS.wipe {K : PySem.W.Frag} {F : Hp} {φ : Nat → Addr} {k : Nat} {σ : L2.St} : ∀ (vs : List Nat) {σd : En}, RS K cl F φ k σd σ → RS K cl F φ k (wipeD vs σd) σ
  | [], _, r => r
  | i :: vs, _, r => RS.wipe vs (r.unset i)
theorem s_set {i : Nat} {x : Str} {pos' : Pos} (hN : X.N.Nodup) (hi : X.N[i]? = some x) (hx : Loc X.env.scope x) (he : PE X e (LE X.K cl me)) (hs : swapsWith e (some (.Name x pos')) pos.line X.env = pure false := by rfl) (hf : X.fn x = true ∨ X.env.scope.names.lookup x = some .local := by first | exact .inl rfl | exact .inr rfl | assumption) :
    PS X (.Assign [.Name x pos'] e pos) (LS X.K cl (dSet i me)) := by
  refine (ps_set hN hi hx he hs hf).imp fun Z σ H q => ?_
  obtain ⟨σd, S, B, F, φ, s, rs, o⟩ := q
  obtain ⟨d, S1, e, o⟩ := okS_bnd o
  obtain ⟨_, _, z, k⟩ := o
  cases z
  exact LE.then_ s rs e fun F1 φ1 H1 u s1 x1 rs1 dr l => k F1 φ1 H1 _ s1 x1 (rs1.set i dr l)
theorem s_wipe {vs : List Nat} (h : PS X st (LS X.K cl m)) : PS X st (LS X.K cl (dWipe vs m)) := h.imp fun Z σ H q => by
  obtain ⟨σd, S, B, F, φ, s, rs, o⟩ := q
  exact ⟨_, S, B, F, φ, s, rs.wipe vs, o⟩
theorem ss_wipe {vs : List Nat} (h : PSs X rest (LS X.K cl m)) : PSs X rest (LS X.K cl (dWipe vs m)) := h.imp fun Z σ H q => by
  obtain ⟨σd, S, B, F, φ, s, rs, o⟩ := q
  exact ⟨_, S, B, F, φ, s, rs.wipe vs, o⟩
theorem ss_block (h : PSs X rest (LS X.K cl m)) : PSs X rest (LS X.K cl (dBlock m)) := h.imp fun Z σ H q => by
  obtain ⟨σd, S, B, F, φ, s, rs, o⟩ := q
  obtain ⟨f, S1, e, o⟩ := okS_bnd o
  refine ⟨σd, ⟨S.len, S.os⟩, S.len :: B, F, φ, s.begin, rs, f, S1, e, ?_⟩
  cases f with
  | nx σ1 =>
    obtain ⟨_, _, z, k⟩ := o; cases z
    exact fun F1 φ1 H1 σ' s1 x1 rs1 => k _ _ _ _ (Sim.end_ s s1 x1.len) (Ext.end_ s1 x1) (outE_ok s1 x1.len rs1)
  | ct σ1 =>
    obtain ⟨_, _, z, k⟩ := o; cases z
    exact fun F1 φ1 H1 σ' s1 x1 rs1 => k _ _ _ _ (Sim.end_ s s1 x1.len) (Ext.end_ s1 x1) (outE_ok s1 x1.len rs1)
  | brk σ1 =>
    obtain ⟨_, _, z, k⟩ := o; cases z
    exact fun F1 φ1 H1 σ' s1 x1 rs1 => k _ _ _ _ (Sim.end_ s s1 x1.len) (Ext.end_ s1 x1) (outE_ok s1 x1.len rs1)
  | ret d =>
    dsimp only at o
    cases ed : outD S.len S1 d with
    | none => rw [ed] at o; obtain ⟨_, _, z, _⟩ := o; cases z
    | some d' =>
      rw [ed] at o
      obtain ⟨_, _, z, k⟩ := o; cases z
      intro F1 φ1 H1 u s1 x1 dr l
      obtain ⟨a, b⟩ := outD_ok s1 x1.len ed dr l
      exact k _ _ _ _ (Sim.end_ s s1 x1.len) (Ext.end_ s1 x1) a b

/-! ### defs -/
def startD (n : Nat) (ds : List D) : En := ds.map some ++ List.replicate (n - ds.length) none
theorem DRA.length {K : PySem.W.Frag} {F : Hp} {φ : Nat → Addr} {ds : List D} {vs : List V} (h : DRA K cl F φ ds vs) : ds.length = vs.length := Paired.length h
theorem DRA.get {K : PySem.W.Frag} {F : Hp} {φ : Nat → Addr} : ∀ {ds : List D} {vs : List V} {i : Nat} {d : D}, DRA K cl F φ ds vs → ds[i]? = some d → ∃ v, vs[i]? = some v ∧ DR K cl F φ d v
  | _, _, _, _, .nil, e => by simp at e
  | _, _, 0, _, .cons r _, e => by simp at e; subst e; exact ⟨_, rfl, r⟩
  | _, _, i + 1, d, .cons _ t, e => by
    obtain ⟨u, h1, h2⟩ := DRA.get (i := i) (d := d) t (by simpa using e)
    exact ⟨u, by simpa using h1, h2⟩
theorem rs_start {K : PySem.W.Frag} {F : Hp} {φ : Nat → Addr} {k : Nat} {N : List Str} {ds : List D} {vs : List V} (r : DRA K cl F φ ds vs) (l : ∀ d ∈ ds, d.lt k) : RS K cl F φ k (startD N.length ds) (L2.start N vs) := by
  have hl := r.length
  refine ⟨by unfold startD L2.start; simp [hl], fun i d e => ?_⟩
  unfold startD at e
  by_cases hi : i < ds.length
  · rw [List.getElem?_append_left (by simpa using hi), List.getElem?_map] at e
    cases e1 : ds[i]? with
    | none => rw [e1] at e; cases e
    | some d0 =>
      rw [e1] at e; cases e
      obtain ⟨v, ev, dr⟩ := r.get e1
      refine ⟨l d (List.mem_of_getElem? e1), v, ?_, dr⟩
      unfold L2.start
      rw [List.getElem?_append_left (by simpa [← hl] using hi), List.getElem?_map, ev]
      rfl
  · rw [List.getElem?_append_right (by simpa using hi), List.getElem?_replicate] at e
    split at e <;> cases e
/-- what a def promises, by its computation -/
def spOf (K : PySem.W.Frag) (cl : Nat → Addr) (m : MF) : Sp := fun vs H Q _ => ∃ ds S B F φ, Sim K cl S B F φ H ∧ DRA K cl F φ ds vs ∧ (∀ d ∈ ds, d.lt S.len) ∧ OkE K cl S B F φ H (m ds S) Q
/-- a def by its body: what it made becomes data -/
def dFn (k n : Nat) (body : MS) : MF := fun ds S => if ds.length = k then frameF S (body (startD n ds) ⟨S.len, S.os⟩) else none
def dFnL (k n : Nat) (body : MS) : MF := fun ds S => if ds.length = k then liveF (body (startD n ds) S) else none
theorem fn_len {K : PySem.W.Frag} {S : SH} {B : List Nat} {F : Hp} {φ : Nat → Addr} {H : Hp} {Q : VK} {ds : List D} {k : Nat} {r : Option (D × SH)} (h : OkE K cl S B F φ H (if ds.length = k then r else none) Q) : ds.length = k ∧ OkE K cl S B F φ H r Q := by
  by_cases e : ds.length = k
  · rw [if_pos e] at h; exact ⟨e, h⟩
  · rw [if_neg e] at h; obtain ⟨_, _, z, _⟩ := h; cases z
theorem sp_len {K : PySem.W.Frag} {k n : Nat} {m : MS} {vs : List V} {H : Hp} {Q : VK} {E : XK} (h : spOf K cl (dFn k n m) vs H Q E) : vs.length = k := by
  obtain ⟨ds, S, B, F, φ, s, dr, l, o⟩ := h
  rw [← dr.length]
  exact (fn_len o).1
theorem spL_len {K : PySem.W.Frag} {k n : Nat} {m : MS} {vs : List V} {H : Hp} {Q : VK} {E : XK} (h : spOf K cl (dFnL k n m) vs H Q E) : vs.length = k := by
  obtain ⟨ds, S, B, F, φ, s, dr, l, o⟩ := h
  rw [← dr.length]
  exact (fn_len o).1
theorem fn_body {K : PySem.W.Frag} {N : List Str} {k : Nat} {m : MS} {vs : List V} {H : Hp} {Q : VK} {E : XK} (h : spOf K cl (dFn k N.length m) vs H Q E) : LS K cl m { nx := fun _ H' => Q .non H', rt := Q } (L2.start N vs) H := by
  obtain ⟨ds, S, B, F, φ, s, dr, l, o⟩ := h
  have o := (fn_len o).2
  obtain ⟨f, S1, e, o⟩ := okE_bnd o
  refine ⟨_, ⟨S.len, S.os⟩, S.len :: B, F, φ, s.begin, rs_start dr l, f, S1, e, ?_⟩
  cases f with
  | nx σ1 =>
    obtain ⟨_, _, z, k⟩ := o; cases z
    exact fun F1 φ1 H1 σ' s1 x1 rs1 => k _ _ _ _ (Sim.end_ s s1 x1.len) (Ext.end_ s1 x1) .non trivial
  | ret d =>
    dsimp only at o
    cases ed : outD S.len S1 d with
    | none => rw [ed] at o; obtain ⟨_, _, z, _⟩ := o; cases z
    | some d' =>
      rw [ed] at o
      obtain ⟨_, _, z, k⟩ := o; cases z
      intro F1 φ1 H1 u s1 x1 dr l
      obtain ⟨a, b⟩ := outD_ok s1 x1.len ed dr l
      exact k _ _ _ _ (Sim.end_ s s1 x1.len) (Ext.end_ s1 x1) a b
  | brk _ => obtain ⟨_, _, z, _⟩ := o; cases z
  | ct _ => obtain ⟨_, _, z, _⟩ := o; cases z
theorem fnL_body {K : PySem.W.Frag} {N : List Str} {k : Nat} {m : MS} {vs : List V} {H : Hp} {Q : VK} {E : XK} (h : spOf K cl (dFnL k N.length m) vs H Q E) : LS K cl m { nx := fun _ H' => Q .non H', rt := Q } (L2.start N vs) H := by
  obtain ⟨ds, S, B, F, φ, s, dr, l, o⟩ := h
  have o := (fn_len o).2
  obtain ⟨f, S1, e, o⟩ := okE_bnd o
  refine ⟨_, S, B, F, φ, s, rs_start dr l, f, S1, e, ?_⟩
  cases f with
  | nx σ1 =>
    obtain ⟨_, _, z, k⟩ := o; cases z
    exact fun F1 φ1 H1 σ' s1 x1 rs1 => k _ _ _ _ s1 x1 .non trivial
  | ret d => obtain ⟨_, _, z, k⟩ := o; cases z; exact k
  | brk _ => obtain ⟨_, _, z, _⟩ := o; cases z
  | ct _ => obtain ⟨_, _, z, _⟩ := o; cases z
/-- THE RULE for a def -/
theorem fn_ok {P : Program} {w : World} {K : PySem.W.Frag} {mg : Str → Option Value} {base : Heap} {x qual : Str} {st : Stmt} {f : Addr} {fd : FuncData} {N ps : List Str} {k : Nat} {m : MS} (F : Fun K x qual st f fd) (S : FnScope N ps (defScope st))
    (h : ∀ (cdv : Value) (A : Around) (outer : List Env) (s : Shared) (H : Hp) (E : XK), Room k (A.deeper (envOfC qual (defScope st) s.heap.objs.size f cdv)) →
      PSs (cxOf CX0 P w K mg base N qual (defScope st) f cdv A outer s H E).nox (defBody st) (LS K cl m)) : FnOk P w K mg base CX0 (k + 1) f fd ps (spOf K cl (dFn ps.length N.length m)) :=
  F.ok S (fun vs H Q E q => sp_len q) fun cdv A outer s H vs Q E hr q => ⟨_, h cdv A outer s H E hr, fn_body q⟩
theorem fnL_ok {P : Program} {w : World} {K : PySem.W.Frag} {mg : Str → Option Value} {base : Heap} {x qual : Str} {st : Stmt} {f : Addr} {fd : FuncData} {N ps : List Str} {k : Nat} {m : MS} (F : Fun K x qual st f fd) (S : FnScope N ps (defScope st))
    (h : ∀ (cdv : Value) (A : Around) (outer : List Env) (s : Shared) (H : Hp) (E : XK), Room k (A.deeper (envOfC qual (defScope st) s.heap.objs.size f cdv)) →
      PSs (cxOf CX0 P w K mg base N qual (defScope st) f cdv A outer s H E).nox (defBody st) (LS K cl m)) : FnOk P w K mg base CX0 (k + 1) f fd ps (spOf K cl (dFnL ps.length N.length m)) :=
  F.ok S (fun vs H Q E q => spL_len q) fun cdv A outer s H vs Q E hr q => ⟨_, h cdv A outer s H E hr, fnL_body q⟩
end
end Pv
namespace Pv
open PySem PySem.Spec PyProof.Rows L2

theorem _root_.L2.Same.new {H H1 : Hp} {q : Addr} {o : HO} (a : Same H H1) (h : H1 q = none) : Same H (L2.upd H1 q o) := fun c u e => by
  rw [upd_ne (ne_of_none (a c u e) h)]
  exact a c u e
/-! ### new objects -/
def isP : D → Option P
  | .p x => some x
  | .ref _ => none
def toPs : List D → Option (List P)
  | [] => some []
  | .p x :: r => (toPs r).map (x :: ·)
  | .ref _ :: _ => none
@[simp] theorem toPs_map (ps : List P) : toPs (ps.map D.p) = some ps := by
  induction ps with
  | nil => rfl
  | cons x r ih => simp [toPs, ih]
theorem toPs_of : ∀ {ds : List D} {ps : List P}, toPs ds = some ps → ds = ps.map D.p
  | [], ps, h => by cases h; rfl
  | .p x :: r, ps, h => by
    unfold toPs at h
    cases e : toPs r with
    | none => rw [e] at h; cases h
    | some qs => rw [e] at h; cases h; rw [List.map_cons, ← toPs_of e]
  | .ref n :: r, ps, h => by cases h
abbrev SH.push (S : SH) (o : Ob) : SH := ⟨S.b, S.os ++ [o]⟩
abbrev SH.put (S : SH) (n : Nat) (o : Ob) : SH := ⟨S.b, S.os.set n o⟩
def newT (ds : List D) (S : SH) : Option (D × SH) := match toPs ds with
  | some ps => if ps.length ≤ sizeLine then some (.p (.tup ps), S) else none
  | none => none
def newL (live : Bool) (ds : List D) (S : SH) : Option (D × SH) := if ds.length ≤ sizeLine then (if live = true then some (.ref S.len, S.push (.lst ds)) else match toPs ds with
  | some ps => some (.p (.lst ps), S)
  | none => none) else none
/-- the items of a list, wherever it stands -/
def asL (d : D) (S : SH) : Option (List D) := match d with
  | .p (.lst ps) => some (ps.map .p)
  | .ref n => match S.os[n]? with | some (.lst ds) => some ds | _ => none
  | _ => none
/-- .. of a list or a tuple -/
def asQ (d : D) (S : SH) : Option (List D) := match d with
  | .p (.lst ps) => some (ps.map .p)
  | .p (.tup ps) => some (ps.map .p)
  | .ref n => match S.os[n]? with | some (.lst ds) => some ds | _ => none
  | _ => none
section
variable {K : PySem.W.Frag} {cl : Nat → Addr} {S S' S1 S2 : SH} {B : List Nat} {F F' F0 F1 F2 H H' H0 H1 H2 : Hp} {φ φ' φ0 φ1 φ2 : Nat → Addr} {Q : VK}
theorem RpA.dra {ps : List P} {vs : List V} (h : RpA K cl F ps vs) : DRA K cl F φ (ps.map D.p) vs := by
  induction ps generalizing vs with
  | nil => cases h; exact .nil
  | cons x r ih => cases h with | cons a b => exact .cons a (ih b)
theorem DRA.rpa {ps : List P} {vs : List V} (h : DRA K cl F φ (ps.map D.p) vs) : RpA K cl F ps vs := by
  induction ps generalizing vs with
  | nil => cases h; exact .nil
  | cons x r ih => cases h with | cons a b => exact .cons a (ih b)
theorem lt_map {ps : List P} {k : Nat} : ∀ d ∈ ps.map D.p, d.lt k := fun d hd => by
  obtain ⟨x, _, rfl⟩ := List.mem_map.mp hd
  trivial
theorem Sim.keep (s : Sim K cl S B F φ H) (k : Same H H') : Sim K cl S B F φ H' := by
  refine ⟨s.le.trans k, fun n o e => ⟨(s.ob n o e).1, ?_⟩, s.inj, s.wf, s.bs, s.bl⟩
  have z := (s.ob n o e).2
  cases q : H (φ n) with
  | none => exact absurd q z.ne0
  | some u => rw [k _ _ q, ← q]; exact z
theorem Sim.none_p (s : Sim K cl S B F φ H) {p : Addr} (hp : H p = none) : F p = none ∧ ∀ n, n < S.len → φ n ≠ p := by
  refine ⟨?_, fun n h e => s.ne0 h (by rw [e]; exact hp)⟩
  cases q : F p with
  | none => rfl
  | some u => rw [s.le _ _ q] at hp; cases hp
theorem Ext.ofSame (s : Sim K cl S B F φ H) (k : Same H H') : Ext S F φ H S F φ H' :=
  ⟨Same.refl _, Nat.le_refl _, rfl, fun _ _ => rfl, fun n h1 h2 => absurd h1 (Nat.not_le_of_lt h2), fun a o e _ => k a o e, fun n h => (s.keep k).ne0 h, fun _ _ _ h _ => h⟩
/-- a new object that is data -/
theorem Sim.frz (s : Sim K cl S B F φ H) (k : Same H H') {p : Addr} {o : HO} (hp : H p = none) (ho : H' p = some o) : Sim K cl S B (upd F p o) φ H' ∧ Ext S F φ H S (upd F p o) φ H' := by
  obtain ⟨fp, np⟩ := s.none_p hp
  have sf : Same F (upd F p o) := fun a u e => by rw [upd_ne (ne_of_none e fp)]; exact e
  have s1 := s.keep k
  refine ⟨⟨fun a u e => ?_, fun n u e => ⟨?_, OR.mono sf (fun _ _ => rfl) (s1.wf n u e) (s1.ob n u e).2⟩, s1.inj, s1.wf, s1.bs, s1.bl⟩, ⟨sf, Nat.le_refl _, rfl, fun _ _ => rfl, fun n h1 h2 => absurd h1 (Nat.not_le_of_lt h2), fun a u e _ => k a u e, fun n h => s1.ne0 h, fun a u e f _ => ?_⟩⟩
  · by_cases h : a = p
    · subst h; rw [upd_same] at e; rw [ho, e]
    · rw [upd_ne h] at e; exact s1.le a u e
  · rw [upd_ne (np n (List.getElem?_eq_some_iff.mp e).1)]; exact (s1.ob n u e).1
  · rw [upd_ne (ne_of_none e hp)]; exact f
/-- a new object that may change -/
theorem Sim.push (s : Sim K cl S B F φ H) (k : Same H H') {p : Addr} {o : Ob} (hp : H p = none) (ho : OR K cl F φ (H' p) o) (hl : o.lt S.len) :
    Sim K cl (S.push o) B F (fun n => if n = S.len then p else φ n) H' ∧ Ext S F φ H (S.push o) F (fun n => if n = S.len then p else φ n) H' := by
  obtain ⟨fp, np⟩ := s.none_p hp
  have s1 := s.keep k
  have hlen : (S.push o).len = S.len + 1 := by show (S.os ++ [o]).length = _; simp
  have ph : ∀ n, n < S.len → (if n = S.len then p else φ n) = φ n := fun n h => if_neg (by omega)
  have get : ∀ (n : Nat) (u : Ob), (S.push o).os[n]? = some u → (n < S.len ∧ S.os[n]? = some u) ∨ (n = S.len ∧ u = o) := fun n u e => by
    have e : (S.os ++ [o])[n]? = some u := e
    by_cases h : n < S.len
    · rw [List.getElem?_append_left h] at e; exact .inl ⟨h, e⟩
    · have hz : S.os.length = S.len := rfl
      rw [List.getElem?_append_right (by omega)] at e
      right
      have h2 : n - S.os.length = 0 := by
        have := (List.getElem?_eq_some_iff.mp e).1
        simp at this; omega
      rw [h2] at e
      simp at e
      exact ⟨by have : S.os.length = S.len := rfl; omega, e.symm⟩
  refine ⟨⟨s1.le, fun n u e => ?_, fun n m h1 h2 e => ?_, fun n u e => ?_, fun b hb => ⟨(s1.bs b hb).1, fun n u e h => ?_⟩, by rw [hlen]; exact Nat.le_succ_of_le s.bl⟩, ⟨Same.refl _, by rw [hlen]; exact Nat.le_succ _, rfl, ph, fun n h1 h2 => ?_, fun a u e _ => k a u e, fun n h => s1.ne0 h, fun _ _ _ h _ => h⟩⟩
  · rcases get n u e with ⟨h, e'⟩ | ⟨h, e'⟩
    · rw [ph n h]; exact ⟨(s1.ob n u e').1, OR.mono (Same.refl _) ph (s1.wf n u e') (s1.ob n u e').2⟩
    · subst h; subst e'; rw [if_pos rfl]; exact ⟨fp, OR.mono (Same.refl _) ph hl ho⟩
  · rw [hlen] at h1 h2
    by_cases a : n = S.len
    · by_cases b : m = S.len
      · omega
      · rw [if_pos a, if_neg b] at e
        exact absurd e.symm (np m (by omega))
    · by_cases b : m = S.len
      · rw [if_neg a, if_pos b] at e
        exact absurd e (np n (by omega))
      · rw [if_neg a, if_neg b] at e
        exact s1.inj n m (by omega) (by omega) e
  · rw [hlen]
    rcases get n u e with ⟨h, e'⟩ | ⟨h, e'⟩
    · exact fun d hd => (s1.wf n u e' d hd).mono (Nat.le_succ _)
    · subst e'; exact fun d hd => (hl d hd).mono (Nat.le_succ _)
  · rcases get n u e with ⟨h1, e'⟩ | ⟨h1, e'⟩
    · exact (s1.bs b hb).2 n u e' h
    · have := (s1.bs b hb).1; have := s.bl; omega
  · rw [hlen] at h2
    have e : n = S.len := by omega
    rw [if_pos e]; exact hp
/-- an object that may change is changed -/
theorem Sim.put (s : Sim K cl S B F φ H) {n : Nat} {o : Ob} {x : HO} (hn : n < S.len) (ho : OR K cl F φ (some x) o) (hl : o.lt S.len) (hb : S.b ≤ n ∨ ∀ k, o.lt k) :
    Sim K cl (S.put n o) B F φ (upd H (φ n) x) ∧ Ext S F φ H (S.put n o) F φ (upd H (φ n) x) := by
  have hlen : (S.put n o).len = S.len := by show (S.os.set n o).length = _; simp
  have fn := (s.ob n _ (List.getElem?_eq_getElem hn)).1
  have get : ∀ (m : Nat) (u : Ob), (S.put n o).os[m]? = some u → (m ≠ n ∧ S.os[m]? = some u) ∨ (m = n ∧ u = o) := fun m u e => by
    have e : (S.os.set n o)[m]? = some u := e
    by_cases h : n = m
    · subst h
      rw [List.getElem?_set_self hn] at e
      cases e
      exact .inr ⟨rfl, rfl⟩
    · rw [List.getElem?_set_ne h] at e; exact .inl ⟨Ne.symm h, e⟩
  have ne : ∀ m, m < S.len → m ≠ n → φ m ≠ φ n := fun m hm h e => h (s.inj m n hm hn e)
  have all : Sim K cl (S.put n o) B F φ (upd H (φ n) x) := by
    refine ⟨fun a u e => ?_, fun m u e => ?_, fun a b h1 h2 => ?_, fun m u e => ?_, fun b hb' => ⟨(s.bs b hb').1, fun m u e h => ?_⟩, by rw [hlen]; exact s.bl⟩
    · rw [upd_ne (ne_of_none e fn)]; exact s.le a u e
    · rcases get m u e with ⟨h, e⟩ | ⟨rfl, rfl⟩
      · rw [upd_ne (ne m (List.getElem?_eq_some_iff.mp e).1 h)]; exact s.ob m u e
      · rw [upd_same]; exact ⟨fn, ho⟩
    · exact s.inj a b (by omega) (by omega)
    · rw [hlen]
      rcases get m u e with ⟨h, e⟩ | ⟨rfl, rfl⟩
      · exact s.wf m u e
      · exact hl
    · rcases get m u e with ⟨h1, e⟩ | ⟨rfl, rfl⟩
      · exact (s.bs b hb').2 m u e h
      · rcases hb with hb | hb
        · have := (s.bs b hb').1; omega
        · exact hb b
  refine ⟨all, ⟨Same.refl _, Nat.le_of_eq hlen.symm, rfl, fun _ _ => rfl, fun m h1 h2 => by omega, fun a u e h => ?_, fun m hm => all.ne0 (by omega), fun _ _ _ h _ => h⟩⟩
  rw [upd_ne (fun z => h n hn z.symm)]; exact e
theorem newT_ok {ds : List D} {vs : List V} (h : OkE K cl S B F φ H (newT ds S) Q) (s : Sim K cl S B F φ H) (r : DRA K cl F φ ds vs) : vs.length ≤ sizeLine ∧ ∀ p, H p = none → Q (.ref p) (upd H p (.tup vs)) := by
  unfold newT at h
  cases e : toPs ds with
  | none => rw [e] at h; obtain ⟨_, _, z, _⟩ := h; cases z
  | some ps =>
    rw [e] at h
    have ed := toPs_of e
    subst ed
    have hlen := r.length
    rw [List.length_map] at hlen
    dsimp only at h
    by_cases hz : ps.length ≤ sizeLine
    · rw [if_pos hz] at h
      refine ⟨by rw [← hlen]; exact hz, fun p hp => ?_⟩
      obtain ⟨s1, x1⟩ := s.frz (H' := upd H p (.tup vs)) (Same.new (Same.refl H) hp) hp upd_same
      exact h.fin rfl s1 x1 (Rp.tup (.inl (.inl upd_same)) (RpA.mono x1.fz r.rpa)) trivial
    · rw [if_neg hz] at h; obtain ⟨_, _, z, _⟩ := h; cases z
theorem newL_ok {live : Bool} {ds : List D} {vs : List V} (h : OkE K cl S B F φ H (newL live ds S) Q) (s : Sim K cl S B F φ H) (r : DRA K cl F φ ds vs) (l : ∀ d ∈ ds, d.lt S.len) : vs.length ≤ sizeLine ∧ ∀ p H', H p = none → Same H H' → H' p = some (.lst vs) → Q (.ref p) H' := by
  unfold newL at h
  have hlen := r.length
  by_cases hz : ds.length ≤ sizeLine
  · rw [if_pos hz] at h
    refine ⟨by rw [← hlen]; exact hz, fun p H' hp sm hv => ?_⟩
    cases live with
    | true =>
      rw [if_pos rfl] at h
      obtain ⟨s1, x1⟩ := s.push (H' := H') sm (o := .lst ds) hp ⟨vs, hv, r⟩ l
      exact h.fin rfl s1 x1 (show V.ref p = V.ref (if S.len = S.len then p else φ S.len) by rw [if_pos rfl]) (show S.len < (S.os ++ [Ob.lst ds]).length by simp)
    | false =>
      rw [if_neg Bool.false_ne_true] at h
      cases e : toPs ds with
      | none => rw [e] at h; obtain ⟨_, _, z, _⟩ := h; cases z
      | some ps =>
        rw [e] at h
        have ed := toPs_of e
        subst ed
        obtain ⟨s1, x1⟩ := s.frz (H' := H') sm hp hv
        exact h.fin rfl s1 x1 (Rp.lst (.inl (.inl upd_same)) (RpA.mono x1.fz r.rpa)) trivial
  · rw [if_neg hz] at h; obtain ⟨_, _, z, _⟩ := h; cases z
theorem newL_ok1 {live : Bool} {ds : List D} {vs : List V} (h : OkE K cl S B F φ H (newL live ds S) Q) (s : Sim K cl S B F φ H) (r : DRA K cl F φ ds vs) (l : ∀ d ∈ ds, d.lt S.len) : vs.length ≤ sizeLine ∧ ∀ p, H p = none → Q (.ref p) (upd H p (.lst vs)) := by
  obtain ⟨a, b⟩ := newL_ok h s r l
  exact ⟨a, fun p hp => b p _ hp (Same.new (Same.refl H) hp) upd_same⟩
/-- a list's items are there -/
theorem asL_ok (s : Sim K cl S B F φ H) {d : D} {ds : List D} {v : V} (e : asL d S = some ds) (r : DR K cl F φ d v) (l : d.lt S.len) : ∃ a vs, v = .ref a ∧ SqL K H a vs ∧ DRA K cl F φ ds vs ∧ ∀ x ∈ ds, x.lt S.len := by
  cases d with
  | p x =>
    cases x <;> try (cases e; done)
    rename_i ps
    cases e
    cases (show Rp K cl F (.lst ps) v from r) with
    | lst q t => exact ⟨_, _, rfl, SqL.mono s.le q, t.dra, lt_map⟩
  | ref n =>
    unfold asL at e
    dsimp only at e
    cases q : S.os[n]? with
    | none => rw [q] at e; cases e
    | some o =>
      rw [q] at e
      cases o <;> try (cases e; done)
      rename_i ds'
      cases e
      obtain ⟨vs, ev, rv⟩ := (s.ob n _ q).2
      exact ⟨_, vs, r, .inl (.inl ev), rv, s.wf n _ q⟩
theorem asQ_ok (s : Sim K cl S B F φ H) {d : D} {ds : List D} {v : V} (e : asQ d S = some ds) (r : DR K cl F φ d v) (l : d.lt S.len) : ∃ a vs, v = .ref a ∧ (SqL K H a vs ∨ SqT K H a vs) ∧ DRA K cl F φ ds vs ∧ ∀ x ∈ ds, x.lt S.len := by
  cases d with
  | p x =>
    cases x <;> try (cases e; done)
    · rename_i ps
      cases e
      cases (show Rp K cl F (.tup ps) v from r) with
      | tup q t => exact ⟨_, _, rfl, .inr (SqT.mono s.le q), t.dra, lt_map⟩
    · rename_i ps
      cases e
      cases (show Rp K cl F (.lst ps) v from r) with
      | lst q t => exact ⟨_, _, rfl, .inl (SqL.mono s.le q), t.dra, lt_map⟩
  | ref n =>
    obtain ⟨a, vs, h1, h2, h3⟩ := asL_ok s (d := .ref n) e r l
    exact ⟨a, vs, h1, .inl h2, h3⟩
end

/-! ### displays, calls -/
def dTup (m : MA) : ME := fun σ S => bnd (m σ S) fun ds S1 => newT ds S1
def dLst (live : Bool) (m : MA) : ME := fun σ S => bnd (m σ S) fun ds S1 => newL live ds S1
def fldsOf (d : D) (S : SH) : Option (Nat × List (Str × D)) := match d with
  | .p (.ins c fs) => some (c, fs.map fun p => (p.1, .p p.2))
  | .ref n => match S.os[n]? with | some (.ins c fs) => some (c, fs) | _ => none
  | _ => none
def dFld (cs : List Nat) (f : Str) (d : D) (S : SH) : Option (D × SH) := match fldsOf d S with
  | some (c, fs) => if cs.contains c = true then (match fs.lookup f with | some x => some (x, S) | none => none) else none
  | none => none
def dMeth (c : Nat) (nm : Str) (f : MF) (o : ME) (a : MA) : ME := fun σ S => bnd (o σ S) fun d S1 => match fldsOf d S1 with
  | some (c', fs) => if c' = c ∧ fs.lookup nm = none then bnd (a σ S1) fun xs S2 => f (d :: xs) S2 else none
  | none => none
/-- C(..) -/
def dMake (live : Bool) (c : Nat) (init : MF) (a : MA) : ME := fun σ S => bnd (a σ S) fun xs S1 =>
  if live = true then bnd (init (.ref S1.len :: xs) (S1.push (.ins c []))) fun d S2 => match d with | .p .non => some (.ref S1.len, S2) | _ => none
  else bnd (init (.ref S1.len :: xs) ⟨S1.len, S1.os ++ [.ins c []]⟩) fun d S2 => match d with
    | .p .non => match outD S1.len S2 (.ref S1.len) with | some d' => some (d', cutS S1 S2) | none => none
    | _ => none
/-- o.f = v -/
def putFD (f : Str) (v : D) : List (Str × D) → List (Str × D)
  | [] => [(f, v)]
  | (g, x) :: r => if g = f then (g, v) :: r else (g, x) :: putFD f v r
def okRef (S : SH) (n : Nat) : D → Bool
  | .p _ => true
  | .ref _ => decide (S.b ≤ n)
@[simp] theorem okRef_p (S : SH) (n : Nat) (x : P) : okRef S n (.p x) = true := id rfl
def setFld (cs : List Nat) (f : Str) (o v : D) (S : SH) : Option SH := match o with
  | .ref n => match S.os[n]? with
    | some (.ins c fs) => if cs.contains c = true ∧ fs.length < 1000 ∧ okRef S n v = true then some (S.put n (.ins c (putFD f v fs))) else none
    | _ => none
  | _ => none
def dSetF (cs : List Nat) (f : Str) (o v : ME) : MS := fun σ S => bnd (v σ S) fun y S1 => bnd (o σ S1) fun x S2 => match setFld cs f x y S2 with | some S3 => some (.nx σ, S3) | none => none

section
variable {X : Cx} {cl : Nat → Addr} {es : List Expr} {e o value : Expr} {pos pos' : Pos} {mr : MA} {me mo mv : ME}
theorem k_tup {x1} (h : PA X es (LA X.K cl mr)) : PE X (.Tuple es x1 pos) (LE X.K cl (dTup mr)) := by
  refine (pe_tup h).imp fun σ H Q q => ?_
  obtain ⟨σd, S, B, F, φ, s, rs, o⟩ := q
  obtain ⟨ds, S1, e, o⟩ := okE_bnd o
  exact LA.then_ s rs e fun F1 φ1 H1 vs s1 x1 rs1 dr l => newT_ok (o.ext x1) s1 dr
theorem k_lst {live : Bool} (h : PA X es (LA X.K cl mr)) : PE X (.List es pos) (LE X.K cl (dLst live mr)) := by
  refine (pe_lst h).imp fun σ H Q q => ?_
  obtain ⟨σd, S, B, F, φ, s, rs, o⟩ := q
  obtain ⟨ds, S1, e, o⟩ := okE_bnd o
  exact LA.then_ s rs e fun F1 φ1 H1 vs s1 x1 rs1 dr l => newL_ok1 (o.ext x1) s1 dr l
theorem lookup_drk {K : PySem.W.Frag} {F : Hp} {φ : Nat → Addr} {f : Str} : ∀ {fs : List (Str × D)} {gs : List (Str × V)}, DRK K cl F φ fs gs → (fs.lookup f = none → gs.lookup f = none) ∧ ∀ x, fs.lookup f = some x → ∃ v, gs.lookup f = some v ∧ DR K cl F φ x v
  | _, _, .nil => ⟨fun _ => rfl, fun x h => by cases h⟩
  | (k, x) :: fs, (k', v) :: gs, .cons r t => by
    obtain ⟨rfl, r⟩ := r
    obtain ⟨i1, i2⟩ := lookup_drk (f := f) t
    rw [List.lookup_cons, List.lookup_cons]
    cases hk : f == k with
    | true => exact ⟨fun z => by simp at z, fun y hy => by simp at hy; subst hy; exact ⟨v, by simp, r⟩⟩
    | false => exact ⟨fun z => by simpa using i1 (by simpa using z), fun y hy => by simpa using i2 y (by simpa using hy)⟩
theorem RpF.drk {K : PySem.W.Frag} {F : Hp} {φ : Nat → Addr} : ∀ {fs : List (Str × P)} {gs : List (Str × V)}, RpF K cl F fs gs → DRK K cl F φ (fs.map fun p => (p.1, D.p p.2)) gs
  | _, _, .nil => .nil
  | _, _, .cons a b => .cons ⟨rfl, a⟩ (RpF.drk b)
theorem flds_ok {K : PySem.W.Frag} {S : SH} {B : List Nat} {F : Hp} {φ : Nat → Addr} {H : Hp} (s : Sim K cl S B F φ H) {d : D} {c : Nat} {fs : List (Str × D)} {v : V} (e : fldsOf d S = some (c, fs)) (r : DR K cl F φ d v) : ∃ a dx gs, v = .ref a ∧ H a = some (.ins (cl c) dx gs) ∧ DRK K cl F φ fs gs ∧ ∀ x ∈ fs.map (·.2), x.lt S.len := by
  cases d with
  | p x =>
    cases x <;> try (cases e; done)
    rename_i c' fs'
    cases e
    cases (show Rp K cl F (.ins c fs') v from r) with
    | ins q t => exact ⟨_, _, _, rfl, s.le _ _ q, t.drk, fun x hx => by
        obtain ⟨p, hp, rfl⟩ := List.mem_map.mp hx
        obtain ⟨p', hp', rfl⟩ := List.mem_map.mp hp
        trivial⟩
  | ref n =>
    unfold fldsOf at e
    dsimp only at e
    cases q : S.os[n]? with
    | none => rw [q] at e; cases e
    | some o =>
      rw [q] at e
      cases o <;> try (cases e; done)
      rename_i c' fs'
      cases e
      obtain ⟨dx, gs, ev, rv⟩ := (s.ob n _ q).2
      exact ⟨_, dx, gs, r, ev, rv, s.wf n _ q⟩
theorem k_fld {f : Str} {cs : List Nat} (hc : ∀ c ∈ cs, Cls X.K (cl c) ∧ NoAttr X.K (cl c) f) (he : PE X e (LE X.K cl me)) (hb : attributeBase e f X.env (eval e X.env) = eval e X.env := by rfl) : PE X (.Attribute e f pos) (LE X.K cl (dUn (dFld cs f) me)) := by
  refine (pe_fld he hb).imp fun σ H Q q => ?_
  obtain ⟨σd, S, B, F, φ, s, rs, o⟩ := q
  obtain ⟨d, S1, e, o⟩ := okE_bnd o
  refine LE.then_ s rs e fun F1 φ1 H1 x s1 x1 rs1 dr l => ?_
  have o := o.ext x1
  unfold dFld at o
  cases e1 : fldsOf d S1 with
  | none => rw [e1] at o; obtain ⟨_, _, z, _⟩ := o; cases z
  | some p =>
    obtain ⟨c, fs⟩ := p
    rw [e1] at o
    obtain ⟨a, dx, gs, rfl, ha, rf, lf⟩ := flds_ok s1 e1 dr
    dsimp only at o
    by_cases hm : cs.contains c = true
    · rw [if_pos hm] at o
      cases e2 : fs.lookup f with
      | none => rw [e2] at o; obtain ⟨_, _, z, _⟩ := o; cases z
      | some y =>
        rw [e2] at o
        obtain ⟨v, hv, rv⟩ := (lookup_drk rf).2 y e2
        obtain ⟨h1, h2⟩ := hc c (by simpa using hm)
        exact ⟨a, cl c, dx, gs, v, rfl, ha, h1, h2, hv, o.fin0 rfl s1 rv (lf y (by
          exact List.mem_map.mpr ⟨_, PySem.mem_of_lookup e2, rfl⟩))⟩
    · rw [if_neg hm] at o; obtain ⟨_, _, z, _⟩ := o; cases z
end
section
variable {K : PySem.W.Frag} {cl : Nat → Addr} {S S' S1 S2 : SH} {B : List Nat} {F F' F1 F2 H H' H1 H2 : Hp} {φ φ' φ1 φ2 : Nat → Addr}
theorem okRef_b {n : Nat} {d : D} (h : okRef S n d = true) : S.b ≤ n ∨ ∀ k, d.lt k := by
  cases d with
  | p x => exact .inr fun _ => trivial
  | ref m => exact .inl (of_decide_eq_true h)
/-- the object at n may hold what o holds: what it held, data, or places where it is of this def -/
theorem putGen {n : Nat} {o : Ob} {x : HO} {u0 : Ob} (s : Sim K cl S B F φ H) (q : S.os[n]? = some u0) (he : ∀ y ∈ o.ds, (∀ k, y.lt k) ∨ y ∈ u0.ds ∨ (S.b ≤ n ∧ y.lt S.len)) (ho : OR K cl F φ (some x) o) :
    Sim K cl (S.put n o) B F φ (upd H (φ n) x) ∧ Ext S F φ H (S.put n o) F φ (upd H (φ n) x) := by
  have hn : n < S.len := (List.getElem?_eq_some_iff.mp q).1
  have wf := s.wf n _ q
  have lt1 : o.lt S.len := fun y hy => by
    rcases he y hy with h | h | h
    · exact h _
    · exact wf y h
    · exact h.2
  have hlen : (S.put n o).len = S.len := by show (S.os.set n o).length = _; simp
  have fn := (s.ob n _ q).1
  have get : ∀ (m : Nat) (u : Ob), (S.put n o).os[m]? = some u → (m ≠ n ∧ S.os[m]? = some u) ∨ (m = n ∧ u = o) := fun m u e => by
    have e : (S.os.set n o)[m]? = some u := e
    by_cases h : n = m
    · subst h
      rw [List.getElem?_set_self hn] at e
      cases e
      exact .inr ⟨rfl, rfl⟩
    · rw [List.getElem?_set_ne h] at e; exact .inl ⟨Ne.symm h, e⟩
  have ne : ∀ m, m < S.len → m ≠ n → φ m ≠ φ n := fun m hm h e => h (s.inj m n hm hn e)
  have all : Sim K cl (S.put n o) B F φ (upd H (φ n) x) := by
    refine ⟨fun a u e => ?_, fun m u e => ?_, fun a b h1 h2 => ?_, fun m u e => ?_, fun b hb' => ⟨(s.bs b hb').1, fun m u e h' => ?_⟩, by rw [hlen]; exact s.bl⟩
    · rw [upd_ne (ne_of_none e fn)]; exact s.le a u e
    · rcases get m u e with ⟨h, e⟩ | ⟨rfl, rfl⟩
      · rw [upd_ne (ne m (List.getElem?_eq_some_iff.mp e).1 h)]; exact s.ob m u e
      · rw [upd_same]; exact ⟨fn, ho⟩
    · exact s.inj a b (by omega) (by omega)
    · rw [hlen]
      rcases get m u e with ⟨h, e⟩ | ⟨rfl, rfl⟩
      · exact s.wf m u e
      · exact lt1
    · rcases get m u e with ⟨h1, e⟩ | ⟨rfl, rfl⟩
      · exact (s.bs b hb').2 m u e h'
      · intro y hy
        rcases he y hy with h | h | h
        · exact h b
        · exact (s.bs b hb').2 m _ q h' y h
        · have := (s.bs b hb').1; omega
  refine ⟨all, ⟨Same.refl _, Nat.le_of_eq hlen.symm, rfl, fun _ _ => rfl, fun m h1 h2 => by omega, fun a u e h => ?_, fun m hm => all.ne0 (by omega), fun _ _ _ h _ => h⟩⟩
  rw [upd_ne (fun z => h n hn z.symm)]; exact e
end
end Pv
namespace Pv
open PySem PySem.Spec PyProof.Rows L2

section
variable {X : Cx} {cl : Nat → Addr} {CX : CXT} {es : List Expr} {e o value : Expr} {pos pos' p apos : Pos} {mr : MA} {me mo mv : ME} {k : Nat} {f C : Addr} {fd : FuncData} {ps : List Str} {m : MF} {E : XK} {x nm : Str}
theorem k_call (F : FnOk X.prog X.w X.K X.mg X.base CX k f fd ps (spOf X.K cl m)) (hr : Room k X.A) (hg : Gl X x) (hm : X.mg x = some (.ref f)) (hk : PySem.W.keepIn X.K (.ref f) = true) (hb : Binds X.K fd ps []) (hx : Passes CX X E)
    (ha : PA X (e :: es) (LA X.K cl mr)) (hdb : (x == ("__debug__" : Str)) = false := by decide) (he : starEach (e :: es) X.env = (false, eval e X.env) :: starEach es X.env := by rfl) (hpl : (backTo pos (starEach es X.env)).any (·.1) = false := by rfl) :
    PE X (.Call (.Name x p) (e :: es) [] pos) (LE X.K cl (dCall m mr)) := by
  refine (pe_call F hr hg hm hk hb .nil hx ha hdb he hpl).imp fun σ H Q q => ?_
  refine e_call (r := fun vs H1 Q => spOf X.K cl m (vs ++ []) H1 Q E) (fun S B F φ H ds xs Q s dr l o => ?_) q
  show spOf X.K cl m (xs ++ []) H Q E
  rw [List.append_nil]
  exact ⟨ds, S, B, F, φ, s, dr, l, o⟩
theorem k_call0 (F : FnOk X.prog X.w X.K X.mg X.base CX k f fd ps (spOf X.K cl m)) (hr : Room k X.A) (hg : Gl X x) (hm : X.mg x = some (.ref f)) (hk : PySem.W.keepIn X.K (.ref f) = true) (hb : Binds X.K fd ps []) (hx : Passes CX X E)
    (hdb : (x == ("__debug__" : Str)) = false := by decide) : PE X (.Call (.Name x p) [] [] pos) (LE X.K cl (dCall m dNil)) := by
  refine (pe_call0 F hr hg hm hk hb .nil hx hdb).imp fun σ H Q q => ?_
  obtain ⟨σd, S, B, F, φ, s, rs, o⟩ := q
  exact ⟨[], S, B, F, φ, s, .nil, fun _ z => absurd z (by simp), o⟩
theorem e_meth {c : Nat} {σ : L2.St} {H : Hp} {Q : VK} (hx : C = cl c) (q : LE X.K cl (dMeth c nm m mo mr) σ H Q) : tMeth C nm (spOf X.K cl m) [] E (LE X.K cl mo) (LA X.K cl mr) σ H Q := by
  obtain ⟨σd, S, B, F, φ, s, rs, o⟩ := q
  obtain ⟨d, S1, e, o⟩ := okE_bnd o
  refine LE.then_ s rs e fun F1 φ1 H1 x s1 x1 rs1 dr1 l1 => ?_
  cases e1 : fldsOf d S1 with
  | none => rw [e1] at o; obtain ⟨_, _, z, _⟩ := o; cases z
  | some p =>
    obtain ⟨c', fs⟩ := p
    rw [e1] at o
    obtain ⟨a, dx, gs, rfl, ha, rf, lf⟩ := flds_ok s1 e1 dr1
    dsimp only at o
    by_cases hc : c' = c ∧ fs.lookup nm = none
    · rw [if_pos hc] at o
      obtain ⟨hc1, hn⟩ := hc
      obtain ⟨xs, S2, em, o2⟩ := okE_bnd o
      refine ⟨a, dx, gs, rfl, by rw [hx, ← hc1]; exact ha, (lookup_drk rf).1 hn, ?_⟩
      refine LA.then_ s1 rs1 em fun F2 φ2 H2 vs s2 x2 rs2 dr2 l2 => ?_
      rw [List.append_nil]
      refine ⟨d :: xs, S2, B, F2, φ2, s2, .cons (x2.dr l1 dr1) dr2, fun y hy => ?_, o2.ext (x1.trans x2)⟩
      rcases List.mem_cons.mp hy with rfl | hy
      · exact x2.lt l1
      · exact l2 y hy
    · rw [if_neg hc] at o; obtain ⟨_, _, z, _⟩ := o; cases z
theorem k_meth {c : Nat} {pl : Sem Bool} (he : PE X o (LE X.K cl mo)) (cc : Cls X.K C) (hm : Meth X.K C nm f) (F : FnOk X.prog X.w X.K X.mg X.base CX k f fd ps (spOf X.K cl m)) (hr : Room k X.A) (hb : Binds X.K fd ps []) (hx : Passes CX X E) (ha : PA X (e :: es) (LA X.K cl mr)) (hcl : C = cl c := by rfl)
    (hst : starEach (e :: es) X.env = (false, eval e X.env) :: starEach es X.env := by rfl) (hpl : (backTo pos (starEach es X.env)).any (·.1) = false := by rfl)
    (ht : eval (.Call (.Attribute o nm apos) (e :: es) [] pos) X.env = (do
      let ov ← eval o X.env
      standAt apos.atName
      let (f, first) ← holding [ov] (getMethod ov nm pl)
      callWith pos f first (backTo pos (starEach (e :: es) X.env)) (backToKw pos (keywordEach [] X.env))) := by rfl) :
    PE X (.Call (.Attribute o nm apos) (e :: es) [] pos) (LE X.K cl (dMeth c nm m mo mr)) :=
  (pe_meth (pl := pl) he cc hm F hr hb .nil hx ha hst hpl ht).imp fun _ _ _ q => e_meth hcl q
theorem k_meth0 {c : Nat} {pl : Sem Bool} (he : PE X o (LE X.K cl mo)) (cc : Cls X.K C) (hm : Meth X.K C nm f) (F : FnOk X.prog X.w X.K X.mg X.base CX k f fd ps (spOf X.K cl m)) (hr : Room k X.A) (hb : Binds X.K fd ps []) (hx : Passes CX X E) (hcl : C = cl c := by rfl)
    (ht : eval (.Call (.Attribute o nm apos) [] [] pos) X.env = (do
      let ov ← eval o X.env
      standAt apos.atName
      let (f, first) ← holding [ov] (getMethod ov nm pl)
      callWith pos f first (backTo pos (starEach [] X.env)) (backToKw pos (keywordEach [] X.env))) := by rfl) :
    PE X (.Call (.Attribute o nm apos) [] [] pos) (LE X.K cl (dMeth c nm m mo dNil)) := by
  refine (pe_meth0 (pl := pl) he cc hm F hr hb .nil hx ht).imp fun σ H Q q => ?_
  have z := e_meth (E := E) hcl q
  unfold tMeth at z ⊢
  obtain ⟨σd, S, B, F, φ, s, rs, d, S1, e, k⟩ := z
  refine ⟨σd, S, B, F, φ, s, rs, d, S1, e, fun F1 φ1 H1 u s1 x1 dr l => ?_⟩
  obtain ⟨a, dx, fs, h1, h2, h3, h4⟩ := k F1 φ1 H1 u s1 x1 dr l
  refine ⟨a, dx, fs, h1, h2, h3, ?_⟩
  obtain ⟨σd', S', B', F', φ', s', rs', d', S1', e', k'⟩ := h4
  cases e'
  exact k' F' φ' H1 [] s' (.refl s') .nil fun _ z => absurd z (by simp)
theorem e_make {live : Bool} {c : Nat} {σ : L2.St} {H : Hp} {Q : VK} (hx : C = cl c) (q : LE X.K cl (dMake live c m mr) σ H Q) : tMake C (spOf X.K cl m) [] E (LA X.K cl mr) σ H Q := by
  obtain ⟨σd, S, B, F, φ, s, rs, o⟩ := q
  obtain ⟨ds, S1, e, o⟩ := okE_bnd o
  refine LA.then_ s rs e fun F1 φ1 H1 vs s1 x1 rs1 dr l => ?_
  intro a dx na ndx nad
  rw [List.append_nil]
  have o := o.ext x1
  have sm : Same H1 (upd (upd H1 dx (.own a)) a (.ins C dx [])) := Same.new (Same.new (Same.refl _) ndx) (by rw [upd_ne (Ne.symm nad)]; exact na)
  have none_lt : (Ob.ins c []).lt S1.len := fun d hd => by simp [Ob.ds] at hd
  have hor : OR X.K cl F1 φ1 (upd (upd H1 dx (.own a)) a (.ins C dx []) a) (.ins c []) := ⟨dx, [], by rw [upd_same, hx], .nil⟩
  cases live with
  | true =>
    rw [if_pos rfl] at o
    obtain ⟨s2, x2⟩ := s1.push sm na hor none_lt
    obtain ⟨d, S2, e2, o⟩ := okE_bnd o
    refine ⟨.ref S1.len :: ds, _, B, F1, _, s2, .cons (show V.ref a = V.ref (if S1.len = S1.len then a else φ1 S1.len) by rw [if_pos rfl]) (x2.dra l dr), fun d hd => ?_, ⟨d, S2, e2, fun F3 φ3 H3 u s3 x3 dr3 l3 => ?_⟩⟩
    · rcases List.mem_cons.mp hd with rfl | hd
      · show S1.len < (S1.os ++ [_]).length
        simp
      · exact (l d hd).mono x2.len
    · cases d with
      | ref n => obtain ⟨_, _, z, _⟩ := o; cases z
      | p y =>
        cases y <;> first | (obtain ⟨_, _, z, _⟩ := o; cases z; done) | skip
        cases (show Rp X.K cl F3 .non u from dr3)
        refine ⟨rfl, o.fin rfl s3 (x2.trans x3) ?_ (Nat.lt_of_lt_of_le (show S1.len < (S1.os ++ [_]).length by simp) x3.len)⟩
        show V.ref a = V.ref (φ3 S1.len)
        rw [x3.phi S1.len (show S1.len < (S1.os ++ [_]).length by simp)]
        show V.ref a = V.ref (if S1.len = S1.len then a else φ1 S1.len)
        rw [if_pos rfl]
  | false =>
    rw [if_neg Bool.false_ne_true] at o
    obtain ⟨s2, x2⟩ := s1.begin.push sm na hor none_lt
    obtain ⟨d, S2, e2, o⟩ := okE_bnd o
    refine ⟨.ref S1.len :: ds, _, S1.len :: B, F1, _, s2, .cons (show V.ref a = V.ref (if S1.len = S1.len then a else φ1 S1.len) by rw [if_pos rfl]) (x2.dra l dr), fun d hd => ?_, ⟨d, S2, e2, fun F3 φ3 H3 u s3 x3 dr3 l3 => ?_⟩⟩
    · rcases List.mem_cons.mp hd with rfl | hd
      · show S1.len < (S1.os ++ [_]).length
        simp
      · exact (l d hd).mono x2.len
    · cases d with
      | ref n => obtain ⟨_, _, z, _⟩ := o; cases z
      | p y =>
        cases y <;> first | (obtain ⟨_, _, z, _⟩ := o; cases z; done) | skip
        cases (show Rp X.K cl F3 .non u from dr3)
        refine ⟨rfl, ?_⟩
        dsimp only at o
        cases ed : outD S1.len S2 (.ref S1.len) with
        | none => rw [ed] at o; obtain ⟨_, _, z, _⟩ := o; cases z
        | some d' =>
          rw [ed] at o
          have x4 := x2.trans x3
          have hl : S1.len < S2.len := Nat.lt_of_lt_of_le (show S1.len < (S1.os ++ [_]).length by simp) x3.len
          obtain ⟨h1, h2⟩ := outD_ok (S := S1) s3 x4.len (v := .ref (φ3 S1.len)) ed rfl hl
          have ea : φ3 S1.len = a := by
            rw [x3.phi S1.len (show S1.len < (S1.os ++ [_]).length by simp)]
            exact if_pos rfl
          rw [ea] at h1
          exact o.fin rfl (Sim.end_ s1 s3 x4.len) (Ext.end_ s3 x4) h1 h2
theorem k_make {live : Bool} {c : Nat} (M : Mk X.K C f) (F : FnOk X.prog X.w X.K X.mg X.base CX k f fd ps (spOf X.K cl m)) (hr : Room (k + 1) X.A) (hg : Gl X x) (hm : X.mg x = some (.ref C)) (hb : Binds X.K fd ps []) (hx : Passes CX X E)
    (ha : PA X (e :: es) (LA X.K cl mr)) (hcl : C = cl c := by rfl) (hdb : (x == ("__debug__" : Str)) = false := by decide) (he : starEach (e :: es) X.env = (false, eval e X.env) :: starEach es X.env := by rfl) (hpl : (backTo pos (starEach es X.env)).any (·.1) = false := by rfl) :
    PE X (.Call (.Name x p) (e :: es) [] pos) (LE X.K cl (dMake live c m mr)) :=
  (pe_make M F hr hg hm hb .nil hx ha hdb he hpl).imp fun _ _ _ q => e_make hcl q
theorem k_make0 {live : Bool} {c : Nat} (M : Mk X.K C f) (F : FnOk X.prog X.w X.K X.mg X.base CX k f fd ps (spOf X.K cl m)) (hr : Room (k + 1) X.A) (hg : Gl X x) (hm : X.mg x = some (.ref C)) (hb : Binds X.K fd ps []) (hx : Passes CX X E)
    (hcl : C = cl c := by rfl) (hdb : (x == ("__debug__" : Str)) = false := by decide) :
    PE X (.Call (.Name x p) [] [] pos) (LE X.K cl (dMake live c m dNil)) := by
  refine (pe_make0 M F hr hg hm hb .nil hx hdb).imp fun σ H Q q => ?_
  have z := e_make (E := E) hcl q
  obtain ⟨σd', S', B', F', φ', s', rs', d', S1', e', k'⟩ := z
  cases e'
  exact k' F' φ' H [] s' (.refl s') .nil fun _ z => absurd z (by simp)
theorem putFD_drk {K : PySem.W.Frag} {F : Hp} {φ : Nat → Addr} {f : Str} {d : D} {v : V} (r : DR K cl F φ d v) : ∀ {fs : List (Str × D)} {gs : List (Str × V)}, DRK K cl F φ fs gs → DRK K cl F φ (putFD f d fs) (putF f v gs)
  | _, _, .nil => .cons ⟨rfl, r⟩ .nil
  | (k, x) :: fs, (k', u) :: gs, .cons q t => by
    obtain ⟨rfl, q⟩ := q
    unfold putFD putF
    dsimp only
    by_cases h : k = f
    · rw [if_pos h, if_pos h]; exact .cons ⟨rfl, r⟩ t
    · rw [if_neg h, if_neg h]; exact .cons ⟨rfl, q⟩ (putFD_drk r t)
theorem mem_putFD {f : Str} {d : D} : ∀ {fs : List (Str × D)} {y : D}, y ∈ (putFD f d fs).map (·.2) → y = d ∨ y ∈ fs.map (·.2)
  | [], y, h => by simp [putFD] at h; exact .inl h
  | (k, x) :: r, y, h => by
    unfold putFD at h
    by_cases hk : k = f
    · rw [if_pos hk] at h
      simp only [List.map_cons, List.mem_cons] at h ⊢
      rcases h with h | h
      · exact .inl h
      · exact .inr (.inr h)
    · rw [if_neg hk] at h
      simp only [List.map_cons, List.mem_cons] at h ⊢
      rcases h with h | h
      · exact .inr (.inl h)
      · rcases mem_putFD h with h | h
        · exact .inl h
        · exact .inr (.inr h)
theorem isP_lt {d : D} {k : Nat} (h : (isP d).isSome = true) : d.lt k := by
  cases d with
  | p x => trivial
  | ref n => cases h
theorem DRK.length {K : PySem.W.Frag} {F : Hp} {φ : Nat → Addr} {κ : Type} {fs : List (κ × D)} {gs : List (κ × V)} (h : DRK K cl F φ fs gs) : fs.length = gs.length := Paired.length h
theorem setFld_ok {K : PySem.W.Frag} {cs : List Nat} {f : Str} {d v : D} {S S' : SH} {B : List Nat} {F : Hp} {φ : Nat → Addr} {H : Hp} {x y : V} (e : setFld cs f d v S = some S') (s : Sim K cl S B F φ H) (r : DR K cl F φ d x) (rv : DR K cl F φ v y) (lv : v.lt S.len) :
    ∃ a c dx gs, x = .ref a ∧ H a = some (.ins (cl c) dx gs) ∧ c ∈ cs ∧ gs.length < 1000 ∧ Sim K cl S' B F φ (upd H a (.ins (cl c) dx (putF f y gs))) ∧ Ext S F φ H S' F φ (upd H a (.ins (cl c) dx (putF f y gs))) := by
  cases d with
  | p _ => cases e
  | ref n =>
    unfold setFld at e
    dsimp only at e
    cases q : S.os[n]? with
    | none => rw [q] at e; cases e
    | some ob =>
      rw [q] at e
      cases ob <;> try (cases e; done)
      rename_i c fs
      dsimp only at e
      obtain ⟨dx, gs, ev, rf⟩ := (s.ob n _ q).2
      have hn : n < S.len := (List.getElem?_eq_some_iff.mp q).1
      have hl := rf.length
      have hor : OR K cl F φ (some (.ins (cl c) dx (putF f y gs))) (.ins c (putFD f v fs)) := ⟨dx, _, rfl, putFD_drk rv rf⟩
      have r' : x = .ref (φ n) := r
      by_cases h1 : cs.contains c = true ∧ fs.length < 1000 ∧ okRef S n v = true
      · rw [if_pos h1] at e
        cases e
        obtain ⟨h1, h2, h3⟩ := h1
        obtain ⟨s2, x2⟩ := putGen (o := .ins c (putFD f v fs)) s q (fun z hz => by
          rcases mem_putFD hz with rfl | hz
          · rcases okRef_b h3 with h | h
            · exact .inr (.inr ⟨h, lv⟩)
            · exact .inl h
          · exact .inr (.inl hz)) hor
        exact ⟨φ n, c, dx, gs, r', ev, by simpa using h1, by omega, s2, x2⟩
      · rw [if_neg h1] at e; cases e
theorem s_fld {f : Str} {cs : List Nat} (hc : ∀ c ∈ cs, Cls X.K (cl c) ∧ NoAttr X.K (cl c) f) (ha : PE X o (LE X.K cl mo)) (hv : PE X value (LE X.K cl mv)) (hs : swapsWith value (some (.Attribute o f pos')) pos.line X.env = pure false := by rfl) :
    PS X (.Assign [.Attribute o f pos'] value pos) (LS X.K cl (dSetF cs f mo mv)) := by
  refine (ps_fld ha hv hs).imp fun Z σ H q => ?_
  obtain ⟨σd, S, B, F, φ, s, rs, o⟩ := q
  obtain ⟨y, S1, e, o⟩ := okS_bnd o
  obtain ⟨d, S2, e2, o⟩ := okS_bnd o
  refine LE.then_ s rs e fun F1 φ1 H1 u s1 x1 rs1 dr1 l1 => LE.then_ s1 rs1 e2 fun F2 φ2 H2 v s2 x2 rs2 dr2 l2 => ?_
  cases e3 : setFld cs f d y S2 with
  | none => rw [e3] at o; obtain ⟨_, _, z, _⟩ := o; cases z
  | some S3 =>
    rw [e3] at o
    obtain ⟨_, _, z, k⟩ := o
    cases z
    obtain ⟨a, c, dx, gs, rfl, ha, hm, hz, s3, x3⟩ := setFld_ok e3 s2 dr2 (x2.dr l1 dr1) (x2.lt l1)
    obtain ⟨h1, h2⟩ := hc c hm
    exact ⟨a, cl c, dx, gs, rfl, ha, h1, h2, hz, k _ _ _ σ s3 ((x1.trans x2).trans x3) (x3.rs rs2)⟩
/-- o.f op= v -/
def dAugF (cs : List Nat) (f : Str) (op : D → D → SH → Option (D × SH)) (o v : ME) : MS := fun σ S => bnd (o σ S) fun x S1 => match fldsOf x S1 with
  | some (c, fs) => if cs.contains c = true then (match fs.lookup f with
    | some old => bnd (v σ S1) fun y S3 => bnd (op old y S3) fun z S4 => match setFld [c] f x z S4 with | some S5 => some (.nx σ, S5) | none => none
    | none => none) else none
  | none => none
theorem s_augF {f : Str} {cs : List Nat} {op : Operator} {fo : D → D → SH → Option (D × SH)} {rd : V → V → Hp → VK → Prop} (hd : OpD X.K cl fo rd) (ho : InOp X op rd) (hc : ∀ c ∈ cs, Cls X.K (cl c) ∧ NoAttr X.K (cl c) f) (ha : PE X o (LE X.K cl mo)) (hv : PE X value (LE X.K cl mv)) :
    PS X (.AugAssign (.Attribute o f pos') op value pos) (LS X.K cl (dAugF cs f fo mo mv)) := by
  refine (ps_fldaug ha hv ho).imp fun Z σ H q => ?_
  obtain ⟨σd, S, B, F, φ, s, rs, o0⟩ := q
  obtain ⟨d, S1, e, o1⟩ := okS_bnd o0
  refine LE.then_ s rs e fun F1 φ1 H1 u s1 x1 rs1 dr1 l1 => ?_
  cases e5 : fldsOf d S1 with
  | none => rw [e5] at o1; obtain ⟨_, _, z, _⟩ := o1; cases z
  | some p =>
    obtain ⟨c, fs⟩ := p
    rw [e5] at o1
    obtain ⟨a, dx, gs, eu, ha, rf, lf⟩ := flds_ok s1 e5 dr1
    dsimp only at o1
    by_cases hm : cs.contains c = true
    · rw [if_pos hm] at o1
      cases e6 : fs.lookup f with
      | none => rw [e6] at o1; obtain ⟨_, _, z, _⟩ := o1; cases z
      | some old =>
        rw [e6] at o1
        dsimp only at o1
        obtain ⟨y, S3, e3, o3⟩ := okS_bnd o1
        obtain ⟨z, S4, e4, o4⟩ := okS_bnd o3
        obtain ⟨v0, hv0, rv0⟩ := (lookup_drk rf).2 _ e6
        have lold : old.lt S1.len := lf _ (List.mem_map.mpr ⟨_, PySem.mem_of_lookup e6, rfl⟩)
        obtain ⟨h1, h2⟩ := hc c (by simpa using hm)
        refine ⟨a, cl c, dx, gs, v0, eu, ha, h1, h2, hv0, ?_⟩
        refine LE.then_ s1 rs1 e3 fun F3 φ3 H3 v s3 x3 rs3 dr3 l3 => ?_
        refine hd S3 B F3 φ3 H3 old y v0 v _ s3 (x3.dr lold rv0) dr3 (x3.lt lold) l3 ⟨z, S4, e4, fun F4 φ4 H4 w s4 x4 dr4 l4 => ?_⟩
        cases e7 : setFld [c] f d z S4 with
        | none => rw [e7] at o4; obtain ⟨_, _, z, _⟩ := o4; cases z
        | some S5 =>
          rw [e7] at o4
          obtain ⟨_, _, z, k⟩ := o4
          cases z
          obtain ⟨a', c', dx', gs', ea, ha', hm', hz', s5, x5⟩ := setFld_ok e7 s4 (x4.dr (x3.lt l1) (x3.dr l1 dr1)) dr4 l4
          have ec : c' = c := by simpa using hm'
          have eaa : a = a' := by rw [eu] at ea; injection ea
          subst ec
          subst eaa
          exact ⟨dx', gs', ha', hz', k _ _ _ σ s5 (((x1.trans x3).trans x4).trans x5) (x5.rs (x4.rs rs3))⟩
    · rw [if_neg hm] at o1; obtain ⟨_, _, z, _⟩ := o1; cases z
end
end Pv
namespace Pv
open PySem PySem.Spec PyProof.Rows L2

/-! ### targets -/
abbrev MG := D → En → SH → Option (En × SH)
abbrev MGs := List D → En → SH → Option (En × SH)
section
variable (K : PySem.W.Frag) (cl : Nat → Addr)
def OkG (vs : List Nat) (σ : L2.St) (S : SH) (B : List Nat) (F : Hp) (φ : Nat → Addr) (H : Hp) (r : Option (En × SH)) (Q : L2.St → Hp → Prop) : Prop :=
  ∃ σ1 S1, r = some (σ1, S1) ∧ ∀ F1 φ1 H1 σ', Sim K cl S1 B F1 φ1 H1 → Ext S F φ H S1 F1 φ1 H1 → RS K cl F1 φ1 S1.len σ1 σ' → (σ'.length = σ.length ∧ ∀ j, j ∉ vs → σ'[j]? = σ[j]?) → Q σ' H1
def LG (vs : List Nat) (g : MG) : TG := fun v σ H Q => ∃ d σd S B F φ, Sim K cl S B F φ H ∧ RS K cl F φ S.len σd σ ∧ DR K cl F φ d v ∧ d.lt S.len ∧ OkG K cl vs σ S B F φ H (g d σd S) Q
def LGs (vs : List Nat) (g : MGs) : TGs := fun us σ H Q => ∃ ds σd S B F φ, Sim K cl S B F φ H ∧ RS K cl F φ S.len σd σ ∧ DRA K cl F φ ds us ∧ (∀ d ∈ ds, d.lt S.len) ∧ OkG K cl vs σ S B F φ H (g ds σd S) Q
end
def gNm (i : Nat) : MG := fun d σ S => some (σ.set i (some d), S)
def gNl : MGs := fun ds σ S => match ds with | [] => some (σ, S) | _ => none
def gCn (g : MG) (gs : MGs) : MGs := fun ds σ S => match ds with | d :: r => bnd (g d σ S) fun σ1 S1 => gs r σ1 S1 | [] => none
def gTp (n : Nat) (gs : MGs) : MG := fun d σ S => match d with | .p (.tup ps) => if ps.length = n then gs (ps.map .p) σ S else none | _ => none
/-- o[i] = v -/
def setIx (o i v : D) (S : SH) : Option SH := match o, i with
  | .ref n, .p (.int k) => match S.os[n]? with
    | some (.lst ds) => match ixN ds.length k with
      | some j => if okRef S n v = true then some (S.put n (.lst (ds.set j v))) else none
      | none => none
    | _ => none
  | _, _ => none
def gSb (o i : ME) : MG := fun d σ S => bnd (o σ S) fun x S1 => bnd (i σ S1) fun y S2 => match setIx x y d S2 with | some S3 => some (σ, S3) | none => none
def dAsg (e : ME) (g : MG) : MS := fun σ S => bnd (e σ S) fun d S1 => bnd (g d σ S1) fun σ2 S2 => some (.nx σ2, S2)

section
variable {K : PySem.W.Frag} {cl : Nat → Addr} {S S' S1 S2 : SH} {B : List Nat} {F F' F1 F2 H H' H1 H2 : Hp} {φ φ' φ1 φ2 : Nat → Addr}
theorem okG_bnd {vs : List Nat} {σ : L2.St} {α : Type} {r : Option (α × SH)} {f : α → SH → Option (En × SH)} {Q : L2.St → Hp → Prop} (h : OkG K cl vs σ S B F φ H (bnd r f) Q) : ∃ a S1, r = some (a, S1) ∧ OkG K cl vs σ S B F φ H (f a S1) Q := by
  cases r with
  | none => obtain ⟨_, _, z, _⟩ := h; cases z
  | some p => exact ⟨p.1, p.2, rfl, h⟩
theorem DRA.set {ds : List D} {vs : List V} {d : D} {v : V} (r : DR K cl F φ d v) : ∀ {ds : List D} {vs : List V} (j : Nat), DRA K cl F φ ds vs → DRA K cl F φ (ds.set j d) (vs.set j v)
  | _, _, _, .nil => .nil
  | _, _, 0, .cons _ t => .cons r t
  | _, _, j + 1, .cons a t => .cons a (DRA.set (ds := ds) (vs := vs) r j t)
theorem DRA.append {ds es : List D} {vs us : List V} (a : DRA K cl F φ ds vs) (b : DRA K cl F φ es us) : DRA K cl F φ (ds ++ es) (vs ++ us) := by
  induction a with
  | nil => exact b
  | cons r t ih => exact .cons r ih
theorem okB_set {n : Nat} {ds : List D} {d : D} {j : Nat} (w : (Ob.lst ds).lt S.len) (l : d.lt S.len) : (Ob.lst (ds.set j d)).lt S.len := fun y hy => by
  rcases List.mem_or_eq_of_mem_set hy with h | h
  · exact w y h
  · rw [h]; exact l
theorem putOk {n : Nat} {o : Ob} {x : HO} {ds : List D} {d : D} (s : Sim K cl S B F φ H) (q : S.os[n]? = some (.lst ds)) (hd : okRef S n d = true) (l : d.lt S.len) (he : ∀ y ∈ o.ds, y = d ∨ y ∈ ds) (ho : OR K cl F φ (some x) o) :
    Sim K cl (S.put n o) B F φ (upd H (φ n) x) ∧ Ext S F φ H (S.put n o) F φ (upd H (φ n) x) :=
  putGen s q (fun y hy => by
    rcases he y hy with rfl | h
    · rcases okRef_b hd with h | h
      · exact .inr (.inr ⟨h, l⟩)
      · exact .inl h
    · exact .inr (.inl h)) ho
theorem setIx_ok {o i v : D} {x y u : V} (e : setIx o i v S = some S') (s : Sim K cl S B F φ H) (ro : DR K cl F φ o x) (ri : DR K cl F φ i y) (rv : DR K cl F φ v u) (lv : v.lt S.len) :
    ∃ p xs k j, x = .ref p ∧ y = .int k ∧ H p = some (.lst xs) ∧ ixN xs.length k = some j ∧ Sim K cl S' B F φ (upd H p (.lst (xs.set j u))) ∧ Ext S F φ H S' F φ (upd H p (.lst (xs.set j u))) := by
  cases o with
  | p _ => cases e
  | ref n =>
    cases i with
    | ref _ => cases e
    | p z =>
      cases z <;> try (cases e; done)
      rename_i k
      unfold setIx at e
      dsimp only at e
      cases q : S.os[n]? with
      | none => rw [q] at e; cases e
      | some ob =>
        rw [q] at e
        cases ob <;> try (cases e; done)
        rename_i ds
        dsimp only at e
        cases hj : ixN ds.length k with
        | none => rw [hj] at e; cases e
        | some j =>
          rw [hj] at e
          dsimp only at e
          by_cases hr : okRef S n v = true
          · rw [if_pos hr] at e
            cases e
            obtain ⟨vs, ev, rvs⟩ := (s.ob n _ q).2
            have hl := rvs.length
            cases (show Rp K cl F (.int k) y from ri)
            obtain ⟨a, b⟩ := putOk (o := .lst (ds.set j v)) (x := .lst (vs.set j u)) s q hr lv (fun y hy => by
              rcases List.mem_or_eq_of_mem_set hy with h | h
              · exact .inr h
              · exact .inl h) ⟨_, rfl, DRA.set (ds := ds) (vs := vs) rv j rvs⟩
            exact ⟨φ n, vs, k, j, ro, rfl, ev, by rw [← hl]; exact hj, a, b⟩
          · rw [if_neg hr] at e; cases e
end
section
variable {X : Cx} {cl : Nat → Addr} {tg e o ix : Expr} {es : List Expr} {pos : Pos} {g : MG} {gs : MGs} {vs us : List Nat} {me mo mi : ME}
theorem g_name {i : Nat} {x : Str} (hN : X.N.Nodup) (hi : X.N[i]? = some x) (hx : Loc X.env.scope x) (hf : X.fn x = true ∨ X.env.scope.names.lookup x = some .local := by first | exact .inl rfl | exact .inr rfl | assumption) : PG X (.Name x pos) (LG X.K cl [i] (gNm i)) := by
  have h := pg_name (pos := pos) hN hi hx hf
  refine ⟨fun pins s σ H v u Q I r q => h.run pins s σ H v u Q I r ?_⟩
  obtain ⟨d, σd, S, B, F, φ, sm, rs, dr, l, σ1, S1, e, k⟩ := q
  cases e
  refine k F φ H _ sm (.refl sm) (rs.set i dr l) ⟨by rw [List.length_set], fun j hj => ?_⟩
  rw [List.getElem?_set_ne]
  rintro rfl
  exact hj (by simp)
theorem gs_nil : PGs X [] (LGs X.K cl [] gNl) := by
  have h := pgs_nil (X := X)
  refine ⟨fun pins s σ H v u Q I r q => h.run pins s σ H v u Q I r ?_⟩
  obtain ⟨ds, σd, S, B, F, φ, sm, rs, dr, l, σ1, S1, e, k⟩ := q
  cases dr with
  | nil => cases e; exact ⟨rfl, k F φ H σ sm (.refl sm) rs ⟨rfl, fun _ _ => rfl⟩⟩
  | cons _ _ => cases e
theorem gs_cons (h1 : PG X e (LG X.K cl vs g)) (h2 : PGs X es (LGs X.K cl us gs)) (hs : (assignEach (e :: es) X.env).map (·.2) = assign e X.env :: (assignEach es X.env).map (·.2) := by rfl) : PGs X (e :: es) (LGs X.K cl (vs ++ us) (gCn g gs)) := by
  have h := pgs_cons h1 h2 hs
  refine ⟨fun pins s σ H v u Q I r q => h.run pins s σ H v u Q I r ?_⟩
  obtain ⟨ds, σd, S, B, F, φ, sm, rs, dr, l, ok⟩ := q
  cases dr with
  | nil => obtain ⟨_, _, z, _⟩ := ok; cases z
  | @cons d v0 ds' vs' r1 r2 =>
    obtain ⟨σ1, S1, e1, ok⟩ := okG_bnd ok
    refine ⟨v0, vs', rfl, d, σd, S, B, F, φ, sm, rs, r1, l d List.mem_cons_self, σ1, S1, e1, fun F1 φ1 H1 σ' s1 x1 rs1 hk => ?_⟩
    obtain ⟨σ2, S2, e2, k2⟩ := ok
    refine ⟨ds', σ1, S1, B, F1, φ1, s1, rs1, x1.dra (fun y hy => l y (List.mem_cons_of_mem _ hy)) r2, fun y hy => x1.lt (l y (List.mem_cons_of_mem _ hy)), σ2, S2, e2, fun F2 φ2 H2 σ'' s2 x2 rs2 hk2 => ?_⟩
    refine k2 F2 φ2 H2 σ'' s2 (x1.trans x2) rs2 ⟨hk2.1.trans hk.1, fun j hj => ?_⟩
    rw [List.mem_append, not_or] at hj
    exact (hk2.2 j hj.2).trans (hk.2 j hj.1)
theorem g_tup {k n : Nat} (hc : X.calm = true) (h : PGs X es (LGs X.K cl vs gs)) (hn : (assignEach es X.env).length = n := by rfl) (hst : (assignEach es X.env).findIdx? (·.1) = none := by rfl) : PG X (.Tuple es k pos) (LG X.K cl vs (gTp n gs)) := by
  have h := pg_tup (k := k) (pos := pos) hc h hn hst
  refine ⟨fun pins s σ H v u Q I r q => h.run pins s σ H v u Q I r ?_⟩
  obtain ⟨d, σd, S, B, F, φ, sm, rs, dr, l, ok⟩ := q
  cases d with
  | ref _ => obtain ⟨_, _, z, _⟩ := ok; cases z
  | p x =>
    cases x <;> try (obtain ⟨_, _, z, _⟩ := ok; cases z; done)
    rename_i ps
    unfold gTp at ok
    dsimp only at ok
    by_cases hp : ps.length = n
    · rw [if_pos hp] at ok
      cases (show Rp X.K cl F (.tup ps) v from dr) with
      | tup q t =>
        have tr : DRA X.K cl F φ (ps.map D.p) _ := t.dra
        have hl := tr.length
        rw [List.length_map] at hl
        exact ⟨_, _, rfl, SqT.mono sm.le q, by rw [← hl]; exact hp, _, σd, S, B, F, φ, sm, rs, tr, lt_map, ok⟩
    · rw [if_neg hp] at ok; obtain ⟨_, _, z, _⟩ := ok; cases z
theorem g_sub (ho : PE X o (LE X.K cl mo)) (hi : PE X ix (LE X.K cl mi))
    (ha : ∀ v, assign (.Subscript o ix pos) X.env v = (do
      let ov ← holding [v] (eval o X.env)
      let iv ← holding [v, ov] (eval ix X.env)
      standAt pos
      holding [v, ov, iv] (setItem ov iv v)
      release [v, ov, iv] []) := by intro _; rfl) : PG X (.Subscript o ix pos) (LG X.K cl [] (gSb mo mi)) := by
  have h := pg_sub ho hi set_list ha
  refine ⟨fun pins s σ H v u Q I r q => h.run pins s σ H v u Q I r ?_⟩
  obtain ⟨d, σd, S, B, F, φ, sm, rs, dr, l, ok⟩ := q
  obtain ⟨a, S1, e1, ok1⟩ := okG_bnd ok
  obtain ⟨b, S2, e2, ok2⟩ := okG_bnd ok1
  refine LE.then_ sm rs e1 fun F1 φ1 H1 x s1 x1 rs1 dr1 l1 => LE.then_ s1 rs1 e2 fun F2 φ2 H2 y s2 x2 rs2 dr2 l2 => ?_
  cases e3 : setIx a b d S2 with
  | none => rw [e3] at ok2; obtain ⟨_, _, z, _⟩ := ok2; cases z
  | some S3 =>
    rw [e3] at ok2
    obtain ⟨_, _, z, k⟩ := ok2
    cases z
    have x12 := x1.trans x2
    obtain ⟨p, xs, k0, j, h1, h2, h3, h4, s5, x5⟩ := setIx_ok e3 s2 (x2.dr l1 dr1) dr2 (x12.dr l dr) (x12.lt l)
    exact ⟨p, xs, k0, j, h1, h2, h3, h4, k _ _ _ σ s5 (x12.trans x5) (x5.rs rs2) ⟨rfl, fun _ _ => rfl⟩⟩
theorem s_asg (he : PE X e (LE X.K cl me)) (hg : PG X tg (LG X.K cl vs g)) (hs : swapsWithSole [tg] e pos.line X.env = pure false := by rfl) (hw : swappedStores [tg] e X.env = pure none := by rfl)
    (h1 : (assignEach [tg] X.env).map (·.2) = [assign tg X.env] := by rfl) : PS X (.Assign [tg] e pos) (LS X.K cl (dAsg me g)) := by
  refine (ps_asg he hg hs hw h1).imp fun Z σ H q => ?_
  obtain ⟨σd, S, B, F, φ, s, rs, o⟩ := q
  obtain ⟨d, S1, e1, o1⟩ := okS_bnd o
  obtain ⟨σ2, S2, e2, o2⟩ := okS_bnd o1
  obtain ⟨_, _, z, k⟩ := o2
  cases z
  exact LE.then_ s rs e1 fun F1 φ1 H1 u s1 x1 rs1 dr l => ⟨d, σd, S1, B, F1, φ1, s1, rs1, dr, l, σ2, S2, e2, fun F2 φ2 H2 σ' s2 x2 rs2 _ => k F2 φ2 H2 σ' s2 (x1.trans x2) rs2⟩
end

/-! ### what is walked -/
structure Src where
  items : List (SH → Option D)
  fin : SH → Bool
abbrev MI := En → SH → Option (Src × SH)
def srcP (ps : List P) : Src := ⟨ps.map fun p _ => some (.p p), fun _ => true⟩
/-- the list at n, its length unchanged -/
def itemR (n len i : Nat) (S : SH) : Option D := match S.os[n]? with
  | some (.lst ds) => if ds.length = len then ds[i]? else none
  | _ => none
def finR (n len : Nat) (S : SH) : Bool := match S.os[n]? with
  | some (.lst ds) => decide (ds.length = len)
  | _ => false
def srcR (n len : Nat) : Src := ⟨(List.range len).map (itemR n len), finR n len⟩
def srcOf (d : D) (S : SH) : Option (Src × SH) := match d with
  | .p (.lst ps) => some (srcP ps, S)
  | .p (.tup ps) => some (srcP ps, S)
  | .ref n => match S.os[n]? with | some (.lst ds) => some (srcR n ds.length, S) | _ => none
  | _ => none
def dIt (m : ME) : MI := fun σ S => bnd (m σ S) srcOf
def srcN (lo : Int) (n : Nat) : Src := ⟨(List.range n).map fun (i : Nat) _ => some (.p (.int (lo + (i : Int)))), fun _ => true⟩
def rng1 (ds : List D) (S : SH) : Option (Src × SH) := match ds with
  | [.p (.int j)] => if -(2 ^ 62) ≤ j ∧ j < 2 ^ 62 then some (srcN 0 j.toNat, S) else none
  | _ => none
def rng2 (ds : List D) (S : SH) : Option (Src × SH) := match ds with
  | [.p (.int i), .p (.int j)] => if -(2 ^ 62) ≤ i ∧ i < 2 ^ 62 ∧ -(2 ^ 62) ≤ j ∧ j < 2 ^ 62 then some (srcN i (j - i).toNat, S) else none
  | _ => none
def dRng1 (m : MA) : MI := fun σ S => bnd (m σ S) rng1
def dRng2 (m : MA) : MI := fun σ S => bnd (m σ S) rng2

section
variable (K : PySem.W.Frag) (cl : Nat → Addr)
def ItD (S1 : SH) (F1 : Hp) (φ1 : Nat → Addr) (J : It) (src : Src) : Prop :=
  ∀ S' B' F' φ' H', Sim K cl S' B' F' φ' H' → Same F1 F' → S1.len ≤ S'.len → (∀ n, n < S1.len → φ' n = φ1 n) → ∀ i : Nat,
    (∀ t d, src.items[i]? = some t → t S' = some d → d.lt S'.len ∧ J.go i H' ∧ ∀ x H2, J.yld i H' x H2 → ∃ F2, Sim K cl S' B' F2 φ' H2 ∧ Ext S' F' φ' H' S' F2 φ' H2 ∧ DR K cl F2 φ' d x) ∧
    (src.items.length ≤ i → src.fin S' = true → J.stop i H')
def LI (m : MI) : TI := fun σ H R => ∃ σd S B F φ, Sim K cl S B F φ H ∧ RS K cl F φ S.len σd σ ∧ ∃ src S1, m σd S = some (src, S1) ∧
  ∀ F1 φ1 H1 J, Sim K cl S1 B F1 φ1 H1 → Ext S F φ H S1 F1 φ1 H1 → ItD K cl S1 F1 φ1 J src → R J H1
end
section
variable {X : Cx} {cl : Nat → Addr} {tg e l : Expr} {pos p : Pos} {me : ME} {ma : MA}
theorem itD_seq {K : PySem.W.Frag} {S : SH} {F : Hp} {φ : Nat → Addr} {ps : List P} {vs : List V} {J : It} (hr : RpA K cl F ps vs)
    (hg : ∀ H, Same F H → ∀ (i : Nat) (x : V), vs[i]? = some x → J.go i H) (hy : ∀ H, Same F H → ∀ (i : Nat) (x : V), vs[i]? = some x → ∀ y H2, J.yld i H y H2 → H2 = H ∧ y = x) (hs : ∀ H, Same F H → ∀ i : Nat, vs.length ≤ i → J.stop i H) : ItD K cl S F φ J (srcP ps) := by
  intro S' B' F' φ' H' s sf hl hp i
  have dr : DRA K cl F' φ' (ps.map D.p) vs := (RpA.mono sf hr).dra
  have hlen := dr.length
  rw [List.length_map] at hlen
  refine ⟨fun t d ht htd => ?_, fun hi _ => ?_⟩
  · have ht : (ps.map fun p (_ : SH) => some (D.p p))[i]? = some t := ht
    rw [List.getElem?_map] at ht
    cases e : ps[i]? with
    | none => rw [e] at ht; cases ht
    | some q =>
      rw [e] at ht
      cases ht
      cases htd
      obtain ⟨v, hv, rv⟩ := dr.get (i := i) (d := .p q) (by rw [List.getElem?_map, e]; rfl)
      refine ⟨trivial, hg H' (sf.trans s.le) i v hv, fun x H2 y => ?_⟩
      obtain ⟨rfl, rfl⟩ := hy H' (sf.trans s.le) i v hv x H2 y
      exact ⟨F', s, .refl s, rv⟩
  · have hi : (ps.map fun p (_ : SH) => some (D.p p)).length ≤ i := hi
    rw [List.length_map] at hi
    exact hs H' (sf.trans s.le) i (by omega)
theorem sqL_inj {P : Program} {w : World} {h : Heap} {K : PySem.W.Frag} {H : Hp} {a : Addr} {xs ys : List V} : True := trivial
/-- any list or tuple, walked -/
theorem pi_any (hl : PE X l (LE X.K cl me)) : PI X tg l (LI X.K cl (dIt me)) := by
  refine ⟨fun pins s σ H R I h => ?_⟩
  obtain ⟨σd, S, B, F, φ, sm, rs, src, S1, e, k⟩ := h
  obtain ⟨d, S2, e1, e2⟩ := bnd_of e
  have base : LE X.K cl me σ H fun x H1 => ∃ F1 φ1, Sim X.K cl S2 B F1 φ1 H1 ∧ Ext S F φ H S2 F1 φ1 H1 ∧ DR X.K cl F1 φ1 d x ∧ d.lt S2.len :=
    LE.then_ sm rs e1 fun F1 φ1 H1 x s1 x1 rs1 dr1 l1 => ⟨F1, φ1, s1, x1, dr1, l1⟩
  refine thn (hl.run pins s σ H _ I base) fun v s1 ⟨x, H1, I1, r1, F1, φ1, sm1, x1, dr1, l1⟩ => ?_
  -- a list at a
  have lst : ∀ (a : Addr) (xs : List V), x = .ref a → SqL X.K H1 a xs → R (Itl X.K a) H1 → wpAny (model X.prog X.w) X.A (pyIter v) (PIE X pins σ tg R) X.xe s1 := by
    intro a xs ex hq hR
    subst ex
    cases r1
    obtain ⟨its, rv, p, hz⟩ := I1.list hq
    refine wpAny_pyIter_list p.isList ?_
    refine ⟨s1.heap.objs.size, [s1.heap.objs.size], _, _, H1, rfl, I1.kept (t' := s1.toks) fun b o e => Heap.get?_push_of_some _ e, turn_list a _, ⟨_, Heap.get?_push_size _ rfl, rfl, rfl⟩, fun b hb => ?_, hR⟩
    have e : b = s1.heap.objs.size := by simpa using hb
    subst e
    exact I1.fpOk (Nat.le_refl _) (I1.hok.fresh (Nat.le_refl _))
  have tup : ∀ (a : Addr) (xs : List V), x = .ref a → SqT X.K H1 a xs → R (Itt X.K a) H1 → wpAny (model X.prog X.w) X.A (pyIter v) (PIE X pins σ tg R) X.xe s1 := by
    intro a xs ex hq hR
    subst ex
    cases r1
    obtain ⟨its, rv, p, hz⟩ := I1.tuple hq
    refine wpAny_pyIter_tuple (show s1.heap.IsTuple a its.toArray from p) ?_
    refine ⟨s1.heap.objs.size, [s1.heap.objs.size], _, _, H1, rfl, I1.kept (t' := s1.toks) fun b o e => Heap.get?_push_of_some _ e, turn_tuple a _, ⟨_, Heap.get?_push_size _ rfl, rfl, rfl⟩, fun b hb => ?_, hR⟩
    have e : b = s1.heap.objs.size := by simpa using hb
    subst e
    exact I1.fpOk (Nat.le_refl _) (I1.hok.fresh (Nat.le_refl _))
  cases d with
  | p y =>
    cases y with
    | tup zs =>
      simp only [srcOf, Option.some.injEq, Prod.mk.injEq] at e2
      obtain ⟨rfl, rfl⟩ := e2
      cases (show Rp X.K cl F1 (.tup zs) x from dr1) with
      | @tup a _ vs q t =>
        refine tup a vs rfl (SqT.mono sm1.le q) (k F1 φ1 H1 _ sm1 x1 (itD_seq t (fun H sf i x hx => ⟨vs, x, SqT.mono sf q, hx⟩) (fun H sf i x hx y H2 hy => ⟨hy.1, ?_⟩) fun H sf i hi => ⟨vs, SqT.mono sf q, hi⟩))
        have := hy.2 vs (SqT.mono sf q)
        rw [hx] at this
        exact (Option.some.inj this).symm
    | lst zs =>
      simp only [srcOf, Option.some.injEq, Prod.mk.injEq] at e2
      obtain ⟨rfl, rfl⟩ := e2
      cases (show Rp X.K cl F1 (.lst zs) x from dr1) with
      | @lst a _ vs q t =>
        refine lst a vs rfl (SqL.mono sm1.le q) (k F1 φ1 H1 _ sm1 x1 (itD_seq t (fun H sf i x hx => ⟨vs, x, SqL.mono sf q, hx⟩) (fun H sf i x hx y H2 hy => ⟨hy.1, ?_⟩) fun H sf i hi => ⟨vs, SqL.mono sf q, hi⟩))
        have := hy.2 vs (SqL.mono sf q)
        rw [hx] at this
        exact (Option.some.inj this).symm
    | _ => cases e2
  | ref n =>
    unfold srcOf at e2
    dsimp only at e2
    cases q : S2.os[n]? with
    | none => rw [q] at e2; cases e2
    | some ob =>
      rw [q] at e2
      cases ob <;> try (cases e2; done)
      rename_i ds
      simp only [Option.some.injEq, Prod.mk.injEq] at e2
      obtain ⟨rfl, rfl⟩ := e2
      have hn : n < S2.len := (List.getElem?_eq_some_iff.mp q).1
      obtain ⟨vs, ev, rv⟩ := (sm1.ob n _ q).2
      refine lst (φ1 n) vs dr1 (.inl (.inl ev)) (k F1 φ1 H1 _ sm1 x1 ?_)
      intro S' B' F' φ' H' s' sf hl hp i
      have at_ : ∀ ds', S'.os[n]? = some (.lst ds') → ∃ vs', SqL X.K H' (φ1 n) vs' ∧ H' (φ1 n) = some (.lst vs') ∧ DRA X.K cl F' φ' ds' vs' := fun ds' q' => by
        obtain ⟨vs', ev', rv'⟩ := (s'.ob n _ q').2
        rw [hp n hn] at ev'
        exact ⟨vs', .inl (.inl ev'), ev', rv'⟩
      refine ⟨fun t d ht htd => ?_, fun hi hf => ?_⟩
      · have ht : ((List.range ds.length).map (itemR n ds.length))[i]? = some t := ht
        rw [List.getElem?_map] at ht
        cases er : (List.range ds.length)[i]? with
        | none => rw [er] at ht; cases ht
        | some j =>
          rw [er] at ht
          cases ht
          have hj : j = i := by
            have := List.getElem?_eq_some_iff.mp er
            obtain ⟨h1, h2⟩ := this
            rw [List.getElem_range] at h2
            exact h2.symm
          subst hj
          unfold itemR at htd
          cases q' : S'.os[n]? with
          | none => rw [q'] at htd; cases htd
          | some ob' =>
            rw [q'] at htd
            cases ob' <;> try (cases htd; done)
            rename_i ds'
            dsimp only at htd
            by_cases hlen : ds'.length = ds.length
            · rw [if_pos hlen] at htd
              obtain ⟨vs', h1, h2, h3⟩ := at_ ds' q'
              obtain ⟨v', hv', rv'⟩ := h3.get htd
              refine ⟨s'.wf n _ q' d (List.mem_of_getElem? htd), ⟨vs', v', h1, hv'⟩, fun x H2 hy => ?_⟩
              obtain ⟨rfl, hy⟩ := hy
              have := hy vs' h1
              rw [hv'] at this
              cases this
              exact ⟨F', s', .refl s', rv'⟩
            · rw [if_neg hlen] at htd; cases htd
      · have hf : finR n ds.length S' = true := hf
        unfold finR at hf
        cases q' : S'.os[n]? with
        | none => rw [q'] at hf; cases hf
        | some ob' =>
          rw [q'] at hf
          cases ob' <;> try (cases hf; done)
          rename_i ds'
          have hlen : ds'.length = ds.length := of_decide_eq_true hf
          obtain ⟨vs', h1, h2, h3⟩ := at_ ds' q'
          refine ⟨vs', h1, ?_⟩
          have := h3.length
          have hi : ((List.range ds.length).map (itemR n ds.length)).length ≤ i := hi
          rw [List.length_map, List.length_range] at hi
          omega
theorem itD_rng {K : PySem.W.Frag} {S : SH} {F : Hp} {φ : Nat → Addr} {lo : Int} {n : Nat} : ItD K cl S F φ (Itr lo n) (srcN lo n) := by
  intro S' B' F' φ' H' s sf hl hp i
  refine ⟨fun t d ht htd => ?_, fun hi _ => ?_⟩
  · have ht : ((List.range n).map fun (i : Nat) (_ : SH) => some (D.p (.int (lo + (i : Int)))))[i]? = some t := ht
    rw [List.getElem?_map] at ht
    cases er : (List.range n)[i]? with
    | none => rw [er] at ht; cases ht
    | some j =>
      rw [er] at ht
      cases ht
      obtain ⟨h1, h2⟩ := List.getElem?_eq_some_iff.mp er
      rw [List.getElem_range] at h2
      rw [List.length_range] at h1
      subst h2
      cases htd
      refine ⟨trivial, h1, fun x H2 y => ?_⟩
      obtain ⟨rfl, rfl⟩ := y
      exact ⟨F', s, .refl s, Rp.int _⟩
  · have hi : ((List.range n).map fun (i : Nat) (_ : SH) => some (D.p (.int (lo + (i : Int))))).length ≤ i := hi
    rw [List.length_map, List.length_range] at hi
    exact hi
theorem drInt {K : PySem.W.Frag} {F : Hp} {φ : Nat → Addr} {i : Int} {x : V} (h : DR K cl F φ (.p (.int i)) x) : x = .int i := by
  cases (show Rp K cl F (.int i) x from h); rfl
theorem pi_rng1 {a : Expr} (hg : Gl X "range") (hm : X.mg "range" = none) (ha : PA X [a] (LA X.K cl ma)) (hs : starEach [a] X.env = [(false, eval a X.env)] := by rfl) : PI X tg (.Call (.Name "range" p) [a] [] pos) (LI X.K cl (dRng1 ma)) := by
  have h := pi_range1 (tg := tg) (p := p) (pos := pos) hg hm ha hs
  refine ⟨fun pins s σ H R I q => h.run pins s σ H R I ?_⟩
  obtain ⟨σd, S, B, F, φ, sm, rs, src, S1, e, k⟩ := q
  obtain ⟨ds, S2, e1, e2⟩ := bnd_of e
  refine LA.then_ sm rs e1 fun F1 φ1 H1 us s1 x1 rs1 dr l => ?_
  unfold rng1 at e2
  split at e2
  · rename_i j
    split at e2
    · rename_i hj
      cases e2
      cases dr with
      | cons r t =>
        cases t
        exact ⟨j, by rw [drInt r], hj.1, hj.2, k F1 φ1 H1 _ s1 x1 itD_rng⟩
    · cases e2
  · cases e2
theorem pi_rng2 {a b : Expr} (hg : Gl X "range") (hm : X.mg "range" = none) (ha : PA X [a, b] (LA X.K cl ma)) (hs : starEach [a, b] X.env = [(false, eval a X.env), (false, eval b X.env)] := by rfl) (hs2 : starEach [b] X.env = [(false, eval b X.env)] := by rfl) : PI X tg (.Call (.Name "range" p) [a, b] [] pos) (LI X.K cl (dRng2 ma)) := by
  have h := pi_range2 (tg := tg) (p := p) (pos := pos) hg hm ha hs hs2
  refine ⟨fun pins s σ H R I q => h.run pins s σ H R I ?_⟩
  obtain ⟨σd, S, B, F, φ, sm, rs, src, S1, e, k⟩ := q
  obtain ⟨ds, S2, e1, e2⟩ := bnd_of e
  refine LA.then_ sm rs e1 fun F1 φ1 H1 us s1 x1 rs1 dr l => ?_
  unfold rng2 at e2
  split at e2
  · rename_i i j
    split at e2
    · rename_i hj
      cases e2
      cases dr with
      | cons r t =>
        cases t with
        | cons r2 t =>
          cases t
          exact ⟨i, j, by rw [drInt r, drInt r2], hj, k F1 φ1 H1 _ s1 x1 itD_rng⟩
    · cases e2
  · cases e2
end

/-! ### loops -/
def forL (ws : List Nat) (fin : SH → Bool) (g : MG) (body : MS) : List (SH → Option D) → MS
  | [], σ, S => if fin S = true then some (.nx σ, S) else none
  | t :: ts, σ, S => match t S with
    | some d => bnd (g d σ S) fun σ1 S1 => bnd (body σ1 S1) fun f S2 => match f with
      | .nx σ2 => forL ws fin g body ts (wipeD ws σ2) S2
      | .ct σ2 => forL ws fin g body ts (wipeD ws σ2) S2
      | .brk σ2 => some (.nx (wipeD ws σ2), S2)
      | .ret d => some (.ret d, S2)
    | none => none
/-- ws: the names that no turn needs from the one before, nor what follows -/
def dFor (ws : List Nat) (m : MI) (g : MG) (body : MS) : MS := fun σ S => bnd (m σ S) fun src S1 => forL ws src.fin g body src.items (wipeD ws σ) S1
def whL (ws : List Nat) (t : MT) (body : MS) : Nat → MS
  | 0, _, _ => none
  | k + 1, σ, S => bnd (t σ S) fun b S1 => if b = true then bnd (body σ S1) fun f S2 => match f with
      | .nx σ2 => whL ws t body k (wipeD ws σ2) S2
      | .ct σ2 => whL ws t body k (wipeD ws σ2) S2
      | .brk σ2 => some (.nx (wipeD ws σ2), S2)
      | .ret d => some (.ret d, S2)
    else some (.nx σ, S1)
def dWhile (ws : List Nat) (fuel : Nat) (t : MT) (body : MS) : MS := fun σ S => whL ws t body fuel (wipeD ws σ) S
def compL (fin : SH → Bool) (g : MG) (c : MT) (elt : ME) (σ : En) : List (SH → Option D) → List D → SH → Option (List D × SH)
  | [], acc, S => if fin S = true then some (acc, S) else none
  | t :: ts, acc, S => match t S with
    | some d => bnd (g d σ S) fun σ1 S1 => bnd (c σ1 S1) fun b S2 => if b = true then
        (if acc.length < sizeLine then bnd (elt σ1 S2) fun y S3 => compL fin g c elt σ ts (acc ++ [y]) S3 else none)
        else compL fin g c elt σ ts acc S2
    | none => none
def dComp (live : Bool) (m : MI) (g : MG) (c : MT) (elt : ME) (vs : List Nat) : ME := fun σ S => bnd (m σ S) fun src S1 => bnd (compL src.fin g c elt (wipeD vs σ) src.items [] S1) fun ds S2 => newL live ds S2
def dYes : MT := fun _ S => some (true, S)
section
variable {X : Cx} {cl : Nat → Addr} {tg iter e : Expr} {body : List Stmt} {pos : Pos} {m : MI} {g : MG} {vs : List Nat} {mb : MS} {mt : MT} {me : ME}
theorem s_for {ws : List Nat} (hp : PassesOwn (model X.prog X.w) X.A X.env X.xe) (hc : X.calm = true) (hi : PI X tg iter (LI X.K cl m)) (hg : PG X tg (LG X.K cl vs g)) (hb : PSs X body (LS X.K cl mb))
    (hs : ∀ x, foldedSetIterable iter X.env x = pure x := by intro _; rfl) : PS X (.For tg iter body [] pos) (LS X.K cl (dFor ws m g mb)) := by
  refine (ps_for hp hc hi hg hb hs).imp fun Z σ H q => ?_
  obtain ⟨σd, S, B, F, φ, s, rs, o⟩ := q
  obtain ⟨src, S1, e1, o1⟩ := okS_bnd o
  refine ⟨σd, S, B, F, φ, s, rs, src, S1, e1, fun F1 φ1 H1 J s1 x1 it => ?_⟩
  refine ⟨fun i mm σ' H' => mm = src.items.length - i ∧ i ≤ src.items.length ∧ ∃ σd' S' F' φ', Sim X.K cl S' B F' φ' H' ∧ Ext S1 F1 φ1 H1 S' F' φ' H' ∧ RS X.K cl F' φ' S'.len σd' σ' ∧ OkS X.K cl S' B F' φ' H' (forL ws src.fin g mb (src.items.drop i) σd' S') Z,
    ⟨src.items.length, by simp, Nat.zero_le _, wipeD ws σd, S1, F1, φ1, s1, .refl s1, (x1.rs rs).wipe ws, by rw [List.drop_zero]; exact o1.ext x1⟩, ?_⟩
  rintro i mm σ' H' ⟨rfl, hi, σd', S', F', φ', s', x', rs', o'⟩
  obtain ⟨turn, stop⟩ := it S' B F' φ' H' s' x'.fz x'.len x'.phi i
  by_cases hlt : i < src.items.length
  · rw [List.drop_eq_getElem_cons hlt] at o'
    unfold forL at o'
    cases ht : src.items[i] S' with
    | none => rw [ht] at o'; obtain ⟨_, _, z, _⟩ := o'; cases z
    | some d =>
      rw [ht] at o'
      dsimp only at o'
      obtain ⟨ld, go, yld⟩ := turn _ d (List.getElem?_eq_getElem hlt) ht
      refine .inr ⟨go, fun σ3 H3 => ∃ σd3 S3 F3 φ3, Sim X.K cl S3 B F3 φ3 H3 ∧ Ext S1 F1 φ1 H1 S3 F3 φ3 H3 ∧ RS X.K cl F3 φ3 S3.len σd3 σ3 ∧ OkS X.K cl S3 B F3 φ3 H3 (forL ws src.fin g mb (src.items.drop (i + 1)) σd3 S3) Z, fun σ3 H3 h => ⟨src.items.length - (i + 1), by omega, rfl, hlt, h⟩, fun x H2 y => ?_⟩
      obtain ⟨F2, s2, x2, dr⟩ := yld x H2 y
      have o2 := o'.ext x2
      obtain ⟨σ3, S3, e3, o3⟩ := okS_bnd o2
      refine ⟨d, σd', S', B, F2, φ', s2, x2.rs rs', dr, ld, σ3, S3, e3, fun F4 φ4 H4 σ4 s4 x4 rs4 _ => ?_⟩
      obtain ⟨f, S5, e5, o5⟩ := okS_bnd (o3.ext x4)
      refine ⟨σ3, S3, B, F4, φ4, s4, rs4, f, S5, e5, ?_⟩
      cases f with
      | nx σ5 => exact fun F6 φ6 H6 σ6 s6 x6 rs6 => ⟨wipeD ws σ5, S5, F6, φ6, s6, x'.trans (x2.trans (x4.trans x6)), rs6.wipe ws, o5.ext x6⟩
      | ct σ5 => exact fun F6 φ6 H6 σ6 s6 x6 rs6 => ⟨wipeD ws σ5, S5, F6, φ6, s6, x'.trans (x2.trans (x4.trans x6)), rs6.wipe ws, o5.ext x6⟩
      | brk σ5 => obtain ⟨_, _, z, k⟩ := o5; cases z; exact fun F6 φ6 H6 σ6 s6 x6 rs6 => k F6 φ6 H6 σ6 s6 x6 (rs6.wipe ws)
      | ret d => obtain ⟨_, _, z, k⟩ := o5; cases z; exact k
  · have hd : src.items.drop i = [] := List.drop_eq_nil_iff.mpr (by omega)
    rw [hd] at o'
    unfold forL at o'
    by_cases hf : src.fin S' = true
    · rw [if_pos hf] at o'
      obtain ⟨_, _, z, k⟩ := o'
      cases z
      exact .inl ⟨stop (by omega) hf, k F' φ' H' σ' s' (.refl s') rs'⟩
    · rw [if_neg hf] at o'; obtain ⟨_, _, z, _⟩ := o'; cases z
theorem s_while {ws : List Nat} {c : Expr} {fuel : Nat} (hp : PassesOwn (model X.prog X.w) X.A X.env X.xe) (hc : PT X c (LT X.K cl mt)) (hb : PSs X body (LS X.K cl mb)) : PS X (.While c body [] pos) (LS X.K cl (dWhile ws fuel mt mb)) := by
  refine (ps_while hp hc hb).imp fun Z σ H q => ?_
  obtain ⟨σd, S, B, F, φ, s, rs, o⟩ := q
  refine ⟨fun k σ' H' => ∃ σd' S' F' φ', Sim X.K cl S' B F' φ' H' ∧ RS X.K cl F' φ' S'.len σd' σ' ∧ OkS X.K cl S' B F' φ' H' (whL ws mt mb k σd' S') Z, ⟨fuel, wipeD ws σd, S, F, φ, s, rs.wipe ws, o⟩, ?_⟩
  rintro k σ' H' ⟨σd', S', F', φ', s', rs', o'⟩
  cases k with
  | zero => obtain ⟨_, _, z, _⟩ := o'; cases z
  | succ k =>
    unfold whL at o'
    obtain ⟨b, S1, e1, o1⟩ := okS_bnd o'
    refine LT.then_ s' rs' e1 fun F1 φ1 H1 s1 x1 rs1 => ?_
    split
    · rename_i hb; rw [if_pos hb] at o1
      obtain ⟨f, S2, e2, o2⟩ := okS_bnd (o1.ext x1)
      refine ⟨fun σ3 H3 => ∃ σd3 S3 F3 φ3, Sim X.K cl S3 B F3 φ3 H3 ∧ RS X.K cl F3 φ3 S3.len σd3 σ3 ∧ OkS X.K cl S3 B F3 φ3 H3 (whL ws mt mb k σd3 S3) Z, fun σ3 H3 h => ⟨k, Nat.lt_succ_self _, h⟩, ?_⟩
      refine ⟨σd', S1, B, F1, φ1, s1, rs1, f, S2, e2, ?_⟩
      cases f with
      | nx σ5 => exact fun F6 φ6 H6 σ6 s6 x6 rs6 => ⟨wipeD ws σ5, S2, F6, φ6, s6, rs6.wipe ws, o2.ext x6⟩
      | ct σ5 => exact fun F6 φ6 H6 σ6 s6 x6 rs6 => ⟨wipeD ws σ5, S2, F6, φ6, s6, rs6.wipe ws, o2.ext x6⟩
      | brk σ5 => obtain ⟨_, _, z, k⟩ := o2; cases z; exact fun F6 φ6 H6 σ6 s6 x6 rs6 => k F6 φ6 H6 σ6 s6 x6 (rs6.wipe ws)
      | ret d => obtain ⟨_, _, z, k⟩ := o2; cases z; exact k
    · rename_i hb; rw [if_neg hb] at o1
      obtain ⟨_, _, z, k⟩ := o1
      cases z
      exact k F1 φ1 H1 σ' s1 x1 rs1
theorem wipe_get {σ : L2.St} {i : Nat} : ∀ {vs : List Nat}, i ∉ vs → (wipe σ vs)[i]? = σ[i]?
  | [], _ => rfl
  | v :: vs, h => by
    unfold wipe
    rw [List.mem_cons, not_or] at h
    rw [List.getElem?_set_ne (fun e => h.1 e.symm)]
    exact wipe_get h.2
theorem wipe_in {σ : L2.St} {i : Nat} : ∀ {vs : List Nat}, i ∈ vs → i < σ.length → (wipe σ vs)[i]? = some none
  | v :: vs, h, hl => by
    unfold wipe
    by_cases e : v = i
    · subst e
      rw [List.getElem?_set_self (by rw [wipe_length]; exact hl)]
    · rw [List.getElem?_set_ne e]
      rcases List.mem_cons.mp h with h | h
      · exact absurd h.symm e
      · exact wipe_in h hl
theorem wipe_eq {σ σ' : L2.St} {vs : List Nat} (h : σ'.length = σ.length) (k : ∀ j, j ∉ vs → σ'[j]? = σ[j]?) : wipe σ' vs = wipe σ vs := by
  apply List.ext_getElem?
  intro i
  by_cases hi : i ∈ vs
  · by_cases hl : i < σ.length
    · rw [wipe_in hi (by omega), wipe_in hi hl]
    · rw [List.getElem?_eq_none (by rw [wipe_length]; omega), List.getElem?_eq_none (by rw [wipe_length]; omega)]
  · rw [wipe_get hi, wipe_get hi]; exact k i hi
theorem wipe_wipe {σ : L2.St} {vs : List Nat} : wipe (wipe σ vs) vs = wipe σ vs := wipe_eq (wipe_length _ _) fun j h => wipe_get h
theorem wipeD_len : ∀ (vs : List Nat) (σd : En), (wipeD vs σd).length = σd.length
  | [], _ => rfl
  | i :: r, σd => by unfold wipeD; rw [wipeD_len r, List.length_set]
theorem wipeD_some : ∀ {vs : List Nat} {σd : En} {i : Nat} {d : D}, (wipeD vs σd)[i]? = some (some d) → σd[i]? = some (some d) ∧ i ∉ vs
  | [], _, _, _, h => ⟨h, by simp⟩
  | v :: vs, σd, i, d, h => by
    unfold wipeD at h
    obtain ⟨h1, h2⟩ := wipeD_some h
    by_cases e : v = i
    · subst e
      rw [List.getElem?_set, if_pos rfl] at h1
      split at h1 <;> cases h1
    · rw [List.getElem?_set_ne e] at h1
      exact ⟨h1, by rw [List.mem_cons, not_or]; exact ⟨fun z => e z.symm, h2⟩⟩
theorem RS.wipe2 {K : PySem.W.Frag} {F : Hp} {φ : Nat → Addr} {k : Nat} {σd : En} {σ : L2.St} (r : RS K cl F φ k σd σ) (vs : List Nat) : RS K cl F φ k (wipeD vs σd) (L2.wipe σ vs) := by
  refine ⟨by rw [wipeD_len, wipe_length]; exact r.1, fun i d e => ?_⟩
  obtain ⟨h1, h2⟩ := wipeD_some e
  obtain ⟨a, v, b, c⟩ := r.2 i d h1
  exact ⟨a, v, by rw [wipe_get h2]; exact b, c⟩
/-- another object, neither data nor one that may change here -/
def At (L : Addr) (us : List V) (S : SH) (F : Hp) (φ : Nat → Addr) (H : Hp) : Prop := H L = some (.lst us) ∧ F L = none ∧ ∀ n, n < S.len → φ n ≠ L
theorem At.ext {L : Addr} {us : List V} {S S' : SH} {F F' H H' : Hp} {φ φ' : Nat → Addr} (x : Ext S F φ H S' F' φ' H') (a : At L us S F φ H) : At L us S' F' φ' H' := by
  refine ⟨x.keep L _ a.1 a.2.2, x.fr L _ a.1 a.2.1 a.2.2, fun n hn e => ?_⟩
  by_cases h : n < S.len
  · exact a.2.2 n h ((x.phi n h).symm.trans e)
  · have := x.new n (Nat.le_of_not_lt h) hn
    rw [e, a.1] at this; cases this
theorem Sim.other {K : PySem.W.Frag} {S : SH} {B : List Nat} {F H : Hp} {φ : Nat → Addr} (s : Sim K cl S B F φ H) {L : Addr} (o : HO) (fL : F L = none) (np : ∀ n, n < S.len → φ n ≠ L) : Sim K cl S B F φ (upd H L o) := by
  refine ⟨fun a u e => ?_, fun n u e => ⟨(s.ob n u e).1, ?_⟩, s.inj, s.wf, s.bs, s.bl⟩
  · rw [upd_ne (ne_of_none e fL)]; exact s.le a u e
  · rw [upd_ne (np n (List.getElem?_eq_some_iff.mp e).1)]; exact (s.ob n u e).2
theorem Ext.other {S S' : SH} {F F' H H' : Hp} {φ φ' : Nat → Addr} (x : Ext S F φ H S' F' φ' H') {L : Addr} (o : HO) (h : H L = none) : Ext S F φ H S' F' φ' (upd H' L o) :=
  ⟨x.fz, x.len, x.b, x.phi, x.new, fun a u e n => by rw [upd_ne (ne_of_none e h)]; exact x.keep a u e n, fun n hn => by
    by_cases e : φ n = L
    · rw [e, upd_same]; simp
    · rw [upd_ne e]; exact x.tr n hn, x.fr⟩
theorem newL_at {K : PySem.W.Frag} {S0 S : SH} {B : List Nat} {F0 F H0 H : Hp} {φ0 φ : Nat → Addr} {Q : VK} {live : Bool} {ds : List D} {us : List V} {L : Addr} (h : OkE K cl S0 B F0 φ0 H0 (newL live ds S) Q) (s : Sim K cl S B F φ H) (x : Ext S0 F0 φ0 H0 S F φ H)
    (r : DRA K cl F φ ds us) (l : ∀ d ∈ ds, d.lt S.len) (a : At L us S F φ H) (h0 : H0 L = none) : Q (.ref L) H := by
  -- as if the object were laid just now
  obtain ⟨aL, fL, np⟩ := a
  let Hm : Hp := fun b => if b = L then none else H b
  have hm : Hm L = none := if_pos rfl
  have ne : ∀ b, b ≠ L → Hm b = H b := fun b hb => if_neg hb
  have sm : Sim K cl S B F φ Hm := ⟨fun b o e => by rw [ne b (ne_of_none e fL)]; exact s.le b o e, fun n o e => ⟨(s.ob n o e).1, by rw [ne _ (np n (List.getElem?_eq_some_iff.mp e).1)]; exact (s.ob n o e).2⟩, s.inj, s.wf, s.bs, s.bl⟩
  have xm : Ext S0 F0 φ0 H0 S F φ Hm := ⟨x.fz, x.len, x.b, x.phi, x.new, fun b o e n => by rw [ne b (ne_of_none e h0)]; exact x.keep b o e n, fun n hn e => by
      by_cases q : φ0 n = L
      · exact np n (Nat.lt_of_lt_of_le hn x.len) ((x.phi n hn).trans q)
      · rw [ne _ q] at e; exact x.tr n hn e, x.fr⟩
  have same : Same Hm H := fun b o e => by
    by_cases q : b = L
    · rw [q, hm] at e; cases e
    · rw [ne b q] at e; exact e
  exact (newL_ok (h.ext xm) sm r l).2 L H hm same aL
theorem e_comp {K : PySem.W.Frag} {live : Bool} {σ : L2.St} {H : Hp} {Q : VK} {ws : List Nat} (hw : ∀ j ∈ vs, j ∈ ws) (q : LE K cl (dComp live m g mt me ws) σ H Q) : tLc (LI K cl m) (LG K cl vs g) (LT K cl mt) (LE K cl me) ws σ H Q := by
  obtain ⟨σd, S, B, F, φ, s, rs, o⟩ := q
  obtain ⟨src, S1, e1, o1⟩ := okE_bnd o
  refine ⟨σd, S, B, F, φ, s, rs, src, S1, e1, fun F1 φ1 H1 J s1 x1 it => ?_⟩
  intro L hL
  have o1 := o1.ext x1
  have smL : Same H1 (upd H1 L (.lst [])) := Same.new (Same.refl _) hL
  obtain ⟨fL, pL⟩ := s1.none_p hL
  refine ⟨fun i mm H' => mm = src.items.length - i ∧ i ≤ src.items.length ∧ ∃ acc us S' F' φ', Sim K cl S' B F' φ' H' ∧ Ext S1 F1 φ1 H1 S' F' φ' H' ∧ At L us S' F' φ' H' ∧ DRA K cl F' φ' acc us ∧ (∀ d ∈ acc, d.lt S'.len) ∧
      OkE K cl S1 B F1 φ1 H1 (bnd (compL src.fin g mt me (wipeD ws σd) (src.items.drop i) acc S') fun ds S2 => newL live ds S2) Q,
    ⟨src.items.length, by simp, Nat.zero_le _, [], [], S1, F1, φ1, s1.keep smL, Ext.ofSame s1 smL, ⟨upd_same, fL, pL⟩, .nil, fun _ z => absurd z (by simp), by rw [List.drop_zero]; exact o1⟩, ?_⟩
  rintro i mm H' ⟨rfl, hi, acc, us, S', F', φ', s', x', at', ra, la, o'⟩
  obtain ⟨turn, stop⟩ := it S' B F' φ' H' s' x'.fz x'.len x'.phi i
  by_cases hlt : i < src.items.length
  · rw [List.drop_eq_getElem_cons hlt] at o'
    unfold compL at o'
    cases ht : src.items[i] S' with
    | none => rw [ht] at o'; obtain ⟨_, _, z, _⟩ := o'; cases z
    | some d =>
      rw [ht] at o'
      dsimp only at o'
      obtain ⟨ld, go, yld⟩ := turn _ d (List.getElem?_eq_getElem hlt) ht
      refine .inr ⟨go, fun H3 => ∃ acc us S' F' φ', Sim K cl S' B F' φ' H3 ∧ Ext S1 F1 φ1 H1 S' F' φ' H3 ∧ At L us S' F' φ' H3 ∧ DRA K cl F' φ' acc us ∧ (∀ d ∈ acc, d.lt S'.len) ∧
        OkE K cl S1 B F1 φ1 H1 (bnd (compL src.fin g mt me (wipeD ws σd) (src.items.drop (i + 1)) acc S') fun ds S2 => newL live ds S2) Q, fun H3 h => ⟨src.items.length - (i + 1), by omega, rfl, hlt, h⟩, fun x H2 y => ?_⟩
      obtain ⟨F2, s2, x2, dr⟩ := yld x H2 y
      obtain ⟨out, S9, eo, ko⟩ := okE_bnd o'
      obtain ⟨σ3, S3, e3, e4⟩ := bnd_of eo
      obtain ⟨b, S4, e5, e6⟩ := bnd_of e4
      refine ⟨d, wipeD ws σd, S', B, F2, φ', s2, (((x1.trans x').trans x2).rs rs).wipe2 ws, dr, ld, σ3, S3, e3, fun F4 φ4 H4 σ4 s4 x4 rs4 hk => ⟨?_, ?_⟩⟩
      · exact (wipe_eq hk.1 fun j hj => hk.2 j fun z => hj (hw j z)).trans wipe_wipe
      · refine LT.then_ s4 rs4 e5 fun F5 φ5 H5 s5 x5 rs5 => ?_
        have xa := (x2.trans x4).trans x5
        split
        · rename_i hb
          rw [if_pos hb] at e6
          by_cases hz : acc.length < sizeLine
          · rw [if_pos hz] at e6
            obtain ⟨y1, S6, e7, e8⟩ := bnd_of e6
            refine LE.then_ s5 rs5 e7 fun F6 φ6 H6 u s6 x6 rs6 dr6 l6 => ?_
            have xb := xa.trans x6
            have at6 := at'.ext xb
            have hlen := ra.length
            refine ⟨us, at6.1, by omega, acc ++ [y1], us ++ [u], S6, F6, φ6, s6.other _ at6.2.1 at6.2.2, (x'.trans xb).other _ hL, ⟨upd_same, at6.2⟩, ?_, fun z hz' => ?_, ?_⟩
            · exact DRA.append (xb.dra la ra) (.cons dr6 .nil)
            · rcases List.mem_append.mp hz' with h | h
              · exact xb.lt (la z h)
              · rw [List.mem_singleton.mp h]; exact l6
            · rw [e8]; exact ko
          · rw [if_neg hz] at e6; cases e6
        · rename_i hb
          rw [if_neg hb] at e6
          exact ⟨acc, us, S4, F5, φ5, s5, x'.trans xa, at'.ext xa, xa.dra la ra, fun z hz' => xa.lt (la z hz'), by rw [e6]; exact ko⟩
  · have hd : src.items.drop i = [] := List.drop_eq_nil_iff.mpr (by omega)
    rw [hd] at o'
    unfold compL at o'
    by_cases hf : src.fin S' = true
    · rw [if_pos hf] at o'
      exact .inl ⟨stop (by omega) hf, newL_at o' s' x' ra la at' hL⟩
    · rw [if_neg hf] at o'; obtain ⟨_, _, z, _⟩ := o'; cases z
theorem ts_nil : PTs X [] (LT X.K cl dYes) := by
  refine ⟨fun pins s σ H Q I h => pts_nil.run pins s σ H Q I ?_⟩
  obtain ⟨σd, S, B, F, φ, s, rs, d, S1, e, k⟩ := h
  cases e
  exact k F φ H s (.refl s)
theorem ts_one {c : Expr} (h : PT X c (LT X.K cl mt)) : PTs X [c] (LT X.K cl mt) := pts_one h
theorem k_comp {elt : Expr} {ifs : List Expr} {scope : Scope} {own : List (Str × Nat)} {live : Bool} (hc : X.calm = true) (hN : X.N.Nodup) (hi : PI X tg iter (LI X.K cl m)) (ok : BlkOk X.N X.env.scope scope own)
    (hg : ∀ (s : Shared) (H : Hp) (C : Addr) (cs : List (Str × Addr)) (fp : List Addr), PG (X.blk s H scope (compEnvC scope cs C X.env) fp) tg (LG X.K cl vs g)) (ht : ∀ (s : Shared) (H : Hp) (C : Addr) (cs : List (Str × Addr)) (fp : List Addr), PTs (X.blk s H scope (compEnvC scope cs C X.env) fp) ifs (LT X.K cl mt))
    (he : ∀ (s : Shared) (H : Hp) (C : Addr) (cs : List (Str × Addr)) (fp : List Addr), PE (X.blk s H scope (compEnvC scope cs C X.env) fp) elt (LE X.K cl me)) (hw : ∀ j ∈ vs, j ∈ own.map (·.2) := by decide) (hs : ∀ x, foldedSetIterable iter X.env x = pure x := by intro _; rfl) :
    PE X (.ListComp elt [⟨tg, iter, ifs, 0⟩] scope pos) (LE X.K cl (dComp live m g mt me (own.map (·.2)))) :=
  (pe_lc hc hN hi ok hg ht he hs).imp fun _ _ _ q => e_comp hw q
theorem s_setComp {i : Nat} {y : Str} {py spos : Pos} {elt : Expr} {ifs : List Expr} {scope : Scope} {own : List (Str × Nat)} {live : Bool} (hc : X.calm = true) (hN : X.N.Nodup) (hy : X.N[i]? = some y) (hyl : X.env.scope.names.lookup y = some .local)
    (hsw : swapsWith (.ListComp elt [⟨tg, iter, ifs, 0⟩] scope pos) (some (.Name y py)) spos.line X.env = pure true) (hi : PI X tg iter (LI X.K cl m)) (ok : BlkOk X.N X.env.scope scope own)
    (hg : ∀ (s : Shared) (H : Hp) (C : Addr) (cs : List (Str × Addr)) (fp : List Addr), PG (X.blk s H scope (compEnvC scope cs C X.env) fp) tg (LG X.K cl vs g)) (ht : ∀ (s : Shared) (H : Hp) (C : Addr) (cs : List (Str × Addr)) (fp : List Addr), PTs (X.blk s H scope (compEnvC scope cs C X.env) fp) ifs (LT X.K cl mt))
    (he : ∀ (s : Shared) (H : Hp) (C : Addr) (cs : List (Str × Addr)) (fp : List Addr), PE (X.blk s H scope (compEnvC scope cs C X.env) fp) elt (LE X.K cl me)) (hw : ∀ j ∈ vs, j ∈ own.map (·.2) := by decide) (hs : ∀ x, foldedSetIterable iter X.env x = pure x := by intro _; rfl) :
    PS X (.Assign [.Name y py] (.ListComp elt [⟨tg, iter, ifs, 0⟩] scope pos) spos) (LS X.K cl (dSet i (dComp live m g mt me (own.map (·.2))))) := by
  refine (ps_setLc hc hN hy hyl hsw hi ok hg ht he hs).imp fun Z σ H q => ?_
  obtain ⟨σd, S, B, F, φ, s, rs, o⟩ := q
  obtain ⟨d, S1, e1, o1⟩ := okS_bnd o
  obtain ⟨_, _, z, k⟩ := o1
  cases z
  exact e_comp hw ⟨σd, S, B, F, φ, s, rs, d, S1, e1, fun F1 φ1 H1 u s1 x1 dr l => k F1 φ1 H1 _ s1 x1 ((x1.rs rs).set i dr l)⟩
end
end Pv
namespace Pv
open PySem PySem.Spec PyProof.Rows L2

/-! ### == of data -/
mutual
def peq : P → P → Bool
  | .non, .non => true
  | .bl a, .bl b => a == b
  | .bl a, .int j => (if a = true then 1 else 0) == j
  | .int i, .bl b => i == (if b = true then 1 else 0)
  | .int i, .int j => i == j
  | .str x, .str y => x == y
  | .lst xs, .lst ys => peqA xs ys
  | .tup xs, .tup ys => peqA xs ys
  | _, _ => false
def peqA : List P → List P → Bool
  | [], [] => true
  | x :: xs, y :: ys => peq x y && peqA xs ys
  | _, _ => false
end
/-- data of nested lists and tuples, so deep at most -/
def okd : Nat → P → Bool
  | _, .non => true
  | _, .bl _ => true
  | _, .int _ => true
  | _, .str _ => true
  | k + 1, .lst ps => ps.all (okd k)
  | k + 1, .tup ps => ps.all (okd k)
  | _, _ => false
theorem peqA_len : ∀ {xs ys : List P}, xs.length ≠ ys.length → peqA xs ys = false
  | [], [], h => absurd rfl h
  | [], _ :: _, _ => by simp [peqA]
  | _ :: _, [], _ => by simp [peqA]
  | x :: xs, y :: ys, h => by
    rw [peqA, peqA_len (xs := xs) (ys := ys) (fun e => h (by rw [List.length_cons, List.length_cons, e])), Bool.and_false]
def pAt (xs ys : List P) (j : Nat) : Bool := peq (xs.getD j .non) (ys.getD j .non)
theorem peqA_all : ∀ {xs ys : List P}, xs.length = ys.length → peqA xs ys = (List.range xs.length).all (pAt xs ys)
  | [], [], _ => by simp [peqA]
  | [], _ :: _, h => by simp at h
  | _ :: _, [], h => by simp at h
  | x :: xs, y :: ys, h => by
    have h' : xs.length = ys.length := by simpa using h
    rw [peqA, peqA_all h', List.length_cons, List.range_succ_eq_map, List.all_cons, List.all_map]
    rfl
theorem pAt_get {xs ys : List P} {j : Nat} {x y : P} (h1 : xs[j]? = some x) (h2 : ys[j]? = some y) : pAt xs ys j = peq x y := by
  unfold pAt
  rw [List.getD_eq_getElem?_getD, List.getD_eq_getElem?_getD, h1, h2]
  rfl
section
variable {X : Cx} {cl : Nat → Addr} {pins : List (Addr × Obj)} {σ : L2.St} {H F : Hp} {s : Shared}
theorem RpA.get {K : PySem.W.Frag} : ∀ {ps : List P} {vs : List V} {i : Nat} {v : V}, RpA K cl F ps vs → vs[i]? = some v → ∃ p, ps[i]? = some p ∧ Rp K cl F p v
  | _, _, _, _, .nil, e => by simp at e
  | _, _, 0, _, .cons r _, e => by simp at e; subst e; exact ⟨_, rfl, r⟩
  | _, _, i + 1, _, .cons _ t, e => by
    obtain ⟨u, h1, h2⟩ := RpA.get (i := i) t (by simpa using e)
    exact ⟨u, by simpa using h1, h2⟩
theorem RpA.len {K : PySem.W.Frag} {ps : List P} {vs : List V} (h : RpA K cl F ps vs) : ps.length = vs.length := by
  induction ps generalizing vs with
  | nil => cases h; rfl
  | cons x r ih => cases h with | cons a b => rw [List.length_cons, List.length_cons, ih b]
/-- a list's, a tuple's items, by place -/
theorem lst_items (I : L2.Inv X pins σ H s) (sf : Same F H) {ps : List P} {v : V} {u : Value} (r : Rp X.K cl F (.lst ps) v) (ru : RelV v u) : ∃ a its, u = .ref a ∧ v = .ref a ∧ s.heap.IsList a its ∧ its.size = ps.length ∧ ∀ j (hj : j < its.size), ∃ p w, ps[j]? = some p ∧ Rp X.K cl F p w ∧ RelV w its[j] := by
  cases r with
  | @lst a _ vs q t =>
    cases ru
    obtain ⟨its, rv, pl, hz⟩ := I.list (SqL.mono sf q)
    have e1 := rv.length
    have e2 := t.len
    refine ⟨a, its.toArray, rfl, rfl, pl.isList, by rw [List.size_toArray]; omega, fun j hj => ?_⟩
    have hj2 : j < its.length := by simpa using hj
    have hv : vs[j]? = some vs[j] := List.getElem?_eq_getElem (by omega)
    obtain ⟨p, hp, rp⟩ := t.get hv
    obtain ⟨w, hw, rw'⟩ := rv.get hv
    refine ⟨p, vs[j], hp, rp, ?_⟩
    have : its[j] = w := by
      rw [List.getElem?_eq_getElem hj2] at hw
      exact Option.some.inj hw
    rw [List.getElem_toArray, this]
    exact rw'
theorem tup_items (I : L2.Inv X pins σ H s) (sf : Same F H) {ps : List P} {v : V} {u : Value} (r : Rp X.K cl F (.tup ps) v) (ru : RelV v u) : ∃ a its, u = .ref a ∧ v = .ref a ∧ s.heap.IsTuple a its ∧ its.size = ps.length ∧ ∀ j (hj : j < its.size), ∃ p w, ps[j]? = some p ∧ Rp X.K cl F p w ∧ RelV w its[j] := by
  cases r with
  | @tup a _ vs q t =>
    cases ru
    obtain ⟨its, rv, pl, hz⟩ := I.tuple (SqT.mono sf q)
    have e1 := rv.length
    have e2 := t.len
    refine ⟨a, its.toArray, rfl, rfl, pl, by rw [List.size_toArray]; omega, fun j hj => ?_⟩
    have hj2 : j < its.length := by simpa using hj
    have hv : vs[j]? = some vs[j] := List.getElem?_eq_getElem (by omega)
    obtain ⟨p, hp, rp⟩ := t.get hv
    obtain ⟨w, hw, rw'⟩ := rv.get hv
    refine ⟨p, vs[j], hp, rp, ?_⟩
    have : its[j] = w := by
      rw [List.getElem?_eq_getElem hj2] at hw
      exact Option.some.inj hw
    rw [List.getElem_toArray, this]
    exact rw'
theorem okd_at {k : Nat} {ps : List P} (h : ps.all (okd k) = true) {j : Nat} {p : P} (e : ps[j]? = some p) : okd k p = true := List.all_eq_true.mp h p (List.mem_of_getElem? e)
mutual
theorem peq_refl : ∀ (k : Nat) (p : P), okd k p = true → peq p p = true
  | _, .non, _ => rfl
  | _, .bl b, _ => by simp [peq]
  | _, .int i, _ => by simp [peq]
  | _, .str x, _ => by simp [peq]
  | 0, .lst _, h => by simp [okd] at h
  | 0, .tup _, h => by simp [okd] at h
  | k + 1, .lst ps, h => by rw [peq]; exact peqA_refl k ps (by simpa [okd] using h)
  | k + 1, .tup ps, h => by rw [peq]; exact peqA_refl k ps (by simpa [okd] using h)
  | 0, .dK _, h => by simp [okd] at h
  | _ + 1, .dK _, h => by simp [okd] at h
  | 0, .dT _, h => by simp [okd] at h
  | _ + 1, .dT _, h => by simp [okd] at h
  | 0, .ins _ _, h => by simp [okd] at h
  | _ + 1, .ins _ _, h => by simp [okd] at h
theorem peqA_refl : ∀ (k : Nat) (ps : List P), (∀ x, x ∈ ps → okd k x = true) → peqA ps ps = true
  | _, [], _ => rfl
  | k, p :: ps, h => by rw [peqA, peq_refl k p (h p List.mem_cons_self), peqA_refl k ps (fun x hx => h x (List.mem_cons_of_mem _ hx))]; rfl
end
/-- one address holds one datum -/
theorem Rp.uniq (I : L2.Inv X pins σ H s) (sf : Same F H) : ∀ (k : Nat) (p q : P) (v : V), okd k p = true → okd k q = true → Rp X.K cl F p v → Rp X.K cl F q v → p = q := by
  intro k
  induction k with
  | zero =>
    intro p q v hp hq r1 r2
    cases p <;> cases q <;> first | (simp [okd] at hp; done) | (simp [okd] at hq; done) | (cases r1; cases r2; rfl) | (cases r1; cases r2)
  | succ k ih =>
    have all : ∀ (ps qs : List P) (vs : List V), ps.all (okd k) = true → qs.all (okd k) = true → RpA X.K cl F ps vs → RpA X.K cl F qs vs → ps = qs := by
      intro ps
      induction ps with
      | nil => intro qs vs _ _ r1 r2; cases r1; cases r2; rfl
      | cons p ps ihp =>
        intro qs vs h1 h2 r1 r2
        cases r1 with
        | cons a b =>
          cases r2 with
          | cons c d =>
            simp only [List.all_cons, Bool.and_eq_true] at h1 h2
            rw [ih _ _ _ h1.1 h2.1 a c, ihp _ _ h1.2 h2.2 b d]
    intro p q v hp hq r1 r2
    have lt : ∀ {a : Addr} {xs ys : List V}, SqL X.K F a xs → SqT X.K F a ys → False := fun {a xs ys} h1 h2 => by
      obtain ⟨its, _, ⟨o, n, e, c, _⟩, _⟩ := I.list (SqL.mono sf h1)
      obtain ⟨its2, _, ⟨o2, e2, c2, _⟩, _⟩ := I.tuple (SqT.mono sf h2)
      rw [e] at e2; cases e2
      rw [c] at c2
      injection c2 with c3
      exact absurd c3 (by decide)
    cases p <;> cases q <;> first | (simp [okd] at hp; done) | (simp [okd] at hq; done) | (cases r1; cases r2; rfl) | (cases r1; cases r2; done) | skip
    · cases r1 with
      | tup q1 t1 =>
        cases r2 with
        | tup q2 t2 =>
          have e := I.tuple_inj (SqT.mono sf q1) (SqT.mono sf q2)
          subst e
          rw [all _ _ _ (by simpa [okd] using hp) (by simpa [okd] using hq) t1 t2]
    · cases r1 with
      | tup q1 t1 => cases r2 with | lst q2 t2 => exact (lt q2 q1).elim
    · cases r1 with
      | lst q1 t1 => cases r2 with | tup q2 t2 => exact (lt q1 q2).elim
    · cases r1 with
      | lst q1 t1 =>
        cases r2 with
        | lst q2 t2 =>
          have e := I.list_inj (SqL.mono sf q1) (SqL.mono sf q2)
          subst e
          rw [all _ _ _ (by simpa [okd] using hp) (by simpa [okd] using hq) t1 t2]
theorem flat_V {K : PySem.W.Frag} : ∀ {p : P} {v : V}, okd 0 p = true → Rp K cl F p v → flatV v = true ∧ ∀ {q : P} {w : V}, okd 0 q = true → Rp K cl F q w → eqV v w = peq p q
  | .non, _, _, .non => ⟨rfl, fun {q w} hq r => by cases q <;> first | (simp [okd] at hq; done) | (cases r; simp [eqV, peq])⟩
  | .bl a, _, _, .bl _ => ⟨rfl, fun {q w} hq r => by cases q <;> first | (simp [okd] at hq; done) | (cases r; simp [eqV, peq])⟩
  | .int i, _, _, .int _ => ⟨rfl, fun {q w} hq r => by cases q <;> first | (simp [okd] at hq; done) | (cases r; simp [eqV, peq])⟩
  | .str x, _, _, .str _ => ⟨rfl, fun {q w} hq r => by cases q <;> first | (simp [okd] at hq; done) | (cases r; simp [eqV, peq])⟩
theorem eqAt_flat (p q : P) (v w : V) (u z : Value) (A : Around) (hp : okd 0 p = true) (hq : okd 0 q = true) (r1 : Rp X.K cl F p v) (e1 : RelV v u) (r2 : Rp X.K cl F q w) (e2 : RelV w z) : SeqAt.EqAt A s u z (peq p q) := by
  obtain ⟨f1, h⟩ := flat_V hp r1
  rw [← h hq r2]
  exact eqAt_V e1 e2 f1 (flat_V hq r2).1
theorem eqAt_P (I : L2.Inv X pins σ H s) (sf : Same F H) : ∀ (k : Nat) (p q : P) (v w : V) (u z : Value) (A : Around), okd k p = true → okd k q = true → Rp X.K cl F p v → RelV v u → Rp X.K cl F q w → RelV w z → A.units + k < cLine → SeqAt.EqAt A s u z (peq p q) := by
  intro k
  induction k with
  | zero =>
    intro p q v w u z A hp hq r1 e1 r2 e2 hu
    exact eqAt_flat p q v w u z A hp hq r1 e1 r2 e2
  | succ k ih =>
    intro p q v w u z A hp hq r1 e1 r2 e2 hu
    have hu0 : A.units < cLine := by omega
    have flat : okd 0 p = true → okd 0 q = true → SeqAt.EqAt A s u z (peq p q) := fun h1 h2 => by
      have up : ∀ x : P, okd 0 x = true → okd k x = true := fun x h => by cases x <;> first | (simp [okd] at h; done) | (cases k <;> rfl)
      exact ih p q v w u z A (up p h1) (up q h2) r1 e1 r2 e2 (by omega)
    cases p with
    | dK _ => simp [okd] at hp
    | dT _ => simp [okd] at hp
    | ins _ _ => simp [okd] at hp
    | lst ps =>
      obtain ⟨a, its, eu, ev, il, hs, hi⟩ := lst_items I sf r1 e1
      subst eu
      cases q with
      | dK _ => simp [okd] at hq
      | dT _ => simp [okd] at hq
      | ins _ _ => simp [okd] at hq
      | non => cases r2; cases e2; exact SeqAt.EqAt.list_none il hu0
      | bl b => cases r2; cases e2; exact SeqAt.EqAt.list_bool b il hu0
      | int i => cases r2; obtain ⟨t, rfl⟩ := e2; exact SeqAt.EqAt.list_int i t il hu0
      | str i => cases r2; obtain ⟨t, rfl⟩ := e2; exact SeqAt.EqAt.list_str i t il hu0
      | tup qs =>
        obtain ⟨b, its2, eu2, ev2, il2, hs2, hi2⟩ := tup_items I sf r2 e2
        subst eu2
        exact SeqAt.EqAt.list_tuple il il2 hu0
      | lst qs =>
        obtain ⟨b, its2, eu2, ev2, il2, hs2, hi2⟩ := lst_items I sf r2 e2
        subst eu2
        by_cases hab : a = b
        · subst hab
          rw [ev] at r1
          rw [ev2] at r2
          rw [Rp.uniq I sf _ _ _ _ hp hq r1 r2, peq_refl _ _ hq]
          exact SeqAt.EqAt.same _
        · rw [peq]
          by_cases hsz : its.size = its2.size
          · rw [peqA_all (by omega : ps.length = qs.length), ← hs]
            refine SeqAt.EqAt.of_refs hab (SeqAt.RcAt.lists il il2 hsz hu0 fun j h1 h2 => ?_)
            obtain ⟨x, w1, hx, rx, ex⟩ := hi j h1
            obtain ⟨y, w2, hy, ry, ey⟩ := hi2 j h2
            rw [pAt_get hx hy]
            exact ih x y w1 w2 _ _ A.in1 (okd_at (by simpa only [okd] using hp) hx) (okd_at (by simpa only [okd] using hq) hy) rx ex ry ey (by show A.units + 1 + k < cLine; omega)
          · rw [peqA_len (by omega : ps.length ≠ qs.length)]
            exact SeqAt.EqAt.of_refs hab (SeqAt.RcAt.lists_lengths il il2 (by simpa using hsz) hu0)
    | tup ps =>
      obtain ⟨a, its, eu, ev, il, hs, hi⟩ := tup_items I sf r1 e1
      subst eu
      cases q with
      | dK _ => simp [okd] at hq
      | dT _ => simp [okd] at hq
      | ins _ _ => simp [okd] at hq
      | non => cases r2; cases e2; exact SeqAt.EqAt.tuple_none il hu0
      | bl b => cases r2; cases e2; exact SeqAt.EqAt.tuple_bool b il hu0
      | int i => cases r2; obtain ⟨t, rfl⟩ := e2; exact SeqAt.EqAt.tuple_int i t il hu0
      | str i => cases r2; obtain ⟨t, rfl⟩ := e2; exact SeqAt.EqAt.tuple_str i t il hu0
      | lst qs =>
        obtain ⟨b, its2, eu2, ev2, il2, hs2, hi2⟩ := lst_items I sf r2 e2
        subst eu2
        exact SeqAt.EqAt.tuple_list il il2 hu0
      | tup qs =>
        obtain ⟨b, its2, eu2, ev2, il2, hs2, hi2⟩ := tup_items I sf r2 e2
        subst eu2
        by_cases hab : a = b
        · subst hab
          rw [ev] at r1
          rw [ev2] at r2
          rw [Rp.uniq I sf _ _ _ _ hp hq r1 r2, peq_refl _ _ hq]
          exact SeqAt.EqAt.same _
        · rw [peq]
          have main := SeqAt.RcAt.tuples (A := A) (s := s) (e := pAt ps qs) il il2 hu0 fun j h1 h2 => by
            obtain ⟨x, w1, hx, rx, ex⟩ := hi j h1
            obtain ⟨y, w2, hy, ry, ey⟩ := hi2 j h2
            rw [pAt_get hx hy]
            exact ih x y w1 w2 _ _ A.in1 (okd_at (by simpa only [okd] using hp) hx) (okd_at (by simpa only [okd] using hq) hy) rx ex ry ey (by show A.units + 1 + k < cLine; omega)
          by_cases hsz : its.size = its2.size
          · rw [peqA_all (by omega : ps.length = qs.length), ← hs]
            rw [hsz, Nat.min_self, beq_self_eq_true, Bool.and_true, ← hsz] at main
            exact SeqAt.EqAt.of_refs hab main
          · rw [peqA_len (by omega : ps.length ≠ qs.length)]
            have : (its.size == its2.size) = false := beq_eq_false_iff_ne.mpr hsz
            rw [this, Bool.and_false] at main
            exact SeqAt.EqAt.of_refs hab main
    | non =>
      cases q with
      | lst qs => obtain ⟨b, its2, eu2, ev2, il2, hs2, hi2⟩ := lst_items I sf r2 e2; subst eu2; cases r1; cases e1; exact SeqAt.EqAt.none_list il2 hu0
      | tup qs => obtain ⟨b, its2, eu2, ev2, il2, hs2, hi2⟩ := tup_items I sf r2 e2; subst eu2; cases r1; cases e1; exact SeqAt.EqAt.none_tuple il2 hu0
      | dK _ => simp [okd] at hq
      | dT _ => simp [okd] at hq
      | ins _ _ => simp [okd] at hq
      | _ => exact flat rfl rfl
    | bl c =>
      cases q with
      | lst qs => obtain ⟨b, its2, eu2, ev2, il2, hs2, hi2⟩ := lst_items I sf r2 e2; subst eu2; cases r1; cases e1; exact SeqAt.EqAt.bool_list c il2 hu0
      | tup qs => obtain ⟨b, its2, eu2, ev2, il2, hs2, hi2⟩ := tup_items I sf r2 e2; subst eu2; cases r1; cases e1; exact SeqAt.EqAt.bool_tuple c il2 hu0
      | dK _ => simp [okd] at hq
      | dT _ => simp [okd] at hq
      | ins _ _ => simp [okd] at hq
      | _ => exact flat rfl rfl
    | int c =>
      cases q with
      | lst qs => obtain ⟨b, its2, eu2, ev2, il2, hs2, hi2⟩ := lst_items I sf r2 e2; subst eu2; cases r1; obtain ⟨t, rfl⟩ := e1; exact SeqAt.EqAt.int_list c t il2 hu0
      | tup qs => obtain ⟨b, its2, eu2, ev2, il2, hs2, hi2⟩ := tup_items I sf r2 e2; subst eu2; cases r1; obtain ⟨t, rfl⟩ := e1; exact SeqAt.EqAt.int_tuple c t il2 hu0
      | dK _ => simp [okd] at hq
      | dT _ => simp [okd] at hq
      | ins _ _ => simp [okd] at hq
      | _ => exact flat rfl rfl
    | str c =>
      cases q with
      | lst qs => obtain ⟨b, its2, eu2, ev2, il2, hs2, hi2⟩ := lst_items I sf r2 e2; subst eu2; cases r1; obtain ⟨t, rfl⟩ := e1; exact SeqAt.EqAt.str_list c t il2 hu0
      | tup qs => obtain ⟨b, its2, eu2, ev2, il2, hs2, hi2⟩ := tup_items I sf r2 e2; subst eu2; cases r1; obtain ⟨t, rfl⟩ := e1; exact SeqAt.EqAt.str_tuple c t il2 hu0
      | dK _ => simp [okd] at hq
      | dT _ => simp [okd] at hq
      | ins _ _ => simp [okd] at hq
      | _ => exact flat rfl rfl
theorem rcAt_P (I : L2.Inv X pins σ H s) (sf : Same F H) (k : Nat) (p q : P) (v w : V) (u z : Value) (A : Around) (hp : okd (k + 1) p = true) (hq : okd (k + 1) q = true) (r1 : Rp X.K cl F p v) (e1 : RelV v u) (r2 : Rp X.K cl F q w) (e2 : RelV w z) (hu : A.units + k + 1 < cLine) : SeqAt.RcAt A s u z (peq p q) := by
  have hu0 : A.units < cLine := by omega
  cases p with
  | non =>
    cases r1; cases e1
    cases q with
    | non =>
      cases r2; cases e2
      exact SeqAt.RcAt.none_none
    | bl c2 =>
      cases r2; cases e2
      exact SeqAt.RcAt.none_bool c2
    | int c2 =>
      cases r2; obtain ⟨t2, rfl⟩ := e2
      exact SeqAt.RcAt.none_int c2 t2
    | str c2 =>
      cases r2; obtain ⟨t2, rfl⟩ := e2
      exact SeqAt.RcAt.none_str c2 t2
    | lst qs =>
      obtain ⟨b, its2, eu2, ev2, il2, hs2, hi2⟩ := lst_items I sf r2 e2
      subst eu2
      exact SeqAt.RcAt.none_list il2 hu0
    | tup qs =>
      obtain ⟨b, its2, eu2, ev2, il2, hs2, hi2⟩ := tup_items I sf r2 e2
      subst eu2
      exact SeqAt.RcAt.none_tuple il2 hu0
    | dK _ => simp [okd] at hq
    | dT _ => simp [okd] at hq
    | ins _ _ => simp [okd] at hq
  | bl c =>
    cases r1; cases e1
    cases q with
    | non =>
      cases r2; cases e2
      exact SeqAt.RcAt.bool_none c
    | bl c2 =>
      cases r2; cases e2
      exact SeqAt.RcAt.bool_bool c c2
    | int c2 =>
      cases r2; obtain ⟨t2, rfl⟩ := e2
      exact SeqAt.RcAt.bool_int c c2 t2
    | str c2 =>
      cases r2; obtain ⟨t2, rfl⟩ := e2
      exact SeqAt.RcAt.bool_str c c2 t2
    | lst qs =>
      obtain ⟨b, its2, eu2, ev2, il2, hs2, hi2⟩ := lst_items I sf r2 e2
      subst eu2
      exact SeqAt.RcAt.bool_list c il2 hu0
    | tup qs =>
      obtain ⟨b, its2, eu2, ev2, il2, hs2, hi2⟩ := tup_items I sf r2 e2
      subst eu2
      exact SeqAt.RcAt.bool_tuple c il2 hu0
    | dK _ => simp [okd] at hq
    | dT _ => simp [okd] at hq
    | ins _ _ => simp [okd] at hq
  | int c =>
    cases r1; obtain ⟨t, rfl⟩ := e1
    cases q with
    | non =>
      cases r2; cases e2
      exact SeqAt.RcAt.int_none c t
    | bl c2 =>
      cases r2; cases e2
      exact SeqAt.RcAt.int_bool c t c2
    | int c2 =>
      cases r2; obtain ⟨t2, rfl⟩ := e2
      exact SeqAt.RcAt.int_int c t c2 t2
    | str c2 =>
      cases r2; obtain ⟨t2, rfl⟩ := e2
      exact SeqAt.RcAt.int_str c t c2 t2
    | lst qs =>
      obtain ⟨b, its2, eu2, ev2, il2, hs2, hi2⟩ := lst_items I sf r2 e2
      subst eu2
      exact SeqAt.RcAt.int_list c t il2 hu0
    | tup qs =>
      obtain ⟨b, its2, eu2, ev2, il2, hs2, hi2⟩ := tup_items I sf r2 e2
      subst eu2
      exact SeqAt.RcAt.int_tuple c t il2 hu0
    | dK _ => simp [okd] at hq
    | dT _ => simp [okd] at hq
    | ins _ _ => simp [okd] at hq
  | str c =>
    cases r1; obtain ⟨t, rfl⟩ := e1
    cases q with
    | non =>
      cases r2; cases e2
      exact SeqAt.RcAt.str_none c t
    | bl c2 =>
      cases r2; cases e2
      exact SeqAt.RcAt.str_bool c t c2
    | int c2 =>
      cases r2; obtain ⟨t2, rfl⟩ := e2
      exact SeqAt.RcAt.str_int c t c2 t2
    | str c2 =>
      cases r2; obtain ⟨t2, rfl⟩ := e2
      exact SeqAt.RcAt.str_str c t c2 t2
    | lst qs =>
      obtain ⟨b, its2, eu2, ev2, il2, hs2, hi2⟩ := lst_items I sf r2 e2
      subst eu2
      exact SeqAt.RcAt.str_list c t il2 hu0
    | tup qs =>
      obtain ⟨b, its2, eu2, ev2, il2, hs2, hi2⟩ := tup_items I sf r2 e2
      subst eu2
      exact SeqAt.RcAt.str_tuple c t il2 hu0
    | dK _ => simp [okd] at hq
    | dT _ => simp [okd] at hq
    | ins _ _ => simp [okd] at hq
  | lst ps =>
    obtain ⟨a, its, eu, ev, il, hs, hi⟩ := lst_items I sf r1 e1
    subst eu
    cases q with
    | non =>
      cases r2; cases e2
      exact SeqAt.RcAt.list_none il hu0
    | bl c2 =>
      cases r2; cases e2
      exact SeqAt.RcAt.list_bool c2 il hu0
    | int c2 =>
      cases r2; obtain ⟨t2, rfl⟩ := e2
      exact SeqAt.RcAt.list_int c2 t2 il hu0
    | str c2 =>
      cases r2; obtain ⟨t2, rfl⟩ := e2
      exact SeqAt.RcAt.list_str c2 t2 il hu0
    | lst qs =>
      obtain ⟨b, its2, eu2, ev2, il2, hs2, hi2⟩ := lst_items I sf r2 e2
      subst eu2
      have he : ∀ j (h1 : j < its.size) (h2 : j < its2.size), SeqAt.EqAt A.in1 s its[j] its2[j] (pAt ps qs j) := fun j h1 h2 => by
        obtain ⟨x, w1, hx, rx, ex⟩ := hi j h1
        obtain ⟨y, w2, hy, ry, ey⟩ := hi2 j h2
        rw [pAt_get hx hy]
        exact eqAt_P I sf k x y w1 w2 _ _ A.in1 (okd_at (by simpa only [okd] using hp) hx) (okd_at (by simpa only [okd] using hq) hy) rx ex ry ey (by show A.units + 1 + k < cLine; omega)
      rw [peq]
      by_cases hsz : its.size = its2.size
      · rw [peqA_all (by omega : ps.length = qs.length), ← hs]
        exact SeqAt.RcAt.lists il il2 hsz hu0 he
      · rw [peqA_len (by omega : ps.length ≠ qs.length)]
        exact SeqAt.RcAt.lists_lengths il il2 (by simpa using hsz) hu0
    | tup qs =>
      obtain ⟨b, its2, eu2, ev2, il2, hs2, hi2⟩ := tup_items I sf r2 e2
      subst eu2
      exact SeqAt.RcAt.list_tuple il il2 hu0
    | dK _ => simp [okd] at hq
    | dT _ => simp [okd] at hq
    | ins _ _ => simp [okd] at hq
  | tup ps =>
    obtain ⟨a, its, eu, ev, il, hs, hi⟩ := tup_items I sf r1 e1
    subst eu
    cases q with
    | non =>
      cases r2; cases e2
      exact SeqAt.RcAt.tuple_none il hu0
    | bl c2 =>
      cases r2; cases e2
      exact SeqAt.RcAt.tuple_bool c2 il hu0
    | int c2 =>
      cases r2; obtain ⟨t2, rfl⟩ := e2
      exact SeqAt.RcAt.tuple_int c2 t2 il hu0
    | str c2 =>
      cases r2; obtain ⟨t2, rfl⟩ := e2
      exact SeqAt.RcAt.tuple_str c2 t2 il hu0
    | lst qs =>
      obtain ⟨b, its2, eu2, ev2, il2, hs2, hi2⟩ := lst_items I sf r2 e2
      subst eu2
      exact SeqAt.RcAt.tuple_list il il2 hu0
    | tup qs =>
      obtain ⟨b, its2, eu2, ev2, il2, hs2, hi2⟩ := tup_items I sf r2 e2
      subst eu2
      have he : ∀ j (h1 : j < its.size) (h2 : j < its2.size), SeqAt.EqAt A.in1 s its[j] its2[j] (pAt ps qs j) := fun j h1 h2 => by
        obtain ⟨x, w1, hx, rx, ex⟩ := hi j h1
        obtain ⟨y, w2, hy, ry, ey⟩ := hi2 j h2
        rw [pAt_get hx hy]
        exact eqAt_P I sf k x y w1 w2 _ _ A.in1 (okd_at (by simpa only [okd] using hp) hx) (okd_at (by simpa only [okd] using hq) hy) rx ex ry ey (by show A.units + 1 + k < cLine; omega)
      rw [peq]
      have main := SeqAt.RcAt.tuples (A := A) (s := s) (e := pAt ps qs) il il2 hu0 he
      by_cases hsz : its.size = its2.size
      · rw [peqA_all (by omega : ps.length = qs.length), ← hs]
        rw [hsz, Nat.min_self, beq_self_eq_true, Bool.and_true, ← hsz] at main
        exact main
      · rw [peqA_len (by omega : ps.length ≠ qs.length)]
        have z : (its.size == its2.size) = false := beq_eq_false_iff_ne.mpr hsz
        rw [z, Bool.and_false] at main
        exact main
    | dK _ => simp [okd] at hq
    | dT _ => simp [okd] at hq
    | ins _ _ => simp [okd] at hq
  | dK _ => simp [okd] at hp
  | dT _ => simp [okd] at hp
  | ins _ _ => simp [okd] at hp
theorem rcNe_P (I : L2.Inv X pins σ H s) (sf : Same F H) (k : Nat) (p q : P) (v w : V) (u z : Value) (A : Around) (hp : okd (k + 1) p = true) (hq : okd (k + 1) q = true) (r1 : Rp X.K cl F p v) (e1 : RelV v u) (r2 : Rp X.K cl F q w) (e2 : RelV w z) (hu : A.units + k + 1 < cLine) : SeqAt.RcNeAt A s u z (!peq p q) := by
  have hu0 : A.units < cLine := by omega
  cases p with
  | non =>
    cases r1; cases e1
    cases q with
    | non =>
      cases r2; cases e2
      exact SeqAt.RcNeAt.none_none
    | bl c2 =>
      cases r2; cases e2
      exact SeqAt.RcNeAt.none_bool c2
    | int c2 =>
      cases r2; obtain ⟨t2, rfl⟩ := e2
      exact SeqAt.RcNeAt.none_int c2 t2
    | str c2 =>
      cases r2; obtain ⟨t2, rfl⟩ := e2
      exact SeqAt.RcNeAt.none_str c2 t2
    | lst qs =>
      obtain ⟨b, its2, eu2, ev2, il2, hs2, hi2⟩ := lst_items I sf r2 e2
      subst eu2
      exact SeqAt.RcNeAt.none_list il2 hu0
    | tup qs =>
      obtain ⟨b, its2, eu2, ev2, il2, hs2, hi2⟩ := tup_items I sf r2 e2
      subst eu2
      exact SeqAt.RcNeAt.none_tuple il2 hu0
    | dK _ => simp [okd] at hq
    | dT _ => simp [okd] at hq
    | ins _ _ => simp [okd] at hq
  | bl c =>
    cases r1; cases e1
    cases q with
    | non =>
      cases r2; cases e2
      exact SeqAt.RcNeAt.bool_none c
    | bl c2 =>
      cases r2; cases e2
      exact SeqAt.RcNeAt.bool_bool c c2
    | int c2 =>
      cases r2; obtain ⟨t2, rfl⟩ := e2
      exact SeqAt.RcNeAt.bool_int c c2 t2
    | str c2 =>
      cases r2; obtain ⟨t2, rfl⟩ := e2
      exact SeqAt.RcNeAt.bool_str c c2 t2
    | lst qs =>
      obtain ⟨b, its2, eu2, ev2, il2, hs2, hi2⟩ := lst_items I sf r2 e2
      subst eu2
      exact SeqAt.RcNeAt.bool_list c il2 hu0
    | tup qs =>
      obtain ⟨b, its2, eu2, ev2, il2, hs2, hi2⟩ := tup_items I sf r2 e2
      subst eu2
      exact SeqAt.RcNeAt.bool_tuple c il2 hu0
    | dK _ => simp [okd] at hq
    | dT _ => simp [okd] at hq
    | ins _ _ => simp [okd] at hq
  | int c =>
    cases r1; obtain ⟨t, rfl⟩ := e1
    cases q with
    | non =>
      cases r2; cases e2
      exact SeqAt.RcNeAt.int_none c t
    | bl c2 =>
      cases r2; cases e2
      exact SeqAt.RcNeAt.int_bool c t c2
    | int c2 =>
      cases r2; obtain ⟨t2, rfl⟩ := e2
      exact SeqAt.RcNeAt.int_int c t c2 t2
    | str c2 =>
      cases r2; obtain ⟨t2, rfl⟩ := e2
      exact SeqAt.RcNeAt.int_str c t c2 t2
    | lst qs =>
      obtain ⟨b, its2, eu2, ev2, il2, hs2, hi2⟩ := lst_items I sf r2 e2
      subst eu2
      exact SeqAt.RcNeAt.int_list c t il2 hu0
    | tup qs =>
      obtain ⟨b, its2, eu2, ev2, il2, hs2, hi2⟩ := tup_items I sf r2 e2
      subst eu2
      exact SeqAt.RcNeAt.int_tuple c t il2 hu0
    | dK _ => simp [okd] at hq
    | dT _ => simp [okd] at hq
    | ins _ _ => simp [okd] at hq
  | str c =>
    cases r1; obtain ⟨t, rfl⟩ := e1
    cases q with
    | non =>
      cases r2; cases e2
      exact SeqAt.RcNeAt.str_none c t
    | bl c2 =>
      cases r2; cases e2
      exact SeqAt.RcNeAt.str_bool c t c2
    | int c2 =>
      cases r2; obtain ⟨t2, rfl⟩ := e2
      exact SeqAt.RcNeAt.str_int c t c2 t2
    | str c2 =>
      cases r2; obtain ⟨t2, rfl⟩ := e2
      exact SeqAt.RcNeAt.str_str c t c2 t2
    | lst qs =>
      obtain ⟨b, its2, eu2, ev2, il2, hs2, hi2⟩ := lst_items I sf r2 e2
      subst eu2
      exact SeqAt.RcNeAt.str_list c t il2 hu0
    | tup qs =>
      obtain ⟨b, its2, eu2, ev2, il2, hs2, hi2⟩ := tup_items I sf r2 e2
      subst eu2
      exact SeqAt.RcNeAt.str_tuple c t il2 hu0
    | dK _ => simp [okd] at hq
    | dT _ => simp [okd] at hq
    | ins _ _ => simp [okd] at hq
  | lst ps =>
    obtain ⟨a, its, eu, ev, il, hs, hi⟩ := lst_items I sf r1 e1
    subst eu
    cases q with
    | non =>
      cases r2; cases e2
      exact SeqAt.RcNeAt.list_none il hu0
    | bl c2 =>
      cases r2; cases e2
      exact SeqAt.RcNeAt.list_bool c2 il hu0
    | int c2 =>
      cases r2; obtain ⟨t2, rfl⟩ := e2
      exact SeqAt.RcNeAt.list_int c2 t2 il hu0
    | str c2 =>
      cases r2; obtain ⟨t2, rfl⟩ := e2
      exact SeqAt.RcNeAt.list_str c2 t2 il hu0
    | lst qs =>
      obtain ⟨b, its2, eu2, ev2, il2, hs2, hi2⟩ := lst_items I sf r2 e2
      subst eu2
      have he : ∀ j (h1 : j < its.size) (h2 : j < its2.size), SeqAt.EqAt A.in1 s its[j] its2[j] (pAt ps qs j) := fun j h1 h2 => by
        obtain ⟨x, w1, hx, rx, ex⟩ := hi j h1
        obtain ⟨y, w2, hy, ry, ey⟩ := hi2 j h2
        rw [pAt_get hx hy]
        exact eqAt_P I sf k x y w1 w2 _ _ A.in1 (okd_at (by simpa only [okd] using hp) hx) (okd_at (by simpa only [okd] using hq) hy) rx ex ry ey (by show A.units + 1 + k < cLine; omega)
      rw [peq]
      by_cases hsz : its.size = its2.size
      · rw [peqA_all (by omega : ps.length = qs.length), ← hs]
        exact SeqAt.RcNeAt.lists il il2 hsz hu0 he
      · rw [peqA_len (by omega : ps.length ≠ qs.length)]
        exact SeqAt.RcNeAt.lists_lengths il il2 (by simpa using hsz) hu0
    | tup qs =>
      obtain ⟨b, its2, eu2, ev2, il2, hs2, hi2⟩ := tup_items I sf r2 e2
      subst eu2
      exact SeqAt.RcNeAt.list_tuple il il2 hu0
    | dK _ => simp [okd] at hq
    | dT _ => simp [okd] at hq
    | ins _ _ => simp [okd] at hq
  | tup ps =>
    obtain ⟨a, its, eu, ev, il, hs, hi⟩ := tup_items I sf r1 e1
    subst eu
    cases q with
    | non =>
      cases r2; cases e2
      exact SeqAt.RcNeAt.tuple_none il hu0
    | bl c2 =>
      cases r2; cases e2
      exact SeqAt.RcNeAt.tuple_bool c2 il hu0
    | int c2 =>
      cases r2; obtain ⟨t2, rfl⟩ := e2
      exact SeqAt.RcNeAt.tuple_int c2 t2 il hu0
    | str c2 =>
      cases r2; obtain ⟨t2, rfl⟩ := e2
      exact SeqAt.RcNeAt.tuple_str c2 t2 il hu0
    | lst qs =>
      obtain ⟨b, its2, eu2, ev2, il2, hs2, hi2⟩ := lst_items I sf r2 e2
      subst eu2
      exact SeqAt.RcNeAt.tuple_list il il2 hu0
    | tup qs =>
      obtain ⟨b, its2, eu2, ev2, il2, hs2, hi2⟩ := tup_items I sf r2 e2
      subst eu2
      have he : ∀ j (h1 : j < its.size) (h2 : j < its2.size), SeqAt.EqAt A.in1 s its[j] its2[j] (pAt ps qs j) := fun j h1 h2 => by
        obtain ⟨x, w1, hx, rx, ex⟩ := hi j h1
        obtain ⟨y, w2, hy, ry, ey⟩ := hi2 j h2
        rw [pAt_get hx hy]
        exact eqAt_P I sf k x y w1 w2 _ _ A.in1 (okd_at (by simpa only [okd] using hp) hx) (okd_at (by simpa only [okd] using hq) hy) rx ex ry ey (by show A.units + 1 + k < cLine; omega)
      rw [peq]
      have main := SeqAt.RcNeAt.tuples (A := A) (s := s) (e := pAt ps qs) il il2 hu0 he
      by_cases hsz : its.size = its2.size
      · rw [peqA_all (by omega : ps.length = qs.length), ← hs]
        rw [hsz, Nat.min_self, beq_self_eq_true, Bool.and_true, ← hsz] at main
        exact main
      · rw [peqA_len (by omega : ps.length ≠ qs.length)]
        have z : (its.size == its2.size) = false := beq_eq_false_iff_ne.mpr hsz
        rw [z, Bool.and_false] at main
        exact main
    | dK _ => simp [okd] at hq
    | dT _ => simp [okd] at hq
    | ins _ _ => simp [okd] at hq
  | dK _ => simp [okd] at hp
  | dT _ => simp [okd] at hp
  | ins _ _ => simp [okd] at hp
/-- what a value is as data, read where it stands -/
abbrev rdP (S : SH) (d : D) : Option P := toP 8 0 S d
@[simp] theorem rdP_p (S : SH) (x : P) : rdP S (.p x) = some x := id rfl
theorem rdP_ok {K : PySem.W.Frag} {S : SH} {B : List Nat} {F : Hp} {φ : Nat → Addr} {H : Hp} {d : D} {x : P} {v : V} (s : Sim K cl S B F φ H) (e : rdP S d = some x) (r : DR K cl F φ d v) : ∃ F', Same F F' ∧ Same F' H ∧ Rp K cl F' x v :=
  ⟨_, addF_le s 0, addF_heap s 0, toP_ok s 0 8 d x v e r⟩
/-- two at once -/
theorem rdP_ok2 {K : PySem.W.Frag} {S : SH} {B : List Nat} {F : Hp} {φ : Nat → Addr} {H : Hp} {d e : D} {x y : P} {v w : V} (s : Sim K cl S B F φ H) (e1 : rdP S d = some x) (e2 : rdP S e = some y) (r1 : DR K cl F φ d v) (r2 : DR K cl F φ e w) : ∃ F', Same F' H ∧ Rp K cl F' x v ∧ Rp K cl F' y w :=
  ⟨_, addF_heap s 0, toP_ok s 0 8 d x v e1 r1, toP_ok s 0 8 e y w e2 r2⟩
def fEq (neg : Bool) (d e : D) (S : SH) : Option (D × SH) := match rdP S d, rdP S e with
  | some x, some y => if okd 40 x = true ∧ okd 40 y = true then some (.p (.bl (if neg = true then !peq x y else peq x y)), S) else none
  | _, _ => none
def rEqP (K : PySem.W.Frag) (cl : Nat → Addr) (neg : Bool) : R2 := fun v w H Q => ∃ F x y, Same F H ∧ Rp K cl F x v ∧ Rp K cl F y w ∧ okd 40 x = true ∧ okd 40 y = true ∧ Q (.bl (if neg = true then !peq x y else peq x y)) H
theorem o_eq (hu : X.A.units + 64 < cLine) : OpR X (compareOp .Eq) (rEqP X.K cl false) := by
  intro pins s σ H x y v u Q I rx ry h
  obtain ⟨F, p, q, sf, r1, r2, h1, h2, k⟩ := h
  exact rcAt_P I sf 39 p q x y v u X.A h1 h2 r1 rx r2 ry (by omega) X.prog X.w X.xe _ ⟨.bl _, H, I, rfl, k⟩
theorem o_ne (hu : X.A.units + 64 < cLine) : OpR X (compareOp .NotEq) (rEqP X.K cl true) := by
  intro pins s σ H x y v u Q I rx ry h
  obtain ⟨F, p, q, sf, r1, r2, h1, h2, k⟩ := h
  exact rcNe_P I sf 39 p q x y v u X.A h1 h2 r1 rx r2 ry (by omega) X.prog X.w X.xe _ ⟨.bl _, H, I, rfl, k⟩
theorem d_eq {K : PySem.W.Frag} {neg : Bool} : OpD K cl (fEq neg) (rEqP K cl neg) := by
  intro S B F φ H d1 d2 x y Q s r1 r2 l1 l2 o
  unfold fEq at o
  cases e1 : rdP S d1 with
  | none => rw [e1] at o; obtain ⟨_, _, z, _⟩ := o; cases z
  | some p =>
    cases e2 : rdP S d2 with
    | none => rw [e1, e2] at o; obtain ⟨_, _, z, _⟩ := o; cases z
    | some q =>
      rw [e1, e2] at o
      dsimp only at o
      by_cases h : okd 40 p = true ∧ okd 40 q = true
      · rw [if_pos h] at o
        obtain ⟨F', sf, ra, rb⟩ := rdP_ok2 s e1 e2 r1 r2
        exact ⟨F', p, q, sf, ra, rb, h.1, h.2, o.fin0 rfl s (Rp.bl _) trivial⟩
      · rw [if_neg h] at o; obtain ⟨_, _, z, _⟩ := o; cases z
/-! ### in -/
def fIn (neg : Bool) (d e : D) (S : SH) : Option (D × SH) := match rdP S d, rdP S e with
  | some x, some (.lst ys) => if okd 40 x = true ∧ ys.all (okd 40) = true then some (.p (.bl (if neg = true then !ys.any (fun y => peq y x) else ys.any fun y => peq y x)), S) else none
  | some x, some (.tup ys) => if okd 40 x = true ∧ ys.all (okd 40) = true then some (.p (.bl (if neg = true then !ys.any (fun y => peq y x) else ys.any fun y => peq y x)), S) else none
  | _, _ => none
def rInP (K : PySem.W.Frag) (cl : Nat → Addr) (neg : Bool) : R2 := fun v w H Q => ∃ F x ys, Same F H ∧ Rp K cl F x v ∧ (Rp K cl F (.lst ys) w ∨ Rp K cl F (.tup ys) w) ∧ okd 40 x = true ∧ ys.all (okd 40) = true ∧ Q (.bl (if neg = true then !ys.any (fun y => peq y x) else ys.any fun y => peq y x)) H
theorem in_core {neg : Bool} {op : CmpOp} (hu : X.A.units + 65 < cLine)
    (hl : ∀ (s : Shared) (l : Addr) (items : Array Value) (x : Value) (e : Value → Bool) (Q : Value → Shared → Prop), s.heap.IsList l items → (∀ y, y ∈ items → SeqAt.EqAt X.A.in1 s y x (e y)) → Q (.bool (if neg = true then !items.any e else items.any e)) s → wpAny (model X.prog X.w) X.A (compareOp op x (.ref l)) Q X.xe s)
    (ht : ∀ (s : Shared) (l : Addr) (items : Array Value) (x : Value) (e : Value → Bool) (Q : Value → Shared → Prop), s.heap.IsTuple l items → (∀ y, y ∈ items → SeqAt.EqAt X.A.in1 s y x (e y)) → Q (.bool (if neg = true then !items.any e else items.any e)) s → wpAny (model X.prog X.w) X.A (compareOp op x (.ref l)) Q X.xe s) : OpR X (compareOp op) (rInP X.K cl neg) := by
  intro pins s σ H x y v u Q I rx ry h
  obtain ⟨F, p, ys, sf, r1, r2, h1, h2, k⟩ := h
  -- the items' answers, by the value
  classical
  have go : ∀ (its : Array Value), its.size = ys.length → (∀ j (hj : j < its.size), ∃ q w, ys[j]? = some q ∧ Rp X.K cl F q w ∧ RelV w its[j]) →
      ∃ e : Value → Bool, (∀ z, z ∈ its → SeqAt.EqAt X.A.in1 s z v (e z)) ∧ its.any e = ys.any fun q => peq q p := fun its hs hi => by
    have key : ∀ z, z ∈ its → ∃ b, (∀ j (hj : j < its.size), its[j] = z → ∀ q, ys[j]? = some q → peq q p = b) ∧ SeqAt.EqAt X.A.in1 s z v b := fun z hz => by
      obtain ⟨j, hj, ej⟩ := Array.mem_iff_getElem.mp hz
      obtain ⟨q, w, hq, rq, rw'⟩ := hi j hj
      refine ⟨peq q p, fun j2 hj2 e2 q2 hq2 => ?_, ?_⟩
      · obtain ⟨q', w', hq', rq', rw''⟩ := hi j2 hj2
        rw [hq'] at hq2; cases hq2
        rw [e2] at rw''
        rw [ej] at rw'
        have : w' = w := rw''.inj rw'
        subst this
        rw [Rp.uniq I sf 40 _ _ _ (okd_at h2 hq') (okd_at h2 hq) rq' rq]
      · rw [← ej]
        exact eqAt_P I sf 40 q p w x _ _ X.A.in1 (okd_at h2 hq) h1 rq rw' r1 rx (by show X.A.units + 1 + 40 < cLine; omega)
    refine ⟨fun z => if hz : z ∈ its then (key z hz).choose else false, fun z hz => ?_, ?_⟩
    · show SeqAt.EqAt X.A.in1 s z v (if hz : z ∈ its then (key z hz).choose else false)
      rw [dif_pos hz]; exact (key z hz).choose_spec.2
    · rw [Bool.eq_iff_iff]
      simp only [Array.any_eq_true, List.any_eq_true]
      constructor
      · rintro ⟨j, hj, e⟩
        obtain ⟨q, w, hq, _, _⟩ := hi j hj
        have hm : its[j] ∈ its := Array.getElem_mem hj
        rw [dif_pos hm] at e
        exact ⟨q, List.mem_of_getElem? hq, ((key _ hm).choose_spec.1 j hj rfl q hq).trans e⟩
      · rintro ⟨q, hq, e⟩
        obtain ⟨j, hj⟩ := List.getElem?_of_mem hq
        have hjl : j < its.size := by rw [hs]; exact (List.getElem?_eq_some_iff.mp hj).1
        have hm : its[j] ∈ its := Array.getElem_mem hjl
        refine ⟨j, hjl, ?_⟩
        rw [dif_pos hm]
        exact ((key _ hm).choose_spec.1 j hjl rfl q hj).symm.trans e
  rcases r2 with r2 | r2
  · obtain ⟨a, its, eu, ev, il, hs, hi⟩ := lst_items I sf r2 ry
    subst eu
    obtain ⟨e, he, hany⟩ := go its hs hi
    exact hl s a its v e _ il he ⟨.bl (if neg = true then !its.any e else its.any e), H, I, rfl, by rw [hany]; exact k⟩
  · obtain ⟨a, its, eu, ev, il, hs, hi⟩ := tup_items I sf r2 ry
    subst eu
    obtain ⟨e, he, hany⟩ := go its hs hi
    exact ht s a its v e _ il he ⟨.bl (if neg = true then !its.any e else its.any e), H, I, rfl, by rw [hany]; exact k⟩
theorem o_in (hu : X.A.units + 65 < cLine) : OpR X (compareOp .In) (rInP X.K cl false) :=
  in_core hu (fun s l items x e Q h he q => SeqAt.in_listAt e h he (by simpa using q)) (fun s l items x e Q h he q => SeqAt.in_tupleAt e h he (by simpa using q))
theorem o_notin (hu : X.A.units + 65 < cLine) : OpR X (compareOp .NotIn) (rInP X.K cl true) :=
  in_core hu (fun s l items x e Q h he q => SeqAt.notIn_listAt e h he (by simpa using q)) (fun s l items x e Q h he q => SeqAt.notIn_tupleAt e h he (by simpa using q))
theorem d_in {K : PySem.W.Frag} {neg : Bool} : OpD K cl (fIn neg) (rInP K cl neg) := by
  intro S B F φ H d1 d2 x y Q s r1 r2 l1 l2 o
  unfold fIn at o
  split at o
  · rename_i p ys e1 e2
    split at o
    · rename_i h
      obtain ⟨F', sf, ra, rb⟩ := rdP_ok2 s e1 e2 r1 r2
      exact ⟨F', p, ys, sf, ra, .inl rb, h.1, h.2, o.fin0 rfl s (Rp.bl _) trivial⟩
    · obtain ⟨_, _, z, _⟩ := o; cases z
  · rename_i p ys e1 e2
    split at o
    · rename_i h
      obtain ⟨F', sf, ra, rb⟩ := rdP_ok2 s e1 e2 r1 r2
      exact ⟨F', p, ys, sf, ra, .inr rb, h.1, h.2, o.fin0 rfl s (Rp.bl _) trivial⟩
    · obtain ⟨_, _, z, _⟩ := o; cases z
  · obtain ⟨_, _, z, _⟩ := o; cases z
end
end Pv
namespace Pv
open PySem PySem.Spec PyProof.Rows L2
section
variable {X : Cx} {K : PySem.W.Frag} {cl : Nat → Addr}
theorem OkE.no {S : SH} {B : List Nat} {F : Hp} {φ : Nat → Addr} {H : Hp} {Q : VK} {p : Prop} (h : OkE K cl S B F φ H none Q) : p := by obtain ⟨_, _, z, _⟩ := h; cases z
theorem drI {F : Hp} {φ : Nat → Addr} {i : Int} {x : V} (h : DR K cl F φ (.p (.int i)) x) : x = .int i := by cases (show Rp K cl F (.int i) x from h); rfl
theorem drS {F : Hp} {φ : Nat → Addr} {i : Str} {x : V} (h : DR K cl F φ (.p (.str i)) x) : x = .str i := by cases (show Rp K cl F (.str i) x from h); rfl
theorem drB {F : Hp} {φ : Nat → Addr} {i : Bool} {x : V} (h : DR K cl F φ (.p (.bl i)) x) : x = .bl i := by cases (show Rp K cl F (.bl i) x from h); rfl
theorem drN {F : Hp} {φ : Nat → Addr} {x : V} (h : DR K cl F φ (.p .non) x) : x = .non := by cases (show Rp K cl F .non x from h); rfl

/-! ### ints -/
/-- two ints under a test, a datum out -/
def fII (c : Int → Int → Bool) (g : Int → Int → P) (d e : D) (S : SH) : Option (D × SH) := match d, e with
  | .p (.int i), .p (.int j) => if c i j = true then some (.p (g i j), S) else none
  | _, _ => none
@[simp] theorem fII_eq (c : Int → Int → Bool) (g : Int → Int → P) (i j : Int) (S : SH) : fII c g (.p (.int i)) (.p (.int j)) S = if c i j = true then some (.p (g i j), S) else none := id rfl
theorem d_II {c : Int → Int → Bool} {C : Int → Int → Prop} {g : Int → Int → P} {g' : Int → Int → V} (hc : ∀ i j, c i j = true → C i j) (hg : ∀ F i j, Rp K cl F (g i j) (g' i j)) : OpD K cl (fII c g) (rI C g') := by
  intro S B F φ H d1 d2 x y Q s r1 r2 l1 l2 o
  unfold fII at o
  split at o
  · rename_i i j
    split at o
    · rename_i h
      exact ⟨i, j, drI r1, drI r2, hc i j h, o.fin0 rfl s (hg F i j) trivial⟩
    · exact o.no
  · exact o.no
theorem d_II0 {g : Int → Int → P} {g' : Int → Int → V} (hg : ∀ F i j, Rp K cl F (g i j) (g' i j)) : OpD K cl (fII (fun _ _ => true) g) (rI0 g') := by
  intro S B F φ H d1 d2 x y Q s r1 r2 l1 l2 o
  obtain ⟨i, j, h1, h2, _, q⟩ := d_II (C := fun _ _ => True) (fun _ _ _ => trivial) hg S B F φ H d1 d2 x y Q s r1 r2 l1 l2 o
  exact ⟨i, j, h1, h2, q⟩
abbrev fSub := fII (fun _ _ => true) fun i j => .int (i - j)
def mulOk (i j : Int) : Bool := decide (i.natAbs < 2 ^ 64) || decide (j.natAbs < 2 ^ 64) || decide (i.natAbs.log2 + j.natAbs.log2 < 1000000)
abbrev fMul := fII mulOk fun i j => .int (i * j)
def divOk (i j : Int) : Bool := decide (0 < j) && decide (j.natAbs.log2 < 9000)
abbrev fDiv := fII divOk fun i j => .int (i / j)
abbrev fMod := fII (fun _ j => decide (0 < j)) fun i j => .int (i % j)
def powOk (i j : Int) : Bool := decide (0 ≤ j) && decide (j ≤ 1000000) && decide (i.natAbs < 2 ^ 64)
abbrev fPow := fII powOk fun i j => .int (i ^ j.toNat)
abbrev fLt := fII (fun _ _ => true) fun i j => .bl (decide (i < j))
abbrev fLe := fII (fun _ _ => true) fun i j => .bl (decide (i ≤ j))
abbrev fGt := fII (fun _ _ => true) fun i j => .bl (decide (j < i))
abbrev fGe := fII (fun _ _ => true) fun i j => .bl (decide (j ≤ i))
theorem d_sub : OpD K cl fSub (rI0 fun i j => .int (i - j)) := d_II0 fun _ _ _ => .int _
theorem op_mulG : OpR X (binaryOp .Mult) (rI (fun i j => CMul i j ∨ CMulW i j) fun i j => .int (i * j)) := opI fun i j _ _ _ _ _ hc q => mul_int q (hc.elim (fun h => h.ok) fun h => h.ok)
theorem mulOk_c {i j : Int} (h : mulOk i j = true) : CMul i j ∨ CMulW i j := by
  unfold mulOk at h
  simp only [Bool.or_eq_true, decide_eq_true_eq] at h
  rcases h with (h | h) | h
  · exact .inl (.inl ⟨by omega, by omega⟩)
  · exact .inl (.inr ⟨by omega, by omega⟩)
  · exact .inr h
theorem d_mul : OpD K cl fMul (rI (fun i j => CMul i j ∨ CMulW i j) fun i j => .int (i * j)) := d_II (fun _ _ h => mulOk_c h) fun _ _ _ => .int _
theorem d_div : OpD K cl fDiv (rI CDivW fun i j => .int (i / j)) := d_II (fun _ _ h => by
  unfold divOk at h; simp only [Bool.and_eq_true, decide_eq_true_eq] at h; exact h) fun _ _ _ => .int _
theorem d_mod : OpD K cl fMod (rI (fun _ j => 0 < j) fun i j => .int (i % j)) := d_II (fun _ _ h => of_decide_eq_true h) fun _ _ _ => .int _
theorem d_pow : OpD K cl fPow (rI CPow fun i j => .int (i ^ j.toNat)) := d_II (fun _ _ h => by
  unfold powOk at h; simp only [Bool.and_eq_true, decide_eq_true_eq] at h; exact ⟨h.1.1, h.1.2, h.2⟩) fun _ _ _ => .int _
theorem d_lt : OpD K cl fLt (rI0 fun i j => .bl (decide (i < j))) := d_II0 fun _ _ _ => .bl _
theorem d_le : OpD K cl fLe (rI0 fun i j => .bl (decide (i ≤ j))) := d_II0 fun _ _ _ => .bl _
theorem d_gt : OpD K cl fGt (rI0 fun i j => .bl (decide (j < i))) := d_II0 fun _ _ _ => .bl _
theorem d_ge : OpD K cl fGe (rI0 fun i j => .bl (decide (j ≤ i))) := d_II0 fun _ _ _ => .bl _
def fNeg (d : D) (S : SH) : Option (D × SH) := match d with | .p (.int i) => some (.p (.int (-i)), S) | _ => none
theorem d_neg : UnD K cl fNeg (rU fun i => .int (-i)) := by
  intro S B F φ H d x Q s r l o
  unfold fNeg at o
  split at o
  · exact ⟨_, drI r, o.fin0 rfl s (Rp.int _) trivial⟩
  · exact o.no

/-! ### + -/
def fAdd (live : Bool) (d e : D) (S : SH) : Option (D × SH) := match d, e with
  | .p (.int i), .p (.int j) => some (.p (.int (i + j)), S)
  | .p (.str a), .p (.str b) => if a.length + b.length ≤ sizeLine then some (.p (.str (a ++ b)), S) else none
  | .p (.tup a), .p (.tup b) => if a.length + b.length ≤ sizeLine then some (.p (.tup (a ++ b)), S) else none
  | d, e => match asL d S, asL e S with
    | some a, some b => newL live (a ++ b) S
    | _, _ => none
def rCatL (K : PySem.W.Frag) : R2 := fun x y H Q => ∃ l b xs zs, x = .ref l ∧ y = .ref b ∧ SqL K H l xs ∧ SqL K H b zs ∧ xs.length + zs.length ≤ sizeLine ∧ ∀ p, H p = none → Q (.ref p) (upd H p (.lst (xs ++ zs)))
open PySem.AutoSeq1 (wpAny_loadPart') in
open PySem.MeetsSeq PySem.MeetsSeq2 PySem.MeetsSeq3 in
theorem list_add_any (l : Addr) (items : Array Value) (n : Nat) (b : Addr) (items2 : Array Value) (n2 : Nat) (dd dd2 : Option Addr) (sl sl2 : Array (Option Value)) (hz : items.size + items2.size ≤ sizeLine) :
    Meets (Builtin.«list.__add__» ⟨[.ref l, .ref b], []⟩) (fun _ R s => s.heap.get? l = some { cls := .type "list", dict := dd, data := .seq items n, slots := sl } ∧ s.heap.get? b = some { cls := .type "list", dict := dd2, data := .seq items2 n2, slots := sl2 } ∧
      R (.ok (.ret (Value.ref s.heap.objs.size))) { s with heap := s.heap.push { cls := Value.type "list", data := Data.seq (items ++ items2) }, toks := s.toks }) :=
  .of_wp fun prog w A R s h => by
    obtain ⟨hp, g, d, tk, os⟩ := s
    obtain ⟨hl, hb, h⟩ := h
    have f1 := AutoSeq1.sub_list_list
    have f2 := AutoSeq1.sub_tuple_list
    wp_walk using wpAny_loadPart' hl, wpAny_loadPart' hb
    exact ⟨_, rfl, h⟩
theorem op_catL : OpR X (binaryOp .Add) (rCatL X.K) := by
  intro pins s σ H x y v u Q I rx ry h
  obtain ⟨l, b, xs, zs, rfl, rfl, hH, hB, hz, q⟩ := h
  cases rx
  cases ry
  obtain ⟨its, r, ⟨o1, n1, e1, c1, d1, t1⟩, _⟩ := I.list hH
  obtain ⟨its2, r2, ⟨o2, n2, e2, c2, d2, t2⟩, _⟩ := I.list hB
  have hl := r.length
  have hl2 := r2.length
  obtain ⟨_, dd1, _, sl1⟩ := o1
  obtain ⟨_, dd2, _, sl2⟩ := o2
  simp only at c1 d1 t1 c2 d2 t2
  subst c1 d1 t1 c2 d2 t2
  refine PySem.concat_meets ⟨_, e1, rfl⟩ ⟨_, e2, rfl⟩ PySem.noFill_list_add PySem.seq_list_add F.slot_list_add F.entry_list_add (F.args_list_add_2 _ _) (list_add_any l its.toArray n1 b its2.toArray n2 _ _ _ _ (by rw [List.size_toArray, List.size_toArray]; omega)) ⟨e1, e2, ?_⟩
  have ea : its.toArray ++ its2.toArray = (its ++ its2).toArray := by simp
  rw [ea]
  exact ⟨.ref _, _, I.lnew (t' := s.toks) (r.append r2) (by rw [List.length_append]; omega), rfl, q _ I.fresh⟩
def rAddG (K : PySem.W.Frag) : R2 := fun x y H Q => rI0 (fun i j => .int (i + j)) x y H Q ∨ (∃ i j, x = .str i ∧ y = .str j ∧ i.length + j.length ≤ sizeLine ∧ Q (.str (i ++ j)) H) ∨ rCatA K x y H Q ∨ rCatL K x y H Q
theorem o_add : OpR X (binaryOp .Add) (rAddG X.K) := op_add.or (op_add_str.or (op_catA.or op_catL))
theorem d_add {live : Bool} : OpD K cl (fAdd live) (rAddG K) := by
  intro S B F φ H d1 d2 x y Q s r1 r2 l1 l2 o
  unfold fAdd at o
  split at o
  · exact .inl ⟨_, _, drI r1, drI r2, o.fin0 rfl s (Rp.int _) trivial⟩
  · split at o
    · rename_i h
      exact .inr (.inl ⟨_, _, drS r1, drS r2, h, o.fin0 rfl s (Rp.str _) trivial⟩)
    · exact o.no
  · rename_i a b
    split at o
    · rename_i h
      cases (show Rp K cl F (.tup a) x from r1) with
      | @tup p _ vs q1 t1 =>
        cases (show Rp K cl F (.tup b) y from r2) with
        | @tup p2 _ us q2 t2 =>
          have e1 := t1.len
          have e2 := t2.len
          have al : ∀ {ps qs : List P} {vs us : List V} {F : Hp}, RpA K cl F ps vs → RpA K cl F qs us → RpA K cl F (ps ++ qs) (vs ++ us) := by
            intro ps
            induction ps with
            | nil => intro qs vs us F a b; cases a; exact b
            | cons p ps ih => intro qs vs us F a b; cases a with | cons a a2 => exact .cons a (ih a2 b)
          refine .inr (.inr (.inl ⟨p, p2, vs, us, rfl, rfl, SqT.mono s.le q1, SqT.mono s.le q2, by omega, fun h1 => ?_, fun h1 h2 => ?_, fun h1 h2 r hr => ?_⟩))
          · subst h1
            cases t1
            exact o.fin0 rfl s (Rp.tup q2 t2) trivial
          · subst h2
            cases t2
            rw [List.append_nil] at o
            exact o.fin0 rfl s (Rp.tup q1 t1) trivial
          · obtain ⟨s1, x1⟩ := s.frz (H' := upd H r (.tup (vs ++ us))) (Same.new (Same.refl H) hr) hr upd_same
            exact o.fin rfl s1 x1 (Rp.tup (.inl (.inl upd_same)) (RpA.mono x1.fz (al t1 t2))) trivial
    · exact o.no
  · split at o
    · rename_i a b e1 e2
      obtain ⟨p, vs, rfl, q1, t1, m1⟩ := asL_ok s e1 r1 l1
      obtain ⟨p2, us, rfl, q2, t2, m2⟩ := asL_ok s e2 r2 l2
      obtain ⟨hz, k⟩ := newL_ok1 o s (DRA.append t1 t2) fun z hz => (List.mem_append.mp hz).elim (m1 z) (m2 z)
      exact .inr (.inr (.inr ⟨p, p2, vs, us, rfl, rfl, q1, q2, by rw [List.length_append] at hz; exact hz, k⟩))
    · exact o.no

/-! ### is -/
def isNon : D → Bool
  | .p .non => true
  | _ => false
def isBl (b : Bool) : D → Bool
  | .p (.bl c) => c == b
  | _ => false
def fIs (neg : Bool) (d e : D) (S : SH) : Option (D × SH) := match e with
  | .p .non => some (.p (.bl (if neg = true then !isNon d else isNon d)), S)
  | .p (.bl b) => some (.p (.bl (if neg = true then !isBl b d else isBl b d)), S)
  | _ => none
theorem RelV.bl_iff {x : V} {v : Value} (b : Bool) (r : RelV x v) : (v == Value.bool b) = decide (x = .bl b) := by
  cases x <;> first
    | (obtain ⟨t, rfl⟩ := r; rfl)
    | (cases r; rfl)
    | skip
  cases r
  rename_i c
  cases b <;> cases c <;> rfl
theorem plain_bool {x : V} {v : Value} (b : Bool) (r : RelV x v) : plainIs v (.bool b) = true := by
  cases x <;> first
    | (obtain ⟨t, rfl⟩ := r; rfl)
    | (cases r; rfl)
def rIsG (neg : Bool) : R2 := fun x y H Q => (y = .non ∧ Q (.bl (if neg = true then !decide (x = .non) else decide (x = .non))) H) ∨ ∃ b, y = .bl b ∧ Q (.bl (if neg = true then !decide (x = .bl b) else decide (x = .bl b))) H
theorem o_is : OpR X (compareOp .Is) (rIsG false) := by
  intro pins s σ H x y v u Q I rx ry h
  rcases h with ⟨rfl, q⟩ | ⟨b, rfl, q⟩
  · exact op_isN pins s σ H x .non v u Q I rx ry ⟨rfl, q⟩
  · cases (show u = Value.bool b from ry)
    exact wpAny_is_plain (plain_bool b rx) (fin_bl I (by rw [if_neg Bool.false_ne_true] at q; exact q) (RelV.bl_iff b rx).symm)
theorem o_isnot : OpR X (compareOp .IsNot) (rIsG true) := by
  intro pins s σ H x y v u Q I rx ry h
  rcases h with ⟨rfl, q⟩ | ⟨b, rfl, q⟩
  · exact op_notN pins s σ H x .non v u Q I rx ry ⟨rfl, q⟩
  · cases (show u = Value.bool b from ry)
    exact wpAny_isNot_plain (plain_bool b rx) (fin_bl I (by rw [if_pos rfl] at q; exact q) (by rw [RelV.bl_iff b rx]))
theorem isNon_ok {F : Hp} {φ : Nat → Addr} {d : D} {x : V} (r : DR K cl F φ d x) : isNon d = decide (x = .non) := by
  cases d with
  | ref n => cases (show x = .ref (φ n) from r); rfl
  | p y =>
    have r : Rp K cl F y x := r
    cases r <;> rfl
theorem isBl_ok {F : Hp} {φ : Nat → Addr} {d : D} {x : V} (b : Bool) (r : DR K cl F φ d x) : isBl b d = decide (x = .bl b) := by
  cases d with
  | ref n => cases (show x = .ref (φ n) from r); rfl
  | p y =>
    have r : Rp K cl F y x := r
    cases r <;> first | rfl | (rename_i c; cases b <;> cases c <;> rfl)
theorem d_is {neg : Bool} : OpD K cl (fIs neg) (rIsG neg) := by
  intro S B F φ H d1 d2 x y Q s r1 r2 l1 l2 o
  unfold fIs at o
  split at o
  · refine .inl ⟨drN r2, ?_⟩
    rw [← isNon_ok r1]
    exact o.fin0 rfl s (Rp.bl _) trivial
  · rename_i b
    refine .inr ⟨b, drB r2, ?_⟩
    rw [← isBl_ok b r1]
    exact o.fin0 rfl s (Rp.bl _) trivial
  · exact o.no

/-! ### built-in functions -/
theorem k_callB {x : Str} {p pos : Pos} {e : Expr} {es : List Expr} {m : MA} {id : String} {f : MF} {r : List V → Hp → VK → Prop} (hd : CallD X.K cl f r) (hc : CallR X (.builtin id) r) (hg : Gl X x) (hm : X.mg x = none) (hv : bootBuiltins x = some (.builtin id)) (ha : PA X (e :: es) (LA X.K cl m)) (hn : x ≠ "__name__" := by decide) (hdb : (x == ("__debug__" : Str)) = false := by decide)
    (he : starEach (e :: es) X.env = (false, eval e X.env) :: starEach es X.env := by rfl) (hpl : (backTo pos (starEach es X.env)).any (·.1) = false := by rfl) : PE X (.Call (.Name x p) (e :: es) [] pos) (LE X.K cl (dCall f m)) :=
  (pe_callB hc hg hm hv ha hn hdb he hpl).imp fun _ _ _ q => e_call hd q
theorem k_callT {x : Str} {p pos : Pos} {e : Expr} {es : List Expr} {m : MA} {T : String} {f : MF} {r : List V → Hp → VK → Prop} (hd : CallD X.K cl f r) (hc : CallR X (.type T) r) (hg : Gl X x) (hm : X.mg x = none) (hv : bootBuiltins x = some (.type T)) (ha : PA X (e :: es) (LA X.K cl m)) (hn : x ≠ "__name__" := by decide) (hdb : (x == ("__debug__" : Str)) = false := by decide)
    (he : starEach (e :: es) X.env = (false, eval e X.env) :: starEach es X.env := by rfl) (hpl : (backTo pos (starEach es X.env)).any (·.1) = false := by rfl) : PE X (.Call (.Name x p) (e :: es) [] pos) (LE X.K cl (dCall f m)) :=
  (pe_callTy hc hg hm hv ha hn hdb he hpl).imp fun _ _ _ q => e_call hd q
theorem dra1 {F : Hp} {φ : Nat → Addr} {d : D} {xs : List V} (r : DRA K cl F φ [d] xs) : ∃ x, xs = [x] ∧ DR K cl F φ d x := by
  cases r with | cons a b => cases b; exact ⟨_, rfl, a⟩
theorem dra2 {F : Hp} {φ : Nat → Addr} {d e : D} {xs : List V} (r : DRA K cl F φ [d, e] xs) : ∃ x y, xs = [x, y] ∧ DR K cl F φ d x ∧ DR K cl F φ e y := by
  cases r with | cons a b => cases b with | cons b c => cases c; exact ⟨_, _, rfl, a, b⟩
def fLen : MF := fun ds S => match ds with
  | [.p (.str z)] => if z.length ≤ sizeLine then some (.p (.int z.length), S) else none
  | [d] => match asQ d S with | some xs => some (.p (.int xs.length), S) | none => none
  | _ => none
def rLenG (K : PySem.W.Frag) : List V → Hp → VK → Prop := fun xs H Q => (∃ z, xs = [.str z] ∧ z.length ≤ sizeLine ∧ Q (.int z.length) H) ∨ ∃ p ys, xs = [.ref p] ∧ (SqL K H p ys ∨ SqT K H p ys) ∧ Q (.int ys.length) H
theorem c_len : CallR X (.builtin "len") (rLenG X.K) := call_len_str.or call_len_seq
theorem d_len : CallD K cl fLen (rLenG K) := by
  intro S B F φ H ds xs Q s r l o
  unfold fLen at o
  split at o
  · split at o
    · rename_i z h
      obtain ⟨x, rfl, rx⟩ := dra1 r
      exact .inl ⟨z, by rw [drS rx], h, o.fin0 rfl s (Rp.int _) trivial⟩
    · exact o.no
  · split at o
    · rename_i d hd ys e
      obtain ⟨x, rfl, rx⟩ := dra1 r
      obtain ⟨a, vs, rfl, q, t, _⟩ := asQ_ok s e rx (l _ List.mem_cons_self)
      exact .inr ⟨a, vs, rfl, q, by rw [← t.length]; exact o.fin0 rfl s (Rp.int _) trivial⟩
    · exact o.no
  · exact o.no
def fList (live : Bool) : MF := fun ds S => match ds with
  | [d] => match asQ d S with | some xs => newL live xs S | none => none
  | _ => none
def rListG (K : PySem.W.Frag) : List V → Hp → VK → Prop := fun xs H Q => ∃ p ys, xs = [.ref p] ∧ (SqL K H p ys ∨ SqT K H p ys) ∧ ∀ l, H l = none → Q (.ref l) (upd H l (.lst ys))
theorem c_list : CallR X (.type "list") (rListG X.K) := call_list_of
theorem d_list {live : Bool} : CallD K cl (fList live) (rListG K) := by
  intro S B F φ H ds xs Q s r l o
  unfold fList at o
  split at o
  · split at o
    · rename_i d ys e
      obtain ⟨x, rfl, rx⟩ := dra1 r
      obtain ⟨a, vs, rfl, q, t, m⟩ := asQ_ok s e rx (l _ List.mem_cons_self)
      exact ⟨a, vs, rfl, q, (newL_ok1 o s t m).2⟩
    · exact o.no
  · exact o.no
def fTuple : MF := fun ds S => match ds with
  | [.p (.tup ps)] => some (.p (.tup ps), S)
  | [d] => match asL d S with | some xs => newT xs S | none => none
  | _ => none
def rTupG (K : PySem.W.Frag) : List V → Hp → VK → Prop := fun xs H Q => ∃ p ys, xs = [.ref p] ∧ ((SqL K H p ys ∧ ∀ l, H l = none → Q (.ref l) (upd H l (.tup ys))) ∨ (SqT K H p ys ∧ Q (.ref p) H))
theorem c_tuple : CallR X (.type "tuple") (rTupG X.K) := call_tuple_of
theorem d_tuple : CallD K cl fTuple (rTupG K) := by
  intro S B F φ H ds xs Q s r l o
  unfold fTuple at o
  split at o
  · rename_i ps
    obtain ⟨x, rfl, rx⟩ := dra1 r
    cases (show Rp K cl F (.tup ps) x from rx) with
    | tup q t => exact ⟨_, _, rfl, .inr ⟨SqT.mono s.le q, o.fin0 rfl s (Rp.tup q t) trivial⟩⟩
  · split at o
    · rename_i d hd ys e
      obtain ⟨x, rfl, rx⟩ := dra1 r
      obtain ⟨a, vs, rfl, q, t, m⟩ := asL_ok s e rx (l _ List.mem_cons_self)
      exact ⟨a, vs, rfl, .inl ⟨q, (newT_ok o s t).2⟩⟩
    · exact o.no
  · exact o.no
def fInt : MF := fun ds S => match ds with
  | [.p (.int i)] => some (.p (.int i), S)
  | [.p (.bl b)] => some (.p (.int (if b = true then 1 else 0)), S)
  | _ => none
def rIntG : List V → Hp → VK → Prop := fun xs H Q => (∃ i, xs = [.int i] ∧ Q (.int i) H) ∨ ∃ k, xs = [.bl k] ∧ Q (.int (if k then 1 else 0)) H
theorem c_int : CallR X (.type "int") rIntG := call_int1
theorem d_int : CallD K cl fInt rIntG := by
  intro S B F φ H ds xs Q s r l o
  unfold fInt at o
  split at o
  · obtain ⟨x, rfl, rx⟩ := dra1 r
    exact .inl ⟨_, by rw [drI rx], o.fin0 rfl s (Rp.int _) trivial⟩
  · obtain ⟨x, rfl, rx⟩ := dra1 r
    exact .inr ⟨_, by rw [drB rx], o.fin0 rfl s (Rp.int _) trivial⟩
  · exact o.no
def fAbs : MF := fun ds S => match ds with
  | [.p (.int i)] => some (.p (.int (if i < 0 then -i else i)), S)
  | _ => none
def rAbsG : List V → Hp → VK → Prop := fun xs H Q => ∃ i, xs = [.int i] ∧ Q (.int (if i < 0 then -i else i)) H
theorem c_abs : CallR X (.builtin "abs") rAbsG := call_abs
theorem d_abs : CallD K cl fAbs rAbsG := by
  intro S B F φ H ds xs Q s r l o
  unfold fAbs at o
  split at o
  · obtain ⟨x, rfl, rx⟩ := dra1 r
    exact ⟨_, by rw [drI rx], o.fin0 rfl s (Rp.int _) trivial⟩
  · exact o.no
/-- max(i, j), min(i, j) -/
def fMax : MF := fun ds S => match ds with
  | [.p (.int i), .p (.int j)] => some (.p (.int (if j > i then j else i)), S)
  | _ => none
def fMin : MF := fun ds S => match ds with
  | [.p (.int i), .p (.int j)] => some (.p (.int (if j < i then j else i)), S)
  | _ => none
def rMaxG : List V → Hp → VK → Prop := fun xs H Q => ∃ i j, xs = [.int i, .int j] ∧ Q (.int (if j > i then j else i)) H
def rMinG : List V → Hp → VK → Prop := fun xs H Q => ∃ i j, xs = [.int i, .int j] ∧ Q (.int (if j < i then j else i)) H
theorem c_max (hc : X.calm = true) : CallR X (.builtin "max") rMaxG := call_max2 hc
theorem c_min (hc : X.calm = true) : CallR X (.builtin "min") rMinG := call_min2 hc
theorem d_max : CallD K cl fMax rMaxG := by
  intro S B F φ H ds xs Q s r l o
  unfold fMax at o
  split at o
  · obtain ⟨x, y, rfl, rx, ry⟩ := dra2 r
    exact ⟨_, _, by rw [drI rx, drI ry], o.fin0 rfl s (Rp.int _) trivial⟩
  · exact o.no
theorem d_min : CallD K cl fMin rMinG := by
  intro S B F φ H ds xs Q s r l o
  unfold fMin at o
  split at o
  · obtain ⟨x, y, rfl, rx, ry⟩ := dra2 r
    exact ⟨_, _, by rw [drI rx, drI ry], o.fin0 rfl s (Rp.int _) trivial⟩
  · exact o.no
def fStr : MF := fun ds S => match ds with
  | [.p (.int i)] => if i.natAbs.log2 < 1920 then some (.p (.str (toString i)), S) else none
  | _ => none
def rStrG : List V → Hp → VK → Prop := fun xs H Q => ∃ i, xs = [.int i] ∧ i.natAbs.log2 < 1920 ∧ Q (.str (toString i)) H
theorem c_str : CallR X (.type "str") rStrG := call_str_int
theorem d_str : CallD K cl fStr rStrG := by
  intro S B F φ H ds xs Q s r l o
  unfold fStr at o
  split at o
  · split at o
    · rename_i i h
      obtain ⟨x, rfl, rx⟩ := dra1 r
      exact ⟨i, by rw [drI rx], h, o.fin0 rfl s (Rp.str _) trivial⟩
    · exact o.no
  · exact o.no
/-- ints out of a list of data -/
def intsOf : List D → Option (List Int)
  | [] => some []
  | .p (.int i) :: r => (intsOf r).map (i :: ·)
  | _ => none
@[simp] theorem intsOf_map (ns : List Int) : intsOf (ns.map fun n => D.p (.int n)) = some ns := by
  induction ns with
  | nil => rfl
  | cons x r ih => simp [intsOf, ih]
theorem intsOf_of : ∀ {ds : List D} {ns : List Int} {F : Hp} {φ : Nat → Addr} {vs : List V}, intsOf ds = some ns → DRA K cl F φ ds vs → vs = ns.map V.int
  | [], ns, F, φ, vs, h, r => by cases h; cases r; rfl
  | .p (.int i) :: r, ns, F, φ, vs, h, q => by
    unfold intsOf at h
    cases e : intsOf r with
    | none => rw [e] at h; cases h
    | some ms =>
      rw [e] at h; cases h
      cases q with
      | cons a b => rw [List.map_cons, ← intsOf_of e b, drI a]
  | .ref n :: r, _, _, _, _, h, _ => by cases h
  | .p .non :: r, _, _, _, _, h, _ => by cases h
  | .p (.bl _) :: r, _, _, _, _, h, _ => by cases h
  | .p (.str _) :: r, _, _, _, _, h, _ => by cases h
  | .p (.tup _) :: r, _, _, _, _, h, _ => by cases h
  | .p (.lst _) :: r, _, _, _, _, h, _ => by cases h
  | .p (.dK _) :: r, _, _, _, _, h, _ => by cases h
  | .p (.dT _) :: r, _, _, _, _, h, _ => by cases h
  | .p (.ins _ _) :: r, _, _, _, _, h, _ => by cases h
def fSum : MF := fun ds S => match ds with
  | [d] => match asQ d S with | some xs => (match intsOf xs with | some ns => some (.p (.int ns.sum), S) | none => none) | none => none
  | _ => none
def rSumG (K : PySem.W.Frag) : List V → Hp → VK → Prop := fun vs H Q => ∃ (a : Addr) (ns : List Int), vs = [V.ref a] ∧ (SqL K H a (ns.map V.int) ∨ SqT K H a (ns.map V.int)) ∧ Q (.int ns.sum) H
theorem c_sum (hc : X.calm = true) : CallR X (.builtin "sum") (rSumG X.K) := by
  intro pins s σ H vs us Q I r h
  obtain ⟨a, ns, rfl, hs | hs, q⟩ := h
  · exact cr_sum hc pins s σ H _ us Q I r ⟨a, ns, rfl, hs, q⟩
  · obtain ⟨its, rv, ht, _⟩ := I.tuple hs
    rw [Vals.ref1 r]
    obtain ⟨xs, e⟩ := rv.ints.allInts.items
    have hn : numsOf (intItems xs).toList = ns := by rw [← e]; exact rv.ints.numsOf
    rw [nums_intItems] at hn
    have ht2 : s.heap.IsTuple a (intItems xs) := by rw [← e]; exact ht
    refine PySem.W.ktm_sumG (I.ok.hd hc) ht2 fun h' tk t' hk => ⟨.int ns.sum, H, I.kept hk, ⟨t', ?_⟩, q⟩
    rw [preSum_eq, List.take_of_length_le (by simp), hn]
theorem d_sum : CallD K cl fSum (rSumG K) := by
  intro S B F φ H ds xs Q s r l o
  unfold fSum at o
  split at o
  · split at o
    · rename_i d ys e
      split at o
      · rename_i ns e2
        obtain ⟨x, rfl, rx⟩ := dra1 r
        obtain ⟨a, vs, rfl, q, t, m⟩ := asQ_ok s e rx (l _ List.mem_cons_self)
        have := intsOf_of e2 t
        subst this
        exact ⟨a, ns, rfl, q, o.fin0 rfl s (Rp.int _) trivial⟩
      · exact o.no
    · exact o.no
  · exact o.no
end
end Pv
namespace Pv
open PySem PySem.Spec PyProof.Rows L2
section
variable {X : Cx} {K : PySem.W.Frag} {cl : Nat → Addr}
/-! ### o[i], o[i:j] -/
def fIx (d e : D) (S : SH) : Option (D × SH) := match d, e with
  | .p (.str z), .p (.int i) => if z.length ≤ sizeLine then (match atI z.cps.toList i with | some c => some (.p (.str ⟨#[c]⟩), S) | none => none) else none
  | d, .p (.int i) => match asQ d S with
    | some xs => (match atI xs i with | some x => some (x, S) | none => none)
    | none => none
  | _, _ => none
theorem atI_dra {F : Hp} {φ : Nat → Addr} {ds : List D} {vs : List V} {i : Int} {d : D} (r : DRA K cl F φ ds vs) (e : atI ds i = some d) : ∃ v, atI vs i = some v ∧ DR K cl F φ d v ∧ d ∈ ds := by
  unfold atI at e ⊢
  rw [← r.length]
  cases h : ixN ds.length i with
  | none => rw [h] at e; cases e
  | some j =>
    rw [h] at e
    obtain ⟨v, hv, rv⟩ := r.get e
    exact ⟨v, hv, rv, List.mem_of_getElem? e⟩
theorem o_ix : IxR X (rIx X.K) := ix_seq
theorem d_ix : OpD K cl fIx (rIx K) := by
  intro S B F φ H d1 d2 x y Q s r1 r2 l1 l2 o
  unfold fIx at o
  split at o
  · rename_i z i
    split at o
    · rename_i hz
      split at o
      · rename_i c e
        exact .inr (.inr ⟨z, i, c, drS r1, drI r2, hz, e, o.fin0 rfl s (Rp.str _) trivial⟩)
      · exact o.no
    · exact o.no
  · rename_i i _
    split at o
    · rename_i xs e
      split at o
      · rename_i d e2
        obtain ⟨a, vs, rfl, q, t, m⟩ := asQ_ok s e r1 l1
        obtain ⟨v, hv, rv, hm⟩ := atI_dra t e2
        have fin := o.fin0 rfl s rv (m d hm)
        rcases q with q | q
        · exact .inl ⟨a, vs, i, v, rfl, drI r2, q, hv, fin⟩
        · exact .inr (.inl ⟨a, vs, i, v, rfl, drI r2, q, hv, fin⟩)
      · exact o.no
    · exact o.no
  · exact o.no
theorem k_ix {a b : Expr} {ma mb : ME} {pos : Pos} (ha : PE X a (LE X.K cl ma)) (hb : PE X b (LE X.K cl mb)) (hs : PlainIx b := by exact fun _ _ => rfl) : PE X (.Subscript a b pos) (LE X.K cl (dOp fIx ma mb)) :=
  (pe_ix o_ix ha hb hs).imp fun _ _ _ q => e_op d_ix q
/-- the items between two places -/
def cutD {α : Type} (xs : List α) (lo hi : Option Int) : List α := (xs.drop (HT.sIx xs.length 0 lo)).take (HT.sIx xs.length xs.length hi - HT.sIx xs.length 0 lo)
def optI : Option D → Option (Option Int)
  | none => some none
  | some (.p (.int i)) => some (some i)
  | _ => none
def fSl (live : Bool) (d : D) (lo hi : Option Int) (S : SH) : Option (D × SH) := match d with
  | .p (.str z) => if z.length ≤ sizeLine then some (.p (.str (L2.cutS z lo hi)), S) else none
  | .p (.tup ps) => some (.p (.tup (cutD ps lo hi)), S)
  | d => match asL d S with
    | some xs => newL live (cutD xs lo hi) S
    | none => none
def dSl (live : Bool) (a : ME) (lo hi : Option ME) : ME := fun σ S => bnd (a σ S) fun d S1 =>
  bnd (match lo with | some m => bnd (m σ S1) fun x S2 => (match x with | .p (.int i) => some (some i, S2) | _ => none) | none => some (none, S1)) fun l S2 =>
  bnd (match hi with | some m => bnd (m σ S2) fun x S3 => (match x with | .p (.int i) => some (some i, S3) | _ => none) | none => some (none, S2)) fun h S3 => fSl live d l h S3
/-- a part of a slice -/
def LO (K : PySem.W.Frag) (cl : Nat → Addr) : Option ME → TO
  | some m => tPart (LE K cl m)
  | none => tNoPart
theorem o_none : PO X none (LO X.K cl none) := po_none
theorem o_some {e : Expr} {m : ME} (h : PE X e (LE X.K cl m)) : PO X (some e) (LO X.K cl (some m)) := po_some h
def rSlG (K : PySem.W.Frag) : V → Option Int → Option Int → Hp → VK → Prop := fun x lo hi H Q => rSlL K x lo hi H Q ∨ rSlA K x lo hi H Q ∨ rSlS x lo hi H Q
theorem o_sl : SlR X (rSlG X.K) := sl_list.or (sl_tupA.or sl_str)
theorem cut_dra {F : Hp} {φ : Nat → Addr} {ds : List D} {vs : List V} (r : DRA K cl F φ ds vs) (lo hi : Option Int) : DRA K cl F φ (cutD ds lo hi) (cutV vs lo hi) := by
  have td : ∀ {ds : List D} {vs : List V} (n : Nat), DRA K cl F φ ds vs → DRA K cl F φ (ds.drop n) (vs.drop n) := by
    intro ds vs n r
    induction n generalizing ds vs with
    | zero => exact r
    | succ n ih => cases r with | nil => exact .nil | cons a b => exact ih b
  have tt : ∀ {ds : List D} {vs : List V} (n : Nat), DRA K cl F φ ds vs → DRA K cl F φ (ds.take n) (vs.take n) := by
    intro ds vs n r
    induction n generalizing ds vs with
    | zero => exact .nil
    | succ n ih => cases r with | nil => exact .nil | cons a b => exact .cons a (ih b)
  unfold cutD cutV
  rw [r.length]
  exact tt _ (td _ r)
theorem cut_mem {α : Type} {xs : List α} {lo hi : Option Int} {x : α} (h : x ∈ cutD xs lo hi) : x ∈ xs := List.mem_of_mem_drop (List.mem_of_mem_take h)
theorem cut_map {α β : Type} (f : α → β) (xs : List α) (lo hi : Option Int) : cutD (xs.map f) lo hi = (cutD xs lo hi).map f := by
  unfold cutD
  rw [List.length_map, List.map_take, List.map_drop]
theorem d_sl {live : Bool} {S : SH} {B : List Nat} {F : Hp} {φ : Nat → Addr} {H : Hp} {d : D} {x : V} {lo hi : Option Int} {Q : VK} (s : Sim K cl S B F φ H) (r : DR K cl F φ d x) (l : d.lt S.len) (o : OkE K cl S B F φ H (fSl live d lo hi S) Q) : rSlG K x lo hi H Q := by
  unfold fSl at o
  split at o
  · split at o
    · rename_i z hz
      exact .inr (.inr ⟨z, drS r, hz, o.fin0 rfl s (Rp.str _) trivial⟩)
    · exact o.no
  · rename_i ps
    cases (show Rp K cl F (.tup ps) x from r) with
    | @tup a _ vs q t =>
      have tr : DRA K cl F φ (ps.map D.p) vs := t.dra
      have hl := t.len
      refine .inr (.inl ⟨a, vs, rfl, SqT.mono s.le q, fun h => ?_, fun h p hp => ?_⟩)
      · have e : cutD ps lo hi = ps := by
          unfold cutD
          rw [hl, h.1, h.2, List.drop_zero, List.take_of_length_le (by omega)]
        rw [e] at o
        exact o.fin0 rfl s (Rp.tup q t) trivial
      · obtain ⟨s1, x1⟩ := s.frz (H' := upd H p (.tup (cutV vs lo hi))) (Same.new (Same.refl H) hp) hp upd_same
        have := cut_dra tr lo hi
        rw [cut_map] at this
        exact o.fin rfl s1 x1 (Rp.tup (.inl (.inl upd_same)) (RpA.mono x1.fz this.rpa)) trivial
  · split at o
    · rename_i xs e
      obtain ⟨a, vs, rfl, q, t, m⟩ := asL_ok s e r l
      exact .inl ⟨a, vs, rfl, q, (newL_ok1 o s (cut_dra t lo hi) fun z hz => m z (cut_mem hz)).2⟩
    · exact o.no
theorem k_sl {live : Bool} {e : Expr} {lo hi : Option Expr} {me : ME} {ml mh : Option ME} {pos p2 : Pos} (he : PE X e (LE X.K cl me)) (hl : PO X lo (LO X.K cl ml)) (hh : PO X hi (LO X.K cl mh)) : PE X (.Subscript e (.Slice lo hi none p2) pos) (LE X.K cl (dSl live me ml mh)) := by
  refine (pe_slice o_sl he hl hh).imp fun σ H Q q => ?_
  obtain ⟨σd, S, B, F, φ, s, rs, o⟩ := q
  obtain ⟨d, S1, e1, o1⟩ := okE_bnd o
  obtain ⟨l, S2, e2, o2⟩ := okE_bnd o1
  obtain ⟨h, S3, e3, o3⟩ := okE_bnd o2
  refine LE.then_ s rs e1 fun F1 φ1 H1 x s1 x1 rs1 dr1 l1 => ?_
  have part : ∀ (m : Option ME) (S4 S5 : SH) (B : List Nat) (F4 : Hp) (φ4 : Nat → Addr) (H4 : Hp) (k : Option Int) (R : Option Int → Hp → Prop), Sim X.K cl S4 B F4 φ4 H4 → RS X.K cl F4 φ4 S4.len σd σ →
      (match m with | some m => bnd (m σd S4) fun x S2 => (match x with | .p (.int i) => some (some i, S2) | _ => none) | none => some (none, S4)) = some (k, S5) →
      (∀ F5 φ5 H5, Sim X.K cl S5 B F5 φ5 H5 → Ext S4 F4 φ4 H4 S5 F5 φ5 H5 → RS X.K cl F5 φ5 S5.len σd σ → R k H5) → LO X.K cl m σ H4 R := by
    intro m S4 S5 B F4 φ4 H4 k R s4 rs4 e kk
    cases m with
    | none => cases e; exact kk F4 φ4 H4 s4 (.refl s4) rs4
    | some m =>
      obtain ⟨y, S6, e6, e7⟩ := bnd_of e
      refine LE.then_ s4 rs4 e6 fun F6 φ6 H6 u s6 x6 rs6 dr6 l6 => ?_
      split at e7
      · cases e7
        exact ⟨_, drI dr6, kk F6 φ6 H6 s6 x6 rs6⟩
      · cases e7
  refine part ml S1 S2 B F1 φ1 H1 l _ s1 rs1 e2 fun F2 φ2 H2 s2 x2 rs2 => ?_
  refine part mh S2 S3 B F2 φ2 H2 h _ s2 rs2 e3 fun F3 φ3 H3 s3 x3 rs3 => ?_
  have x23 := x2.trans x3
  exact d_sl s3 (x23.dr l1 dr1) (x23.lt l1) (o3.ext (x1.trans x23))

/-! ### methods of lists -/
def MtD (K : PySem.W.Frag) (cl : Nat → Addr) (f : MF) (T : String) (r : V → List V → Hp → VK → Prop) : Prop :=
  ∀ S B F φ H d ds x xs Q, Sim K cl S B F φ H → DR K cl F φ d x → d.lt S.len → DRA K cl F φ ds xs → (∀ y ∈ ds, y.lt S.len) → OkE K cl S B F φ H (f (d :: ds) S) Q → r x xs H Q
def isTy (T : String) (d : D) (S : SH) : Bool := match d with
  | .p (.str _) => T == "str"
  | .p (.lst _) => T == "list"
  | .p (.dK _) => T == "dict"
  | .p (.dT _) => T == "dict"
  | .ref n => match S.os[n]? with
    | some (.lst _) => T == "list"
    | some (.dK _) => T == "dict"
    | some (.dT _) => T == "dict"
    | _ => false
  | _ => false
theorem isTy_ok {S : SH} {B : List Nat} {F : Hp} {φ : Nat → Addr} {H : Hp} {T : String} {d : D} {x : V} (s : Sim K cl S B F φ H) (e : isTy T d S = true) (r : DR K cl F φ d x) : tyV K T x H := by
  cases d with
  | p y =>
    have r : Rp K cl F y x := r
    cases r with
    | str z => exact (beq_iff_eq.mp e)
    | lst q t => exact .inl ⟨beq_iff_eq.mp e, _, SqL.mono s.le q⟩
    | dK q t => exact .inr (.inr (.inl ⟨beq_iff_eq.mp e, .inl ⟨_, s.le _ _ q⟩⟩))
    | dT q t => exact .inr (.inr (.inl ⟨beq_iff_eq.mp e, .inr ⟨_, s.le _ _ q⟩⟩))
    | _ => cases e
  | ref n =>
    unfold isTy at e
    dsimp only at e
    have r : x = .ref (φ n) := r
    subst r
    cases q : S.os[n]? with
    | none => rw [q] at e; cases e
    | some o =>
      rw [q] at e
      have ob := (s.ob n _ q).2
      cases o with
      | lst ds => obtain ⟨vs, ev, _⟩ := ob; exact .inl ⟨beq_iff_eq.mp e, _, .inl (.inl ev)⟩
      | dK ds => obtain ⟨vs, ev, _⟩ := ob; exact .inr (.inr (.inl ⟨beq_iff_eq.mp e, .inl ⟨_, ev⟩⟩))
      | dT ds => obtain ⟨vs, ev, _⟩ := ob; exact .inr (.inr (.inl ⟨beq_iff_eq.mp e, .inr ⟨_, ev⟩⟩))
      | ins _ _ => cases e
def dBM (T : String) (f : MF) (o : ME) (a : MA) : ME := fun σ S => bnd (o σ S) fun d S1 => if isTy T d S1 = true then bnd (a σ S1) fun ds S2 => f (d :: ds) S2 else none
theorem e_bm {T : String} {f : MF} {r : V → List V → Hp → VK → Prop} {mo : ME} {ma : MA} {σ : L2.St} {H : Hp} {Q : VK} (hd : MtD K cl f T r) (q : LE K cl (dBM T f mo ma) σ H Q) : tBM K T r (LE K cl mo) (LA K cl ma) σ H Q := by
  obtain ⟨σd, S, B, F, φ, s, rs, o⟩ := q
  obtain ⟨d, S1, e1, o1⟩ := okE_bnd o
  refine LE.then_ s rs e1 fun F1 φ1 H1 x s1 x1 rs1 dr1 l1 => ?_
  split at o1
  · rename_i ht
    obtain ⟨ds, S2, e2, o2⟩ := okE_bnd o1
    refine ⟨isTy_ok s1 ht dr1, LA.then_ s1 rs1 e2 fun F2 φ2 H2 vs s2 x2 rs2 dr2 l2 => ?_⟩
    exact hd S2 B F2 φ2 H2 d ds x vs Q s2 (x2.dr l1 dr1) (x2.lt l1) dr2 l2 (o2.ext (x1.trans x2))
  · exact o1.no
theorem k_bm {o e : Expr} {es : List Expr} {name : Str} {apos cpos : Pos} {T id : String} {f : MF} {r : V → List V → Hp → VK → Prop} {mo : ME} {ma : MA} (hd : MtD X.K cl f T r) (pa : PlainAttrs T) (slot : Slot T name id) (hty : typeOf (.builtin id) = pure (.type "method_descriptor")) (hm : MtR X id r) (ho : PE X o (LE X.K cl mo)) (ha : PA X (e :: es) (LA X.K cl ma))
    (hbase : attributeBase o name X.env (eval o X.env) = eval o X.env := by rfl)
    (hfew : ((backTo cpos (starEach (e :: es) X.env)).all (fun x => !x.1) && (backToKw cpos (keywordEach [] X.env)).all (fun x => x.1.isSome)
      && decide ((e :: es).length + ([] : List Keyword).length + (if ([] : List Keyword).isEmpty then 0 else 1) < 30)) = true := by rfl)
    (hline : (apos.endLine == cpos.line) = true := by rfl) (hs : starEach (e :: es) X.env = (false, eval e X.env) :: starEach es X.env := by rfl) (hplain : (backTo cpos (starEach es X.env)).any (·.1) = false := by rfl) :
    PE X (.Call (.Attribute o name apos) (e :: es) [] cpos) (LE X.K cl (dBM T f mo ma)) :=
  (pe_bm pa slot hty hm ho ha hbase hfew hline hs hplain).imp fun _ _ _ q => e_bm hd q
theorem k_bm0 {o : Expr} {name : Str} {apos cpos : Pos} {T id : String} {f : MF} {r : V → List V → Hp → VK → Prop} {mo : ME} (hd : MtD X.K cl f T r) (pa : PlainAttrs T) (slot : Slot T name id) (hty : typeOf (.builtin id) = pure (.type "method_descriptor")) (hm : MtR X id r) (ho : PE X o (LE X.K cl mo))
    (hbase : attributeBase o name X.env (eval o X.env) = eval o X.env := by rfl) (hline : (apos.endLine == cpos.line) = true := by rfl) : PE X (.Call (.Attribute o name apos) [] [] cpos) (LE X.K cl (dBM T f mo dNil)) := by
  refine (pe_bm0 pa slot hty hm ho hbase hline).imp fun σ H Q q => ?_
  have z := e_bm hd q
  unfold tBM at z
  obtain ⟨σd, S, B, F, φ, s, rs, d, S1, e, k⟩ := z
  refine ⟨σd, S, B, F, φ, s, rs, d, S1, e, fun F1 φ1 H1 u s1 x1 dr l => ?_⟩
  obtain ⟨h1, h2⟩ := k F1 φ1 H1 u s1 x1 dr l
  obtain ⟨σd', S', B', F', φ', s', rs', d', S1', e', k'⟩ := h2
  cases e'
  exact ⟨h1, k' F' φ' H1 [] s' (.refl s') .nil fun _ z => absurd z (by simp)⟩
/-- xs.append(v) -/
def fApp : MF := fun ds S => match ds with
  | [.ref n, v] => match S.os[n]? with
    | some (.lst xs) => if xs.length < sizeLine ∧ okRef S n v = true then some (.p .non, S.put n (.lst (xs ++ [v]))) else none
    | _ => none
  | _ => none
theorem d_app : MtD K cl fApp "list" rAppend := by
  intro S B F φ H d ds x xs Q s r l rs ls o
  unfold fApp at o
  split at o
  · rename_i n v e0
    split at o
    · rename_i ys q
      split at o
      · rename_i h
        injection e0 with e1 e2
        subst e1 e2
        obtain ⟨y, rfl, ry⟩ := dra1 rs
        obtain ⟨vs, ev, rv⟩ := (s.ob n _ q).2
        have hl := rv.length
        obtain ⟨s2, x2⟩ := putOk (o := .lst (ys ++ [v])) (x := .lst (vs ++ [y])) s q h.2 (ls v List.mem_cons_self) (fun z hz => by
          rcases List.mem_append.mp hz with hz | hz
          · exact .inr hz
          · exact .inl (List.mem_singleton.mp hz)) ⟨_, rfl, DRA.append rv (.cons ry .nil)⟩
        exact ⟨φ n, vs, y, r, rfl, ev, by omega, o.fin rfl s2 x2 .non trivial⟩
      · exact o.no
    · exact o.no
  · exact o.no
/-- xs.extend(ys) of a list or a tuple -/
def fExt : MF := fun ds S => match ds with
  | [.ref n, v] => match S.os[n]?, asQ v S with
    | some (.lst xs), some ys => match toPs ys with
      | some ps => if xs.length + ps.length ≤ sizeLine then some (.p .non, S.put n (.lst (xs ++ ps.map D.p))) else none
      | none => none
    | _, _ => none
  | _ => none
open PySem.AutoSeq1 (wpAny_loadPart') in
open PySem.MeetsSeq PySem.MeetsSeq2 PySem.MeetsSeq3 in
theorem ext_tup (l : Addr) (xs : Array Value) (n : Nat) (b : Addr) (ys : Array Value) (m : Nat) (dd : Option Addr) (sl : Array (Option Value)) (h0 : ¬(!xs.isEmpty && Builtin.List.listTooLong (xs.size + ys.size)) = true) (h1 : xs.size ≤ sizeLine) (h2 : xs.size + ys.size ≤ sizeLine + 1) :
    Meets (Builtin.«list.extend» ⟨[.ref l, .ref b], []⟩) (fun _ R s => s.heap.get? l = some { cls := .type "list", dict := none, data := .seq xs n, slots := #[] } ∧ s.heap.get? b = some { cls := .type "tuple", dict := dd, data := .seq ys m, slots := sl } ∧
      R (.ok (.ret Value.none)) { s with heap := s.heap.update l (Obj.mapSeq fun x => x ++ ys), toks := s.toks }) :=
  .of_wp fun prog w A R s h => by
    obtain ⟨hp, g, d, tk, os⟩ := s; obtain ⟨hl, hb, h⟩ := h
    have e1 := AutoSeq1.sub_tuple_tuple
    have e2 := AutoSeq1.sub_list_list
    have e3 := AutoSeq1.sub_tuple_list
    have e4 := AutoSeq1.sub_list_tuple
    have hz' : (xs ++ ys).size ≤ sizeLine + 1 := by rw [Array.size_append]; exact h2
    wp_walk using (wpAny_updateSeq hl rfl (hz := h1) (_hz' := hz')), wpAny_loadPart' hl, wpAny_loadPart' hb
    exact ⟨_, rfl, h⟩
open PySem.AutoSeq1 (wpAny_loadPart') in
open PySem.MeetsSeq PySem.MeetsSeq2 PySem.MeetsSeq3 in
theorem ext_lst (l : Addr) (xs : Array Value) (n : Nat) (b : Addr) (ys : Array Value) (m : Nat) (dd : Option Addr) (sl : Array (Option Value)) (h0 : ¬(!xs.isEmpty && Builtin.List.listTooLong (xs.size + ys.size)) = true) (h1 : xs.size ≤ sizeLine) (h2 : xs.size + ys.size ≤ sizeLine + 1) :
    Meets (Builtin.«list.extend» ⟨[.ref l, .ref b], []⟩) (fun _ R s => s.heap.get? l = some { cls := .type "list", dict := none, data := .seq xs n, slots := #[] } ∧ s.heap.get? b = some { cls := .type "list", dict := dd, data := .seq ys m, slots := sl } ∧
      R (.ok (.ret Value.none)) { s with heap := s.heap.update l (Obj.mapSeq fun x => x ++ ys), toks := s.toks }) :=
  .of_wp fun prog w A R s h => by
    obtain ⟨hp, g, d, tk, os⟩ := s; obtain ⟨hl, hb, h⟩ := h
    have e1 := AutoSeq1.sub_tuple_tuple
    have e2 := AutoSeq1.sub_list_list
    have e3 := AutoSeq1.sub_tuple_list
    have e4 := AutoSeq1.sub_list_tuple
    have hz' : (xs ++ ys).size ≤ sizeLine + 1 := by rw [Array.size_append]; exact h2
    wp_walk using (wpAny_updateSeq hl rfl (hz := h1) (_hz' := hz')), wpAny_loadPart' hl, wpAny_loadPart' hb
    exact ⟨_, rfl, h⟩
def rExtG (K : PySem.W.Frag) : V → List V → Hp → VK → Prop := fun x vs H Q => ∃ l b xs zs, x = .ref l ∧ vs = [.ref b] ∧ H l = some (.lst xs) ∧ (SqL K H b zs ∨ SqT K H b zs) ∧ xs.length + zs.length ≤ sizeLine ∧ Q .non (upd H l (.lst (xs ++ zs)))
theorem mt_extG : MtM X "list.extend" (rExtG X.K) := by
  intro pins s σ H x vs v us Q I rx rv h
  obtain ⟨l, b, xs, zs, rfl, rfl, hH, hB, hz, q⟩ := h
  cases rx
  obtain ⟨u, rfl, ru⟩ := rv.one
  cases ru
  obtain ⟨z, its, n, r, hl, e⟩ := I.lstM hH
  have l1 := r.length
  have fin : ∀ its2 : List Value, Vals zs its2 → EP X pins σ Q .none { s with heap := s.heap.update l (Obj.mapSeq fun x => x ++ its2.toArray), toks := s.toks } := fun its2 r2 => by
    refine ⟨.non, _, I.lset (its' := its ++ its2) hH e (by simp) (r.append r2) ?_, rfl, q⟩
    rw [List.length_append]
    omega
  have small : ∀ its2 : List Value, Vals zs its2 → its.toArray.size + its2.toArray.size ≤ sizeLine := fun its2 r2 => by
    have l2 := r2.length
    rw [List.size_toArray, List.size_toArray]; omega
  have long : ∀ its2 : List Value, Vals zs its2 → ¬ (!its.toArray.isEmpty && Builtin.List.listTooLong (its.toArray.size + its2.toArray.size)) = true := fun its2 r2 => by
    rw [notLongL (small its2 r2), Bool.and_false]
    exact Bool.false_ne_true
  rcases hB with hB | hB
  · obtain ⟨its2, r2, ⟨⟨_, dd, _, sl⟩, m, e2, c2, d2, t2⟩, _⟩ := I.list hB
    simp only at c2 d2 t2
    subst c2 d2 t2
    have sm := small its2 r2
    exact call_meets F.slot_list_extend ⟨_, e, rfl⟩ F.entry_list_extend (F.args_list_extend_2 _ _)
      (ext_lst l its.toArray n b its2.toArray m _ sl (long its2 r2) (by rw [List.size_toArray]; omega) (by omega)) ⟨e, e2, fin its2 r2⟩
  · obtain ⟨its2, r2, pT, _⟩ := I.tuple hB
    obtain ⟨⟨_, dd, _, sl⟩, e2, hc, m, hd⟩ := pT
    simp only at hc hd
    subst hc hd
    have sm := small its2 r2
    exact call_meets F.slot_list_extend ⟨_, e, rfl⟩ F.entry_list_extend (F.args_list_extend_2 _ _)
      (ext_tup l its.toArray n b its2.toArray m dd sl (long its2 r2) (by rw [List.size_toArray]; omega) (by omega)) ⟨e, e2, fin its2 r2⟩
theorem d_ext : MtD K cl fExt "list" (rExtG K) := by
  intro S B F φ H d ds x xs Q s r l rs ls o
  unfold fExt at o
  split at o
  · rename_i n v e0
    split at o
    · rename_i ys zs q e1
      split at o
      · rename_i ps ep
        split at o
        · rename_i hz
          injection e0 with e2 e3
          subst e2 e3
          obtain ⟨y, rfl, ry⟩ := dra1 rs
          obtain ⟨a, ws, rfl, qw, tw, mw⟩ := asQ_ok s e1 ry (ls v List.mem_cons_self)
          obtain ⟨vs, ev, rv⟩ := (s.ob n _ q).2
          have hzs := toPs_of ep
          subst hzs
          have hl := rv.length
          have hl2 := tw.length
          rw [List.length_map] at hl2
          obtain ⟨s2, x2⟩ := putGen (o := .lst (ys ++ ps.map D.p)) (x := .lst (vs ++ ws)) s q (fun z hz => by
            rcases List.mem_append.mp hz with hz | hz
            · exact .inr (.inl hz)
            · exact .inl fun k => lt_map z hz) ⟨_, rfl, DRA.append rv tw⟩
          exact ⟨φ n, a, vs, ws, r, rfl, ev, qw, by omega, o.fin rfl s2 x2 .non trivial⟩
        · exact o.no
      · exact o.no
    · exact o.no
  · exact o.no
end
end Pv
namespace Pv
open PySem PySem.Spec PyProof.Rows L2
section
variable {X : Cx} {K : PySem.W.Frag} {cl : Nat → Addr}
/-! ### isinstance of built-in types -/
def tyName (d : D) (S : SH) : Option String := match d with
  | .p .non => some "NoneType"
  | .p (.bl _) => some "bool"
  | .p (.int _) => some "int"
  | .p (.str _) => some "str"
  | .p (.tup _) => some "tuple"
  | .p (.lst _) => some "list"
  | .p (.dK _) => some "dict"
  | .p (.dT _) => some "dict"
  | .p (.ins _ _) => none
  | .ref n => match S.os[n]? with
    | some (.lst _) => some "list"
    | some (.dK _) => some "dict"
    | some (.dT _) => some "dict"
    | _ => none
def isSub (a b : String) : Bool := a == b || (a == "bool" && b == "int")
def tyOk (b : String) : Bool := ["bool", "int", "str", "tuple", "list", "dict"].contains b
theorem kit_tab : ∀ a ∈ ["NoneType", "bool", "int", "str", "tuple", "list", "dict"], ∀ b ∈ ["bool", "int", "str", "tuple", "list", "dict"], kitB a b = some (isSub a b) := by decide +kernel
theorem tyName_mem {d : D} {S : SH} {t : String} (h : tyName d S = some t) : t ∈ ["NoneType", "bool", "int", "str", "tuple", "list", "dict"] := by
  unfold tyName at h
  split at h <;> first | (cases h; decide) | (cases h; done) | skip
  split at h <;> first | (cases h; decide) | (cases h; done)
theorem tyName_ok {S : SH} {B : List Nat} {F : Hp} {φ : Nat → Addr} {H : Hp} {d : D} {x : V} {t : String} (s : Sim K cl S B F φ H) (h : tyName d S = some t) (r : DR K cl F φ d x) : TyX K H x (.type t) := by
  cases d with
  | p y =>
    have r : Rp K cl F y x := r
    cases r with
    | non => cases h; exact .base .non
    | bl b => cases h; exact .base (.bl b)
    | int i => cases h; exact .base (.int i)
    | str z => cases h; exact .base (.str z)
    | tup q t =>
      cases h
      rcases SqT.mono s.le q with (q | ⟨o, q⟩) | ⟨o, its, n, hk, hc, _⟩
      · exact .base (.tup q)
      · exact .fTuple q
      · exact .kTuple hk hc
    | lst q t =>
      cases h
      rcases SqL.mono s.le q with (q | ⟨o, q⟩) | ⟨o, its, n, hk, hc, _⟩
      · exact .base (.lst q)
      · exact .base (.frz q)
      · exact .kList hk hc
    | dK q t => cases h; exact .base (.dK (s.le _ _ q))
    | dT q t => cases h; exact .base (.dT (s.le _ _ q))
    | ins q t => cases h
  | ref n =>
    have r : x = .ref (φ n) := r
    subst r
    unfold tyName at h
    dsimp only at h
    cases q : S.os[n]? with
    | none => rw [q] at h; cases h
    | some o =>
      rw [q] at h
      have ob := (s.ob n _ q).2
      cases o with
      | lst ds => cases h; obtain ⟨vs, ev, _⟩ := ob; exact .base (.lst ev)
      | dK ds => cases h; obtain ⟨vs, ev, _⟩ := ob; exact .base (.dK ev)
      | dT ds => cases h; obtain ⟨vs, ev, _⟩ := ob; exact .base (.dT ev)
      | ins _ _ => cases h
def fIsi (bs : List String) (d : D) (S : SH) : Option (D × SH) := match tyName d S with
  | some t => if bs.all tyOk = true then some (.p (.bl (bs.any (isSub t))), S) else none
  | none => none
theorem k_isi {e : Expr} {me : ME} {T : Str} {Tn : String} {p p2 pos : Pos} (he : PE X e (LE X.K cl me)) (hg : Gl X "isinstance") (hm : X.mg "isinstance" = none) (hT : Gl X T) (hmT : X.mg T = none) (hvT : bootBuiltins T = some (.type Tn)) (hn : T ≠ "__name__" := by decide) (hd : (T == ("__debug__" : Str)) = false := by decide)
    (h1 : starEach [e, .Name T p2] X.env = (false, eval e X.env) :: starEach [.Name T p2] X.env := by rfl) (h2 : starEach [Expr.Name T p2] X.env = (false, eval (.Name T p2) X.env) :: starEach [] X.env := by rfl) (hpl : (backTo pos (starEach [Expr.Name T p2] X.env)).any (·.1) = false := by rfl) :
    PE X (.Call (.Name "isinstance" p) [e, .Name T p2] [] pos) (LE X.K cl (dUn (fIsi [Tn]) me)) := by
  refine (pe_callB call_isi hg hm (by decide +kernel : bootBuiltins "isinstance" = some (.builtin "isinstance")) (pa_cons he (pa_cons (pe_bltn hT hmT hvT (show RelV (.ty Tn) _ from rfl) hn hd) pa_nil h2) h1) (by decide) (by decide) h1 hpl).imp fun σ H Q q => ?_
  obtain ⟨σd, S, B, F, φ, s, rs, o⟩ := q
  obtain ⟨d, S1, e1, o1⟩ := okE_bnd o
  refine LE.then_ s rs e1 fun F1 φ1 H1 x s1 x1 rs1 dr1 l1 => ?_
  have o1 := o1.ext x1
  unfold fIsi at o1
  split at o1
  · rename_i t ht
    split at o1
    · rename_i hb
      have hb1 : tyOk Tn = true := by simpa using hb
      refine ⟨x, .ty Tn, _, _, isSub t Tn, rfl, .ty Tn, tyName_ok s1 ht dr1, kit_ty (kit_tab t (tyName_mem ht) Tn (by simpa [tyOk] using hb1)), ?_⟩
      have := o1.fin0 rfl s1 (Rp.bl _) trivial
      simpa using this
    · exact o1.no
  · exact o1.no
theorem k_isi2 {e : Expr} {me : ME} {T U : Str} {Tn Un : String} {p p2 p3 p4 pos : Pos} {kk : Nat} (he : PE X e (LE X.K cl me)) (hg : Gl X "isinstance") (hm : X.mg "isinstance" = none) (hT : Gl X T) (hmT : X.mg T = none) (hvT : bootBuiltins T = some (.type Tn)) (hU : Gl X U) (hmU : X.mg U = none) (hvU : bootBuiltins U = some (.type Un))
    (hn : T ≠ "__name__" := by decide) (hd : (T == ("__debug__" : Str)) = false := by decide) (hnU : U ≠ "__name__" := by decide) (hdU : (U == ("__debug__" : Str)) = false := by decide)
    (h1 : starEach [e, .Tuple [.Name T p2, .Name U p3] kk p4] X.env = (false, eval e X.env) :: starEach [.Tuple [.Name T p2, .Name U p3] kk p4] X.env := by rfl) (h2 : starEach [Expr.Tuple [.Name T p2, .Name U p3] kk p4] X.env = (false, eval (.Tuple [.Name T p2, .Name U p3] kk p4) X.env) :: starEach [] X.env := by rfl)
    (h3 : starEach [Expr.Name T p2, .Name U p3] X.env = (false, eval (.Name T p2) X.env) :: starEach [.Name U p3] X.env := by rfl) (h4 : starEach [Expr.Name U p3] X.env = (false, eval (.Name U p3) X.env) :: starEach [] X.env := by rfl) (hpl : (backTo pos (starEach [Expr.Tuple [.Name T p2, .Name U p3] kk p4] X.env)).any (·.1) = false := by rfl) :
    PE X (.Call (.Name "isinstance" p) [e, .Tuple [.Name T p2, .Name U p3] kk p4] [] pos) (LE X.K cl (dUn (fIsi [Tn, Un]) me)) := by
  refine (pe_callB call_isiT hg hm (by decide +kernel : bootBuiltins "isinstance" = some (.builtin "isinstance")) (pa_cons he (pa_cons (pe_tup (pa_cons (pe_bltn hT hmT hvT (show RelV (.ty Tn) _ from rfl) hn hd) (pa_cons (pe_bltn hU hmU hvU (show RelV (.ty Un) _ from rfl) hnU hdU) pa_nil h4) h3)) pa_nil h2) h1) (by decide) (by decide) h1 hpl).imp fun σ H Q q => ?_
  obtain ⟨σd, S, B, F, φ, s, rs, o⟩ := q
  obtain ⟨d, S1, e1, o1⟩ := okE_bnd o
  refine LE.then_ s rs e1 fun F1 φ1 H1 x s1 x1 rs1 dr1 l1 => ?_
  refine ⟨by show 2 ≤ sizeLine; decide, fun tp htp => ?_⟩
  have o1 := o1.ext x1
  unfold fIsi at o1
  split at o1
  · rename_i t ht
    split at o1
    · rename_i hb
      obtain ⟨hb1, hb2⟩ : tyOk Tn = true ∧ tyOk Un = true := by simpa using hb
      have sm : Same H1 (upd H1 tp (.tup [.ty Tn, .ty Un])) := Same.new (Same.refl _) htp
      have s2 := s1.keep sm
      have fin := o1.fin rfl s2 (Ext.ofSame s1 sm) (Rp.bl _) trivial
      have k1 := kit_tab t (tyName_mem ht) Tn (by simpa [tyOk] using hb1)
      have k2 := kit_tab t (tyName_mem ht) Un (by simpa [tyOk] using hb2)
      refine ⟨x, tp, [.ty Tn, .ty Un], _, [.type Tn, .type Un], isSub t Tn || isSub t Un, rfl, upd_same, .cons (.ty Tn) (.cons (.ty Un) .nil), tyName_ok s2 ht dr1, ?_, by simpa using fin⟩
      refine kitAny_cons (kit_ty k1) (fun h => ?_) (fun h => by rw [h, Bool.true_or])
      rw [h, Bool.false_or]
      exact kitAny_cons (kit_ty k2) (fun h => by rw [h]; exact kitAny_nil) (fun h => h)
    · exact o1.no
  · exact o1.no
/-! ### a module's constant -/
theorem k_glob {x : Str} {v : V} {u : Value} {q : P} {pos : Pos} (hg : Gl X x) (hm : X.mg x = some u) (r : RelV v u) (hq : ∀ F, Rp X.K cl F q v) (hd : (x == ("__debug__" : Str)) = false := by decide) : PE X (.Name x pos) (LE X.K cl (dC q)) :=
  (pe_glob hg hm r hd).imp fun _ _ _ h => e_c h hq
/-! ### truth -/
def truD (d : D) (S : SH) : Option (Bool × SH) := match d with
  | .p .non => some (false, S)
  | .p (.bl b) => some (b, S)
  | .p (.int i) => some (i != 0, S)
  | .p (.str z) => if z.length ≤ sizeLine then some ((z.length : Int) != 0, S) else none
  | d => match asQ d S with | some xs => some (!xs.isEmpty, S) | none => none
def dTru (a : ME) : MT := fun σ S => bnd (a σ S) truD
theorem truD_ok {S S1 : SH} {B : List Nat} {F : Hp} {φ : Nat → Addr} {H : Hp} {d : D} {x : V} {b : Bool} (s : Sim K cl S B F φ H) (e : truD d S = some (b, S1)) (r : DR K cl F φ d x) (l : d.lt S.len) : S1 = S ∧ TruV K x H b := by
  unfold truD at e
  split at e
  · cases e; exact ⟨rfl, by rw [drN r]; rfl⟩
  · cases e; exact ⟨rfl, by rw [drB r]; rfl⟩
  · cases e; exact ⟨rfl, by rw [drI r]; rfl⟩
  · split at e
    · rename_i z hz
      cases e
      exact ⟨rfl, by rw [drS r]; exact ⟨hz, rfl⟩⟩
    · cases e
  · split at e
    · rename_i xs h
      cases e
      obtain ⟨a, vs, rfl, q, t, m⟩ := asQ_ok s h r l
      refine ⟨rfl, ?_⟩
      have he : xs.isEmpty = vs.isEmpty := by cases t <;> rfl
      rcases q with q | q
      · exact .inl ⟨vs, q, by rw [he]⟩
      · exact .inr (.inl ⟨vs, q, by rw [he]⟩)
    · cases e
theorem t_tru {a : Expr} {ma : ME} (ha : PE X a (LE X.K cl ma)) (he : ∀ whole, isTrue a X.env whole = (do let v ← whole; standAt a.pos; holding [v] (truthy v)) := by intro _; rfl) : PT X a (LT X.K cl (dTru ma)) := by
  refine (pt_truth ha he).imp fun σ H Q q => ?_
  obtain ⟨σd, S, B, F, φ, s, rs, o⟩ := q
  obtain ⟨d, S1, e1, b, S2, e2, k⟩ := okT_bnd o
  refine LE.then_ s rs e1 fun F1 φ1 H1 x s1 x1 rs1 dr1 l1 => ?_
  obtain ⟨rfl, h⟩ := truD_ok s1 e2 dr1 l1
  exact ⟨b, h, k F1 φ1 H1 s1 x1⟩
/-- x or y, x and y by truth -/
def dOrT (a b : ME) : ME := fun σ S => bnd (a σ S) fun d S1 => bnd (truD d S1) fun t S2 => if t = true then some (d, S2) else b σ S2
def dAndT (a b : ME) : ME := fun σ S => bnd (a σ S) fun d S1 => bnd (truD d S1) fun t S2 => if t = true then b σ S2 else some (d, S2)
theorem k_orT {a b : Expr} {rest : List Expr} {ma mb : ME} {pos : Pos} (ha : PE X a (LE X.K cl ma)) (hb : PE X (.BoolOp .Or (b :: rest) pos) (LE X.K cl mb)) : PE X (.BoolOp .Or (a :: b :: rest) pos) (LE X.K cl (dOrT ma mb)) := by
  refine (pe_orT ha hb).imp fun σ H Q q => ?_
  obtain ⟨σd, S, B, F, φ, s, rs, o⟩ := q
  obtain ⟨d, S1, e1, o1⟩ := okE_bnd o
  obtain ⟨t, S2, e2, o2⟩ := okE_bnd o1
  refine LE.then_ s rs e1 fun F1 φ1 H1 x s1 x1 rs1 dr1 l1 => ?_
  obtain ⟨rfl, h⟩ := truD_ok s1 e2 dr1 l1
  refine ⟨t, h, ?_⟩
  split
  · rename_i ht; rw [if_pos ht] at o2; exact o2.fin rfl s1 x1 dr1 l1
  · rename_i ht; rw [if_neg ht] at o2; exact ⟨σd, S2, B, F1, φ1, s1, rs1, o2.ext x1⟩
theorem k_andT {a b : Expr} {rest : List Expr} {ma mb : ME} {pos : Pos} (ha : PE X a (LE X.K cl ma)) (hb : PE X (.BoolOp .And (b :: rest) pos) (LE X.K cl mb)) : PE X (.BoolOp .And (a :: b :: rest) pos) (LE X.K cl (dAndT ma mb)) := by
  refine (pe_andT ha hb).imp fun σ H Q q => ?_
  obtain ⟨σd, S, B, F, φ, s, rs, o⟩ := q
  obtain ⟨d, S1, e1, o1⟩ := okE_bnd o
  obtain ⟨t, S2, e2, o2⟩ := okE_bnd o1
  refine LE.then_ s rs e1 fun F1 φ1 H1 x s1 x1 rs1 dr1 l1 => ?_
  obtain ⟨rfl, h⟩ := truD_ok s1 e2 dr1 l1
  refine ⟨t, h, ?_⟩
  split
  · rename_i ht; rw [if_pos ht] at o2; exact ⟨σd, S2, B, F1, φ1, s1, rs1, o2.ext x1⟩
  · rename_i ht; rw [if_neg ht] at o2; exact o2.fin rfl s1 x1 dr1 l1
/-! ### chains of comparisons -/
def dChain (f g : D → D → SH → Option (D × SH)) (a b c : ME) : ME := fun σ S => bnd (a σ S) fun x S1 => bnd (b σ S1) fun y S2 => bnd (f x y S2) fun z S3 => bnd (toB z S3) fun t S4 => if t = true then bnd (c σ S4) fun w S5 => g y w S5 else some (.p (.bl false), S4)
theorem e_chain {f g : D → D → SH → Option (D × SH)} {r r' : R2} {ma mb mc : ME} {σ : L2.St} {H : Hp} {Q : VK} (h1 : OpD K cl f r) (h2 : OpD K cl g r') (q : LE K cl (dChain f g ma mb mc) σ H Q) :
    tChain r r' (LE K cl ma) (LE K cl mb) (LE K cl mc) σ H Q := by
  obtain ⟨σd, S, B, F, φ, s, rs, o⟩ := q
  obtain ⟨d1, S1, e1, o1⟩ := okE_bnd o
  obtain ⟨d2, S2, e2, o2⟩ := okE_bnd o1
  obtain ⟨d3, S3, e3, o3⟩ := okE_bnd o2
  obtain ⟨t, S4, e4, o4⟩ := okE_bnd o3
  obtain ⟨ed, es⟩ := toB_of e4
  subst ed es
  refine LE.then_ s rs e1 fun F1 φ1 H1 x s1 x1 rs1 dr1 l1 => LE.then_ s1 rs1 e2 fun F2 φ2 H2 y s2 x2 rs2 dr2 l2 => ?_
  refine h1 S2 B F2 φ2 H2 d1 d2 x y _ s2 (x2.dr l1 dr1) dr2 (x2.lt l1) l2 ⟨_, _, e3, fun F3 φ3 H3 z s3 x3 dr3 l3 => ⟨t, drB dr3, ?_⟩⟩
  have x123 := (x1.trans x2).trans x3
  split
  · rename_i ht; rw [if_pos ht] at o4
    obtain ⟨d5, S5, e5, o5⟩ := okE_bnd (o4.ext x123)
    refine LE.then_ s3 (x3.rs rs2) e5 fun F5 φ5 H5 w s5 x5 rs5 dr5 l5 => ?_
    have x35 := x3.trans x5
    exact h2 S5 B F5 φ5 H5 d2 d5 y w Q s5 (x35.dr l2 dr2) dr5 (x35.lt l2) l5 (o5.ext x5)
  · rename_i ht; rw [if_neg ht] at o4
    exact o4.fin rfl s3 x123 (Rp.bl _) trivial
theorem k_chain {op op' : CmpOp} {r r' : R2} {f g : D → D → SH → Option (D × SH)} {a b c : Expr} {ma mb mc : ME} {pos : Pos} (h1 : OpD X.K cl f r) (h2 : OpD X.K cl g r') (ho : OpR X (compareOp op) r) (ho' : OpR X (compareOp op') r') (ha : PE X a (LE X.K cl ma)) (hb : PE X b (LE X.K cl mb)) (hc : PE X c (LE X.K cl mc))
    (hm : lastMarks [op, op'] [b, c] = false := by with_unfolding_all rfl) : PE X (.Compare a [op, op'] [b, c] pos) (LE X.K cl (dChain f g ma mb mc)) :=
  (pe_chain ho ho' ha hb hc hm).imp fun _ _ _ q => e_chain h1 h2 q
theorem t_chain {op op' : CmpOp} {r r' : R2} {f g : D → D → SH → Option (D × SH)} {a b c : Expr} {ma mb mc : ME} {pos : Pos} (h1 : OpD X.K cl f r) (h2 : OpD X.K cl g r') (ho : OpR X (compareOp op) r) (ho' : OpR X (compareOp op') r') (ha : PE X a (LE X.K cl ma)) (hb : PE X b (LE X.K cl mb)) (hc : PE X c (LE X.K cl mc))
    (hm : lastMarks [op, op'] [b, c] = false := by with_unfolding_all rfl) : PT X (.Compare a [op, op'] [b, c] pos) (LT X.K cl (dTest (dChain f g ma mb mc))) :=
  (pt_chain ho ho' ha hb hc hm).imp fun _ _ _ q => e_chain h1 h2 (e_test q)
/-! ### name op= e, o[i] op= e -/
def dAug (i : Nat) (f : D → D → SH → Option (D × SH)) (e : ME) : MS := fun σ S => match σ[i]? with
  | some (some d) => bnd (e σ S) fun y S1 => bnd (f d y S1) fun z S2 => some (.nx (σ.set i (some z)), S2)
  | _ => none
theorem PIp.of {op : Operator} {r : R2} (h : OpR X (inplaceOp op) r) : PIp X op r := fun pins s σ H x y v u Q I rx ry q => h pins s σ H x y v u Q I rx ry q
theorem s_aug {i : Nat} {x : Str} {e : Expr} {me : ME} {op : Operator} {f : D → D → SH → Option (D × SH)} {r : R2} {pos pos' : Pos} (hd : OpD X.K cl f r) (ho : OpR X (inplaceOp op) r) (hN : X.N.Nodup) (hi : X.N[i]? = some x) (hx : Loc X.env.scope x) (he : PE X e (LE X.K cl me)) (hf : X.fn x = true ∨ X.env.scope.names.lookup x = some .local := by first | exact .inl rfl | exact .inr rfl | assumption) :
    PS X (.AugAssign (.Name x pos') op e pos) (LS X.K cl (dAug i f me)) := by
  refine (ps_aug hN hi hx he (PIp.of ho) hf).imp fun Z σ H q => ?_
  obtain ⟨σd, S, B, F, φ, s, rs, o⟩ := q
  unfold dAug at o
  split at o
  · rename_i d hd'
    obtain ⟨y, S1, e1, o1⟩ := okS_bnd o
    obtain ⟨z, S2, e2, o2⟩ := okS_bnd o1
    obtain ⟨_, _, ez, k⟩ := o2
    cases ez
    obtain ⟨l, v, hv, dr⟩ := rs.2 i d hd'
    refine ⟨v, hv, LE.then_ s rs e1 fun F1 φ1 H1 u s1 x1 rs1 dr1 l1 => ?_⟩
    exact hd S1 B F1 φ1 H1 d y v u _ s1 (x1.dr l dr) dr1 (x1.lt l) l1 ⟨z, S2, e2, fun F2 φ2 H2 w s2 x2 dr2 l2 => k F2 φ2 H2 _ s2 (x1.trans x2) ((x2.rs rs1).set i dr2 l2)⟩
  · obtain ⟨_, _, z, _⟩ := o; cases z
theorem i_add {live : Bool} : True := trivial
def ixL (o i : D) (S : SH) : Option D := match o, i with
  | .ref n, .p (.int k) => (match S.os[n]? with | some (.lst ds) => atI ds k | _ => none)
  | _, _ => none
theorem ixL_ok {S : SH} {B : List Nat} {F : Hp} {φ : Nat → Addr} {H : Hp} {o i d : D} {x y : V} (s : Sim K cl S B F φ H) (e : ixL o i S = some d) (r1 : DR K cl F φ o x) (r2 : DR K cl F φ i y) : ∃ a vs k v, x = .ref a ∧ y = .int k ∧ SqL K H a vs ∧ atI vs k = some v ∧ DR K cl F φ d v ∧ d.lt S.len := by
  unfold ixL at e
  split at e
  · rename_i n k
    split at e
    · rename_i ds q
      obtain ⟨vs, ev, rv⟩ := (s.ob n _ q).2
      obtain ⟨v, hv, rv', hm⟩ := atI_dra rv e
      exact ⟨φ n, vs, k, v, r1, drI r2, .inl (.inl ev), hv, rv', s.wf n _ q d hm⟩
    · cases e
  · cases e
def dAugS (o i e : ME) (f : D → D → SH → Option (D × SH)) : MS := fun σ S => bnd (o σ S) fun x S1 => bnd (i σ S1) fun y S2 => match ixL x y S2 with
  | some old => bnd (e σ S2) fun v S4 => bnd (f old v S4) fun z S5 => match setIx x y z S5 with | some S6 => some (.nx σ, S6) | none => none
  | none => none
theorem get_seqL : PGet X (rIxL X.K) := by
  intro pins s σ H x y v u Q I rx ry h
  obtain ⟨p, xs, i, z, rfl, rfl, hq, he, q⟩ := h
  cases rx
  obtain ⟨t, rfl⟩ := ry
  obtain ⟨its, r, pl, hz⟩ := I.list hq
  obtain ⟨j, h1, h2, h3, h4, h5⟩ := atI_get he
  obtain ⟨w, ew, rw'⟩ := r.get h2
  have hl := r.length
  have hn := line63
  have fin : EP X pins σ Q w s := ⟨z, H, I, rw', q⟩
  by_cases h0 : 0 ≤ i
  · have hj : i.toNat = j := by
      rw [seqIndex_of h0 h5] at h1
      exact Option.some.inj h1
    exact getItem_listL pl.isList h0 (by omega) (by rw [hj]; exact ew) fin
  · have hj : (i + (its.toArray.size : Int)).toNat = j := by
      rw [seqIndex_neg (by omega) h4] at h1
      rw [List.size_toArray, ← hl]
      exact Option.some.inj h1
    exact wpAny_getItem_list_neg pl.isList (by omega) (by rw [List.size_toArray] <;> omega) (by omega) (by rw [hj]; simpa using ew) fin
theorem s_augS {o i e : Expr} {mo mi me : ME} {op : Operator} {f : D → D → SH → Option (D × SH)} {r : R2} {pos tpos : Pos} (hd : OpD X.K cl f r) (hop : OpR X (inplaceOp op) r) (ho : PE X o (LE X.K cl mo)) (hi : PE X i (LE X.K cl mi)) (he : PE X e (LE X.K cl me))
    (ha : ∀ ov iv new, augStore i ov iv new = (do holding [new, ov, iv] (setItem ov iv new); release [new, ov, iv] []; pure .next) := by intros; rfl) : PS X (.AugAssign (.Subscript o i tpos) op e pos) (LS X.K cl (dAugS mo mi me f)) := by
  refine (ps_augS ho hi get_seqL he (PIp.of hop) set_list ha).imp fun Z σ H q => ?_
  obtain ⟨σd, S, B, F, φ, s, rs, o0⟩ := q
  obtain ⟨x, S1, e1, o1⟩ := okS_bnd o0
  obtain ⟨y, S2, e2, o2⟩ := okS_bnd o1
  split at o2
  · rename_i old e3
    obtain ⟨v, S4, e4, o4⟩ := okS_bnd o2
    obtain ⟨z, S5, e5, o5⟩ := okS_bnd o4
    refine LE.then_ s rs e1 fun F1 φ1 H1 u s1 x1 rs1 dr1 l1 => LE.then_ s1 rs1 e2 fun F2 φ2 H2 w s2 x2 rs2 dr2 l2 => ?_
    cases e6 : setIx x y z S5 with
    | none => rw [e6] at o5; obtain ⟨_, _, z, _⟩ := o5; cases z
    | some S6 =>
      rw [e6] at o5
      obtain ⟨_, _, ez, k⟩ := o5
      cases ez
      obtain ⟨a, vs, i0, v0, eu, ew, q, hv0, rv0, l0⟩ := ixL_ok s2 e3 (x2.dr l1 dr1) dr2
      refine ⟨a, vs, i0, v0, eu, ew, q, hv0, ?_⟩
      refine LE.then_ s2 rs2 e4 fun F4 φ4 H4 y' s4 x4 rs4 dr4 l4 => ?_
      refine hd S4 B F4 φ4 H4 old v v0 y' _ s4 (x4.dr l0 rv0) dr4 (x4.lt l0) l4 ⟨z, S5, e5, fun F5 φ5 H5 z' s5 x5 dr5 l5 => ?_⟩
      have x45 := x4.trans x5
      obtain ⟨p, xs, k0, j, h1, h2, h3, h4, s6, x6⟩ := setIx_ok e6 s5 ((x2.trans x45).dr l1 dr1) (x45.dr l2 dr2) dr5 l5
      exact ⟨p, xs, k0, j, h1, h2, h3, h4, k _ _ _ σ s6 (((x1.trans x2).trans x45).trans x6) ((x5.trans x6).rs rs4)⟩
  · obtain ⟨_, _, z, _⟩ := o2; cases z
/-! ### the in-place operators -/
theorem iop_mulG : OpR X (inplaceOp .Mult) (rI (fun i j => CMul i j ∨ CMulW i j) fun i j => .int (i * j)) := opI fun i j _ _ _ _ _ hc q => imul_int q (hc.elim (fun h => h.ok) fun h => h.ok)
theorem iop_fdivW : OpR X (inplaceOp .FloorDiv) (rI CDivW fun i j => .int (i / j)) := opI fun i j _ _ _ _ _ hc q => by
  have h1 : (0 : Int) < j := hc.1
  exact ifloordiv_int (by omega) (by rw [Int.fdiv_eq_ediv_of_nonneg i (by omega)]; exact q) (.inl (PyProof.noPylong_of_log2 hc.2))
/-- int += int, text += text (a list's += changes the list: not here) -/
def fAug (d e : D) (S : SH) : Option (D × SH) := match d, e with
  | .p (.int i), .p (.int j) => some (.p (.int (i + j)), S)
  | .p (.str a), .p (.str b) => if a.length + b.length ≤ sizeLine then some (.p (.str (a ++ b)), S) else none
  | _, _ => none
def rAugG : R2 := fun x y H Q => rI0 (fun i j => .int (i + j)) x y H Q ∨ (∃ i j, x = .str i ∧ y = .str j ∧ i.length + j.length ≤ sizeLine ∧ Q (.str (i ++ j)) H)
theorem io_add : OpR X (inplaceOp .Add) rAugG := iop_add.or iop_add_str
theorem d_aug : OpD K cl fAug rAugG := by
  intro S B F φ H d1 d2 x y Q s r1 r2 l1 l2 o
  unfold fAug at o
  split at o
  · exact .inl ⟨_, _, drI r1, drI r2, o.fin0 rfl s (Rp.int _) trivial⟩
  · split at o
    · rename_i h
      exact .inr ⟨_, _, drS r1, drS r2, h, o.fin0 rfl s (Rp.str _) trivial⟩
    · exact o.no
  · exact o.no
/-! ### signs -/
def fOrd : MF := fun ds S => match ds with
  | [.p (.str z)] => if z.length = 1 then some (.p (.int (z.cps.getD 0 0 : Nat)), S) else none
  | _ => none
def rOrdG : List V → Hp → VK → Prop := fun xs H Q => ∃ x, xs = [.str x] ∧ x.length = 1 ∧ Q (.int (x.cps.getD 0 0 : Nat)) H
theorem c_ord : CallR X (.builtin "ord") rOrdG := call_ord
theorem d_ord : CallD K cl fOrd rOrdG := by
  intro S B F φ H ds xs Q s r l o
  unfold fOrd at o
  split at o
  · split at o
    · rename_i z h
      obtain ⟨x, rfl, rx⟩ := dra1 r
      exact ⟨z, by rw [drS rx], h, o.fin0 rfl s (Rp.int _) trivial⟩
    · exact o.no
  · exact o.no
def fChr : MF := fun ds S => match ds with
  | [.p (.int i)] => if 0 ≤ i ∧ i ≤ 1114111 then some (.p (.str ⟨#[i.toNat]⟩), S) else none
  | _ => none
def rChrG : List V → Hp → VK → Prop := fun xs H Q => ∃ i, xs = [.int i] ∧ 0 ≤ i ∧ i ≤ 1114111 ∧ Q (.str ⟨#[i.toNat]⟩) H
theorem c_chr : CallR X (.builtin "chr") rChrG := call_chr
theorem d_chr : CallD K cl fChr rChrG := by
  intro S B F φ H ds xs Q s r l o
  unfold fChr at o
  split at o
  · split at o
    · rename_i i h
      obtain ⟨x, rfl, rx⟩ := dra1 r
      exact ⟨i, by rw [drI rx], h.1, h.2, o.fin0 rfl s (Rp.str _) trivial⟩
    · exact o.no
  · exact o.no
/-- one sign in a text -/
def fInS (neg : Bool) (d e : D) (S : SH) : Option (D × SH) := match d, e with
  | .p (.str y), .p (.str z) => if y.cps.size = 1 then some (.p (.bl (if neg = true then !decide (y.cps.getD 0 0 ∈ z.cps.toList) else decide (y.cps.getD 0 0 ∈ z.cps.toList))), S) else none
  | _, _ => none
def rInSG (neg : Bool) : R2 := fun x y H Q => ∃ (c : Nat) (z : Str), x = .str ⟨#[c]⟩ ∧ y = .str z ∧ Q (.bl (if neg = true then !decide (c ∈ z.cps.toList) else decide (c ∈ z.cps.toList))) H
theorem o_inS : OpR X (compareOp .In) (rInSG false) := by
  intro pins s σ H x y v u Q I rx ry h
  obtain ⟨c, z, h1, h2, q⟩ := h
  exact op_in_sign pins s σ H x y v u Q I rx ry ⟨c, z, h1, h2, by simpa using q⟩
theorem o_notinS : OpR X (compareOp .NotIn) (rInSG true) := by
  intro pins s σ H x y v u Q I rx ry h
  obtain ⟨c, z, h1, h2, q⟩ := h
  exact op_notIn_sign pins s σ H x y v u Q I rx ry ⟨c, z, h1, h2, by simpa using q⟩
theorem d_inS {neg : Bool} : OpD K cl (fInS neg) (rInSG neg) := by
  intro S B F φ H d1 d2 x y Q s r1 r2 l1 l2 o
  unfold fInS at o
  split at o
  · rename_i w z
    split at o
    · rename_i hs
      refine ⟨w.cps.getD 0 0, z, ?_, drS r2, o.fin0 rfl s (Rp.bl _) trivial⟩
      rw [drS r1]
      obtain ⟨cs⟩ := w
      have hs : cs.size = 1 := hs
      congr 2
      apply Array.ext
      · simpa using hs
      · intro i h1 h2
        have : i = 0 := by simp at h2; omega
        subst this
        simp [Array.getD, hs]
    · exact o.no
  · exact o.no
/-- sep.join(texts) -/
def strsOf : List D → Option (List Str)
  | [] => some []
  | .p (.str i) :: r => (strsOf r).map (i :: ·)
  | _ => none
@[simp] theorem strsOf_map (ns : List Str) : strsOf (ns.map fun n => D.p (.str n)) = some ns := by
  induction ns with
  | nil => rfl
  | cons x r ih => simp [strsOf, ih]
theorem strsOf_of : ∀ {ds : List D} {ns : List Str} {F : Hp} {φ : Nat → Addr} {vs : List V}, strsOf ds = some ns → DRA K cl F φ ds vs → vs = ns.map V.str
  | [], ns, F, φ, vs, h, r => by cases h; cases r; rfl
  | .p (.str i) :: r, ns, F, φ, vs, h, q => by
    unfold strsOf at h
    cases e : strsOf r with
    | none => rw [e] at h; cases h
    | some ms =>
      rw [e] at h; cases h
      cases q with
      | cons a b => rw [List.map_cons, ← strsOf_of e b, drS a]
  | .ref n :: r, _, _, _, _, h, _ => by cases h
  | .p .non :: r, _, _, _, _, h, _ => by cases h
  | .p (.bl _) :: r, _, _, _, _, h, _ => by cases h
  | .p (.int _) :: r, _, _, _, _, h, _ => by cases h
  | .p (.tup _) :: r, _, _, _, _, h, _ => by cases h
  | .p (.lst _) :: r, _, _, _, _, h, _ => by cases h
  | .p (.dK _) :: r, _, _, _, _, h, _ => by cases h
  | .p (.dT _) :: r, _, _, _, _, h, _ => by cases h
  | .p (.ins _ _) :: r, _, _, _, _, h, _ => by cases h
def fJoin (d e : D) (S : SH) : Option (D × SH) := match d with
  | .p (.str a) => (match asQ e S with
    | some xs => (match strsOf xs with
      | some ys => if (ys.map (·.length)).sum + ys.length * a.length ≤ 16777216 then some (.p (.str (Txt.join a ys)), S) else none
      | none => none)
    | none => none)
  | _ => none
theorem k_join {o e : Expr} {mo me : ME} {apos pos : Pos} (ho : PE X o (LE X.K cl mo)) (he : PE X e (LE X.K cl me)) (hs : starEach [e] X.env = [(false, eval e X.env)] := by rfl) (hbase : attributeBase o "join" X.env (eval o X.env) = eval o X.env := by rfl) (hline : (apos.endLine == pos.line) = true := by rfl) :
    PE X (.Call (.Attribute o "join" apos) [e] [] pos) (LE X.K cl (dOp fJoin mo me)) := by
  refine (pe_join ho he hs hbase hline).imp fun σ H Q q => ?_
  obtain ⟨σd, S, B, F, φ, s, rs, o⟩ := q
  obtain ⟨d, S1, e1, o1⟩ := okE_bnd o
  obtain ⟨y, S2, e2, o2⟩ := okE_bnd o1
  refine LE.then_ s rs e1 fun F1 φ1 H1 x s1 x1 rs1 dr1 l1 => ?_
  unfold fJoin at o2
  split at o2
  · rename_i a
    refine ⟨⟨a, drS dr1⟩, LE.then_ s1 rs1 e2 fun F2 φ2 H2 v s2 x2 rs2 dr2 l2 => ?_⟩
    split at o2
    · rename_i xs ex
      split at o2
      · rename_i ys ey
        split at o2
        · rename_i hz
          obtain ⟨p, vs, rfl, q, t, m⟩ := asQ_ok s2 ex dr2 l2
          have := strsOf_of ey t
          subst this
          exact ⟨a, p, ys, drS dr1, rfl, q, hz, o2.fin rfl s2 (x1.trans x2) (Rp.str _) trivial⟩
        · exact o2.no
      · exact o2.no
    · exact o2.no
  · exact o2.no
end
end Pv
namespace Pv
open PySem PySem.Spec PyProof.Rows L2
theorem cs_nil {p : Nat → Prop} : ∀ c ∈ ([] : List Nat), p c := fun _ h => absurd h (by simp)
theorem cs_cons {p : Nat → Prop} {a : Nat} {l : List Nat} (h : p a) (t : ∀ c ∈ l, p c) : ∀ c ∈ a :: l, p c := fun c hc => by
  rcases List.mem_cons.mp hc with rfl | hc
  · exact h
  · exact t c hc
abbrev wFuel : Nat := 1000000
theorem u65 {k : Nat} {A : Around} (hr : Room k A) : A.units + 65 < cLine := by have := hr.un; omega
theorem fn_no {P : Program} {w : World} {K : PySem.W.Frag} {mg : Str → Option Value} {base : Heap} {k : Nat} {f : Addr} {fd : FuncData} {ps : List Str} {cl : Nat → Addr} : FnOk P w K mg base CX0 k f fd ps (spOf K cl fun _ _ => none) :=
  ⟨fun vs H Q E h => (by
    obtain ⟨_, _, _, _, _, _, _, _, _, _, z, _⟩ := h; cases z), fun A outer s H args us vs Q E _ _ _ _ h => (by
    obtain ⟨_, _, _, _, _, _, _, _, _, _, z, _⟩ := h; cases z)⟩
section
variable {X : Cx} {K : PySem.W.Frag} {cl : Nat → Addr}
/-- in: a sign in a text, or a datum in a list or tuple -/
def fInG (neg : Bool) (d e : D) (S : SH) : Option (D × SH) := match d, e with
  | .p (.str y), .p (.str z) => fInS neg (.p (.str y)) (.p (.str z)) S
  | d, e => fIn neg d e S
def rInG (K : PySem.W.Frag) (cl : Nat → Addr) (neg : Bool) : R2 := fun x y H Q => rInSG neg x y H Q ∨ rInP K cl neg x y H Q
theorem o_inG (hu : X.A.units + 65 < cLine) : OpR X (compareOp .In) (rInG X.K cl false) := o_inS.or (o_in hu)
theorem o_notinG (hu : X.A.units + 65 < cLine) : OpR X (compareOp .NotIn) (rInG X.K cl true) := o_notinS.or (o_notin hu)
theorem d_inG {neg : Bool} : OpD K cl (fInG neg) (rInG K cl neg) := by
  intro S B F φ H d1 d2 x y Q s r1 r2 l1 l2 o
  unfold fInG at o
  split at o
  · exact .inl (d_inS S B F φ H _ _ x y Q s r1 r2 l1 l2 o)
  · exact .inr (d_in S B F φ H _ _ x y Q s r1 r2 l1 l2 o)
theorem d_addI : OpD K cl (fII (fun _ _ => true) fun i j => .int (i + j)) rAdd := by
  intro S B F φ H d1 d2 x y Q s r1 r2 l1 l2 o
  obtain ⟨i, j, h1, h2, q⟩ := d_II0 (g' := fun i j => .int (i + j)) (fun _ _ _ => .int _) S B F φ H d1 d2 x y Q s r1 r2 l1 l2 o
  exact ⟨i, j, h1, h2, q⟩
theorem d_subI : OpD K cl fSub rSub := by
  intro S B F φ H d1 d2 x y Q s r1 r2 l1 l2 o
  obtain ⟨i, j, h1, h2, q⟩ := d_sub S B F φ H d1 d2 x y Q s r1 r2 l1 l2 o
  exact ⟨i, j, h1, h2, q⟩
end
/-! ### the end -/
def intsP (ns : List Int) : List P := ns.map P.int
theorem rpA_ints {K : PySem.W.Frag} {cl : Nat → Addr} {F : Hp} : ∀ ns : List Int, RpA K cl F (intsP ns) (ns.map V.int)
  | [] => .nil
  | n :: r => .cons (.int n) (rpA_ints r)
open Classical in
/-- the law's promise, from what its computation gives -/
theorem law_of {K : PySem.W.Frag} {cl : Nat → Addr} {m : MF} {a : Addr} {ns : List Int} {H : Hp} {Q : VK} {E : XK} (hs : SqL K H a (ns.map V.int)) (h : m [.p (.lst (intsP ns))] ⟨0, []⟩ = some (.p (.bl true), ⟨0, []⟩)) (q : ∀ H', Q (.bl true) H') : spOf K cl m [.ref a] H Q E := by
  refine ⟨[.p (.lst (intsP ns))], ⟨0, []⟩, [], H, fun _ => 0, ⟨Same.refl _, fun n o e => by simp at e, fun n m h => absurd h (Nat.not_lt_zero _), fun n o e => by simp at e, fun b hb => absurd hb (by simp), Nat.le_refl _⟩, .cons (Rp.lst hs (rpA_ints ns)) .nil, fun d hd => ?_, .p (.bl true), ⟨0, []⟩, h, fun F1 φ1 H1 u s x r l => ?_⟩
  · rw [List.mem_singleton.mp hd]; trivial
  · rw [drB r]; exact q H1
theorem rel_ref {a : Addr} : RelV (.ref a) (.ref a) := rfl
end Pv
/-! sorted(list, key=a def) -/
namespace Pv
open PySem PySem.Spec PyProof.Rows L2
def allSome {α : Type} : List (Option α) → Option (List α)
  | [] => some []
  | some a :: r => (allSome r).map (a :: ·)
  | none :: _ => none
/-- atoms and tuples of these, as the kit's data -/
def pyOf : Nat → P → Option PyData
  | _, .non => some .none
  | _, .bl b => some (.bool b)
  | _, .int i => some (.int i)
  | _, .str x => some (.str x)
  | k + 1, .tup ps => (allSome (ps.map (pyOf k))).map .tuple
  | _, _ => none
def isTup1 : PyData → Bool
  | .tuple (_ :: _) => true
  | _ => false
def noTup : PyData → Bool
  | .tuple _ => false
  | .none => false
  | _ => true
def okKeys (ks : List PyData) : Bool := ks.all (fun a => ks.all (PySem.W.alike a)) && (ks.all isTup1 || ks.all noTup) && ks.all fun a => decide (a.depth ≤ 60)
theorem okKeys_of {ks : List PyData} (h : okKeys ks = true) : PySem.W.AllAlike ks ∧ PySem.W.Sortable ks ∧ ∀ d ∈ ks, d.depth ≤ 60 := by
  unfold okKeys at h
  simp only [Bool.and_eq_true, Bool.or_eq_true, List.all_eq_true, decide_eq_true_eq] at h
  obtain ⟨⟨h1, h2⟩, h3⟩ := h
  refine ⟨h1, ?_, h3⟩
  rcases h2 with h2 | h2
  · refine .inl fun d hd => ?_
    have q := h2 d hd
    unfold isTup1 at q
    split at q
    · exact ⟨_, _, rfl⟩
    · cases q
  · refine .inr fun d hd => ?_
    have q := h2 d hd
    unfold noTup at q
    split at q
    · cases q
    · cases q
    · rename_i n1 n2
      exact ⟨n2, fun xs z => n1 xs z⟩
def keysL (m : MF) : List P → SH → Option (List (P × PyData) × SH)
  | [], S => some ([], S)
  | p :: r, S => bnd (m [.p p] S) fun k S1 => match k with
    | .p q => match pyOf 60 q with
      | some d => bnd (keysL m r S1) fun l S2 => some ((p, d) :: l, S2)
      | none => none
    | _ => none
def sortK (live : Bool) (m : MF) (d : D) (S : SH) : Option (D × SH) := match asL d S with
  | some ds => match toPs ds with
    | some ps => bnd (keysL m ps S) fun l S1 => if okKeys (l.map (·.2)) = true then newL live ((l.mergeSort (PySem.W.dataLe false (·.2))).map fun x => D.p x.1) S1 else none
    | none => none
  | none => none
def dSortK (live : Bool) (m : MF) (me : ME) : ME := fun σ S => bnd (me σ S) (sortK live m)
section
variable {X : Cx} {cl : Nat → Addr} {pins : List (Addr × Obj)} {σ : L2.St} {F H : Hp} {s : Shared}
theorem rdAll (I : L2.Inv X pins σ H s) (sf : Same F H) {k : Nat} (ih : ∀ (p : P) (d : PyData) (v : V) (u : Value), pyOf k p = some d → Rp X.K cl F p v → RelV v u → Reads s.heap u d []) :
    ∀ (ps : List P) (ds : List PyData) (vs : List V) (us : List Value), allSome (ps.map (pyOf k)) = some ds → RpA X.K cl F ps vs → Vals vs us → ReadsAll s.heap us ds [] := by
  intro ps
  induction ps with
  | nil =>
    intro ds vs us e r q
    cases r; cases q
    have e' : ([] : List PyData) = ds := Option.some.inj e
    subst e'
    exact .nil
  | cons p ps hi =>
    intro ds vs us e r q
    cases r with
    | cons r1 r2 =>
      cases q with
      | cons q1 q2 =>
        rw [List.map_cons] at e
        cases e1 : pyOf k p with
        | none => rw [e1] at e; cases e
        | some d =>
          rw [e1] at e
          cases e2 : allSome (ps.map (pyOf k)) with
          | none => rw [allSome, e2] at e; cases e
          | some ds' =>
            rw [allSome, e2] at e
            have e' : d :: ds' = ds := Option.some.inj e
            subst e'
            have q := ReadsAll.cons (ih _ _ _ _ e1 r1 q1) (hi _ _ _ e2 r2 q2)
            exact q
theorem rdR (I : L2.Inv X pins σ H s) (sf : Same F H) : ∀ (k : Nat) (p : P) (d : PyData) (v : V) (u : Value), pyOf k p = some d → Rp X.K cl F p v → RelV v u → Reads s.heap u d [] := by
  intro k
  induction k with
  | zero =>
    intro p d v u e r q
    cases r <;> first | (cases e; done) | skip
    · cases e; cases q; exact .none
    · cases e; cases q; exact .bool _
    · cases e; obtain ⟨t, rfl⟩ := q; exact .int _ t
    · cases e; obtain ⟨t, rfl⟩ := q; exact .str _ t
  | succ k ih =>
    intro p d v u e r q
    cases r <;> first | (cases e; done) | skip
    · cases e; cases q; exact .none
    · cases e; cases q; exact .bool _
    · cases e; obtain ⟨t, rfl⟩ := q; exact .int _ t
    · cases e; obtain ⟨t, rfl⟩ := q; exact .str _ t
    · rename_i a ps vs st ra
      cases q
      rw [pyOf] at e
      cases e1 : allSome (ps.map (pyOf k)) with
      | none => rw [e1] at e; cases e
      | some ds =>
        rw [e1] at e
        have e' : PyData.tuple ds = d := Option.some.inj e
        subst e'
        obtain ⟨its, rv, ⟨o, n, h1, h2, h3⟩, _⟩ := I.tuple (SqT.mono sf st)
        exact .tuple ‹_› ‹_› ‹_› (rdAll I sf ih ps ds vs its e1 ra rv)
theorem map_fst_of {α β : Type} {l : List (α × β)} : ∀ {ps : List α}, l.map (·.1) = ps → l.length = ps.length := fun h => by rw [← h, List.length_map]
theorem keysL_fst {m : MF} : ∀ {ps : List P} {S S1 : SH} {l : List (P × PyData)}, keysL m ps S = some (l, S1) → l.map (·.1) = ps
  | [], S, S1, l, h => by cases h; rfl
  | p :: r, S, S1, l, h => by
    unfold keysL at h
    obtain ⟨k, S2, e1, h⟩ := bnd_of h
    cases k with
    | ref n => cases h
    | p q =>
      dsimp only at h
      cases e2 : pyOf 60 q with
      | none => rw [e2] at h; cases h
      | some d =>
        rw [e2] at h
        obtain ⟨l', S3, e3, h⟩ := bnd_of h
        cases h
        rw [List.map_cons, keysL_fst e3]

theorem vals_at : ∀ {xs : List V} {us : List Value} {i : Nat} {u : Value}, Vals xs us → us[i]? = some u → ∃ x, xs[i]? = some x ∧ RelV x u
  | _, _, _, _, .nil, e => by simp at e
  | _, _, 0, _, .cons r _, e => by simp at e; subst e; exact ⟨_, rfl, r⟩
  | _, _, i + 1, u, .cons _ t, e => by
    obtain ⟨x, h1, h2⟩ := vals_at (i := i) (u := u) t (by simpa using e)
    exact ⟨x, by simpa using h1, h2⟩
theorem rpa_snoc {K : PySem.W.Frag} {p : P} {v : V} (r : Rp K cl F p v) : ∀ {ps : List P} {vs : List V}, RpA K cl F ps vs → RpA K cl F (ps ++ [p]) (vs ++ [v])
  | _, _, .nil => .cons r .nil
  | _, _, .cons a b => .cons a (rpa_snoc r b)
theorem upd_none {h : Heap} {a b : Addr} {o : Obj} (e : h.get? b = some o) (n : b ≠ a) {f : Obj → Obj} : (h.update a f).get? b = some o := (Heap.get?_update_ne _ _ _ _ n).trans e
/-- a heap without the object at a -/
def lessH (h : Heap) (a : Addr) : Heap := h.update a fun o => { o with data := .freed }
theorem lessH_at (h : Heap) (a : Addr) : (lessH h a).get? a = none := by
  unfold lessH Heap.get?
  rw [Heap.objs_update_self]
  cases h.objs[a]? <;> rfl
theorem rp_each {K : PySem.W.Frag} : ∀ {l : List (P × PyData)} {vs : List V} {us : List Value}, RpA K cl F (l.map (·.1)) vs → Vals vs us → PySem.W.EachIs (fun (u : Value) (x : P × PyData) => ∃ v, RelV v u ∧ Rp K cl F x.1 v) us l
  | [], _, _, r, q => by
    cases r; cases q; exact .nil
  | x :: l, _, _, r, q => by
    rw [List.map_cons] at r
    cases r with
    | cons r1 r2 =>
      cases q with
      | cons q1 q2 => exact .cons ⟨_, q1, r1⟩ (rp_each r2 q2)
theorem each_rp {K : PySem.W.Frag} : ∀ {l : List (P × PyData)} {us : List Value}, PySem.W.EachIs (fun (u : Value) (x : P × PyData) => ∃ v, RelV v u ∧ Rp K cl F x.1 v) us l → ∃ vs : List V, Vals vs us ∧ RpA K cl F (l.map (·.1)) vs
  | _, _, .nil => ⟨[], .nil, .nil⟩
  | _, _, .cons ⟨v, q1, r1⟩ e => by
    obtain ⟨vs, q2, r2⟩ := each_rp e
    exact ⟨v :: vs, .cons q1 q2, .cons r1 r2⟩
theorem key_each (I : L2.Inv X pins σ H s) (sf : Same F H) : ∀ {l : List (P × PyData)} {kps : List P} {kv : List V} {us : List Value}, kps.map (pyOf 60) = l.map (fun x => some x.2) → RpA X.K cl F kps kv → Vals kv us → PySem.W.EachIs (fun v d => ∃ as, Reads s.heap v d as) us (l.map (·.2))
  | [], [], _, _, _, r, q => by
    cases r; cases q; exact .nil
  | [], _ :: _, _, _, e, _, _ => by cases e
  | _ :: _, [], _, _, e, _, _ => by cases e
  | x :: l, p :: kps, _, _, e, r, q => by
    rw [List.map_cons, List.map_cons] at e
    injection e with e1 e2
    cases r with
    | cons r1 r2 =>
      cases q with
      | cons q1 q2 => exact .cons ⟨[], rdR I sf 60 _ _ _ _ e1 r1 q1⟩ (key_each I sf e2 r2 q2)
def rSortK (K : PySem.W.Frag) (cl : Nat → Addr) (live : Bool) (m : MF) (f : Addr) : List V → List V → Hp → VK → Prop := fun vs zs H Q => zs = [V.ref f] ∧ ∃ d v S B F φ, vs = [v] ∧ Sim K cl S B F φ H ∧ DR K cl F φ d v ∧ d.lt S.len ∧ OkE K cl S B F φ H (sortK live m d S) Q
theorem fpAt {H' : Hp} {b : Addr} (f : FpOk X pins H b) (n : H' b = none) : FpOk X pins H' b := ⟨n, f.2⟩
theorem pins2 {a b : Addr} {oa ob : Obj} (I : L2.Inv X pins σ H s) (fa : FpOk X pins H a) (fb : FpOk X pins H b) (ha : s.heap.get? a = some oa) (hb : s.heap.get? b = some ob) (ca : ∀ v, oa.data ≠ .cell v) (cb : ∀ v, ob.data ≠ .cell v) : L2.Inv X (pins ++ [(a, oa), (b, ob)]) σ H s := by
  refine I.pins_of fun p hp => ?_
  rcases List.mem_append.mp hp with hp | hp
  · exact I.pin p (List.mem_append_right _ hp)
  · rcases List.mem_cons.mp hp with rfl | hp
    · exact ⟨ha, fa.1, fa.2.1, fa.2.2.1, ca⟩
    · rw [List.mem_singleton.mp hp]
      exact ⟨hb, fb.1, fb.2.1, fb.2.2.1, cb⟩
theorem sortK_run {k : Nat} {f : Addr} {fd : FuncData} {ps0 : List Str} {m : MF} {live : Bool} (FN : FnOk X.prog X.w X.K X.mg X.base CX0 k f fd ps0 (spOf X.K cl m)) (hr : Room (k + 2) X.A) (hb : Binds X.K fd ps0 []) : CallRK X (.builtin "sorted") [Str.ofString "key"] (rSortK X.K cl live m f) := by
  intro pins s σ H vs zs us ws Q I rv rz h
  obtain ⟨rfl, d, v, S, B, F0, φ, rfl, sim, dr, l, o⟩ := h
  obtain rfl := Vals.ref1 rz
  unfold sortK at o
  cases e1 : asL d S with
  | none => rw [e1] at o; obtain ⟨_, _, z, _⟩ := o; cases z
  | some ds =>
  rw [e1] at o
  dsimp only at o
  cases e2 : toPs ds with
  | none => rw [e2] at o; obtain ⟨_, _, z, _⟩ := o; cases z
  | some ps =>
  rw [e2] at o
  dsimp only at o
  obtain ⟨la, xs, rfl, hs, ra, lx⟩ := asL_ok sim e1 dr l
  obtain rfl := toPs_of e2
  obtain ⟨l0, S1, ek, o⟩ := okE_bnd o
  by_cases hok : okKeys (l0.map (·.2)) = true
  case neg => rw [if_neg hok] at o; obtain ⟨_, _, z, _⟩ := o; cases z
  rw [if_pos hok] at o
  obtain ⟨hal, hsk, hdp⟩ := okKeys_of hok
  obtain ⟨its, rvi, hl, hz⟩ := I.list hs
  obtain rfl := Vals.ref1 rv
  have ra0 : RpA X.K cl F0 ps xs := ra.rpa
  have hil : its.length = xs.length := rvi.length.symm
  have hpl : ps.length = xs.length := ra0.len
  have hl0 : l0.map (·.1) = ps := keysL_fst ek
  have hll : l0.length = ps.length := map_fst_of hl0
  refine PySem.W.sorted_of_sort hl.isList (by omega) (ksk_s1 _ _) (fun _ => ksk_l1 _ _) fun E' => ?_
  show wpAny (model X.prog X.w) X.A.in1.in1 (ksk_tree (s.heap.objs.size + 1) (.ref f) false) _ E' _
  have n1 := PySem.W.copyHeap_at s.heap its
  generalize hG : PySem.W.copyHeap s.heap its = G at n1
  have kG : ∀ b u, s.heap.get? b = some u → G.get? b = some u := fun b u e => by rw [← hG]; exact PySem.W.copyHeap_old e
  have zG : s.heap.objs.size + 1 < G.objs.size := Heap.lt_size n1
  generalize hA : s.heap.objs.size + 1 = A1 at n1 zG
  have nA : ∀ b u, s.heap.get? b = some u → b ≠ A1 := fun b u e z => absurd (Heap.lt_size e) (by rw [z, ← hA]; exact Nat.not_lt.mpr (Nat.le_succ _))
  obtain ⟨e1', n2⟩ : ∃ q, (G.update A1 (Obj.mapSeq fun _ => (#[] : Array Value))).get? A1 = some (seqObj "list" #[] q) := ⟨_, get?_update_seq n1 fun _ => #[]⟩
  unfold ksk_tree
  refine wpAny_bind (listItems_at n1 rfl ?_)
  refine wpAny_bind (listUpdate_at n1 rfl ?_ (by rw [List.size_toArray]; omega) (Nat.zero_le _))
  refine wpAny_bind (seqEpoch_at n2 rfl ?_)
  refine wpAny_bind (wpAny_newTuple ?_ (by show its.length ≤ _; omega))
  refine wpAny_bind (wpAny_newList ?_ (Nat.zero_le _))
  refine wpAny_holding ?_
  have n3 := Heap.get?_push_size (((G.update A1 (Obj.mapSeq fun _ => (#[] : Array Value))).push (seqObj "tuple" its.toArray 0))) (o := seqObj "list" #[] 0) rfl
  have zU : (G.update A1 (Obj.mapSeq fun _ => (#[] : Array Value))).objs.size = G.objs.size := Heap.size_update _ _ _
  have zP : ((G.update A1 (Obj.mapSeq fun _ => (#[] : Array Value))).push (seqObj "tuple" its.toArray 0)).objs.size = G.objs.size + 1 := by rw [size_push', zU]
  have n4 : (((G.update A1 (Obj.mapSeq fun _ => (#[] : Array Value))).push (seqObj "tuple" its.toArray 0)).push (seqObj "list" #[] 0)).get? A1 = some (seqObj "list" #[] e1') := Heap.get?_push_of_some _ (Heap.get?_push_of_some _ n2)
  have kT : ∀ b u, s.heap.get? b = some u → (((G.update A1 (Obj.mapSeq fun _ => (#[] : Array Value))).push (seqObj "tuple" its.toArray 0)).push (seqObj "list" #[] 0)).get? b = some u := fun b u e =>
    Heap.get?_push_of_some _ (Heap.get?_push_of_some _ (upd_none (kG b u e) (nA b u e)))
  show wpAny _ _ (ksk_rest A1 (.ref f) false its.toArray e1' (.ref ((G.update A1 (Obj.mapSeq fun _ => (#[] : Array Value))).push (seqObj "tuple" its.toArray 0)).objs.size)) _ _ { s with heap := ((G.update A1 (Obj.mapSeq fun _ => (#[] : Array Value))).push (seqObj "tuple" its.toArray 0)).push (seqObj "list" #[] 0) }
  rw [zP] at n3 ⊢
  generalize (((G.update A1 (Obj.mapSeq fun _ => (#[] : Array Value))).push (seqObj "tuple" its.toArray 0)).push (seqObj "list" #[] 0)) = T at n3 n4 kT ⊢
  have hne : A1 ≠ G.objs.size + 1 := by omega
  generalize hK : G.objs.size + 1 = KS at n3 hne ⊢
  have fA : FpOk X pins H A1 := I.fpOk (by omega) (I.hok.fresh (by omega))
  have fK : FpOk X pins H KS := I.fpOk (by omega) (I.hok.fresh (by omega))
  have I0 := I.kept (t' := s.toks) kT
  have nc : ∀ (xs : Array Value) (n : Nat) (v : Option Value), (seqObj "list" xs n).data ≠ .cell v := fun xs n v z => by cases z
  unfold ksk_rest
  refine wpAny_bind (wpAny_rule ?_)
  first
    | rw [List.forIn_toArray]
    | (rw [← Array.forIn_toList]; simp only [List.toList_toArray])
  refine wpAny_bind (ksk_fold (fun i s' => ∃ S2 F2 φ2 H2 kA e l1 l2 kps kv, L2.Inv X (pins ++ [(A1, seqObj "list" #[] e1'), (KS, seqObj "list" kA e)]) σ H2 s' ∧ Sim X.K cl S2 B F2 φ2 H2 ∧ Ext S F0 φ H S2 F2 φ2 H2 ∧ keysL m (ps.drop i) S2 = some (l2, S1) ∧ l0 = l1 ++ l2 ∧ l1.length = i ∧ Vals kv kA.toList ∧ RpA X.K cl F2 kps kv ∧ kps.map (pyOf 60) = l1.map (fun x => some x.2)) its 0 _
    ⟨S, F0, φ, H, #[], 0, [], l0, [], [], pins2 I0 fA fK n4 n3 (nc _ _) (nc _ _), sim, .refl sim, ek, rfl, rfl, .nil, .nil, rfl⟩ ?step ?done)
  case step =>
    rintro j x s' hx ⟨S2, F2, φ2, H2, kA, e, l1, l2, kps, kv, I2, sm, ex, ek2, hla, hlb, rk, rpk, hkp⟩
    simp only [Nat.zero_add] at ek2 hlb ⊢
    have hj : j < its.length := (List.getElem?_eq_some_iff.mp hx).1
    obtain ⟨y, hy, ry⟩ := vals_at rvi hx
    obtain ⟨p, hp, rp⟩ := ra0.get hy
    have hd : ps.drop j = p :: ps.drop (j + 1) := by
      obtain ⟨hp1, hp2⟩ := List.getElem?_eq_some_iff.mp hp
      rw [List.drop_eq_getElem_cons hp1, hp2]
    rw [hd] at ek2
    unfold keysL at ek2
    obtain ⟨kd, S3, em, ek2⟩ := bnd_of ek2
    cases kd with
    | ref n => cases ek2
    | p q =>
    dsimp only at ek2
    cases e3 : pyOf 60 q with
    | none => rw [e3] at ek2; cases ek2
    | some dk =>
    rw [e3] at ek2
    obtain ⟨l3, S4, e4, ek2⟩ := bnd_of ek2
    cases ek2
    have hsp : spOf X.K cl m [y] H2 (fun w H3 => ∃ F3 φ3, Sim X.K cl S3 B F3 φ3 H3 ∧ Ext S2 F2 φ2 H2 S3 F3 φ3 H3 ∧ Rp X.K cl F3 q w) (fun _ _ _ => False) :=
      ⟨[.p p], S2, B, F2, φ2, sm, .cons (Rp.mono ex.fz rp) .nil, fun z hz => by rw [List.mem_singleton.mp hz]; trivial, .p q, S3, em, fun F3 φ3 H3 u s3 x3 r3 l3 => ⟨F3, φ3, s3, x3, r3⟩⟩
    have hlen : [x].length = ps0.length := FN.len _ _ _ _ hsp
    have pA := I2.pin (A1, seqObj "list" #[] e1') (by simp)
    refine wpAny_bind (wpAny_attempt (wpAny_mono (Q := EP X (pins ++ [(A1, seqObj "list" #[] e1'), (KS, seqObj "list" kA e)]) σ (fun w H3 => ∃ F3 φ3, Sim X.K cl S3 B F3 φ3 H3 ∧ Ext S2 F2 φ2 H2 S3 F3 φ3 H3 ∧ Rp X.K cl F3 q w)) (E := fun _ _ => False) (wpAny_call (codeAny_mono (FN.run X.A.in1.in1 X.stack s' H2 ⟨[x], []⟩ [x] [y] _ _ hr.in1.in1 I2.env0.in1.in1 (by
      have bb := hb s' [x] I2.kIn (by rw [List.append_nil]; exact hlen)
      rw [List.append_nil] at bb
      exact bb) (.cons ry .nil) hsp) fun r s'' hq => ?_)) (fun u s'' he => ?_) fun _ _ hF => hF.elim))
    · cases r with
      | error e => exact hq.elim
      | ok fl =>
        cases fl with
        | ret u => exact I2.after hq
        | next => exact False.elim hq
        | brk => exact False.elim hq
        | cont => exact False.elim hq
    · obtain ⟨w, H3, I3, rw', F3, φ3, sm3, ex3, rq⟩ := he
      dsimp only
      have qA := I3.pin (A1, seqObj "list" #[] e1') (by simp)
      have qK := I3.pin (KS, seqObj "list" kA e) (by simp)
      have nk2 : s''.heap.get? KS = some (seqObj "list" kA e) := qK.1
      have na2 : s''.heap.get? A1 = some (seqObj "list" #[] e1') := qA.1
      have hks : kA.size = j := by
        have t1 : kv.length = kA.size := rk.length
        have t2 : kps.length = kv.length := rpk.len
        have t3 := congrArg List.length hkp
        rw [List.length_map, List.length_map] at t3
        rw [← t1, ← t2, t3, hlb]
      obtain ⟨c2, hc2⟩ : ∃ c2, (s''.heap.update KS (Obj.mapSeq (·.push u))).get? KS = some (seqObj "list" (kA.push u) c2) := ⟨_, get?_update_seq nk2 (·.push u)⟩
      refine wpAny_bind (listUpdate_at nk2 rfl ?_ (by omega) (by rw [Array.size_push]; omega))
      refine wpAny_pure ⟨rfl, S3, F3, φ3, H3, kA.push u, c2, l1 ++ [(p, dk)], l3, kps ++ [q], kv ++ [w], ?_, sm3, ex.trans ex3, e4, by rw [hla, List.append_assoc]; rfl, by rw [List.length_append, hlb]; rfl, ?_, ?_, by rw [List.map_append, List.map_append, hkp]; simp [e3]⟩
      · have I4 : L2.Inv X pins σ H3 s'' := I3.pins_of fun p hp => I3.pin p (by simp [hp])
        have fK3 : FpOk X pins H3 KS := fpAt fK qK.2.1
        have I5 := I4.turned (t' := s''.toks) (h' := s''.heap.update KS (Obj.mapSeq (·.push u))) (it := KS) (fun b o hb e => upd_none e hb) qK.2.1 fK3.2.1 fK3.2.2.2.1 fK3.2.2.2.2.1 fK3.2.2.2.2.2
        exact pins2 I5 (fpAt fA qA.2.1) fK3 (upd_none na2 hne) hc2 (nc _ _) (nc _ _)
      · rw [Array.toList_push]
        exact rk.append (.cons rw' .nil)
      · exact rpa_snoc rq (RpA.mono ex3.fz rpk)
  case done =>
    rintro s' ⟨S2, F2, φ2, H2, kA, e, l1, l2, kps, kv, I2, sm, ex, ek2, hla, hlb, rk, rpk, hkp⟩
    have hdn : ps.drop (0 + its.length) = [] := List.drop_eq_nil_of_le (by omega)
    rw [hdn] at ek2
    cases ek2
    rw [List.append_nil] at hla
    subst hla
    have qA := I2.pin (A1, seqObj "list" #[] e1') (by simp)
    have qK := I2.pin (KS, seqObj "list" kA e) (by simp)
    have nk : s'.heap.get? KS = some (seqObj "list" kA e) := qK.1
    have na : s'.heap.get? A1 = some (seqObj "list" #[] e1') := qA.1
    have hea := key_each I2 sm.le hkp rpk rk
    have hsz : kA.size = its.length := by
      have t1 := hea.length
      rw [Array.length_toList, List.length_map] at t1
      omega
    have kp : PySem.W.KeepsBut A1 (lessH s'.heap KS) s'.heap := fun b o hb q => by
      by_cases hbk : b = KS
      · rw [hbk, lessH_at] at q; cases q
      · rw [← q]; exact (Heap.get?_update_ne _ _ _ _ hbk).symm
    refine wpAny_bind (listItems_at nk rfl ?_)
    have un : X.A.in1.in1.units = X.A.units + 2 := rfl
    refine PySem.W.keyH_end (κ := PySem.W.dataKind s'.heap (l0.map (·.2))) (h₁ := lessH s'.heap KS) kp (lessH_at _ _) nk na hne.symm (PySem.W.SortsAt.data (s := s') hea hal hsk fun d hd => by
      have t1 := hdp d hd
      have t2 := hr.un
      omega) hsz (by omega) fun h' tk c k' n' => ?_
    have keep : ∀ b o, b ∉ [A1, KS] → s'.heap.get? b = some o → h'.get? b = some o := fun b o hb q => by
      rw [List.mem_cons, List.mem_singleton, not_or] at hb
      exact k' b o hb.1 (upd_none q hb.2)
    have ko : PySem.W.KeyedOut false (l0.map (·.2)) its (PySem.W.sortVals (PySem.W.dataKind s'.heap (l0.map (·.2))) false kA.toList its) := ⟨s'.heap, kA.toList, hal, rfl, hea⟩
    have ra2 : RpA X.K cl F2 (l0.map (·.1)) xs := by rw [hl0]; exact RpA.mono ex.fz ra0
    obtain ⟨vs', rv', rp'⟩ := each_rp (PySem.W.keyedOut_each (fun x : P × PyData => x.2) ko (rp_each ra2 rvi))
    have I4 : L2.Inv X pins σ H2 s' := I2.pins_of fun p hp => I2.pin p (by simp [hp])
    have fA2 : FpOk X pins H2 A1 := fpAt fA qA.2.1
    have I5 := I4.turnedL (t' := tk) (h' := h') keep fun b hb => by
      rcases List.mem_cons.mp hb with rfl | hb
      · exact fA2
      · rw [List.mem_singleton.mp hb]; exact fpAt fK qK.2.1
    have dr' : DRA X.K cl F2 φ2 ((l0.mergeSort (PySem.W.dataLe false (·.2))).map fun x => D.p x.1) vs' := by
      have q := rp'.dra (φ := φ2)
      rw [List.map_map] at q
      exact q
    have o' := OkE.ext ex o
    obtain ⟨hz', w'⟩ := newL_ok1 o' sm dr' (fun z hz => by
      obtain ⟨y, _, rfl⟩ := List.mem_map.mp hz
      trivial)
    refine ⟨rfl, .ref A1, upd H2 A1 (.lst vs'), ?_, rfl, w' A1 qA.2.1⟩
    exact I5.take (fun _ _ _ q => q) fA2 ⟨hz', _, c, rv', n'⟩

theorem k_sortK {k : Nat} {f : Addr} {fd : FuncData} {ps0 : List Str} {m : MF} {live : Bool} {x y : Str} {p q kpos pos : Pos} {e : Expr} {me : ME} (FN : FnOk X.prog X.w X.K X.mg X.base CX0 k f fd ps0 (spOf X.K cl m)) (hr : Room (k + 2) X.A)
    (hg : Gl X x) (hm : X.mg x = none) (hv : bootBuiltins x = some (.builtin "sorted")) (hg2 : Gl X y) (hm2 : X.mg y = some (.ref f)) (hb : Binds X.K fd ps0 []) (he : PE X e (LE X.K cl me))
    (hn : x ≠ "__name__" := by decide) (hdb : (x == ("__debug__" : Str)) = false := by decide) (hdb2 : (y == ("__debug__" : Str)) = false := by decide)
    (hs : starEach [e] X.env = (false, eval e X.env) :: starEach [] X.env := by rfl) (he1 : backTo pos (starEach [e] X.env) = (false, eval e X.env) :: backTo pos (starEach [] X.env) := by rfl) (hpl : (backTo pos (starEach [e] X.env)).any (·.1) = false := by rfl)
    (hall : (backToKw pos (keywordEach [⟨some (Str.ofString "key"), .Name y q, kpos⟩] X.env)).all (·.1.isSome) = true := by rfl) (hnone : (backToKw pos (keywordEach [⟨some (Str.ofString "key"), .Name y q, kpos⟩] X.env)).any (·.1.isNone) = false := by rfl) (hks : (backToKw pos (keywordEach [⟨some (Str.ofString "key"), .Name y q, kpos⟩] X.env)).filterMap (·.1) = [Str.ofString "key"] := by rfl) :
    PE X (.Call (.Name x p) [e] [⟨some (Str.ofString "key"), .Name y q, kpos⟩] pos) (LE X.K cl (dSortK live m me)) := by
  refine (pe_callBK (sortK_run (live := live) FN hr hb) hg hm hv (pa_cons he pa_nil hs) (pk_cons (pe_glob hg2 hm2 (v := V.ref f) rfl hdb2) pk_nil) hn hdb he1 hpl hall hnone hks).imp fun σ H Q h => ?_
  obtain ⟨σd, S, B, F, φ, s, rs, o⟩ := h
  obtain ⟨d, S1, e1, o⟩ := okE_bnd o
  exact LE.then_ s rs e1 fun F1 φ1 H1 v s1 x1 rs1 dr l => ⟨rfl, d, v, S1, B, F1, φ1, rfl, s1, dr, l, OkE.ext x1 o⟩
end
end Pv
/-! a comprehension with two loops -/
namespace Pv
open PySem PySem.Spec PyProof.Rows L2
def compL2 (fin : SH → Bool) (g : MG) (c : MT) (m1 : MI) (g1 : MG) (c1 : MT) (elt : ME) (ws1 : List Nat) (σ : En) : List (SH → Option D) → List D → SH → Option (List D × SH)
  | [], acc, S => if fin S = true then some (acc, S) else none
  | t :: ts, acc, S => match t S with
    | some d => bnd (g d σ S) fun σ1 S1 => bnd (c σ1 S1) fun b S2 => if b = true then
        bnd (m1 σ1 S2) fun src S3 => bnd (compL src.fin g1 c1 elt (wipeD ws1 σ1) src.items acc S3) fun acc' S4 => compL2 fin g c m1 g1 c1 elt ws1 σ ts acc' S4
        else compL2 fin g c m1 g1 c1 elt ws1 σ ts acc S2
    | none => none
def dComp2 (live : Bool) (m : MI) (g : MG) (c : MT) (m1 : MI) (g1 : MG) (c1 : MT) (elt : ME) (vs ws1 : List Nat) : ME := fun σ S => bnd (m σ S) fun src S1 => bnd (compL2 src.fin g c m1 g1 c1 elt ws1 (wipeD vs σ) src.items [] S1) fun ds S2 => newL live ds S2
section
variable {X : Cx} {K : PySem.W.Frag} {cl : Nat → Addr} {tg iter tg1 iter1 e : Expr} {pos : Pos} {m m1 : MI} {g g1 : MG} {vs vs1 ws ws1 : List Nat} {mt mt1 : MT} {me : ME}
theorem e_comp2 {live : Bool} {σ : L2.St} {H : Hp} {Q : VK} (hw : ∀ j ∈ vs, j ∈ ws) (hw1 : ∀ j ∈ vs1, j ∈ ws1) (q : LE K cl (dComp2 live m g mt m1 g1 mt1 me ws ws1) σ H Q) : tLc2 (LI K cl m) (LG K cl vs g) (LT K cl mt) (LI K cl m1) (LG K cl vs1 g1) (LT K cl mt1) (LE K cl me) ws ws1 σ H Q := by
  obtain ⟨σd, S, B, F, φ, s, rs, o⟩ := q
  obtain ⟨src, S1, e1, o1⟩ := okE_bnd o
  refine ⟨σd, S, B, F, φ, s, rs, src, S1, e1, fun F1 φ1 H1 J s1 x1 it => ?_⟩
  intro L hL
  have o1 := o1.ext x1
  have smL : Same H1 (upd H1 L (.lst [])) := Same.new (Same.refl _) hL
  obtain ⟨fL, pL⟩ := s1.none_p hL
  refine ⟨fun i mm H' => mm = src.items.length - i ∧ i ≤ src.items.length ∧ ∃ acc us S' F' φ', Sim K cl S' B F' φ' H' ∧ Ext S1 F1 φ1 H1 S' F' φ' H' ∧ At L us S' F' φ' H' ∧ DRA K cl F' φ' acc us ∧ (∀ d ∈ acc, d.lt S'.len) ∧
      OkE K cl S1 B F1 φ1 H1 (bnd (compL2 src.fin g mt m1 g1 mt1 me ws1 (wipeD ws σd) (src.items.drop i) acc S') fun ds S2 => newL live ds S2) Q,
    ⟨src.items.length, by simp, Nat.zero_le _, [], [], S1, F1, φ1, s1.keep smL, Ext.ofSame s1 smL, ⟨upd_same, fL, pL⟩, .nil, fun _ z => absurd z (by simp), by rw [List.drop_zero]; exact o1⟩, ?_⟩
  rintro i mm H' ⟨rfl, hi, acc, us, S', F', φ', s', x', at', ra, la, o'⟩
  obtain ⟨turn, stop⟩ := it S' B F' φ' H' s' x'.fz x'.len x'.phi i
  by_cases hlt : i < src.items.length
  · rw [List.drop_eq_getElem_cons hlt] at o'
    unfold compL2 at o'
    cases ht : src.items[i] S' with
    | none => rw [ht] at o'; obtain ⟨_, _, z, _⟩ := o'; cases z
    | some d =>
      rw [ht] at o'
      dsimp only at o'
      obtain ⟨ld, go, yld⟩ := turn _ d (List.getElem?_eq_getElem hlt) ht
      refine .inr ⟨go, fun H3 => ∃ acc us S' F' φ', Sim K cl S' B F' φ' H3 ∧ Ext S1 F1 φ1 H1 S' F' φ' H3 ∧ At L us S' F' φ' H3 ∧ DRA K cl F' φ' acc us ∧ (∀ d ∈ acc, d.lt S'.len) ∧
        OkE K cl S1 B F1 φ1 H1 (bnd (compL2 src.fin g mt m1 g1 mt1 me ws1 (wipeD ws σd) (src.items.drop (i + 1)) acc S') fun ds S2 => newL live ds S2) Q, fun H3 h => ⟨src.items.length - (i + 1), by omega, rfl, hlt, h⟩, fun x H2 y => ?_⟩
      obtain ⟨F2, s2, x2, dr⟩ := yld x H2 y
      obtain ⟨out, S9, eo, ko⟩ := okE_bnd o'
      obtain ⟨σ3, S3, e3, e4⟩ := bnd_of eo
      obtain ⟨b, S4, e5, e6⟩ := bnd_of e4
      refine ⟨d, wipeD ws σd, S', B, F2, φ', s2, (((x1.trans x').trans x2).rs rs).wipe2 ws, dr, ld, σ3, S3, e3, fun F4 φ4 H4 σ4 s4 x4 rs4 hk => ⟨?_, ?_⟩⟩
      · exact (wipe_eq hk.1 fun j hj => hk.2 j fun z => hj (hw j z)).trans wipe_wipe
      · refine LT.then_ s4 rs4 e5 fun F5 φ5 H5 s5 x5 rs5 => ?_
        have xa := (x2.trans x4).trans x5
        split
        · rename_i hb
          rw [if_pos hb] at e6
          obtain ⟨src1, S6, e7, e8⟩ := bnd_of e6
          refine ⟨σ3, S4, B, F5, φ5, s5, rs5, src1, S6, e7, fun F6 φ6 H6 J1 s6 x6 it1 => ?_⟩
          have xb := xa.trans x6
          have at6 := at'.ext xb
          have rs6 := x6.rs rs5
          refine ⟨fun j k Hj => k = src1.items.length - j ∧ j ≤ src1.items.length ∧ ∃ acc us S' F' φ', Sim K cl S' B F' φ' Hj ∧ Ext S1 F1 φ1 H1 S' F' φ' Hj ∧ Same F6 F' ∧ S6.len ≤ S'.len ∧ (∀ n, n < S6.len → φ' n = φ6 n) ∧ At L us S' F' φ' Hj ∧ DRA K cl F' φ' acc us ∧ (∀ d ∈ acc, d.lt S'.len) ∧
              (bnd (compL src1.fin g1 mt1 me (wipeD ws1 σ3) (src1.items.drop j) acc S') fun acc' S4 => compL2 src.fin g mt m1 g1 mt1 me ws1 (wipeD ws σd) (src.items.drop (i + 1)) acc' S4) = some (out, S9),
            ⟨src1.items.length, by simp, Nat.zero_le _, acc, us, S6, F6, φ6, s6, x'.trans xb, Same.refl _, Nat.le_refl _, fun _ _ => rfl, at6, xb.dra la ra, fun z hz => xb.lt (la z hz), by rw [List.drop_zero]; exact e8⟩, ?_⟩
          rintro j k Hj ⟨rfl, hj, acc1, us1, S7, F7, φ7, s7, x7, f67, l67, p67, at7, ra7, la7, o7⟩
          obtain ⟨turn1, stop1⟩ := it1 S7 B F7 φ7 Hj s7 f67 l67 p67 j
          by_cases hlt1 : j < src1.items.length
          · rw [List.drop_eq_getElem_cons hlt1] at o7
            obtain ⟨acc9, S10, o8, o9⟩ := bnd_of o7
            unfold compL at o8
            cases ht1 : src1.items[j] S7 with
            | none => rw [ht1] at o8; cases o8
            | some d1 =>
              rw [ht1] at o8
              dsimp only at o8
              obtain ⟨ld1, go1, yld1⟩ := turn1 _ d1 (List.getElem?_eq_getElem hlt1) ht1
              refine .inr ⟨go1, fun H3 => ∃ acc us S' F' φ', Sim K cl S' B F' φ' H3 ∧ Ext S1 F1 φ1 H1 S' F' φ' H3 ∧ Same F6 F' ∧ S6.len ≤ S'.len ∧ (∀ n, n < S6.len → φ' n = φ6 n) ∧ At L us S' F' φ' H3 ∧ DRA K cl F' φ' acc us ∧ (∀ d ∈ acc, d.lt S'.len) ∧
                  (bnd (compL src1.fin g1 mt1 me (wipeD ws1 σ3) (src1.items.drop (j + 1)) acc S') fun acc' S4 => compL2 src.fin g mt m1 g1 mt1 me ws1 (wipeD ws σd) (src.items.drop (i + 1)) acc' S4) = some (out, S9), fun H3 h => ⟨src1.items.length - (j + 1), by omega, rfl, hlt1, h⟩, fun x1' H8 y1 => ?_⟩
              obtain ⟨F8, s8, x8, dr8⟩ := yld1 x1' H8 y1
              obtain ⟨σ9, S11, e9, e10⟩ := bnd_of o8
              obtain ⟨b1, S12, e11, e12⟩ := bnd_of e10
              refine ⟨d1, wipeD ws1 σ3, S7, B, F8, φ7, s8, (x8.rs (rs6.mono f67 l67 p67)).wipe2 ws1, dr8, ld1, σ9, S11, e9, fun F13 φ13 H13 σ13 s13 x13 rs13 hk1 => ⟨?_, ?_⟩⟩
              · exact (wipe_eq hk1.1 fun j hj => hk1.2 j fun z => hj (hw1 j z)).trans wipe_wipe
              · refine LT.then_ s13 rs13 e11 fun F14 φ14 H14 s14 x14 rs14 => ?_
                have xc := (x8.trans x13).trans x14
                split
                · rename_i hb1
                  rw [if_pos hb1] at e12
                  by_cases hz : acc1.length < sizeLine
                  · rw [if_pos hz] at e12
                    obtain ⟨y2, S15, e13, e14⟩ := bnd_of e12
                    refine LE.then_ s14 rs14 e13 fun F15 φ15 H15 u s15 x15 rs15 dr15 l15 => ?_
                    have xd := xc.trans x15
                    have at15 := at7.ext xd
                    have hlen := ra7.length
                    refine ⟨us1, at15.1, by omega, acc1 ++ [y2], us1 ++ [u], S15, F15, φ15, s15.other _ at15.2.1 at15.2.2, (x7.trans xd).other _ hL, f67.trans xd.fz, Nat.le_trans l67 xd.len, fun n hn => (xd.phi n (Nat.lt_of_lt_of_le hn l67)).trans (p67 n hn), ⟨upd_same, at15.2⟩, ?_, fun z hz' => ?_, ?_⟩
                    · exact DRA.append (xd.dra la7 ra7) (.cons dr15 .nil)
                    · rcases List.mem_append.mp hz' with h | h
                      · exact xd.lt (la7 z h)
                      · rw [List.mem_singleton.mp h]; exact l15
                    · rw [e14]; exact o9
                  · rw [if_neg hz] at e12; cases e12
                · rename_i hb1
                  rw [if_neg hb1] at e12
                  exact ⟨acc1, us1, S12, F14, φ14, s14, x7.trans xc, f67.trans xc.fz, Nat.le_trans l67 xc.len, fun n hn => (xc.phi n (Nat.lt_of_lt_of_le hn l67)).trans (p67 n hn), at7.ext xc, xc.dra la7 ra7, fun z hz' => xc.lt (la7 z hz'), by rw [e12]; exact o9⟩
          · have hd : src1.items.drop j = [] := List.drop_eq_nil_iff.mpr (by omega)
            rw [hd] at o7
            obtain ⟨acc9, S10, o8, o9⟩ := bnd_of o7
            unfold compL at o8
            by_cases hf : src1.fin S7 = true
            · rw [if_pos hf] at o8
              cases o8
              exact .inl ⟨stop1 (by omega) hf, acc1, us1, S7, F7, φ7, s7, x7, at7, ra7, la7, by rw [o9]; exact ko⟩
            · rw [if_neg hf] at o8; cases o8
        · rename_i hb
          rw [if_neg hb] at e6
          exact ⟨acc, us, S4, F5, φ5, s5, x'.trans xa, at'.ext xa, xa.dra la ra, fun z hz' => xa.lt (la z hz'), by rw [e6]; exact ko⟩
  · have hd : src.items.drop i = [] := List.drop_eq_nil_iff.mpr (by omega)
    rw [hd] at o'
    unfold compL2 at o'
    by_cases hf : src.fin S' = true
    · rw [if_pos hf] at o'
      exact .inl ⟨stop (by omega) hf, newL_at o' s' x' ra la at' hL⟩
    · rw [if_neg hf] at o'; obtain ⟨_, _, z, _⟩ := o'; cases z
theorem k_comp2 {elt : Expr} {ifs ifs1 : List Expr} {scope : Scope} {own : List (Str × Nat)} {live : Bool} (hc : X.calm = true) (hN : X.N.Nodup) (hi : PI X tg iter (LI X.K cl m)) (ok : BlkOk X.N X.env.scope scope own)
    (hg : ∀ (s : Shared) (H : Hp) (C : Addr) (cs : List (Str × Addr)) (fp : List Addr), PG (X.blk s H scope (compEnvC scope cs C X.env) fp) tg (LG X.K cl vs g)) (ht : ∀ (s : Shared) (H : Hp) (C : Addr) (cs : List (Str × Addr)) (fp : List Addr), PTs (X.blk s H scope (compEnvC scope cs C X.env) fp) ifs (LT X.K cl mt))
    (hi1 : ∀ (s : Shared) (H : Hp) (C : Addr) (cs : List (Str × Addr)) (fp : List Addr), PI (X.blk s H scope (compEnvC scope cs C X.env) fp) tg1 iter1 (LI X.K cl m1))
    (hg1 : ∀ (s : Shared) (H : Hp) (C : Addr) (cs : List (Str × Addr)) (fp : List Addr), PG (X.blk s H scope (compEnvC scope cs C X.env) fp) tg1 (LG X.K cl vs1 g1)) (ht1 : ∀ (s : Shared) (H : Hp) (C : Addr) (cs : List (Str × Addr)) (fp : List Addr), PTs (X.blk s H scope (compEnvC scope cs C X.env) fp) ifs1 (LT X.K cl mt1))
    (he : ∀ (s : Shared) (H : Hp) (C : Addr) (cs : List (Str × Addr)) (fp : List Addr), PE (X.blk s H scope (compEnvC scope cs C X.env) fp) elt (LE X.K cl me)) (hw : ∀ j ∈ vs, j ∈ own.map (·.2) := by decide) (hw1 : ∀ j ∈ vs1, j ∈ ws1 := by decide) (hw2 : ∀ j ∈ ws1, j ∈ own.map (·.2) := by decide)
    (hs : ∀ x, foldedSetIterable iter X.env x = pure x := by intro _; rfl) (hs1 : ∀ env x, foldedSetIterable iter1 env x = pure x := by intro _ _; rfl) :
    PE X (.ListComp elt [⟨tg, iter, ifs, 0⟩, ⟨tg1, iter1, ifs1, 0⟩] scope pos) (LE X.K cl (dComp2 live m g mt m1 g1 mt1 me (own.map (·.2)) ws1)) :=
  (pe_lc2 hc hN hi ok hw2 hg ht hi1 hg1 ht1 he hs hs1).imp fun _ _ _ q => e_comp2 hw hw1 q
theorem s_setComp2 {i : Nat} {y : Str} {py spos : Pos} {elt : Expr} {ifs ifs1 : List Expr} {scope : Scope} {own : List (Str × Nat)} {live : Bool} (hc : X.calm = true) (hN : X.N.Nodup) (hy : X.N[i]? = some y) (hyl : X.env.scope.names.lookup y = some .local)
    (hsw : swapsWith (.ListComp elt [⟨tg, iter, ifs, 0⟩, ⟨tg1, iter1, ifs1, 0⟩] scope pos) (some (.Name y py)) spos.line X.env = pure true) (hi : PI X tg iter (LI X.K cl m)) (ok : BlkOk X.N X.env.scope scope own)
    (hg : ∀ (s : Shared) (H : Hp) (C : Addr) (cs : List (Str × Addr)) (fp : List Addr), PG (X.blk s H scope (compEnvC scope cs C X.env) fp) tg (LG X.K cl vs g)) (ht : ∀ (s : Shared) (H : Hp) (C : Addr) (cs : List (Str × Addr)) (fp : List Addr), PTs (X.blk s H scope (compEnvC scope cs C X.env) fp) ifs (LT X.K cl mt))
    (hi1 : ∀ (s : Shared) (H : Hp) (C : Addr) (cs : List (Str × Addr)) (fp : List Addr), PI (X.blk s H scope (compEnvC scope cs C X.env) fp) tg1 iter1 (LI X.K cl m1))
    (hg1 : ∀ (s : Shared) (H : Hp) (C : Addr) (cs : List (Str × Addr)) (fp : List Addr), PG (X.blk s H scope (compEnvC scope cs C X.env) fp) tg1 (LG X.K cl vs1 g1)) (ht1 : ∀ (s : Shared) (H : Hp) (C : Addr) (cs : List (Str × Addr)) (fp : List Addr), PTs (X.blk s H scope (compEnvC scope cs C X.env) fp) ifs1 (LT X.K cl mt1))
    (he : ∀ (s : Shared) (H : Hp) (C : Addr) (cs : List (Str × Addr)) (fp : List Addr), PE (X.blk s H scope (compEnvC scope cs C X.env) fp) elt (LE X.K cl me)) (hw : ∀ j ∈ vs, j ∈ own.map (·.2) := by decide) (hw1 : ∀ j ∈ vs1, j ∈ ws1 := by decide) (hw2 : ∀ j ∈ ws1, j ∈ own.map (·.2) := by decide)
    (hs : ∀ x, foldedSetIterable iter X.env x = pure x := by intro _; rfl) (hs1 : ∀ env x, foldedSetIterable iter1 env x = pure x := by intro _ _; rfl) :
    PS X (.Assign [.Name y py] (.ListComp elt [⟨tg, iter, ifs, 0⟩, ⟨tg1, iter1, ifs1, 0⟩] scope pos) spos) (LS X.K cl (dSet i (dComp2 live m g mt m1 g1 mt1 me (own.map (·.2)) ws1))) := by
  refine (ps_setLc2 hc hN hy hyl hsw hi ok hw2 hg ht hi1 hg1 ht1 he hs hs1).imp fun Z σ H q => ?_
  obtain ⟨σd, S, B, F, φ, s, rs, o⟩ := q
  obtain ⟨d, S1, e1, o1⟩ := okS_bnd o
  obtain ⟨_, _, z, k⟩ := o1
  cases z
  exact e_comp2 hw hw1 ⟨σd, S, B, F, φ, s, rs, d, S1, e1, fun F1 φ1 H1 u s1 x1 dr l => k F1 φ1 H1 _ s1 x1 ((x1.rs rs).set i dr l)⟩
end
end Pv
/-! .index of texts; tuples of the module -/
namespace Pv
open PySem PySem.Spec PyProof.Rows L2
def idxS (z : Str) : List Str → Option Nat
  | [] => none
  | y :: r => if y = z then some 0 else (idxS z r).map (· + 1)
theorem idxS_ok {z : Str} : ∀ {ys : List Str} {j : Nat}, idxS z ys = some j → ys[j]? = some z ∧ ∀ m, m < j → ys[m]? ≠ some z
  | [], j, h => by cases h
  | y :: r, j, h => by
    unfold idxS at h
    by_cases e : y = z
    · rw [if_pos e] at h
      cases h
      exact ⟨by rw [e]; rfl, fun m hm => absurd hm (Nat.not_lt_zero _)⟩
    · rw [if_neg e] at h
      cases e1 : idxS z r with
      | none => rw [e1] at h; cases h
      | some i =>
        rw [e1] at h
        cases h
        obtain ⟨h1, h2⟩ := idxS_ok e1
        refine ⟨h1, fun m hm => ?_⟩
        cases m with
        | zero => intro q; exact e (Option.some.inj q)
        | succ m => exact h2 m (Nat.lt_of_succ_lt_succ hm)
def fIndex : MF := fun ds S => match ds with
  | [d, .p (.str z)] => match asL d S with
    | some xs => match strsOf xs with
      | some zs => match idxS z zs with
        | some j => some (.p (.int (j : Nat)), S)
        | none => none
      | none => none
    | none => none
  | _ => none
section
variable {X : Cx} {K : PySem.W.Frag} {cl : Nat → Addr}
theorem flat_str (ys : List Str) : (ys.map V.str).all flatV = true := by
  rw [List.all_map, List.all_eq_true]
  exact fun _ _ => rfl
theorem d_index : MtD K cl fIndex "list" (rIndex K) := by
  intro S B F φ H d ds x xs Q s r l rs ls o
  unfold fIndex at o
  split at o
  · rename_i d' z e0
    obtain ⟨rfl, rfl⟩ := List.cons.inj e0
    cases e1 : asL d S with
    | none => rw [e1] at o; exact o.no
    | some us =>
    rw [e1] at o
    dsimp only at o
    cases e2 : strsOf us with
    | none => rw [e2] at o; exact o.no
    | some zs =>
    rw [e2] at o
    dsimp only at o
    cases e3 : idxS z zs with
    | none => rw [e3] at o; exact o.no
    | some j =>
    rw [e3] at o
    obtain ⟨a, vs, rfl, hq, ra, _⟩ := asL_ok s e1 r l
    have ev := strsOf_of e2 ra
    subst ev
    cases rs with
    | cons r1 r2 =>
      cases r2
      have ex := drS r1
      subst ex
      obtain ⟨h1, h2⟩ := idxS_ok e3
      refine ⟨a, zs.map V.str, .str z, j, .str z, rfl, rfl, hq, rfl, flat_str zs, by rw [List.getElem?_map, h1]; rfl, by simp [eqV], fun m z' hm hz => ?_, o.fin0 rfl s (.int _) trivial⟩
      rw [List.getElem?_map] at hz
      cases e4 : zs[m]? with
      | none => rw [e4] at hz; cases hz
      | some y =>
        rw [e4] at hz
        cases hz
        have hne : y ≠ z := fun q => h2 m hm (by rw [e4, q])
        simpa [eqV] using hne
  · exact o.no
/-- a tuple of the module -/
def TupC (K : PySem.W.Frag) (v : V) : Prop := ∃ (a : Addr) (o : Obj), v = .ref a ∧ K.lookup a = some o ∧ o.cls = .type "tuple" ∧ o.dict = none
theorem rp_const {F : Hp} {a : Addr} {o : Obj} {its : Array Value} {n : Nat} {ps : List P} {vs : List V} (h : K.lookup a = some o) (hc : o.cls = .type "tuple") (hd : o.data = .seq its n) (hz : its.size ≤ sizeLine) (hv : Vals vs its.toList) (hp : RpA K cl F ps vs) : Rp K cl F (.tup ps) (.ref a) :=
  .tup (.inr ⟨o, its, n, h, hc, hd, hz, hv⟩) hp
def strsP (ps : List P) : Option (List Str) := strsOf (ps.map D.p)
def idxC (q : P) (ds : List D) : Option Nat := match q, ds with
  | .tup ps, [.p (.str z)] => (strsP ps).bind (idxS z)
  | _, _ => none
theorem idxC_of {q : P} {ds : List D} {j : Nat} (h : idxC q ds = some j) : ∃ ps z zs, q = .tup ps ∧ ds = [.p (.str z)] ∧ strsP ps = some zs ∧ idxS z zs = some j := by
  unfold idxC at h
  split at h
  · rename_i ps z
    cases e : strsP ps with
    | none => rw [e] at h; cases h
    | some zs => rw [e] at h; exact ⟨ps, z, zs, rfl, rfl, e, h⟩
  · cases h
def dIdxC (q : P) (ma : MA) : ME := fun σ S => bnd (ma σ S) fun ds S1 => match idxC q ds with
  | some j => some (.p (.int (j : Nat)), S1)
  | none => none
theorem k_idxC {x : Str} {v : V} {u : Value} {q : P} {p apos cpos : Pos} {e : Expr} {ma : MA} (hg : Gl X x) (hm : X.mg x = some u) (r : RelV v u) (hq : ∀ F, Rp X.K cl F q v) (ht : TupC X.K v) (ha : PA X [e] (LA X.K cl ma)) (hdb : (x == ("__debug__" : Str)) = false := by decide)
    (hbase : attributeBase (.Name x p) "index" X.env (eval (.Name x p) X.env) = eval (.Name x p) X.env := by rfl)
    (hfew : ((backTo cpos (starEach [e] X.env)).all (fun x => !x.1) && (backToKw cpos (keywordEach [] X.env)).all (fun x => x.1.isSome)
      && decide (([e] : List Expr).length + ([] : List Keyword).length + (if ([] : List Keyword).isEmpty then 0 else 1) < 30)) = true := by rfl)
    (hline : (apos.endLine == cpos.line) = true := by rfl) (hs : starEach [e] X.env = (false, eval e X.env) :: starEach [] X.env := by rfl) (hplain : (backTo cpos (starEach [] X.env)).any (·.1) = false := by rfl) :
    PE X (.Call (.Attribute (.Name x p) "index" apos) [e] [] cpos) (LE X.K cl (dIdxC q ma)) := by
  refine (pe_bm PySem.F.plainAttrs_tuple PySem.F.slot_tuple_index PySem.F.type_tuple_index mt_tup_index (pe_glob hg hm r hdb) ha hbase hfew hline hs hplain).imp fun σ H Q h => ?_
  obtain ⟨σd, S, B, F, φ, s, rs, o⟩ := h
  obtain ⟨ds, S1, e1, o⟩ := okE_bnd o
  obtain ⟨a, ob, rfl, hk, hc, hd⟩ := ht
  refine ⟨.inr (.inl ⟨rfl, ob, hk, hc, hd⟩), LA.then_ s rs e1 fun F1 φ1 H1 us s1 x1 rs1 dr l => ?_⟩
  have o2 := o.ext x1
  clear o
  have hq1 := hq F1
  cases e0 : idxC q ds with
  | none => rw [e0] at o2; exact o2.no
  | some j =>
  rw [e0] at o2
  obtain ⟨ps, z, zs, rfl, rfl, e2, e3⟩ := idxC_of e0
  cases hq1 with
  | tup st ra =>
    cases dr with
    | cons r1 r2 =>
      cases r2
      have ex := drS r1
      subst ex
      have ev := strsOf_of (F := F1) (φ := φ1) e2 ra.dra
      subst ev
      obtain ⟨h1, h2⟩ := idxS_ok e3
      exact ⟨_, zs, z, j, rfl, rfl, SqT.mono s1.le st, h1, h2, o2.fin0 rfl s1 (.int _) trivial⟩
/-! ### a text, walked -/
def charsP (z : Str) : List P := z.cps.toList.map fun c => P.str ⟨#[c]⟩
def srcS (d : D) (S : SH) : Option (Src × SH) := match d with
  | .p (.str z) => some (srcP (charsP z), S)
  | _ => none
def dItS (m : ME) : MI := fun σ S => bnd (m σ S) srcS
theorem rpA_chars {F : Hp} : ∀ l : List Nat, RpA K cl F (l.map fun c => P.str ⟨#[c]⟩) (l.map fun c => V.str ⟨#[c]⟩)
  | [] => .nil
  | c :: l => .cons (.str _) (rpA_chars l)
theorem pi_strD {tg e : Expr} {me : ME} (he : PE X e (LE X.K cl me)) : PI X tg e (LI X.K cl (dItS me)) := by
  refine ⟨fun pins s σ H R I h => (pi_str he).run pins s σ H R I ?_⟩
  obtain ⟨σd, S, B, F, φ, sm, rs, src, S1, e0, k⟩ := h
  obtain ⟨d, S2, e1, e2⟩ := bnd_of e0
  refine LE.then_ sm rs e1 fun F1 φ1 H1 x s1 x1 rs1 dr l => ?_
  unfold srcS at e2
  split at e2
  · rename_i z
    cases e2
    have ex := drS dr
    subst ex
    refine ⟨z, rfl, k F1 φ1 H1 _ s1 x1 (itD_seq (rpA_chars z.cps.toList) (fun H sf i y hy => ?_) (fun H sf i y hy v H2 hv => ?_) fun H sf i hi => ?_)⟩
    · have h1 := (List.getElem?_eq_some_iff.mp hy).1
      rw [List.length_map, Array.length_toList] at h1
      exact h1
    · obtain ⟨h1, c, h2, h3⟩ := hv
      refine ⟨h1, ?_⟩
      rw [List.getElem?_map, Array.getElem?_toList, h2] at hy
      rw [h3]
      exact (Option.some.inj hy)
    · rw [List.length_map, Array.length_toList] at hi
      exact hi
  · cases e2
/-! ### a text times a number -/
def repS (z : Str) (n : Nat) : Str := ⟨(List.replicate n z.cps).foldl (· ++ ·) #[]⟩
theorem rep_size (x : Array Nat) : ∀ (n : Nat) (acc : Array Nat), ((List.replicate n x).foldl (· ++ ·) acc).size = acc.size + n * x.size
  | 0, acc => by simp
  | n + 1, acc => by
    rw [List.replicate_succ, List.foldl_cons, rep_size x n, Array.size_append, Nat.succ_mul]
    omega
theorem repS_len (z : Str) (n : Nat) : (repS z n).length = n * z.length := by
  show ((List.replicate n z.cps).foldl (· ++ ·) #[]).size = n * z.cps.size
  rw [rep_size]
  simp
def rMulS : R2 := fun x y H Q => ∃ (z : Str) (n : Nat), x = .str z ∧ y = .int (n : Int) ∧ n ≤ 10000 ∧ z.length ≤ 100 ∧ Q (.str (repS z n)) H
theorem o_mulS : OpR X (binaryOp .Mult) rMulS := by
  intro pins s σ H x y v u Q I rx ry h
  obtain ⟨z, n, rfl, rfl, hn, z2, q⟩ := h
  obtain ⟨t, rfl⟩ := rx
  obtain ⟨t', rfl⟩ := ry
  have hm : z.length * n ≤ 1000000 := Nat.le_trans (Nat.mul_le_mul z2 hn) (by decide)
  have line : 1000000 ≤ sizeLine := by unfold sizeLine; decide
  have fin0 : ∀ (r : Str), r.cps = (repS z n).cps → r = repS z n := fun r e => by
    cases r
    exact congrArg Str.mk e
  refine PySem.P.mul_str (by rw [decide_eq_false (by omega), decide_eq_false (by omega)]; rfl) (fun h1 _ => ?_) (fun _ _ => ?_) ?_
  · have hd : ((2 : Int) ^ 63 - 1) / (10000 : Int) ≤ (2 ^ 63 - 1) / (n : Int) := Int.le_ediv_of_mul_le (by omega) (by
      have : ((2 : Int) ^ 63 - 1) / 10000 = 922337203685477 := by decide
      rw [this]
      have hq : (922337203685477 : Int) * (n : Int) ≤ 922337203685477 * 10000 := Int.mul_le_mul_of_nonneg_left (by omega) (by decide)
      omega)
    have hc : ((2 : Int) ^ 63 - 1) / 10000 = 922337203685477 := by decide
    omega
  · rw [Int.toNat_natCast]
    unfold Builtin.Str.tooLong
    exact decide_eq_false (by omega)
  · by_cases h1 : (n : Int) < 1
    · rw [if_pos h1]
      have e : n = 0 := by omega
      subst e
      refine ⟨by show (0 : Nat) ≤ _; exact Nat.zero_le _, .str (repS z 0), H, I.tok _, ⟨_, rfl⟩, q⟩
    · rw [if_neg h1]
      by_cases h2 : ((n : Int) == 1 || z.length == 0) = true
      · rw [if_pos h2]
        have e : z = repS z n := by
          refine fin0 z ?_
          rw [Bool.or_eq_true] at h2
          rcases h2 with h2 | h2
          · have e : n = 1 := by
              have := beq_iff_eq.mp h2
              omega
            subst e
            show z.cps = #[] ++ z.cps
            simp
          · have e0 : z.cps.size = 0 := beq_iff_eq.mp h2
            have e1 : z.cps = #[] := Array.eq_empty_of_size_eq_zero e0
            have e2 : (repS z n).cps.size = 0 := by
              have := repS_len z n
              have h : (repS z n).cps.size = n * z.cps.size := this
              rw [h, e0, Nat.mul_zero]
            rw [e1, Array.eq_empty_of_size_eq_zero e2]
        exact ⟨.str (repS z n), H, I, ⟨t, by rw [← e]⟩, q⟩
      · rw [if_neg h2]
        refine ⟨?_, .str (repS z n), H, I.tok _, ⟨_, rfl⟩, q⟩
        show (repS z n).length ≤ sizeLine
        rw [repS_len, Nat.mul_comm]
        exact Nat.le_trans hm line
/-- * of ints, or of a text and an int -/
def fMulS (d e : D) (S : SH) : Option (D × SH) := match d, e with
  | .p (.str z), .p (.int n) => if 0 ≤ n ∧ n ≤ 10000 ∧ z.length ≤ 100 then some (.p (.str (repS z n.toNat)), S) else none
  | _, _ => none
theorem d_mulS : OpD K cl fMulS rMulS := by
  intro S B F φ H d1 d2 x y Q s r1 r2 l1 l2 o
  unfold fMulS at o
  split at o
  · rename_i z n
    split at o
    · rename_i h
      refine ⟨z, n.toNat, drS r1, by rw [drI r2]; congr 1; omega, by omega, h.2.2, o.fin0 rfl s (.str _) trivial⟩
    · exact o.no
  · exact o.no
end
end Pv
/-! a, b = a list -/
namespace Pv
open PySem PySem.Spec PyProof.Rows L2
def gTl (n : Nat) (gs : MGs) : MG := fun d σ S => match asL d S with
  | some ds => if ds.length = n then gs ds σ S else none
  | none => none
section
variable {X : Cx} {cl : Nat → Addr} {pos : Pos} {es : List Expr} {vs : List Nat} {gs : MGs}
theorem g_lst {k n : Nat} (hc : X.calm = true) (h : PGs X es (LGs X.K cl vs gs)) (hn : (assignEach es X.env).length = n := by rfl) (hst : (assignEach es X.env).findIdx? (·.1) = none := by rfl) : PG X (.Tuple es k pos) (LG X.K cl vs (gTl n gs)) := by
  have z := pg_unl (k := k) (pos := pos) hc h hn hst
  refine ⟨fun pins s σ H v u Q I r q => z.run pins s σ H v u Q I r ?_⟩
  obtain ⟨d, σd, S, B, F, φ, sm, rs, dr, l, ok⟩ := q
  unfold gTl at ok
  cases e : asL d S with
  | none => rw [e] at ok; obtain ⟨_, _, z, _⟩ := ok; cases z
  | some ds =>
    rw [e] at ok
    dsimp only at ok
    obtain ⟨a, us, rfl, hq, tr, hl⟩ := asL_ok sm e dr l
    by_cases hp : ds.length = n
    · rw [if_pos hp] at ok
      exact ⟨a, us, rfl, hq, by rw [← tr.length]; exact hp, ds, σd, S, B, F, φ, sm, rs, tr, hl, ok⟩
    · rw [if_neg hp] at ok; obtain ⟨_, _, z, _⟩ := ok; cases z
end
/-! xs.pop() -/
def fPop : MF := fun ds S => match ds with
  | [.ref n] => match S.os[n]? with
    | some (.lst xs) => match xs[xs.length - 1]? with
      | some y => some (y, S.put n (.lst xs.dropLast))
      | none => none
    | _ => none
  | _ => none
theorem DRA.dropL {K : PySem.W.Frag} {cl : Nat → Addr} {F : Hp} {φ : Nat → Addr} : ∀ {ds : List D} {vs : List V}, DRA K cl F φ ds vs → DRA K cl F φ ds.dropLast vs.dropLast
  | [], _, .nil => .nil
  | [_], _, .cons _ .nil => .nil
  | _ :: _ :: _, _, .cons a (.cons b t) => .cons a (DRA.dropL (.cons b t))
theorem d_pop1 {K : PySem.W.Frag} {cl : Nat → Addr} : MtD K cl fPop "list" rPop := by
  intro S B F φ H d ds x xs Q s r l rs ls o
  unfold fPop at o
  split at o
  · rename_i n e0
    split at o
    · rename_i ys q
      split at o
      · rename_i y hy
        injection e0 with e1 e2
        subst e1 e2
        cases rs
        obtain ⟨vs, ev, rv⟩ := (s.ob n _ q).2
        have hl := rv.length
        obtain ⟨v, hv, rvv⟩ := rv.get hy
        have hm := List.mem_of_getElem? hy
        have ly := s.wf n _ q y hm
        obtain ⟨s2, x2⟩ := putGen (o := .lst ys.dropLast) (x := .lst vs.dropLast) s q (fun z hz => .inr (.inl (List.dropLast_subset _ hz))) ⟨_, rfl, DRA.dropL rv⟩
        exact ⟨φ n, vs, v, r, rfl, ev, by rw [← hl]; exact hv, o.fin rfl s2 x2 rvv (by simpa [SH.put, SH.len] using ly)⟩
      · exact o.no
    · exact o.no
  · exact o.no
end Pv
/-! sorted(list) of tuples whose first items are tuples of ints, no two alike -/
namespace Pv
open PySem PySem.Spec PyProof.Rows L2
def intP : P → Option Int
  | .int i => some i
  | _ => none
def intsQ : List P → Option (List Int)
  | [] => some []
  | .int i :: r => (intsQ r).map (i :: ·)
  | _ => none
theorem intsQ_of : ∀ {ps : List P} {ns : List Int}, intsQ ps = some ns → ps = ns.map P.int
  | [], ns, h => by cases h; rfl
  | .int i :: r, ns, h => by
    unfold intsQ at h
    cases e : intsQ r with
    | none => rw [e] at h; cases h
    | some ms => rw [e] at h; cases h; rw [intsQ_of e]; rfl
  | .non :: _, _, h => by cases h
  | .bl _ :: _, _, h => by cases h
  | .str _ :: _, _, h => by cases h
  | .tup _ :: _, _, h => by cases h
  | .lst _ :: _, _, h => by cases h
  | .dK _ :: _, _, h => by cases h
  | .dT _ :: _, _, h => by cases h
  | .ins _ _ :: _, _, h => by cases h
theorem intsQ_map (ns : List Int) : intsQ (ns.map P.int) = some ns := by
  induction ns with
  | nil => rfl
  | cons n ns ih => rw [List.map_cons, intsQ, ih]; rfl
def keyT : P → Option (List Int)
  | .tup (.tup qs :: _) => intsQ qs
  | _ => none
theorem keyT_of {p : P} {ns : List Int} (h : keyT p = some ns) : ∃ rest, p = .tup (.tup (ns.map P.int) :: rest) := by
  unfold keyT at h
  split at h
  · rename_i qs rest
    exact ⟨rest, by rw [intsQ_of h]⟩
  · cases h
def leT (a b : P) : Bool := !HT.lexLt ((keyT b).getD []) ((keyT a).getD [])
def okSrt (ps : List P) : Bool := ps.all (fun p => (keyT p).isSome) && decide ((ps.map keyT).Nodup)
def fSort (live : Bool) : MF := fun ds S => match ds with
  | [d] => match asL d S with
    | some xs => match toPs xs with
      | some ps => if okSrt ps = true then newL live ((ps.mergeSort leT).map .p) S else none
      | none => none
    | none => none
  | _ => none
/-- a value whose first item holds these numbers -/
def KeyIs (h : Heap) (v : Value) (ns : List Int) : Prop := ∃ (a b : Addr) (items fi : Array Value), v = .ref a ∧ IsTup h a items ∧ items[0]? = some (.ref b) ∧ IsTup h b fi ∧ IntsAre fi.toList ns
theorem isTup_inj {h : Heap} {a : Addr} {x y : Array Value} (p : IsTup h a x) (q : IsTup h a y) : x = y := by
  obtain ⟨o, e, _, n, d⟩ := p
  obtain ⟨o', e', _, n', d'⟩ := q
  rw [e] at e'
  cases e'
  rw [d] at d'
  cases d'
  rfl
theorem intsAre_inj : ∀ {vs : List Value} {ns ms : List Int}, IntsAre vs ns → IntsAre vs ms → ns = ms := by
  intro vs ns ms h1 h2
  induction h1 generalizing ms with
  | nil => cases h2; rfl
  | cons =>
    rename_i ih
    cases h2
    rename_i t2
    rw [ih t2]
theorem KeyIs.inj {h : Heap} {v : Value} {ns ms : List Int} (x : KeyIs h v ns) (y : KeyIs h v ms) : ns = ms := by
  obtain ⟨a, b, items, fi, rfl, t1, e1, t2, i1⟩ := x
  obtain ⟨a', b', items', fi', e0, t1', e1', t2', i1'⟩ := y
  cases e0
  have e2 := isTup_inj t1 t1'
  subst e2
  rw [e1] at e1'
  cases e1'
  have e3 := isTup_inj t2 t2'
  subst e3
  exact intsAre_inj i1 i1'
open Classical in
noncomputable def kOf (h : Heap) (v : Value) : List Int := if q : ∃ ns, KeyIs h v ns then q.choose else []
theorem kOf_eq {h : Heap} {v : Value} {ns : List Int} (x : KeyIs h v ns) : kOf h v = ns := by
  unfold kOf
  rw [dif_pos ⟨ns, x⟩]
  exact KeyIs.inj (Exists.choose_spec (p := fun ns => KeyIs h v ns) ⟨ns, x⟩) x
theorem KeyIs.keeps {h h' : Heap} {v : Value} {ns : List Int} (x : KeyIs h v ns) (k : ∀ b o, h.get? b = some o → h'.get? b = some o) : KeyIs h' v ns := by
  obtain ⟨a, b, items, fi, e, ⟨o, g, r⟩, e1, ⟨o2, g2, r2⟩, i1⟩ := x
  exact ⟨a, b, items, fi, e, ⟨o, k _ _ g, r⟩, e1, ⟨o2, k _ _ g2, r2⟩, i1⟩
section
variable {X : Cx} {cl : Nat → Addr} {pins : List (Addr × Obj)} {σ : L2.St} {F H : Hp} {s : Shared}
theorem vals_intsP : ∀ {ns : List Int} {vs : List V}, RpA X.K cl F (ns.map P.int) vs → vs = ns.map V.int
  | [], _, r => by cases r; rfl
  | n :: ns, _, r => by
    cases r with
    | cons a b => cases a; rw [vals_intsP b]; rfl
theorem key_full (I : L2.Inv X pins σ H s) (sf : Same F H) {p : P} {v : V} {u : Value} {ns : List Int} (hk : keyT p = some ns) (r : Rp X.K cl F p v) (e : RelV v u) :
    ∃ (a b : Addr) (rest : List Value) (fi : Array Value) (vb : V), u = .ref a ∧ IsTup s.heap a (.ref b :: rest).toArray ∧ IsTup s.heap b fi ∧ IntsAre fi.toList ns ∧ Rp X.K cl F (.tup (ns.map P.int)) vb ∧ RelV vb (.ref b) := by
  obtain ⟨pr, rfl⟩ := keyT_of hk
  cases r with
  | tup q t =>
    cases e
    cases t with
    | cons r1 r2 =>
      obtain ⟨its, rv, ht, _⟩ := I.tuple (SqT.mono sf q)
      cases rv with
      | @cons _ v1 us us' rv1 rv2 =>
        have r1' := r1
        cases r1 with
        | tup q1 t1 =>
          cases rv1
          obtain ⟨its1, rw1, ht1, _⟩ := I.tuple (SqT.mono sf q1)
          rw [vals_intsP t1] at rw1
          exact ⟨_, _, _, _, _, rfl, ht, ht1, rw1.ints, r1', rfl⟩
end
/-! two sorted lists of the same items -/
theorem srt_uniq {α : Type} {le : α → α → Prop} : ∀ {l m : List α}, l.Perm m → l.Pairwise le → m.Pairwise le → (∀ x ∈ l, ∀ y ∈ l, le x y → le y x → x = y) → l = m
  | [], m, p, _, _, _ => (List.nil_perm.mp p).symm
  | x :: l, [], p, _, _, _ => absurd p.length_eq (by simp)
  | x :: l, y :: m, p, h1, h2, an => by
    have hxy : x = y := by
      have hx : x ∈ y :: m := p.mem_iff.mp List.mem_cons_self
      have hy : y ∈ x :: l := p.mem_iff.mpr List.mem_cons_self
      rcases List.mem_cons.mp hx with e | hx
      · exact e
      · rcases List.mem_cons.mp hy with e | hy
        · exact e.symm
        · exact an x List.mem_cons_self y (List.mem_cons_of_mem _ hy) ((List.pairwise_cons.mp h1).1 y hy) ((List.pairwise_cons.mp h2).1 x hx)
    subst hxy
    rw [srt_uniq ((List.perm_cons x).mp p) (List.pairwise_cons.mp h1).2 (List.pairwise_cons.mp h2).2 fun a ha b hb => an a (List.mem_cons_of_mem _ ha) b (List.mem_cons_of_mem _ hb)]
theorem lexLt_ne : ∀ {xs ys : List Int}, HT.lexLt xs ys = false → HT.lexLt ys xs = false → xs = ys
  | [], [], _, _ => rfl
  | [], y :: ys, h, _ => by rw [HT.lexLt_nil_cons] at h; cases h
  | x :: xs, [], _, h => by rw [HT.lexLt_nil_cons] at h; cases h
  | x :: xs, y :: ys, h1, h2 => by
    rw [HT.lexLt_cons] at h1 h2
    by_cases e : x = y
    · subst e
      rw [if_pos rfl] at h1 h2
      rw [lexLt_ne h1 h2]
    · rw [if_neg e] at h1
      rw [if_neg (fun z => e z.symm)] at h2
      simp only [decide_eq_false_iff_not] at h1 h2
      omega
theorem lexLt_self (xs : List Int) : HT.lexLt xs xs = false := by
  cases h : HT.lexLt xs xs with
  | false => rfl
  | true => rw [NtL.lex_asym xs xs h] at h; cases h
section
variable {X : Cx} {cl : Nat → Addr} {pins : List (Addr × Obj)} {σ : L2.St} {F H : Hp} {s : Shared}
/-- data, its value for the hand layer and its value, side by side -/
theorem zip3 {K : PySem.W.Frag} : ∀ {ps : List P} {xs : List V} {us : List Value}, RpA K cl F ps xs → Vals xs us → ∃ T : List (P × V × Value), T.map (·.1) = ps ∧ T.map (·.2.1) = xs ∧ T.map (·.2.2) = us ∧ ∀ t ∈ T, Rp K cl F t.1 t.2.1 ∧ RelV t.2.1 t.2.2
  | _, _, _, .nil, .nil => ⟨[], rfl, rfl, rfl, fun _ h => absurd h List.not_mem_nil⟩
  | _, _, _, .cons (x := p) (v := v) a b, .cons (b := u) c d => by
    obtain ⟨T, h1, h2, h3, h4⟩ := zip3 b d
    refine ⟨(p, v, u) :: T, by rw [List.map_cons, h1], by rw [List.map_cons, h2], by rw [List.map_cons, h3], fun t ht => ?_⟩
    rcases List.mem_cons.mp ht with rfl | ht
    · exact ⟨a, c⟩
    · exact h4 t ht
theorem unzip3 {K : PySem.W.Frag} : ∀ {T : List (P × V × Value)}, (∀ t ∈ T, Rp K cl F t.1 t.2.1 ∧ RelV t.2.1 t.2.2) → RpA K cl F (T.map (·.1)) (T.map (·.2.1)) ∧ Vals (T.map (·.2.1)) (T.map (·.2.2))
  | [], _ => ⟨.nil, .nil⟩
  | t :: T, h => by
    obtain ⟨a, b⟩ := unzip3 fun x hx => h x (List.mem_cons_of_mem _ hx)
    obtain ⟨c, d⟩ := h t List.mem_cons_self
    exact ⟨.cons c a, .cons d b⟩
theorem kat_same {prog : Program} {w : World} {A : Around} {s : Shared} {b fin : Bool} {Q : Bool → Shared → Prop} (h : Q fin s) : ∀ (l : List Value) (i : Nat), PySem.W.KatLex prog w A b fin Q (l.zip l) i s
  | [], _ => PySem.W.kat_nil h
  | v :: l, i => by
    rw [List.zip_cons_cons]
    refine PySem.W.kat_cons (SeqAt.EqAt.same v prog w _ _ ?_)
    exact PySem.W.kat_go (fun _ => PySem.W.kat_yes (kat_same h l (i + 1))) (fun e => by cases e)
end
def rSortT (K : PySem.W.Frag) (cl : Nat → Addr) (live : Bool) : List V → Hp → VK → Prop := fun vs H Q => ∃ d v S B F φ, vs = [v] ∧ Sim K cl S B F φ H ∧ DR K cl F φ d v ∧ d.lt S.len ∧ OkE K cl S B F φ H (fSort live [d] S) Q
theorem d_sort {K : PySem.W.Frag} {cl : Nat → Addr} {live : Bool} : CallD K cl (fSort live) (rSortT K cl live) := by
  intro S B F φ H ds xs Q s r l o
  match ds, o, r, l with
  | [d], o, r, l =>
    obtain ⟨x, rfl, rx⟩ := dra1 r
    exact ⟨d, x, S, B, F, φ, rfl, s, rx, l d List.mem_cons_self, o⟩
  | [], o, _, _ => obtain ⟨_, _, z, _⟩ := o; cases z
  | _ :: _ :: _, o, _, _ => obtain ⟨_, _, z, _⟩ := o; cases z
theorem leT_trans (a b c : P) (h1 : leT a b = true) (h2 : leT b c = true) : leT a c = true := by
  unfold leT at *
  rw [Bool.not_eq_true'] at *
  exact NtL.lex_tr _ _ _ h1 h2
theorem leT_total (a b : P) : (leT a b || leT b a) = true := by
  unfold leT
  cases h : HT.lexLt ((keyT b).getD []) ((keyT a).getD []) with
  | false => rfl
  | true => rw [NtL.lex_asym _ _ h]; rfl
theorem c_sort {X : Cx} {cl : Nat → Addr} {live : Bool} (hu : X.A.units + 65 < cLine) : CallR X (.builtin "sorted") (rSortT X.K cl live) := by
  intro pins s σ H vs us Q I rv h
  obtain ⟨d, v, S, B, F, φ, rfl, sim, dr, l, o⟩ := h
  unfold fSort at o
  dsimp only at o
  cases e1 : asL d S with
  | none => rw [e1] at o; obtain ⟨_, _, z, _⟩ := o; cases z
  | some ds =>
  rw [e1] at o
  dsimp only at o
  cases e2 : toPs ds with
  | none => rw [e2] at o; obtain ⟨_, _, z, _⟩ := o; cases z
  | some ps =>
  rw [e2] at o
  dsimp only at o
  by_cases hok : okSrt ps = true
  case neg => rw [if_neg hok] at o; obtain ⟨_, _, z, _⟩ := o; cases z
  rw [if_pos hok] at o
  obtain ⟨la, xs, rfl, hs, ra, lx⟩ := asL_ok sim e1 dr l
  obtain rfl := toPs_of e2
  obtain ⟨its, rvi, hl, hz⟩ := I.list hs
  obtain rfl := Vals.ref1 rv
  have ra0 : RpA X.K cl F ps xs := ra.rpa
  obtain ⟨T, t1, t2, t3, t4⟩ := zip3 ra0 rvi
  have sf : Same F H := sim.le
  have hlen : its.length = xs.length := rvi.length.symm
  unfold okSrt at hok
  rw [Bool.and_eq_true, decide_eq_true_eq, List.all_eq_true] at hok
  obtain ⟨hk, nd⟩ := hok
  rw [← t1, List.map_map] at nd
  have keys : ∀ t ∈ T, ∃ ns, keyT t.1 = some ns := fun t ht => Option.isSome_iff_exists.mp (hk t.1 (by rw [← t1]; exact List.mem_map.mpr ⟨t, ht, rfl⟩))
  have uniq : ∀ t ∈ T, ∀ t' ∈ T, keyT t.1 = keyT t'.1 → t = t' := fun t ht t' ht' e => by
    obtain ⟨i, hi, rfl⟩ := List.getElem_of_mem ht
    obtain ⟨j, hj, rfl⟩ := List.getElem_of_mem ht'
    have pw := List.pairwise_iff_getElem.mp nd
    rcases Nat.lt_trichotomy i j with q | q | q
    · exact absurd (by rw [List.getElem_map, List.getElem_map]; exact e) (pw i j (by simpa using hi) (by simpa using hj) q)
    · subst q; rfl
    · exact absurd (by rw [List.getElem_map, List.getElem_map]; exact e.symm) (pw j i (by simpa using hj) (by simpa using hi) q)
  have kis : ∀ t ∈ T, ∀ ns, keyT t.1 = some ns → KeyIs s.heap t.2.2 ns := fun t ht ns e => by
    obtain ⟨a, b, rest, fi, vb, hu1, h1, h2, h3, _⟩ := key_full I sf e (t4 t ht).1 (t4 t ht).2
    exact ⟨a, b, _, fi, hu1, h1, rfl, h2, h3⟩
  have kof : ∀ t ∈ T, ∀ ns, keyT t.1 = some ns → kOf s.heap t.2.2 = ns := fun t ht ns e => kOf_eq (kis t ht ns e)
  have mem3 : ∀ u, u ∈ its ↔ ∃ t ∈ T, t.2.2 = u := fun u => by rw [← t3]; exact List.mem_map
  refine SrtO.sorted_ord (NtL.swo_lexL (kOf s.heap)) hl.isList (by omega) (fun h2 h₁ a ha kk => ?_) fun out hs1 hb => ?_
  · -- any two compare
    intro h' keep
    have kp : ∀ b o, s.heap.get? b = some o → h'.get? b = some o := fun b o e => keep b o (kk b o e).1 (kk b o e).2
    have I' : L2.Inv X pins σ H { s with heap := h' } := I.kept (t' := s.toks) kp
    have full := fun t (ht : t ∈ T) ns (e : keyT t.1 = some ns) => key_full I' sf e (t4 t ht).1 (t4 t ht).2
    refine ⟨tuples' false, fun Q E hq => ?_, fun p q hm hm' => ?_⟩
    · have firsts : ∀ T' : List (P × V × Value), (∀ t ∈ T', t ∈ T) → ∃ fs, PySem.W.KatTups h' (T'.map (·.2.2)) fs ∧ fs.length = T'.length ∧ ∀ f ∈ fs, ∃ b fi, f = Value.ref b ∧ IsTup h' b fi := by
        intro T'
        induction T' with
        | nil => intro _; exact ⟨[], PySem.W.KatTups.nil, rfl, fun _ z => absurd z List.not_mem_nil⟩
        | cons t T' ih =>
          intro hT
          obtain ⟨fs, f1, f2, f3⟩ := ih fun x hx => hT x (List.mem_cons_of_mem _ hx)
          obtain ⟨ns, e⟩ := keys t (hT t List.mem_cons_self)
          obtain ⟨a, b, rest, fi, vb, hu1, ⟨ob, g1, g2, n, g3⟩, h2, h3, _⟩ := full t (hT t List.mem_cons_self) ns e
          refine ⟨.ref b :: fs, ?_, by rw [List.length_cons, List.length_cons, f2], fun f hf => ?_⟩
          · rw [List.map_cons, hu1]
            exact PySem.W.KatTups.cons g1 g2 g3 rfl f1
          · rcases List.mem_cons.mp hf with rfl | hf
            · exact ⟨b, fi, rfl, h2⟩
            · exact f3 f hf
      obtain ⟨fs, f1, f2, f3⟩ := firsts T fun _ z => z
      rw [t3] at f1
      have hlT : T.length = its.length := by rw [← t3, List.length_map]
      refine PySem.W.kat_kind (T := .type "tuple") f1 (by omega) (fun f hf => ?_) (by rfl) ?_
      · obtain ⟨b, fi, rfl, ob, g1, g2, _⟩ := f3 f hf
        rw [← g2]
        exact (PySem.W.Looks.ld g1).andThen .now
      · have e : (Value.type "tuple" != Value.type "tuple") = false := by first | decide +kernel | rfl | decide
        rw [e]
        exact hq
    · obtain ⟨t, ht, et⟩ := (mem3 _).mp hm
      obtain ⟨t', ht', et'⟩ := (mem3 _).mp hm'
      obtain ⟨ns, ek⟩ := keys t ht
      obtain ⟨ms, ek'⟩ := keys t' ht'
      obtain ⟨a1, b1, rest1, fi1, vb1, hu1, p1, q1, i1, r1, rb1⟩ := full t ht ns ek
      obtain ⟨a2, b2, rest2, fi2, vb2, hu2, p2, q2, i2, r2, rb2⟩ := full t' ht' ms ek'
      have k1 := kof t ht ns ek
      have k2 := kof t' ht' ms ek'
      rw [et] at hu1 k1
      rw [et'] at hu2 k2
      show wpAny (model X.prog X.w) X.A.in1.in1 (keyLt' (tuples' false) p.1 q.1) (fun r s' => s' = { s with heap := h' } ∧ r = HT.lexLt (kOf s.heap p.1) (kOf s.heap q.1)) (fun _ _ => False) { s with heap := h' }
      rw [k1, k2, hu1, hu2]
      obtain ⟨o1, g1, _, n1, d1⟩ := p1
      obtain ⟨o2, g2, _, n2, d2⟩ := p2
      refine PySem.W.kat_lt g1 d1 g2 d2 ?_
      by_cases same : a1 = a2
      · subst same
        have eo := g1.symm.trans g2
        cases eo
        rw [d1] at d2
        injection d2 with d3 _
        have e4 : ns = ms := by
          rw [← k1, ← k2, hu1, hu2]
        subst e4
        rw [d3]
        refine kat_same ⟨rfl, ?_⟩ _ _
        rw [lexLt_self]
        exact decide_eq_false (Nat.lt_irrefl _)
      · have hne : ns ≠ ms := fun e => same (by
          have := uniq t ht t' ht' (by rw [ek, ek', e])
          subst this
          rw [et] at et'
          rw [et', hu2] at hu1
          cases hu1
          rfl)
        have pe : peq (.tup (ns.map P.int)) (.tup (ms.map P.int)) = false := by
          cases hq : peq (.tup (ns.map P.int)) (.tup (ms.map P.int)) with
          | false => rfl
          | true =>
            exfalso
            have inj : ∀ (a b : List Int), peqA (a.map P.int) (b.map P.int) = true → a = b := by
              intro a
              induction a with
              | nil => intro b hb; cases b with
                | nil => rfl
                | cons _ _ => simp [peqA] at hb
              | cons x a ih => intro b hb; cases b with
                | nil => simp [peqA] at hb
                | cons y b =>
                  simp only [List.map_cons, peqA, Bool.and_eq_true] at hb
                  have e1 : x = y := by simpa [peq] using hb.1
                  rw [e1, ih b hb.2]
            exact hne (inj ns ms (by simpa [peq] using hq))
        have ok1 : ∀ l : List Int, okd 1 (.tup (l.map P.int)) = true := fun l => by
          show (l.map P.int).all (okd 0) = true
          simp only [List.all_eq_true, List.mem_map]
          rintro p ⟨r, _, rfl⟩
          rfl
        have eq := eqAt_P I' sf 1 _ _ _ _ _ _ X.A.in1.in1 (ok1 ns) (ok1 ms) r1 rb1 r2 rb2 (by show X.A.units + 1 + 1 + 1 < cLine; omega)
        rw [pe] at eq
        refine PySem.W.kat_cons (eq X.prog X.w _ _ ?_)
        refine PySem.W.kat_go (fun e => by cases e) fun _ => PySem.W.kat_no (PySem.W.kat_one _ _ ?_)
        exact HT.lt_tupInts q1 q2 i1 i2 (by show X.A.units + 1 + 1 < cLine; omega) ⟨rfl, rfl⟩
  · -- the list that comes back
    let le2 : (P × V × Value) → (P × V × Value) → Bool := fun a b => leT a.1 b.1
    have pmT := List.mergeSort_perm T le2
    have pw : (T.mergeSort le2).Pairwise fun a b => le2 a b = true := List.pairwise_mergeSort (le := le2) (fun a b c h1 h2 => leT_trans a.1 b.1 c.1 h1 h2) (fun a b => leT_total a.1 b.1) T
    have memT : ∀ t ∈ T.mergeSort le2, t ∈ T := fun t ht => pmT.mem_iff.mp ht
    have eout : out = (T.mergeSort le2).map (·.2.2) := by
      refine srt_uniq (le := fun x y => HT.lexLt (kOf s.heap y) (kOf s.heap x) = false) ?_ hs1 ?_ ?_
      · refine hb.perm.trans ?_
        rw [← t3]
        exact (pmT.map _).symm
      · refine List.pairwise_map.mpr ?_
        refine List.Pairwise.imp_of_mem (fun {a b} ha hb h => ?_) pw
        obtain ⟨na, ea⟩ := keys a (memT a ha)
        obtain ⟨nb, eb⟩ := keys b (memT b hb)
        rw [kof a (memT a ha) na ea, kof b (memT b hb) nb eb]
        have h' : leT a.1 b.1 = true := h
        unfold leT at h'
        rw [ea, eb] at h'
        simpa using h'
      · intro x hx y hy h1 h2
        obtain ⟨t, ht, rfl⟩ := (mem3 x).mp (hb.perm.mem_iff.mp hx)
        obtain ⟨t', ht', rfl⟩ := (mem3 y).mp (hb.perm.mem_iff.mp hy)
        obtain ⟨na, ea⟩ := keys t ht
        obtain ⟨nb, eb⟩ := keys t' ht'
        rw [kof t ht na ea, kof t' ht' nb eb] at h1 h2
        rw [uniq t ht t' ht' (by rw [ea, eb, lexLt_ne h1 h2])]
    obtain ⟨rp, rvv⟩ := unzip3 (fun t ht => t4 t (memT t ht))
    have em : ps.mergeSort leT = (T.mergeSort le2).map (·.1) := by
      rw [← t1]
      exact (List.map_mergeSort fun a _ b _ => (show le2 a b = leT a.1 b.1 from rfl)).symm
    rw [em] at o
    obtain ⟨lz, qq⟩ := newL_ok1 o sim rp.dra lt_map
    obtain ⟨ep, he'⟩ := PyProof.Rows.sortedAll_at s.heap its out.toArray
    refine ⟨.ref _, upd H (s.heap.objs.size + 1) (.lst ((T.mergeSort le2).map (·.2.1))), I.laid (t' := s.toks) (fun _ _ => PyProof.Rows.sortedAll_old) (Nat.le_succ _) ⟨lz, _, ep, rvv, ?_⟩, rfl, qq _ (I.hok.fresh (Nat.le_succ _))⟩
    rw [← eout]
    exact he'
end Pv
/-! reading the computations by simp -/
namespace Pv
open PySem PySem.Spec PyProof.Rows L2
section
variable {f g : D → D → SH → Option (D × SH)} {u : D → SH → Option (D × SH)} {a b c : ME} {t t1 t2 : MT} {r : MA} {m : MF} {s1 s2 : MS} {σ : En} {S S' : SH}
@[simp] theorem at_dC (x : P) : dC x σ S = some (.p x, S) := id rfl
@[simp] theorem at_dVar (i : Nat) : dVar i σ S = match σ[i]? with | some (some d) => some (d, S) | _ => none := id rfl
@[simp] theorem at_dOp : dOp f a b σ S = bnd (a σ S) fun x S1 => bnd (b σ S1) fun y S2 => f x y S2 := id rfl
@[simp] theorem at_dUn : dUn u a σ S = bnd (a σ S) fun x S1 => u x S1 := id rfl
@[simp] theorem at_dTest : dTest a σ S = bnd (a σ S) toB := id rfl
@[simp] theorem at_dAnd : dAnd t1 t2 σ S = bnd (t1 σ S) fun t S1 => if t = true then t2 σ S1 else some (false, S1) := id rfl
@[simp] theorem at_dOr : dOr t1 t2 σ S = bnd (t1 σ S) fun t S1 => if t = true then some (true, S1) else t2 σ S1 := id rfl
@[simp] theorem at_dNot : dNot t σ S = bnd (t σ S) fun x S1 => some (!x, S1) := id rfl
@[simp] theorem at_dNotV : dNotV a σ S = bnd (a σ S) fun d S1 => bnd (toB d S1) fun t S2 => some (.p (.bl (!t)), S2) := id rfl
@[simp] theorem at_dAndV : dAndV a b σ S = bnd (a σ S) fun d S1 => bnd (toB d S1) fun t S2 => if t = true then b σ S2 else some (.p (.bl false), S2) := id rfl
@[simp] theorem at_dOrV : dOrV a b σ S = bnd (a σ S) fun d S1 => bnd (toB d S1) fun t S2 => if t = true then some (.p (.bl true), S2) else b σ S2 := id rfl
@[simp] theorem at_dIfE : dIfE t a b σ S = bnd (t σ S) fun t S1 => if t = true then a σ S1 else b σ S1 := id rfl
@[simp] theorem at_dNil : dNil σ S = some ([], S) := id rfl
@[simp] theorem at_dCons : dCons a r σ S = bnd (a σ S) fun x S1 => bnd (r σ S1) fun xs S2 => some (x :: xs, S2) := id rfl
@[simp] theorem at_dCall : dCall m r σ S = bnd (r σ S) fun xs S1 => m xs S1 := id rfl
@[simp] theorem at_dNx : dNx σ S = some (.nx σ, S) := id rfl
def seqK (b : MS) : Fl → SH → Option (Fl × SH)
  | .nx σ1, S1 => b σ1 S1
  | r, S1 => some (r, S1)
@[simp] theorem seqK_nx (σ1 : En) : seqK s2 (.nx σ1) S = s2 σ1 S := id rfl
@[simp] theorem seqK_ret (d : D) : seqK s2 (.ret d) S = some (.ret d, S) := id rfl
@[simp] theorem seqK_brk (σ1 : En) : seqK s2 (.brk σ1) S = some (.brk σ1, S) := id rfl
@[simp] theorem seqK_ct (σ1 : En) : seqK s2 (.ct σ1) S = some (.ct σ1, S) := id rfl
@[simp] theorem at_dSeq : dSeq s1 s2 σ S = bnd (s1 σ S) (seqK s2) := by
  unfold dSeq
  congr 1
  funext f S1
  cases f <;> rfl
@[simp] theorem at_dBrk : dBrk σ S = some (.brk σ, S) := id rfl
@[simp] theorem at_dCt : dCt σ S = some (.ct σ, S) := id rfl
@[simp] theorem at_dDrop : dDrop a σ S = bnd (a σ S) fun _ S1 => some (.nx σ, S1) := id rfl
@[simp] theorem at_dRet : dRet a σ S = bnd (a σ S) fun d S1 => some (.ret d, S1) := id rfl
@[simp] theorem at_dRetN : dRetN σ S = some (.ret (.p .non), S) := id rfl
@[simp] theorem at_dIf : dIf t s1 s2 σ S = bnd (t σ S) fun t S1 => if t = true then s1 σ S1 else s2 σ S1 := id rfl
@[simp] theorem at_dSet (i : Nat) : dSet i a σ S = bnd (a σ S) fun d S1 => some (.nx (σ.set i (some d)), S1) := id rfl
@[simp] theorem at_dTup : dTup r σ S = bnd (r σ S) fun ds S1 => newT ds S1 := id rfl
@[simp] theorem at_dLst (live : Bool) : dLst live r σ S = bnd (r σ S) fun ds S1 => newL live ds S1 := id rfl
@[simp] theorem at_dYes : dYes σ S = some (true, S) := id rfl
@[simp] theorem at_dTru : dTru a σ S = bnd (a σ S) truD := id rfl
@[simp] theorem at_dChain : dChain f g a b c σ S = bnd (a σ S) fun x S1 => bnd (b σ S1) fun y S2 => bnd (f x y S2) fun z S3 => bnd (toB z S3) fun t S4 => if t = true then bnd (c σ S4) fun w S5 => g y w S5 else some (.p (.bl false), S4) := id rfl
@[simp] theorem at_dMeth (k : Nat) (nm : Str) : dMeth k nm m a r σ S = bnd (a σ S) fun d S1 => match fldsOf d S1 with
  | some (c', fs) => if c' = k ∧ fs.lookup nm = none then bnd (r σ S1) fun xs S2 => m (d :: xs) S2 else none
  | none => none := id rfl
@[simp] theorem at_dBM (T : String) : dBM T m a r σ S = bnd (a σ S) fun d S1 => if isTy T d S1 = true then bnd (r σ S1) fun ds S2 => m (d :: ds) S2 else none := id rfl
@[simp] theorem at_gNm (i : Nat) (d : D) : gNm i d σ S = some (σ.set i (some d), S) := id rfl
@[simp] theorem at_dAsg {gg : MG} : dAsg a gg σ S = bnd (a σ S) fun d S1 => bnd (gg d σ S1) fun σ2 S2 => some (.nx σ2, S2) := id rfl
@[simp] theorem at_gSb (d : D) : gSb a b d σ S = bnd (a σ S) fun x S1 => bnd (b σ S1) fun y S2 => match setIx x y d S2 with | some S3 => some (σ, S3) | none => none := id rfl
@[simp] theorem at_gNl : gNl [] σ S = some (σ, S) := id rfl
@[simp] theorem at_gCn {g1 : MG} {g2 : MGs} (d : D) (ds : List D) : gCn g1 g2 (d :: ds) σ S = bnd (g1 d σ S) fun σ1 S1 => g2 ds σ1 S1 := id rfl
@[simp] theorem at_gTp (n : Nat) {g2 : MGs} (ps : List P) : gTp n g2 (.p (.tup ps)) σ S = if ps.length = n then g2 (ps.map .p) σ S else none := id rfl
@[simp] theorem at_dFor (ws : List Nat) {mi : MI} {gg : MG} : dFor ws mi gg s1 σ S = bnd (mi σ S) fun src S1 => forL ws src.fin gg s1 src.items (wipeD ws σ) S1 := id rfl
@[simp] theorem at_dComp (live : Bool) {mi : MI} {gg : MG} (vs : List Nat) : dComp live mi gg t a vs σ S = bnd (mi σ S) fun src S1 => bnd (compL src.fin gg t a (wipeD vs σ) src.items [] S1) fun ds S2 => newL live ds S2 := id rfl
@[simp] theorem at_dIt : dIt a σ S = bnd (a σ S) srcOf := id rfl
@[simp] theorem at_dRng1 : dRng1 r σ S = bnd (r σ S) rng1 := id rfl
@[simp] theorem at_dRng2 : dRng2 r σ S = bnd (r σ S) rng2 := id rfl
@[simp] theorem at_fn (k n : Nat) (ds : List D) : dFn k n s1 ds S = if ds.length = k then frameF S (s1 (startD n ds) ⟨S.os.length, S.os⟩) else none := id rfl
@[simp] theorem at_fnL (k n : Nat) (ds : List D) : dFnL k n s1 ds S = if ds.length = k then liveF (s1 (startD n ds) S) else none := id rfl
theorem fn_at {k n : Nat} {ds : List D} (h : ds.length = k) : dFn k n s1 ds S = frameF S (s1 (startD n ds) ⟨S.os.length, S.os⟩) := if_pos h
theorem fnL_at {k n : Nat} {ds : List D} (h : ds.length = k) : dFnL k n s1 ds S = liveF (s1 (startD n ds) S) := if_pos h
@[simp] theorem live_ret (d : D) : liveF (some (.ret d, S)) = some (d, S) := id rfl
@[simp] theorem live_nx (σ : En) : liveF (some (.nx σ, S)) = some (.p .non, S) := id rfl
@[simp] theorem frame_p (x : P) (S1 : SH) : frameF S (some (.ret (.p x), S1)) = some (.p x, cutS S S1) := id rfl
@[simp] theorem frame_nx (σ : En) (S1 : SH) : frameF S (some (.nx σ, S1)) = some (.p .non, cutS S S1) := id rfl
@[simp] theorem cut_self (k : Nat) : cutS S ⟨k, S.os⟩ = S := by
  unfold cutS SH.len
  rw [List.take_length]
@[simp] theorem cut_app (k : Nat) (l : List Ob) : cutS S ⟨k, S.os ++ l⟩ = S := by
  unfold cutS SH.len
  simp
/-- a new list comes back as data -/
theorem frame_ref {n : Nat} {S1 : SH} {ps : List P} (hn : S.os.length ≤ n) (e : S1.os[n]? = some (.lst (ps.map D.p))) : frameF S (some (.ret (.ref n), S1)) = some (.p (.lst ps), cutS S S1) := by
  have h : ∀ (k : Nat), (ps.map D.p).mapM (toP k S.len S1) = some ps := fun k => by
    induction ps with
    | nil => rfl
    | cons p ps ih =>
      have q : (ps.map D.p).mapM (toP k S.len S1) = some ps := by
        clear e ih
        induction ps with
        | nil => rfl
        | cons p ps ih => rw [List.map_cons, List.mapM_cons, ih]; cases k <;> rfl
      rw [List.map_cons, List.mapM_cons, q]; cases k <;> rfl
  have h2 : outD S.len S1 (.ref n) = some (.p (.lst ps)) := by
    unfold outD
    dsimp only
    rw [if_neg (by unfold SH.len; omega)]
    unfold toP
    rw [if_neg (by unfold SH.len; omega), e]
    dsimp only
    rw [h]
    rfl
  show (match outD S.len S1 (.ref n) with | some d' => some (d', cutS S S1) | none => none) = _
  rw [h2]
@[simp] theorem newT_p (ps : List P) (h : ps.length ≤ sizeLine) : newT (ps.map D.p) S = some (.p (.tup ps), S) := by
  unfold newT
  rw [toPs_map]
  exact if_pos h
theorem newL_f (ps : List P) (h : ps.length ≤ sizeLine) : newL false (ps.map D.p) S = some (.p (.lst ps), S) := by
  unfold newL
  rw [List.length_map, if_pos h, if_neg Bool.false_ne_true, toPs_map]
theorem newL_t (ds : List D) (h : ds.length ≤ sizeLine) : newL true ds S = some (.ref S.os.length, ⟨S.b, S.os ++ [.lst ds]⟩) := by
  unfold newL
  rw [if_pos h, if_pos rfl]
end
theorem line_ge : 1000000 ≤ sizeLine := by unfold sizeLine; decide
/-! loops and comprehensions -/
section
variable {body : MS} {t : MT} {elt : ME} {ws : List Nat} {fin : SH → Bool} {g : MG}
/-- a loop whose turns all go on -/
theorem forL_all (st : Nat → En) (Ss : Nat → SH) : ∀ (items : List (SH → Option D)) (k : Nat), fin (Ss (k + items.length)) = true →
    (∀ i it, items[i]? = some it → ∃ d σ1 S1, it (Ss (k + i)) = some d ∧ g d (st (k + i)) (Ss (k + i)) = some (σ1, S1) ∧ ∃ σ2, (body σ1 S1 = some (.nx σ2, Ss (k + i + 1)) ∨ body σ1 S1 = some (.ct σ2, Ss (k + i + 1))) ∧ wipeD ws σ2 = st (k + i + 1)) →
    forL ws fin g body items (st k) (Ss k) = some (.nx (st (k + items.length)), Ss (k + items.length))
  | [], k, hf, _ => by
    have hf' : fin (Ss k) = true := hf
    rw [forL, if_pos hf']; rfl
  | it :: items, k, hf, h => by
    obtain ⟨d, σ1, S1, h1, h2, σ2, h3, h4⟩ := h 0 it rfl
    rw [Nat.add_zero] at h1 h2 h3 h4
    have e : k + (it :: items).length = (k + 1) + items.length := by rw [List.length_cons]; omega
    have ih := forL_all st Ss items (k + 1) (by rw [← e]; exact hf) fun i it' hi => by
      have q := h (i + 1) it' (by simpa using hi)
      have e2 : k + (i + 1) = k + 1 + i := by omega
      rw [e2] at q
      exact q
    rw [forL, h1]
    dsimp only
    rw [h2, bnd_some]
    rw [e]
    rcases h3 with h3 | h3
    · rw [h3, bnd_some]; dsimp only; rw [h4]; exact ih
    · rw [h3, bnd_some]; dsimp only; rw [h4]; exact ih
/-- .. over a range -/
theorem for_rng {j : Nat} (st : Nat → En) (Ss : Nat → SH) (lo : Int) (n : Nat)
    (h : ∀ i, i < n → ∃ σ2, (body ((st i).set j (some (.p (.int (lo + (i : Int)))))) (Ss i) = some (.nx σ2, Ss (i + 1)) ∨ body ((st i).set j (some (.p (.int (lo + (i : Int)))))) (Ss i) = some (.ct σ2, Ss (i + 1))) ∧ wipeD ws σ2 = st (i + 1)) :
    forL ws (srcN lo n).fin (gNm j) body (srcN lo n).items (st 0) (Ss 0) = some (.nx (st n), Ss n) := by
  have hl : (srcN lo n).items.length = n := by simp [srcN]
  have q := forL_all (body := body) (ws := ws) (g := gNm j) (fin := (srcN lo n).fin) st Ss (srcN lo n).items 0 rfl fun i it hi => by
    simp only [srcN, List.getElem?_map] at hi
    cases e : (List.range n)[i]? with
    | none => rw [e] at hi; cases hi
    | some i' =>
      rw [e] at hi
      cases hi
      obtain ⟨h1, h2⟩ := List.getElem?_eq_some_iff.mp e
      rw [List.getElem_range] at h2
      subst h2
      rw [List.length_range] at h1
      rw [Nat.zero_add]
      obtain ⟨σ2, a, b⟩ := h i h1
      exact ⟨_, _, _, rfl, rfl, σ2, a, b⟩
  rw [hl, Nat.zero_add] at q
  exact q
/-- .. over data -/
theorem for_p {j : Nat} (st : Nat → En) (Ss : Nat → SH) (ps : List P)
    (h : ∀ i p, ps[i]? = some p → ∃ σ2, (body ((st i).set j (some (.p p))) (Ss i) = some (.nx σ2, Ss (i + 1)) ∨ body ((st i).set j (some (.p p))) (Ss i) = some (.ct σ2, Ss (i + 1))) ∧ wipeD ws σ2 = st (i + 1)) :
    forL ws (srcP ps).fin (gNm j) body (srcP ps).items (st 0) (Ss 0) = some (.nx (st ps.length), Ss ps.length) := by
  have hl : (srcP ps).items.length = ps.length := by simp [srcP]
  have q := forL_all (body := body) (ws := ws) (g := gNm j) (fin := (srcP ps).fin) st Ss (srcP ps).items 0 rfl fun i it hi => by
    simp only [srcP, List.getElem?_map] at hi
    cases e : ps[i]? with
    | none => rw [e] at hi; cases hi
    | some p =>
      rw [e] at hi
      cases hi
      rw [Nat.zero_add]
      obtain ⟨σ2, a, b⟩ := h i p e
      exact ⟨_, _, _, rfl, rfl, σ2, a, b⟩
  rw [hl, Nat.zero_add] at q
  exact q
/-- a loop by an invariant -/
theorem forL_inv (J : Nat → En → SH → Prop) : ∀ (items : List (SH → Option D)) (k : Nat) (σ : En) (S : SH), J k σ S → (∀ σ S, J (k + items.length) σ S → fin S = true) →
    (∀ i it σ S, items[i]? = some it → J (k + i) σ S → ∃ d σ1 S1, it S = some d ∧ g d σ S = some (σ1, S1) ∧ ∃ σ2 S2, (body σ1 S1 = some (.nx σ2, S2) ∨ body σ1 S1 = some (.ct σ2, S2)) ∧ J (k + i + 1) (wipeD ws σ2) S2) →
    ∃ σ' S', forL ws fin g body items σ S = some (.nx σ', S') ∧ J (k + items.length) σ' S'
  | [], k, σ, S, hj, hf, _ => ⟨σ, S, by rw [forL, if_pos (hf σ S hj)], hj⟩
  | it :: items, k, σ, S, hj, hf, h => by
    obtain ⟨d, σ1, S1, h1, h2, σ2, S2, h3, h4⟩ := h 0 it σ S rfl hj
    have e : k + (it :: items).length = (k + 1) + items.length := by rw [List.length_cons]; omega
    rw [e] at hf ⊢
    obtain ⟨σ', S', r1, r2⟩ := forL_inv J items (k + 1) _ S2 h4 hf fun i it' σ S hi hj => by
      have e2 : k + 1 + i = k + (i + 1) := by omega
      rw [e2] at hj ⊢
      exact h (i + 1) it' σ S (by simpa using hi) hj
    refine ⟨σ', S', ?_, r2⟩
    rw [forL, h1]
    dsimp only
    rw [h2, bnd_some]
    rcases h3 with h3 | h3 <;> (rw [h3, bnd_some]; exact r1)
theorem rng_inv {j : Nat} (J : Nat → En → SH → Prop) (lo : Int) (n : Nat) {σ : En} {S : SH} (h0 : J 0 σ S)
    (h : ∀ i σ S, i < n → J i σ S → ∃ σ2 S2, (body (σ.set j (some (.p (.int (lo + (i : Int)))))) S = some (.nx σ2, S2) ∨ body (σ.set j (some (.p (.int (lo + (i : Int)))))) S = some (.ct σ2, S2)) ∧ J (i + 1) (wipeD ws σ2) S2) :
    ∃ σ' S', forL ws (srcN lo n).fin (gNm j) body (srcN lo n).items σ S = some (.nx σ', S') ∧ J n σ' S' := by
  have hl : (srcN lo n).items.length = n := by simp [srcN]
  have q := forL_inv (body := body) (ws := ws) (g := gNm j) (fin := (srcN lo n).fin) J (srcN lo n).items 0 σ S h0 (fun _ _ _ => rfl) fun i it σ S hi hj => by
    simp only [srcN, List.getElem?_map] at hi
    cases e : (List.range n)[i]? with
    | none => rw [e] at hi; cases hi
    | some i' =>
      rw [e] at hi
      cases hi
      obtain ⟨h1, h2⟩ := List.getElem?_eq_some_iff.mp e
      rw [List.getElem_range] at h2
      subst h2
      rw [List.length_range] at h1
      rw [Nat.zero_add] at hj ⊢
      obtain ⟨σ2, S2, a, b⟩ := h i σ S h1 hj
      exact ⟨_, _, _, rfl, rfl, σ2, S2, a, b⟩
  rw [hl, Nat.zero_add] at q
  exact q
theorem rng0_inv {j : Nat} (J : Nat → En → SH → Prop) (n : Nat) {σ : En} {S : SH} (h0 : J 0 σ S)
    (h : ∀ i σ S, i < n → J i σ S → ∃ σ2 S2, (body (σ.set j (some (.p (.int (i : Int))))) S = some (.nx σ2, S2) ∨ body (σ.set j (some (.p (.int (i : Int))))) S = some (.ct σ2, S2)) ∧ J (i + 1) (wipeD ws σ2) S2) :
    ∃ σ' S', forL ws (srcN 0 n).fin (gNm j) body (srcN 0 n).items σ S = some (.nx σ', S') ∧ J n σ' S' :=
  rng_inv J 0 n h0 fun i σ S hi hj => by
    rw [Int.zero_add]
    exact h i σ S hi hj
theorem p_inv {j : Nat} (J : Nat → En → SH → Prop) (ps : List P) {σ : En} {S : SH} (h0 : J 0 σ S)
    (h : ∀ i p σ S, ps[i]? = some p → J i σ S → ∃ σ2 S2, (body (σ.set j (some (.p p))) S = some (.nx σ2, S2) ∨ body (σ.set j (some (.p p))) S = some (.ct σ2, S2)) ∧ J (i + 1) (wipeD ws σ2) S2) :
    ∃ σ' S', forL ws (srcP ps).fin (gNm j) body (srcP ps).items σ S = some (.nx σ', S') ∧ J ps.length σ' S' := by
  have hl : (srcP ps).items.length = ps.length := by simp [srcP]
  have q := forL_inv (body := body) (ws := ws) (g := gNm j) (fin := (srcP ps).fin) J (srcP ps).items 0 σ S h0 (fun _ _ _ => rfl) fun i it σ S hi hj => by
    simp only [srcP, List.getElem?_map] at hi
    cases e : ps[i]? with
    | none => rw [e] at hi; cases hi
    | some p =>
      rw [e] at hi
      cases hi
      rw [Nat.zero_add] at hj ⊢
      obtain ⟨σ2, S2, a, b⟩ := h i p σ S e hj
      exact ⟨_, _, _, rfl, rfl, σ2, S2, a, b⟩
  rw [hl, Nat.zero_add] at q
  exact q
theorem put_last (b : Nat) (os : List Ob) (x y : Ob) : SH.put ⟨b, os ++ [x]⟩ os.length y = ⟨b, os ++ [y]⟩ := by
  unfold SH.put
  simp
theorem at_last (b : Nat) (os : List Ob) (x : Ob) : (SH.mk b (os ++ [x])).os[os.length]? = some x := by simp
/-- a comprehension whose element changes nothing: its items as a filter and a map -/
theorem comp_all {S : SH} {σ : En} {α : Type} (fs : α → Bool) (fv : α → D) (it : α → SH → Option D) (hf : fin S = true) : ∀ (xs : List α) (acc : List D), acc.length + xs.length ≤ sizeLine →
    (∀ x ∈ xs, ∃ d σ1, it x S = some d ∧ g d σ S = some (σ1, S) ∧ t σ1 S = some (fs x, S) ∧ (fs x = true → elt σ1 S = some (fv x, S))) →
    compL fin g t elt σ (xs.map it) acc S = some (acc ++ (xs.filter fs).map fv, S)
  | [], acc, _, _ => by
    rw [List.map_nil, compL, if_pos hf]; simp
  | x :: xs, acc, hl, h => by
    obtain ⟨d, σ1, h1, h2, h3, h4⟩ := h x (by simp)
    rw [List.length_cons] at hl
    rw [List.map_cons, compL, h1]
    dsimp only
    rw [h2, bnd_some, h3, bnd_some]
    have ih := fun acc' (q : acc'.length + xs.length ≤ sizeLine) => comp_all (S := S) (σ := σ) fs fv it hf xs acc' q fun y hy => h y (by simp [hy])
    by_cases c : fs x = true
    · rw [if_pos c, if_pos (by omega), h4 c, bnd_some, ih _ (by rw [List.length_append, List.length_singleton]; omega), List.filter_cons_of_pos c, List.map_cons, List.append_assoc]; rfl
    · rw [if_neg c, ih _ (by omega), List.filter_cons_of_neg c]
end
end Pv
/-! what the built-ins give on data -/
namespace Pv
open PySem PySem.Spec PyProof.Rows L2
section
variable {S : SH} {ps qs : List P} {ds : List D}
theorem mulOk_r {i j : Int} (h : j.natAbs < 2 ^ 64) : mulOk i j = true := by
  unfold mulOk
  simp [h]
theorem mulOk_l {i j : Int} (h : i.natAbs < 2 ^ 64) : mulOk i j = true := by
  unfold mulOk
  simp [h]
theorem divOk_c {i j : Int} (h : 0 < j) (h2 : j < 2 ^ 64) : divOk i j = true := by
  unfold divOk
  have a : j.natAbs ≠ 0 := by omega
  have b : j.natAbs.log2 < 64 := (Nat.log2_lt a).mpr (by omega)
  simp only [Bool.and_eq_true, decide_eq_true_eq]
  omega
@[simp] theorem asL_l : asL (.p (.lst ps)) S = some (ps.map .p) := id rfl
@[simp] theorem asQ_l : asQ (.p (.lst ps)) S = some (ps.map .p) := id rfl
@[simp] theorem asQ_t : asQ (.p (.tup ps)) S = some (ps.map .p) := id rfl
@[simp] theorem fLen_l : fLen [.p (.lst ps)] S = some (.p (.int ps.length), S) := by simp [fLen]
@[simp] theorem fLen_t : fLen [.p (.tup ps)] S = some (.p (.int ps.length), S) := by simp [fLen]
@[simp] theorem fTuple_t : fTuple [.p (.tup ps)] S = some (.p (.tup ps), S) := id rfl
theorem fTuple_l (h : ps.length ≤ sizeLine) : fTuple [.p (.lst ps)] S = some (.p (.tup ps), S) := by
  show newT (ps.map D.p) S = _
  rw [newT_p ps h]
theorem fList_l (h : ps.length ≤ sizeLine) : fList false [.p (.lst ps)] S = some (.p (.lst ps), S) := by
  show newL false (ps.map D.p) S = _
  rw [newL_f ps h]
@[simp] theorem fInt_i (i : Int) : fInt [.p (.int i)] S = some (.p (.int i), S) := id rfl
@[simp] theorem fMin_i (i j : Int) : fMin [.p (.int i), .p (.int j)] S = some (.p (.int (if j < i then j else i)), S) := id rfl
@[simp] theorem fMax_i (i j : Int) : fMax [.p (.int i), .p (.int j)] S = some (.p (.int (if j > i then j else i)), S) := id rfl
@[simp] theorem fAdd_i (l : Bool) (i j : Int) : fAdd l (.p (.int i)) (.p (.int j)) S = some (.p (.int (i + j)), S) := id rfl
@[simp] theorem fNeg_i (i : Int) : fNeg (.p (.int i)) S = some (.p (.int (-i)), S) := id rfl
@[simp] theorem fSum_l (ns : List Int) : fSum [.p (.lst (intsP ns))] S = some (.p (.int ns.sum), S) := by
  have h : ∀ l : List Int, intsOf ((intsP l).map D.p) = some l := by
    intro l
    induction l with
    | nil => rfl
    | cons a l ih =>
      show (intsOf (D.p (.int a) :: (intsP l).map D.p)) = _
      simp [intsOf, ih]
  unfold fSum
  simp [h]
theorem atI_nat {α : Type} {l : List α} {n : Nat} {x : α} (h : l[n]? = some x) : atI l (n : Int) = some x := by
  obtain ⟨h1, h2⟩ := List.getElem?_eq_some_iff.mp h
  unfold atI
  have e : ixN l.length (n : Int) = some n := by
    unfold ixN
    simp
    omega
  rw [e]
  exact h
theorem fIx_l {n : Nat} {x : P} (h : ps[n]? = some x) : fIx (.p (.lst ps)) (.p (.int (n : Int))) S = some (.p x, S) := by
  have q := atI_nat (l := ps.map D.p) (n := n) (x := D.p x) (by rw [List.getElem?_map, h]; rfl)
  show (match asQ (.p (.lst ps)) S with
    | some xs => (match atI xs (n : Int) with | some x => some (x, S) | none => none)
    | none => none) = _
  simp only [asQ_l, q]
theorem fIx_t {n : Nat} {x : P} (h : ps[n]? = some x) : fIx (.p (.tup ps)) (.p (.int (n : Int))) S = some (.p x, S) := by
  have q := atI_nat (l := ps.map D.p) (n := n) (x := D.p x) (by rw [List.getElem?_map, h]; rfl)
  show (match asQ (.p (.tup ps)) S with
    | some xs => (match atI xs (n : Int) with | some x => some (x, S) | none => none)
    | none => none) = _
  simp only [asQ_t, q]
/-- by a plain int -/
theorem fIx_li {i : Int} {x : P} (h0 : 0 ≤ i) (h : ps[i.toNat]? = some x) : fIx (.p (.lst ps)) (.p (.int i)) S = some (.p x, S) := by
  have e : i = (i.toNat : Int) := by omega
  rw [e]
  exact fIx_l h
theorem fIx_ti {i : Int} {x : P} (h0 : 0 ≤ i) (h : ps[i.toNat]? = some x) : fIx (.p (.tup ps)) (.p (.int i)) S = some (.p x, S) := by
  have e : i = (i.toNat : Int) := by omega
  rw [e]
  exact fIx_t h
theorem fIx_ri {m : Nat} {i : Int} {d : D} (hm : S.os[m]? = some (.lst ds)) (h0 : 0 ≤ i) (h : ds[i.toNat]? = some d) : fIx (.ref m) (.p (.int i)) S = some (d, S) := by
  have e : i = (i.toNat : Int) := by omega
  have q := atI_nat (l := ds) h
  rw [← e] at q
  show (match asQ (.ref m) S with
    | some xs => (match atI xs i with | some x => some (x, S) | none => none)
    | none => none) = _
  have e2 : asQ (.ref m) S = some ds := by unfold asQ; dsimp only; rw [hm]
  simp only [e2, q]
theorem fApp_p {n : Nat} {x : P} (h : S.os[n]? = some (.lst ds)) (hl : ds.length < sizeLine) : fApp [.ref n, .p x] S = some (.p .non, S.put n (.lst (ds ++ [.p x]))) := by
  unfold fApp
  dsimp only
  rw [h]
  dsimp only
  rw [if_pos ⟨hl, rfl⟩]
theorem isTy_ref {n : Nat} (h : S.os[n]? = some (.lst ds)) : isTy "list" (.ref n) S = true := by
  unfold isTy
  dsimp only
  rw [h]
  rfl
theorem intsP_len (ns : List Int) : (intsP ns).length = ns.length := List.length_map _
theorem intsP_at {ns : List Int} {n : Nat} {i : Int} (h : ns[n]? = some i) : (intsP ns)[n]? = some (.int i) := by
  unfold intsP
  rw [List.getElem?_map, h]
  rfl
theorem srt_rng (n : Nat) (h : (n : Int) < 2 ^ 62) : rng1 [.p (.int n)] S = some (srcN 0 n, S) := by
  unfold rng1
  dsimp only
  rw [if_pos ⟨by omega, h⟩]
  rfl

/-- a field of the newest object is set -/
theorem setF_last {cs : List Nat} {c b : Nat} {os : List Ob} {f : Str} {v : P} {fs : List (Str × D)} (hc : cs.contains c = true) (hl : fs.length < 1000) : setFld cs f (.ref os.length) (.p v) ⟨b, os ++ [.ins c fs]⟩ = some ⟨b, os ++ [.ins c (putFD f (.p v) fs)]⟩ := by
  unfold setFld
  dsimp only
  rw [at_last b]
  dsimp only
  rw [if_pos ⟨hc, hl, rfl⟩, put_last]
theorem mapM_flds {k : Nat} {b : Nat} {S1 : SH} : ∀ (gs : List (Str × P)), (gs.map fun p => (p.1, D.p p.2)).mapM (fun p => (toP k b S1 p.2).map fun x => (p.1, x)) = some gs
  | [] => rfl
  | (f, x) :: gs => by
    rw [List.map_cons, List.mapM_cons, mapM_flds gs]
    cases k <;> rfl
/-- a new object of data comes back as data -/
theorem out_ins {k c n : Nat} {S1 : SH} {gs : List (Str × P)} (hn : k ≤ n) (e : S1.os[n]? = some (.ins c (gs.map fun p => (p.1, D.p p.2)))) : outD k S1 (.ref n) = some (.p (.ins c gs)) := by
  unfold outD
  dsimp only
  rw [if_neg (by omega)]
  unfold toP
  rw [if_neg (by omega), e]
  dsimp only
  rw [mapM_flds]
  rfl
theorem at_dSetF {cs : List Nat} {f : Str} {o v : ME} {σ : En} : dSetF cs f o v σ S = bnd (v σ S) fun y S1 => bnd (o σ S1) fun x S2 => match setFld cs f x y S2 with | some S3 => some (.nx σ, S3) | none => none := id rfl
@[simp] theorem fldsOf_p (c : Nat) (gs : List (Str × P)) : fldsOf (.p (.ins c gs)) S = some (c, gs.map fun p => (p.1, .p p.2)) := id rfl
theorem at_dMakeF {c : Nat} {init : MF} {a : MA} {σ : En} : dMake false c init a σ S = bnd (a σ S) fun xs S1 => bnd (init (.ref S1.os.length :: xs) ⟨S1.os.length, S1.os ++ [.ins c []]⟩) fun d S2 => match d with
    | .p .non => match outD S1.os.length S2 (.ref S1.os.length) with | some d' => some (d', cutS S1 S2) | none => none
    | _ => none := by
  unfold dMake
  rfl
theorem itP (ps : List P) {p : P} (h : p = .lst ps ∨ p = .tup ps) : srcOf (.p p) S = some (srcP ps, S) := by
  rcases h with rfl | rfl <;> rfl
/-- a comprehension over data -/
theorem comp_p {j : Nat} {t : MT} {elt : ME} {σ : En} (fs : P → Bool) (fv : P → D) (ps : List P) (hl : ps.length ≤ sizeLine)
    (h : ∀ p ∈ ps, t (σ.set j (some (.p p))) S = some (fs p, S) ∧ (fs p = true → elt (σ.set j (some (.p p))) S = some (fv p, S))) :
    compL (srcP ps).fin (gNm j) t elt σ (srcP ps).items [] S = some ((ps.filter fs).map fv, S) := by
  have q := comp_all (t := t) (elt := elt) (g := gNm j) (fin := (srcP ps).fin) (S := S) (σ := σ) fs fv (fun p _ => some (D.p p)) rfl ps [] (by simpa using hl) fun p hp => ⟨_, _, rfl, rfl, h p hp⟩
  rw [List.nil_append] at q
  exact q
/-- .. over a range from 0 -/
theorem comp_rng {j : Nat} {t : MT} {elt : ME} {σ : En} (fs : Nat → Bool) (fv : Nat → D) (n : Nat) (hl : n ≤ sizeLine)
    (h : ∀ i, i < n → t (σ.set j (some (.p (.int (i : Int))))) S = some (fs i, S) ∧ (fs i = true → elt (σ.set j (some (.p (.int (i : Int))))) S = some (fv i, S))) :
    compL (srcN 0 n).fin (gNm j) t elt σ (srcN 0 n).items [] S = some (((List.range n).filter fs).map fv, S) := by
  have q := comp_all (t := t) (elt := elt) (g := gNm j) (fin := (srcN 0 n).fin) (S := S) (σ := σ) fs fv (fun (i : Nat) _ => some (.p (.int (0 + (i : Int))))) rfl (List.range n) [] (by simpa using hl) fun i hi => ⟨_, _, rfl, rfl, by
    rw [Int.zero_add]
    exact h i (List.mem_range.mp hi)⟩
  rw [List.nil_append] at q
  exact q
end
end Pv
namespace Pv
open PySem PySem.Spec PyProof.Rows L2
section
variable {S : SH} {ps qs : List P} {ds : List D}
theorem setIx_ri {m : Nat} {i : Int} {v : P} (hm : S.os[m]? = some (.lst ds)) (h0 : 0 ≤ i) (h : i.toNat < ds.length) : setIx (.ref m) (.p (.int i)) (.p v) S = some (S.put m (.lst (ds.set i.toNat (.p v)))) := by
  have e : ixN ds.length i = some i.toNat := by
    unfold ixN
    rw [if_pos h0, if_pos (by omega)]
  unfold setIx
  dsimp only
  rw [hm]
  dsimp only
  rw [e]
  dsimp only
  rw [if_pos (okRef_p S m v)]
theorem sl_hi {live : Bool} {a m : ME} {σ : En} {d : D} {i : Int} (ha : a σ S = some (d, S)) (hm : m σ S = some (.p (.int i), S)) : dSl live a none (some m) σ S = fSl live d none (some i) S := by
  unfold dSl
  rw [ha, bnd_some, bnd_some]
  dsimp only
  rw [hm, bnd_some, bnd_some]
theorem two_0 (b : Nat) (os : List Ob) (x y : Ob) : (SH.mk b (os ++ [x, y])).os[os.length]? = some x := by simp
theorem two_1 (b : Nat) (os : List Ob) (x y : Ob) : (SH.mk b (os ++ [x, y])).os[os.length + 1]? = some y := by simp
theorem put_0 (b : Nat) (os : List Ob) (x y z : Ob) : SH.put ⟨b, os ++ [x, y]⟩ os.length z = ⟨b, os ++ [z, y]⟩ := by
  unfold SH.put
  simp
theorem put_1 (b : Nat) (os : List Ob) (x y z : Ob) : SH.put ⟨b, os ++ [x, y]⟩ (os.length + 1) z = ⟨b, os ++ [x, z]⟩ := by
  unfold SH.put
  simp
end
end Pv
/-! loops over lists that may change; loops that end early -/
namespace Pv
open PySem PySem.Spec PyProof.Rows L2
section
variable {body : MS} {ws : List Nat}
theorem item_r {n i : Nat} {ds : List D} {d : D} {S : SH} (h : S.os[n]? = some (.lst ds)) (hd : ds[i]? = some d) : itemR n ds.length i S = some d := by
  unfold itemR
  rw [h]
  dsimp only
  rw [if_pos rfl, hd]
theorem fin_r {n : Nat} {ds : List D} {S : SH} (h : S.os[n]? = some (.lst ds)) : (srcR n ds.length).fin S = true := by
  show finR n ds.length S = true
  unfold finR
  rw [h]
  dsimp only
  rw [decide_eq_true rfl]
theorem r_inv {g : MG} (J : Nat → En → SH → Prop) (n : Nat) (ds : List D) {σ : En} {S : SH} (h0 : J 0 σ S) (hk : ∀ i σ S, J i σ S → S.os[n]? = some (.lst ds))
    (h : ∀ i d σ S, ds[i]? = some d → J i σ S → ∃ σ1, g d σ S = some (σ1, S) ∧ ∃ σ2 S2, (body σ1 S = some (.nx σ2, S2) ∨ body σ1 S = some (.ct σ2, S2)) ∧ J (i + 1) (wipeD ws σ2) S2) :
    ∃ σ' S', forL ws (srcR n ds.length).fin g body (srcR n ds.length).items σ S = some (.nx σ', S') ∧ J ds.length σ' S' := by
  have hl : (srcR n ds.length).items.length = ds.length := by simp [srcR]
  have q := forL_inv (body := body) (ws := ws) (g := g) (fin := (srcR n ds.length).fin) J (srcR n ds.length).items 0 σ S h0 (fun σ S hj => fin_r (hk _ σ S hj)) fun i it σ S hi hj => by
    simp only [srcR, List.getElem?_map] at hi
    cases e : (List.range ds.length)[i]? with
    | none => rw [e] at hi; cases hi
    | some i' =>
      rw [e] at hi
      cases hi
      obtain ⟨h1, h2⟩ := List.getElem?_eq_some_iff.mp e
      rw [List.getElem_range] at h2
      subst h2
      rw [List.length_range] at h1
      rw [Nat.zero_add] at hj ⊢
      have hd : ds[i]? = some ds[i] := List.getElem?_eq_getElem h1
      obtain ⟨σ1, a0, σ2, S2, a, b⟩ := h i ds[i] σ S hd hj
      exact ⟨_, σ1, S, item_r (hk _ _ _ hj) hd, a0, σ2, S2, a, b⟩
  rw [hl, Nat.zero_add] at q
  exact q
end
theorem p_invg {body : MS} {ws : List Nat} {g : MG} (J : Nat → En → SH → Prop) (ps : List P) {σ : En} {S : SH} (h0 : J 0 σ S)
    (h : ∀ i p σ S, ps[i]? = some p → J i σ S → ∃ σ1, g (.p p) σ S = some (σ1, S) ∧ ∃ σ2 S2, (body σ1 S = some (.nx σ2, S2) ∨ body σ1 S = some (.ct σ2, S2)) ∧ J (i + 1) (wipeD ws σ2) S2) :
    ∃ σ' S', forL ws (srcP ps).fin g body (srcP ps).items σ S = some (.nx σ', S') ∧ J ps.length σ' S' := by
  have hl : (srcP ps).items.length = ps.length := by simp [srcP]
  have q := forL_inv (body := body) (ws := ws) (g := g) (fin := (srcP ps).fin) J (srcP ps).items 0 σ S h0 (fun _ _ _ => rfl) fun i it σ S hi hj => by
    simp only [srcP, List.getElem?_map] at hi
    cases e : ps[i]? with
    | none => rw [e] at hi; cases hi
    | some p =>
      rw [e] at hi
      cases hi
      rw [Nat.zero_add] at hj ⊢
      obtain ⟨σ1, a0, σ2, S2, a, b⟩ := h i p σ S e hj
      exact ⟨_, σ1, S, rfl, a0, σ2, S2, a, b⟩
  rw [hl, Nat.zero_add] at q
  exact q
section
variable {body : MS} {ws : List Nat} {fin : SH → Bool} {g : MG}
/-- a loop that checks: it goes on, or it returns r -/
theorem forL_chk {α : Type} {σ : En} {S : SH} {r : D} (it : α → SH → Option D) (ok : α → Bool) (hf : fin S = true) : ∀ (xs : List α),
    (∀ x ∈ xs, ∃ d σ1, it x S = some d ∧ g d σ S = some (σ1, S) ∧ (ok x = true → ∃ σ2, (body σ1 S = some (.nx σ2, S) ∨ body σ1 S = some (.ct σ2, S)) ∧ wipeD ws σ2 = σ) ∧ (ok x = false → body σ1 S = some (.ret r, S))) →
    forL ws fin g body (xs.map it) σ S = if xs.all ok = true then some (.nx σ, S) else some (.ret r, S)
  | [], _ => by rw [List.map_nil, forL, if_pos hf]; rfl
  | x :: xs, h => by
    obtain ⟨d, σ1, h1, h2, h3, h4⟩ := h x List.mem_cons_self
    have ih := forL_chk it ok hf xs fun y hy => h y (List.mem_cons_of_mem _ hy)
    rw [List.map_cons, forL, h1]
    dsimp only
    rw [h2, bnd_some, List.all_cons]
    cases e : ok x with
    | true =>
      obtain ⟨σ2, h5, h6⟩ := h3 e
      rcases h5 with h5 | h5 <;> (rw [h5, bnd_some]; dsimp only; rw [h6, ih]; rfl)
    | false =>
      rw [h4 e, bnd_some]
      rfl
theorem rng_chk {σ : En} {S : SH} {r : D} {j : Nat} (ok : Nat → Bool) (n : Nat) (h : ∀ i, i < n → (ok i = true → ∃ σ2, (body (σ.set j (some (.p (.int (i : Int))))) S = some (.nx σ2, S) ∨ body (σ.set j (some (.p (.int (i : Int))))) S = some (.ct σ2, S)) ∧ wipeD ws σ2 = σ) ∧ (ok i = false → body (σ.set j (some (.p (.int (i : Int))))) S = some (.ret r, S))) :
    forL ws (srcN 0 n).fin (gNm j) body (srcN 0 n).items σ S = if (List.range n).all ok = true then some (.nx σ, S) else some (.ret r, S) :=
  forL_chk (g := gNm j) (fin := (srcN 0 n).fin) (fun (i : Nat) _ => some (.p (.int (0 + (i : Int))))) ok rfl (List.range n) fun i hi => ⟨_, _, rfl, rfl, by
    rw [Int.zero_add]
    exact h i (List.mem_range.mp hi)⟩
theorem p_chk {α : Type} {σ : En} {S : SH} {r : D} {j : Nat} (f : α → P) (ok : α → Bool) (xs : List α) (h : ∀ x ∈ xs, (ok x = true → ∃ σ2, (body (σ.set j (some (.p (f x)))) S = some (.nx σ2, S) ∨ body (σ.set j (some (.p (f x)))) S = some (.ct σ2, S)) ∧ wipeD ws σ2 = σ) ∧ (ok x = false → body (σ.set j (some (.p (f x)))) S = some (.ret r, S))) :
    forL ws (srcP (xs.map f)).fin (gNm j) body (srcP (xs.map f)).items σ S = if xs.all ok = true then some (.nx σ, S) else some (.ret r, S) := by
  have q := forL_chk (body := body) (ws := ws) (g := gNm j) (fin := (srcP (xs.map f)).fin) (σ := σ) (S := S) (r := r) (fun (x : α) _ => some (D.p (f x))) ok rfl xs fun x hx => ⟨_, _, rfl, rfl, h x hx⟩
  have e : (srcP (xs.map f)).items = xs.map fun (x : α) (_ : SH) => some (D.p (f x)) := by simp [srcP]
  rw [← e] at q
  exact q
theorem all_range {α : Type} (xs : List α) (ok : α → Bool) : ((List.range xs.length).all fun i => match xs[i]? with | some x => ok x | none => true) = xs.all ok := by
  rw [Bool.eq_iff_iff]
  simp only [List.all_eq_true, List.mem_range]
  constructor
  · intro h x hx
    obtain ⟨i, hi, rfl⟩ := List.getElem_of_mem hx
    have q := h i hi
    rw [List.getElem?_eq_getElem hi] at q
    exact q
  · intro h i hi
    rw [List.getElem?_eq_getElem hi]
    exact h _ (List.getElem_mem hi)
theorem r_chk {α : Type} {σ : En} {S : SH} {r : D} {j n : Nat} (f : α → D) (ok : α → Bool) (xs : List α) (hn : S.os[n]? = some (.lst (xs.map f))) (h : ∀ x ∈ xs, (ok x = true → ∃ σ2, (body (σ.set j (some (f x))) S = some (.nx σ2, S) ∨ body (σ.set j (some (f x))) S = some (.ct σ2, S)) ∧ wipeD ws σ2 = σ) ∧ (ok x = false → body (σ.set j (some (f x))) S = some (.ret r, S))) :
    forL ws (srcR n xs.length).fin (gNm j) body (srcR n xs.length).items σ S = if xs.all ok = true then some (.nx σ, S) else some (.ret r, S) := by
  have hlen : (xs.map f).length = xs.length := List.length_map _
  have hf : (srcR n xs.length).fin S = true := by
    rw [← hlen]
    exact fin_r hn
  have q := forL_chk (body := body) (ws := ws) (g := gNm j) (fin := (srcR n xs.length).fin) (σ := σ) (S := S) (r := r) (itemR n xs.length) (fun i => match xs[i]? with | some x => ok x | none => true) hf (List.range xs.length) fun i hi => by
    have h1 : i < xs.length := List.mem_range.mp hi
    have hd : xs[i]? = some xs[i] := List.getElem?_eq_getElem h1
    have hd2 : (xs.map f)[i]? = some (f xs[i]) := by rw [List.getElem?_map, hd]; rfl
    have ir := item_r (S := S) hn hd2
    rw [hlen] at ir
    refine ⟨f xs[i], _, ir, rfl, ?_⟩
    rw [hd]
    exact h _ (List.getElem_mem h1)
  rw [all_range] at q
  exact q
/-- a comprehension that changes nothing over a list that may change -/
theorem comp_rf {α : Type} {t : MT} {elt : ME} {σ : En} {S : SH} {j n : Nat} (fd : α → D) (fs : α → Bool) (fv : α → D) (xs : List α) (hl : xs.length ≤ sizeLine) (hn : S.os[n]? = some (.lst (xs.map fd))) (h : ∀ x ∈ xs, t (σ.set j (some (fd x))) S = some (fs x, S) ∧ (fs x = true → elt (σ.set j (some (fd x))) S = some (fv x, S))) :
    compL (srcR n xs.length).fin (gNm j) t elt σ (srcR n xs.length).items [] S = some ((xs.filter fs).map fv, S) := by
  have hlen : (xs.map fd).length = xs.length := List.length_map _
  have hf : (srcR n xs.length).fin S = true := by
    rw [← hlen]
    exact fin_r hn
  let at' : Nat → Option α := fun i => xs[i]?
  have cp := comp_all (t := t) (elt := elt) (g := gNm j) (fin := (srcR n xs.length).fin) (S := S) (σ := σ) (fun i : Nat => match xs[i]? with | some x => fs x | none => false) (fun i : Nat => match xs[i]? with | some x => fv x | none => .p .non) (itemR n xs.length) hf (List.range xs.length) [] (by rw [List.length_nil, Nat.zero_add, List.length_range]; exact hl) (fun i hi => by
    have h1 : i < xs.length := List.mem_range.mp hi
    have hd : xs[i]? = some xs[i] := List.getElem?_eq_getElem h1
    have hd2 : (xs.map fd)[i]? = some (fd xs[i]) := by rw [List.getElem?_map, hd]; rfl
    have ir := item_r (S := S) hn hd2
    rw [hlen] at ir
    refine ⟨fd xs[i], _, ir, rfl, ?_⟩
    rw [hd]
    exact h _ (List.getElem_mem h1))
  have ei : (srcR n xs.length).items = (List.range xs.length).map (itemR n xs.length) := rfl
  rw [← ei, List.nil_append] at cp
  rw [cp]
  congr 2
  have key : ∀ (k : Nat) (ys : List α), (∀ i, i < ys.length → xs[k + i]? = ys[i]?) → ((List.range' k ys.length).filter fun i : Nat => match xs[i]? with | some x => fs x | none => false).map (fun i : Nat => match xs[i]? with | some x => fv x | none => .p .non) = (ys.filter fs).map fv := by
    intro k ys
    induction ys generalizing k with
    | nil => intro _; rfl
    | cons y ys ih =>
      intro hy
      have h0 := hy 0 (by simp)
      rw [Nat.add_zero, List.getElem?_cons_zero] at h0
      have ih' := ih (k + 1) fun i hi => by
        have := hy (i + 1) (by simpa using hi)
        rw [List.getElem?_cons_succ] at this
        rw [← this]
        congr 1
        omega
      rw [List.length_cons, List.range'_succ]
      by_cases c : fs y = true
      · rw [List.filter_cons_of_pos (by rw [h0]; exact c), List.filter_cons_of_pos c, List.map_cons, List.map_cons, ih', h0]
      · rw [List.filter_cons_of_neg (by rw [h0]; exact c), List.filter_cons_of_neg c, ih']
  have := key 0 xs fun i hi => by rw [Nat.zero_add]
  rw [← List.range_eq_range'] at this
  exact this
end
end Pv
/-! a calculus for the computations: what holds behind them -/
namespace Pv
open PySem PySem.Spec PyProof.Rows L2
structure Tg {α : Type} (x : α) : Type where
def Ev {α : Type} (r : Option (α × SH)) (Q : α → SH → Prop) (_ : Tg Q) : Prop := ∃ a S, r = some (a, S) ∧ Q a S
def Hold (p : Prop) (_ : Tg p) : Prop := p
theorem Hold.i {p : Prop} {t : Tg p} (h : p) : Hold p t := h
/-- bnd, whose second part waits -/
def bl {α β : Type} (r : Option (α × SH)) (f : α → SH → Option (β × SH)) (_ : Tg f) : Option (β × SH) := bnd r f
def sel {α : Type} (b : Bool) (x y : α) (_ : Tg x) (_ : Tg y) : α := if b = true then x else y
def optL {α : Type} (o : Option SH) (f : SH → Option α) (_ : Tg f) : Option α := match o with
  | some S => f S
  | none => none
section
variable {α β : Type} {r : Option (α × SH)} {Q R : α → SH → Prop} {S S' : SH}
theorem bl_some (a : α) (S : SH) (f : α → SH → Option (β × SH)) (t : Tg f) : bl (some (a, S)) f t = f a S := id rfl
theorem sel_t (x y : α) (t : Tg x) (u : Tg y) : sel true x y t u = x := id rfl
theorem sel_f (x y : α) (t : Tg x) (u : Tg y) : sel false x y t u = y := id rfl
theorem optL_some (S : SH) (f : SH → Option α) (t : Tg f) : optL (some S) f t = f S := id rfl
theorem Ev.of {a : α} {t : Tg Q} (h : r = some (a, S)) (q : Q a S) : Ev r Q t := Exists.intro a (Exists.intro S ⟨h, q⟩)
theorem Ev.get {t : Tg Q} (h : Ev r Q t) : ∃ a S, r = some (a, S) ∧ Q a S := h
theorem Ev_some (a : α) (S : SH) (Q : α → SH → Prop) (t : Tg Q) : Ev (some (a, S)) Q t = Q a S := by
  refine propext ⟨fun h => ?_, fun q => Ev.of rfl q⟩
  obtain ⟨_, _, e, q⟩ := h.get
  cases e
  exact q
theorem Ev_bl (r : Option (α × SH)) (f : α → SH → Option (β × SH)) (t : Tg f) (Q : β → SH → Prop) (u : Tg Q) : Ev (bl r f t) Q u = Ev r (fun a S => Ev (f a S) Q ⟨⟩) ⟨⟩ := by
  cases r with
  | none =>
    refine propext ⟨fun h => ?_, fun h => ?_⟩
    · obtain ⟨_, _, e, q⟩ := h.get; cases e
    · obtain ⟨_, _, e, q⟩ := h.get; cases e
  | some p => obtain ⟨a, S⟩ := p; rw [bl_some, Ev_some]
theorem Ev.mono {t : Tg Q} {u : Tg R} (h : Ev r Q t) (m : ∀ a S, Q a S → R a S) : Ev r R u := let ⟨a, S, e, q⟩ := h.get; Ev.of e (m a S q)
theorem Ev.eq {a : α} {t} (h : Ev r (fun a' S' => a' = a ∧ S' = S) t) : r = some (a, S) := by
  obtain ⟨_, _, e, rfl, rfl⟩ := h.get
  exact e
theorem Ev.ex (h : Ev r (fun a' S' => R a' S' ∧ S' = S) ⟨⟩) : ∃ a, R a S ∧ r = some (a, S) := by
  obtain ⟨a, _, e, q, rfl⟩ := h.get
  exact ⟨a, q, e⟩
theorem Ev_if {b : Bool} {x y : Option (α × SH)} {t : Tg Q} {u v} (h1 : b = true → Ev x Q ⟨⟩) (h2 : b = false → Ev y Q ⟨⟩) : Ev (sel b x y u v) Q t := by
  cases b with
  | true => exact h1 rfl
  | false => exact h2 rfl
theorem Ev_fn {k n : Nat} {s1 : MS} {ds : List D} {Q : D → SH → Prop} {t : Tg Q} (h : ds.length = k) (e : Ev (s1 (startD n ds) ⟨S.os.length, S.os⟩) (fun f S1 => Ev (frameF S (some (f, S1))) Q ⟨⟩) ⟨⟩) : Ev (dFn k n s1 ds S) Q t := by
  rw [fn_at h]
  obtain ⟨f, S1, e1, q⟩ := e.get
  rw [e1]
  exact q
theorem Ev_fnL {k n : Nat} {s1 : MS} {ds : List D} {Q : D → SH → Prop} {t : Tg Q} (h : ds.length = k) (e : Ev (s1 (startD n ds) S) (fun f S1 => Ev (liveF (some (f, S1))) Q ⟨⟩) ⟨⟩) : Ev (dFnL k n s1 ds S) Q t := by
  rw [fnL_at h]
  obtain ⟨f, S1, e1, q⟩ := e.get
  rw [e1]
  exact q
end
/-! the combinators, read so -/
section
variable {f g : D → D → SH → Option (D × SH)} {u : D → SH → Option (D × SH)} {a b c : ME} {t t1 t2 : MT} {r : MA} {m : MF} {s1 s2 : MS} {σ : En} {S S' : SH}
theorem l_Var0 (d : D) : dVar 0 (some d :: σ) S = some (d, S) := id rfl
theorem l_VarS (n : Nat) (x : Option D) : dVar (n + 1) (x :: σ) S = dVar n σ S := id rfl
theorem l_Op : dOp f a b σ S = bl (a σ S) (fun x S1 => bl (b σ S1) (fun y S2 => f x y S2) ⟨⟩) ⟨⟩ := id rfl
theorem l_Un : dUn u a σ S = bl (a σ S) (fun x S1 => u x S1) ⟨⟩ := id rfl
theorem l_Test : dTest a σ S = bl (a σ S) toB ⟨⟩ := id rfl
theorem l_And : dAnd t1 t2 σ S = bl (t1 σ S) (fun t S1 => sel t (t2 σ S1) (some (false, S1)) ⟨⟩ ⟨⟩) ⟨⟩ := id rfl
theorem l_Or : dOr t1 t2 σ S = bl (t1 σ S) (fun t S1 => sel t (some (true, S1)) (t2 σ S1) ⟨⟩ ⟨⟩) ⟨⟩ := id rfl
theorem l_Not : dNot t σ S = bl (t σ S) (fun x S1 => some (!x, S1)) ⟨⟩ := id rfl
theorem l_NotV : dNotV a σ S = bl (a σ S) (fun d S1 => bl (toB d S1) (fun t S2 => some (.p (.bl (!t)), S2)) ⟨⟩) ⟨⟩ := id rfl
theorem l_AndV : dAndV a b σ S = bl (a σ S) (fun d S1 => bl (toB d S1) (fun t S2 => sel t (b σ S2) (some (.p (.bl false), S2)) ⟨⟩ ⟨⟩) ⟨⟩) ⟨⟩ := id rfl
theorem l_OrV : dOrV a b σ S = bl (a σ S) (fun d S1 => bl (toB d S1) (fun t S2 => sel t (some (.p (.bl true), S2)) (b σ S2) ⟨⟩ ⟨⟩) ⟨⟩) ⟨⟩ := id rfl
theorem l_IfE : dIfE t a b σ S = bl (t σ S) (fun t S1 => sel t (a σ S1) (b σ S1) ⟨⟩ ⟨⟩) ⟨⟩ := id rfl
theorem l_Cons : dCons a r σ S = bl (a σ S) (fun x S1 => bl (r σ S1) (fun xs S2 => some (x :: xs, S2)) ⟨⟩) ⟨⟩ := id rfl
theorem l_Call : dCall m r σ S = bl (r σ S) (fun xs S1 => m xs S1) ⟨⟩ := id rfl
theorem l_Seq : dSeq s1 s2 σ S = bl (s1 σ S) (seqK s2) ⟨⟩ := at_dSeq
theorem l_Drop : dDrop a σ S = bl (a σ S) (fun _ S1 => some (.nx σ, S1)) ⟨⟩ := id rfl
theorem l_Ret : dRet a σ S = bl (a σ S) (fun d S1 => some (.ret d, S1)) ⟨⟩ := id rfl
theorem l_If : dIf t s1 s2 σ S = bl (t σ S) (fun t S1 => sel t (s1 σ S1) (s2 σ S1) ⟨⟩ ⟨⟩) ⟨⟩ := id rfl
theorem l_Set (i : Nat) : dSet i a σ S = bl (a σ S) (fun d S1 => some (.nx (σ.set i (some d)), S1)) ⟨⟩ := id rfl
theorem l_Tup : dTup r σ S = bl (r σ S) (fun ds S1 => newT ds S1) ⟨⟩ := id rfl
theorem l_Lst (live : Bool) : dLst live r σ S = bl (r σ S) (fun ds S1 => newL live ds S1) ⟨⟩ := id rfl
theorem l_Tru : dTru a σ S = bl (a σ S) truD ⟨⟩ := id rfl
theorem l_Chain : dChain f g a b c σ S = bl (a σ S) (fun x S1 => bl (b σ S1) (fun y S2 => bl (f x y S2) (fun z S3 => bl (toB z S3) (fun t S4 => sel t (bl (c σ S4) (fun w S5 => g y w S5) ⟨⟩) (some (.p (.bl false), S4)) ⟨⟩ ⟨⟩) ⟨⟩) ⟨⟩) ⟨⟩) ⟨⟩ := id rfl
def methL (k : Nat) (nm : Str) (m : MF) (r : MA) (σ : En) (d : D) (S1 : SH) : Option (D × SH) := match fldsOf d S1 with
  | some (c', fs) => if c' = k ∧ fs.lookup nm = none then bnd (r σ S1) fun xs S2 => m (d :: xs) S2 else none
  | none => none
theorem l_Meth (k : Nat) (nm : Str) : dMeth k nm m a r σ S = bl (a σ S) (fun d S1 => methL k nm m r σ d S1) ⟨⟩ := id rfl
theorem meth_p {k : Nat} {nm : Str} {gs : List (Str × P)} (h : (gs.map fun p => (p.1, D.p p.2)).lookup nm = none) : methL k nm m r σ (.p (.ins k gs)) S = bl (r σ S) (fun xs S2 => m (.p (.ins k gs) :: xs) S2) ⟨⟩ := by
  unfold methL
  rw [fldsOf_p]
  exact if_pos ⟨rfl, h⟩
theorem meth_r {k n : Nat} {nm : Str} {fs : List (Str × D)} (e : S.os[n]? = some (.ins k fs)) (h : fs.lookup nm = none) : methL k nm m r σ (.ref n) S = bl (r σ S) (fun xs S2 => m (.ref n :: xs) S2) ⟨⟩ := by
  have q : fldsOf (.ref n) S = some (k, fs) := by
    unfold fldsOf
    dsimp only
    rw [e]
  unfold methL
  rw [q]
  exact if_pos ⟨rfl, h⟩
theorem l_BM (T : String) : dBM T m a r σ S = bl (a σ S) (fun d S1 => sel (isTy T d S1) (bl (r σ S1) (fun ds S2 => m (d :: ds) S2) ⟨⟩) none ⟨⟩ ⟨⟩) ⟨⟩ := id rfl
theorem l_Asg {gg : MG} : dAsg a gg σ S = bl (a σ S) (fun d S1 => bl (gg d σ S1) (fun σ2 S2 => some (.nx σ2, S2)) ⟨⟩) ⟨⟩ := id rfl
theorem l_gSb (d : D) : gSb a b d σ S = bl (a σ S) (fun x S1 => bl (b σ S1) (fun y S2 => optL (setIx x y d S2) (fun S3 => some (σ, S3)) ⟨⟩) ⟨⟩) ⟨⟩ := id rfl
theorem l_gCn {g1 : MG} {g2 : MGs} (d : D) (ds : List D) : gCn g1 g2 (d :: ds) σ S = bl (g1 d σ S) (fun σ1 S1 => g2 ds σ1 S1) ⟨⟩ := id rfl
theorem gT0 {g2 : MGs} : gTp 0 g2 (.p (.tup [])) σ S = g2 [] σ S := id rfl
theorem gT1 {g2 : MGs} (a : P) : gTp 1 g2 (.p (.tup [a])) σ S = g2 [.p a] σ S := id rfl
theorem gT2 {g2 : MGs} (a b : P) : gTp 2 g2 (.p (.tup [a, b])) σ S = g2 [.p a, .p b] σ S := id rfl
theorem gT3 {g2 : MGs} (a b c : P) : gTp 3 g2 (.p (.tup [a, b, c])) σ S = g2 [.p a, .p b, .p c] σ S := id rfl
theorem gT4 {g2 : MGs} (a b c d : P) : gTp 4 g2 (.p (.tup [a, b, c, d])) σ S = g2 [.p a, .p b, .p c, .p d] σ S := id rfl
theorem l_For (ws : List Nat) {mi : MI} {gg : MG} : dFor ws mi gg s1 σ S = bl (mi σ S) (fun src S1 => forL ws src.fin gg s1 src.items (wipeD ws σ) S1) ⟨⟩ := id rfl
theorem l_Comp (live : Bool) {mi : MI} {gg : MG} (vs : List Nat) : dComp live mi gg t a vs σ S = bl (mi σ S) (fun src S1 => bl (compL src.fin gg t a (wipeD vs σ) src.items [] S1) (fun ds S2 => newL live ds S2) ⟨⟩) ⟨⟩ := id rfl
theorem l_It : dIt a σ S = bl (a σ S) srcOf ⟨⟩ := id rfl
theorem l_Rng1 : dRng1 r σ S = bl (r σ S) rng1 ⟨⟩ := id rfl
theorem l_Rng2 : dRng2 r σ S = bl (r σ S) rng2 ⟨⟩ := id rfl
theorem l_SetF {cs : List Nat} {f : Str} : dSetF cs f a b σ S = bl (b σ S) (fun y S1 => bl (a σ S1) (fun x S2 => optL (setFld cs f x y S2) (fun S3 => some (.nx σ, S3)) ⟨⟩) ⟨⟩) ⟨⟩ := id rfl
def slK (f : Int → SH → Option (D × SH)) : D → SH → Option (D × SH)
  | .p (.int i), S => f i S
  | _, _ => none
theorem slK_i (f : Int → SH → Option (D × SH)) (i : Int) : slK f (.p (.int i)) S = f i S := id rfl
theorem l_SlN (live : Bool) : dSl live a none none σ S = bl (a σ S) (fun d S1 => fSl live d none none S1) ⟨⟩ := id rfl
theorem l_SlH (live : Bool) : dSl live a none (some b) σ S = bl (a σ S) (fun d S1 => bl (b σ S1) (slK fun i T => fSl live d none (some i) T) ⟨⟩) ⟨⟩ := by
  show bnd (a σ S) _ = bnd (a σ S) _
  congr 1
  funext d S1
  show bnd (bnd (b σ S1) _) _ = _
  cases b σ S1 with
  | none => rfl
  | some q =>
    obtain ⟨y, T⟩ := q
    cases y with
    | ref n => rfl
    | p y => cases y <;> rfl
theorem l_SlL (live : Bool) : dSl live a (some b) none σ S = bl (a σ S) (fun d S1 => bl (b σ S1) (slK fun i T => fSl live d (some i) none T) ⟨⟩) ⟨⟩ := by
  show bnd (a σ S) _ = bnd (a σ S) _
  congr 1
  funext d S1
  show bnd (bnd (b σ S1) _) _ = _
  cases b σ S1 with
  | none => rfl
  | some q =>
    obtain ⟨y, T⟩ := q
    cases y with
    | ref n => rfl
    | p y => cases y <;> rfl
theorem l_SlB (live : Bool) : dSl live a (some b) (some c) σ S = bl (a σ S) (fun d S1 => bl (b σ S1) (slK fun i T => bl (c σ T) (slK fun j T2 => fSl live d (some i) (some j) T2) ⟨⟩) ⟨⟩) ⟨⟩ := by
  show bnd (a σ S) _ = bnd (a σ S) _
  congr 1
  funext d S1
  show bnd (bnd (b σ S1) _) _ = _
  cases b σ S1 with
  | none => rfl
  | some q =>
    obtain ⟨y, T⟩ := q
    cases y with
    | ref n => rfl
    | p y =>
      cases y <;> first | rfl | skip
      show bnd (bnd (c σ T) _) _ = bl (c σ T) _ ⟨⟩
      cases c σ T with
      | none => rfl
      | some q =>
        obtain ⟨y, T⟩ := q
        cases y with
        | ref n => rfl
        | p y => cases y <;> rfl
theorem l_Wh {ws : List Nat} {f : Nat} : dWhile ws f t s1 σ S = whL ws t s1 f (wipeD ws σ) S := id rfl
end
/-- behind a turn -/
def stepQ (ws : List Nat) (A : En → SH → Prop) (Q : Fl → SH → Prop) : Fl → SH → Prop
  | .nx σ2, S2 => Hold (A (wipeD ws σ2) S2) ⟨⟩
  | .ct σ2, S2 => Hold (A (wipeD ws σ2) S2) ⟨⟩
  | .brk σ2, S2 => Q (.nx (wipeD ws σ2)) S2
  | .ret d, S2 => Q (.ret d) S2
section
variable {ws : List Nat} {A : En → SH → Prop} {Q : Fl → SH → Prop} {S : SH} {body : MS} {g : MG} {fin : SH → Bool}
theorem stepQ_nx (σ : En) : stepQ ws A Q (.nx σ) S = Hold (A (wipeD ws σ) S) ⟨⟩ := id rfl
theorem stepQ_ct (σ : En) : stepQ ws A Q (.ct σ) S = Hold (A (wipeD ws σ) S) ⟨⟩ := id rfl
theorem stepQ_brk (σ : En) : stepQ ws A Q (.brk σ) S = Q (.nx (wipeD ws σ)) S := id rfl
theorem stepQ_ret (d : D) : stepQ ws A Q (.ret d) S = Q (.ret d) S := id rfl
theorem Ev_forL (J : Nat → En → SH → Prop) : ∀ (items : List (SH → Option D)) (k : Nat) (σ : En) (S : SH), J k σ S → (∀ σ S, J (k + items.length) σ S → fin S = true ∧ Q (.nx σ) S) →
    (∀ i it σ S, items[i]? = some it → J (k + i) σ S → ∃ d σ1 S1, it S = some d ∧ g d σ S = some (σ1, S1) ∧ Ev (body σ1 S1) (stepQ ws (J (k + i + 1)) Q) ⟨⟩) →
    Ev (forL ws fin g body items σ S) Q ⟨⟩
  | [], k, σ, S, hj, hf, _ => by
    obtain ⟨h1, h2⟩ := hf σ S hj
    rw [forL, if_pos h1, Ev_some]
    exact h2
  | it :: items, k, σ, S, hj, hf, h => by
    obtain ⟨d, σ1, S1, h1, h2, e⟩ := h 0 it σ S rfl hj
    obtain ⟨f, S2, h3, h4⟩ := e.get
    have e : k + (it :: items).length = (k + 1) + items.length := by rw [List.length_cons]; omega
    rw [e] at hf
    have ih := fun σ S hj => Ev_forL J items (k + 1) σ S hj hf fun i it' σ S hi hj => by
      have e2 : k + 1 + i = k + (i + 1) := by omega
      rw [e2] at hj ⊢
      exact h (i + 1) it' σ S (by simpa using hi) hj
    rw [forL, h1]
    dsimp only
    rw [h2, bnd_some, h3, bnd_some]
    cases f with
    | nx σ2 => exact ih _ _ h4
    | ct σ2 => exact ih _ _ h4
    | brk σ2 => exact Ev.of rfl h4
    | ret d => exact Ev.of rfl h4
/-- a loop over a range from 0 -/
theorem Ev_rng {n j : Nat} {σ : En} (J : Nat → En → SH → Prop) (h0 : J 0 σ S)
    (hs : ∀ (i : Nat) σ S, i < n → J i σ S → Ev (body (σ.set j (some (.p (.int (i : Int))))) S) (stepQ ws (J (i + 1)) Q) ⟨⟩)
    (he : ∀ σ S, J n σ S → Q (.nx σ) S) : Ev (forL ws (srcN 0 n).fin (gNm j) body (srcN 0 n).items σ S) Q ⟨⟩ := by
  have hl : (srcN 0 n).items.length = n := by simp [srcN]
  refine Ev_forL J (srcN 0 n).items 0 σ S h0 (fun σ S hj => ⟨rfl, he σ S ?_⟩) fun i it σ S hi hj => ?_
  · rw [hl, Nat.zero_add] at hj; exact hj
  · simp only [srcN, List.getElem?_map] at hi
    cases e : (List.range n)[i]? with
    | none => rw [e] at hi; cases hi
    | some i' =>
      rw [e] at hi
      cases hi
      obtain ⟨h1, h2⟩ := List.getElem?_eq_some_iff.mp e
      rw [List.getElem_range] at h2
      subst h2
      rw [List.length_range] at h1
      rw [Nat.zero_add] at hj ⊢
      have q := hs i σ S h1 hj
      rw [← Int.zero_add (i : Int)] at q
      exact ⟨_, _, _, rfl, rfl, q⟩
/-- a loop over a list of data -/
theorem Ev_p {α : Type} {f : α → P} {xs : List α} {σ : En} (J : Nat → En → SH → Prop) (h0 : J 0 σ S)
    (hs : ∀ (i : Nat) x σ S, xs[i]? = some x → J i σ S → ∃ σ1, g (.p (f x)) σ S = some (σ1, S) ∧ Ev (body σ1 S) (stepQ ws (J (i + 1)) Q) ⟨⟩)
    (he : ∀ σ S, J xs.length σ S → Q (.nx σ) S) : Ev (forL ws (srcP (xs.map f)).fin g body (srcP (xs.map f)).items σ S) Q ⟨⟩ := by
  have hl : (srcP (xs.map f)).items.length = xs.length := by simp [srcP]
  refine Ev_forL J (srcP (xs.map f)).items 0 σ S h0 (fun σ S hj => ⟨rfl, he σ S ?_⟩) fun i it σ S hi hj => ?_
  · rw [hl, Nat.zero_add] at hj; exact hj
  · simp only [srcP, List.getElem?_map] at hi
    cases e : xs[i]? with
    | none => rw [e] at hi; cases hi
    | some x =>
      rw [e] at hi
      cases hi
      rw [Nat.zero_add] at hj ⊢
      obtain ⟨σ1, h1, q⟩ := hs i x σ S e hj
      exact ⟨_, σ1, S, rfl, h1, q⟩
/-- .. by a plain name -/
theorem Ev_pn {α : Type} {f : α → P} {xs : List α} {σ : En} {j : Nat} (J : Nat → En → SH → Prop) (h0 : J 0 σ S)
    (hs : ∀ (i : Nat) x σ S, xs[i]? = some x → J i σ S → Ev (body (σ.set j (some (.p (f x)))) S) (stepQ ws (J (i + 1)) Q) ⟨⟩)
    (he : ∀ σ S, J xs.length σ S → Q (.nx σ) S) : Ev (forL ws (srcP (xs.map f)).fin (gNm j) body (srcP (xs.map f)).items σ S) Q ⟨⟩ :=
  Ev_p J h0 (fun i x σ S h hj => ⟨_, rfl, hs i x σ S h hj⟩) he
/-- a loop over a list that may change, and does not -/
theorem Ev_r {α : Type} {fd : α → D} {xs : List α} {σ : En} {n : Nat} (J : Nat → En → SH → Prop) (h0 : J 0 σ S) (hk : ∀ i σ S, J i σ S → S.os[n]? = some (.lst (xs.map fd)))
    (hs : ∀ (i : Nat) x σ S, xs[i]? = some x → J i σ S → ∃ σ1, g (fd x) σ S = some (σ1, S) ∧ Ev (body σ1 S) (stepQ ws (J (i + 1)) Q) ⟨⟩)
    (he : ∀ σ S, J xs.length σ S → Q (.nx σ) S) : Ev (forL ws (srcR n xs.length).fin g body (srcR n xs.length).items σ S) Q ⟨⟩ := by
  have hlen : (xs.map fd).length = xs.length := List.length_map _
  have hl : (srcR n xs.length).items.length = xs.length := by simp [srcR]
  refine Ev_forL J (srcR n xs.length).items 0 σ S h0 (fun σ S hj => ?_) fun i it σ S hi hj => ?_
  · rw [hl, Nat.zero_add] at hj
    refine ⟨?_, he σ S hj⟩
    rw [← hlen]
    exact fin_r (hk _ σ S hj)
  · simp only [srcR, List.getElem?_map] at hi
    cases e : (List.range xs.length)[i]? with
    | none => rw [e] at hi; cases hi
    | some i' =>
      rw [e] at hi
      cases hi
      obtain ⟨h1, h2⟩ := List.getElem?_eq_some_iff.mp e
      rw [List.getElem_range] at h2
      subst h2
      rw [List.length_range] at h1
      rw [Nat.zero_add] at hj ⊢
      have hd : xs[i]? = some xs[i] := List.getElem?_eq_getElem h1
      obtain ⟨σ1, a0, q⟩ := hs i xs[i] σ S hd hj
      have ir := item_r (hk _ _ _ hj) (show (xs.map fd)[i]? = some (fd xs[i]) by rw [List.getElem?_map, hd]; rfl)
      rw [hlen] at ir
      exact ⟨_, σ1, S, ir, a0, q⟩
/-- while -/
theorem Ev_wh {t : MT} (J : Nat → En → SH → Prop) : ∀ (fuel n : Nat) (σ : En) (S : SH), n < fuel → J n σ S →
    (∀ n σ S, J n σ S → Ev (t σ S) (fun b S1 => sel b (Ev (body σ S1) (stepQ ws (fun σ2 S2 => ∃ m, m < n ∧ J m σ2 S2) Q) ⟨⟩) (Q (.nx σ) S1) ⟨⟩ ⟨⟩) ⟨⟩) →
    Ev (whL ws t body fuel σ S) Q ⟨⟩
  | 0, _, _, _, h, _, _ => absurd h (Nat.not_lt_zero _)
  | fuel + 1, n, σ, S, hn, hj, hs => by
    obtain ⟨b, S1, h1, h2⟩ := (hs n σ S hj).get
    rw [whL, h1, bnd_some]
    cases b with
    | false => exact Ev.of rfl h2
    | true =>
      obtain ⟨f, S2, h3, h4⟩ := Ev.get (t := ⟨⟩) h2
      rw [if_pos rfl, h3, bnd_some]
      have ih := fun σ2 (h : ∃ m, m < n ∧ J m σ2 S2) => let ⟨m, hm, q⟩ := h; Ev_wh J fuel m σ2 S2 (by omega) q hs
      cases f with
      | nx σ2 => exact ih _ h4
      | ct σ2 => exact ih _ h4
      | brk σ2 => exact Ev.of rfl h4
      | ret d => exact Ev.of rfl h4
end
/-! comprehensions that change nothing -/
section
variable {σ : En} {S : SH} {j : Nat} {t : MT} {elt : ME} {g : MG} {Q : List D → SH → Prop}
theorem Ev_cp {α : Type} {f : α → P} {xs : List α} (fs : α → Bool) (fv : α → D) (hl : xs.length ≤ sizeLine)
    (h : ∀ x ∈ xs, ∃ σ1, g (.p (f x)) σ S = some (σ1, S) ∧ Ev (t σ1 S) (fun b S' => b = fs x ∧ S' = S) ⟨⟩ ∧ (fs x = true → Ev (elt σ1 S) (fun d S' => d = fv x ∧ S' = S) ⟨⟩))
    (q : Q ((xs.filter fs).map fv) S) : Ev (compL (srcP (xs.map f)).fin g t elt σ (srcP (xs.map f)).items [] S) Q ⟨⟩ := by
  have z := comp_all (t := t) (elt := elt) (g := g) (fin := (srcP (xs.map f)).fin) (S := S) (σ := σ) fs fv (fun x _ => some (D.p (f x))) rfl xs [] (by simpa using hl) fun x hx => by
    obtain ⟨σ1, h1, h2, h3⟩ := h x hx
    exact ⟨_, σ1, rfl, h1, h2.eq, fun c => (h3 c).eq⟩
  rw [List.nil_append] at z
  have e : (srcP (xs.map f)).items = xs.map fun (x : α) (_ : SH) => some (D.p (f x)) := by simp [srcP]
  rw [← e] at z
  exact Ev.of z q
/-- .. without an if, by a plain name -/
theorem Ev_cpn {α : Type} {f : α → P} {xs : List α} (fv : α → D) (hl : xs.length ≤ sizeLine)
    (h : ∀ x ∈ xs, Ev (elt (σ.set j (some (.p (f x)))) S) (fun d S' => d = fv x ∧ S' = S) ⟨⟩)
    (q : Q (xs.map fv) S) : Ev (compL (srcP (xs.map f)).fin (gNm j) dYes elt σ (srcP (xs.map f)).items [] S) Q ⟨⟩ :=
  Ev_cp (fun _ => true) fv hl (fun x hx => ⟨_, rfl, Ev.of rfl ⟨rfl, rfl⟩, fun _ => h x hx⟩) (by rw [List.filter_eq_self.mpr fun _ _ => rfl]; exact q)
/-- .. with an if, by a plain name -/
theorem Ev_cpf {α : Type} {f : α → P} {xs : List α} (fs : α → Bool) (fv : α → D) (hl : xs.length ≤ sizeLine)
    (h : ∀ x ∈ xs, Ev (t (σ.set j (some (.p (f x)))) S) (fun b S' => b = fs x ∧ S' = S) ⟨⟩ ∧ (fs x = true → Ev (elt (σ.set j (some (.p (f x)))) S) (fun d S' => d = fv x ∧ S' = S) ⟨⟩))
    (q : Q ((xs.filter fs).map fv) S) : Ev (compL (srcP (xs.map f)).fin (gNm j) t elt σ (srcP (xs.map f)).items [] S) Q ⟨⟩ :=
  Ev_cp fs fv hl (fun x hx => ⟨_, rfl, h x hx⟩) q
/-- .. over a range from 0 -/
theorem Ev_crg {n : Nat} (fs : Nat → Bool) (fv : Nat → D) (hl : n ≤ sizeLine)
    (h : ∀ i, i < n → Ev (t (σ.set j (some (.p (.int (i : Int))))) S) (fun b S' => b = fs i ∧ S' = S) ⟨⟩ ∧ (fs i = true → Ev (elt (σ.set j (some (.p (.int (i : Int))))) S) (fun d S' => d = fv i ∧ S' = S) ⟨⟩))
    (q : Q (((List.range n).filter fs).map fv) S) : Ev (compL (srcN 0 n).fin (gNm j) t elt σ (srcN 0 n).items [] S) Q ⟨⟩ :=
  Ev.of (comp_rng fs fv n hl fun i hi => ⟨(h i hi).1.eq, fun c => ((h i hi).2 c).eq⟩) q
theorem Ev_cr0 {n : Nat} (fv : Nat → D) (hl : n ≤ sizeLine)
    (h : ∀ i, i < n → Ev (elt (σ.set j (some (.p (.int (i : Int))))) S) (fun d S' => d = fv i ∧ S' = S) ⟨⟩)
    (q : Q ((List.range n).map fv) S) : Ev (compL (srcN 0 n).fin (gNm j) dYes elt σ (srcN 0 n).items [] S) Q ⟨⟩ :=
  Ev_crg (fun _ => true) fv hl (fun i hi => ⟨Ev.of rfl ⟨rfl, rfl⟩, fun _ => h i hi⟩) (by rw [List.filter_eq_self.mpr fun _ _ => rfl]; exact q)
/-- .. over a list that may change -/
theorem Ev_crf {α : Type} {n : Nat} {fd : α → D} {xs : List α} (fs : α → Bool) (fv : α → D) (hl : xs.length ≤ sizeLine) (hn : S.os[n]? = some (.lst (xs.map fd)))
    (h : ∀ x ∈ xs, Ev (t (σ.set j (some (fd x))) S) (fun b S' => b = fs x ∧ S' = S) ⟨⟩ ∧ (fs x = true → Ev (elt (σ.set j (some (fd x))) S) (fun d S' => d = fv x ∧ S' = S) ⟨⟩))
    (q : Q ((xs.filter fs).map fv) S) : Ev (compL (srcR n xs.length).fin (gNm j) t elt σ (srcR n xs.length).items [] S) Q ⟨⟩ :=
  Ev.of (comp_rf fd fs fv xs hl hn fun x hx => ⟨(h x hx).1.eq, fun c => ((h x hx).2 c).eq⟩) q
end
/-! new tuples and lists of data -/
theorem line_sm {n : Nat} (h : n ≤ 1000) : n ≤ sizeLine := Nat.le_trans h (Nat.le_trans (by decide : 1000 ≤ 1000000) line_ge)
section
variable (a b c d e f : P) (S : SH)
theorem newT0 : newT [] S = some (.p (.tup []), S) := newT_p (S := S) [] (line_sm (by simp))
theorem newT1 : newT [.p a] S = some (.p (.tup [a]), S) := newT_p (S := S) [a] (line_sm (by simp))
theorem newT2 : newT [.p a, .p b] S = some (.p (.tup [a, b]), S) := newT_p (S := S) [a, b] (line_sm (by simp))
theorem newT3 : newT [.p a, .p b, .p c] S = some (.p (.tup [a, b, c]), S) := newT_p (S := S) [a, b, c] (line_sm (by simp))
theorem newT4 : newT [.p a, .p b, .p c, .p d] S = some (.p (.tup [a, b, c, d]), S) := newT_p (S := S) [a, b, c, d] (line_sm (by simp))
theorem newT5 : newT [.p a, .p b, .p c, .p d, .p e] S = some (.p (.tup [a, b, c, d, e]), S) := newT_p (S := S) [a, b, c, d, e] (line_sm (by simp))
theorem newT6 : newT [.p a, .p b, .p c, .p d, .p e, .p f] S = some (.p (.tup [a, b, c, d, e, f]), S) := newT_p (S := S) [a, b, c, d, e, f] (line_sm (by simp))
theorem newL0 : newL false [] S = some (.p (.lst []), S) := newL_f (S := S) [] (line_sm (by simp))
theorem newL1 : newL false [.p a] S = some (.p (.lst [a]), S) := newL_f (S := S) [a] (line_sm (by simp))
theorem newL2 : newL false [.p a, .p b] S = some (.p (.lst [a, b]), S) := newL_f (S := S) [a, b] (line_sm (by simp))
theorem newL3 : newL false [.p a, .p b, .p c] S = some (.p (.lst [a, b, c]), S) := newL_f (S := S) [a, b, c] (line_sm (by simp))
theorem newL4 : newL false [.p a, .p b, .p c, .p d] S = some (.p (.lst [a, b, c, d]), S) := newL_f (S := S) [a, b, c, d] (line_sm (by simp))
theorem newL5 : newL false [.p a, .p b, .p c, .p d, .p e] S = some (.p (.lst [a, b, c, d, e]), S) := newL_f (S := S) [a, b, c, d, e] (line_sm (by simp))
theorem newL6 : newL false [.p a, .p b, .p c, .p d, .p e, .p f] S = some (.p (.lst [a, b, c, d, e, f]), S) := newL_f (S := S) [a, b, c, d, e, f] (line_sm (by simp))
theorem src_l (ps : List P) : srcOf (.p (.lst ps)) S = some (srcP ps, S) := id rfl
theorem src_t (ps : List P) : srcOf (.p (.tup ps)) S = some (srcP ps, S) := id rfl
theorem newM {α : Type} (f : α → P) (xs : List α) (h : xs.length ≤ sizeLine) : newL false (xs.map fun x => .p (f x)) S = some (.p (.lst (xs.map f)), S) := by
  have e : (xs.map fun x => D.p (f x)) = (xs.map f).map D.p := by rw [List.map_map]; rfl
  rw [e]
  exact newL_f _ (by rw [List.length_map]; exact h)
end
theorem fSub_i (i j : Int) (S : SH) : fSub (.p (.int i)) (.p (.int j)) S = some (.p (.int (i - j)), S) := id rfl
theorem fLt_i (i j : Int) (S : SH) : fLt (.p (.int i)) (.p (.int j)) S = some (.p (.bl (decide (i < j))), S) := id rfl
theorem fLe_i (i j : Int) (S : SH) : fLe (.p (.int i)) (.p (.int j)) S = some (.p (.bl (decide (i ≤ j))), S) := id rfl
theorem fGt_i (i j : Int) (S : SH) : fGt (.p (.int i)) (.p (.int j)) S = some (.p (.bl (decide (j < i))), S) := id rfl
theorem fGe_i (i j : Int) (S : SH) : fGe (.p (.int i)) (.p (.int j)) S = some (.p (.bl (decide (j ≤ i))), S) := id rfl
theorem fMod_i {i j : Int} (h : 0 < j) (S : SH) : fMod (.p (.int i)) (.p (.int j)) S = some (.p (.int (i % j)), S) := (fII_eq _ _ _ _ S).trans (if_pos (decide_eq_true h))
theorem fDiv_i {i j : Int} (h : 0 < j) (h2 : j < 1000000) (S : SH) : fDiv (.p (.int i)) (.p (.int j)) S = some (.p (.int (i / j)), S) := (fII_eq _ _ _ _ S).trans (if_pos (divOk_c h (by omega)))
theorem fMul_li {i j : Int} (h : i.natAbs < 1000000) (S : SH) : fMul (.p (.int i)) (.p (.int j)) S = some (.p (.int (i * j)), S) := (fII_eq _ _ _ _ S).trans (if_pos (mulOk_l (by omega)))
theorem fMul_ri {i j : Int} (h : j.natAbs < 1000000) (S : SH) : fMul (.p (.int i)) (.p (.int j)) S = some (.p (.int (i * j)), S) := (fII_eq _ _ _ _ S).trans (if_pos (mulOk_r (by omega)))
theorem mod2 (i : Int) (S : SH) : fMod (.p (.int i)) (.p (.int 2)) S = some (.p (.int (i % 2)), S) := fMod_i (by decide) S
theorem mod3 (i : Int) (S : SH) : fMod (.p (.int i)) (.p (.int 3)) S = some (.p (.int (i % 3)), S) := fMod_i (by decide) S
theorem mod4 (i : Int) (S : SH) : fMod (.p (.int i)) (.p (.int 4)) S = some (.p (.int (i % 4)), S) := fMod_i (by decide) S
theorem mod5 (i : Int) (S : SH) : fMod (.p (.int i)) (.p (.int 5)) S = some (.p (.int (i % 5)), S) := fMod_i (by decide) S
theorem mod6 (i : Int) (S : SH) : fMod (.p (.int i)) (.p (.int 6)) S = some (.p (.int (i % 6)), S) := fMod_i (by decide) S
theorem mod7 (i : Int) (S : SH) : fMod (.p (.int i)) (.p (.int 7)) S = some (.p (.int (i % 7)), S) := fMod_i (by decide) S
theorem mod8 (i : Int) (S : SH) : fMod (.p (.int i)) (.p (.int 8)) S = some (.p (.int (i % 8)), S) := fMod_i (by decide) S
theorem mod10 (i : Int) (S : SH) : fMod (.p (.int i)) (.p (.int 10)) S = some (.p (.int (i % 10)), S) := fMod_i (by decide) S
theorem mod11 (i : Int) (S : SH) : fMod (.p (.int i)) (.p (.int 11)) S = some (.p (.int (i % 11)), S) := fMod_i (by decide) S
theorem mod12 (i : Int) (S : SH) : fMod (.p (.int i)) (.p (.int 12)) S = some (.p (.int (i % 12)), S) := fMod_i (by decide) S
theorem mod13 (i : Int) (S : SH) : fMod (.p (.int i)) (.p (.int 13)) S = some (.p (.int (i % 13)), S) := fMod_i (by decide) S
theorem mod16 (i : Int) (S : SH) : fMod (.p (.int i)) (.p (.int 16)) S = some (.p (.int (i % 16)), S) := fMod_i (by decide) S
theorem mod24 (i : Int) (S : SH) : fMod (.p (.int i)) (.p (.int 24)) S = some (.p (.int (i % 24)), S) := fMod_i (by decide) S
theorem div2 (i : Int) (S : SH) : fDiv (.p (.int i)) (.p (.int 2)) S = some (.p (.int (i / 2)), S) := fDiv_i (by decide) (by decide) S
theorem div3 (i : Int) (S : SH) : fDiv (.p (.int i)) (.p (.int 3)) S = some (.p (.int (i / 3)), S) := fDiv_i (by decide) (by decide) S
theorem div4 (i : Int) (S : SH) : fDiv (.p (.int i)) (.p (.int 4)) S = some (.p (.int (i / 4)), S) := fDiv_i (by decide) (by decide) S
theorem div5 (i : Int) (S : SH) : fDiv (.p (.int i)) (.p (.int 5)) S = some (.p (.int (i / 5)), S) := fDiv_i (by decide) (by decide) S
theorem div6 (i : Int) (S : SH) : fDiv (.p (.int i)) (.p (.int 6)) S = some (.p (.int (i / 6)), S) := fDiv_i (by decide) (by decide) S
theorem div8 (i : Int) (S : SH) : fDiv (.p (.int i)) (.p (.int 8)) S = some (.p (.int (i / 8)), S) := fDiv_i (by decide) (by decide) S
theorem div16 (i : Int) (S : SH) : fDiv (.p (.int i)) (.p (.int 16)) S = some (.p (.int (i / 16)), S) := fDiv_i (by decide) (by decide) S
theorem div24 (i : Int) (S : SH) : fDiv (.p (.int i)) (.p (.int 24)) S = some (.p (.int (i / 24)), S) := fDiv_i (by decide) (by decide) S
theorem mull2 (i : Int) (S : SH) : fMul (.p (.int 2)) (.p (.int i)) S = some (.p (.int (2 * i)), S) := fMul_li (by decide) S
theorem mull3 (i : Int) (S : SH) : fMul (.p (.int 3)) (.p (.int i)) S = some (.p (.int (3 * i)), S) := fMul_li (by decide) S
theorem mull4 (i : Int) (S : SH) : fMul (.p (.int 4)) (.p (.int i)) S = some (.p (.int (4 * i)), S) := fMul_li (by decide) S
theorem mull5 (i : Int) (S : SH) : fMul (.p (.int 5)) (.p (.int i)) S = some (.p (.int (5 * i)), S) := fMul_li (by decide) S
theorem mull6 (i : Int) (S : SH) : fMul (.p (.int 6)) (.p (.int i)) S = some (.p (.int (6 * i)), S) := fMul_li (by decide) S
theorem mull7 (i : Int) (S : SH) : fMul (.p (.int 7)) (.p (.int i)) S = some (.p (.int (7 * i)), S) := fMul_li (by decide) S
theorem mull8 (i : Int) (S : SH) : fMul (.p (.int 8)) (.p (.int i)) S = some (.p (.int (8 * i)), S) := fMul_li (by decide) S
theorem mull16 (i : Int) (S : SH) : fMul (.p (.int 16)) (.p (.int i)) S = some (.p (.int (16 * i)), S) := fMul_li (by decide) S
theorem mull9973 (i : Int) (S : SH) : fMul (.p (.int 9973)) (.p (.int i)) S = some (.p (.int (9973 * i)), S) := fMul_li (by decide) S
theorem mulr9973 (i : Int) (S : SH) : fMul (.p (.int i)) (.p (.int 9973)) S = some (.p (.int (i * 9973)), S) := fMul_ri (by decide) S
theorem is_non (neg : Bool) (d : D) (S : SH) : fIs neg d (.p .non) S = some (.p (.bl (if neg = true then !isNon d else isNon d)), S) := id rfl
theorem isNon_ref (n : Nat) : isNon (.ref n) = false := id rfl
theorem isNon_non : isNon (.p .non) = true := id rfl
theorem isNon_int (i : Int) : isNon (.p (.int i)) = false := id rfl
theorem isNon_str (i : Str) : isNon (.p (.str i)) = false := id rfl
theorem isNon_bl (i : Bool) : isNon (.p (.bl i)) = false := id rfl
theorem isNon_tup (ps : List P) : isNon (.p (.tup ps)) = false := id rfl
theorem isNon_lst (ps : List P) : isNon (.p (.lst ps)) = false := id rfl
theorem isNon_ins (c : Nat) (fs : List (Str × P)) : isNon (.p (.ins c fs)) = false := id rfl
theorem truD_b (b : Bool) (S : SH) : truD (.p (.bl b)) S = some (b, S) := id rfl
theorem startD_c (n : Nat) (d : D) (ds : List D) : startD (n + 1) (d :: ds) = some d :: startD n ds := by
  unfold startD
  rw [List.map_cons, List.length_cons, Nat.add_sub_add_right]
  rfl
theorem startD_n (n : Nat) : startD (n + 1) [] = none :: startD n [] := by
  unfold startD
  rw [List.length_nil, Nat.sub_zero, Nat.sub_zero, List.replicate_succ]
  rfl
theorem startD_z : startD 0 [] = [] := id rfl
/-- a def without loops of its own, by name: m = dFn .. -/
theorem fn_eq {m : MF} {k n : Nat} {s1 : MS} {ds : List D} {S S' : SH} {d : D} (hm : m = dFn k n s1) (h : ds.length = k) (e : Ev (s1 (startD n ds) ⟨S.os.length, S.os⟩) (fun f S1 => Ev (frameF S (some (f, S1))) (fun a' S2 => a' = d ∧ S2 = S') ⟨⟩) ⟨⟩) : m ds S = some (d, S') := by
  subst hm
  exact Ev.eq (t := ⟨⟩) (Ev_fn h e)
/-- a loop that looks for the first -/
def fndQ (ws : List Nat) (σ : En) (S : SH) : Option D → Fl → SH → Prop
  | none, .nx σ2, S2 => wipeD ws σ2 = σ ∧ S2 = S
  | none, .ct σ2, S2 => wipeD ws σ2 = σ ∧ S2 = S
  | some r, .ret d, S2 => d = r ∧ S2 = S
  | _, _, _ => False
section
variable {ws : List Nat} {Q : Fl → SH → Prop} {S T : SH} {body : MS} {g : MG} {fin : SH → Bool} {σ : En}
theorem fndQ_nx (σ2 : En) : fndQ ws σ S none (.nx σ2) T = (wipeD ws σ2 = σ ∧ T = S) := id rfl
theorem fndQ_ct (σ2 : En) : fndQ ws σ S none (.ct σ2) T = (wipeD ws σ2 = σ ∧ T = S) := id rfl
theorem fndQ_ret (r d : D) : fndQ ws σ S (some r) (.ret d) T = (d = r ∧ T = S) := id rfl
def endQ (Q : Fl → SH → Prop) (σ : En) (S : SH) : Option D → Prop
  | none => Q (.nx σ) S
  | some r => Q (.ret r) S
theorem endQ_none : endQ Q σ S none = Q (.nx σ) S := id rfl
theorem endQ_some (r : D) : endQ Q σ S (some r) = Q (.ret r) S := id rfl
theorem Ev_fnd0 {α : Type} (it : α → SH → Option D) (ok : α → Option D) (hf : fin S = true) : ∀ (xs : List α),
    (∀ x ∈ xs, ∃ d σ1, it x S = some d ∧ g d σ S = some (σ1, S) ∧ Ev (body σ1 S) (fndQ ws σ S (ok x)) ⟨⟩) → endQ Q σ S (xs.findSome? ok) →
    Ev (forL ws fin g body (xs.map it) σ S) Q ⟨⟩
  | [], _, q => by
    rw [List.map_nil, forL, if_pos hf]
    exact Ev.of rfl q
  | x :: xs, h, q => by
    obtain ⟨d, σ1, h1, h2, h3⟩ := h x List.mem_cons_self
    obtain ⟨f, S2, h4, h5⟩ := h3.get
    have ih := Ev_fnd0 it ok hf xs fun y hy => h y (List.mem_cons_of_mem _ hy)
    rw [List.findSome?_cons] at q
    rw [List.map_cons, forL, h1]
    dsimp only
    rw [h2, bnd_some, h4, bnd_some]
    cases e : ok x with
    | none =>
      rw [e] at h5 q
      cases f with
      | nx σ2 => obtain ⟨a, b⟩ := h5; subst b; dsimp only; rw [a]; exact ih q
      | ct σ2 => obtain ⟨a, b⟩ := h5; subst b; dsimp only; rw [a]; exact ih q
      | brk _ => exact h5.elim
      | ret _ => exact h5.elim
    | some r =>
      rw [e] at h5 q
      cases f with
      | nx _ => exact h5.elim
      | ct _ => exact h5.elim
      | brk _ => exact h5.elim
      | ret d => obtain ⟨a, b⟩ := h5; subst a b; exact Ev.of rfl q
theorem Ev_fnd {α : Type} {f : α → P} {xs : List α} (ok : α → Option D)
    (h : ∀ x ∈ xs, ∃ σ1, g (.p (f x)) σ S = some (σ1, S) ∧ Ev (body σ1 S) (fndQ ws σ S (ok x)) ⟨⟩) (q : endQ Q σ S (xs.findSome? ok)) : Ev (forL ws (srcP (xs.map f)).fin g body (srcP (xs.map f)).items σ S) Q ⟨⟩ := by
  have z := Ev_fnd0 (body := body) (ws := ws) (g := g) (fin := (srcP (xs.map f)).fin) (σ := σ) (S := S) (Q := Q) (fun (x : α) _ => some (D.p (f x))) ok rfl xs (fun x hx => by
    obtain ⟨σ1, h1, h2⟩ := h x hx
    exact ⟨_, σ1, rfl, h1, h2⟩) q
  have e : (srcP (xs.map f)).items = xs.map fun (x : α) (_ : SH) => some (D.p (f x)) := by simp [srcP]
  rw [← e] at z
  exact z
theorem Ev_fndn {α : Type} {f : α → P} {xs : List α} {j : Nat} (ok : α → Option D)
    (h : ∀ x ∈ xs, Ev (body (σ.set j (some (.p (f x)))) S) (fndQ ws σ S (ok x)) ⟨⟩) (q : endQ Q σ S (xs.findSome? ok)) : Ev (forL ws (srcP (xs.map f)).fin (gNm j) body (srcP (xs.map f)).items σ S) Q ⟨⟩ :=
  Ev_fnd ok (fun x hx => ⟨_, rfl, h x hx⟩) q
/-- .. over a range -/
theorem Ev_fndr {n j : Nat} (ok : Nat → Option D)
    (h : ∀ i, i < n → Ev (body (σ.set j (some (.p (.int (i : Int))))) S) (fndQ ws σ S (ok i)) ⟨⟩) (q : endQ Q σ S ((List.range n).findSome? ok)) : Ev (forL ws (srcN 0 n).fin (gNm j) body (srcN 0 n).items σ S) Q ⟨⟩ :=
  Ev_fnd0 (g := gNm j) (fin := (srcN 0 n).fin) (fun (i : Nat) _ => some (.p (.int (0 + (i : Int))))) ok rfl (List.range n) (fun i hi => ⟨_, _, rfl, rfl, by
    rw [Int.zero_add]
    exact h i (List.mem_range.mp hi)⟩) q
end
theorem fn_ev {m : MF} {k n : Nat} {s1 : MS} {ds : List D} {S : SH} {Q : D → SH → Prop} (hm : m = dFn k n s1) (h : ds.length = k) (e : Ev (s1 (startD n ds) ⟨S.os.length, S.os⟩) (fun f S1 => Ev (frameF S (some (f, S1))) Q ⟨⟩) ⟨⟩) : Ev (m ds S) Q ⟨⟩ := by
  subst hm
  exact Ev_fn h e
theorem cutD_map {α β : Type} (f : α → β) (xs : List α) (lo hi : Option Int) : cutD (xs.map f) lo hi = (cutD xs lo hi).map f := by
  unfold cutD
  rw [List.length_map, List.map_take, List.map_drop]
theorem cutD_len {α : Type} (xs : List α) (lo hi : Option Int) : (cutD xs lo hi).length ≤ xs.length := by
  unfold cutD
  rw [List.length_take, List.length_drop]
  omega
theorem fSl_r {n : Nat} {S : SH} {ps : List P} (h : S.os[n]? = some (.lst (ps.map D.p))) (hl : ps.length ≤ 1000) (lo hi : Option Int) : fSl false (.ref n) lo hi S = some (.p (.lst (cutD ps lo hi)), S) := by
  have e : asL (.ref n) S = some (ps.map D.p) := by unfold asL; dsimp only; rw [h]
  show (match asL (.ref n) S with | some xs => newL false (cutD xs lo hi) S | none => none) = _
  rw [e]
  dsimp only
  rw [cutD_map]
  exact newL_f _ (line_sm (Nat.le_trans (cutD_len _ _ _) hl))
theorem fSl_l {S : SH} {ps : List P} (hl : ps.length ≤ 1000) (lo hi : Option Int) : fSl false (.p (.lst ps)) lo hi S = some (.p (.lst (cutD ps lo hi)), S) := by
  show (match asL (.p (.lst ps)) S with | some xs => newL false (cutD xs lo hi) S | none => none) = _
  rw [asL_l]
  dsimp only
  rw [cutD_map]
  exact newL_f _ (line_sm (Nat.le_trans (cutD_len _ _ _) hl))
theorem ext_r {n : Nat} {S : SH} {ps qs : List P} (h : S.os[n]? = some (.lst (ps.map D.p))) (hl : ps.length + qs.length ≤ 1000) : fExt [.ref n, .p (.lst qs)] S = some (.p .non, S.put n (.lst ((ps ++ qs).map D.p))) := by
  unfold fExt
  dsimp only
  rw [h, asQ_l]
  dsimp only
  rw [toPs_map]
  dsimp only
  rw [List.length_map, if_pos (line_sm hl), List.map_append]
theorem ext_last (b : Nat) (os : List Ob) (ps qs : List P) (h : ps.length + qs.length ≤ 1000) : fExt [.ref os.length, .p (.lst qs)] ⟨b, os ++ [.lst (ps.map D.p)]⟩ = some (.p .non, ⟨b, os ++ [.lst ((ps ++ qs).map D.p)]⟩) := by
  have q := ext_r (n := os.length) (S := ⟨b, os ++ [.lst (ps.map D.p)]⟩) (ps := ps) (qs := qs) (at_last b os _) h
  rw [put_last] at q
  exact q
theorem fAdd_ll (live : Bool) (ps qs : List P) (S : SH) : fAdd live (.p (.lst ps)) (.p (.lst qs)) S = newL live ((ps ++ qs).map D.p) S := by
  show (match asL (.p (.lst ps)) S, asL (.p (.lst qs)) S with | some a, some b => newL live (a ++ b) S | _, _ => none) = _
  rw [asL_l, asL_l]
  dsimp only
  rw [List.map_append]
theorem newL_tp (b : Nat) (os : List Ob) (ps : List P) (h : ps.length ≤ 1000) : newL true (ps.map D.p) ⟨b, os⟩ = some (.ref os.length, ⟨b, os ++ [.lst (ps.map D.p)]⟩) := by
  rw [newL_t _ (line_sm (by rw [List.length_map]; exact h))]
end Pv
namespace Kb
open PySem PySem.Spec PyProof.Rows L2 Pv
def u_ALLRIGHTS : P := (.tup [(.tup [(.bl true), (.bl true), (.bl true)]), (.tup [(.bl true), (.bl true), (.bl true)]), (.tup [(.bl true), (.bl true), (.bl true)]), (.tup [(.bl true), (.bl true), (.bl true)])])
def u_SPACES : P := (.int 4)
def m_as_tuple : MF := dFn 1 1
    (dSeq (dIf (dTest (dOp (fIs false) (dVar 0) (dC .non)))
      (dRet (dC .non))
      dNx)
    (dRet (dCall fTuple (dCons (dVar 0) dNil))))
def m_Change_init : MF := dFnL 7 8
    (dSeq (dSetF [0] "author" (dVar 0) (dVar 1))
    (dSeq (dSetF [0] "number" (dVar 0) (dVar 2))
    (dSeq (dSetF [0] "heard" (dVar 0) (dCall fTuple (dCons (dVar 3) dNil)))
    (dSeq (dSetF [0] "capability" (dVar 0) (dVar 4))
    (dSeq (dSetF [0] "publics" (dVar 0) (dCall fTuple (dCons (dVar 5) dNil)))
    (dSetF [0] "parts" (dVar 0) (dCall fTuple (dCons (dComp false (dIt (dVar 6)) (gNm 7) dYes (dCall m_as_tuple (dCons (dVar 7) dNil)) [7]) dNil))))))))
def m_Change_header : MF := dFn 1 1
    (dRet (dTup (dCons (dUn (dFld [0] "author") (dVar 0)) (dCons (dUn (dFld [0] "number") (dVar 0)) (dCons (dUn (dFld [0] "heard") (dVar 0)) (dCons (dUn (dFld [0] "capability") (dVar 0)) (dCons (dUn (dFld [0] "publics") (dVar 0)) dNil)))))))
def m_kept_info : MF := dFn 2 6
    (dSeq (dFor [0, 2, 3, 4, 5] (dIt (dUn (dFld [2] "capabilities") (dVar 0))) (gTp 4 (gCn (gNm 2) (gCn (gNm 3) (gCn (gNm 4) (gCn (gNm 5) gNl)))))
      (dIf (dTest (dOp (fEq false) (dVar 2) (dVar 1)))
      (dRet (dTup (dCons (dVar 3) (dCons (dVar 4) (dCons (dVar 5) dNil)))))
      dNx))
    (dRet (dC .non)))
def m_is_kept : MF := dFn 2 2
    (dRet (dOp (fIs true) (dCall m_kept_info (dCons (dVar 0) (dCons (dVar 1) dNil))) (dC .non)))
def m_Store_find : MF := dFn 2 5
    (dSeq (dAsg (dVar 1) (gTp 2 (gCn (gNm 2) (gCn (gNm 3) gNl))))
    (dSeq (dIf (dNot (dTest (dChain fLe fLt (dC (.int 0)) (dVar 2) (dUn (dFld [2] "members") (dVar 0)))))
      (dRet (dC .non))
      dNx)
    (dSeq (dSet 4 (dOp fSub (dOp fSub (dVar 3) (dOp fIx (dUn (dFld [2] "cut") (dVar 0)) (dVar 2))) (dC (.int 1))))
    (dSeq (dIf (dTest (dChain fLe fLt (dC (.int 0)) (dVar 4) (dCall fLen (dCons (dOp fIx (dUn (dFld [2] "changes") (dVar 0)) (dVar 2)) dNil))))
      (dRet (dOp fIx (dOp fIx (dUn (dFld [2] "changes") (dVar 0)) (dVar 2)) (dVar 4)))
      dNx)
    (dRet (dC .non))))))
def m_own_info : MF := dFn 2 5
    (dSeq (dIf (dTest (dOp (fIs false) (dVar 1) (dC .non)))
      (dRet (dTup (dCons (dC .non) (dCons (dC (.int 0)) (dCons (dC u_ALLRIGHTS) dNil)))))
      dNx)
    (dSeq (dSet 2 (dCall m_kept_info (dCons (dVar 0) (dCons (dVar 1) dNil))))
    (dSeq (dIf (dTest (dOp (fIs true) (dVar 2) (dC .non)))
      (dRet (dVar 2))
      dNx)
    (dSeq (dSet 3 (dMeth 2 "find" m_Store_find (dVar 0) (dCons (dSl false (dVar 1) none (some (dC (.int 2)))) dNil)))
    (dSeq (dIf (dOr (dTest (dOp (fIs false) (dVar 3) (dC .non))) (dNot (dTest (dChain fLe fLt (dC (.int 0)) (dOp fIx (dVar 1) (dC (.int 2))) (dCall fLen (dCons (dUn (dFld [0] "publics") (dVar 3)) dNil))))))
      (dRet (dC .non))
      dNx)
    (dSeq (dSet 4 (dOp fIx (dUn (dFld [0] "publics") (dVar 3)) (dOp fIx (dVar 1) (dC (.int 2)))))
    (dSeq (dIf (dTest (dOp (fEq true) (dOp fIx (dVar 4) (dC (.int 0))) (dC (.str "grant"))))
      (dRet (dC .non))
      dNx)
    (dRet (dTup (dCons (dUn (dFld [0] "capability") (dVar 3)) (dCons (dOp fIx (dVar 4) (dC (.int 1))) (dCons (dOp fIx (dVar 4) (dC (.int 2))) dNil))))))))))))
def m_path : MF := dFn 2 5
    (dSeq (dSet 2 (dLst true dNil))
    (dSeq (dSet 3 (dC (.bl false)))
    (dSeq (dWhile [4] wFuel (dTest (dOp (fIs true) (dVar 1) (dC .non)))
      (dSeq (dSet 4 (dCall m_own_info (dCons (dVar 0) (dCons (dVar 1) dNil))))
    (dSeq (dIf (dOr (dTest (dOp (fIs false) (dVar 4) (dC .non))) (dTest (dOp (fInG false) (dVar 1) (dVar 2))))
      (dRet (dIfE (dTest (dVar 3)) (dVar 2) (dC .non)))
      dNx)
    (dSeq (dSet 3 (dOrV (dVar 3) (dCall m_is_kept (dCons (dVar 0) (dCons (dVar 1) dNil)))))
    (dSeq (dDrop (dBM "list" fApp (dVar 2) (dCons (dVar 1) dNil)))
    (dSet 1 (dOp fIx (dVar 4) (dC (.int 0)))))))))
    (dRet (dOp (fAdd false) (dVar 2) (dLst false (dCons (dC .non) dNil)))))))
def m_capability_info : MF := dFn 2 2
    (dSeq (dIf (dTest (dOp (fIs false) (dCall m_path (dCons (dVar 0) (dCons (dVar 1) dNil))) (dC .non)))
      (dRet (dC .non))
      dNx)
    (dRet (dCall m_own_info (dCons (dVar 0) (dCons (dVar 1) dNil)))))
def m_is_above : MF := dFn 3 4
    (dSeq (dSet 3 (dCall m_path (dCons (dVar 0) (dCons (dVar 2) dNil))))
    (dRet (dAndV (dOp (fIs true) (dVar 3) (dC .non)) (dOp (fInG false) (dVar 1) (dVar 3)))))
def m_Kept_init : MF := dFnL 4 11
    (dSeq (dSetF [1] "acts" (dVar 0) (dComp false (dIt (dVar 1)) (gTp 2 (gCn (gNm 4) (gCn (gNm 5) gNl))) dYes (dTup (dCons (dVar 4) (dCons (dVar 5) dNil))) [4, 5]))
    (dSeq (dSetF [1] "sums" (dVar 0) (dComp false (dIt (dVar 2)) (gTp 2 (gCn (gNm 6) (gCn (gNm 7) gNl))) dYes (dTup (dCons (dVar 6) (dCons (dVar 7) dNil))) [6, 7]))
    (dSetF [1] "texts" (dVar 0) (dComp false (dIt (dVar 3)) (gTp 2 (gCn (gNm 6) (gCn (gNm 8) gNl))) dYes (dTup (dCons (dVar 6) (dCons (dComp false (dIt (dVar 8)) (gTp 2 (gCn (gNm 9) (gCn (gNm 10) gNl))) dYes (dTup (dCons (dVar 9) (dCons (dVar 10) dNil))) [9, 10]) dNil))) [6, 8]))))
def m_Kept_data : MF := dFn 1 4
    (dSeq (dSet 1 (dComp false (dIt (dUn (dFld [1] "texts") (dVar 0))) (gTp 2 (gCn (gNm 2) (gCn (gNm 3) gNl))) dYes (dTup (dCons (dVar 2) (dCons (dCall fTuple (dCons (dVar 3) dNil)) dNil))) [2, 3]))
    (dRet (dTup (dCons (dCall fTuple (dCons (dUn (dFld [1] "acts") (dVar 0)) dNil)) (dCons (dCall fTuple (dCons (dUn (dFld [1] "sums") (dVar 0)) dNil)) (dCons (dCall fTuple (dCons (dVar 1) dNil)) dNil))))))
def m_Store_init : MF := dFnL 2 3
    (dSeq (dSetF [2] "members" (dVar 0) (dVar 1))
    (dSeq (dSetF [2] "cut" (dVar 0) (dComp true (dRng1 (dCons (dVar 1) dNil)) (gNm 2) dYes (dC (.int 0)) [2]))
    (dSeq (dSetF [2] "capabilities" (dVar 0) (dLst true dNil))
    (dSeq (dSetF [2] "kept" (dVar 0) (dComp true (dRng1 (dCons (dC u_SPACES) dNil)) (gNm 2) dYes (dMake false 1 m_Kept_init (dCons (dLst false dNil) (dCons (dLst false dNil) (dCons (dLst false dNil) dNil)))) [2]))
    (dSetF [2] "changes" (dVar 0) (dComp true (dRng1 (dCons (dVar 1) dNil)) (gNm 2) dYes (dLst true dNil) [2]))))))
def m_Store_add : MF := dFn 2 2
    (dDrop (dBM "list" fApp (dOp fIx (dUn (dFld [2] "changes") (dVar 0)) (dUn (dFld [0] "author") (dVar 1))) (dCons (dVar 1) dNil)))
def m_kept_data : MF := dFn 1 1
    (dSeq (dIf (dTest (dOp (fIs false) (dVar 0) (dC .non)))
      (dRet (dC .non))
      dNx)
    (dRet (dMeth 1 "data" m_Kept_data (dVar 0) dNil)))
def m_Store_data : MF := dFn 1 5
    (dSeq (dSet 1 (dComp false (dIt (dUn (dFld [2] "kept") (dVar 0))) (gNm 3) dYes (dCall m_kept_data (dCons (dVar 3) dNil)) [3]))
    (dSeq (dSet 2 (dComp false (dIt (dUn (dFld [2] "changes") (dVar 0))) (gNm 3) dYes (dCall fTuple (dCons (dComp false (dIt (dVar 3)) (gNm 4) dYes (dOp (fAdd false) (dMeth 0 "header" m_Change_header (dVar 4) dNil) (dTup (dCons (dUn (dFld [0] "parts") (dVar 4)) dNil))) [4]) dNil)) [3]))
    (dRet (dTup (dCons (dCall fTuple (dCons (dUn (dFld [2] "cut") (dVar 0)) dNil)) (dCons (dCall fTuple (dCons (dUn (dFld [2] "capabilities") (dVar 0)) dNil)) (dCons (dCall fTuple (dCons (dVar 1) dNil)) (dCons (dCall fTuple (dCons (dVar 2) dNil)) dNil))))))))
def m_mix : MF := dFn 2 3
    (dSeq (dSet 2 (dOp fMod (dCall fInt (dCons (dOp (fAdd false) (dOp (fAdd false) (dOp fMul (dCall fInt (dCons (dVar 0) dNil)) (dC (.int 48271))) (dOp fMul (dVar 1) (dC (.int 69621)))) (dC (.int 12345))) dNil)) (dC (.int 2147483647))))
    (dSeq (dSet 2 (dOp fMod (dCall fInt (dCons (dOp (fAdd false) (dOp (fAdd false) (dOp fMul (dVar 2) (dVar 2)) (dOp fMul (dVar 1) (dC (.int 40692)))) (dC (.int 1))) dNil)) (dC (.int 2147483399))))
    (dRet (dOp fMod (dOp fDiv (dVar 2) (dC (.int 5))) (dC (.int 9973))))))
def m_draws : MF := dFn 1 5
    (dSeq (dSet 1 (dLst true dNil))
    (dSeq (dFor [2, 3, 4] (dRng1 (dCons (dCall fMin (dCons (dC (.int 63)) (dCons (dCall fLen (dCons (dVar 0) dNil)) dNil))) dNil)) (gNm 2)
      (dSeq (dSet 3 (dCall fInt (dCons (dOp fIx (dVar 0) (dVar 2)) dNil)))
    (dIf (dTest (dOp fLt (dVar 3) (dOp fPow (dC (.int 10)) (dC (.int 18)))))
      (dDrop (dBM "list" fApp (dVar 1) (dCons (dCall m_mix (dCons (dVar 3) (dCons (dVar 2) dNil))) dNil)))
      (dFor [2, 4] (dRng1 (dCons (dC (.int 60)) dNil)) (gNm 4)
      (dIf (dTest (dOp fGt (dVar 3) (dC (.int 0))))
      (dSeq (dDrop (dBM "list" fApp (dVar 1) (dCons (dOp fMod (dCall fInt (dCons (dVar 3) dNil)) (dC (.int 9973))) dNil)))
    (dSet 3 (dOp fDiv (dVar 3) (dC (.int 9973)))))
      dNx)))))
    (dRet (dVar 1))))
def m_at : MF := dFn 2 2
    (dSeq (dIf (dTest (dOp fLt (dVar 1) (dCall fLen (dCons (dVar 0) dNil))))
      (dRet (dOp fIx (dVar 0) (dVar 1)))
      dNx)
    (dSeq (dIf (dTest (dOp (fEq false) (dCall fLen (dCons (dVar 0) dNil)) (dC (.int 0))))
      (dRet (dCall m_mix (dCons (dVar 1) (dCons (dC (.int 77)) dNil))))
      dNx)
    (dRet (dCall m_mix (dCons (dOp (fAdd false) (dOp fIx (dVar 0) (dOp fMod (dCall fInt (dCons (dVar 1) dNil)) (dCall fLen (dCons (dVar 0) dNil)))) (dOp fMul (dVar 1) (dC (.int 131)))) (dCons (dVar 1) dNil))))))
def m_is_integer : MF := dFn 1 1
    (dRet (dAndV (dUn (fIsi ["int"]) (dVar 0)) (dNotV (dUn (fIsi ["bool"]) (dVar 0)))))
def m_same : Nat → MF
  | 0 => fun _ _ => none
  | n + 1 => dFn 2 3
    (dSeq (dIf (dTest (dUn (fIsi ["list", "tuple"]) (dVar 1)))
      (dSeq (dIf (dOr (dTest (dOp (fEq true) (dUn (fIsi ["list"]) (dVar 1)) (dUn (fIsi ["list"]) (dVar 0)))) (dTest (dOp (fEq true) (dUn (fIsi ["tuple"]) (dVar 1)) (dUn (fIsi ["tuple"]) (dVar 0)))))
      (dRet (dC (.bl false)))
      dNx)
    (dSeq (dIf (dTest (dOp (fEq true) (dCall fLen (dCons (dVar 0) dNil)) (dCall fLen (dCons (dVar 1) dNil))))
      (dRet (dC (.bl false)))
      dNx)
    (dSeq (dFor [2] (dRng1 (dCons (dCall fLen (dCons (dVar 1) dNil)) dNil)) (gNm 2)
      (dIf (dNot (dTest (dCall (m_same n) (dCons (dOp fIx (dVar 0) (dVar 2)) (dCons (dOp fIx (dVar 1) (dVar 2)) dNil)))))
      (dRet (dC (.bl false)))
      dNx))
    (dRet (dC (.bl true))))))
      dNx)
    (dSeq (dIf (dTest (dOp (fIs false) (dVar 1) (dC .non)))
      (dRet (dOp (fIs false) (dVar 0) (dC .non)))
      dNx)
    (dSeq (dIf (dTest (dUn (fIsi ["bool"]) (dVar 1)))
      (dRet (dAndV (dUn (fIsi ["bool"]) (dVar 0)) (dOp (fEq false) (dVar 0) (dVar 1))))
      dNx)
    (dSeq (dIf (dTest (dUn (fIsi ["int"]) (dVar 1)))
      (dRet (dAndV (dCall m_is_integer (dCons (dVar 0) dNil)) (dOp (fEq false) (dVar 0) (dVar 1))))
      dNx)
    (dRet (dAndV (dUn (fIsi ["str"]) (dVar 0)) (dOp (fEq false) (dVar 0) (dVar 1))))))))
def m_full : MF := dFn 0 1
    (dRet (dCall fTuple (dCons (dComp false (dRng1 (dCons (dC (.int 4)) dNil)) (gNm 0) dYes (dTup (dCons (dC (.bl true)) (dCons (dC (.bl true)) (dCons (dC (.bl true)) dNil)))) [0]) dNil)))
def m_rights : MF := dFn 1 5
    (dSeq (dIf (dTest (dOp (fEq false) (dOp fMod (dVar 0) (dC (.int 3))) (dC (.int 0))))
      (dRet (dCall m_full dNil))
      dNx)
    (dSeq (dSet 1 (dOp fDiv (dVar 0) (dC (.int 3))))
    (dSeq (dSet 2 (dLst true dNil))
    (dSeq (dFor [3, 4] (dRng1 (dCons (dC (.int 4)) dNil)) (gNm 3)
      (dSeq (dSet 4 (dTup (dCons (dOp (fEq false) (dOp fMod (dVar 1) (dC (.int 2))) (dC (.int 1))) (dCons (dOp (fEq false) (dOp fMod (dOp fDiv (dVar 1) (dC (.int 2))) (dC (.int 2))) (dC (.int 1))) (dCons (dOp (fEq false) (dOp fMod (dOp fDiv (dVar 1) (dC (.int 4))) (dC (.int 2))) (dC (.int 1))) dNil)))))
    (dSeq (dIf (dTest (dOp (fEq false) (dOp fMod (dVar 0) (dC (.int 3))) (dC (.int 1))))
      (dSet 4 (dTup (dCons (dC (.bl true)) (dCons (dOp (fEq false) (dOp fMod (dVar 1) (dC (.int 2))) (dC (.int 1))) (dCons (dOp (fEq false) (dOp fMod (dOp fDiv (dVar 1) (dC (.int 2))) (dC (.int 2))) (dC (.int 1))) dNil)))))
      dNx)
    (dSeq (dDrop (dBM "list" fApp (dVar 2) (dCons (dVar 4) dNil)))
    (dSet 1 (dOp fDiv (dVar 1) (dC (.int 8))))))))
    (dRet (dCall fTuple (dCons (dVar 2) dNil)))))))
def m_grants : MF := dFn 1 4
    (dSeq (dSet 1 (dLst true dNil))
    (dSeq (dFor [0, 2, 3] (dIt (dVar 0)) (gNm 2)
      (dFor [0, 3] (dRng1 (dCons (dCall fLen (dCons (dOp fIx (dVar 2) (dC (.int 4))) dNil)) dNil)) (gNm 3)
      (dIf (dTest (dOp (fEq false) (dOp fIx (dOp fIx (dOp fIx (dVar 2) (dC (.int 4))) (dVar 3)) (dC (.int 0))) (dC (.str "grant"))))
      (dDrop (dBM "list" fApp (dVar 1) (dCons (dLst false (dCons (dTup (dCons (dOp fIx (dVar 2) (dC (.int 0))) (dCons (dOp fIx (dVar 2) (dC (.int 1))) (dCons (dVar 3) dNil)))) (dCons (dOp fIx (dOp fIx (dOp fIx (dVar 2) (dC (.int 4))) (dVar 3)) (dC (.int 1))) dNil))) dNil)))
      dNx)))
    (dRet (dVar 1))))
def m_choice : MF := dFn 4 8
    (dSeq (dSet 4 (dCall m_at (dCons (dVar 0) (dCons (dVar 1) dNil))))
    (dSeq (dIf (dTest (dOp (fEq false) (dOp fMod (dVar 4) (dC (.int 24))) (dC (.int 23))))
      (dRet (dTup (dCons (dOp fIx (dVar 3) (dC (.int 0))) (dCons (dOp (fAdd false) (dOp fIx (dVar 3) (dC (.int 1))) (dOp fMod (dOp fDiv (dVar 4) (dC (.int 24))) (dC (.int 2)))) (dCons (dC (.int 0)) dNil)))))
      dNx)
    (dSeq (dIf (dAnd (dTest (dOp (fEq false) (dOp fIx (dVar 3) (dC (.int 0))) (dC (.int 0)))) (dTest (dOp (fEq true) (dOp fMod (dVar 4) (dC (.int 4))) (dC (.int 3)))))
      (dRet (dC .non))
      dNx)
    (dSeq (dSet 5 (dCall m_grants (dCons (dVar 2) dNil)))
    (dSeq (dSet 6 (dComp false (dIt (dVar 5)) (gNm 7) (dTest (dOp (fEq false) (dOp fIx (dVar 7) (dC (.int 1))) (dOp fIx (dVar 3) (dC (.int 0))))) (dOp fIx (dVar 7) (dC (.int 0))) [7]))
    (dSeq (dIf (dAnd (dTest (dOp fGt (dCall fLen (dCons (dVar 6) dNil)) (dC (.int 0)))) (dTest (dOp (fEq true) (dOp fMod (dVar 4) (dC (.int 8))) (dC (.int 7)))))
      (dRet (dOp fIx (dVar 6) (dOp fMod (dOp fDiv (dVar 4) (dC (.int 8))) (dCall fLen (dCons (dVar 6) dNil)))))
      dNx)
    (dSeq (dIf (dTest (dOp fGt (dCall fLen (dCons (dVar 5) dNil)) (dC (.int 0))))
      (dRet (dOp fIx (dOp fIx (dVar 5) (dOp fMod (dOp fDiv (dVar 4) (dC (.int 8))) (dCall fLen (dCons (dVar 5) dNil)))) (dC (.int 0))))
      dNx)
    (dRet (dC .non)))))))))
def m_publics : MF := dFn 5 11
    (dSeq (dSet 5 (dLst true dNil))
    (dSeq (dSet 6 (dCall m_grants (dCons (dVar 2) dNil)))
    (dSeq (dFor [2, 7, 8, 9, 10] (dRng1 (dCons (dOp fMod (dCall m_at (dCons (dVar 0) (dCons (dVar 1) dNil))) (dC (.int 3))) dNil)) (gNm 7)
      (dSeq (dSet 8 (dOp fMod (dCall m_at (dCons (dVar 0) (dCons (dOp (fAdd false) (dOp (fAdd false) (dVar 1) (dC (.int 1))) (dOp fMul (dC (.int 4)) (dVar 7))) dNil))) (dC (.int 8))))
    (dSeq (dSet 9 (dCall m_at (dCons (dVar 0) (dCons (dOp (fAdd false) (dOp (fAdd false) (dVar 1) (dC (.int 2))) (dOp fMul (dC (.int 4)) (dVar 7))) dNil))))
    (dIf (dTest (dOp fLt (dVar 8) (dC (.int 4))))
      (dSeq (dSet 10 (dOp (fAdd false) (dOp fMul (dCall m_at (dCons (dVar 0) (dCons (dOp (fAdd false) (dOp (fAdd false) (dVar 1) (dC (.int 3))) (dOp fMul (dC (.int 4)) (dVar 7))) dNil))) (dC (.int 9973))) (dCall m_at (dCons (dVar 0) (dCons (dOp (fAdd false) (dOp (fAdd false) (dVar 1) (dC (.int 4))) (dOp fMul (dC (.int 4)) (dVar 7))) dNil)))))
    (dDrop (dBM "list" fApp (dVar 5) (dCons (dTup (dCons (dC (.str "grant")) (dCons (dOp fMod (dVar 9) (dVar 3)) (dCons (dCall m_rights (dCons (dVar 10) dNil)) dNil)))) dNil))))
      (dIf (dAnd (dTest (dOp fLt (dVar 8) (dC (.int 6)))) (dTest (dOp fGt (dCall fLen (dCons (dVar 6) dNil)) (dC (.int 0)))))
      (dDrop (dBM "list" fApp (dVar 5) (dCons (dTup (dCons (dC (.str "revoke")) (dCons (dOp fIx (dOp fIx (dVar 6) (dOp fMod (dVar 9) (dCall fLen (dCons (dVar 6) dNil)))) (dC (.int 0))) dNil))) dNil)))
      (dIf (dOr (dAnd (dTest (dOp (fEq false) (dVar 8) (dC (.int 6)))) (dTest (dOp (fEq false) (dOp fIx (dVar 4) (dC (.int 0))) (dC (.int 0))))) (dAnd (dTest (dOp (fEq false) (dVar 8) (dC (.int 7)))) (dTest (dOp (fEq false) (dOp fMod (dVar 9) (dC (.int 4))) (dC (.int 0))))))
      (dDrop (dBM "list" fApp (dVar 5) (dCons (dTup (dCons (dC (.str "seal")) dNil)) dNil)))
      (dIf (dAnd (dTest (dOp (fEq false) (dVar 8) (dC (.int 7)))) (dTest (dOp (fEq false) (dOp fMod (dVar 9) (dC (.int 4))) (dC (.int 1)))))
      (dDrop (dBM "list" fApp (dVar 5) (dCons (dTup (dCons (dC (.str "revoke")) (dCons (dC .non) dNil))) dNil)))
      dNx)))))))
    (dRet (dVar 5)))))
def m_rows : MF := dFn 5 14
    (dSeq (dSet 5 (dLst true dNil))
    (dSeq (dFor [6, 7, 8, 9, 10, 11] (dRng1 (dCons (dVar 2) dNil)) (gNm 6)
      (dDrop (dBM "list" fApp (dVar 5) (dCons (dComp true (dRng1 (dCons (dVar 2) dNil)) (gNm 12) dYes (dC (.int 0)) [12]) dNil))))
    (dSeq (dSet 7 (dLst true dNil))
    (dSeq (dFor [3, 6, 8, 9, 10, 11] (dRng1 (dCons (dVar 3) dNil)) (gNm 6)
      (dSeq (dSet 8 (dOp (fAdd false) (dVar 1) (dOp fMul (dC (.int 16)) (dVar 6))))
    (dSeq (dSet 9 (dOp fMod (dCall m_at (dCons (dVar 0) (dCons (dVar 8) dNil))) (dVar 2)))
    (dSeq (dSet 10 (dOp fMod (dCall m_at (dCons (dVar 0) (dCons (dOp (fAdd false) (dVar 8) (dC (.int 1))) dNil))) (dOp (fAdd false) (dVar 2) (dC (.int 2)))))
    (dSeq (dIf (dAnd (dTest (dOp (fEq false) (dVar 6) (dC (.int 0)))) (dTru (dVar 4)))
      (dSet 9 (dC (.int 0)))
      dNx)
    (dSeq (dIf (dTest (dOp (fEq false) (dVar 10) (dVar 2)))
      (dSet 10 (dC (.int 0)))
      dNx)
    (dSeq (dIf (dTest (dOp fLt (dVar 10) (dVar 2)))
      (dAsg (dComp true (dRng1 (dCons (dVar 2) dNil)) (gNm 12) dYes (dCall fMax (dCons (dOp fIx (dOp fIx (dVar 5) (dVar 9)) (dVar 12)) (dCons (dOp fIx (dOp fIx (dVar 5) (dVar 10)) (dVar 12)) dNil))) [12]) (gSb (dVar 5) (dVar 9)))
      dNx)
    (dSeq (dSet 11 (dLst true (dCons (dVar 9) (dCons (dOp (fAdd false) (dOp fIx (dOp fIx (dVar 5) (dVar 9)) (dVar 9)) (dC (.int 1))) (dCons (dCall (fList false) (dCons (dOp fIx (dVar 5) (dVar 9)) dNil)) (dCons (dC .non) (dCons (dLst false dNil) (dCons (dLst false (dCons (dTup dNil) (dCons (dTup dNil) (dCons (dTup dNil) (dCons (dTup dNil) dNil))))) dNil))))))))
    (dSeq (dIf (dAnd (dTest (dOp (fEq false) (dVar 6) (dC (.int 0)))) (dTru (dVar 4)))
      (dAsg (dComp false (dRng2 (dCons (dC (.int 1)) (dCons (dVar 2) dNil))) (gNm 13) dYes (dTup (dCons (dC (.str "grant")) (dCons (dVar 13) (dCons (dCall m_full dNil) dNil)))) [13]) (gSb (dVar 11) (dC (.int 4))))
      (dSeq (dAsg (dCall m_choice (dCons (dVar 0) (dCons (dOp (fAdd false) (dVar 8) (dC (.int 2))) (dCons (dVar 7) (dCons (dVar 11) dNil))))) (gSb (dVar 11) (dC (.int 3))))
    (dAsg (dCall m_publics (dCons (dVar 0) (dCons (dOp (fAdd false) (dVar 8) (dC (.int 3))) (dCons (dVar 7) (dCons (dVar 2) (dCons (dVar 11) dNil)))))) (gSb (dVar 11) (dC (.int 4))))))
    (dSeq (dDrop (dBM "list" fApp (dVar 7) (dCons (dVar 11) dNil)))
    (dAsg (dOp fIx (dVar 11) (dC (.int 1))) (gSb (dOp fIx (dVar 5) (dVar 9)) (dVar 9)))))))))))))
    (dRet (dVar 7))))))
def m_nothing : MF := dFn 0 1
    (dRet (dComp false (dRng1 (dCons (dC (.int 4)) dNil)) (gNm 0) dYes (dLst false (dCons (dLst false dNil) (dCons (dLst false dNil) (dCons (dLst false dNil) dNil)))) [0]))
def m_world : MF := dFn 2 3
    (dRet (dLst true (dCons (dVar 0) (dCons (dVar 1) (dCons (dComp false (dRng1 (dCons (dVar 0) dNil)) (gNm 2) dYes (dC (.int 0)) [2]) (dCons (dLst false dNil) (dCons (dCall m_nothing dNil) dNil)))))))
def mL_world : MF := dFnL 2 3
    (dRet (dLst true (dCons (dVar 0) (dCons (dVar 1) (dCons (dComp false (dRng1 (dCons (dVar 0) dNil)) (gNm 2) dYes (dC (.int 0)) [2]) (dCons (dLst false dNil) (dCons (dCall m_nothing dNil) dNil)))))))
def m_cut_world : MF := dFn 4 12
    (dSeq (dSet 4 (dCall mL_world (dCons (dVar 2) (dCons (dVar 3) dNil))))
    (dSeq (dIf (dOr (dTest (dOp (fEq false) (dCall fLen (dCons (dVar 3) dNil)) (dC (.int 0)))) (dTest (dOp (fEq true) (dOp fMod (dCall m_at (dCons (dVar 0) (dCons (dVar 1) dNil))) (dC (.int 3))) (dC (.int 2)))))
      (dRet (dVar 4))
      dNx)
    (dSeq (dSet 5 (dOp fIx (dVar 3) (dOp fMod (dCall m_at (dCons (dVar 0) (dCons (dOp (fAdd false) (dVar 1) (dC (.int 1))) dNil))) (dCall fLen (dCons (dVar 3) dNil)))))
    (dSeq (dSet 6 (dCall (fList true) (dCons (dOp fIx (dVar 5) (dC (.int 2))) dNil)))
    (dSeq (dAsg (dOp (fAdd false) (dOp fIx (dVar 6) (dOp fIx (dVar 5) (dC (.int 0)))) (dOp fMod (dCall m_at (dCons (dVar 0) (dCons (dOp (fAdd false) (dVar 1) (dC (.int 2))) dNil))) (dC (.int 2)))) (gSb (dVar 6) (dOp fIx (dVar 5) (dC (.int 0)))))
    (dSeq (dSet 7 (dLst true dNil))
    (dSeq (dSet 8 (dLst true (dCons (dC .non) dNil)))
    (dSeq (dFor [2, 5, 9, 11] (dRng1 (dCons (dCall fLen (dCons (dVar 3) dNil)) dNil)) (gNm 9)
      (dSeq (dSet 10 (dOp fIx (dVar 3) (dVar 9)))
    (dIf (dAnd (dTest (dOp fLe (dOp fIx (dVar 10) (dC (.int 1))) (dOp fIx (dVar 6) (dOp fIx (dVar 10) (dC (.int 0)))))) (dTest (dOp (fInG false) (dOp fIx (dVar 10) (dC (.int 3))) (dVar 8))))
      (dFor [2, 5, 11] (dRng1 (dCons (dCall fLen (dCons (dOp fIx (dVar 10) (dC (.int 4))) dNil)) dNil)) (gNm 11)
      (dIf (dAnd (dTest (dOp (fEq false) (dOp fIx (dOp fIx (dOp fIx (dVar 10) (dC (.int 4))) (dVar 11)) (dC (.int 0))) (dC (.str "grant")))) (dTest (dOp (fEq true) (dOp fMod (dCall m_at (dCons (dVar 0) (dCons (dOp (fAdd false) (dOp (fAdd false) (dOp (fAdd false) (dVar 1) (dC (.int 3))) (dOp fMul (dC (.int 3)) (dVar 9))) (dVar 11)) dNil))) (dC (.int 4))) (dC (.int 0)))))
      (dSeq (dDrop (dBM "list" fApp (dVar 7) (dCons (dTup (dCons (dTup (dCons (dOp fIx (dVar 10) (dC (.int 0))) (dCons (dOp fIx (dVar 10) (dC (.int 1))) (dCons (dVar 11) dNil)))) (dCons (dOp fIx (dVar 10) (dC (.int 3))) (dCons (dOp fIx (dOp fIx (dOp fIx (dVar 10) (dC (.int 4))) (dVar 11)) (dC (.int 1))) (dCons (dOp fIx (dOp fIx (dOp fIx (dVar 10) (dC (.int 4))) (dVar 11)) (dC (.int 2))) dNil))))) dNil)))
    (dDrop (dBM "list" fApp (dVar 8) (dCons (dTup (dCons (dOp fIx (dVar 10) (dC (.int 0))) (dCons (dOp fIx (dVar 10) (dC (.int 1))) (dCons (dVar 11) dNil)))) dNil))))
      dNx))
      dNx)))
    (dSeq (dAsg (dComp false (dIt (dVar 3)) (gNm 10) (dTest (dOp fGt (dOp fIx (dVar 10) (dC (.int 1))) (dOp fIx (dVar 6) (dOp fIx (dVar 10) (dC (.int 0)))))) (dVar 10) [10]) (gSb (dVar 4) (dC (.int 1))))
    (dSeq (dAsg (dVar 6) (gSb (dVar 4) (dC (.int 2))))
    (dSeq (dAsg (dCall (fSort false) (dCons (dVar 7) dNil)) (gSb (dVar 4) (dC (.int 3))))
    (dRet (dVar 4)))))))))))))
def m_kept : MF := dFn 1 3
    (dSeq (dIf (dTest (dOp (fIs false) (dVar 0) (dC .non)))
      (dRet (dC .non))
      dNx)
    (dRet (dMake false 1 m_Kept_init (dCons (dCall (fList false) (dCons (dOp fIx (dVar 0) (dC (.int 0))) dNil)) (dCons (dCall (fList false) (dCons (dOp fIx (dVar 0) (dC (.int 1))) dNil)) (dCons (dComp false (dIt (dOp fIx (dVar 0) (dC (.int 2)))) (gTp 2 (gCn (gNm 1) (gCn (gNm 2) gNl))) dYes (dTup (dCons (dVar 1) (dCons (dCall (fList false) (dCons (dVar 2) dNil)) dNil))) [1, 2]) dNil))))))
def m_store : MF := dFn 1 5
    (dSeq (dSet 1 (dMake true 2 m_Store_init (dCons (dOp fIx (dVar 0) (dC (.int 0))) dNil)))
    (dSeq (dFor [2, 3, 4] (dRng1 (dCons (dOp fIx (dVar 0) (dC (.int 0))) dNil)) (gNm 2)
      (dAsg (dOp fIx (dOp fIx (dVar 0) (dC (.int 2))) (dVar 2)) (gSb (dUn (dFld [2] "cut") (dVar 1)) (dVar 2))))
    (dSeq (dDrop (dBM "list" fExt (dUn (dFld [2] "capabilities") (dVar 1)) (dCons (dCall (fList false) (dCons (dOp fIx (dVar 0) (dC (.int 3))) dNil)) dNil)))
    (dSeq (dFor [2, 3, 4] (dRng1 (dCons (dC (.int 4)) dNil)) (gNm 3)
      (dAsg (dCall m_kept (dCons (dOp fIx (dOp fIx (dVar 0) (dC (.int 4))) (dVar 3)) dNil)) (gSb (dUn (dFld [2] "kept") (dVar 1)) (dVar 3))))
    (dSeq (dFor [0, 2, 3, 4] (dIt (dOp fIx (dVar 0) (dC (.int 1)))) (gNm 4)
      (dDrop (dMeth 2 "add" m_Store_add (dVar 1) (dCons (dMake false 0 m_Change_init (dCons (dOp fIx (dVar 4) (dC (.int 0))) (dCons (dOp fIx (dVar 4) (dC (.int 1))) (dCons (dCall fTuple (dCons (dOp fIx (dVar 4) (dC (.int 2))) dNil)) (dCons (dOp fIx (dVar 4) (dC (.int 3))) (dCons (dCall fTuple (dCons (dOp fIx (dVar 4) (dC (.int 4))) dNil)) (dCons (dCall fTuple (dCons (dOp fIx (dVar 4) (dC (.int 5))) dNil)) dNil))))))) dNil))))
    (dRet (dVar 1)))))))
def m_find : MF := dFn 2 3
    (dSeq (dFor [0, 2] (dIt (dOp fIx (dVar 0) (dC (.int 1)))) (gNm 2)
      (dIf (dAnd (dTest (dOp (fEq false) (dOp fIx (dVar 2) (dC (.int 0))) (dOp fIx (dVar 1) (dC (.int 0))))) (dTest (dOp (fEq false) (dOp fIx (dVar 2) (dC (.int 1))) (dOp fIx (dVar 1) (dC (.int 1))))))
      (dRet (dVar 2))
      dNx))
    (dRet (dC .non)))
def m_info : MF := dFn 2 4
    (dSeq (dIf (dTest (dOp (fIs false) (dVar 1) (dC .non)))
      (dRet (dLst false (dCons (dC .non) (dCons (dC (.int 0)) (dCons (dCall m_full dNil) dNil)))))
      dNx)
    (dSeq (dFor [2, 3] (dIt (dOp fIx (dVar 0) (dC (.int 3)))) (gNm 2)
      (dIf (dTest (dOp (fEq false) (dOp fIx (dVar 2) (dC (.int 0))) (dVar 1)))
      (dRet (dLst false (dCons (dOp fIx (dVar 2) (dC (.int 1))) (dCons (dOp fIx (dVar 2) (dC (.int 2))) (dCons (dOp fIx (dVar 2) (dC (.int 3))) dNil)))))
      dNx))
    (dSeq (dSet 3 (dCall m_find (dCons (dVar 0) (dCons (dVar 1) dNil))))
    (dSeq (dIf (dOr (dTest (dOp (fIs false) (dVar 3) (dC .non))) (dOr (dTest (dOp fGe (dOp fIx (dVar 1) (dC (.int 2))) (dCall fLen (dCons (dOp fIx (dVar 3) (dC (.int 4))) dNil)))) (dTest (dOp (fEq true) (dOp fIx (dOp fIx (dOp fIx (dVar 3) (dC (.int 4))) (dOp fIx (dVar 1) (dC (.int 2)))) (dC (.int 0))) (dC (.str "grant"))))))
      (dRet (dC .non))
      dNx)
    (dRet (dLst false (dCons (dOp fIx (dVar 3) (dC (.int 3))) (dCons (dOp fIx (dOp fIx (dOp fIx (dVar 3) (dC (.int 4))) (dOp fIx (dVar 1) (dC (.int 2)))) (dC (.int 1))) (dCons (dOp fIx (dOp fIx (dOp fIx (dVar 3) (dC (.int 4))) (dOp fIx (dVar 1) (dC (.int 2)))) (dC (.int 2))) dNil)))))))))
def m_lpath : MF := dFn 2 5
    (dSeq (dSet 2 (dLst true dNil))
    (dSeq (dFor [3, 4] (dRng1 (dCons (dC (.int 40)) dNil)) (gNm 3)
      (dSeq (dIf (dTest (dOp (fIs false) (dVar 1) (dC .non)))
      (dRet (dOp (fAdd false) (dVar 2) (dLst false (dCons (dC .non) dNil))))
      dNx)
    (dSeq (dSet 4 (dCall m_info (dCons (dVar 0) (dCons (dVar 1) dNil))))
    (dSeq (dIf (dTest (dOp (fIs false) (dVar 4) (dC .non)))
      (dRet (dLst false dNil))
      dNx)
    (dSeq (dDrop (dBM "list" fApp (dVar 2) (dCons (dVar 1) dNil)))
    (dSet 1 (dOp fIx (dVar 4) (dC (.int 0)))))))))
    (dRet (dLst false dNil))))
def m_asked : MF := dFn 2 7
    (dSeq (dSet 2 (dLst true (dCons (dC .non) (dCons (dTup (dCons (dC (.int 0)) (dCons (dC (.int 1)) (dCons (dC (.int 7)) dNil)))) (dCons (dTup (dCons (dC (.int 5)) (dCons (dC (.int 3)) (dCons (dC (.int 0)) dNil)))) dNil)))))
    (dSeq (dDrop (dBM "list" fExt (dVar 2) (dCons (dComp false (dIt (dOp fIx (dVar 1) (dC (.int 3)))) (gNm 5) dYes (dOp fIx (dVar 5) (dC (.int 0))) [5]) dNil)))
    (dSeq (dFor [1, 3, 4] (dIt (dOp fIx (dVar 1) (dC (.int 1)))) (gNm 3)
      (dDrop (dBM "list" fExt (dVar 2) (dCons (dComp false (dRng1 (dCons (dCall fLen (dCons (dOp fIx (dVar 3) (dC (.int 4))) dNil)) dNil)) (gNm 6) dYes (dTup (dCons (dOp fIx (dVar 3) (dC (.int 0))) (dCons (dOp fIx (dVar 3) (dC (.int 1))) (dCons (dVar 6) dNil)))) [6]) dNil))))
    (dSeq (dIf (dTest (dOp fGt (dCall fLen (dCons (dVar 2) dNil)) (dC (.int 12))))
      (dSeq (dSet 4 (dOp (fAdd false) (dC (.int 3)) (dOp fMod (dCall m_at (dCons (dVar 0) (dCons (dC (.int 9)) dNil))) (dOp fSub (dCall fLen (dCons (dVar 2) dNil)) (dC (.int 11))))))
    (dSet 2 (dOp (fAdd true) (dSl false (dVar 2) none (some (dC (.int 3)))) (dSl false (dVar 2) (some (dVar 4)) (some (dOp (fAdd false) (dVar 4) (dC (.int 9))))))))
      dNx)
    (dRet (dVar 2))))))
def m_law : MF := dFn 1 14
    (dSeq (dSet 1 (dCall m_draws (dCons (dVar 0) dNil)))
    (dSeq (dSet 2 (dOp (fAdd false) (dC (.int 1)) (dOp fMod (dOp fMod (dCall m_at (dCons (dVar 1) (dCons (dC (.int 0)) dNil))) (dC (.int 8))) (dC (.int 6)))))
    (dSeq (dSet 3 (dCall m_rows (dCons (dVar 1) (dCons (dC (.int 20)) (dCons (dVar 2) (dCons (dOp fMod (dCall m_at (dCons (dVar 1) (dCons (dC (.int 1)) dNil))) (dC (.int 13))) (dCons (dOp (fEq false) (dOp fMod (dCall m_at (dCons (dVar 1) (dCons (dC (.int 2)) dNil))) (dC (.int 2))) (dC (.int 0))) dNil)))))))
    (dSeq (dSet 4 (dCall m_cut_world (dCons (dVar 1) (dCons (dC (.int 300)) (dCons (dVar 2) (dCons (dVar 3) dNil))))))
    (dSeq (dSet 5 (dCall m_store (dCons (dVar 4) dNil)))
    (dSeq (dSet 6 (dMeth 2 "data" m_Store_data (dVar 5) dNil))
    (dSeq (dSet 7 (dCall m_asked (dCons (dVar 1) (dCons (dVar 4) dNil))))
    (dSeq (dSet 8 (dComp false (dIt (dVar 7)) (gNm 13) dYes (dCall m_lpath (dCons (dVar 4) (dCons (dVar 13) dNil))) [13]))
    (dSeq (dFor [0, 1, 2, 3, 9, 10, 11, 12] (dRng1 (dCons (dCall fLen (dCons (dVar 7) dNil)) dNil)) (gNm 9)
      (dSeq (dSet 10 (dC .non))
    (dSeq (dIf (dTest (dOp fGt (dCall fLen (dCons (dOp fIx (dVar 8) (dVar 9)) dNil)) (dC (.int 0))))
      (dSet 10 (dCall fTuple (dCons (dCall m_info (dCons (dVar 4) (dCons (dOp fIx (dVar 7) (dVar 9)) dNil))) dNil)))
      dNx)
    (dSeq (dIf (dNot (dTest (dCall (m_same 40) (dCons (dCall m_capability_info (dCons (dVar 5) (dCons (dOp fIx (dVar 7) (dVar 9)) dNil))) (dCons (dVar 10) dNil)))))
      (dRet (dC (.bl false)))
      dNx)
    (dFor [0, 1, 2, 3, 10, 11, 12] (dRng1 (dCons (dCall fLen (dCons (dVar 7) dNil)) dNil)) (gNm 11)
      (dSeq (dSet 12 (dCall m_is_above (dCons (dVar 5) (dCons (dOp fIx (dVar 7) (dVar 11)) (dCons (dOp fIx (dVar 7) (dVar 9)) dNil)))))
    (dIf (dOr (dNot (dTest (dUn (fIsi ["bool"]) (dVar 12)))) (dTest (dOp (fEq true) (dVar 12) (dOp (fInG false) (dOp fIx (dVar 7) (dVar 11)) (dOp fIx (dVar 8) (dVar 9))))))
      (dRet (dC (.bl false)))
      dNx)))))))
    (dRet (dOp (fEq false) (dMeth 2 "data" m_Store_data (dVar 5) dNil) (dVar 6))))))))))))
end Kb
namespace Kb
open PySem PySem.Spec PyProof.Rows L2 Pv
def mixI (c k : Int) : Int :=
  let v := (c * 48271 + k * 69621 + 12345) % 2147483647
  (v * v + k * 40692 + 1) % 2147483399 / 5 % 9973
theorem mixI_r (c k : Int) : 0 ≤ mixI c k ∧ mixI c k < 9973 := by
  unfold mixI
  exact ⟨Int.emod_nonneg _ (by decide), Int.emod_lt_of_pos _ (by decide)⟩
theorem mix_eq (c k : Int) (S : SH) : m_mix [.p (.int c), .p (.int k)] S = some (.p (.int (mixI c k)), S) := by
  have h1 := mulOk_r (i := c) (j := 48271) (by decide)
  have h2 := mulOk_r (i := k) (j := 69621) (by decide)
  have h3 := mulOk_r (i := k) (j := 40692) (by decide)
  have h4 : mulOk ((c * 48271 + k * 69621 + 12345) % 2147483647) ((c * 48271 + k * 69621 + 12345) % 2147483647) = true := mulOk_r (by
    have a := Int.emod_nonneg (c * 48271 + k * 69621 + 12345) (b := 2147483647) (by decide)
    have b := Int.emod_lt_of_pos (c * 48271 + k * 69621 + 12345) (b := 2147483647) (by decide)
    omega)
  have h5 : ∀ i, divOk i 5 = true := fun i => divOk_c (by decide) (by decide)
  simp [m_mix, startD, h1, h2, h3, h4, h5]
  rfl
def atD (ds : List Int) (i : Int) : Int := if i < ds.length then ds.getD i.toNat 0 else if ds.length = 0 then mixI i 77 else mixI (ds.getD (i % ds.length).toNat 0 + i * 131) i
theorem atD_r {ds : List Int} (h : ∀ d ∈ ds, 0 ≤ d ∧ d < 9973) {i : Int} (h0 : 0 ≤ i) : 0 ≤ atD ds i ∧ atD ds i < 9973 := by
  unfold atD
  split
  · rename_i q
    have hl : i.toNat < ds.length := by omega
    rw [List.getD_eq_getElem?_getD, List.getElem?_eq_getElem hl]
    exact h _ (List.getElem_mem hl)
  · split <;> exact mixI_r _ _
theorem getD_at {ds : List Int} {n : Nat} (h : n < ds.length) : ds[n]? = some (ds.getD n 0) := by
  rw [List.getD_eq_getElem?_getD, List.getElem?_eq_getElem h]; rfl
theorem at_eq (ds : List Int) (i : Int) (h0 : 0 ≤ i) (S : SH) : m_at [.p (.lst (intsP ds)), .p (.int i)] S = some (.p (.int (atD ds i)), S) := by
  unfold atD
  by_cases h1 : i < ds.length
  · have h2 : i.toNat < ds.length := by omega
    have q := fIx_li (S := ⟨S.os.length, S.os⟩) h0 (intsP_at (getD_at h2))
    simp [m_at, startD, intsP_len, h1, q]
  · by_cases h2 : ds.length = 0
    · have h3 : ¬ i < 0 := by omega
      simp [m_at, startD, intsP_len, h1, h2, h3, fEq, okd, peq, mix_eq]
    · have h3 : 0 < (ds.length : Int) := by omega
      have h4 : (i % (ds.length : Int)).toNat < ds.length := by
        have := Int.emod_nonneg i (b := (ds.length : Int)) (by omega)
        have := Int.emod_lt_of_pos i h3
        omega
      have q := fIx_li (S := ⟨S.os.length, S.os⟩) (Int.emod_nonneg i (b := (ds.length : Int)) (by omega)) (intsP_at (getD_at h4))
      have h5 := mulOk_r (i := i) (j := 131) (by decide)
      have h6 : ¬ ds = [] := fun z => h2 (by rw [z]; rfl)
      have h7 : 0 < ds.length := by omega
      simp [m_at, startD, intsP_len, h1, h2, h3, h5, h6, h7, q, fEq, okd, peq, mix_eq]
def drJ (S : SH) (sc : D) (K : Nat) (S' : SH) : Prop := ∃ ds : List Int, S' = ⟨S.os.length, S.os ++ [.lst ((intsP ds).map D.p)]⟩ ∧ (∀ d ∈ ds, 0 ≤ d ∧ d < 9973) ∧ ds.length ≤ K
theorem drJ_app {S : SH} {sc : D} {K : Nat} {S' : SH} {d : Int} (h : drJ S sc K S') (hd : 0 ≤ d ∧ d < 9973) (hk : K < 100000) : isTy "list" (.ref S.os.length) S' = true ∧ ∃ S2, fApp [.ref S.os.length, .p (.int d)] S' = some (.p .non, S2) ∧ drJ S sc (K + 1) S2 := by
  obtain ⟨ds, rfl, h1, h2⟩ := h
  have e := at_last S.os.length S.os (.lst ((intsP ds).map D.p))
  refine ⟨isTy_ref e, _, fApp_p e (by rw [List.length_map, intsP_len]; have := line_ge; omega), ds ++ [d], ?_, fun x hx => ?_, by rw [List.length_append, List.length_singleton]; omega⟩
  · rw [put_last]
    unfold intsP
    simp
  · rcases List.mem_append.mp hx with hx | hx
    · exact h1 x hx
    · rw [List.mem_singleton.mp hx]; exact hd
theorem drJ_mono {S : SH} {sc : D} {K K' : Nat} {S' : SH} (h : drJ S sc K S') (hk : K ≤ K') : drJ S sc K' S' := by
  obtain ⟨ds, h0, h1, h2⟩ := h
  exact ⟨ds, h0, h1, by omega⟩
abbrev inB : MS := dIf (dTest (dOp fGt (dVar 3) (dC (.int 0))))
      (dSeq (dDrop (dBM "list" fApp (dVar 1) (dCons (dOp fMod (dCall fInt (dCons (dVar 3) dNil)) (dC (.int 9973))) dNil)))
    (dSet 3 (dOp fDiv (dVar 3) (dC (.int 9973)))))
      dNx
theorem in_ok (S : SH) (x : D) (K : Nat) (hK : K < 5000) (c : Int) (S1 : SH) (hj : drJ S (.p .non) K S1) : ∃ c2 S2, forL [2, 4] (srcN 0 60).fin (gNm 4) inB (srcN 0 60).items [some x, some (.ref S.os.length), none, some (.p (.int c)), none] S1 = some (.nx [some x, some (.ref S.os.length), none, some (.p (.int c2)), none], S2) ∧ drJ S (.p .non) (K + 60) S2 := by
  obtain ⟨σ2, S2, hr, ⟨c2, rfl⟩, hj2⟩ := rng0_inv (body := inB) (ws := [2, 4]) (j := 4) (fun i' σ S' => (∃ c, σ = [some x, some (.ref S.os.length), none, some (.p (.int c)), none]) ∧ drJ S (.p .non) (K + i') S') 60 (σ := [some x, some (.ref S.os.length), none, some (.p (.int c)), none]) (S := S1) ⟨⟨c, rfl⟩, hj⟩ (by
        rintro i' σ S3 hi' ⟨⟨c, rfl⟩, hj⟩
        by_cases hc : 0 < c
        · obtain ⟨t, S4, ha, hj4⟩ := drJ_app hj (d := c % 9973) ⟨Int.emod_nonneg _ (by decide), Int.emod_lt_of_pos _ (by decide)⟩ (by omega)
          refine ⟨[some x, some (.ref S.os.length), none, some (.p (.int (c / 9973))), some (.p (.int (i' : Int)))], S4, .inl ?_, ⟨_, rfl⟩, hj4⟩
          have hdv : divOk c 9973 = true := divOk_c (by decide) (by decide)
          simp [hc, t, ha, hdv]
        · refine ⟨[some x, some (.ref S.os.length), none, some (.p (.int c)), some (.p (.int (i' : Int)))], S3, .inl ?_, ⟨_, rfl⟩, drJ_mono hj (by omega)⟩
          simp [hc])
  exact ⟨c2, S2, hr, hj2⟩

abbrev outB : MS := (dSeq (dSet 3 (dCall fInt (dCons (dOp fIx (dVar 0) (dVar 2)) dNil)))
    (dIf (dTest (dOp fLt (dVar 3) (dOp fPow (dC (.int 10)) (dC (.int 18)))))
      (dDrop (dBM "list" fApp (dVar 1) (dCons (dCall m_mix (dCons (dVar 3) (dCons (dVar 2) dNil))) dNil)))
      (dFor [2, 4] (dRng1 (dCons (dC (.int 60)) dNil)) (gNm 4) inB)))
theorem r60 (S1 : SH) : rng1 [.p (.int 60)] S1 = some (srcN 0 60, S1) := srt_rng 60 (by omega)
theorem lt18 {c : Int} : (powOk 10 18 = true) := by simp [powOk]
theorem out_ok (S : SH) (ns : List Int) (i : Nat) (hi : i < ns.length) (hn : ns.length ≤ 63) (S1 : SH) (hj : drJ S (.p .non) (60 * i) S1) : ∃ σ2 S2, outB ([some (.p (.lst (intsP ns))), some (.ref S.os.length), some (.p (.int (i : Int))), none, none]) S1 = some (.nx σ2, S2) ∧ wipeD [2, 3, 4] σ2 = [some (.p (.lst (intsP ns))), some (.ref S.os.length), none, none, none] ∧ drJ S (.p .non) (60 * (i + 1)) S2 := by
  have q := fIx_li (S := S1) (i := (i : Int)) (by omega) (intsP_at (getD_at (ds := ns) (n := (i : Int).toNat) (by omega)))
  generalize ns.getD (i : Int).toNat 0 = c at q
  by_cases hc : c < 1000000000000000000
  · obtain ⟨t, S2, ha, hj2⟩ := drJ_app hj (mixI_r c i) (by omega)
    refine ⟨[some (.p (.lst (intsP ns))), some (.ref S.os.length), some (.p (.int (i : Int))), some (.p (.int c)), none], S2, ?_, rfl, drJ_mono hj2 (by omega)⟩
    have hp : powOk 10 18 = true := lt18 (c := 0)
    simp [outB, q, hp, hc, t, mix_eq, ha]
  · obtain ⟨c2, S2, hr, hj2⟩ := in_ok S (.p (.lst (intsP ns))) (60 * i) (by omega) c S1 hj
    refine ⟨[some (.p (.lst (intsP ns))), some (.ref S.os.length), none, some (.p (.int c2)), none], S2, ?_, rfl, drJ_mono hj2 (by omega)⟩
    have hp : powOk 10 18 = true := lt18 (c := 0)
    simp [outB, q, hp, hc, r60, wipeD, hr]


theorem dr1 (ns : List Int) (hn : ns.length ≤ 63) (S : SH) : ∃ ds S', forL [2, 3, 4] (srcN 0 ns.length).fin (gNm 2) outB (srcN 0 ns.length).items [some (.p (.lst (intsP ns))), some (.ref S.os.length), none, none, none] ⟨S.os.length, S.os ++ [.lst []]⟩ = some (.nx [some (.p (.lst (intsP ns))), some (.ref S.os.length), none, none, none], S') ∧ S' = ⟨S.os.length, S.os ++ [.lst ((intsP ds).map D.p)]⟩ ∧ ∀ d ∈ ds, 0 ≤ d ∧ d < 9973 := by
  obtain ⟨σ', S', hr, rfl, ds, rfl, hd, _⟩ := rng0_inv (body := outB) (ws := [2, 3, 4]) (j := 2)
    (fun i σ S' => σ = [some (.p (.lst (intsP ns))), some (.ref S.os.length), none, none, none] ∧ drJ S (.p .non) (60 * i) S') ns.length (σ := [some (.p (.lst (intsP ns))), some (.ref S.os.length), none, none, none]) (S := ⟨S.os.length, S.os ++ [.lst []]⟩) ⟨rfl, [], rfl, fun d h => absurd h (by simp), by simp⟩ (by
      rintro i σ S1 hi ⟨rfl, hj⟩
      obtain ⟨σ2, S2, h1, h2, h3⟩ := out_ok S ns i hi hn S1 hj
      exact ⟨σ2, S2, .inl h1, h2, h3⟩)
  exact ⟨ds, _, hr, rfl, hd⟩

theorem dr2 (ns : List Int) (hn : ns.length ≤ 63) (S : SH) : rng1 [.p (.int ns.length)] S = some (srcN 0 ns.length, S) := srt_rng _ (by omega)
theorem dr3 (S : SH) : newL true [] S = some (.ref S.os.length, ⟨S.b, S.os ++ [.lst []]⟩) := newL_t [] (Nat.zero_le _)
theorem dr4 (n : Nat) (hn : n ≤ 63) : (if (n : Int) < 63 then (n : Int) else 63) = n := by
    split
    · rfl
    · omega

theorem draws_eq (ns : List Int) (hn : ns.length ≤ 63) (S : SH) : ∃ ds : List Int, m_draws [.p (.lst (intsP ns))] S = some (.p (.lst (intsP ds)), S) ∧ ∀ d ∈ ds, 0 ≤ d ∧ d < 9973 := by
  obtain ⟨ds, S', hr, hS, hd⟩ := dr1 ns hn S
  refine ⟨ds, ?_, hd⟩
  have e6 := frame_ref (S := S) (n := S.os.length) (S1 := S') (ps := intsP ds) (Nat.le_refl _) (by rw [hS]; exact at_last _ _ _)
  have e7 : Pv.cutS S S' = S := by rw [hS]; exact cut_app _ _
  rw [e7] at e6
  have e8 : dRng1 (dCons (dCall fMin (dCons (dC (.int 63)) (dCons (dCall fLen (dCons (dVar 0) dNil)) dNil))) dNil) [some (.p (.lst (intsP ns))), some (.ref S.os.length), none, none, none] ⟨S.os.length, S.os ++ [.lst []]⟩ = some (srcN 0 ns.length, ⟨S.os.length, S.os ++ [.lst []]⟩) := by
    simp only [at_dRng1, at_dCons, at_dCall, at_dC, at_dVar, at_dNil, fLen_l, fMin_i, intsP_len, bnd_some, List.getElem?_cons_zero]
    rw [dr4 _ hn, dr2 ns hn]
  have e9 : startD 5 [.p (.lst (intsP ns))] = [some (.p (.lst (intsP ns))), none, none, none, none] := rfl
  have e10 : ([some (.p (.lst (intsP ns))), none, none, none, none] : En).set 1 (some (.ref S.os.length)) = [some (.p (.lst (intsP ns))), some (.ref S.os.length), none, none, none] := rfl
  have e11 : wipeD [2, 3, 4] [some (D.p (.lst (intsP ns))), some (.ref S.os.length), none, none, none] = [some (D.p (.lst (intsP ns))), some (.ref S.os.length), none, none, none] := rfl
  simp only [m_draws, at_fn, List.length_singleton, if_true, at_dSeq, at_dSet, at_dLst, at_dNil, bnd_some, dr3, seqK_nx, e9, e10, at_dFor, e8, e11, hr, at_dRet, at_dVar, List.getElem?_cons_succ, List.getElem?_cons_zero, e6]
end Kb
namespace Kb
open PySem PySem.Spec PyProof.Rows L2 Pv
def insG (au nu cap : P) (hd pb pt : List P) : List (Str × P) := [("author", au), ("number", nu), ("heard", .tup hd), ("capability", cap), ("publics", .tup pb), ("parts", .tup pt)]
def insP (au nu cap : P) (hd pb pt : List P) : P := .ins 0 (insG au nu cap hd pb pt)
def partOk : P → Bool
  | .non => true
  | .tup _ => true
  | _ => false
theorem as_tuple_eq {p : P} (h : partOk p = true) (S : SH) : m_as_tuple [.p p] S = some (.p p, S) := by
  cases p <;> first | (cases h; done) | skip
  · simp [m_as_tuple, startD, fIs, isNon]
  · simp [m_as_tuple, startD, fIs, isNon]
theorem fTuple_s {ps : List P} {p : P} (h : p = .lst ps ∨ p = .tup ps) (hl : ps.length ≤ sizeLine) {S : SH} : fTuple [.p p] S = some (.p (.tup ps), S) := by
  rcases h with rfl | rfl
  · exact fTuple_l hl
  · exact fTuple_t
theorem init_eq (S : SH) (au nu cap : P) {hd pb pt : List P} {hp pp qp : P} (h1 : hp = .lst hd ∨ hp = .tup hd) (h2 : pp = .lst pb ∨ pp = .tup pb) (h3 : qp = .lst pt ∨ qp = .tup pt) (l1 : hd.length ≤ sizeLine) (l2 : pb.length ≤ sizeLine) (l3 : pt.length ≤ sizeLine) (ho : ∀ p ∈ pt, partOk p = true) :
    m_Change_init [.ref S.os.length, .p au, .p nu, .p hp, .p cap, .p pp, .p qp] ⟨S.os.length, S.os ++ [.ins 0 []]⟩ = some (.p .non, ⟨S.os.length, S.os ++ [.ins 0 ((insG au nu cap hd pb pt).map fun p => (p.1, .p p.2))]⟩) := by
  have c0 : ([0] : List Nat).contains 0 = true := by decide
  have ev : startD 8 [.ref S.os.length, .p au, .p nu, .p hp, .p cap, .p pp, .p qp] = [some (.ref S.os.length), some (.p au), some (.p nu), some (.p hp), some (.p cap), some (.p pp), some (.p qp), none] := rfl
  have e1 := fun S => fTuple_s (S := S) h1 l1
  have e2 := fun S => fTuple_s (S := S) h2 l2
  have e3 := fun S => itP (S := S) pt h3
  have e4 := fun (T : SH) => comp_p (S := T) (j := 7) (t := dYes) (elt := dCall m_as_tuple (dCons (dVar 7) dNil)) (σ := [some (.ref S.os.length), some (.p au), some (.p nu), some (.p hp), some (.p cap), some (.p pp), some (.p qp), none]) (fun _ => true) (fun p => D.p p) pt l3 fun p hp => ⟨rfl, fun _ => by simp [as_tuple_eq (ho p hp)]⟩
  unfold m_Change_init
  simp only [at_fnL, ev, at_dSeq, at_dSetF, at_dCall, at_dCons, at_dNil, at_dVar, at_dComp, at_dIt, bnd_some, seqK_nx, List.length_cons, List.length_nil, if_true, List.getElem?_cons_succ, List.getElem?_cons_zero, e1, e2, e3]
  have q1 : putFD "author" (.p au) ([] : List (Str × D)) = ([("author", .p au)] : List (Str × D)) := rfl
  have q2 : putFD "number" (.p nu) ([("author", .p au)] : List (Str × D)) = ([("author", .p au), ("number", .p nu)] : List (Str × D)) := rfl
  have q3 : putFD "heard" (.p (.tup hd)) ([("author", .p au), ("number", .p nu)] : List (Str × D)) = ([("author", .p au), ("number", .p nu), ("heard", .p (.tup hd))] : List (Str × D)) := rfl
  have q4 : putFD "capability" (.p cap) ([("author", .p au), ("number", .p nu), ("heard", .p (.tup hd))] : List (Str × D)) = ([("author", .p au), ("number", .p nu), ("heard", .p (.tup hd)), ("capability", .p cap)] : List (Str × D)) := rfl
  have q5 : putFD "publics" (.p (.tup pb)) ([("author", .p au), ("number", .p nu), ("heard", .p (.tup hd)), ("capability", .p cap)] : List (Str × D)) = ([("author", .p au), ("number", .p nu), ("heard", .p (.tup hd)), ("capability", .p cap), ("publics", .p (.tup pb))] : List (Str × D)) := rfl
  have q6 : putFD "parts" (.p (.tup pt)) ([("author", .p au), ("number", .p nu), ("heard", .p (.tup hd)), ("capability", .p cap), ("publics", .p (.tup pb))] : List (Str × D)) = ([("author", .p au), ("number", .p nu), ("heard", .p (.tup hd)), ("capability", .p cap), ("publics", .p (.tup pb)), ("parts", .p (.tup pt))] : List (Str × D)) := rfl
  have sl : ∀ {f : Str} {v : P} {fs : List (Str × D)}, fs.length < 1000 → setFld [0] f (.ref S.os.length) (.p v) ⟨S.os.length, S.os ++ [.ins 0 fs]⟩ = some ⟨S.os.length, S.os ++ [.ins 0 (putFD f (.p v) fs)]⟩ := fun hl => setF_last c0 hl
  rw [sl (by simp only [List.length_cons, List.length_nil]; omega), q1]
  simp only [bnd_some, seqK_nx, at_dSeq, at_dSetF, at_dCall, at_dCons, at_dNil, at_dVar, at_dComp, at_dIt, List.getElem?_cons_succ, List.getElem?_cons_zero]
  rw [sl (by simp only [List.length_cons, List.length_nil]; omega), q2]
  simp only [bnd_some, seqK_nx, at_dSeq, at_dSetF, at_dCall, at_dCons, at_dNil, at_dVar, at_dComp, at_dIt, List.getElem?_cons_succ, List.getElem?_cons_zero, e1]
  rw [sl (by simp only [List.length_cons, List.length_nil]; omega), q3]
  simp only [bnd_some, seqK_nx, at_dSeq, at_dSetF, at_dCall, at_dCons, at_dNil, at_dVar, at_dComp, at_dIt, List.getElem?_cons_succ, List.getElem?_cons_zero]
  rw [sl (by simp only [List.length_cons, List.length_nil]; omega), q4]
  simp only [bnd_some, seqK_nx, at_dSeq, at_dSetF, at_dCall, at_dCons, at_dNil, at_dVar, at_dComp, at_dIt, List.getElem?_cons_succ, List.getElem?_cons_zero, e2]
  rw [sl (by simp only [List.length_cons, List.length_nil]; omega), q5]
  have hw : wipeD [7] [some (.ref S.os.length), some (.p au), some (.p nu), some (.p hp), some (.p cap), some (.p pp), some (.p qp), none] = [some (.ref S.os.length), some (.p au), some (.p nu), some (.p hp), some (.p cap), some (.p pp), some (.p qp), none] := rfl
  have ef : pt.filter (fun _ => true) = pt := List.filter_eq_self.mpr fun _ _ => rfl
  simp only [bnd_some, seqK_nx, at_dSeq, at_dSetF, at_dCall, at_dCons, at_dNil, at_dVar, at_dComp, at_dIt, List.getElem?_cons_succ, List.getElem?_cons_zero, e3, hw]
  rw [e4, ef, bnd_some, newL_f pt l3]
  simp only [bnd_some, fTuple_l l3]
  rw [sl (by simp only [List.length_cons, List.length_nil]; omega), q6]
  rfl
theorem mk_eq (S : SH) {a : MA} {σ : En} (au nu cap : P) {hd pb pt : List P} {hp pp qp : P} (ha : a σ S = some ([.p au, .p nu, .p hp, .p cap, .p pp, .p qp], S)) (h1 : hp = .lst hd ∨ hp = .tup hd) (h2 : pp = .lst pb ∨ pp = .tup pb) (h3 : qp = .lst pt ∨ qp = .tup pt) (l1 : hd.length ≤ sizeLine) (l2 : pb.length ≤ sizeLine) (l3 : pt.length ≤ sizeLine) (ho : ∀ p ∈ pt, partOk p = true) :
    dMake false 0 m_Change_init a σ S = some (.p (insP au nu cap hd pb pt), S) := by
  rw [at_dMakeF, ha, bnd_some, init_eq S au nu cap h1 h2 h3 l1 l2 l3 ho, bnd_some]
  have e := out_ins (k := S.os.length) (c := 0) (n := S.os.length) (S1 := ⟨S.os.length, S.os ++ [.ins 0 ((insG au nu cap hd pb pt).map fun p => (p.1, .p p.2))]⟩) (gs := insG au nu cap hd pb pt) (Nat.le_refl _) (at_last _ _ _)
  dsimp only
  rw [e]
  dsimp only
  rw [cut_app]
  rfl
section
variable (au nu cap : P) (hd pb pt : List P) (S : SH)
theorem f_author : dFld [0] "author" (.p (insP au nu cap hd pb pt)) S = some (.p au, S) := rfl
theorem f_number : dFld [0] "number" (.p (insP au nu cap hd pb pt)) S = some (.p nu, S) := rfl
theorem f_heard : dFld [0] "heard" (.p (insP au nu cap hd pb pt)) S = some (.p (.tup hd), S) := rfl
theorem f_capability : dFld [0] "capability" (.p (insP au nu cap hd pb pt)) S = some (.p cap, S) := rfl
theorem f_publics : dFld [0] "publics" (.p (insP au nu cap hd pb pt)) S = some (.p (.tup pb), S) := rfl
theorem f_parts : dFld [0] "parts" (.p (insP au nu cap hd pb pt)) S = some (.p (.tup pt), S) := rfl
theorem nT (ps : List P) (h : ps.length ≤ 100) (ds : List D) (e : ds = ps.map D.p) : newT ds S = some (.p (.tup ps), S) := by
  rw [e]
  exact newT_p ps (by have := line_ge; omega)
theorem header_eq : m_Change_header [.p (insP au nu cap hd pb pt)] S = some (.p (.tup [au, nu, .tup hd, cap, .tup pb]), S) := by
  have e := nT ⟨S.os.length, S.os⟩ [au, nu, .tup hd, cap, .tup pb] (by simp) [.p au, .p nu, .p (.tup hd), .p cap, .p (.tup pb)] rfl
  simp [m_Change_header, startD, f_author, f_number, f_heard, f_capability, f_publics, e]
end
theorem sum_t (ns : List Int) (S : SH) : fSum [.p (.tup (intsP ns))] S = some (.p (.int ns.sum), S) := by
  have q := fSum_l (S := S) ns
  unfold fSum at q ⊢
  exact q
theorem small {n : Nat} (h : n ≤ 1000) : n ≤ sizeLine := by have := line_ge; omega
theorem meth_at {nm : Str} {m : MF} {a : ME} {r : MA} {σ : En} {S : SH} {gs : List (Str × P)} (ha : a σ S = some (.p (.ins 0 gs), S)) (hn : (gs.map fun p => (p.1, D.p p.2)).lookup nm = none) : dMeth 0 nm m a r σ S = bnd (r σ S) fun xs S2 => m (.p (.ins 0 gs) :: xs) S2 := by
  rw [at_dMeth, ha, bnd_some, fldsOf_p]
  dsimp only
  rw [if_pos ⟨rfl, hn⟩]
theorem at_gTl (n : Nat) {g2 : MGs} (d : D) (σ : En) (S : SH) : gTl n g2 d σ S = match asL d S with
  | some ds => if ds.length = n then g2 ds σ S else none
  | none => none := id rfl
end Kb
namespace Kb
open PySem PySem.Spec PyProof.Rows L2 Pv
theorem is_int (i : Int) (S : SH) : m_is_integer [.p (.int i)] S = some (.p (.bl true), S) := by
  simp [m_is_integer, startD, fIsi, tyName, tyOk, isSub]
theorem fIx_seq {ps : List P} {p : P} (hp : p = .lst ps ∨ p = .tup ps) {n : Nat} {x : P} {S : SH} (h : ps[n]? = some x) : fIx (.p p) (.p (.int (n : Int))) S = some (.p x, S) := by
  rcases hp with rfl | rfl
  · exact fIx_l h
  · exact fIx_t h
theorem fLen_seq {ps : List P} {p : P} (hp : p = .lst ps ∨ p = .tup ps) {S : SH} : fLen [.p p] S = some (.p (.int ps.length), S) := by
  rcases hp with rfl | rfl
  · exact fLen_l
  · exact fLen_t
/-- data of nested lists and tuples, so deep and long at most -/
def okz : Nat → P → Bool
  | _, .non => true
  | _, .bl _ => true
  | _, .int _ => true
  | _, .str _ => true
  | k + 1, .lst ps => decide (ps.length ≤ 1000000) && ps.all (okz k)
  | k + 1, .tup ps => decide (ps.length ≤ 1000000) && ps.all (okz k)
  | _, _ => false
theorem okz_okd : ∀ (k : Nat) (p : P), okz k p = true → okd k p = true := by
  intro k
  induction k with
  | zero => intro p h; cases p <;> first | rfl | exact h
  | succ k ih =>
    intro p h
    cases p <;> first | rfl | exact h | skip
    · simp only [okz, okd, Bool.and_eq_true, List.all_eq_true] at h ⊢
      exact fun x hx => ih x (h.2 x hx)
    · simp only [okz, okd, Bool.and_eq_true, List.all_eq_true] at h ⊢
      exact fun x hx => ih x (h.2 x hx)
theorem okz_mono : ∀ (k : Nat) (p : P), okz k p = true → okz (k + 1) p = true := by
  intro k
  induction k with
  | zero => intro p h; cases p <;> first | rfl | cases h
  | succ k ih =>
    intro p h
    cases p <;> first | rfl | exact h | skip
    · rw [okz] at h ⊢
      simp only [Bool.and_eq_true, List.all_eq_true] at h ⊢
      exact ⟨h.1, fun x hx => ih x (h.2 x hx)⟩
    · rw [okz] at h ⊢
      simp only [Bool.and_eq_true, List.all_eq_true] at h ⊢
      exact ⟨h.1, fun x hx => ih x (h.2 x hx)⟩
theorem okz_up {k : Nat} {p : P} (h : okz k p = true) : ∀ n, okz (k + n) p = true
  | 0 => h
  | n + 1 => okz_mono _ _ (okz_up h n)
theorem same_seq (k : Nat) (ps : List P) (ih : ∀ (p : P) (S : SH), p ∈ ps → m_same k [.p p, .p p] S = some (.p (.bl true), S)) (hz : ps.length ≤ 1000000) (p : P) (hp : p = .lst ps ∨ p = .tup ps) (S : SH) : m_same (k + 1) [.p p, .p p] S = some (.p (.bl true), S) := by
  have hl : forL [2] (srcN 0 ps.length).fin (gNm 2) (dIf (dNot (dTest (dCall (m_same k) (dCons (dOp fIx (dVar 0) (dVar 2)) (dCons (dOp fIx (dVar 1) (dVar 2)) dNil)))))
      (dRet (dC (.bl false)))
      dNx) (srcN 0 ps.length).items [some (.p p), some (.p p), none] ⟨S.os.length, S.os⟩ = some (.nx [some (.p p), some (.p p), none], ⟨S.os.length, S.os⟩) := by
    obtain ⟨σ', S', hr, rfl, rfl⟩ := rng0_inv (body := (dIf (dNot (dTest (dCall (m_same k) (dCons (dOp fIx (dVar 0) (dVar 2)) (dCons (dOp fIx (dVar 1) (dVar 2)) dNil)))))
      (dRet (dC (.bl false)))
      dNx)) (ws := [2]) (j := 2) (fun i σ S' => σ = [some (.p p), some (.p p), none] ∧ S' = ⟨S.os.length, S.os⟩) ps.length (σ := [some (.p p), some (.p p), none]) (S := ⟨S.os.length, S.os⟩) ⟨rfl, rfl⟩ (by
        rintro i σ S1 hi ⟨rfl, rfl⟩
        have hx : ps[i]? = some ps[i] := List.getElem?_eq_getElem hi
        have q := fIx_seq (S := ⟨S.os.length, S.os⟩) hp hx
        refine ⟨[some (.p p), some (.p p), some (.p (.int (i : Int)))], _, .inl ?_, rfl, rfl⟩
        simp [q, ih _ _ (List.getElem_mem hi)])
    exact hr
  have e1 := fun S => srt_rng (S := S) ps.length (by omega)
  rcases hp with rfl | rfl
  · simp [m_same, startD, fIsi, tyName, tyOk, isSub, fEq, okd, peq, e1, wipeD, hl]
  · simp [m_same, startD, fIsi, tyName, tyOk, isSub, fEq, okd, peq, e1, wipeD, hl]
theorem same_refl : ∀ (k : Nat) (p : P) (S : SH), okz k p = true → m_same (k + 1) [.p p, .p p] S = some (.p (.bl true), S) := by
  intro k
  induction k with
  | zero =>
    intro p S h
    cases p <;> first | (cases h; done) | (simp [m_same, startD, fIsi, tyName, tyOk, isSub, fEq, okd, peq, fIs, isNon, is_int])
  | succ k ih =>
    intro p S h
    cases p <;> first | (cases h; done) | (simp [m_same, startD, fIsi, tyName, tyOk, isSub, fEq, okd, peq, fIs, isNon, is_int]; done) | skip
    · rename_i ps
      simp only [okz, Bool.and_eq_true, List.all_eq_true, decide_eq_true_eq] at h
      first | exact same_seq (k + 1) ps (fun x S hx => ih x S (h.2 x hx)) h.1 _ (.inl rfl) S | exact same_seq (k + 1) ps (fun x S hx => ih x S (h.2 x hx)) h.1 _ (.inr rfl) S
    · rename_i ps
      simp only [okz, Bool.and_eq_true, List.all_eq_true, decide_eq_true_eq] at h
      first | exact same_seq (k + 1) ps (fun x S hx => ih x S (h.2 x hx)) h.1 _ (.inl rfl) S | exact same_seq (k + 1) ps (fun x S hx => ih x S (h.2 x hx)) h.1 _ (.inr rfl) S
theorem same40 (p : P) (S : SH) (h : okz 39 p = true) : m_same 40 [.p p, .p p] S = some (.p (.bl true), S) := same_refl 39 p S h
end Kb
namespace Kb
open PySem PySem.Spec PyProof.Rows L2 Pv
/-! numbers -/
theorem at_nat {ds : List Int} (hd : ∀ d ∈ ds, 0 ≤ d ∧ d < 9973) (i : Int) (h0 : 0 ≤ i) : ∃ u : Nat, u < 9973 ∧ ∀ S, m_at [.p (.lst (intsP ds)), .p (.int i)] S = some (.p (.int (u : Int)), S) := by
  have h := atD_r hd h0
  refine ⟨(atD ds i).toNat, by omega, fun S => ?_⟩
  rw [at_eq ds i h0 S, Int.toNat_of_nonneg h.1]
theorem mod_eq {n m : Nat} (hm : 0 < m) (S : SH) : fMod (.p (.int (n : Int))) (.p (.int (m : Int))) S = some (.p (.int ((n % m : Nat) : Int)), S) := by
  have h : (0 : Int) < (m : Int) := by omega
  refine (fII_eq _ _ _ _ S).trans ?_
  rw [if_pos (decide_eq_true h), Int.natCast_emod]
theorem div_eq {n m : Nat} (hm : 0 < m) (h2 : m < 1000000) (S : SH) : fDiv (.p (.int (n : Int))) (.p (.int (m : Int))) S = some (.p (.int ((n / m : Nat) : Int)), S) := by
  refine (fII_eq _ _ _ _ S).trans ?_
  rw [if_pos (divOk_c (by omega) (by omega)), Int.natCast_ediv]
theorem mul_l {c x : Int} (h : c.natAbs < 2 ^ 64) (S : SH) : fMul (.p (.int c)) (.p (.int x)) S = some (.p (.int (c * x)), S) := (fII_eq _ _ _ _ S).trans (if_pos (mulOk_l h))
theorem mul_r {c x : Int} (h : c.natAbs < 2 ^ 64) (S : SH) : fMul (.p (.int x)) (.p (.int c)) S = some (.p (.int (x * c)), S) := (fII_eq _ _ _ _ S).trans (if_pos (mulOk_r h))
theorem fEq_ii (neg : Bool) (a b : Int) (S : SH) : fEq neg (.p (.int a)) (.p (.int b)) S = some (.p (.bl (if neg = true then !decide (a = b) else decide (a = b))), S) := by
  have h : peq (.int a) (.int b) = decide (a = b) := by
    show (a == b) = _
    exact Bool.eq_iff_iff.mpr (by simp)
  unfold fEq
  rw [rdP_p, rdP_p]
  dsimp only
  rw [if_pos ⟨rfl, rfl⟩, h]
theorem fEq_ss (neg : Bool) (a b : Str) (S : SH) : fEq neg (.p (.str a)) (.p (.str b)) S = some (.p (.bl (if neg = true then !(a == b) else (a == b))), S) := by
  unfold fEq
  rw [rdP_p, rdP_p]
  dsimp only
  rw [if_pos ⟨rfl, rfl⟩]
  rfl
/-! objects -/
section
variable {S : SH} {n : Nat} {ds : List D}
theorem setIx_rr {i : Nat} {v : D} (hm : S.os[n]? = some (.lst ds)) (h : i < ds.length) (hv : okRef S n v = true) : setIx (.ref n) (.p (.int (i : Int))) v S = some (S.put n (.lst (ds.set i v))) := by
  have e : ixN ds.length (i : Int) = some i := by
    unfold ixN
    rw [if_pos (by omega), if_pos (by omega)]
    simp
  unfold setIx
  dsimp only
  rw [hm]
  dsimp only
  rw [e]
  dsimp only
  rw [if_pos hv]
theorem fApp_r {v : D} (hm : S.os[n]? = some (.lst ds)) (hl : ds.length < sizeLine) (hv : okRef S n v = true) : fApp [.ref n, v] S = some (.p .non, S.put n (.lst (ds ++ [v]))) := by
  unfold fApp
  dsimp only
  rw [hm]
  dsimp only
  rw [if_pos ⟨hl, hv⟩]
theorem fIx_rn {i : Nat} {d : D} (hm : S.os[n]? = some (.lst ds)) (h : ds[i]? = some d) : fIx (.ref n) (.p (.int (i : Int))) S = some (d, S) := fIx_ri hm (by omega) (by simpa using h)
theorem fList_r {live : Bool} (hm : S.os[n]? = some (.lst ds)) : fList live [.ref n] S = newL live ds S := by
  unfold fList asQ
  dsimp only
  rw [hm]
theorem len_r (h : S.os[n]? = some (.lst ds)) : fLen [.ref n] S = some (.p (.int (ds.length : Int)), S) := by
  unfold fLen asQ
  dsimp only
  rw [h]
theorem srcOf_r (h : S.os[n]? = some (.lst ds)) : srcOf (.ref n) S = some (srcR n ds.length, S) := by
  unfold srcOf
  dsimp only
  rw [h]
end
theorem lt_line {n : Nat} (h : n ≤ 1000) : n < sizeLine := Nat.lt_of_le_of_lt h (Nat.lt_of_lt_of_le (by decide : 1000 < 1000000) line_ge)
theorem get_app {os ys : List Ob} {n : Nat} {x : Ob} (h : os[n]? = some x) : (os ++ ys)[n]? = some x := by
  rw [List.getElem?_append_left (List.getElem?_eq_some_iff.mp h).1, h]
theorem srcL (ps : List P) (T : SH) : srcOf (.p (.lst ps)) T = some (srcP ps, T) := rfl
theorem rng_nat (m : Nat) (h : m ≤ 1000000) (S : SH) : rng1 [.p (.int (m : Int))] S = some (srcN 0 m, S) := srt_rng m (by omega)
abbrev lpO (ps : List P) : Ob := .lst (ps.map D.p)
theorem app_last (b : Nat) (os : List Ob) (ps : List P) (x : P) (h : ps.length ≤ 1000) : fApp [.ref os.length, .p x] ⟨b, os ++ [lpO ps]⟩ = some (.p .non, ⟨b, os ++ [lpO (ps ++ [x])]⟩) := by
  rw [fApp_p (S := ⟨b, os ++ [lpO ps]⟩) (at_last b os _) (by rw [List.length_map]; exact lt_line h), put_last]
  simp only [lpO, List.map_append]
  rfl
theorem frame_lp (S : SH) (b : Nat) (ps : List P) : frameF S (some (.ret (.ref S.os.length), ⟨b, S.os ++ [lpO ps]⟩)) = some (.p (.lst ps), S) := by
  rw [frame_ref (S := S) (n := S.os.length) (S1 := ⟨b, S.os ++ [lpO ps]⟩) (ps := ps) (Nat.le_refl _) (at_last _ _ _)]
  rw [cut_app]
/-! capabilities, rights, public acts -/
abbrev Spot := Nat × Nat × Nat
def spotP (s : Spot) : P := .tup [.int (s.1 : Int), .int (s.2.1 : Int), .int (s.2.2 : Int)]
def capP : Option Spot → P
  | none => .non
  | some s => spotP s
inductive Pub5 where
  | grant (m : Nat) (rt : P) | revoke (c : Option Spot) | sl
def pubP : Pub5 → P
  | .grant m rt => .tup [.str "grant", .int (m : Int), rt]
  | .revoke c => .tup [.str "revoke", capP c]
  | .sl => .tup [.str "seal"]
def OkPub : Pub5 → Prop
  | .grant _ rt => okz 30 rt = true
  | _ => True
theorem spot_z (k : Nat) (s : Spot) : okz (k + 1) (spotP s) = true := by
  unfold spotP
  simp [okz]
theorem cap_z (k : Nat) (c : Option Spot) : okz (k + 1) (capP c) = true := by
  cases c with
  | none => rfl
  | some s => exact spot_z k s
theorem peq_spot (s t : Spot) : peq (spotP s) (spotP t) = decide (s = t) := by
  obtain ⟨a, b, c⟩ := s
  obtain ⟨x, y, z⟩ := t
  unfold spotP
  simp only [peq, peqA, Bool.and_true]
  rw [Bool.eq_iff_iff]
  simp only [Bool.and_eq_true, beq_iff_eq, decide_eq_true_eq, Prod.mk.injEq]
  omega
theorem peq_cap (s t : Option Spot) : peq (capP s) (capP t) = decide (s = t) := by
  cases s with
  | none => cases t with
    | none => rfl
    | some t => obtain ⟨x, y, z⟩ := t; rfl
  | some s => cases t with
    | none => obtain ⟨x, y, z⟩ := s; rfl
    | some t =>
      show peq (spotP s) (spotP t) = _
      rw [peq_spot]
      simp
abbrev t3P : P := .tup [.bl true, .bl true, .bl true]
abbrev fullP : P := .tup [t3P, t3P, t3P, t3P]
theorem full_eq (S : SH) : m_full [] S = some (.p fullP, S) := by
  have n3 : ∀ T : SH, newT [.p (.bl true), .p (.bl true), .p (.bl true)] T = some (.p t3P, T) := fun T => newT_p (S := T) [.bl true, .bl true, .bl true] (small (by simp))
  have cp : ∀ T, compL (srcN 0 4).fin (gNm 0) dYes (dTup (dCons (dC (.bl true)) (dCons (dC (.bl true)) (dCons (dC (.bl true)) dNil)))) [none] (srcN 0 4).items [] T = some ([t3P, t3P, t3P, t3P].map D.p, T) := fun T => by
    rw [comp_rng (S := T) (j := 0) (fun _ => true) (fun _ => D.p t3P) 4 (small (by omega)) fun i hi => ⟨rfl, fun _ => by
      simp only [at_dTup, at_dCons, at_dC, at_dNil, bnd_some, n3]⟩]
    rfl
  have nl : ∀ T, newL false ([t3P, t3P, t3P, t3P].map D.p) T = some (.p (.lst [t3P, t3P, t3P, t3P]), T) := fun T => newL_f (S := T) [t3P, t3P, t3P, t3P] (small (by simp))
  have tu : ∀ T, fTuple [.p (.lst [t3P, t3P, t3P, t3P])] T = some (.p fullP, T) := fun T => fTuple_l (S := T) (ps := [t3P, t3P, t3P, t3P]) (small (by simp))
  have r4 : ∀ T, rng1 [.p (.int 4)] T = some (srcN 0 4, T) := fun T => srt_rng 4 (by decide)
  unfold m_full
  rw [fn_at (k := 0) rfl, show startD 1 [] = [none] from rfl]
  simp only [at_dRet, at_dCall, at_dCons, at_dNil, at_dC, at_dComp, at_dRng1, bnd_some, r4, wipeD, List.set_cons_zero, cp, nl, tu, frame_p, cut_self]
abbrev riB : MS := (dSeq (dSet 4 (dTup (dCons (dOp (fEq false) (dOp fMod (dVar 1) (dC (.int 2))) (dC (.int 1))) (dCons (dOp (fEq false) (dOp fMod (dOp fDiv (dVar 1) (dC (.int 2))) (dC (.int 2))) (dC (.int 1))) (dCons (dOp (fEq false) (dOp fMod (dOp fDiv (dVar 1) (dC (.int 4))) (dC (.int 2))) (dC (.int 1))) dNil)))))
    (dSeq (dIf (dTest (dOp (fEq false) (dOp fMod (dVar 0) (dC (.int 3))) (dC (.int 1))))
      (dSet 4 (dTup (dCons (dC (.bl true)) (dCons (dOp (fEq false) (dOp fMod (dVar 1) (dC (.int 2))) (dC (.int 1))) (dCons (dOp (fEq false) (dOp fMod (dOp fDiv (dVar 1) (dC (.int 2))) (dC (.int 2))) (dC (.int 1))) dNil)))))
      dNx)
    (dSeq (dDrop (dBM "list" fApp (dVar 2) (dCons (dVar 4) dNil)))
    (dSet 1 (dOp fDiv (dVar 1) (dC (.int 8)))))))
theorem rights_eq (v : Nat) (S : SH) : ∃ rt, okz 30 rt = true ∧ m_rights [.p (.int (v : Int))] S = some (.p rt, S) := by
  have c3 : ∀ (n : Nat) T, fMod (.p (.int (n : Int))) (.p (.int 3)) T = some (.p (.int ((n % 3 : Nat) : Int)), T) := fun n T => mod_eq (by decide) T
  have c2 : ∀ (n : Nat) T, fMod (.p (.int (n : Int))) (.p (.int 2)) T = some (.p (.int ((n % 2 : Nat) : Int)), T) := fun n T => mod_eq (by decide) T
  have d2 : ∀ (n : Nat) T, fDiv (.p (.int (n : Int))) (.p (.int 2)) T = some (.p (.int ((n / 2 : Nat) : Int)), T) := fun n T => div_eq (by decide) (by decide) T
  have d3 : ∀ (n : Nat) T, fDiv (.p (.int (n : Int))) (.p (.int 3)) T = some (.p (.int ((n / 3 : Nat) : Int)), T) := fun n T => div_eq (by decide) (by decide) T
  have d4 : ∀ (n : Nat) T, fDiv (.p (.int (n : Int))) (.p (.int 4)) T = some (.p (.int ((n / 4 : Nat) : Int)), T) := fun n T => div_eq (by decide) (by decide) T
  have d8 : ∀ (n : Nat) T, fDiv (.p (.int (n : Int))) (.p (.int 8)) T = some (.p (.int ((n / 8 : Nat) : Int)), T) := fun n T => div_eq (by decide) (by decide) T
  have r4 : ∀ T, rng1 [.p (.int 4)] T = some (srcN 0 4, T) := fun T => srt_rng 4 (by decide)
  have n3 : ∀ (a b c : Bool) (T : SH), newT [.p (.bl a), .p (.bl b), .p (.bl c)] T = some (.p (.tup [.bl a, .bl b, .bl c]), T) := fun a b c T => newT_p (S := T) [.bl a, .bl b, .bl c] (small (by simp))
  have z3 : ∀ (a b c : Bool), okz 20 (.tup [.bl a, .bl b, .bl c]) = true := fun a b c => by simp [okz]
  have ev : startD 5 [.p (.int (v : Int))] = [some (.p (.int (v : Int))), none, none, none, none] := rfl
  unfold m_rights
  by_cases h0 : v % 3 = 0
  · refine ⟨fullP, by decide, ?_⟩
    have e0 : ((v % 3 : Nat) : Int) = 0 := by omega
    rw [fn_at (k := 1) rfl, ev, at_dSeq]
    simp only [at_dIf, at_dTest, at_dOp, at_dVar, at_dC, bnd_some, List.getElem?_cons_zero, c3, fEq_ii, e0, Bool.false_eq_true, if_false, decide_true, toB_p, if_true, at_dRet, at_dCall, at_dNil, full_eq, seqK_ret, frame_p, cut_self]
  · have e0 : ¬ ((v % 3 : Nat) : Int) = 0 := by omega
    obtain ⟨σ', S', h1, ⟨x, rfl⟩, ps, rfl, hl, hz⟩ := rng0_inv (body := riB) (ws := [3, 4]) (j := 3) (fun i σ S' => (∃ x : Nat, σ = [some (.p (.int (v : Int))), some (.p (.int (x : Int))), some (.ref S.os.length), none, none]) ∧ ∃ ps : List P, S' = ⟨S.os.length, S.os ++ [lpO ps]⟩ ∧ ps.length = i ∧ ∀ p ∈ ps, okz 20 p = true) 4
      (σ := [some (.p (.int (v : Int))), some (.p (.int ((v / 3 : Nat) : Int))), some (.ref S.os.length), none, none]) (S := ⟨S.os.length, S.os ++ [lpO []]⟩) ⟨⟨_, rfl⟩, [], rfl, rfl, by simp⟩ (by
        rintro i σ T hi ⟨⟨x, rfl⟩, ps, rfl, hl, hz⟩
        have step : ∀ q, okz 20 q = true → ∃ σ2 S2, (dSeq (dDrop (dBM "list" fApp (dVar 2) (dCons (dVar 4) dNil))) (dSet 1 (dOp fDiv (dVar 1) (dC (.int 8))))) [some (.p (.int (v : Int))), some (.p (.int (x : Int))), some (.ref S.os.length), some (.p (.int (i : Int))), some (.p q)] ⟨S.os.length, S.os ++ [lpO ps]⟩ = some (.nx σ2, S2) ∧ (∃ x : Nat, wipeD [3, 4] σ2 = [some (.p (.int (v : Int))), some (.p (.int (x : Int))), some (.ref S.os.length), none, none]) ∧ ∃ ps : List P, S2 = ⟨S.os.length, S.os ++ [lpO ps]⟩ ∧ ps.length = i + 1 ∧ ∀ p ∈ ps, okz 20 p = true := fun q hq => by
          have ap := app_last S.os.length S.os ps q (by omega)
          have ty := isTy_ref (at_last S.os.length S.os (lpO ps))
          refine ⟨[some (.p (.int (v : Int))), some (.p (.int ((x / 8 : Nat) : Int))), some (.ref S.os.length), some (.p (.int (i : Int))), some (.p q)], _, ?_, ⟨_, rfl⟩, ps ++ [q], rfl, by rw [List.length_append, hl]; rfl, fun p hp => ?_⟩
          · rw [at_dSeq]
            simp only [at_dDrop, at_dBM, at_dVar, at_dCons, at_dNil, bnd_some, List.getElem?_cons_zero, List.getElem?_cons_succ, ty, if_true, ap, seqK_nx, at_dSet, at_dOp, at_dC, d8, List.set_cons_zero, List.set_cons_succ]
          · rcases List.mem_append.mp hp with hp | hp
            · exact hz p hp
            · rw [List.mem_singleton.mp hp]; exact hq
        by_cases h1 : v % 3 = 1
        · have e1 : ((v % 3 : Nat) : Int) = 1 := by omega
          obtain ⟨σ2, S2, a, b⟩ := step _ (z3 true (decide (((x % 2 : Nat) : Int) = 1)) (decide (((x / 2 % 2 : Nat) : Int) = 1)))
          refine ⟨σ2, S2, .inl ?_, b⟩
          unfold riB
          rw [at_dSeq]
          simp only [at_dSet, at_dTup, at_dCons, at_dOp, at_dVar, at_dC, at_dNil, bnd_some, List.getElem?_cons_zero, List.getElem?_cons_succ, List.set_cons_zero, List.set_cons_succ, c2, d2, d4, fEq_ii, Bool.false_eq_true, if_false, n3, seqK_nx]
          rw [at_dSeq]
          simp only [at_dIf, at_dTest, at_dSet, at_dTup, at_dCons, at_dOp, at_dVar, at_dC, at_dNil, bnd_some, List.getElem?_cons_zero, List.getElem?_cons_succ, List.set_cons_zero, List.set_cons_succ, c2, c3, d2, fEq_ii, Bool.false_eq_true, if_false, e1, decide_true, toB_p, if_true, n3, seqK_nx]
          exact a
        · have e1 : ¬ ((v % 3 : Nat) : Int) = 1 := by omega
          obtain ⟨σ2, S2, a, b⟩ := step _ (z3 (decide (((x % 2 : Nat) : Int) = 1)) (decide (((x / 2 % 2 : Nat) : Int) = 1)) (decide (((x / 4 % 2 : Nat) : Int) = 1)))
          refine ⟨σ2, S2, .inl ?_, b⟩
          unfold riB
          rw [at_dSeq]
          simp only [at_dSet, at_dTup, at_dCons, at_dOp, at_dVar, at_dC, at_dNil, bnd_some, List.getElem?_cons_zero, List.getElem?_cons_succ, List.set_cons_zero, List.set_cons_succ, c2, d2, d4, fEq_ii, Bool.false_eq_true, if_false, n3, seqK_nx]
          rw [at_dSeq]
          simp only [at_dIf, at_dTest, at_dOp, at_dVar, at_dC, bnd_some, List.getElem?_cons_zero, List.getElem?_cons_succ, c3, fEq_ii, Bool.false_eq_true, if_false, e1, decide_false, toB_p, at_dNx, seqK_nx]
          exact a)
    have n0 : newL true [] (⟨S.os.length, S.os⟩ : SH) = some (.ref S.os.length, ⟨S.os.length, S.os ++ [lpO []]⟩) := newL_t _ (small (by simp))
    refine ⟨.tup ps, ?_, ?_⟩
    · simp only [okz, Bool.and_eq_true, decide_eq_true_eq, List.all_eq_true]
      exact ⟨by omega, fun p hp => okz_up (hz p hp) 9⟩
    · have tu : fTuple [.ref S.os.length] ⟨S.os.length, S.os ++ [lpO ps]⟩ = some (.p (.tup ps), ⟨S.os.length, S.os ++ [lpO ps]⟩) := by
        unfold fTuple asL
        dsimp only
        rw [at_last S.os.length S.os (lpO ps)]
        exact newT_p ps (small (by omega))
      rw [fn_at (k := 1) rfl, ev, at_dSeq]
      simp only [at_dIf, at_dTest, at_dOp, at_dVar, at_dC, bnd_some, List.getElem?_cons_zero, c3, fEq_ii, e0, Bool.false_eq_true, if_false, decide_false, toB_p, at_dNx, seqK_nx]
      rw [at_dSeq]
      simp only [at_dSet, at_dOp, at_dVar, at_dC, bnd_some, List.getElem?_cons_zero, d3, seqK_nx, List.set_cons_zero, List.set_cons_succ]
      rw [at_dSeq]
      simp only [at_dSet, at_dLst, at_dNil, bnd_some, n0, seqK_nx, List.set_cons_zero, List.set_cons_succ]
      rw [at_dSeq]
      unfold riB at h1
      simp only [at_dFor, at_dRng1, at_dCons, at_dC, at_dNil, bnd_some, r4, wipeD, List.set_cons_zero, List.set_cons_succ, h1, seqK_nx, at_dRet, at_dCall, at_dVar, List.getElem?_cons_zero, List.getElem?_cons_succ, tu, frame_p, cut_app]
end Kb
namespace Kb
open PySem PySem.Spec PyProof.Rows L2 Pv
abbrev parts4 : List P := [.tup [], .tup [], .tup [], .tup []]
/-- a row as the law draws it -/
structure R5 where
  a : Nat
  n : Nat
  h : List Int
  cap : Option Spot
  pubs : List Pub5
def row5L (r : R5) : List P := [.int (r.a : Int), .int (r.n : Int), .lst (intsP r.h), capP r.cap, .lst (r.pubs.map pubP), .lst parts4]
def row5P (r : R5) : P := .lst (row5L r)
structure Ok5 (r : R5) : Prop where
  hl : r.h.length ≤ 6
  pl : r.pubs.length ≤ 5
  po : ∀ p ∈ r.pubs, OkPub p
structure RW5 (S : SH) (L : Nat) (xs : List (R5 × Nat)) : Prop where
  rows : S.os[L]? = some (.lst (xs.map fun x => .ref x.2))
  ats : ∀ x ∈ xs, S.os[x.2]? = some (lpO (row5L x.1))
theorem RW5.app {b b' : Nat} {os : List Ob} {L : Nat} {xs : List (R5 × Nat)} (r : RW5 ⟨b, os⟩ L xs) (ys : List Ob) : RW5 ⟨b', os ++ ys⟩ L xs := ⟨get_app r.rows, fun x hx => get_app (r.ats x hx)⟩
/-- a row by its place: an object, or data -/
def IsRow (S : SH) (d : D) (r : R5) : Prop := (d = .p (row5P r)) ∨ ∃ n, d = .ref n ∧ S.os[n]? = some (lpO (row5L r))
theorem IsRow.app {b b' : Nat} {os : List Ob} {d : D} {r : R5} (h : IsRow ⟨b, os⟩ d r) (ys : List Ob) : IsRow ⟨b', os ++ ys⟩ d r := by
  rcases h with h | ⟨n, h1, h2⟩
  · exact .inl h
  · exact .inr ⟨n, h1, get_app h2⟩
theorem IsRow.of {b b' : Nat} {os : List Ob} {d : D} {r : R5} (h : IsRow ⟨b, os⟩ d r) : IsRow ⟨b', os⟩ d r := h
theorem row_ix {S : SH} {d : D} {r : R5} (h : IsRow S d r) {i : Nat} {x : P} (e : (row5L r)[i]? = some x) : fIx d (.p (.int (i : Int))) S = some (.p x, S) := by
  rcases h with rfl | ⟨n, rfl, h2⟩
  · exact fIx_l e
  · exact fIx_rn h2 (by rw [List.getElem?_map, e]; rfl)
section
variable {S : SH} {d : D} {r : R5} (h : IsRow S d r)
include h
theorem r5_0 : fIx d (.p (.int 0)) S = some (.p (.int (r.a : Int)), S) := row_ix h (i := 0) rfl
theorem r5_1 : fIx d (.p (.int 1)) S = some (.p (.int (r.n : Int)), S) := row_ix h (i := 1) rfl
theorem r5_2 : fIx d (.p (.int 2)) S = some (.p (.lst (intsP r.h)), S) := row_ix h (i := 2) rfl
theorem r5_3 : fIx d (.p (.int 3)) S = some (.p (capP r.cap), S) := row_ix h (i := 3) rfl
theorem r5_4 : fIx d (.p (.int 4)) S = some (.p (.lst (r.pubs.map pubP)), S) := row_ix h (i := 4) rfl
theorem r5_5 : fIx d (.p (.int 5)) S = some (.p (.lst parts4), S) := row_ix h (i := 5) rfl
end
def tagS : Pub5 → Str
  | .grant _ _ => "grant"
  | .revoke _ => "revoke"
  | .sl => "seal"
def isG : Pub5 → Bool
  | .grant _ _ => true
  | _ => false
theorem pub_0 (p : Pub5) (S : SH) : fIx (.p (pubP p)) (.p (.int 0)) S = some (.p (.str (tagS p)), S) := by
  cases p <;> exact fIx_t (n := 0) rfl
theorem tag_g (p : Pub5) : (tagS p == ("grant" : Str)) = isG p := by
  have h1 : (("grant" : Str) == ("grant" : Str)) = true := by decide +kernel
  have h2 : (("revoke" : Str) == ("grant" : Str)) = false := by decide +kernel
  have h3 : (("seal" : Str) == ("grant" : Str)) = false := by decide +kernel
  cases p
  · exact h1
  · exact h2
  · exact h3
theorem pub_1 (m : Nat) (rt : P) (S : SH) : fIx (.p (pubP (.grant m rt))) (.p (.int 1)) S = some (.p (.int (m : Int)), S) := fIx_t (n := 1) rfl
theorem pub_2 (m : Nat) (rt : P) (S : SH) : fIx (.p (pubP (.grant m rt))) (.p (.int 2)) S = some (.p rt, S) := fIx_t (n := 2) rfl
theorem pubs_ix {r : R5} {j : Nat} {p : Pub5} (e : r.pubs[j]? = some p) (S : SH) : fIx (.p (.lst (r.pubs.map pubP))) (.p (.int (j : Int))) S = some (.p (pubP p), S) := fIx_l (by rw [List.getElem?_map, e]; rfl)
theorem pubs_len (r : R5) (S : SH) : fLen [.p (.lst (r.pubs.map pubP))] S = some (.p (.int (r.pubs.length : Int)), S) := by rw [fLen_l, List.length_map]
theorem spot_mk (a b c : Nat) (T : SH) : newT [.p (.int (a : Int)), .p (.int (b : Int)), .p (.int (c : Int))] T = some (.p (spotP (a, b, c)), T) := newT_p (S := T) [.int (a : Int), .int (b : Int), .int (c : Int)] (small (by simp))
/-! the grants so far -/
def grP (g : Spot × Nat) : P := .lst [spotP g.1, .int (g.2 : Int)]
abbrev grI : MS := (dIf (dTest (dOp (fEq false) (dOp fIx (dOp fIx (dOp fIx (dVar 2) (dC (.int 4))) (dVar 3)) (dC (.int 0))) (dC (.str "grant"))))
      (dDrop (dBM "list" fApp (dVar 1) (dCons (dLst false (dCons (dTup (dCons (dOp fIx (dVar 2) (dC (.int 0))) (dCons (dOp fIx (dVar 2) (dC (.int 1))) (dCons (dVar 3) dNil)))) (dCons (dOp fIx (dOp fIx (dOp fIx (dVar 2) (dC (.int 4))) (dVar 3)) (dC (.int 1))) dNil))) dNil)))
      dNx)
abbrev grO : MS := (dFor [0, 3] (dRng1 (dCons (dCall fLen (dCons (dOp fIx (dVar 2) (dC (.int 4))) dNil)) dNil)) (gNm 3) grI)
theorem grI_eq {b : Nat} {os : List Ob} {d : D} {r : R5} (h : IsRow ⟨b, os⟩ d r) (hp : r.pubs.length ≤ 5) (gs : List (Spot × Nat)) (hg : gs.length ≤ 900) : ∃ gs' : List (Spot × Nat), gs'.length ≤ gs.length + r.pubs.length ∧
    forL [0, 3] (srcN 0 r.pubs.length).fin (gNm 3) grI (srcN 0 r.pubs.length).items [none, some (.ref os.length), some d, none] ⟨b, os ++ [lpO (gs.map grP)]⟩ = some (.nx [none, some (.ref os.length), some d, none], ⟨b, os ++ [lpO (gs'.map grP)]⟩) := by
  obtain ⟨σ', S', h1, rfl, gs', rfl, hl⟩ := rng0_inv (body := grI) (ws := [0, 3]) (j := 3) (fun i σ T => σ = [none, some (.ref os.length), some d, none] ∧ ∃ gs' : List (Spot × Nat), T = ⟨b, os ++ [lpO (gs'.map grP)]⟩ ∧ gs'.length ≤ gs.length + i) r.pubs.length
    (σ := [none, some (.ref os.length), some d, none]) (S := ⟨b, os ++ [lpO (gs.map grP)]⟩) ⟨rfl, gs, rfl, by omega⟩ (by
    rintro i σ T hi ⟨rfl, gs1, rfl, hl⟩
    have hr : IsRow ⟨b, os ++ [lpO (gs1.map grP)]⟩ d r := h.app _
    have ty := isTy_ref (at_last b os (lpO (gs1.map grP)))
    obtain ⟨p, hpi⟩ : ∃ p, r.pubs[i]? = some p := ⟨_, List.getElem?_eq_getElem hi⟩
    have px := fun S => pubs_ix hpi S
    cases hgp : isG p with
    | true =>
      cases p with
      | revoke _ => cases hgp
      | sl => cases hgp
      | grant m rt =>
        have ap := app_last b os (gs1.map grP) (grP ((r.a, r.n, i), m)) (by rw [List.length_map]; omega)
        have nl : ∀ T, newL false [.p (spotP (r.a, r.n, i)), .p (.int (m : Int))] T = some (.p (grP ((r.a, r.n, i), m)), T) := fun T => newL_f (S := T) [spotP (r.a, r.n, i), .int (m : Int)] (small (by simp))
        refine ⟨[none, some (.ref os.length), some d, some (.p (.int (i : Int)))], ⟨b, os ++ [lpO ((gs1 ++ [((r.a, r.n, i), m)]).map grP)]⟩, .inl ?_, rfl, _, rfl, by rw [List.length_append, List.length_singleton]; omega⟩
        rw [List.map_append]
        unfold grI
        simp only [at_dIf, at_dTest, at_dOp, at_dVar, at_dC, bnd_some, List.set_cons_zero, List.set_cons_succ, List.getElem?_cons_zero, List.getElem?_cons_succ, r5_4 hr, px, pub_0, fEq_ss, tag_g, hgp, Bool.false_eq_true, if_false, toB_p, if_true, at_dDrop, at_dBM, ty, at_dCons, at_dLst, at_dTup, at_dNil, r5_0 hr, r5_1 hr, spot_mk, pub_1, nl, ap]
        rfl
    | false =>
      refine ⟨[none, some (.ref os.length), some d, some (.p (.int (i : Int)))], ⟨b, os ++ [lpO (gs1.map grP)]⟩, .inl ?_, rfl, gs1, rfl, by omega⟩
      unfold grI
      simp only [at_dIf, at_dTest, at_dOp, at_dVar, at_dC, bnd_some, List.set_cons_zero, List.set_cons_succ, List.getElem?_cons_zero, List.getElem?_cons_succ, r5_4 hr, px, pub_0, fEq_ss, tag_g, hgp, Bool.false_eq_true, if_false, toB_p, at_dNx])
  exact ⟨gs', hl, h1⟩
theorem grants_eq {S : SH} {L : Nat} {xs : List (R5 × Nat)} (r : RW5 S L xs) (hx : xs.length ≤ 20) (ok : ∀ x ∈ xs, Ok5 x.1) : ∃ gs : List (Spot × Nat), gs.length ≤ 100 ∧ m_grants [.ref L] S = some (.p (.lst (gs.map grP)), S) := by
  obtain ⟨σ', S', h1, ⟨y, rfl⟩, gs, rfl, hl⟩ := r_inv (body := grO) (ws := [0, 2, 3]) (g := gNm 2) (fun i σ T => (∃ y, σ = [none, some (.ref S.os.length), y, none]) ∧ ∃ gs : List (Spot × Nat), T = ⟨S.os.length, S.os ++ [lpO (gs.map grP)]⟩ ∧ gs.length ≤ 5 * i) L (xs.map fun x => D.ref x.2)
    (σ := [none, some (.ref S.os.length), none, none]) (S := ⟨S.os.length, S.os ++ [lpO []]⟩) ⟨⟨_, rfl⟩, [], rfl, by simp⟩ (by
      rintro i σ T ⟨_, gs, rfl, _⟩
      exact get_app r.rows) (by
      rintro i d σ T hd ⟨⟨y, rfl⟩, gs, rfl, hl⟩
      rw [List.getElem?_map] at hd
      cases e : xs[i]? with
      | none => rw [e] at hd; cases hd
      | some x =>
      rw [e] at hd
      cases hd
      have hm := List.mem_of_getElem? e
      have hi := (List.getElem?_eq_some_iff.mp e).1
      have o := ok x hm
      have ir : IsRow ⟨S.os.length, S.os⟩ (.ref x.2) x.1 := .inr ⟨_, rfl, r.ats x hm⟩
      obtain ⟨gs', hl', k⟩ := grI_eq ir o.pl gs (by omega)
      have ir2 : IsRow ⟨S.os.length, S.os ++ [lpO (gs.map grP)]⟩ (.ref x.2) x.1 := ir.app _
      have pl := o.pl
      refine ⟨_, rfl, [none, some (.ref S.os.length), some (.ref x.2), none], ⟨S.os.length, S.os ++ [lpO (gs'.map grP)]⟩, .inl ?_, ⟨_, rfl⟩, gs', rfl, by omega⟩
      · unfold grO
        simp only [at_dFor, at_dRng1, at_dCall, at_dCons, at_dOp, at_dVar, at_dC, at_dNil, bnd_some, List.set_cons_zero, List.set_cons_succ, List.getElem?_cons_zero, List.getElem?_cons_succ, r5_4 ir2, pubs_len, rng_nat x.1.pubs.length (by omega), wipeD]
        exact k)
  refine ⟨gs, by rw [List.length_map] at hl; omega, ?_⟩
  have n0 : newL true [] (⟨S.os.length, S.os⟩ : SH) = some (.ref S.os.length, ⟨S.os.length, S.os ++ [lpO []]⟩) := newL_t _ (small (by simp))
  have so : srcOf (.ref L) ⟨S.os.length, S.os ++ [lpO []]⟩ = some (srcR L (xs.map fun x => D.ref x.2).length, ⟨S.os.length, S.os ++ [lpO []]⟩) := srcOf_r (S := ⟨S.os.length, S.os ++ [lpO []]⟩) (get_app r.rows)
  unfold m_grants
  rw [fn_at (k := 1) rfl, show startD 4 [.ref L] = [some (.ref L), none, none, none] from rfl, at_dSeq]
  simp only [at_dSet, at_dLst, at_dNil, bnd_some, n0, seqK_nx, List.set_cons_zero, List.set_cons_succ]
  rw [at_dSeq]
  unfold grO grI at h1
  simp only [at_dFor, at_dIt, at_dVar, bnd_some, List.getElem?_cons_zero, so, wipeD, List.set_cons_zero, List.set_cons_succ, h1, seqK_nx, at_dRet, List.getElem?_cons_succ]
  exact frame_lp S _ _
end Kb
namespace Kb
open PySem PySem.Spec PyProof.Rows L2 Pv
theorem comp_pm {α : Type} {j : Nat} {t : MT} {elt : ME} {σ : En} {S : SH} (f : α → P) (fs : α → Bool) (fv : α → D) (xs : List α) (hl : xs.length ≤ sizeLine)
    (h : ∀ x ∈ xs, t (σ.set j (some (.p (f x)))) S = some (fs x, S) ∧ (fs x = true → elt (σ.set j (some (.p (f x)))) S = some (fv x, S))) :
    compL (srcP (xs.map f)).fin (gNm j) t elt σ (srcP (xs.map f)).items [] S = some ((xs.filter fs).map fv, S) := by
  have q := comp_all (t := t) (elt := elt) (g := gNm j) (fin := (srcP (xs.map f)).fin) (S := S) (σ := σ) fs fv (fun x _ => some (D.p (f x))) rfl xs [] (by simpa using hl) fun x hx => ⟨_, _, rfl, rfl, h x hx⟩
  rw [List.nil_append] at q
  have e : (srcP (xs.map f)).items = xs.map fun (x : α) (_ : SH) => some (D.p (f x)) := by simp [srcP]
  rw [← e] at q
  exact q
theorem gr_0 (g : Spot × Nat) (S : SH) : fIx (.p (grP g)) (.p (.int 0)) S = some (.p (spotP g.1), S) := fIx_l (n := 0) rfl
theorem gr_1 (g : Spot × Nat) (S : SH) : fIx (.p (grP g)) (.p (.int 1)) S = some (.p (.int (g.2 : Int)), S) := fIx_l (n := 1) rfl
theorem dec_nn (a b : Nat) : decide ((a : Int) = (b : Int)) = decide (a = b) := by
  rw [Bool.eq_iff_iff, decide_eq_true_eq, decide_eq_true_eq]; omega
theorem dec_n (a b : Nat) : decide ((a : Int) = ((OfNat.ofNat b : Int))) = decide (a = b) := dec_nn a b
section
variable {S : SH} {L : Nat} {xs : List (R5 × Nat)} (r : RW5 S L xs) (hx : xs.length ≤ 20) (ok : ∀ x ∈ xs, Ok5 x.1) {d : D} {rr : R5} (hr : IsRow S d rr) {ds : List Int} (hd : ∀ d ∈ ds, 0 ≤ d ∧ d < 9973)
include r hx ok hr hd
theorem choice_eq {i : Int} (hi : 0 ≤ i) : ∃ c, m_choice [.p (.lst (intsP ds)), .p (.int i), .ref L, d] S = some (.p (capP c), S) := by
  obtain ⟨u, hu, au⟩ := at_nat hd i hi
  obtain ⟨S1, hS⟩ : ∃ S1 : SH, S1 = ⟨S.os.length, S.os⟩ := ⟨_, rfl⟩
  have r1 : RW5 S1 L xs := by rw [hS]; exact ⟨r.rows, r.ats⟩
  have hr1 : IsRow S1 d rr := by rw [hS]; exact hr
  obtain ⟨gs, gl, ge⟩ := grants_eq r1 hx ok
  have fin : ∀ p, frameF S (some (.ret (.p p), S1)) = some (.p p, S) := fun p => by rw [frame_p, hS, cut_self]
  have c24 : ∀ (n : Nat) T, fMod (.p (.int (n : Int))) (.p (.int 24)) T = some (.p (.int ((n % 24 : Nat) : Int)), T) := fun n T => mod_eq (by decide) T
  have c2 : ∀ (n : Nat) T, fMod (.p (.int (n : Int))) (.p (.int 2)) T = some (.p (.int ((n % 2 : Nat) : Int)), T) := fun n T => mod_eq (by decide) T
  have c4 : ∀ (n : Nat) T, fMod (.p (.int (n : Int))) (.p (.int 4)) T = some (.p (.int ((n % 4 : Nat) : Int)), T) := fun n T => mod_eq (by decide) T
  have c8 : ∀ (n : Nat) T, fMod (.p (.int (n : Int))) (.p (.int 8)) T = some (.p (.int ((n % 8 : Nat) : Int)), T) := fun n T => mod_eq (by decide) T
  have d24 : ∀ (n : Nat) T, fDiv (.p (.int (n : Int))) (.p (.int 24)) T = some (.p (.int ((n / 24 : Nat) : Int)), T) := fun n T => div_eq (by decide) (by decide) T
  have d8 : ∀ (n : Nat) T, fDiv (.p (.int (n : Int))) (.p (.int 8)) T = some (.p (.int ((n / 8 : Nat) : Int)), T) := fun n T => div_eq (by decide) (by decide) T
  have ev : startD 8 [.p (.lst (intsP ds)), .p (.int i), .ref L, d] = [some (.p (.lst (intsP ds))), some (.p (.int i)), some (.ref L), some d, none, none, none, none] := rfl
  unfold m_choice
  rw [fn_at (k := 4) rfl, ev, ← hS, at_dSeq]
  simp only [at_dSet, at_dCall, at_dCons, at_dVar, at_dNil, bnd_some, List.getElem?_cons_zero, List.getElem?_cons_succ, au, seqK_nx, List.set_cons_zero, List.set_cons_succ]
  rw [at_dSeq]
  by_cases h1 : u % 24 = 23
  · refine ⟨some (rr.a, rr.n + u / 24 % 2, 0), ?_⟩
    have e1 : ((u % 24 : Nat) : Int) = 23 := by omega
    have e2 : (rr.n : Int) + ((u / 24 % 2 : Nat) : Int) = ((rr.n + u / 24 % 2 : Nat) : Int) := by omega
    have sm : newT [.p (.int (rr.a : Int)), .p (.int ((rr.n + u / 24 % 2 : Nat) : Int)), .p (.int 0)] S1 = some (.p (spotP (rr.a, rr.n + u / 24 % 2, 0)), S1) := spot_mk _ _ 0 S1
    simp only [at_dIf, at_dTest, at_dOp, at_dVar, at_dC, bnd_some, List.getElem?_cons_zero, List.getElem?_cons_succ, c24, fEq_ii, e1, Bool.false_eq_true, if_false, decide_true, toB_p, if_true, at_dRet, at_dTup, at_dCons, at_dNil, r5_0 hr1, r5_1 hr1, d24, c2, fAdd_i, e2, sm, seqK_ret, fin]
    rfl
  · have e1 : ¬ ((u % 24 : Nat) : Int) = 23 := by omega
    simp only [at_dIf, at_dTest, at_dOp, at_dVar, at_dC, bnd_some, List.getElem?_cons_zero, List.getElem?_cons_succ, c24, fEq_ii, e1, Bool.false_eq_true, if_false, decide_false, toB_p, at_dNx, seqK_nx]
    rw [at_dSeq]
    by_cases h2 : rr.a = 0 ∧ u % 4 ≠ 3
    · refine ⟨none, ?_⟩
      have e2 : (rr.a : Int) = 0 := by omega
      have e3 : ¬ ((u % 4 : Nat) : Int) = 3 := by omega
      simp only [at_dIf, at_dAnd, at_dTest, at_dOp, at_dVar, at_dC, bnd_some, List.getElem?_cons_zero, List.getElem?_cons_succ, r5_0 hr1, c4, fEq_ii, e2, e3, Bool.false_eq_true, if_false, decide_true, decide_false, Bool.not_false, toB_p, if_true, at_dRet, seqK_ret, fin]
      rfl
    · have tst : dAnd (dTest (dOp (fEq false) (dOp fIx (dVar 3) (dC (.int 0))) (dC (.int 0)))) (dTest (dOp (fEq true) (dOp fMod (dVar 4) (dC (.int 4))) (dC (.int 3)))) [some (.p (.lst (intsP ds))), some (.p (.int i)), some (.ref L), some d, some (.p (.int (u : Int))), none, none, none] S1 = some (false, S1) := by
        simp only [at_dAnd, at_dTest, at_dOp, at_dVar, at_dC, bnd_some, List.getElem?_cons_zero, List.getElem?_cons_succ, r5_0 hr1, c4, fEq_ii, Bool.false_eq_true, if_false, toB_p, if_true]
        by_cases q : rr.a = 0
        · have e2 : (rr.a : Int) = 0 := by omega
          have e3 : ((u % 4 : Nat) : Int) = 3 := by omega
          simp only [e2, e3, decide_true, if_true, Bool.not_true]
        · have e2 : ¬ (rr.a : Int) = 0 := by omega
          simp only [e2, decide_false, Bool.false_eq_true, if_false]
      simp only [at_dIf, tst, bnd_some, Bool.false_eq_true, if_false, at_dNx, seqK_nx]
      rw [at_dSeq]
      simp only [at_dSet, at_dCall, at_dCons, at_dVar, at_dNil, bnd_some, List.getElem?_cons_zero, List.getElem?_cons_succ, ge, seqK_nx, List.set_cons_zero, List.set_cons_succ]
      have cp := comp_pm (S := S1) (j := 7) (t := (dTest (dOp (fEq false) (dOp fIx (dVar 7) (dC (.int 1))) (dOp fIx (dVar 3) (dC (.int 0)))))) (elt := (dOp fIx (dVar 7) (dC (.int 0)))) (σ := [some (.p (.lst (intsP ds))), some (.p (.int i)), some (.ref L), some d, some (.p (.int (u : Int))), some (.p (.lst (gs.map grP))), none, none]) grP (fun g => decide (g.2 = rr.a)) (fun g => D.p (spotP g.1)) gs (small (by omega)) fun g hg => ⟨by
        simp only [at_dTest, at_dOp, at_dVar, at_dC, bnd_some, List.set_cons_zero, List.set_cons_succ, List.getElem?_cons_zero, List.getElem?_cons_succ, gr_1, r5_0 hr1, fEq_ii, Bool.false_eq_true, if_false, toB_p, dec_nn], fun _ => by
        simp only [at_dOp, at_dVar, at_dC, bnd_some, List.set_cons_zero, List.set_cons_succ, List.getElem?_cons_zero, List.getElem?_cons_succ, gr_0]⟩
      obtain ⟨own, hown⟩ : ∃ own : List Spot, own = (gs.filter fun g => decide (g.2 = rr.a)).map (·.1) := ⟨_, rfl⟩
      have eo : (gs.filter fun g => decide (g.2 = rr.a)).map (fun g => D.p (spotP g.1)) = (own.map spotP).map D.p := by
        rw [hown, List.map_map, List.map_map]
        rfl
      rw [eo] at cp
      have ol : own.length ≤ 100 := by
        rw [hown, List.length_map]
        exact Nat.le_trans (List.length_filter_le _ _) gl
      have nl := newL_f (S := S1) (own.map spotP) (small (by rw [List.length_map]; omega))
      rw [at_dSeq]
      simp only [at_dSet, at_dComp, at_dIt, at_dVar, bnd_some, List.getElem?_cons_zero, List.getElem?_cons_succ, srcL, wipeD, List.set_cons_zero, List.set_cons_succ, cp, nl, seqK_nx]
      have lo : fLen [.p (.lst (own.map spotP))] S1 = some (.p (.int (own.length : Int)), S1) := by rw [fLen_l, List.length_map]
      have lg : fLen [.p (.lst (gs.map grP))] S1 = some (.p (.int (gs.length : Int)), S1) := by rw [fLen_l, List.length_map]
      rw [at_dSeq]
      by_cases h3 : 0 < own.length ∧ u % 8 ≠ 7
      · have hlt : u / 8 % own.length < own.length := Nat.mod_lt _ h3.1
        obtain ⟨w, hw⟩ : ∃ w, own[u / 8 % own.length]? = some w := ⟨_, List.getElem?_eq_getElem hlt⟩
        refine ⟨some w, ?_⟩
        have e3 : (0 : Int) < (own.length : Int) := by omega
        have e4 : ¬ ((u % 8 : Nat) : Int) = 7 := by omega
        have cm : ∀ (n : Nat) T, fMod (.p (.int (n : Int))) (.p (.int (own.length : Int))) T = some (.p (.int ((n % own.length : Nat) : Int)), T) := fun n T => mod_eq h3.1 T
        have ix : fIx (.p (.lst (own.map spotP))) (.p (.int ((u / 8 % own.length : Nat) : Int))) S1 = some (.p (spotP w), S1) := fIx_l (by rw [List.getElem?_map, hw]; rfl)
        simp only [at_dIf, at_dAnd, at_dTest, at_dOp, at_dVar, at_dC, at_dCall, at_dCons, at_dNil, bnd_some, List.getElem?_cons_zero, List.getElem?_cons_succ, lo, fII_eq, e3, decide_true, c8, fEq_ii, e4, decide_false, Bool.not_false, toB_p, if_true, at_dRet, d8, cm, ix, seqK_ret, fin]
        rfl
      · have tst2 : dAnd (dTest (dOp fGt (dCall fLen (dCons (dVar 6) dNil)) (dC (.int 0)))) (dTest (dOp (fEq true) (dOp fMod (dVar 4) (dC (.int 8))) (dC (.int 7)))) [some (.p (.lst (intsP ds))), some (.p (.int i)), some (.ref L), some d, some (.p (.int (u : Int))), some (.p (.lst (gs.map grP))), some (.p (.lst (own.map spotP))), none] S1 = some (false, S1) := by
          simp only [at_dAnd, at_dTest, at_dOp, at_dVar, at_dC, at_dCall, at_dCons, at_dNil, bnd_some, List.getElem?_cons_zero, List.getElem?_cons_succ, lo, c8, fII_eq, fEq_ii, toB_p, if_true]
          by_cases q : 0 < own.length
          · have e2 : (0 : Int) < (own.length : Int) := by omega
            have e3 : ((u % 8 : Nat) : Int) = 7 := by omega
            simp only [e2, e3, decide_true, if_true, Bool.not_true]
          · have e2 : ¬ (0 : Int) < (own.length : Int) := by omega
            simp only [e2, decide_false, Bool.false_eq_true, if_false]
        simp only [at_dIf, tst2, bnd_some, Bool.false_eq_true, if_false, at_dNx, seqK_nx]
        rw [at_dSeq]
        by_cases h4 : 0 < gs.length
        · have hlt : u / 8 % gs.length < gs.length := Nat.mod_lt _ h4
          obtain ⟨w, hw⟩ : ∃ w, gs[u / 8 % gs.length]? = some w := ⟨_, List.getElem?_eq_getElem hlt⟩
          refine ⟨some w.1, ?_⟩
          have e3 : (0 : Int) < (gs.length : Int) := by omega
          have cm : ∀ (n : Nat) T, fMod (.p (.int (n : Int))) (.p (.int (gs.length : Int))) T = some (.p (.int ((n % gs.length : Nat) : Int)), T) := fun n T => mod_eq h4 T
          have ix : fIx (.p (.lst (gs.map grP))) (.p (.int ((u / 8 % gs.length : Nat) : Int))) S1 = some (.p (grP w), S1) := fIx_l (by rw [List.getElem?_map, hw]; rfl)
          simp only [at_dIf, at_dTest, at_dOp, at_dVar, at_dC, at_dCall, at_dCons, at_dNil, bnd_some, List.getElem?_cons_zero, List.getElem?_cons_succ, lg, fII_eq, e3, decide_true, toB_p, if_true, at_dRet, d8, cm, ix, gr_0, seqK_ret, fin]
          rfl
        · refine ⟨none, ?_⟩
          have e3 : ¬ (0 : Int) < (gs.length : Int) := by omega
          simp only [at_dIf, at_dTest, at_dOp, at_dVar, at_dC, at_dCall, at_dCons, at_dNil, bnd_some, List.getElem?_cons_zero, List.getElem?_cons_succ, lg, fII_eq, e3, decide_false, toB_p, if_true, Bool.false_eq_true, if_false, at_dNx, seqK_nx, at_dRet, fin]
          rfl
end
end Kb
namespace Kb
open PySem PySem.Spec PyProof.Rows L2 Pv
abbrev puT : MS := (dIf (dTest (dOp fLt (dVar 8) (dC (.int 4))))
      (dSeq (dSet 10 (dOp (fAdd false) (dOp fMul (dCall m_at (dCons (dVar 0) (dCons (dOp (fAdd false) (dOp (fAdd false) (dVar 1) (dC (.int 3))) (dOp fMul (dC (.int 4)) (dVar 7))) dNil))) (dC (.int 9973))) (dCall m_at (dCons (dVar 0) (dCons (dOp (fAdd false) (dOp (fAdd false) (dVar 1) (dC (.int 4))) (dOp fMul (dC (.int 4)) (dVar 7))) dNil)))))
    (dDrop (dBM "list" fApp (dVar 5) (dCons (dTup (dCons (dC (.str "grant")) (dCons (dOp fMod (dVar 9) (dVar 3)) (dCons (dCall m_rights (dCons (dVar 10) dNil)) dNil)))) dNil))))
      (dIf (dAnd (dTest (dOp fLt (dVar 8) (dC (.int 6)))) (dTest (dOp fGt (dCall fLen (dCons (dVar 6) dNil)) (dC (.int 0)))))
      (dDrop (dBM "list" fApp (dVar 5) (dCons (dTup (dCons (dC (.str "revoke")) (dCons (dOp fIx (dOp fIx (dVar 6) (dOp fMod (dVar 9) (dCall fLen (dCons (dVar 6) dNil)))) (dC (.int 0))) dNil))) dNil)))
      (dIf (dOr (dAnd (dTest (dOp (fEq false) (dVar 8) (dC (.int 6)))) (dTest (dOp (fEq false) (dOp fIx (dVar 4) (dC (.int 0))) (dC (.int 0))))) (dAnd (dTest (dOp (fEq false) (dVar 8) (dC (.int 7)))) (dTest (dOp (fEq false) (dOp fMod (dVar 9) (dC (.int 4))) (dC (.int 0))))))
      (dDrop (dBM "list" fApp (dVar 5) (dCons (dTup (dCons (dC (.str "seal")) dNil)) dNil)))
      (dIf (dAnd (dTest (dOp (fEq false) (dVar 8) (dC (.int 7)))) (dTest (dOp (fEq false) (dOp fMod (dVar 9) (dC (.int 4))) (dC (.int 1)))))
      (dDrop (dBM "list" fApp (dVar 5) (dCons (dTup (dCons (dC (.str "revoke")) (dCons (dC .non) dNil))) dNil)))
      dNx))))
abbrev puB : MS := (dSeq (dSet 8 (dOp fMod (dCall m_at (dCons (dVar 0) (dCons (dOp (fAdd false) (dOp (fAdd false) (dVar 1) (dC (.int 1))) (dOp fMul (dC (.int 4)) (dVar 7))) dNil))) (dC (.int 8))))
    (dSeq (dSet 9 (dCall m_at (dCons (dVar 0) (dCons (dOp (fAdd false) (dOp (fAdd false) (dVar 1) (dC (.int 2))) (dOp fMul (dC (.int 4)) (dVar 7))) dNil))))
    puT))
theorem mulk (k : Nat) (S : SH) : fMul (.p (.int 4)) (.p (.int (k : Int))) S = some (.p (.int (4 * (k : Int))), S) := mul_l (by decide) S
section
variable {b m : Nat} {os : List Ob} {d : D} {rr : R5} (hr : IsRow ⟨b, os⟩ d rr) {ds : List Int} (hd : ∀ d ∈ ds, 0 ≤ d ∧ d < 9973) (hm : 1 ≤ m) {gs : List (Spot × Nat)} (i : Nat)
include hr hd hm
theorem puT_eq (k kd pk : Nat) (hk : kd < 8) (ps : List Pub5) (hp : ps.length ≤ 10) : ∃ (x : Option D) (ps' : List Pub5), ps'.length ≤ ps.length + 1 ∧ ((∀ p ∈ ps, OkPub p) → ∀ p ∈ ps', OkPub p) ∧
    puT [some (.p (.lst (intsP ds))), some (.p (.int (i : Int))), none, some (.p (.int (m : Int))), some d, some (.ref os.length), some (.p (.lst (gs.map grP))), some (.p (.int (k : Int))), some (.p (.int (kd : Int))), some (.p (.int (pk : Int))), none] ⟨b, os ++ [lpO (ps.map pubP)]⟩ =
      some (.nx [some (.p (.lst (intsP ds))), some (.p (.int (i : Int))), none, some (.p (.int (m : Int))), some d, some (.ref os.length), some (.p (.lst (gs.map grP))), some (.p (.int (k : Int))), some (.p (.int (kd : Int))), some (.p (.int (pk : Int))), x], ⟨b, os ++ [lpO (ps'.map pubP)]⟩) := by
  have hr1 : IsRow ⟨b, os ++ [lpO (ps.map pubP)]⟩ d rr := hr.app _
  have ty := isTy_ref (at_last b os (lpO (ps.map pubP)))
  have ap : ∀ p, fApp [.ref os.length, .p (pubP p)] ⟨b, os ++ [lpO (ps.map pubP)]⟩ = some (.p .non, ⟨b, os ++ [lpO ((ps ++ [p]).map pubP)]⟩) := fun p => by
    rw [app_last b os _ _ (by rw [List.length_map]; omega), List.map_append]
    rfl
  have c4 : ∀ (n : Nat) T, fMod (.p (.int (n : Int))) (.p (.int 4)) T = some (.p (.int ((n % 4 : Nat) : Int)), T) := fun n T => mod_eq (by decide) T
  have cm : ∀ (n : Nat) T, fMod (.p (.int (n : Int))) (.p (.int (m : Int))) T = some (.p (.int ((n % m : Nat) : Int)), T) := fun n T => mod_eq (by omega) T
  have snoc : ∀ p, OkPub p → (∀ q ∈ ps, OkPub q) → ∀ q ∈ ps ++ [p], OkPub q := fun p hp h q hq => by
    rcases List.mem_append.mp hq with hq | hq
    · exact h q hq
    · rw [List.mem_singleton.mp hq]; exact hp
  have ln : ∀ p : Pub5, (ps ++ [p]).length ≤ ps.length + 1 := fun p => by rw [List.length_append]; exact Nat.le_refl _
  have lg : fLen [.p (.lst (gs.map grP))] ⟨b, os ++ [lpO (ps.map pubP)]⟩ = some (.p (.int (gs.length : Int)), ⟨b, os ++ [lpO (ps.map pubP)]⟩) := by rw [fLen_l, List.length_map]
  unfold puT
  by_cases h1 : kd < 4
  · have e1 : (kd : Int) < 4 := by omega
    obtain ⟨u, hu, a3⟩ := at_nat hd ((i : Int) + 3 + 4 * (k : Int)) (by omega)
    obtain ⟨v, hv, a4⟩ := at_nat hd ((i : Int) + 4 + 4 * (k : Int)) (by omega)
    have ev : (u : Int) * 9973 + (v : Int) = ((u * 9973 + v : Nat) : Int) := by omega
    obtain ⟨rt, hz, er⟩ := rights_eq (u * 9973 + v) ⟨b, os ++ [lpO (ps.map pubP)]⟩
    have mr : ∀ T, fMul (.p (.int (u : Int))) (.p (.int 9973)) T = some (.p (.int ((u : Int) * 9973)), T) := fun T => mul_r (by decide) T
    have nt : ∀ T, newT [.p (.str "grant"), .p (.int ((pk % m : Nat) : Int)), .p rt] T = some (.p (pubP (.grant (pk % m) rt)), T) := fun T => newT_p (S := T) [.str "grant", .int ((pk % m : Nat) : Int), rt] (small (by simp))
    refine ⟨some (.p (.int ((u * 9973 + v : Nat) : Int))), ps ++ [.grant (pk % m) rt], ln _, snoc (.grant (pk % m) rt) hz, ?_⟩
    simp only [at_dIf, at_dTest, at_dOp, at_dVar, at_dC, bnd_some, List.getElem?_cons_zero, List.getElem?_cons_succ, fII_eq, e1, decide_true, if_true, toB_p]
    rw [at_dSeq]
    simp only [at_dSet, at_dOp, at_dCall, at_dCons, at_dVar, at_dC, at_dNil, bnd_some, List.getElem?_cons_zero, List.getElem?_cons_succ, mulk, fAdd_i, a3, a4, mr, ev, List.set_cons_zero, List.set_cons_succ, seqK_nx, at_dDrop, at_dBM, ty, if_true, at_dTup, cm, er, nt, ap]
  · have e1 : ¬ (kd : Int) < 4 := by omega
    simp only [at_dIf, at_dTest, at_dOp, at_dVar, at_dC, bnd_some, List.getElem?_cons_zero, List.getElem?_cons_succ, fII_eq, e1, decide_false, if_true, toB_p, Bool.false_eq_true, if_false]
    by_cases h2 : kd < 6 ∧ 0 < gs.length
    · have e2 : (kd : Int) < 6 := by omega
      have e3 : (0 : Int) < (gs.length : Int) := by omega
      have hlt : pk % gs.length < gs.length := Nat.mod_lt _ h2.2
      obtain ⟨w, hw⟩ : ∃ w, gs[pk % gs.length]? = some w := ⟨_, List.getElem?_eq_getElem hlt⟩
      have cg : ∀ (n : Nat) T, fMod (.p (.int (n : Int))) (.p (.int (gs.length : Int))) T = some (.p (.int ((n % gs.length : Nat) : Int)), T) := fun n T => mod_eq h2.2 T
      have ix : ∀ T, fIx (.p (.lst (gs.map grP))) (.p (.int ((pk % gs.length : Nat) : Int))) T = some (.p (grP w), T) := fun T => fIx_l (by rw [List.getElem?_map, hw]; rfl)
      have nt : ∀ T, newT [.p (.str "revoke"), .p (spotP w.1)] T = some (.p (pubP (.revoke (some w.1))), T) := fun T => newT_p (S := T) [.str "revoke", spotP w.1] (small (by simp))
      refine ⟨none, ps ++ [.revoke (some w.1)], ln _, snoc (.revoke (some w.1)) trivial, ?_⟩
      simp only [at_dAnd, at_dTest, at_dOp, at_dVar, at_dC, at_dCall, at_dCons, at_dNil, bnd_some, List.getElem?_cons_zero, List.getElem?_cons_succ, fII_eq, e2, e3, decide_true, if_true, toB_p, lg, at_dDrop, at_dBM, ty, at_dTup, cg, ix, gr_0, nt, ap]
    · have tst : dAnd (dTest (dOp fLt (dVar 8) (dC (.int 6)))) (dTest (dOp fGt (dCall fLen (dCons (dVar 6) dNil)) (dC (.int 0)))) [some (.p (.lst (intsP ds))), some (.p (.int (i : Int))), none, some (.p (.int (m : Int))), some d, some (.ref os.length), some (.p (.lst (gs.map grP))), some (.p (.int (k : Int))), some (.p (.int (kd : Int))), some (.p (.int (pk : Int))), none] ⟨b, os ++ [lpO (ps.map pubP)]⟩ = some (false, ⟨b, os ++ [lpO (ps.map pubP)]⟩) := by
        simp only [at_dAnd, at_dTest, at_dOp, at_dVar, at_dC, at_dCall, at_dCons, at_dNil, bnd_some, List.getElem?_cons_zero, List.getElem?_cons_succ, fII_eq, if_true, toB_p]
        by_cases q : kd < 6
        · have e2 : (kd : Int) < 6 := by omega
          have e3 : ¬ (0 : Int) < (gs.length : Int) := by omega
          simp only [e2, decide_true, if_true, lg, bnd_some, fII_eq, e3, decide_false, toB_p]
        · have e2 : ¬ (kd : Int) < 6 := by omega
          simp only [e2, decide_false, Bool.false_eq_true, if_false]
      simp only [tst, bnd_some, Bool.false_eq_true, if_false]
      by_cases h3 : (kd = 6 ∧ rr.a = 0) ∨ (kd = 7 ∧ pk % 4 = 0)
      · have nt : ∀ T, newT [.p (.str "seal")] T = some (.p (pubP .sl), T) := fun T => newT_p (S := T) [.str "seal"] (small (by simp))
        have tst3 : dOr (dAnd (dTest (dOp (fEq false) (dVar 8) (dC (.int 6)))) (dTest (dOp (fEq false) (dOp fIx (dVar 4) (dC (.int 0))) (dC (.int 0))))) (dAnd (dTest (dOp (fEq false) (dVar 8) (dC (.int 7)))) (dTest (dOp (fEq false) (dOp fMod (dVar 9) (dC (.int 4))) (dC (.int 0))))) [some (.p (.lst (intsP ds))), some (.p (.int (i : Int))), none, some (.p (.int (m : Int))), some d, some (.ref os.length), some (.p (.lst (gs.map grP))), some (.p (.int (k : Int))), some (.p (.int (kd : Int))), some (.p (.int (pk : Int))), none] ⟨b, os ++ [lpO (ps.map pubP)]⟩ = some (true, ⟨b, os ++ [lpO (ps.map pubP)]⟩) := by
          rcases h3 with ⟨q1, q2⟩ | ⟨q1, q2⟩
          · have e2 : (kd : Int) = 6 := by omega
            have e3 : (rr.a : Int) = 0 := by omega
            simp only [at_dOr, at_dAnd, at_dTest, at_dOp, at_dVar, at_dC, bnd_some, List.getElem?_cons_zero, List.getElem?_cons_succ, fEq_ii, e2, r5_0 hr1, e3, Bool.false_eq_true, if_false, decide_true, toB_p, if_true]
          · have e2 : ¬ (kd : Int) = 6 := by omega
            have e3 : (kd : Int) = 7 := by omega
            have e4 : ((pk % 4 : Nat) : Int) = 0 := by omega
            have e5 : ¬ (7 : Int) = 6 := by omega
            simp only [at_dOr, at_dAnd, at_dTest, at_dOp, at_dVar, at_dC, bnd_some, List.getElem?_cons_zero, List.getElem?_cons_succ, fEq_ii, e3, e5, c4, e4, Bool.false_eq_true, if_false, decide_true, decide_false, toB_p, if_true]
        refine ⟨none, ps ++ [.sl], ln _, snoc .sl trivial, ?_⟩
        simp only [tst3, bnd_some, if_true, at_dDrop, at_dBM, at_dVar, List.getElem?_cons_zero, List.getElem?_cons_succ, ty, at_dCons, at_dTup, at_dC, at_dNil, nt, ap]
      · have tst3 : dOr (dAnd (dTest (dOp (fEq false) (dVar 8) (dC (.int 6)))) (dTest (dOp (fEq false) (dOp fIx (dVar 4) (dC (.int 0))) (dC (.int 0))))) (dAnd (dTest (dOp (fEq false) (dVar 8) (dC (.int 7)))) (dTest (dOp (fEq false) (dOp fMod (dVar 9) (dC (.int 4))) (dC (.int 0))))) [some (.p (.lst (intsP ds))), some (.p (.int (i : Int))), none, some (.p (.int (m : Int))), some d, some (.ref os.length), some (.p (.lst (gs.map grP))), some (.p (.int (k : Int))), some (.p (.int (kd : Int))), some (.p (.int (pk : Int))), none] ⟨b, os ++ [lpO (ps.map pubP)]⟩ = some (false, ⟨b, os ++ [lpO (ps.map pubP)]⟩) := by
          simp only [at_dOr, at_dAnd, at_dTest, at_dOp, at_dVar, at_dC, bnd_some, List.getElem?_cons_zero, List.getElem?_cons_succ, fEq_ii, r5_0 hr1, c4, Bool.false_eq_true, if_false, toB_p, if_true]
          by_cases q1 : kd = 6
          · have e2 : (kd : Int) = 6 := by omega
            have e3 : ¬ (rr.a : Int) = 0 := by omega
            have e4 : ¬ (6 : Int) = 7 := by omega
            simp only [e2, e3, e4, decide_true, decide_false, if_true, bnd_some, Bool.false_eq_true, if_false]
          · have e2 : ¬ (kd : Int) = 6 := by omega
            by_cases q2 : kd = 7
            · have e3 : (kd : Int) = 7 := by omega
              have e4 : ¬ ((pk % 4 : Nat) : Int) = 0 := by omega
              have e5 : ¬ (7 : Int) = 6 := by omega
              simp only [e3, e4, e5, decide_true, decide_false, if_true, bnd_some, Bool.false_eq_true, if_false]
            · have e3 : ¬ (kd : Int) = 7 := by omega
              simp only [e2, e3, decide_true, decide_false, if_true, bnd_some, Bool.false_eq_true, if_false]
        simp only [tst3, bnd_some, Bool.false_eq_true, if_false]
        by_cases h4 : kd = 7 ∧ pk % 4 = 1
        · have e3 : (kd : Int) = 7 := by omega
          have e4 : ((pk % 4 : Nat) : Int) = 1 := by omega
          have nt : ∀ T, newT [.p (.str "revoke"), .p .non] T = some (.p (pubP (.revoke none)), T) := fun T => newT_p (S := T) [.str "revoke", .non] (small (by simp))
          refine ⟨none, ps ++ [.revoke none], ln _, snoc (.revoke none) trivial, ?_⟩
          simp only [at_dAnd, at_dTest, at_dOp, at_dVar, at_dC, bnd_some, List.getElem?_cons_zero, List.getElem?_cons_succ, fEq_ii, e3, c4, e4, Bool.false_eq_true, if_false, decide_true, toB_p, if_true, at_dDrop, at_dBM, ty, at_dCons, at_dTup, at_dNil, nt, ap]
        · refine ⟨none, ps, Nat.le_succ _, fun h => h, ?_⟩
          have tst4 : dAnd (dTest (dOp (fEq false) (dVar 8) (dC (.int 7)))) (dTest (dOp (fEq false) (dOp fMod (dVar 9) (dC (.int 4))) (dC (.int 1)))) [some (.p (.lst (intsP ds))), some (.p (.int (i : Int))), none, some (.p (.int (m : Int))), some d, some (.ref os.length), some (.p (.lst (gs.map grP))), some (.p (.int (k : Int))), some (.p (.int (kd : Int))), some (.p (.int (pk : Int))), none] ⟨b, os ++ [lpO (ps.map pubP)]⟩ = some (false, ⟨b, os ++ [lpO (ps.map pubP)]⟩) := by
            simp only [at_dAnd, at_dTest, at_dOp, at_dVar, at_dC, bnd_some, List.getElem?_cons_zero, List.getElem?_cons_succ, fEq_ii, c4, Bool.false_eq_true, if_false, toB_p]
            by_cases q2 : kd = 7
            · have e3 : (kd : Int) = 7 := by omega
              have e4 : ¬ ((pk % 4 : Nat) : Int) = 1 := by omega
              simp only [e3, e4, decide_true, decide_false, if_true, bnd_some]
            · have e3 : ¬ (kd : Int) = 7 := by omega
              simp only [e3, decide_false, Bool.false_eq_true, if_false]
          simp only [tst4, bnd_some, Bool.false_eq_true, if_false, at_dNx]
end
theorem publics_eq {S : SH} {L : Nat} {xs : List (R5 × Nat)} (r : RW5 S L xs) (hx : xs.length ≤ 20) (ok : ∀ x ∈ xs, Ok5 x.1) {d : D} {rr : R5} (hr : IsRow S d rr) {ds : List Int} (hd : ∀ d ∈ ds, 0 ≤ d ∧ d < 9973) {m : Nat} (hm : 1 ≤ m) (i : Nat) :
    ∃ ps : List Pub5, ps.length ≤ 2 ∧ (∀ p ∈ ps, OkPub p) ∧ m_publics [.p (.lst (intsP ds)), .p (.int (i : Int)), .ref L, .p (.int (m : Int)), d] S = some (.p (.lst (ps.map pubP)), S) := by
  obtain ⟨u, hu, au⟩ := at_nat hd (i : Int) (by omega)
  obtain ⟨S1, hS⟩ : ∃ S1 : SH, S1 = ⟨S.os.length, S.os ++ [lpO []]⟩ := ⟨_, rfl⟩
  have r1 : RW5 S1 L xs := by rw [hS]; exact RW5.app (b := S.b) r _
  obtain ⟨gs, gl, ge⟩ := grants_eq r1 hx ok
  have c3 : ∀ (n : Nat) T, fMod (.p (.int (n : Int))) (.p (.int 3)) T = some (.p (.int ((n % 3 : Nat) : Int)), T) := fun n T => mod_eq (by decide) T
  have c8 : ∀ (n : Nat) T, fMod (.p (.int (n : Int))) (.p (.int 8)) T = some (.p (.int ((n % 8 : Nat) : Int)), T) := fun n T => mod_eq (by decide) T
  have n0 : newL true [] (⟨S.os.length, S.os⟩ : SH) = some (.ref S.os.length, S1) := by rw [hS]; exact newL_t _ (small (by simp))
  obtain ⟨σ', S', h1, rfl, ps, rfl, hl, ho⟩ := rng0_inv (body := puB) (ws := [2, 7, 8, 9, 10]) (j := 7) (fun k σ T => σ = [some (.p (.lst (intsP ds))), some (.p (.int (i : Int))), none, some (.p (.int (m : Int))), some d, some (.ref S.os.length), some (.p (.lst (gs.map grP))), none, none, none, none] ∧ ∃ ps : List Pub5, T = ⟨S.os.length, S.os ++ [lpO (ps.map pubP)]⟩ ∧ ps.length ≤ k ∧ ∀ p ∈ ps, OkPub p) (u % 3)
    (σ := [some (.p (.lst (intsP ds))), some (.p (.int (i : Int))), none, some (.p (.int (m : Int))), some d, some (.ref S.os.length), some (.p (.lst (gs.map grP))), none, none, none, none]) (S := S1) ⟨rfl, [], hS, by simp, by simp⟩ (by
    rintro k σ T hk ⟨rfl, ps, rfl, hl, ho⟩
    obtain ⟨v, hv, a1⟩ := at_nat hd ((i : Int) + 1 + 4 * (k : Int)) (by omega)
    obtain ⟨w, hw, a2⟩ := at_nat hd ((i : Int) + 2 + 4 * (k : Int)) (by omega)
    obtain ⟨x, ps', l', o', e⟩ := puT_eq (b := S.os.length) hr hd hm (gs := gs) i k (v % 8) w (Nat.mod_lt _ (by decide)) ps (by omega)
    refine ⟨[some (.p (.lst (intsP ds))), some (.p (.int (i : Int))), none, some (.p (.int (m : Int))), some d, some (.ref S.os.length), some (.p (.lst (gs.map grP))), some (.p (.int (k : Int))), some (.p (.int ((v % 8 : Nat) : Int))), some (.p (.int (w : Int))), x], _, .inl ?_, rfl, ps', rfl, by omega, o' ho⟩
    unfold puB
    rw [at_dSeq]
    simp only [at_dSet, at_dOp, at_dCall, at_dCons, at_dVar, at_dC, at_dNil, bnd_some, List.set_cons_zero, List.set_cons_succ, List.getElem?_cons_zero, List.getElem?_cons_succ, mulk, fAdd_i, a1, c8, seqK_nx]
    rw [at_dSeq]
    simp only [at_dSet, at_dOp, at_dCall, at_dCons, at_dVar, at_dC, at_dNil, bnd_some, List.set_cons_zero, List.set_cons_succ, List.getElem?_cons_zero, List.getElem?_cons_succ, mulk, fAdd_i, a2, seqK_nx]
    exact e)
  refine ⟨ps, by omega, ho, ?_⟩
  unfold m_publics
  rw [fn_at (k := 5) rfl, show startD 11 [.p (.lst (intsP ds)), .p (.int (i : Int)), .ref L, .p (.int (m : Int)), d] = [some (.p (.lst (intsP ds))), some (.p (.int (i : Int))), some (.ref L), some (.p (.int (m : Int))), some d, none, none, none, none, none, none] from rfl, at_dSeq]
  simp only [at_dSet, at_dLst, at_dNil, bnd_some, n0, seqK_nx, List.set_cons_zero, List.set_cons_succ]
  rw [at_dSeq]
  simp only [at_dSet, at_dCall, at_dCons, at_dVar, at_dNil, bnd_some, List.getElem?_cons_zero, List.getElem?_cons_succ, ge, seqK_nx, List.set_cons_zero, List.set_cons_succ]
  rw [at_dSeq]
  unfold puB puT at h1
  simp only [at_dFor, at_dRng1, at_dOp, at_dCall, at_dCons, at_dVar, at_dC, at_dNil, bnd_some, List.getElem?_cons_zero, List.getElem?_cons_succ, au, c3, rng_nat (u % 3) (by omega), wipeD, List.set_cons_zero, List.set_cons_succ, h1, seqK_nx, at_dRet]
  exact frame_lp S _ _
end Kb
namespace Kb
open PySem PySem.Spec PyProof.Rows L2 Pv
abbrev X5 := R5 × Nat
abbrev liO (l : List Int) : Ob := .lst ((intsP l).map D.p)
def RowAt (S : SH) (x : X5) : Prop := S.os[x.2]? = some (lpO (row5L x.1))
def updF {α : Type} (f : Nat → α) (a : Nat) (v : α) : Nat → α := fun n => if n = a then v else f n
theorem updF_eq {α : Type} (f : Nat → α) (a : Nat) (v : α) : updF f a v a = v := if_pos rfl
theorem updF_ne {α : Type} (f : Nat → α) {a n : Nat} (v : α) (h : n ≠ a) : updF f a v n = f n := if_neg h
def tab {α : Type} (m : Nat) (f : Nat → α) : List α := (List.range m).map f
theorem tab_len {α : Type} (m : Nat) (f : Nat → α) : (tab m f).length = m := by simp [tab]
theorem tab_at {α : Type} {m j : Nat} (f : Nat → α) (h : j < m) : (tab m f)[j]? = some (f j) := by simp [tab, h]
theorem tab_set {α : Type} (m : Nat) (f : Nat → α) (a : Nat) (v : α) : (tab m f).set a v = tab m (updF f a v) := by
  apply List.ext_getElem?
  intro i
  by_cases h : i < m
  · by_cases e : a = i
    · subst e
      rw [List.getElem?_set_self (by rw [tab_len]; exact h), tab_at _ h, updF_eq]
    · rw [List.getElem?_set_ne e, tab_at _ h, tab_at _ h, updF_ne _ _ (Ne.symm e)]
  · rw [List.getElem?_eq_none (by rw [List.length_set, tab_len]; omega), List.getElem?_eq_none (by rw [tab_len]; omega)]
theorem intsP_tab (m : Nat) (f : Nat → Int) : (intsP (tab m f)).map D.p = tab m fun j => D.p (.int (f j)) := by
  unfold intsP tab
  rw [List.map_map, List.map_map]
  rfl
/-! the pure side -/
def cnt (rs : List R5) (j : Nat) : Nat := (rs.filter fun r => r.a = j).length
theorem cnt_app (rs : List R5) (r : R5) (j : Nat) : cnt (rs ++ [r]) j = cnt rs j + (if r.a = j then 1 else 0) := by
  unfold cnt
  rw [List.filter_append, List.length_append]
  by_cases h : r.a = j
  · rw [if_pos h, List.filter_cons_of_pos (by simpa using h)]; rfl
  · rw [if_neg h, List.filter_cons_of_neg (by simpa using h)]; rfl
structure Told (m : Nat) (rs : List R5) : Prop where
  al : ∀ r ∈ rs, r.a < m
  hl : ∀ r ∈ rs, r.h.length = m
  own : ∀ r ∈ rs, r.h[r.a]? = some ((r.n : Int) - 1) ∧ 1 ≤ r.n
  le : ∀ r ∈ rs, ∀ (j : Nat) (x : Int), r.h[j]? = some x → 0 ≤ x ∧ x ≤ cnt rs j
  num : ∀ j, (rs.filter fun r => r.a = j).map (·.n) = List.range' 1 (cnt rs j)
  ord : ∀ (i : Nat) (r : R5), rs[i]? = some r → r.n = cnt (rs.take i) r.a + 1
structure SeenOk (m : Nat) (rs : List R5) (s : Nat → Nat → Int) : Prop where
  le : ∀ i j, i < m → j < m → 0 ≤ s i j ∧ s i j ≤ cnt rs j
  own : ∀ i, i < m → s i i = cnt rs i
theorem told_nil (m : Nat) : Told m [] := ⟨by simp, by simp, by simp, by simp, fun _ => rfl, fun i r h => by cases h⟩
theorem seen_nil (m : Nat) : SeenOk m [] fun _ _ => 0 := ⟨fun _ _ _ _ => ⟨Int.le_refl _, by simp [cnt]⟩, fun _ _ => by simp [cnt]⟩
def mx (u v : Nat → Int) (j : Nat) : Int := if v j > u j then v j else u j
theorem SeenOk.mx {m : Nat} {rs : List R5} {s : Nat → Nat → Int} (h : SeenOk m rs s) {a p : Nat} (ha : a < m) (hp : p < m) : SeenOk m rs (updF s a (mx (s a) (s p))) := by
  refine ⟨fun i j hi hj => ?_, fun i hi => ?_⟩
  · by_cases e : i = a
    · subst e
      rw [updF_eq]
      unfold Kb.mx
      split
      · exact h.le p j hp hj
      · exact h.le i j hi hj
    · rw [updF_ne _ _ e]
      exact h.le i j hi hj
  · by_cases e : i = a
    · subst e
      rw [updF_eq]
      unfold Kb.mx
      have a1 := h.own i hi
      have a2 := (h.le p i hp hi).2
      rw [if_neg (by omega), a1]
    · rw [updF_ne _ _ e]
      exact h.own i hi
theorem told_step {m : Nat} {rs : List R5} {s : Nat → Nat → Int} (t : Told m rs) (h : SeenOk m rs s) {a : Nat} (ha : a < m) (cp : Option Spot) (pb : List Pub5) : Told m (rs ++ [⟨a, cnt rs a + 1, tab m (s a), cp, pb⟩]) ∧ SeenOk m (rs ++ [⟨a, cnt rs a + 1, tab m (s a), cp, pb⟩]) (updF s a (updF (s a) a (s a a + 1))) := by
  have ca : ∀ j, cnt rs j ≤ cnt (rs ++ [⟨a, cnt rs a + 1, tab m (s a), cp, pb⟩]) j := fun j => by rw [cnt_app]; omega
  refine ⟨⟨fun r hr => ?_, fun r hr => ?_, fun r hr => ?_, fun r hr j x hx => ?_, fun j => ?_, fun i r hr => ?_⟩, ⟨fun i j hi hj => ?_, fun i hi => ?_⟩⟩
  · rcases List.mem_append.mp hr with hr | hr
    · exact t.al r hr
    · rw [List.mem_singleton.mp hr]; exact ha
  · rcases List.mem_append.mp hr with hr | hr
    · exact t.hl r hr
    · rw [List.mem_singleton.mp hr]; exact tab_len _ _
  · rcases List.mem_append.mp hr with hr | hr
    · exact t.own r hr
    · rw [List.mem_singleton.mp hr]
      refine ⟨?_, by show 1 ≤ cnt rs a + 1; omega⟩
      show (tab m (s a))[a]? = some (((cnt rs a + 1 : Nat) : Int) - 1)
      rw [tab_at _ ha, h.own a ha]
      congr 1
      omega
  · have c := ca j
    rcases List.mem_append.mp hr with hr | hr
    · have := t.le r hr j x hx
      omega
    · rw [List.mem_singleton.mp hr] at hx
      have hx' : (tab m (s a))[j]? = some x := hx
      have hj : j < m := by
        have := (List.getElem?_eq_some_iff.mp hx').1
        rwa [tab_len] at this
      rw [tab_at _ hj] at hx'
      cases hx'
      have := h.le a j ha hj
      omega
  · rw [cnt_app, List.filter_append, List.map_append, t.num j]
    by_cases e : a = j
    · subst e
      rw [if_pos rfl, List.filter_cons_of_pos (by simp), List.range'_concat]
      simp
      omega
    · rw [if_neg e, List.filter_cons_of_neg (by simpa using e)]
      simp
  · by_cases hi : i < rs.length
    · rw [List.getElem?_append_left hi] at hr
      rw [List.take_append_of_le_length (by omega)]
      exact t.ord i r hr
    · have hi2 : i = rs.length := by
        have := (List.getElem?_eq_some_iff.mp hr).1
        rw [List.length_append, List.length_singleton] at this
        omega
      subst hi2
      rw [List.getElem?_append_right (Nat.le_refl _), Nat.sub_self] at hr
      cases hr
      rw [List.take_append_of_le_length (Nat.le_refl _), List.take_length]
  · have c := ca j
    have q := h.le i j hi hj
    by_cases e : i = a
    · subst e
      rw [updF_eq]
      by_cases e2 : j = i
      · subst e2
        rw [updF_eq, cnt_app, if_pos rfl]
        omega
      · rw [updF_ne _ _ e2]
        omega
    · rw [updF_ne _ _ e]
      omega
  · rw [cnt_app]
    by_cases e : i = a
    · subst e
      rw [updF_eq, updF_eq, h.own i hi, if_pos rfl]
      omega
    · rw [updF_ne _ _ e, h.own i hi]
      rw [if_neg (fun z => e z.symm)]
      omega
/-! the objects -/
theorem put_ne {S : SH} {p q : Nat} {o x : Ob} (h : q ≠ p) (e : S.os[q]? = some x) : (S.put p o).os[q]? = some x := by
  show (S.os.set p o)[q]? = _
  rw [List.getElem?_set_ne (Ne.symm h), e]
theorem put_eq {S : SH} {p : Nat} {o x : Ob} (e : S.os[p]? = some x) : (S.put p o).os[p]? = some o := by
  show (S.os.set p o)[p]? = _
  exact List.getElem?_set_self (List.getElem?_eq_some_iff.mp e).1
theorem get_lt {S : SH} {q : Nat} {x : Ob} (e : S.os[q]? = some x) : q < S.os.length := (List.getElem?_eq_some_iff.mp e).1
theorem push_old {S : SH} {q : Nat} {x y : Ob} (e : S.os[q]? = some x) : (S.push y).os[q]? = some x := by
  show (S.os ++ [y])[q]? = _
  rw [List.getElem?_append_left (get_lt e), e]
theorem push_new (S : SH) (y : Ob) : (S.push y).os[S.os.length]? = some y := by simp
structure TJ (S : SH) (m : Nat) (s : Nat → Nat → Int) (ids : Nat → Nat) (L : Nat) (xs : List X5) (κ : Nat → Nat × Nat) : Prop where
  b : S.b = 0
  root : S.os[0]? = some (.lst (tab m fun j => .ref (ids j)))
  k0 : κ 0 = (0, 0)
  rows : S.os[L]? = some (.lst (xs.map fun x => .ref x.2))
  kL : κ L = (1, 0)
  sn : ∀ j, j < m → κ (ids j) = (2, j) ∧ S.os[ids j]? = some (liO (tab m (s j)))
  rw : ∀ (k : Nat) (x : X5), xs[k]? = some x → κ x.2 = (3, k) ∧ RowAt S x
section
variable {S : SH} {m : Nat} {s : Nat → Nat → Int} {ids : Nat → Nat} {L : Nat} {xs : List X5} {κ : Nat → Nat × Nat}
theorem kne {i j : Nat} {x y : Nat × Nat} (h1 : κ i = x) (h2 : κ j = y) (h : x ≠ y) : i ≠ j := fun e => by
  subst e
  exact h (h1.symm.trans h2)
theorem kn {n : Nat} {x : Ob} {v : Nat × Nat} (e : S.os[n]? = some x) : updF κ S.os.length v n = κ n := updF_ne _ _ (Nat.ne_of_lt (get_lt e))
theorem TJ.seenPut (h : TJ S m s ids L xs κ) {a : Nat} (ha : a < m) (f : Nat → Int) : TJ (S.put (ids a) (liO (tab m f))) m (updF s a f) ids L xs κ := by
  obtain ⟨ka, ea⟩ := h.sn a ha
  refine ⟨h.b, put_ne (kne h.k0 ka (by simp)) h.root, h.k0, put_ne (kne h.kL ka (by simp)) h.rows, h.kL, fun j hj => ?_, fun k x hx => ?_⟩
  · obtain ⟨kj, ej⟩ := h.sn j hj
    refine ⟨kj, ?_⟩
    by_cases e : j = a
    · subst e
      rw [updF_eq]
      exact put_eq ea
    · rw [updF_ne _ _ e]
      exact put_ne (kne kj ka (by simpa using e)) ej
  · obtain ⟨k1, r1⟩ := h.rw k x hx
    exact ⟨k1, put_ne (kne k1 ka (by simp)) r1⟩
theorem TJ.seenNew (h : TJ S m s ids L xs κ) {a : Nat} (ha : a < m) (f : Nat → Int) : TJ ((S.push (liO (tab m f))).put 0 (.lst (tab m fun j => .ref (updF ids a S.os.length j)))) m (updF s a f) (updF ids a S.os.length) L xs (updF κ S.os.length (2, a)) := by
  have e0 : updF κ S.os.length (2, a) 0 = (0, 0) := (kn h.root).trans h.k0
  have eL : updF κ S.os.length (2, a) L = (1, 0) := (kn h.rows).trans h.kL
  refine ⟨h.b, put_eq (push_old h.root), e0, put_ne (kne eL e0 (by simp)) (push_old h.rows), eL, fun j hj => ?_, fun k x hx => ?_⟩
  · by_cases e : j = a
    · subst e
      rw [updF_eq, updF_eq, updF_eq]
      exact ⟨rfl, put_ne (Nat.ne_of_gt (get_lt h.root)) (push_new _ _)⟩
    · obtain ⟨kj, ej⟩ := h.sn j hj
      rw [updF_ne _ _ e, updF_ne _ _ e]
      exact ⟨(kn ej).trans kj, put_ne (kne kj h.k0 (by simp)) (push_old ej)⟩
  · obtain ⟨k1, r1⟩ := h.rw k x hx
    exact ⟨(kn r1).trans k1, put_ne (kne k1 h.k0 (by simp)) (push_old r1)⟩
theorem TJ.addRow (h : TJ S m s ids L xs κ) (r : R5) : TJ ((S.push (lpO (row5L r))).put L (.lst ((xs ++ [(r, S.os.length)]).map fun x => .ref x.2))) m s ids L (xs ++ [(r, S.os.length)]) (updF κ S.os.length (3, xs.length)) := by
  have e0 := (kn (v := (3, xs.length)) h.root).trans h.k0
  have eL := (kn (v := (3, xs.length)) h.rows).trans h.kL
  refine ⟨h.b, put_ne (kne h.k0 h.kL (by simp)) (push_old h.root), e0, put_eq (push_old h.rows), eL, fun j hj => ?_, fun k x hx => ?_⟩
  · obtain ⟨kj, ej⟩ := h.sn j hj
    exact ⟨(kn ej).trans kj, put_ne (kne kj h.kL (by simp)) (push_old ej)⟩
  · by_cases hk : k < xs.length
    · rw [List.getElem?_append_left hk] at hx
      obtain ⟨k1, r1⟩ := h.rw k x hx
      exact ⟨(kn r1).trans k1, put_ne (kne k1 h.kL (by simp)) (push_old r1)⟩
    · have hk2 : k = xs.length := by
        have := (List.getElem?_eq_some_iff.mp hx).1
        rw [List.length_append, List.length_singleton] at this
        omega
      subst hk2
      rw [List.getElem?_append_right (Nat.le_refl _), Nat.sub_self] at hx
      cases hx
      have lL := get_lt h.rows
      exact ⟨updF_eq _ _ _, put_ne (show S.os.length ≠ L by omega) (push_new _ _)⟩
theorem TJ.rws (h : TJ S m s ids L xs κ) : RW5 S L xs := by
  refine ⟨h.rows, fun x hx => ?_⟩
  obtain ⟨k, hk, rfl⟩ := List.getElem_of_mem hx
  exact (h.rw k _ (List.getElem?_eq_getElem hk)).2
end
end Kb
namespace Kb
open PySem PySem.Spec PyProof.Rows L2 Pv
theorem okRef_0 {S : SH} {k : Nat} {v : D} (hb : S.b = 0) : okRef S k v = true := by
  cases v with
  | p x => rfl
  | ref j => show decide (S.b ≤ k) = true; rw [hb]; simp
theorem ints_at {m j : Nat} {f : Nat → Int} (h : j < m) : ((intsP (tab m f)).map D.p)[j]? = some (.p (.int (f j))) := by
  rw [intsP_tab, tab_at _ h]
theorem intsP_setL (l : List Int) (j : Nat) (v : Int) : ((intsP l).map D.p).set j (.p (.int v)) = (intsP (l.set j v)).map D.p := by
  unfold intsP
  rw [List.map_set, List.map_set]
theorem tab_succ {α : Type} (k : Nat) (f : Nat → α) : tab (k + 1) f = tab k f ++ [f k] := by
  unfold tab
  rw [List.range_succ, List.map_append]
  rfl
theorem comp_tab {elt : ME} {σ : En} {S : SH} {j m : Nat} (f : Nat → D) (hm : m ≤ 1000) (h : ∀ i, i < m → elt (σ.set j (some (.p (.int (i : Int))))) S = some (f i, S)) :
    compL (srcN 0 m).fin (gNm j) dYes elt σ (srcN 0 m).items [] S = some (tab m f, S) := by
  rw [comp_rng (S := S) (j := j) (t := dYes) (elt := elt) (σ := σ) (fun _ => true) f m (small hm) fun i hi => ⟨rfl, fun _ => h i hi⟩, List.filter_eq_self.mpr fun _ _ => rfl]
  rfl
theorem comp_tab1 {elt : ME} {σ : En} {S : SH} {j m : Nat} (f : Nat → D) (hm : m ≤ 1000) (h : ∀ i, i < m → elt (σ.set j (some (.p (.int (1 + (i : Int)))))) S = some (f i, S)) :
    compL (srcN 1 m).fin (gNm j) dYes elt σ (srcN 1 m).items [] S = some (tab m f, S) := by
  have q := comp_all (t := dYes) (elt := elt) (g := gNm j) (fin := (srcN 1 m).fin) (S := S) (σ := σ) (fun _ => true) f (fun (i : Nat) _ => some (.p (.int (1 + (i : Int))))) rfl (List.range m) [] (by rw [List.length_nil, Nat.zero_add, List.length_range]; exact small hm) fun i hi => ⟨_, _, rfl, rfl, rfl, fun _ => h i (List.mem_range.mp hi)⟩
  rw [List.nil_append, List.filter_eq_self.mpr fun _ _ => rfl] at q
  exact q
/-! the first loop -/
abbrev z4 (m : Nat) : Ob := liO (tab m fun _ => 0)
def S0 (m k : Nat) : SH := ⟨0, .lst (tab k fun j => .ref (1 + j)) :: List.replicate k (z4 m)⟩
abbrev t1B : MS := dDrop (dBM "list" fApp (dVar 5) (dCons (dComp true (dRng1 (dCons (dVar 2) dNil)) (gNm 12) dYes (dC (.int 0)) [12]) dNil))
abbrev e1E (dp st mp cp rp : P) (k : Option D) : En := [some (.p dp), some (.p st), some (.p mp), some (.p cp), some (.p rp), some (.ref 0), k, none, none, none, none, none, none, none]
theorem t1_step (dp st cp rp : P) (m k : Nat) (hm : m ≤ 6) (hk : k < m) : t1B (e1E dp st (.int (m : Int)) cp rp (some (.p (.int (k : Int))))) (S0 m k) =
    some (.nx (e1E dp st (.int (m : Int)) cp rp (some (.p (.int (k : Int))))), S0 m (k + 1)) := by
  have e0 : (S0 m k).os[0]? = some (.lst (tab k fun j => .ref (1 + j))) := rfl
  have cp1 := comp_tab (S := S0 m k) (j := 12) (elt := dC (.int 0)) (σ := e1E dp st (.int (m : Int)) cp rp (some (.p (.int (k : Int))))) (fun _ => .p (.int 0)) (m := m) (by omega) fun i hi => rfl
  have ln : (S0 m k).os.length = 1 + k := by simp [S0]; omega
  have nl := newL_t (S := S0 m k) (tab m fun _ => .p (.int 0)) (small (by rw [tab_len]; omega))
  rw [ln] at nl
  have ap := fApp_r (S := (S0 m k).push (z4 m)) (n := 0) (ds := tab k fun j => .ref (1 + j)) (v := .ref (1 + k)) (push_old e0) (lt_line (by rw [tab_len]; omega)) rfl
  have ez : (⟨(S0 m k).b, (S0 m k).os ++ [.lst (tab m fun _ => .p (.int 0))]⟩ : SH) = (S0 m k).push (z4 m) := by
    unfold z4 liO
    rw [intsP_tab]
  rw [ez] at nl
  rw [← tab_succ k fun j => D.ref (1 + j)] at ap
  have es : ((S0 m k).push (z4 m)).put 0 (.lst (tab (k + 1) fun j => .ref (1 + j))) = S0 m (k + 1) := by
    unfold S0 SH.put
    show (⟨0, (Ob.lst _ :: (List.replicate k (z4 m) ++ [z4 m]))⟩ : SH) = _
    rw [← List.replicate_succ']
  rw [es] at ap
  unfold e1E at cp1
  unfold t1B e1E
  simp only [at_dDrop, at_dBM, at_dVar, bnd_some, List.getElem?_cons_zero, List.getElem?_cons_succ, isTy_ref e0, if_true, at_dCons, at_dComp, at_dRng1, at_dNil, rng_nat m (by omega), wipeD, List.set_cons_zero, List.set_cons_succ, cp1, nl, ap]
theorem t1_loop (dp st cp rp : P) (m : Nat) (hm : m ≤ 6) : forL [6, 7, 8, 9, 10, 11] (srcN 0 m).fin (gNm 6) t1B (srcN 0 m).items (e1E dp st (.int (m : Int)) cp rp none) (S0 m 0) =
    some (.nx (e1E dp st (.int (m : Int)) cp rp none), S0 m m) := by
  obtain ⟨σ', S', h1, rfl, rfl⟩ := rng0_inv (body := t1B) (ws := [6, 7, 8, 9, 10, 11]) (j := 6) (fun k σ S => σ = e1E dp st (.int (m : Int)) cp rp none ∧ S = S0 m k) m (σ := e1E dp st (.int (m : Int)) cp rp none) (S := S0 m 0) ⟨rfl, rfl⟩ (by
    rintro k σ S hk ⟨rfl, rfl⟩
    exact ⟨_, _, .inl (t1_step dp st cp rp m k hm hk), rfl, rfl⟩)
  exact h1
theorem tj_init (m : Nat) (hm : 1 ≤ m) : TJ ((S0 m m).push (.lst [])) m (fun _ _ => 0) (fun j => 1 + j) (m + 1) [] (fun n => if n = 0 then (0, 0) else if n = m + 1 then (1, 0) else (2, n - 1)) := by
  have ln : (S0 m m).os.length = m + 1 := by simp [S0]
  refine ⟨rfl, rfl, rfl, ?_, by simp, fun j hj => ⟨?_, ?_⟩, fun k x hx => by cases hx⟩
  · rw [← ln]
    exact push_new _ _
  · show (if 1 + j = 0 then _ else if 1 + j = m + 1 then _ else _) = _
    rw [if_neg (by omega), if_neg (by omega), show 1 + j - 1 = j by omega]
  · refine push_old ?_
    show (Ob.lst _ :: List.replicate m (z4 m))[1 + j]? = _
    rw [show 1 + j = j + 1 by omega, List.getElem?_cons_succ, List.getElem?_replicate, if_pos hj]
/-! the second loop -/
abbrev t2A : MS := dIf (dTest (dOp fLt (dVar 10) (dVar 2)))
      (dAsg (dComp true (dRng1 (dCons (dVar 2) dNil)) (gNm 12) dYes (dCall fMax (dCons (dOp fIx (dOp fIx (dVar 5) (dVar 9)) (dVar 12)) (dCons (dOp fIx (dOp fIx (dVar 5) (dVar 10)) (dVar 12)) dNil))) [12]) (gSb (dVar 5) (dVar 9)))
      dNx
abbrev t2N : MS := (dSet 11 (dLst true (dCons (dVar 9) (dCons (dOp (fAdd false) (dOp fIx (dOp fIx (dVar 5) (dVar 9)) (dVar 9)) (dC (.int 1))) (dCons (dCall (fList false) (dCons (dOp fIx (dVar 5) (dVar 9)) dNil)) (dCons (dC .non) (dCons (dLst false dNil) (dCons (dLst false (dCons (dTup dNil) (dCons (dTup dNil) (dCons (dTup dNil) (dCons (dTup dNil) dNil))))) dNil))))))))
abbrev t2C : MS := (dIf (dAnd (dTest (dOp (fEq false) (dVar 6) (dC (.int 0)))) (dTru (dVar 4)))
      (dAsg (dComp false (dRng2 (dCons (dC (.int 1)) (dCons (dVar 2) dNil))) (gNm 13) dYes (dTup (dCons (dC (.str "grant")) (dCons (dVar 13) (dCons (dCall m_full dNil) dNil)))) [13]) (gSb (dVar 11) (dC (.int 4))))
      (dSeq (dAsg (dCall m_choice (dCons (dVar 0) (dCons (dOp (fAdd false) (dVar 8) (dC (.int 2))) (dCons (dVar 7) (dCons (dVar 11) dNil))))) (gSb (dVar 11) (dC (.int 3))))
    (dAsg (dCall m_publics (dCons (dVar 0) (dCons (dOp (fAdd false) (dVar 8) (dC (.int 3))) (dCons (dVar 7) (dCons (dVar 2) (dCons (dVar 11) dNil)))))) (gSb (dVar 11) (dC (.int 4))))))
abbrev t2E : MS := (dSeq (dDrop (dBM "list" fApp (dVar 7) (dCons (dVar 11) dNil)))
    (dAsg (dOp fIx (dVar 11) (dC (.int 1))) (gSb (dOp fIx (dVar 5) (dVar 9)) (dVar 9))))
abbrev t2B : MS := (dSeq (dSet 8 (dOp (fAdd false) (dVar 1) (dOp fMul (dC (.int 16)) (dVar 6))))
    (dSeq (dSet 9 (dOp fMod (dCall m_at (dCons (dVar 0) (dCons (dVar 8) dNil))) (dVar 2)))
    (dSeq (dSet 10 (dOp fMod (dCall m_at (dCons (dVar 0) (dCons (dOp (fAdd false) (dVar 8) (dC (.int 1))) dNil))) (dOp (fAdd false) (dVar 2) (dC (.int 2)))))
    (dSeq (dIf (dAnd (dTest (dOp (fEq false) (dVar 6) (dC (.int 0)))) (dTru (dVar 4)))
      (dSet 9 (dC (.int 0)))
      dNx)
    (dSeq (dIf (dTest (dOp (fEq false) (dVar 10) (dVar 2)))
      (dSet 10 (dC (.int 0)))
      dNx)
    (dSeq t2A (dSeq t2N (dSeq t2C t2E))))))))
abbrev e2E (ds : List Int) (st m L k B A Q : Nat) (rich : Bool) (row : Option D) : En := [some (.p (.lst (intsP ds))), some (.p (.int (st : Int))), some (.p (.int (m : Int))), none, some (.p (.bl rich)), some (.ref 0), some (.p (.int (k : Int))), some (.ref L), some (.p (.int (B : Int))), some (.p (.int (A : Int))), some (.p (.int (Q : Int))), row, none, none]
section
variable {S : SH} {m : Nat} {s : Nat → Nat → Int} {ids : Nat → Nat} {L : Nat} {xs : List X5} {κ : Nat → Nat × Nat}
theorem TJ.ix (h : TJ S m s ids L xs κ) {a : Nat} (ha : a < m) : fIx (.ref 0) (.p (.int (a : Int))) S = some (.ref (ids a), S) := fIx_rn h.root (tab_at _ ha)
theorem TJ.ix2 (h : TJ S m s ids L xs κ) {a j : Nat} (ha : a < m) (hj : j < m) : fIx (.ref (ids a)) (.p (.int (j : Int))) S = some (.p (.int (s a j)), S) := fIx_rn (h.sn a ha).2 (ints_at hj)
theorem TJ.push (h : TJ S m s ids L xs κ) (o : Ob) : TJ (S.push o) m s ids L xs κ := ⟨h.b, push_old h.root, h.k0, push_old h.rows, h.kL, fun j hj => ⟨(h.sn j hj).1, push_old (h.sn j hj).2⟩, fun k x hx => ⟨(h.rw k x hx).1, push_old (h.rw k x hx).2⟩⟩
theorem t2a_eq (h : TJ S m s ids L xs κ) {rs : List R5} (o : SeenOk m rs s) (hm : m ≤ 6) (ds : List Int) (st k B Q : Nat) (rich : Bool) {a : Nat} (ha : a < m) : ∃ S' s' ids' κ', t2A (e2E ds st m L k B a Q rich none) S =
    some (.nx (e2E ds st m L k B a Q rich none), S') ∧ TJ S' m s' ids' L xs κ' ∧ SeenOk m rs s' := by
  by_cases hp : Q < m
  · have hp2 : (Q : Int) < (m : Int) := by omega
    refine ⟨_, _, _, _, ?_, h.seenNew ha (mx (s a) (s Q)), o.mx ha hp⟩
    have cp := comp_tab (S := S) (j := 12) (elt := dCall fMax (dCons (dOp fIx (dOp fIx (dVar 5) (dVar 9)) (dVar 12)) (dCons (dOp fIx (dOp fIx (dVar 5) (dVar 10)) (dVar 12)) dNil))) (σ := e2E ds st m L k B a Q rich none) (fun j => .p (.int (mx (s a) (s Q) j))) (m := m) (by omega) fun i hi => by
      simp only [at_dCall, at_dCons, at_dOp, at_dVar, at_dNil, bnd_some, List.set_cons_zero, List.set_cons_succ, List.getElem?_cons_zero, List.getElem?_cons_succ, h.ix ha, h.ix hp, h.ix2 ha hi, h.ix2 hp hi, fMax_i]
      rfl
    have nl := newL_t (S := S) (tab m fun j => .p (.int (mx (s a) (s Q) j))) (small (by rw [tab_len]; omega))
    rw [← intsP_tab] at nl
    have st' := setIx_rr (S := S.push (liO (tab m (mx (s a) (s Q))))) (n := 0) (ds := tab m fun j => .ref (ids j)) (i := a) (v := .ref S.os.length) (push_old h.root) (by rw [tab_len]; exact ha) (okRef_0 h.b)
    rw [tab_set] at st'
    have e2 : (updF (fun j => D.ref (ids j)) a (D.ref S.os.length)) = fun j => D.ref (updF ids a S.os.length j) := by
      funext j
      unfold updF
      split <;> rfl
    rw [e2] at st'
    rw [← intsP_tab] at cp
    unfold t2A
    simp only [at_dIf, at_dTest, at_dOp, at_dVar, bnd_some, List.getElem?_cons_zero, List.getElem?_cons_succ, fII_eq, if_true, toB_p, hp2, decide_true, at_dAsg, at_dComp, at_dRng1, at_dCons, at_dNil, rng_nat m (by omega), wipeD, List.set_cons_zero, List.set_cons_succ, cp, nl, at_gSb, st']
  · have hp2 : ¬ (Q : Int) < (m : Int) := by omega
    refine ⟨S, s, ids, κ, ?_, h, o⟩
    unfold t2A
    simp only [at_dIf, at_dTest, at_dOp, at_dVar, bnd_some, List.getElem?_cons_zero, List.getElem?_cons_succ, fII_eq, if_true, toB_p, hp2, decide_false, Bool.false_eq_true, if_false, at_dNx]
/-- the new row, not yet full -/
theorem t2n_eq (h : TJ S m s ids L xs κ) (o : SeenOk m (xs.map (·.1)) s) (hm : m ≤ 6) (ds : List Int) (st k B Q : Nat) (rich : Bool) {a : Nat} (ha : a < m) : t2N (e2E ds st m L k B a Q rich none) S =
    some (.nx (e2E ds st m L k B a Q rich (some (.ref S.os.length))), S.push (lpO (row5L ⟨a, cnt (xs.map (·.1)) a + 1, tab m (s a), none, []⟩))) := by
  have hn : s a a + 1 = ((cnt (xs.map (·.1)) a + 1 : Nat) : Int) := by rw [o.own a ha]; omega
  have n1 := newL_f (S := S) (intsP (tab m (s a))) (small (by rw [intsP_len, tab_len]; omega))
  have f1 := fList_r (live := false) (h.sn a ha).2
  rw [n1] at f1
  have n0 : newL false [] S = some (.p (.lst []), S) := newL_f (S := S) [] (small (by simp))
  have t0 : newT [] S = some (.p (.tup []), S) := newT_p (S := S) [] (small (by simp))
  have n4 : newL false [.p (.tup []), .p (.tup []), .p (.tup []), .p (.tup [])] S = some (.p (.lst parts4), S) := newL_f (S := S) parts4 (small (by simp))
  have n6 : newL true [.p (.int (a : Int)), .p (.int (s a a + 1)), .p (.lst (intsP (tab m (s a)))), .p .non, .p (.lst []), .p (.lst parts4)] S = some (.ref S.os.length, S.push (lpO (row5L ⟨a, cnt (xs.map (·.1)) a + 1, tab m (s a), none, []⟩))) := by
    rw [newL_t _ (small (by simp)), hn]
    rfl
  unfold t2N
  simp only [at_dSet, at_dLst, at_dCons, at_dVar, at_dOp, at_dC, at_dCall, at_dTup, at_dNil, bnd_some, List.getElem?_cons_zero, List.getElem?_cons_succ, h.ix ha, h.ix2 ha ha, fAdd_i, f1, n0, t0, n4, n6, List.set_cons_zero, List.set_cons_succ]
theorem row_set3 (r : R5) (c : Option Spot) : ((row5L r).map D.p).set 3 (.p (capP c)) = (row5L { r with cap := c }).map D.p := rfl
theorem row_set4 (r : R5) (ps : List Pub5) : ((row5L r).map D.p).set 4 (.p (.lst (ps.map pubP))) = (row5L { r with pubs := ps }).map D.p := rfl
/-- .. its capability and its public acts -/
theorem t2c_eq (h : TJ S m s ids L xs κ) (hx : xs.length ≤ 20) (ok : ∀ x ∈ xs, Ok5 x.1) (hm : 1 ≤ m ∧ m ≤ 6) {ds : List Int} (hd : ∀ d ∈ ds, 0 ≤ d ∧ d < 9973) (st k B Q a : Nat) (rich : Bool) (r : R5) : ∃ (c : Option Spot) (ps : List Pub5), ps.length ≤ (if k = 0 then 5 else 2) ∧ (∀ p ∈ ps, OkPub p) ∧
    t2C (e2E ds st m L k B a Q rich (some (.ref S.os.length))) (S.push (lpO (row5L r))) = some (.nx (e2E ds st m L k B a Q rich (some (.ref S.os.length))), S.push (lpO (row5L { r with cap := c, pubs := ps }))) ∨
    (k = 0 ∧ t2C (e2E ds st m L k B a Q rich (some (.ref S.os.length))) (S.push (lpO (row5L r))) = some (.nx (e2E ds st m L k B a Q rich (some (.ref S.os.length))), S.push (lpO (row5L { r with pubs := ps }))) ∧ ps.length ≤ 5 ∧ ∀ p ∈ ps, OkPub p) := by
  have at0 : ∀ r : R5, (S.push (lpO (row5L r))).os[S.os.length]? = some (lpO (row5L r)) := fun r => push_new _ _
  have put : ∀ (r r' : R5), (S.push (lpO (row5L r))).put S.os.length (lpO (row5L r')) = S.push (lpO (row5L r')) := fun r r' => put_last _ _ _ _
  have st3 : ∀ (r : R5) (c : Option Spot), setIx (.ref S.os.length) (.p (.int 3)) (.p (capP c)) (S.push (lpO (row5L r))) = some (S.push (lpO (row5L { r with cap := c }))) := fun r c => by
    rw [setIx_ri (S := S.push (lpO (row5L r))) (i := 3) (at0 r) (by decide) (by simp [row5L]), show (3 : Int).toNat = 3 from rfl, row_set3, put]
  have st4 : ∀ (r : R5) (ps : List Pub5), setIx (.ref S.os.length) (.p (.int 4)) (.p (.lst (ps.map pubP))) (S.push (lpO (row5L r))) = some (S.push (lpO (row5L { r with pubs := ps }))) := fun r ps => by
    rw [setIx_ri (S := S.push (lpO (row5L r))) (i := 4) (at0 r) (by decide) (by simp [row5L]), show (4 : Int).toNat = 4 from rfl, row_set4, put]
  by_cases hk : k = 0 ∧ rich = true
  · obtain ⟨rfl, rfl⟩ := hk
    refine ⟨none, tab (m - 1) fun i => .grant (1 + i) fullP, .inr ⟨rfl, ?_, by rw [tab_len]; omega, fun p hp => ?_⟩⟩
    · have r2 : ∀ T, rng2 [.p (.int 1), .p (.int (m : Int))] T = some (srcN 1 (m - 1), T) := fun T => by
        unfold rng2
        dsimp only
        rw [if_pos ⟨by decide, by decide, by omega, by omega⟩, show ((m : Int) - 1).toNat = m - 1 by omega]
      have cp := comp_tab1 (S := S.push (lpO (row5L r))) (j := 13) (elt := (dTup (dCons (dC (.str "grant")) (dCons (dVar 13) (dCons (dCall m_full dNil) dNil))))) (σ := e2E ds st m L 0 B a Q true (some (.ref S.os.length))) (fun i => .p (pubP (.grant (1 + i) fullP))) (m := m - 1) (by omega) fun i hi => by
        have nt : ∀ T, newT [.p (.str "grant"), .p (.int (1 + (i : Int))), .p fullP] T = some (.p (pubP (.grant (1 + i) fullP)), T) := fun T => by
          rw [show (1 : Int) + (i : Int) = ((1 + i : Nat) : Int) by omega]
          exact newT_p (S := T) [.str "grant", .int ((1 + i : Nat) : Int), fullP] (small (by simp))
        simp only [at_dTup, at_dCons, at_dC, at_dVar, at_dCall, at_dNil, bnd_some, List.set_cons_zero, List.set_cons_succ, List.getElem?_cons_zero, List.getElem?_cons_succ, full_eq, nt]
      have ec : (tab (m - 1) fun i => D.p (pubP (.grant (1 + i) fullP))) = ((tab (m - 1) fun i => Pub5.grant (1 + i) fullP).map pubP).map D.p := by
        unfold tab
        rw [List.map_map, List.map_map]
        rfl
      rw [ec] at cp
      have nl := newL_f (S := S.push (lpO (row5L r))) ((tab (m - 1) fun i => Pub5.grant (1 + i) fullP).map pubP) (small (by rw [List.length_map, tab_len]; omega))
      unfold t2C
      simp only [at_dIf, at_dAnd, at_dTest, at_dOp, at_dVar, at_dC, bnd_some, List.getElem?_cons_zero, List.getElem?_cons_succ, fEq_ii, Int.natCast_zero, Bool.false_eq_true, if_false, decide_true, toB_p, if_true, at_dTru, truD, at_dAsg, at_dComp, at_dRng2, at_dCons, at_dNil, r2, wipeD, List.set_cons_zero, List.set_cons_succ]
      unfold e2E at cp
      simp only [Int.natCast_zero] at cp
      simp only [cp, bnd_some, nl, at_gSb, at_dVar, at_dC, List.getElem?_cons_zero, List.getElem?_cons_succ, st4]
    · unfold tab at hp
      obtain ⟨i, _, rfl⟩ := List.mem_map.mp hp
      show okz 30 fullP = true
      decide
  · have ir : ∀ r, IsRow (S.push (lpO (row5L r))) (.ref S.os.length) r := fun r => .inr ⟨_, rfl, at0 r⟩
    have e2 : (B : Int) + 2 = ((B + 2 : Nat) : Int) := by omega
    have e3 : (B : Int) + 3 = ((B + 3 : Nat) : Int) := by omega
    obtain ⟨c, ec⟩ := choice_eq (h.push (lpO (row5L r))).rws hx ok (ir r) hd (i := ((B + 2 : Nat) : Int)) (by omega)
    obtain ⟨ps, pl, po, ep⟩ := publics_eq (h.push (lpO (row5L { r with cap := c }))).rws hx ok (ir { r with cap := c }) hd hm.1 (B + 3)
    refine ⟨c, ps, .inl ⟨by split <;> omega, po, ?_⟩⟩
    have tst : dAnd (dTest (dOp (fEq false) (dVar 6) (dC (.int 0)))) (dTru (dVar 4)) (e2E ds st m L k B a Q rich (some (.ref S.os.length))) (S.push (lpO (row5L r))) = some (false, S.push (lpO (row5L r))) := by
      simp only [at_dAnd, at_dTest, at_dOp, at_dVar, at_dC, bnd_some, List.getElem?_cons_zero, List.getElem?_cons_succ, fEq_ii, Bool.false_eq_true, if_false, toB_p, at_dTru]
      by_cases q : k = 0
      · have e4 : (k : Int) = 0 := by omega
        have e5 : rich = false := by
          cases rich with
          | false => rfl
          | true => exact absurd ⟨q, rfl⟩ hk
        simp only [e4, e5, decide_true, if_true, truD]
      · have e4 : ¬ (k : Int) = 0 := by omega
        simp only [e4, decide_false, Bool.false_eq_true, if_false]
    unfold t2C
    simp only [at_dIf, tst, bnd_some, Bool.false_eq_true, if_false]
    rw [at_dSeq]
    simp only [at_dAsg, at_dCall, at_dCons, at_dVar, at_dOp, at_dC, at_dNil, bnd_some, List.getElem?_cons_zero, List.getElem?_cons_succ, fAdd_i, e2, ec, at_gSb, st3, seqK_nx]
    simp only [at_dAsg, at_dCall, at_dCons, at_dVar, at_dOp, at_dC, at_dNil, bnd_some, List.getElem?_cons_zero, List.getElem?_cons_succ, fAdd_i, e3, ep, at_gSb, st4]
end
end Kb
namespace Kb
open PySem PySem.Spec PyProof.Rows L2 Pv
section
variable {S : SH} {m : Nat} {s : Nat → Nat → Int} {ids : Nat → Nat} {L : Nat} {xs : List X5} {κ : Nat → Nat × Nat}
theorem t2e_eq (h : TJ S m s ids L xs κ) (o : SeenOk m (xs.map (·.1)) s) (t : Told m (xs.map (·.1))) (hx : xs.length ≤ 100) (ds : List Int) (st k B Q : Nat) (rich : Bool) {a : Nat} (ha : a < m) (cp : Option Spot) (pb : List Pub5) : ∃ S' s' κ', t2E (e2E ds st m L k B a Q rich (some (.ref S.os.length))) (S.push (lpO (row5L ⟨a, cnt (xs.map (·.1)) a + 1, tab m (s a), cp, pb⟩))) =
    some (.nx (e2E ds st m L k B a Q rich (some (.ref S.os.length))), S') ∧ TJ S' m s' ids L (xs ++ [(⟨a, cnt (xs.map (·.1)) a + 1, tab m (s a), cp, pb⟩, S.os.length)]) κ' ∧ SeenOk m ((xs ++ [((⟨a, cnt (xs.map (·.1)) a + 1, tab m (s a), cp, pb⟩ : R5), S.os.length)]).map (·.1)) s' ∧ Told m ((xs ++ [((⟨a, cnt (xs.map (·.1)) a + 1, tab m (s a), cp, pb⟩ : R5), S.os.length)]).map (·.1)) := by
  have q := h.addRow ⟨a, cnt (xs.map (·.1)) a + 1, tab m (s a), cp, pb⟩
  have q2 := q.seenPut ha (updF (s a) a (s a a + 1))
  obtain ⟨t2, o2⟩ := told_step t o ha cp pb
  refine ⟨_, _, _, ?_, q2, by rw [List.map_append]; exact o2, by rw [List.map_append]; exact t2⟩
  have hn : ((cnt (xs.map (·.1)) a + 1 : Nat) : Int) = s a a + 1 := by rw [o.own a ha]; omega
  have ap := fApp_r (S := S.push (lpO (row5L ⟨a, cnt (xs.map (·.1)) a + 1, tab m (s a), cp, pb⟩))) (n := L) (v := .ref S.os.length) (push_old h.rows) (lt_line (by rw [List.length_map]; omega)) (okRef_0 h.b)
  have em : (xs.map fun x => D.ref x.2) ++ [D.ref S.os.length] = (xs ++ [((⟨a, cnt (xs.map (·.1)) a + 1, tab m (s a), cp, pb⟩ : R5), S.os.length)]).map fun x => D.ref x.2 := by
    rw [List.map_append]; rfl
  rw [em] at ap
  have ty : isTy "list" (.ref L) (S.push (lpO (row5L ⟨a, cnt (xs.map (·.1)) a + 1, tab m (s a), cp, pb⟩))) = true := isTy_ref (push_old h.rows)
  have st' := setIx_ri (v := .int (s a a + 1)) (i := (a : Int)) (q.sn a ha).2 (by omega) (by rw [List.length_map, intsP_len, tab_len]; simpa using ha)
  rw [intsP_tab, Int.toNat_natCast, tab_set] at st'
  have e2 : (updF (fun j => D.p (.int (s a j))) a (D.p (.int (s a a + 1)))) = fun j => D.p (.int (updF (s a) a (s a a + 1) j)) := by
    funext j
    unfold updF
    split <;> rfl
  rw [e2, ← intsP_tab] at st'
  have ir := (q.rw xs.length (⟨a, cnt (xs.map (·.1)) a + 1, tab m (s a), cp, pb⟩, S.os.length) (by rw [List.getElem?_append_right (Nat.le_refl _), Nat.sub_self]; rfl)).2
  have r1 := r5_1 (r := ⟨a, cnt (xs.map (·.1)) a + 1, tab m (s a), cp, pb⟩) (.inr ⟨S.os.length, rfl, ir⟩)
  unfold t2E
  simp only [at_dSeq, at_dDrop, at_dBM, at_dVar, bnd_some, List.getElem?_cons_zero, List.getElem?_cons_succ, ty, if_true, at_dCons, at_dNil, ap, seqK_nx, at_dAsg, at_dOp, at_dC, r1, hn, at_gSb, q.ix ha, st']
theorem t2_step (h : TJ S m s ids L xs κ) (o : SeenOk m (xs.map (·.1)) s) (t : Told m (xs.map (·.1))) (hx : xs.length ≤ 20) (ok : ∀ x ∈ xs, Ok5 x.1) (hm : 1 ≤ m ∧ m ≤ 6) {ds : List Int} (hd : ∀ d ∈ ds, 0 ≤ d ∧ d < 9973) (st k : Nat) (rich : Bool) : ∃ σ2 S' s' ids' x κ', t2B [some (.p (.lst (intsP ds))), some (.p (.int (st : Int))), some (.p (.int (m : Int))), none, some (.p (.bl rich)), some (.ref 0), some (.p (.int (k : Int))), some (.ref L), none, none, none, none, none, none] S =
    some (.nx σ2, S') ∧ wipeD [3, 6, 8, 9, 10, 11] σ2 = [some (.p (.lst (intsP ds))), some (.p (.int (st : Int))), some (.p (.int (m : Int))), none, some (.p (.bl rich)), some (.ref 0), none, some (.ref L), none, none, none, none, none, none] ∧ TJ S' m s' ids' L (xs ++ [x]) κ' ∧ SeenOk m ((xs ++ [x]).map (·.1)) s' ∧ Told m ((xs ++ [x]).map (·.1)) ∧ Ok5 x.1 ∧ x.1.pubs.length ≤ (if k = 0 then 5 else 2) := by
  obtain ⟨u, hu, a1⟩ := at_nat hd ((st + 16 * k : Nat) : Int) (by omega)
  obtain ⟨v, hv, a2⟩ := at_nat hd (((st + 16 * k : Nat) : Int) + 1) (by omega)
  obtain ⟨A, hA, eA⟩ : ∃ A, A < m ∧ A = (if k = 0 ∧ rich = true then 0 else u % m) := ⟨_, by split; omega; exact Nat.mod_lt _ (by omega), rfl⟩
  obtain ⟨Q, eQ⟩ : ∃ Q, Q = (if v % (m + 2) = m then 0 else v % (m + 2)) := ⟨_, rfl⟩
  obtain ⟨S1, s1, ids1, κ1, g1, h1, o1⟩ := t2a_eq h o hm.2 ds st k (st + 16 * k) Q rich hA
  have g2 := t2n_eq h1 o1 hm.2 ds st k (st + 16 * k) Q rich hA
  have fin : ∀ (cp : Option Spot) (pb : List Pub5), pb.length ≤ (if k = 0 then 5 else 2) → (∀ p ∈ pb, OkPub p) → t2C (e2E ds st m L k (st + 16 * k) A Q rich (some (.ref S1.os.length))) (S1.push (lpO (row5L ⟨A, cnt (xs.map (·.1)) A + 1, tab m (s1 A), none, []⟩))) = some (.nx (e2E ds st m L k (st + 16 * k) A Q rich (some (.ref S1.os.length))), S1.push (lpO (row5L ⟨A, cnt (xs.map (·.1)) A + 1, tab m (s1 A), cp, pb⟩))) →
      ∃ σ2 S' s' ids' x κ', t2B [some (.p (.lst (intsP ds))), some (.p (.int (st : Int))), some (.p (.int (m : Int))), none, some (.p (.bl rich)), some (.ref 0), some (.p (.int (k : Int))), some (.ref L), none, none, none, none, none, none] S =
    some (.nx σ2, S') ∧ wipeD [3, 6, 8, 9, 10, 11] σ2 = [some (.p (.lst (intsP ds))), some (.p (.int (st : Int))), some (.p (.int (m : Int))), none, some (.p (.bl rich)), some (.ref 0), none, some (.ref L), none, none, none, none, none, none] ∧ TJ S' m s' ids' L (xs ++ [x]) κ' ∧ SeenOk m ((xs ++ [x]).map (·.1)) s' ∧ Told m ((xs ++ [x]).map (·.1)) ∧ Ok5 x.1 ∧ x.1.pubs.length ≤ (if k = 0 then 5 else 2) := fun cp pb pl po g3 => by
    obtain ⟨S', s', κ', g4, h4, o4, t4⟩ := t2e_eq h1 o1 t (by omega) ds st k (st + 16 * k) Q rich hA cp pb
    refine ⟨e2E ds st m L k (st + 16 * k) A Q rich (some (.ref S1.os.length)), S', s', ids1, _, κ', ?_, rfl, h4, o4, t4, ⟨by rw [tab_len]; exact hm.2, Nat.le_trans pl (by split <;> omega), po⟩, pl⟩
    have e0 : (st : Int) + 16 * (k : Int) = ((st + 16 * k : Nat) : Int) := by omega
    have m16 : ∀ T, fMul (.p (.int 16)) (.p (.int (k : Int))) T = some (.p (.int (16 * (k : Int))), T) := fun T => mul_l (by decide) T
    have cm : ∀ T, fMod (.p (.int (u : Int))) (.p (.int (m : Int))) T = some (.p (.int ((u % m : Nat) : Int)), T) := fun T => mod_eq (by omega) T
    have em2 : (m : Int) + 2 = ((m + 2 : Nat) : Int) := by omega
    have cm2 : ∀ T, fMod (.p (.int (v : Int))) (.p (.int ((m + 2 : Nat) : Int))) T = some (.p (.int ((v % (m + 2) : Nat) : Int)), T) := fun T => mod_eq (by omega) T
    unfold t2B
    rw [at_dSeq]
    simp only [at_dSet, at_dOp, at_dVar, at_dC, bnd_some, List.getElem?_cons_zero, List.getElem?_cons_succ, m16, fAdd_i, e0, seqK_nx, List.set_cons_zero, List.set_cons_succ]
    rw [at_dSeq]
    simp only [at_dSet, at_dOp, at_dCall, at_dCons, at_dVar, at_dC, at_dNil, bnd_some, List.getElem?_cons_zero, List.getElem?_cons_succ, a1, cm, seqK_nx, List.set_cons_zero, List.set_cons_succ]
    rw [at_dSeq]
    simp only [at_dSet, at_dOp, at_dCall, at_dCons, at_dVar, at_dC, at_dNil, bnd_some, List.getElem?_cons_zero, List.getElem?_cons_succ, fAdd_i, a2, em2, cm2, seqK_nx, List.set_cons_zero, List.set_cons_succ]
    rw [at_dSeq]
    have st1 : dIf (dAnd (dTest (dOp (fEq false) (dVar 6) (dC (.int 0)))) (dTru (dVar 4))) (dSet 9 (dC (.int 0))) dNx [some (.p (.lst (intsP ds))), some (.p (.int (st : Int))), some (.p (.int (m : Int))), none, some (.p (.bl rich)), some (.ref 0), some (.p (.int (k : Int))), some (.ref L), some (.p (.int ((st + 16 * k : Nat) : Int))), some (.p (.int ((u % m : Nat) : Int))), some (.p (.int ((v % (m + 2) : Nat) : Int))), none, none, none] S = some (.nx [some (.p (.lst (intsP ds))), some (.p (.int (st : Int))), some (.p (.int (m : Int))), none, some (.p (.bl rich)), some (.ref 0), some (.p (.int (k : Int))), some (.ref L), some (.p (.int ((st + 16 * k : Nat) : Int))), some (.p (.int (A : Int))), some (.p (.int ((v % (m + 2) : Nat) : Int))), none, none, none], S) := by
      simp only [at_dIf, at_dAnd, at_dTest, at_dOp, at_dVar, at_dC, bnd_some, List.getElem?_cons_zero, List.getElem?_cons_succ, fEq_ii, Bool.false_eq_true, if_false, toB_p, at_dTru]
      by_cases q : k = 0
      · have e4 : (k : Int) = 0 := by omega
        cases rich with
        | true =>
          rw [if_pos ⟨q, rfl⟩] at eA
          simp only [e4, decide_true, if_true, truD, bnd_some, at_dSet, at_dC, List.set_cons_zero, List.set_cons_succ, eA]
          rfl
        | false =>
          rw [if_neg (by simp)] at eA
          simp only [e4, decide_true, if_true, truD, bnd_some, Bool.false_eq_true, if_false, at_dNx, eA]
      · have e4 : ¬ (k : Int) = 0 := by omega
        rw [if_neg (fun z => q z.1)] at eA
        simp only [e4, decide_false, Bool.false_eq_true, if_false, bnd_some, at_dNx, eA]
    rw [st1, bnd_some, seqK_nx, at_dSeq]
    have st2 : dIf (dTest (dOp (fEq false) (dVar 10) (dVar 2))) (dSet 10 (dC (.int 0))) dNx [some (.p (.lst (intsP ds))), some (.p (.int (st : Int))), some (.p (.int (m : Int))), none, some (.p (.bl rich)), some (.ref 0), some (.p (.int (k : Int))), some (.ref L), some (.p (.int ((st + 16 * k : Nat) : Int))), some (.p (.int (A : Int))), some (.p (.int ((v % (m + 2) : Nat) : Int))), none, none, none] S = some (.nx (e2E ds st m L k (st + 16 * k) A Q rich none), S) := by
      simp only [at_dIf, at_dTest, at_dOp, at_dVar, at_dC, bnd_some, List.getElem?_cons_zero, List.getElem?_cons_succ, fEq_ii, Bool.false_eq_true, if_false, toB_p]
      by_cases q : v % (m + 2) = m
      · have e4 : ((v % (m + 2) : Nat) : Int) = (m : Int) := by omega
        rw [if_pos q] at eQ
        simp only [e4, decide_true, if_true, at_dSet, at_dC, bnd_some, List.set_cons_zero, List.set_cons_succ, eQ]
        rfl
      · have e4 : ¬ ((v % (m + 2) : Nat) : Int) = (m : Int) := by omega
        rw [if_neg q] at eQ
        simp only [e4, decide_false, Bool.false_eq_true, if_false, at_dNx, eQ]
    rw [st2, bnd_some, seqK_nx, at_dSeq, g1, bnd_some, seqK_nx, at_dSeq, g2, bnd_some, seqK_nx, at_dSeq, g3, bnd_some, seqK_nx, g4]
  obtain ⟨cp, pb, hc⟩ := t2c_eq h1 hx ok hm hd st k (st + 16 * k) Q A rich ⟨A, cnt (xs.map (·.1)) A + 1, tab m (s1 A), none, []⟩
  rcases hc with ⟨pl, po, g3⟩ | ⟨k0, g3, pl, po⟩
  · exact fin cp pb pl po g3
  · exact fin none pb (by rw [if_pos k0]; exact pl) po g3
end
theorem mapM_some {α β γ : Type} {f : α → β} {g : β → Option γ} {h : α → γ} : ∀ {xs : List α}, (∀ x ∈ xs, g (f x) = some (h x)) → (xs.map f).mapM g = some (xs.map h)
  | [], _ => rfl
  | x :: xs, e => by
    rw [List.map_cons, List.mapM_cons, e x List.mem_cons_self, mapM_some fun y hy => e y (List.mem_cons_of_mem _ hy)]
    rfl
theorem toP_lp {b n k : Nat} {S : SH} {ps : List P} (hn : b ≤ n) (e : S.os[n]? = some (lpO ps)) : toP (k + 1) b S (.ref n) = some (.lst ps) := by
  unfold toP
  rw [if_neg (by omega), e]
  dsimp only
  have h := mapM_some (f := D.p) (g := toP k b S) (h := id) (xs := ps) fun x _ => by cases k <;> rfl
  rw [h, List.map_id]
  rfl
theorem rows_eq {ds : List Int} (hd : ∀ d ∈ ds, 0 ≤ d ∧ d < 9973) (st m c : Nat) (hm : 1 ≤ m ∧ m ≤ 6) (hc : c ≤ 12) (rich : Bool) : ∃ rs : List R5, rs.length ≤ 12 ∧ Told m rs ∧ (∀ r ∈ rs, Ok5 r) ∧ (∀ (k : Nat) (r : R5), rs[k]? = some r → r.pubs.length ≤ (if k = 0 then 5 else 2)) ∧
    m_rows [.p (.lst (intsP ds)), .p (.int (st : Int)), .p (.int (m : Int)), .p (.int (c : Int)), .p (.bl rich)] ⟨0, []⟩ = some (.p (.lst (rs.map row5P)), ⟨0, []⟩) := by
  have ln : (S0 m m).os.length = m + 1 := by simp [S0]
  have n0 : newL true [] (⟨0, []⟩ : SH) = some (.ref 0, S0 m 0) := by
    rw [newL_t _ (small (by simp))]
    rfl
  have n1 : newL true [] (S0 m m) = some (.ref (m + 1), (S0 m m).push (.lst [])) := by
    rw [newL_t _ (small (by simp)), ln]
  obtain ⟨σ', S', h1, ⟨xs, s, ids, κ, rfl, hx, tj, o, t, ok, pl⟩⟩ := rng0_inv (body := t2B) (ws := [3, 6, 8, 9, 10, 11]) (j := 6) (fun k σ S => ∃ xs s ids κ, σ = [some (.p (.lst (intsP ds))), some (.p (.int (st : Int))), some (.p (.int (m : Int))), none, some (.p (.bl rich)), some (.ref 0), none, some (.ref (m + 1)), none, none, none, none, none, none] ∧ xs.length = k ∧ TJ S m s ids (m + 1) xs κ ∧ SeenOk m (xs.map (·.1)) s ∧ Told m (xs.map (·.1)) ∧ (∀ x ∈ xs, Ok5 x.1) ∧ ∀ (k : Nat) (x : X5), xs[k]? = some x → x.1.pubs.length ≤ (if k = 0 then 5 else 2)) c
    (σ := [some (.p (.lst (intsP ds))), some (.p (.int (st : Int))), some (.p (.int (m : Int))), none, some (.p (.bl rich)), some (.ref 0), none, some (.ref (m + 1)), none, none, none, none, none, none]) (S := (S0 m m).push (.lst [])) ⟨[], _, _, _, rfl, rfl, tj_init m hm.1, seen_nil m, told_nil m, by simp, fun k x h => by cases h⟩ (by
    rintro k σ S hk ⟨xs, s, ids, κ, rfl, hx, tj, o, t, ok, pl⟩
    obtain ⟨σ2, S2, s2, ids2, x, κ2, e1, e2, h2, o2, t2, k2, l2⟩ := t2_step tj o t (by omega) ok hm hd st k rich
    refine ⟨σ2, S2, .inl e1, xs ++ [x], s2, ids2, κ2, e2, by rw [List.length_append, hx]; rfl, h2, o2, t2, fun y hy => ?_, fun j y hy => ?_⟩
    · rcases List.mem_append.mp hy with hy | hy
      · exact ok y hy
      · rw [List.mem_singleton.mp hy]; exact k2
    · by_cases hj : j < xs.length
      · rw [List.getElem?_append_left hj] at hy
        exact pl j y hy
      · have hj2 : j = k := by
          have := (List.getElem?_eq_some_iff.mp hy).1
          rw [List.length_append, List.length_singleton] at this
          omega
        rw [List.getElem?_append_right (by omega), show j - xs.length = 0 by omega] at hy
        cases hy
        rw [hj2]
        exact l2)
  refine ⟨xs.map (·.1), by rw [List.length_map]; omega, t, fun r hr => ?_, fun k r hr => ?_, ?_⟩
  · obtain ⟨x, hx, rfl⟩ := List.mem_map.mp hr
    exact ok x hx
  · rw [List.getElem?_map] at hr
    cases e : xs[k]? with
    | none => rw [e] at hr; cases hr
    | some x => rw [e] at hr; cases hr; exact pl k x e
  · have out : frameF ⟨0, []⟩ (some (.ret (.ref (m + 1)), S')) = some (.p (.lst ((xs.map (·.1)).map row5P)), ⟨0, []⟩) := by
      have h8 : toP 8 0 S' (.ref (m + 1)) = some (.lst ((xs.map (·.1)).map row5P)) := by
        unfold toP
        rw [if_neg (Nat.not_lt_zero _), tj.rows]
        dsimp only
        rw [mapM_some (f := fun x : X5 => D.ref x.2) (g := toP 7 0 S') (h := fun x : X5 => row5P x.1) fun x hx => ?_, List.map_map]
        · rfl
        · obtain ⟨k, hk, rfl⟩ := List.getElem_of_mem hx
          exact toP_lp (Nat.zero_le _) (tj.rw k _ (List.getElem?_eq_getElem hk)).2
      show (match outD 0 S' (.ref (m + 1)) with | some d' => some (d', Pv.cutS ⟨0, []⟩ S') | none => none) = _
      unfold outD
      dsimp only
      rw [if_neg (Nat.not_lt_zero _), h8]
      rfl
    unfold m_rows
    rw [fn_at (k := 5) rfl, show startD 14 [.p (.lst (intsP ds)), .p (.int (st : Int)), .p (.int (m : Int)), .p (.int (c : Int)), .p (.bl rich)] = [some (.p (.lst (intsP ds))), some (.p (.int (st : Int))), some (.p (.int (m : Int))), some (.p (.int (c : Int))), some (.p (.bl rich)), none, none, none, none, none, none, none, none, none] from rfl, at_dSeq]
    simp only [List.length_nil]
    simp only [at_dSet, at_dLst, at_dNil, bnd_some, n0, seqK_nx, List.set_cons_zero, List.set_cons_succ]
    rw [at_dSeq]
    have l1 := t1_loop (.lst (intsP ds)) (.int (st : Int)) (.int (c : Int)) (.bl rich) m hm.2
    unfold t1B e1E at l1
    simp only [at_dFor, at_dRng1, at_dCons, at_dNil, at_dVar, bnd_some, List.getElem?_cons_zero, List.getElem?_cons_succ, rng_nat m (by omega), wipeD, List.set_cons_zero, List.set_cons_succ, l1, seqK_nx]
    rw [at_dSeq]
    simp only [at_dSet, at_dLst, at_dNil, bnd_some, n1, seqK_nx, List.set_cons_zero, List.set_cons_succ]
    rw [at_dSeq]
    unfold t2B t2A t2N t2C t2E at h1
    simp only [at_dFor, at_dRng1, at_dCons, at_dNil, at_dVar, bnd_some, List.getElem?_cons_zero, List.getElem?_cons_succ, rng_nat c (by omega), wipeD, List.set_cons_zero, List.set_cons_succ, h1, seqK_nx, at_dRet]
    exact out
end Kb
namespace Kb
open PySem PySem.Spec PyProof.Rows L2 Pv
/-! names are told once -/
theorem cnt_mono (rs : List R5) {i j : Nat} (h : i ≤ j) (a : Nat) : cnt (rs.take i) a ≤ cnt (rs.take j) a := by
  unfold cnt
  have e : rs.take i = (rs.take j).take i := by rw [List.take_take, Nat.min_eq_left h]
  rw [e]
  exact (List.Sublist.filter _ (List.take_sublist _ _)).length_le
theorem cnt_take (rs : List R5) {i : Nat} {r : R5} (h : rs[i]? = some r) (j : Nat) : cnt (rs.take (i + 1)) j = cnt (rs.take i) j + (if r.a = j then 1 else 0) := by
  obtain ⟨hi, rfl⟩ := List.getElem?_eq_some_iff.mp h
  rw [List.take_succ_eq_append_getElem hi, cnt_app]
theorem Told.names {m : Nat} {R : List R5} (t : Told m R) {i j : Nat} {r q : R5} (hi : R[i]? = some r) (hj : R[j]? = some q) (ha : r.a = q.a) (hn : r.n = q.n) : i = j := by
  have key : ∀ {i j : Nat} {r q : R5}, R[i]? = some r → R[j]? = some q → r.a = q.a → i < j → r.n < q.n := fun {i j r q} hi hj ha h => by
    have o1 := t.ord i r hi
    have o2 := t.ord j q hj
    have c := cnt_take R hi r.a
    rw [if_pos rfl] at c
    have mo := cnt_mono R (show i + 1 ≤ j from h) r.a
    rw [← ha] at o2
    omega
  rcases Nat.lt_trichotomy i j with h | h | h
  · have := key hi hj ha h; omega
  · exact h
  · have := key hj hi ha.symm h; omega
structure CutOk (m : Nat) (rs : List R5) (c : List Int) : Prop where
  len : c.length = m
  le : ∀ (j : Nat) (x : Int), c[j]? = some x → 0 ≤ x ∧ x ≤ cnt rs j
theorem Told.n_le {m : Nat} {rs : List R5} (t : Told m rs) {r : R5} (hr : r ∈ rs) : r.n ≤ cnt rs r.a := by
  have h1 : r.n ∈ (rs.filter fun q => q.a = r.a).map (·.n) := List.mem_map.mpr ⟨r, List.mem_filter.mpr ⟨hr, by simp⟩, rfl⟩
  rw [t.num r.a, List.mem_range'_1] at h1
  omega
/-! what is kept of capabilities -/
structure Kep where
  sp : Spot
  par : Option Spot
  ho : Nat
  rt : P
def kepE (e : Kep) : P := .tup [spotP e.sp, capP e.par, .int (e.ho : Int), e.rt]
structure KsOk (R : List R5) (c : List Int) (k q : Nat) (ks : List Kep) : Prop where
  src : ∀ e ∈ ks, ∃ (k' p : Nat) (r : R5), (k' < k ∨ (k' = k ∧ p < q)) ∧ R[k']? = some r ∧ (r.n : Int) ≤ c.getD r.a 0 ∧ e.sp = (r.a, r.n, p) ∧ e.par = r.cap ∧ r.pubs[p]? = some (.grant e.ho e.rt)
  nd : (ks.map (·.sp)).Nodup
  par : ∀ (i : Nat) (e : Kep), ks[i]? = some e → e.par = none ∨ ∃ (j : Nat) (e' : Kep), j < i ∧ ks[j]? = some e' ∧ e.par = some e'.sp
theorem ks_nil (R : List R5) (c : List Int) (k q : Nat) : KsOk R c k q [] := ⟨by simp, by simp, fun i e h => by cases h⟩
theorem KsOk.up {R : List R5} {c : List Int} {k q q' : Nat} {ks : List Kep} (h : KsOk R c k q ks) (hq : q ≤ q') : KsOk R c k q' ks := by
  refine ⟨fun e he => ?_, h.nd, h.par⟩
  obtain ⟨k', p, r, h1, h2⟩ := h.src e he
  exact ⟨k', p, r, by omega, h2⟩
theorem KsOk.next {R : List R5} {c : List Int} {k q : Nat} {ks : List Kep} (h : KsOk R c k q ks) : KsOk R c (k + 1) 0 ks := by
  refine ⟨fun e he => ?_, h.nd, h.par⟩
  obtain ⟨k', p, r, h1, h2⟩ := h.src e he
  exact ⟨k', p, r, by omega, h2⟩
theorem KsOk.add {m : Nat} {R : List R5} (t : Told m R) {c : List Int} {k p : Nat} {ks : List Kep} (h : KsOk R c k p ks) {r : R5} (hr : R[k]? = some r) (hc : (r.n : Int) ≤ c.getD r.a 0) {ho : Nat} {rt : P} (hp : r.pubs[p]? = some (.grant ho rt)) (hpar : r.cap = none ∨ ∃ (j : Nat) (e' : Kep), ks[j]? = some e' ∧ r.cap = some e'.sp) :
    KsOk R c k (p + 1) (ks ++ [⟨(r.a, r.n, p), r.cap, ho, rt⟩]) := by
  refine ⟨fun e he => ?_, ?_, fun i e he => ?_⟩
  · rcases List.mem_append.mp he with he | he
    · obtain ⟨k', p', r', h1, h2⟩ := h.src e he
      exact ⟨k', p', r', by omega, h2⟩
    · rw [List.mem_singleton.mp he]
      exact ⟨k, p, r, .inr ⟨rfl, Nat.lt_succ_self _⟩, hr, hc, rfl, rfl, hp⟩
  · rw [List.map_append]
    refine List.nodup_append.mpr ⟨h.nd, by simp, fun x hx y hy => ?_⟩
    obtain ⟨e, he, rfl⟩ := List.mem_map.mp hx
    have hy' : y = (r.a, r.n, p) := by simpa using hy
    subst hy'
    obtain ⟨k', p', r', h1, h2, _, h4, _, _⟩ := h.src e he
    intro z
    rw [h4] at z
    simp only [Prod.mk.injEq] at z
    have := t.names h2 hr z.1 z.2.1
    omega
  · by_cases hi : i < ks.length
    · rw [List.getElem?_append_left hi] at he
      rcases h.par i e he with q | ⟨j, e', hj, he', q⟩
      · exact .inl q
      · exact .inr ⟨j, e', hj, by rw [List.getElem?_append_left (by omega)]; exact he', q⟩
    · have hi2 : i = ks.length := by
        have := (List.getElem?_eq_some_iff.mp he).1
        rw [List.length_append, List.length_singleton] at this
        omega
      subst hi2
      rw [List.getElem?_append_right (Nat.le_refl _), Nat.sub_self] at he
      cases he
      rcases hpar with q | ⟨j, e', he', q⟩
      · exact .inl q
      · have hj := (List.getElem?_eq_some_iff.mp he').1
        exact .inr ⟨j, e', hj, by rw [List.getElem?_append_left hj]; exact he', q⟩
theorem KsOk.len {m : Nat} {R : List R5} (t : Told m R) {c : List Int} {k q : Nat} {ks : List Kep} (h : KsOk R c k q ks) (ok : ∀ r ∈ R, Ok5 r) : ∀ e ∈ ks, okz 30 e.rt = true := fun e he => by
  obtain ⟨k', p, r, _, h2, _, _, _, h6⟩ := h.src e he
  exact (ok r (List.mem_of_getElem? h2)).po _ (List.mem_of_getElem? h6)
/-! sorted by their spots -/
theorem key_kep (e : Kep) : keyT (kepE e) = some [(e.sp.1 : Int), (e.sp.2.1 : Int), (e.sp.2.2 : Int)] := rfl
theorem kep_sort {ks : List Kep} (nd : (ks.map (·.sp)).Nodup) (hl : ks.length ≤ 1000) : ∃ ks' : List Kep, ks'.Perm ks ∧ ∀ (S : SH) (n : Nat), S.os[n]? = some (lpO (ks.map kepE)) → fSort false [.ref n] S = some (.p (.lst (ks'.map kepE)), S) := by
  let le2 : Kep → Kep → Bool := fun a b => leT (kepE a) (kepE b)
  refine ⟨ks.mergeSort le2, List.mergeSort_perm _ _, fun S n hn => ?_⟩
  have em : (ks.map kepE).mergeSort leT = (ks.mergeSort le2).map kepE := (List.map_mergeSort fun a _ b _ => (show le2 a b = leT (kepE a) (kepE b) from rfl)).symm
  have ok : okSrt (ks.map kepE) = true := by
    unfold okSrt
    rw [Bool.and_eq_true, decide_eq_true_eq, List.all_eq_true, List.map_map]
    refine ⟨fun p hp => ?_, ?_⟩
    · obtain ⟨e, _, rfl⟩ := List.mem_map.mp hp
      rw [key_kep]
      rfl
    · refine List.pairwise_map.mpr ?_
      refine List.Pairwise.imp ?_ (List.pairwise_map.mp nd)
      intro a b hab z
      have z' : some [(a.sp.1 : Int), (a.sp.2.1 : Int), (a.sp.2.2 : Int)] = some [(b.sp.1 : Int), (b.sp.2.1 : Int), (b.sp.2.2 : Int)] := z
      simp only [Option.some.injEq, List.cons.injEq, and_true] at z'
      obtain ⟨x1, x2, x3⟩ := z'
      refine hab ?_
      obtain ⟨⟨a1, a2, a3⟩, _, _, _⟩ := a
      obtain ⟨⟨b1, b2, b3⟩, _, _, _⟩ := b
      simp only [Prod.mk.injEq] at *
      omega
  unfold fSort asL
  dsimp only
  rw [hn]
  dsimp only
  rw [toPs_map]
  dsimp only
  rw [if_pos ok, em]
  exact newL_f _ (by rw [List.length_map, List.length_mergeSort]; exact small hl)
/-! a capability among names -/
theorem rd_lp {n : Nat} {S : SH} {ps : List P} (h : S.os[n]? = some (lpO ps)) : rdP S (.ref n) = some (.lst ps) := toP_lp (Nat.zero_le _) h
theorem okd_cap (k : Nat) (c : Option Spot) : okd (k + 1) (capP c) = true := okz_okd _ _ (cap_z k c)
theorem in_caps {n : Nat} {S : SH} {cs : List (Option Spot)} (h : S.os[n]? = some (lpO (cs.map capP))) (c : Option Spot) : fInG false (.p (capP c)) (.ref n) S = some (.p (.bl (decide (c ∈ cs))), S) := by
  have h2 : (cs.map capP).all (okd 40) = true := by
    simp only [List.all_eq_true, List.mem_map]
    rintro p ⟨r, _, rfl⟩
    exact okd_cap 39 r
  have h3 : (cs.map capP).any (fun y => peq y (capP c)) = decide (c ∈ cs) := by
    rw [Bool.eq_iff_iff, List.any_eq_true, decide_eq_true_eq]
    constructor
    · rintro ⟨y, hy, e⟩
      obtain ⟨d, hd, rfl⟩ := List.mem_map.mp hy
      rw [peq_cap, decide_eq_true_eq] at e
      subst e
      exact hd
    · intro hc
      exact ⟨capP c, List.mem_map.mpr ⟨c, hc, rfl⟩, by rw [peq_cap]; exact decide_eq_true rfl⟩
  have e : fInG false (.p (capP c)) (.ref n) S = fIn false (.p (capP c)) (.ref n) S := by
    cases c <;> rfl
  rw [e]
  unfold fIn
  rw [rdP_p, rd_lp h]
  dsimp only
  rw [if_pos ⟨okd_cap 39 c, h2⟩, if_neg Bool.false_ne_true, h3]
end Kb
namespace Kb
open PySem PySem.Spec PyProof.Rows L2 Pv
abbrev empK : P := .lst [.lst [], .lst [], .lst []]
abbrev nothP : P := .lst [empK, empK, empK, empK]
def worldL (m : Nat) (rs : List R5) (cut : List Int) (ks : List Kep) : List P := [.int (m : Int), .lst (rs.map row5P), .lst (intsP cut), .lst (ks.map kepE), nothP]
def worldP (m : Nat) (rs : List R5) (cut : List Int) (ks : List Kep) : P := .lst (worldL m rs cut ks)
theorem nothing_eq (S : SH) : m_nothing [] S = some (.p nothP, S) := by
  have n0 : ∀ T : SH, newL false [] T = some (.p (.lst []), T) := fun T => newL_f (S := T) [] (small (by simp))
  have n3 : ∀ T : SH, newL false [.p (.lst []), .p (.lst []), .p (.lst [])] T = some (.p empK, T) := fun T => newL_f (S := T) [.lst [], .lst [], .lst []] (small (by simp))
  have cp : ∀ T, compL (srcN 0 4).fin (gNm 0) dYes (dLst false (dCons (dLst false dNil) (dCons (dLst false dNil) (dCons (dLst false dNil) dNil)))) [none] (srcN 0 4).items [] T = some ([empK, empK, empK, empK].map D.p, T) := fun T =>
    comp_tab (S := T) (m := 4) (fun _ => .p empK) (by omega) fun i hi => by simp only [at_dLst, at_dCons, at_dNil, bnd_some, n0, n3]
  have nl : ∀ T, newL false ([empK, empK, empK, empK].map D.p) T = some (.p nothP, T) := fun T => newL_f (S := T) [empK, empK, empK, empK] (small (by simp))
  have r4 : ∀ T, rng1 [.p (.int 4)] T = some (srcN 0 4, T) := fun T => srt_rng 4 (by decide)
  unfold m_nothing
  rw [fn_at (k := 0) rfl, show startD 1 [] = [none] from rfl]
  simp only [at_dRet, at_dComp, at_dRng1, at_dCons, at_dC, at_dNil, bnd_some, r4, wipeD, List.set_cons_zero, cp, nl, frame_p, cut_self]
def w0 (m : Nat) (R : List R5) : Ob := lpO (worldL m R (tab m fun _ => 0) [])
theorem world_eq (m : Nat) (hm : m ≤ 6) (R : List R5) : mL_world [.p (.int (m : Int)), .p (.lst (R.map row5P))] ⟨0, []⟩ = some (.ref 0, ⟨0, [w0 m R]⟩) := by
  have cp := fun T => comp_tab (S := T) (j := 2) (elt := dC (.int 0)) (σ := [some (.p (.int (m : Int))), some (.p (.lst (R.map row5P))), none]) (fun _ => .p (.int 0)) (m := m) (by omega) fun i hi => rfl
  have nl := fun T => newL_f (S := T) (intsP (tab m fun _ => 0)) (small (by rw [intsP_len, tab_len]; omega))
  rw [intsP_tab] at nl
  have n0 : ∀ T : SH, newL false [] T = some (.p (.lst []), T) := fun T => newL_f (S := T) [] (small (by simp))
  unfold mL_world
  rw [fnL_at (k := 2) rfl, show startD 3 [.p (.int (m : Int)), .p (.lst (R.map row5P))] = [some (.p (.int (m : Int))), some (.p (.lst (R.map row5P))), none] from rfl]
  simp only [at_dRet, at_dLst, at_dCons, at_dVar, at_dComp, at_dRng1, at_dCall, at_dNil, bnd_some, List.getElem?_cons_zero, List.getElem?_cons_succ, rng_nat m (by omega), wipeD, List.set_cons_zero, List.set_cons_succ, cp, nl, n0, nothing_eq]
  rw [newL_t _ (small (by simp)), bnd_some, live_ret]
  rfl
abbrev capsOf (ks : List Kep) : List (Option Spot) := none :: ks.map fun e => some e.sp
def H4 (w : Ob) (ct : List Int) (ks : List Kep) : SH := ⟨0, [w, liO ct, lpO (ks.map kepE), lpO ((capsOf ks).map capP)]⟩
abbrev cwI : MS := (dIf (dAnd (dTest (dOp (fEq false) (dOp fIx (dOp fIx (dOp fIx (dVar 10) (dC (.int 4))) (dVar 11)) (dC (.int 0))) (dC (.str "grant")))) (dTest (dOp (fEq true) (dOp fMod (dCall m_at (dCons (dVar 0) (dCons (dOp (fAdd false) (dOp (fAdd false) (dOp (fAdd false) (dVar 1) (dC (.int 3))) (dOp fMul (dC (.int 3)) (dVar 9))) (dVar 11)) dNil))) (dC (.int 4))) (dC (.int 0)))))
      (dSeq (dDrop (dBM "list" fApp (dVar 7) (dCons (dTup (dCons (dTup (dCons (dOp fIx (dVar 10) (dC (.int 0))) (dCons (dOp fIx (dVar 10) (dC (.int 1))) (dCons (dVar 11) dNil)))) (dCons (dOp fIx (dVar 10) (dC (.int 3))) (dCons (dOp fIx (dOp fIx (dOp fIx (dVar 10) (dC (.int 4))) (dVar 11)) (dC (.int 1))) (dCons (dOp fIx (dOp fIx (dOp fIx (dVar 10) (dC (.int 4))) (dVar 11)) (dC (.int 2))) dNil))))) dNil)))
    (dDrop (dBM "list" fApp (dVar 8) (dCons (dTup (dCons (dOp fIx (dVar 10) (dC (.int 0))) (dCons (dOp fIx (dVar 10) (dC (.int 1))) (dCons (dVar 11) dNil)))) dNil))))
      dNx)
abbrev cwO : MS := (dSeq (dSet 10 (dOp fIx (dVar 3) (dVar 9)))
    (dIf (dAnd (dTest (dOp fLe (dOp fIx (dVar 10) (dC (.int 1))) (dOp fIx (dVar 6) (dOp fIx (dVar 10) (dC (.int 0)))))) (dTest (dOp (fInG false) (dOp fIx (dVar 10) (dC (.int 3))) (dVar 8))))
      (dFor [2, 5, 11] (dRng1 (dCons (dCall fLen (dCons (dOp fIx (dVar 10) (dC (.int 4))) dNil)) dNil)) (gNm 11) cwI)
      dNx))
abbrev cwE (ds : List Int) (ix : Nat) (R : List R5) (k : Option D) (row pl : Option D) : En := [some (.p (.lst (intsP ds))), some (.p (.int (ix : Int))), none, some (.p (.lst (R.map row5P))), some (.ref 0), none, some (.ref 1), some (.ref 2), some (.ref 3), k, row, pl]
section
variable {ds : List Int} (hd : ∀ d ∈ ds, 0 ≤ d ∧ d < 9973) {m : Nat} {R : List R5} (t : Told m R) (ok : ∀ r ∈ R, Ok5 r) {c : List Int} (w : Ob) (ix : Nat)
include hd t ok
theorem cwI_loop {k : Nat} {r : R5} (hr : R[k]? = some r) (hc : (r.n : Int) ≤ c.getD r.a 0) (ks : List Kep) (hk : KsOk R c k 0 ks) (hl : ks.length ≤ 100) (hpar : r.cap = none ∨ ∃ (j : Nat) (e' : Kep), ks[j]? = some e' ∧ r.cap = some e'.sp) : ∃ ks' : List Kep, ks'.length ≤ ks.length + r.pubs.length ∧ KsOk R c (k + 1) 0 ks' ∧
    forL [2, 5, 11] (srcN 0 r.pubs.length).fin (gNm 11) cwI (srcN 0 r.pubs.length).items (cwE ds ix R (some (.p (.int (k : Int)))) (some (.p (row5P r))) none) (H4 w c ks) = some (.nx (cwE ds ix R (some (.p (.int (k : Int)))) (some (.p (row5P r))) none), H4 w c ks') := by
  have pl5 := (ok r (List.mem_of_getElem? hr)).pl
  obtain ⟨σ', S', h1, rfl, ks', rfl, hl', hk', _⟩ := rng0_inv (body := cwI) (ws := [2, 5, 11]) (j := 11) (fun q σ T => σ = cwE ds ix R (some (.p (.int (k : Int)))) (some (.p (row5P r))) none ∧ ∃ ks' : List Kep, T = H4 w c ks' ∧ ks'.length ≤ ks.length + q ∧ KsOk R c k q ks' ∧ (r.cap = none ∨ ∃ (j : Nat) (e' : Kep), ks'[j]? = some e' ∧ r.cap = some e'.sp)) r.pubs.length
    (σ := cwE ds ix R (some (.p (.int (k : Int)))) (some (.p (row5P r))) none) (S := H4 w c ks) ⟨rfl, ks, rfl, by omega, hk, hpar⟩ (by
    rintro q σ T hq ⟨rfl, ks1, rfl, hl1, hk1, hp1⟩
    obtain ⟨p, hpi⟩ : ∃ p, r.pubs[q]? = some p := ⟨_, List.getElem?_eq_getElem hq⟩
    have ir : ∀ T, IsRow T (.p (row5P r)) r := fun T => .inl rfl
    have px := fun S => pubs_ix hpi S
    obtain ⟨u, hu, au⟩ := at_nat hd ((ix : Int) + 3 + 3 * (k : Int) + (q : Int)) (by omega)
    have m3 : ∀ T, fMul (.p (.int 3)) (.p (.int (k : Int))) T = some (.p (.int (3 * (k : Int))), T) := fun T => mul_l (by decide) T
    have c4 : ∀ (n : Nat) T, fMod (.p (.int (n : Int))) (.p (.int 4)) T = some (.p (.int ((n % 4 : Nat) : Int)), T) := fun n T => mod_eq (by decide) T
    have keep : ∃ σ2 S2, (cwI (cwE ds ix R (some (.p (.int (k : Int)))) (some (.p (row5P r))) (some (.p (.int (q : Int))))) (H4 w c ks1) = some (.nx σ2, S2)) ∧ σ2 = cwE ds ix R (some (.p (.int (k : Int)))) (some (.p (row5P r))) (some (.p (.int (q : Int)))) ∧ ∃ ks' : List Kep, S2 = H4 w c ks' ∧ ks'.length ≤ ks.length + (q + 1) ∧ KsOk R c k (q + 1) ks' ∧ (r.cap = none ∨ ∃ (j : Nat) (e' : Kep), ks'[j]? = some e' ∧ r.cap = some e'.sp) := by
      cases hg : isG p with
      | false =>
        refine ⟨_, _, ?_, rfl, ks1, rfl, by omega, hk1.up (Nat.le_succ _), hp1⟩
        unfold cwI
        simp only [at_dIf, at_dAnd, at_dTest, at_dOp, at_dVar, at_dC, bnd_some, List.getElem?_cons_zero, List.getElem?_cons_succ, r5_4 (ir _), px, pub_0, fEq_ss, tag_g, hg, Bool.false_eq_true, if_false, toB_p, at_dNx]
      | true =>
        cases p with
        | revoke _ => cases hg
        | sl => cases hg
        | grant ho rt =>
          by_cases q4 : u % 4 = 0
          · have e4 : ((u % 4 : Nat) : Int) = 0 := by omega
            refine ⟨_, _, ?_, rfl, ks1, rfl, by omega, hk1.up (Nat.le_succ _), hp1⟩
            unfold cwI
            simp only [at_dIf, at_dAnd, at_dTest, at_dOp, at_dVar, at_dC, at_dCall, at_dCons, at_dNil, bnd_some, List.getElem?_cons_zero, List.getElem?_cons_succ, r5_4 (ir _), px, pub_0, fEq_ss, tag_g, hg, Bool.false_eq_true, if_false, toB_p, if_true, m3, fAdd_i, au, c4, fEq_ii, e4, decide_true, Bool.not_true, at_dNx]
          · have e4 : ¬ ((u % 4 : Nat) : Int) = 0 := by omega
            have add := hk1.add t hr hc hpi hp1
            refine ⟨_, H4 w c (ks1 ++ [(Kep.mk (r.a, r.n, q) r.cap ho rt)]), ?_, rfl, _, rfl, by rw [List.length_append, List.length_singleton]; omega, add, ?_⟩
            · have ty2 : isTy "list" (.ref 2) (H4 w c ks1) = true := isTy_ref (S := H4 w c ks1) (n := 2) rfl
              have ap2 : fApp [.ref 2, .p (kepE (Kep.mk (r.a, r.n, q) r.cap ho rt))] (H4 w c ks1) = some (.p .non, ⟨0, [w, liO c, lpO ((ks1 ++ [(Kep.mk (r.a, r.n, q) r.cap ho rt)]).map kepE), lpO ((capsOf ks1).map capP)]⟩) := by
                rw [fApp_p (S := H4 w c ks1) (n := 2) rfl (by rw [List.length_map, List.length_map]; exact lt_line (by omega))]
                simp only [List.map_append, H4, SH.put, lpO]
                rfl
              have ty3 : isTy "list" (.ref 3) (⟨0, [w, liO c, lpO ((ks1 ++ [(Kep.mk (r.a, r.n, q) r.cap ho rt)]).map kepE), lpO ((capsOf ks1).map capP)]⟩ : SH) = true := isTy_ref (S := ⟨0, [w, liO c, lpO ((ks1 ++ [(Kep.mk (r.a, r.n, q) r.cap ho rt)]).map kepE), lpO ((capsOf ks1).map capP)]⟩) (n := 3) rfl
              have ap3 : fApp [.ref 3, .p (spotP (r.a, r.n, q))] (⟨0, [w, liO c, lpO ((ks1 ++ [(Kep.mk (r.a, r.n, q) r.cap ho rt)]).map kepE), lpO ((capsOf ks1).map capP)]⟩ : SH) = some (.p .non, H4 w c (ks1 ++ [(Kep.mk (r.a, r.n, q) r.cap ho rt)])) := by
                rw [fApp_p (S := ⟨0, [w, liO c, lpO ((ks1 ++ [(Kep.mk (r.a, r.n, q) r.cap ho rt)]).map kepE), lpO ((capsOf ks1).map capP)]⟩) (n := 3) rfl (by rw [List.length_map, List.length_map, List.length_cons, List.length_map]; exact lt_line (by omega))]
                simp only [capsOf, List.map_append, H4, SH.put, lpO, List.map_cons]
                rfl
              have nt : ∀ T, newT [.p (spotP (r.a, r.n, q)), .p (capP r.cap), .p (.int (ho : Int)), .p rt] T = some (.p (kepE (Kep.mk (r.a, r.n, q) r.cap ho rt)), T) := fun T => newT_p (S := T) [spotP (r.a, r.n, q), capP r.cap, .int (ho : Int), rt] (small (by simp))
              unfold cwI
              simp only [at_dIf, at_dAnd, at_dTest, at_dOp, at_dVar, at_dC, at_dCall, at_dCons, at_dNil, bnd_some, List.getElem?_cons_zero, List.getElem?_cons_succ, r5_4 (ir _), px, pub_0, fEq_ss, tag_g, hg, Bool.false_eq_true, if_false, toB_p, if_true, m3, fAdd_i, au, c4, fEq_ii, e4, decide_false, Bool.not_false]
              rw [at_dSeq]
              simp only [at_dDrop, at_dBM, at_dVar, at_dCons, at_dTup, at_dOp, at_dC, at_dNil, bnd_some, List.getElem?_cons_zero, List.getElem?_cons_succ, ty2, if_true, r5_0 (ir _), r5_1 (ir _), r5_3 (ir _), r5_4 (ir _), spot_mk, px, pub_1, pub_2, nt, ap2, seqK_nx, ty3, ap3]
            · rcases hp1 with z | ⟨j, e', he', z⟩
              · exact .inl z
              · have hj := (List.getElem?_eq_some_iff.mp he').1
                exact .inr ⟨j, e', by rw [List.getElem?_append_left hj]; exact he', z⟩
    obtain ⟨σ2, S2, e1, e2, ks2, e3, l2, k2, p2⟩ := keep
    exact ⟨σ2, S2, .inl e1, by rw [e2]; rfl, ks2, e3, l2, k2, p2⟩)
  exact ⟨ks', hl', hk'.next, h1⟩
theorem cw_loop (hc : c.length = m) (hR : R.length ≤ 12) : ∃ (ks : List Kep) (y : Option D), ks.length ≤ 60 ∧ KsOk R c R.length 0 ks ∧
    forL [2, 5, 9, 11] (srcN 0 R.length).fin (gNm 9) cwO (srcN 0 R.length).items (cwE ds ix R none none none) (H4 w c []) = some (.nx (cwE ds ix R none y none), H4 w c ks) := by
  obtain ⟨σ', S', h1, ⟨y, rfl⟩, ks, rfl, hl, hk⟩ := rng0_inv (body := cwO) (ws := [2, 5, 9, 11]) (j := 9) (fun k σ T => (∃ y, σ = cwE ds ix R none y none) ∧ ∃ ks : List Kep, T = H4 w c ks ∧ ks.length ≤ 5 * k ∧ KsOk R c k 0 ks) R.length
    (σ := cwE ds ix R none none none) (S := H4 w c []) ⟨⟨none, rfl⟩, [], rfl, by simp, ks_nil _ _ _ _⟩ (by
    rintro k σ T hk ⟨⟨y, rfl⟩, ks, rfl, hl, hko⟩
    obtain ⟨r, hr⟩ : ∃ r, R[k]? = some r := ⟨_, List.getElem?_eq_getElem hk⟩
    have hm := List.mem_of_getElem? hr
    have pl5 := (ok r hm).pl
    have ha := t.al r hm
    have ir : ∀ T, IsRow T (.p (row5P r)) r := fun T => .inl rfl
    have rx : ∀ T, fIx (.p (.lst (R.map row5P))) (.p (.int (k : Int))) T = some (.p (row5P r), T) := fun T => fIx_l (by rw [List.getElem?_map, hr]; rfl)
    have cx : fIx (.ref 1) (.p (.int (r.a : Int))) (H4 w c ks) = some (.p (.int (c.getD r.a 0)), H4 w c ks) := fIx_rn (S := H4 w c ks) (n := 1) rfl (by rw [List.getElem?_map, intsP_at (getD_at (ds := c) (n := r.a) (by omega))]; rfl)
    have inx : fInG false (.p (capP r.cap)) (.ref 3) (H4 w c ks) = some (.p (.bl (decide (r.cap ∈ capsOf ks))), H4 w c ks) := in_caps (S := H4 w c ks) (n := 3) rfl r.cap
    have up : KsOk R c (k + 1) 0 ks := hko.next
    by_cases g1 : (r.n : Int) ≤ c.getD r.a 0
    · by_cases g2 : r.cap ∈ capsOf ks
      · have hpar : r.cap = none ∨ ∃ (j : Nat) (e' : Kep), ks[j]? = some e' ∧ r.cap = some e'.sp := by
          rcases List.mem_cons.mp g2 with z | z
          · exact .inl z
          · obtain ⟨e', he', z⟩ := List.mem_map.mp z
            obtain ⟨j, hj, rfl⟩ := List.getElem_of_mem he'
            exact .inr ⟨j, _, List.getElem?_eq_getElem hj, z.symm⟩
        obtain ⟨ks', l', k', e⟩ := cwI_loop hd t ok w ix hr g1 ks hko (by omega) hpar
        refine ⟨cwE ds ix R (some (.p (.int (k : Int)))) (some (.p (row5P r))) none, H4 w c ks', .inl ?_, ⟨_, rfl⟩, ks', rfl, by omega, k'⟩
        unfold cwO
        rw [at_dSeq]
        unfold cwI at e
        simp only [at_dSet, at_dOp, at_dVar, bnd_some, List.set_cons_zero, List.set_cons_succ, List.getElem?_cons_zero, List.getElem?_cons_succ, rx, seqK_nx, at_dIf, at_dAnd, at_dTest, at_dC, r5_0 (ir _), r5_1 (ir _), r5_3 (ir _), r5_4 (ir _), cx, fII_eq, if_true, toB_p, g1, g2, decide_true, inx, at_dFor, at_dRng1, at_dCall, at_dCons, at_dNil, pubs_len, rng_nat r.pubs.length (by omega), wipeD]
        exact e
      · refine ⟨cwE ds ix R (some (.p (.int (k : Int)))) (some (.p (row5P r))) none, H4 w c ks, .inl ?_, ⟨_, rfl⟩, ks, rfl, by omega, up⟩
        unfold cwO
        rw [at_dSeq]
        simp only [at_dSet, at_dOp, at_dVar, bnd_some, List.set_cons_zero, List.set_cons_succ, List.getElem?_cons_zero, List.getElem?_cons_succ, rx, seqK_nx, at_dIf, at_dAnd, at_dTest, at_dC, r5_0 (ir _), r5_1 (ir _), r5_3 (ir _), cx, fII_eq, if_true, toB_p, g1, g2, decide_true, decide_false, inx, Bool.false_eq_true, if_false, at_dNx]
    · refine ⟨cwE ds ix R (some (.p (.int (k : Int)))) (some (.p (row5P r))) none, H4 w c ks, .inl ?_, ⟨_, rfl⟩, ks, rfl, by omega, up⟩
      unfold cwO
      rw [at_dSeq]
      simp only [at_dSet, at_dOp, at_dVar, bnd_some, List.set_cons_zero, List.set_cons_succ, List.getElem?_cons_zero, List.getElem?_cons_succ, rx, seqK_nx, at_dIf, at_dAnd, at_dTest, at_dC, r5_0 (ir _), r5_1 (ir _), cx, fII_eq, if_true, toB_p, g1, decide_false, Bool.false_eq_true, if_false, at_dNx])
  exact ⟨ks, y, by omega, hk, h1⟩
end
end Kb
namespace Kb
open PySem PySem.Spec PyProof.Rows L2 Pv
def keepF (c : List Int) (r : R5) : Bool := decide (c.getD r.a 0 < (r.n : Int))
theorem frame0_lp (ps : List P) (S1 : SH) (n : Nat) (e : S1.os[n]? = some (lpO ps)) : frameF ⟨0, []⟩ (some (.ret (.ref n), S1)) = some (.p (.lst ps), ⟨0, []⟩) := by
  show (match outD 0 S1 (.ref n) with | some d' => some (d', Pv.cutS ⟨0, []⟩ S1) | none => none) = _
  unfold outD
  dsimp only
  rw [if_neg (Nat.not_lt_zero _), toP_lp (Nat.zero_le _) e]
  rfl
theorem cutw_eq {ds : List Int} (hd : ∀ d ∈ ds, 0 ≤ d ∧ d < 9973) {m : Nat} {R : List R5} (t : Told m R) (ok : ∀ r ∈ R, Ok5 r) (hm : 1 ≤ m ∧ m ≤ 6) (hR : R.length ≤ 12) (ix : Nat) :
    ∃ (c : List Int) (ks ks0 : List Kep), CutOk m R c ∧ ks.Perm ks0 ∧ KsOk R c R.length 0 ks0 ∧ ks.length ≤ 60 ∧ m_cut_world [.p (.lst (intsP ds)), .p (.int (ix : Int)), .p (.int (m : Int)), .p (.lst (R.map row5P))] ⟨0, []⟩ = some (.p (worldP m (R.filter (keepF c)) c ks), ⟨0, []⟩) := by
  obtain ⟨u, hu, a0⟩ := at_nat hd (ix : Int) (by omega)
  obtain ⟨v, hv, a1⟩ := at_nat hd ((ix : Int) + 1) (by omega)
  obtain ⟨w, hw, a2⟩ := at_nat hd ((ix : Int) + 2) (by omega)
  have c3 : ∀ T, fMod (.p (.int (u : Int))) (.p (.int 3)) T = some (.p (.int ((u % 3 : Nat) : Int)), T) := fun T => mod_eq (by decide) T
  have c2 : ∀ T, fMod (.p (.int (w : Int))) (.p (.int 2)) T = some (.p (.int ((w % 2 : Nat) : Int)), T) := fun T => mod_eq (by decide) T
  have lR : ∀ T, fLen [.p (.lst (R.map row5P))] T = some (.p (.int (R.length : Int)), T) := fun T => by rw [fLen_l, List.length_map]
  have ev : startD 12 [.p (.lst (intsP ds)), .p (.int (ix : Int)), .p (.int (m : Int)), .p (.lst (R.map row5P))] = [some (.p (.lst (intsP ds))), some (.p (.int (ix : Int))), some (.p (.int (m : Int))), some (.p (.lst (R.map row5P))), none, none, none, none, none, none, none, none] := rfl
  have tst : ∀ T, dOr (dTest (dOp (fEq false) (dCall fLen (dCons (dVar 3) dNil)) (dC (.int 0)))) (dTest (dOp (fEq true) (dOp fMod (dCall m_at (dCons (dVar 0) (dCons (dVar 1) dNil))) (dC (.int 3))) (dC (.int 2)))) [some (.p (.lst (intsP ds))), some (.p (.int (ix : Int))), some (.p (.int (m : Int))), some (.p (.lst (R.map row5P))), some (.ref 0), none, none, none, none, none, none, none] T = some (decide (R.length = 0 ∨ u % 3 ≠ 2), T) := fun T => by
    simp only [at_dOr, at_dTest, at_dOp, at_dCall, at_dCons, at_dVar, at_dC, at_dNil, bnd_some, List.getElem?_cons_zero, List.getElem?_cons_succ, lR, fEq_ii, Bool.false_eq_true, if_false, toB_p, a0, c3, if_true]
    by_cases q : R.length = 0
    · have e : (R.length : Int) = 0 := by omega
      simp [e, q]
    · have e : ¬ (R.length : Int) = 0 := by omega
      by_cases q2 : u % 3 = 2
      · have e2 : ((u % 3 : Nat) : Int) = 2 := by omega
        simp only [e, e2, decide_false, decide_true, Bool.false_eq_true, if_false, Bool.not_true]
        congr 2
        exact (decide_eq_false (by omega)).symm
      · have e2 : ¬ ((u % 3 : Nat) : Int) = 2 := by omega
        simp only [e, e2, decide_false, Bool.false_eq_true, if_false, Bool.not_false]
        congr 2
        exact (decide_eq_true (by omega)).symm
  by_cases hz : R.length = 0 ∨ u % 3 ≠ 2
  · refine ⟨tab m fun _ => 0, [], [], ⟨tab_len _ _, fun j x hx => ?_⟩, List.Perm.refl _, ks_nil _ _ _ _, by simp, ?_⟩
    · have hj := (List.getElem?_eq_some_iff.mp hx).1
      rw [tab_len] at hj
      rw [tab_at _ hj] at hx
      cases hx
      omega
    · have ef : R.filter (keepF (tab m fun _ => 0)) = R := List.filter_eq_self.mpr fun r hr => by
        have h1 := (t.own r hr).2
        have h2 := t.al r hr
        unfold keepF
        rw [List.getD_eq_getElem?_getD, tab_at _ h2]
        exact decide_eq_true (show (0 : Int) < (r.n : Int) by omega)
      rw [ef]
      unfold m_cut_world
      rw [fn_at (k := 4) rfl, ev, at_dSeq]
      simp only [List.length_nil]
      simp only [at_dSet, at_dCall, at_dCons, at_dVar, at_dNil, bnd_some, List.getElem?_cons_zero, List.getElem?_cons_succ, world_eq m hm.2 R, seqK_nx, List.set_cons_zero, List.set_cons_succ]
      rw [at_dSeq]
      simp only [at_dIf, tst, bnd_some, hz, decide_true, if_true, at_dRet, at_dVar, List.getElem?_cons_zero, List.getElem?_cons_succ, seqK_ret]
      exact frame0_lp _ _ 0 rfl
  · have h0 : R.length ≠ 0 := fun e => hz (.inl e)
    have hlt : v % R.length < R.length := Nat.mod_lt _ (by omega)
    obtain ⟨r, hr⟩ : ∃ r, R[v % R.length]? = some r := ⟨_, List.getElem?_eq_getElem hlt⟩
    have hmem := List.mem_of_getElem? hr
    have ha := t.al r hmem
    have hlen := t.hl r hmem
    obtain ⟨ho, hn⟩ := t.own r hmem
    have hnl := t.n_le hmem
    obtain ⟨c, hc⟩ : ∃ c, c = r.h.set r.a ((r.n : Int) - 1 + ((w % 2 : Nat) : Int)) := ⟨_, rfl⟩
    have cl : c.length = m := by rw [hc, List.length_set, hlen]
    obtain ⟨ks0, y, kl, ko, lp⟩ := cw_loop hd t ok (w0 m R) ix cl hR
    obtain ⟨ks, pm, sr⟩ := kep_sort ko.nd (by omega)
    refine ⟨c, ks, ks0, ⟨cl, fun j x hx => ?_⟩, pm, ko, by rw [pm.length_eq]; exact kl, ?_⟩
    · rw [hc] at hx
      by_cases e : r.a = j
      · subst e
        rw [List.getElem?_set_self (by omega)] at hx
        cases hx
        omega
      · rw [List.getElem?_set_ne e] at hx
        exact t.le r hmem j x hx
    · have cR : ∀ T, fMod (.p (.int (v : Int))) (.p (.int (R.length : Int))) T = some (.p (.int ((v % R.length : Nat) : Int)), T) := fun T => mod_eq (by omega) T
      have rx : ∀ T, fIx (.p (.lst (R.map row5P))) (.p (.int ((v % R.length : Nat) : Int))) T = some (.p (row5P r), T) := fun T => fIx_l (by rw [List.getElem?_map, hr]; rfl)
      have ir : ∀ T, IsRow T (.p (row5P r)) r := fun T => .inl rfl
      have lh : fList true [.p (.lst (intsP r.h))] (⟨0, [w0 m R]⟩ : SH) = some (.ref 1, ⟨0, [w0 m R, liO r.h]⟩) := by
        show newL true ((intsP r.h).map D.p) _ = _
        rw [newL_t _ (small (by rw [List.length_map, intsP_len]; omega))]
        rfl
      have ix1 : fIx (.ref 1) (.p (.int (r.a : Int))) (⟨0, [w0 m R, liO r.h]⟩ : SH) = some (.p (.int ((r.n : Int) - 1)), ⟨0, [w0 m R, liO r.h]⟩) := fIx_rn (S := ⟨0, [w0 m R, liO r.h]⟩) (n := 1) rfl (by rw [List.getElem?_map, intsP_at ho]; rfl)
      have st1 : setIx (.ref 1) (.p (.int (r.a : Int))) (.p (.int ((r.n : Int) - 1 + ((w % 2 : Nat) : Int)))) (⟨0, [w0 m R, liO r.h]⟩ : SH) = some ⟨0, [w0 m R, liO c]⟩ := by
        rw [setIx_ri (S := ⟨0, [w0 m R, liO r.h]⟩) (m := 1) rfl (by omega) (by rw [List.length_map, intsP_len]; simp; omega), Int.toNat_natCast, intsP_setL, ← hc]
        rfl
      have n2 : newL true [] (⟨0, [w0 m R, liO c]⟩ : SH) = some (.ref 2, ⟨0, [w0 m R, liO c, lpO []]⟩) := newL_t _ (small (by simp))
      have n3 : newL true [.p .non] (⟨0, [w0 m R, liO c, lpO []]⟩ : SH) = some (.ref 3, H4 (w0 m R) c []) := newL_t _ (small (by simp))
      have cp := comp_pm (S := H4 (w0 m R) c ks0) (j := 10) (t := (dTest (dOp fGt (dOp fIx (dVar 10) (dC (.int 1))) (dOp fIx (dVar 6) (dOp fIx (dVar 10) (dC (.int 0))))))) (elt := dVar 10) (σ := cwE ds ix R none none none) row5P (keepF c) (fun q => D.p (row5P q)) R (small (by omega)) fun q hq => by
        have iq : ∀ T, IsRow T (.p (row5P q)) q := fun T => .inl rfl
        have cx : fIx (.ref 1) (.p (.int (q.a : Int))) (H4 (w0 m R) c ks0) = some (.p (.int (c.getD q.a 0)), H4 (w0 m R) c ks0) := fIx_rn (S := H4 (w0 m R) c ks0) (n := 1) rfl (by rw [List.getElem?_map, intsP_at (getD_at (ds := c) (n := q.a) (by have := t.al q hq; omega))]; rfl)
        refine ⟨?_, fun _ => ?_⟩
        · simp only [at_dTest, at_dOp, at_dVar, at_dC, bnd_some, List.set_cons_zero, List.set_cons_succ, List.getElem?_cons_zero, List.getElem?_cons_succ, r5_0 (iq _), r5_1 (iq _), cx, fII_eq, if_true, toB_p]
          rfl
        · simp only [at_dVar, List.set_cons_zero, List.set_cons_succ, List.getElem?_cons_zero, List.getElem?_cons_succ]
      have em : (R.filter (keepF c)).map (fun q => D.p (row5P q)) = ((R.filter (keepF c)).map row5P).map D.p := by rw [List.map_map]; rfl
      rw [em] at cp
      have fl := List.length_filter_le (keepF c) R
      have nl := newL_f (S := H4 (w0 m R) c ks0) ((R.filter (keepF c)).map row5P) (small (by rw [List.length_map]; omega))
      obtain ⟨S5, hS5⟩ : ∃ S5 : SH, S5 = ⟨0, [lpO [.int (m : Int), .lst ((R.filter (keepF c)).map row5P), .lst (intsP (tab m fun _ => 0)), .lst ([] : List P), nothP], liO c, lpO (ks0.map kepE), lpO ((capsOf ks0).map capP)]⟩ := ⟨_, rfl⟩
      have s1 : setIx (.ref 0) (.p (.int 1)) (.p (.lst ((R.filter (keepF c)).map row5P))) (H4 (w0 m R) c ks0) = some S5 := by
        rw [setIx_ri (S := H4 (w0 m R) c ks0) (m := 0) rfl (by decide) (by simp [worldL]), hS5]
        rfl
      obtain ⟨S6, hS6⟩ : ∃ S6 : SH, S6 = ⟨0, [.lst [.p (.int (m : Int)), .p (.lst ((R.filter (keepF c)).map row5P)), .ref 1, .p (.lst ([] : List P)), .p nothP], liO c, lpO (ks0.map kepE), lpO ((capsOf ks0).map capP)]⟩ := ⟨_, rfl⟩
      have s2 : setIx (.ref 0) (.p (.int 2)) (.ref 1) S5 = some S6 := by
        have q := setIx_rr (S := S5) (n := 0) (i := 2) (v := .ref 1) (ds := ([.int (m : Int), .lst ((R.filter (keepF c)).map row5P), .lst (intsP (tab m fun _ => 0)), .lst ([] : List P), nothP] : List P).map D.p) (by rw [hS5]; rfl) (by simp) (okRef_0 (by rw [hS5]))
        rw [show ((2 : Nat) : Int) = 2 from rfl] at q
        rw [q, hS5, hS6]
        rfl
      have srt := sr S6 2 (by rw [hS6]; rfl)
      obtain ⟨S7, hS7⟩ : ∃ S7 : SH, S7 = ⟨0, [.lst [.p (.int (m : Int)), .p (.lst ((R.filter (keepF c)).map row5P)), .ref 1, .p (.lst (ks.map kepE)), .p nothP], liO c, lpO (ks0.map kepE), lpO ((capsOf ks0).map capP)]⟩ := ⟨_, rfl⟩
      have s3 : setIx (.ref 0) (.p (.int 3)) (.p (.lst (ks.map kepE))) S6 = some S7 := by
        have q := setIx_rr (S := S6) (n := 0) (i := 3) (v := .p (.lst (ks.map kepE))) (ds := [.p (.int (m : Int)), .p (.lst ((R.filter (keepF c)).map row5P)), .ref 1, .p (.lst ([] : List P)), .p nothP]) (by rw [hS6]; rfl) (by simp) rfl
        rw [show ((3 : Nat) : Int) = 3 from rfl] at q
        rw [q, hS6, hS7]
        rfl
      have out : frameF ⟨0, []⟩ (some (.ret (.ref 0), S7)) = some (.p (worldP m (R.filter (keepF c)) c ks), ⟨0, []⟩) := by
        have h1 : toP 7 0 S7 (.ref 1) = some (.lst (intsP c)) := toP_lp (Nat.zero_le _) (by rw [hS7]; rfl)
        have h0 : toP 8 0 S7 (.ref 0) = some (worldP m (R.filter (keepF c)) c ks) := by
          unfold toP
          rw [if_neg (Nat.not_lt_zero _), show S7.os[0]? = some (.lst [.p (.int (m : Int)), .p (.lst ((R.filter (keepF c)).map row5P)), .ref 1, .p (.lst (ks.map kepE)), .p nothP]) by rw [hS7]; rfl]
          dsimp only
          rw [List.mapM_cons, List.mapM_cons, List.mapM_cons, h1]
          rfl
        show (match outD 0 S7 (.ref 0) with | some d' => some (d', Pv.cutS ⟨0, []⟩ S7) | none => none) = _
        unfold outD
        dsimp only
        rw [if_neg (Nat.not_lt_zero _), h0]
        rfl
      unfold m_cut_world
      rw [fn_at (k := 4) rfl, ev, at_dSeq]
      simp only [List.length_nil]
      simp only [at_dSet, at_dCall, at_dCons, at_dVar, at_dNil, bnd_some, List.getElem?_cons_zero, List.getElem?_cons_succ, world_eq m hm.2 R, seqK_nx, List.set_cons_zero, List.set_cons_succ]
      rw [at_dSeq]
      simp only [at_dIf, tst, bnd_some, hz, decide_false, Bool.false_eq_true, if_false, at_dNx, seqK_nx]
      rw [at_dSeq]
      simp only [at_dSet, at_dOp, at_dCall, at_dCons, at_dVar, at_dC, at_dNil, bnd_some, List.getElem?_cons_zero, List.getElem?_cons_succ, fAdd_i, a1, lR, cR, rx, seqK_nx, List.set_cons_zero, List.set_cons_succ]
      rw [at_dSeq]
      simp only [at_dSet, at_dOp, at_dCall, at_dCons, at_dVar, at_dC, at_dNil, bnd_some, List.getElem?_cons_zero, List.getElem?_cons_succ, r5_2 (ir _), lh, seqK_nx, List.set_cons_zero, List.set_cons_succ]
      rw [at_dSeq]
      simp only [at_dAsg, at_gSb, at_dOp, at_dCall, at_dCons, at_dVar, at_dC, at_dNil, bnd_some, List.getElem?_cons_zero, List.getElem?_cons_succ, r5_0 (ir _), ix1, fAdd_i, a2, c2, st1, seqK_nx]
      rw [at_dSeq]
      simp only [at_dSet, at_dLst, at_dNil, bnd_some, n2, seqK_nx, List.set_cons_zero, List.set_cons_succ]
      rw [at_dSeq]
      simp only [at_dSet, at_dLst, at_dCons, at_dC, at_dNil, bnd_some, n3, seqK_nx, List.set_cons_zero, List.set_cons_succ]
      rw [at_dSeq]
      unfold cwO cwI cwE at lp
      simp only [at_dFor, at_dRng1, at_dCall, at_dCons, at_dVar, at_dNil, bnd_some, List.getElem?_cons_zero, List.getElem?_cons_succ, lR, rng_nat R.length (by omega), wipeD, List.set_cons_zero, List.set_cons_succ, lp, seqK_nx]
      rw [at_dSeq]
      unfold cwE at cp
      simp only [at_dAsg, at_dComp, at_dIt, at_dVar, bnd_some, List.getElem?_cons_zero, List.getElem?_cons_succ, srcL, wipeD, List.set_cons_zero, List.set_cons_succ, cp, nl, at_gSb, at_dC, s1, seqK_nx]
      rw [at_dSeq]
      simp only [at_dAsg, at_gSb, at_dVar, at_dC, bnd_some, List.getElem?_cons_zero, List.getElem?_cons_succ, s2, seqK_nx]
      rw [at_dSeq]
      simp only [at_dAsg, at_gSb, at_dCall, at_dCons, at_dNil, at_dVar, at_dC, bnd_some, List.getElem?_cons_zero, List.getElem?_cons_succ, srt, s3, seqK_nx, at_dRet]
      exact out
end Kb
namespace Kb
open PySem PySem.Spec PyProof.Rows L2 Pv
/-! what is kept of a space -/
def pr (xs : List (P × P)) : List P := xs.map fun x => .tup [x.1, x.2]
theorem pr_len (xs : List (P × P)) : (pr xs).length = xs.length := List.length_map _
theorem comp_pair {i j : Nat} {elt : ME} {σ : En} {S : SH} (fv : P → P → D) (xs : List (P × P)) (hl : xs.length ≤ sizeLine) (h : ∀ x ∈ xs, elt ((σ.set i (some (.p x.1))).set j (some (.p x.2))) S = some (fv x.1 x.2, S)) : compL (srcP (pr xs)).fin (gTp 2 (gCn (gNm i) (gCn (gNm j) gNl))) dYes elt σ (srcP (pr xs)).items [] S = some (xs.map fun x => fv x.1 x.2, S) := by
  have cp := comp_all (t := dYes) (elt := elt) (g := gTp 2 (gCn (gNm i) (gCn (gNm j) gNl))) (fin := (srcP (pr xs)).fin) (S := S) (σ := σ) (fun _ => true) (fun x : P × P => fv x.1 x.2) (fun x (_ : SH) => some (D.p (.tup [x.1, x.2]))) rfl xs [] (by rw [List.length_nil, Nat.zero_add]; exact hl) (fun x hx => ⟨_, (σ.set i (some (.p x.1))).set j (some (.p x.2)), rfl, rfl, rfl, fun _ => h x hx⟩)
  have ei : (srcP (pr xs)).items = xs.map fun x (_ : SH) => some (D.p (.tup [x.1, x.2])) := by simp [srcP, pr]
  rw [← ei, List.filter_eq_self.mpr fun _ _ => rfl, List.nil_append] at cp
  exact cp
theorem comp_same {i j : Nat} {σ : En} {S : SH} (xs : List (P × P)) (hl : xs.length ≤ 1000) (hij : i ≠ j) (hi : i < σ.length) (hj : j < σ.length) : compL (srcP (pr xs)).fin (gTp 2 (gCn (gNm i) (gCn (gNm j) gNl))) dYes (dTup (dCons (dVar i) (dCons (dVar j) dNil))) σ (srcP (pr xs)).items [] S = some ((pr xs).map D.p, S) := by
  rw [comp_pair (fun a b => D.p (.tup [a, b])) xs (small (by omega)) (fun x _ => by
    have g1 : ((σ.set i (some (.p x.1))).set j (some (.p x.2)))[i]? = some (some (.p x.1)) := by
      rw [List.getElem?_set_ne hij.symm]
      exact List.getElem?_set_self hi
    have g2 : ((σ.set i (some (.p x.1))).set j (some (.p x.2)))[j]? = some (some (.p x.2)) := List.getElem?_set_self (by rw [List.length_set]; exact hj)
    simp only [at_dTup, at_dCons, at_dVar, at_dNil, g1, g2, bnd_some]
    exact newT_p (S := S) [x.1, x.2] (small (by simp)))]
  unfold pr
  rw [List.map_map]
  rfl
abbrev Tx2 := List (P × List (P × P))
def txs (ts : Tx2) : List (P × P) := ts.map fun t => (t.1, .lst (pr t.2))
theorem txs_len (ts : Tx2) : (txs ts).length = ts.length := List.length_map _
def kepG (as ss : List (P × P)) (ts : Tx2) : List (Str × P) := [("acts", .lst (pr as)), ("sums", .lst (pr ss)), ("texts", .lst (pr (txs ts)))]
def kepP (as ss : List (P × P)) (ts : Tx2) : P := .ins 1 (kepG as ss ts)
theorem kinit_eq (S : SH) (as ss : List (P × P)) (ts : Tx2) (l1 : as.length ≤ 100) (l2 : ss.length ≤ 100) (l3 : ts.length ≤ 100) (l4 : ∀ t ∈ ts, t.2.length ≤ 100) :
    m_Kept_init [.ref S.os.length, .p (.lst (pr as)), .p (.lst (pr ss)), .p (.lst (pr (txs ts)))] ⟨S.os.length, S.os ++ [.ins 1 []]⟩ = some (.p .non, ⟨S.os.length, S.os ++ [.ins 1 ((kepG as ss ts).map fun p => (p.1, .p p.2))]⟩) := by
  have c0 : ([1] : List Nat).contains 1 = true := by decide
  let σ0 : En := [some (.ref S.os.length), some (.p (.lst (pr as))), some (.p (.lst (pr ss))), some (.p (.lst (pr (txs ts)))), none, none, none, none, none, none, none]
  have ev : startD 11 [.ref S.os.length, .p (.lst (pr as)), .p (.lst (pr ss)), .p (.lst (pr (txs ts)))] = σ0 := rfl
  have it : ∀ (ps : List P) (T : SH), srcOf (.p (.lst ps)) T = some (srcP ps, T) := fun _ _ => rfl
  have cp1 := fun T => comp_same (i := 4) (j := 5) (σ := σ0) (S := T) as (by omega) (by decide) (show 4 < 11 by decide) (show 5 < 11 by decide)
  have cp2 := fun T => comp_same (i := 6) (j := 7) (σ := σ0) (S := T) ss (by omega) (by decide) (show 6 < 11 by decide) (show 7 < 11 by decide)
  have nl1 := fun T => newL_f (S := T) (pr as) (small (by rw [pr_len]; omega))
  have nl2 := fun T => newL_f (S := T) (pr ss) (small (by rw [pr_len]; omega))
  have nl3 := fun T => newL_f (S := T) (pr (txs ts)) (small (by rw [pr_len, txs_len]; omega))
  have cp3 : ∀ T, compL (srcP (pr (txs ts))).fin (gTp 2 (gCn (gNm 6) (gCn (gNm 8) gNl))) dYes (dTup (dCons (dVar 6) (dCons (dComp false (dIt (dVar 8)) (gTp 2 (gCn (gNm 9) (gCn (gNm 10) gNl))) dYes (dTup (dCons (dVar 9) (dCons (dVar 10) dNil))) [9, 10]) dNil))) σ0 (srcP (pr (txs ts))).items [] T = some ((pr (txs ts)).map D.p, T) := fun T => by
    rw [comp_pair (fun a b => D.p (.tup [a, b])) (txs ts) (small (by rw [txs_len]; omega)) (fun x hx => by
      obtain ⟨t, ht, rfl⟩ := List.mem_map.mp hx
      have c4 := fun T => comp_same (i := 9) (j := 10) (σ := [some (.ref S.os.length), some (.p (.lst (pr as))), some (.p (.lst (pr ss))), some (.p (.lst (pr (txs ts)))), none, none, some (.p t.1), none, some (.p (.lst (pr t.2))), none, none]) (S := T) t.2 (by have := l4 t ht; omega) (by decide) (show 9 < 11 by decide) (show 10 < 11 by decide)
      have nl4 := fun T => newL_f (S := T) (pr t.2) (small (by rw [pr_len]; have := l4 t ht; omega))
      have nt : ∀ T, newT [.p t.1, .p (.lst (pr t.2))] T = some (.p (.tup [t.1, .lst (pr t.2)]), T) := fun T => newT_p (S := T) [t.1, .lst (pr t.2)] (small (by simp))
      show (dTup (dCons (dVar 6) (dCons (dComp false (dIt (dVar 8)) (gTp 2 (gCn (gNm 9) (gCn (gNm 10) gNl))) dYes (dTup (dCons (dVar 9) (dCons (dVar 10) dNil))) [9, 10]) dNil))) [some (.ref S.os.length), some (.p (.lst (pr as))), some (.p (.lst (pr ss))), some (.p (.lst (pr (txs ts)))), none, none, some (.p t.1), none, some (.p (.lst (pr t.2))), none, none] T = _
      simp only [at_dTup, at_dCons, at_dVar, at_dNil, at_dComp, at_dIt, bnd_some, List.getElem?_cons_zero, List.getElem?_cons_succ, it, wipeD, List.set_cons_zero, List.set_cons_succ, c4, nl4, nt])]
    unfold pr
    rw [List.map_map]
    rfl
  have q1 : putFD "acts" (.p (.lst (pr as))) ([] : List (Str × D)) = ([("acts", .p (.lst (pr as)))] : List (Str × D)) := rfl
  have q2 : putFD "sums" (.p (.lst (pr ss))) ([("acts", .p (.lst (pr as)))] : List (Str × D)) = ([("acts", .p (.lst (pr as))), ("sums", .p (.lst (pr ss)))] : List (Str × D)) := rfl
  have q3 : putFD "texts" (.p (.lst (pr (txs ts)))) ([("acts", .p (.lst (pr as))), ("sums", .p (.lst (pr ss)))] : List (Str × D)) = ([("acts", .p (.lst (pr as))), ("sums", .p (.lst (pr ss))), ("texts", .p (.lst (pr (txs ts))))] : List (Str × D)) := rfl
  have sl : ∀ {f : Str} {v : P} {fs : List (Str × D)}, fs.length < 1000 → setFld [1] f (.ref S.os.length) (.p v) ⟨S.os.length, S.os ++ [.ins 1 fs]⟩ = some ⟨S.os.length, S.os ++ [.ins 1 (putFD f (.p v) fs)]⟩ := fun hl => setF_last c0 hl
  have w1 : wipeD [4, 5] σ0 = σ0 := rfl
  have w2 : wipeD [6, 7] σ0 = σ0 := rfl
  have w3 : wipeD [6, 8] σ0 = σ0 := rfl
  have v0 : σ0[0]? = some (some (.ref S.os.length)) := rfl
  have v1 : σ0[1]? = some (some (.p (.lst (pr as)))) := rfl
  have v2 : σ0[2]? = some (some (.p (.lst (pr ss)))) := rfl
  have v3 : σ0[3]? = some (some (.p (.lst (pr (txs ts))))) := rfl
  unfold m_Kept_init
  rw [fnL_at (k := 4) rfl, ev, at_dSeq]
  simp only [at_dSetF, at_dComp, at_dIt, at_dVar, v0, v1, v2, v3, w1, w2, w3, it, bnd_some, cp1, nl1]
  rw [sl (by simp only [List.length_nil]; omega), q1]
  simp only [bnd_some, seqK_nx]
  rw [at_dSeq]
  simp only [at_dSetF, at_dComp, at_dIt, at_dVar, v0, v1, v2, v3, w1, w2, w3, it, bnd_some, cp2, nl2]
  rw [sl (by simp only [List.length_cons, List.length_nil]; omega), q2]
  simp only [bnd_some, seqK_nx]
  simp only [at_dSetF, at_dComp, at_dIt, at_dVar, v0, v1, v2, v3, w1, w2, w3, it, bnd_some, cp3, nl3]
  rw [sl (by simp only [List.length_cons, List.length_nil]; omega), q3]
  rfl
theorem kmk_eq (S : SH) {a : MA} {σ : En} (as ss : List (P × P)) (ts : Tx2) (ha : a σ S = some ([.p (.lst (pr as)), .p (.lst (pr ss)), .p (.lst (pr (txs ts)))], S)) (l1 : as.length ≤ 100) (l2 : ss.length ≤ 100) (l3 : ts.length ≤ 100) (l4 : ∀ t ∈ ts, t.2.length ≤ 100) :
    dMake false 1 m_Kept_init a σ S = some (.p (kepP as ss ts), S) := by
  rw [at_dMakeF, ha, bnd_some, kinit_eq S as ss ts l1 l2 l3 l4, bnd_some]
  have e := out_ins (k := S.os.length) (c := 1) (n := S.os.length) (S1 := ⟨S.os.length, S.os ++ [.ins 1 ((kepG as ss ts).map fun p => (p.1, .p p.2))]⟩) (gs := kepG as ss ts) (Nat.le_refl _) (at_last _ _ _)
  dsimp only
  rw [e]
  dsimp only
  rw [cut_app]
  rfl
end Kb
namespace Kb
open PySem PySem.Spec PyProof.Rows L2 Pv
abbrev k0P : P := kepP [] [] []
def stoF (m : Nat) : List (Str × D) := [("members", .p (.int (m : Int))), ("cut", .ref 1), ("capabilities", .ref 2), ("kept", .ref 3), ("changes", .ref (4 + m))]
abbrev ouO (m : Nat) : Ob := .lst (tab m fun j => .ref (4 + j))
def stoL (m : Nat) (cut : List Int) (caps kept : List P) (chs : List (List P)) : List Ob := .ins 2 (stoF m) :: liO cut :: lpO caps :: lpO kept :: (chs.map lpO ++ [ouO m])
structure Sto (S : SH) (m : Nat) (cut : List Int) (caps kept : List P) (chs : List (List P)) : Prop where
  o : S.os[0]? = some (.ins 2 (stoF m))
  c : S.os[1]? = some (liO cut)
  k : S.os[2]? = some (lpO caps)
  e : S.os[3]? = some (lpO kept)
  l : ∀ (j : Nat) (c : List P), chs[j]? = some c → S.os[4 + j]? = some (lpO c)
  d : S.os[4 + m]? = some (ouO m)
theorem sto_sto (b m : Nat) (cut : List Int) (caps kept : List P) (chs : List (List P)) (lm : chs.length = m) : Sto ⟨b, stoL m cut caps kept chs⟩ m cut caps kept chs := by
  refine ⟨rfl, rfl, rfl, rfl, fun j c h => ?_, ?_⟩
  · have hj := (List.getElem?_eq_some_iff.mp h).1
    show (Ob.ins 2 (stoF m) :: _)[4 + j]? = _
    rw [show 4 + j = j + 1 + 1 + 1 + 1 by omega, List.getElem?_cons_succ, List.getElem?_cons_succ, List.getElem?_cons_succ, List.getElem?_cons_succ, List.getElem?_append_left (by rw [List.length_map]; exact hj), List.getElem?_map, h]
    rfl
  · show (Ob.ins 2 (stoF m) :: _)[4 + m]? = _
    rw [show 4 + m = m + 1 + 1 + 1 + 1 by omega, List.getElem?_cons_succ, List.getElem?_cons_succ, List.getElem?_cons_succ, List.getElem?_cons_succ, List.getElem?_append_right (by rw [List.length_map, lm]; exact Nat.le_refl _), List.length_map, lm, Nat.sub_self]
    rfl
theorem sto_put_ch (b m : Nat) (cut : List Int) (caps kept : List P) (chs : List (List P)) (j : Nat) (hj : j < chs.length) (c : List P) : SH.put ⟨b, stoL m cut caps kept chs⟩ (4 + j) (lpO c) = ⟨b, stoL m cut caps kept (chs.set j c)⟩ := by
  unfold stoL SH.put
  dsimp only
  rw [show 4 + j = j + 1 + 1 + 1 + 1 by omega, List.set_cons_succ, List.set_cons_succ, List.set_cons_succ, List.set_cons_succ, List.set_append_left _ _ (by rw [List.length_map]; exact hj), List.map_set]
theorem flds_r {n c : Nat} {fs : List (Str × D)} {S : SH} (h : S.os[n]? = some (.ins c fs)) : fldsOf (.ref n) S = some (c, fs) := by
  unfold fldsOf
  dsimp only
  rw [h]
theorem fld_r {n : Nat} {fs : List (Str × D)} {S : SH} {f : Str} {x : D} (h : S.os[n]? = some (.ins 2 fs)) (hx : fs.lookup f = some x) : dFld [2] f (.ref n) S = some (x, S) := by
  unfold dFld
  rw [flds_r h]
  dsimp only
  rw [if_pos (by decide), hx]
section
variable {S : SH} {m : Nat} {cut : List Int} {caps kept : List P} {chs : List (List P)} (h : Sto S m cut caps kept chs)
include h
theorem so_members : dFld [2] "members" (.ref 0) S = some (.p (.int (m : Int)), S) := fld_r h.o rfl
theorem so_cut : dFld [2] "cut" (.ref 0) S = some (.ref 1, S) := fld_r h.o rfl
theorem so_caps : dFld [2] "capabilities" (.ref 0) S = some (.ref 2, S) := fld_r h.o rfl
theorem so_kept : dFld [2] "kept" (.ref 0) S = some (.ref 3, S) := fld_r h.o rfl
theorem so_changes : dFld [2] "changes" (.ref 0) S = some (.ref (4 + m), S) := fld_r h.o rfl
theorem so_ix {j : Nat} (hj : j < m) : fIx (.ref (4 + m)) (.p (.int (j : Int))) S = some (.ref (4 + j), S) := fIx_rn h.d (tab_at _ hj)
theorem so_meth {nm : Str} {mf : MF} {a : ME} {r : MA} {σ : En} (ha : a σ S = some (.ref 0, S)) (hn : (stoF m).lookup nm = none) : dMeth 2 nm mf a r σ S = bnd (r σ S) fun xs S2 => mf (.ref 0 :: xs) S2 := by
  rw [at_dMeth, ha, bnd_some, flds_r h.o]
  dsimp only
  rw [if_pos ⟨rfl, hn⟩]
end
theorem at_dMakeT {c : Nat} {init : MF} {a : MA} {σ : En} {S : SH} : dMake true c init a σ S = bnd (a σ S) fun xs S1 => bnd (init (.ref S1.os.length :: xs) ⟨S1.b, S1.os ++ [.ins c []]⟩) fun d S2 => match d with | .p .non => some (.ref S1.os.length, S2) | _ => none := by
  unfold dMake
  rfl
theorem kept0 (T : SH) (σ : En) : dMake false 1 m_Kept_init (dCons (dLst false dNil) (dCons (dLst false dNil) (dCons (dLst false dNil) dNil))) σ T = some (.p k0P, T) := by
  have nl : ∀ T, newL false [] T = some (.p (.lst []), T) := fun T => newL_f (S := T) [] (small (by simp))
  rw [kmk_eq T [] [] [] (by simp only [at_dCons, at_dLst, at_dNil, bnd_some, nl]; rfl) (by simp) (by simp) (by simp) (by simp)]
theorem kepemp_eq (T : SH) : m_kept [.p empK] T = some (.p k0P, T) := by
  obtain ⟨S1, hS⟩ : ∃ S1 : SH, S1 = ⟨T.os.length, T.os⟩ := ⟨_, rfl⟩
  have is' : fIs false (.p empK) (.p .non) S1 = some (.p (.bl false), S1) := rfl
  have i0 : fIx (.p empK) (.p (.int 0)) S1 = some (.p (.lst []), S1) := fIx_l (n := 0) rfl
  have i1 : fIx (.p empK) (.p (.int 1)) S1 = some (.p (.lst []), S1) := fIx_l (n := 1) rfl
  have i2 : fIx (.p empK) (.p (.int 2)) S1 = some (.p (.lst []), S1) := fIx_l (n := 2) rfl
  have fl : fList false [.p (.lst [])] S1 = some (.p (.lst []), S1) := fList_l (S := S1) (ps := []) (small (by simp))
  have nl : newL false [] S1 = some (.p (.lst []), S1) := newL_f (S := S1) [] (small (by simp))
  have cp : ∀ (g : MG) (elt : ME) (σ : En) (T : SH), compL (srcP []).fin g dYes elt σ (srcP []).items [] T = some ([], T) := fun g elt σ T => rfl
  have mk := kmk_eq S1 (a := (dCons (dCall (fList false) (dCons (dOp fIx (dVar 0) (dC (.int 0))) dNil)) (dCons (dCall (fList false) (dCons (dOp fIx (dVar 0) (dC (.int 1))) dNil)) (dCons (dComp false (dIt (dOp fIx (dVar 0) (dC (.int 2)))) (gTp 2 (gCn (gNm 1) (gCn (gNm 2) gNl))) dYes (dTup (dCons (dVar 1) (dCons (dCall (fList false) (dCons (dVar 2) dNil)) dNil))) [1, 2]) dNil)))) (σ := [some (.p empK), none, none]) [] [] [] (by
    simp only [at_dCons, at_dCall, at_dOp, at_dVar, at_dC, at_dComp, at_dIt, at_dNil, bnd_some, List.getElem?_cons_zero, i0, i1, i2, fl, srcL, cp, nl]
    rfl) (by simp) (by simp) (by simp) (by simp)
  unfold m_kept
  rw [fn_at (k := 1) rfl, show startD 3 [.p empK] = [some (.p empK), none, none] from rfl, ← hS, at_dSeq]
  simp only [at_dIf, at_dTest, at_dOp, at_dVar, at_dC, bnd_some, List.getElem?_cons_zero, is', toB_p, Bool.false_eq_true, if_false, at_dNx, seqK_nx]
  rw [at_dRet, mk, bnd_some, frame_p, hS, cut_self]
theorem comp_new {j b : Nat} {σ : En} : ∀ (its : List (SH → Option D)) (acc : List D) (os : List Ob), (∀ it ∈ its, ∀ S, ∃ d, it S = some d) → acc.length + its.length ≤ sizeLine →
    compL (fun _ => true) (gNm j) dYes (dLst true dNil) σ its acc ⟨b, os⟩ = some (acc ++ tab its.length fun j => .ref (os.length + j), ⟨b, os ++ List.replicate its.length (.lst [])⟩)
  | [], acc, os, _, _ => by simp [compL, tab]
  | it :: its, acc, os, h, hl => by
    rw [List.length_cons] at hl
    obtain ⟨d, hd⟩ := h it List.mem_cons_self ⟨b, os⟩
    have ih := comp_new (j := j) (b := b) (σ := σ) its (acc ++ [.ref os.length]) (os ++ [.lst []]) (fun t ht => h t (List.mem_cons_of_mem _ ht)) (by rw [List.length_append, List.length_singleton]; omega)
    have nl : newL true [] ⟨b, os⟩ = some (.ref os.length, ⟨b, os ++ [.lst []]⟩) := newL_t (S := ⟨b, os⟩) [] (Nat.zero_le _)
    rw [compL, hd]
    dsimp only
    simp only [at_gNm, bnd_some, at_dYes, if_true, at_dLst, at_dNil, nl]
    rw [if_pos (by omega), ih, List.length_cons, List.replicate_succ, List.append_assoc, List.append_assoc, List.length_append, List.length_singleton]
    congr 3
    unfold tab
    rw [List.range_succ_eq_map, List.map_cons, List.map_map, Nat.add_zero]
    show D.ref os.length :: _ = _
    congr 1
    apply List.map_congr_left
    intro a _
    show D.ref (os.length + 1 + a) = D.ref (os.length + (a + 1))
    congr 1
    omega
theorem sinit (m : Nat) (hm : m ≤ 100) : m_Store_init [.ref 0, .p (.int (m : Int))] ⟨0, [.ins 2 []]⟩ = some (.p .non, ⟨0, stoL m (tab m fun _ => 0) [] [k0P, k0P, k0P, k0P] (List.replicate m [])⟩) := by
  have c0 : ([2] : List Nat).contains 2 = true := by decide
  have ev : startD 3 [.ref 0, .p (.int (m : Int))] = [some (.ref 0), some (.p (.int (m : Int))), none] := rfl
  have rz := fun T => rng_nat m (by omega) T
  have rz4 : ∀ T, rng1 [.p u_SPACES] T = some (srcN 0 4, T) := fun T => srt_rng 4 (by decide)
  have sf : ∀ {f : Str} {v : D} {fs : List (Str × D)} {r : List Ob}, fs.length < 1000 → setFld [2] f (.ref 0) v ⟨0, .ins 2 fs :: r⟩ = some ⟨0, .ins 2 (putFD f v fs) :: r⟩ := fun {f v fs r} hl => by
    have o : okRef ⟨0, .ins 2 fs :: r⟩ 0 v = true := okRef_0 rfl
    unfold setFld
    dsimp only
    rw [List.getElem?_cons_zero]
    dsimp only
    rw [if_pos ⟨c0, hl, o⟩]
    rfl
  have cp1 : ∀ T, compL (srcN 0 m).fin (gNm 2) dYes (dC (.int 0)) [some (.ref 0), some (.p (.int (m : Int))), none] (srcN 0 m).items [] T = some (tab m fun _ => .p (.int 0), T) := fun T => comp_tab (S := T) _ (by omega) fun i hi => rfl
  have cp2 : ∀ T, compL (srcN 0 4).fin (gNm 2) dYes (dMake false 1 m_Kept_init (dCons (dLst false dNil) (dCons (dLst false dNil) (dCons (dLst false dNil) dNil)))) [some (.ref 0), some (.p (.int (m : Int))), none] (srcN 0 4).items [] T = some ([k0P, k0P, k0P, k0P].map D.p, T) := fun T => comp_tab (S := T) (m := 4) (fun _ => .p k0P) (by omega) fun i hi => kept0 T _
  let f1 : List (Str × D) := [("members", .p (.int (m : Int)))]
  let f2 : List (Str × D) := [("members", .p (.int (m : Int))), ("cut", .ref 1)]
  let f3 : List (Str × D) := [("members", .p (.int (m : Int))), ("cut", .ref 1), ("capabilities", .ref 2)]
  let f4 : List (Str × D) := [("members", .p (.int (m : Int))), ("cut", .ref 1), ("capabilities", .ref 2), ("kept", .ref 3)]
  have n1 : newL true (tab m fun _ => .p (.int 0)) ⟨0, [.ins 2 f1]⟩ = some (.ref 1, ⟨0, [.ins 2 f1, liO (tab m fun _ => 0)]⟩) := by
    rw [newL_t _ (small (by rw [tab_len]; omega)), ← intsP_tab]
    rfl
  have n2 : newL true [] ⟨0, [.ins 2 f2, liO (tab m fun _ => 0)]⟩ = some (.ref 2, ⟨0, [.ins 2 f2, liO (tab m fun _ => 0), lpO []]⟩) := newL_t _ (small (by simp))
  have n3 : newL true ([k0P, k0P, k0P, k0P].map D.p) ⟨0, [.ins 2 f3, liO (tab m fun _ => 0), lpO []]⟩ = some (.ref 3, ⟨0, [.ins 2 f3, liO (tab m fun _ => 0), lpO [], lpO [k0P, k0P, k0P, k0P]]⟩) := newL_t _ (small (by simp))
  have cp3 : compL (srcN 0 m).fin (gNm 2) dYes (dLst true dNil) [some (.ref 0), some (.p (.int (m : Int))), none] (srcN 0 m).items [] ⟨0, [.ins 2 f4, liO (tab m fun _ => 0), lpO [], lpO [k0P, k0P, k0P, k0P]]⟩ = some (tab m fun j => .ref (4 + j), ⟨0, .ins 2 f4 :: liO (tab m fun _ => 0) :: lpO [] :: lpO [k0P, k0P, k0P, k0P] :: List.replicate m (.lst [])⟩) := by
    have q := comp_new (j := 2) (b := 0) (σ := [some (.ref 0), some (.p (.int (m : Int))), none]) (srcN 0 m).items [] [.ins 2 f4, liO (tab m fun _ => 0), lpO [], lpO [k0P, k0P, k0P, k0P]] (by
      intro it hit S
      simp only [srcN, List.mem_map] at hit
      obtain ⟨i, _, rfl⟩ := hit
      exact ⟨_, rfl⟩) (by simp [srcN]; exact small (by omega))
    have e1 : (srcN 0 m).items.length = m := by simp [srcN]
    rw [e1, List.nil_append] at q
    exact q
  have n4 : newL true (tab m fun j => .ref (4 + j)) ⟨0, .ins 2 f4 :: liO (tab m fun _ => 0) :: lpO [] :: lpO [k0P, k0P, k0P, k0P] :: List.replicate m (.lst [])⟩ = some (.ref (4 + m), ⟨0, .ins 2 f4 :: liO (tab m fun _ => 0) :: lpO [] :: lpO [k0P, k0P, k0P, k0P] :: (List.replicate m (.lst []) ++ [ouO m])⟩) := by
    rw [newL_t _ (small (by rw [tab_len]; omega))]
    have e : (Ob.ins 2 f4 :: liO (tab m fun _ => 0) :: lpO [] :: lpO [k0P, k0P, k0P, k0P] :: List.replicate m (.lst [])).length = 4 + m := by simp; omega
    show some (D.ref (Ob.ins 2 f4 :: liO (tab m fun _ => 0) :: lpO [] :: lpO [k0P, k0P, k0P, k0P] :: List.replicate m (.lst [])).length, _) = _
    rw [e]
    rfl
  unfold m_Store_init
  rw [fnL_at (k := 2) rfl, ev, at_dSeq]
  simp only [at_dSetF, at_dVar, List.getElem?_cons_zero, List.getElem?_cons_succ, bnd_some]
  rw [sf (r := []) (by simp only [List.length_nil]; omega)]
  simp only [bnd_some, seqK_nx]
  rw [show (putFD "members" (.p (.int (m : Int))) ([] : List (Str × D))) = f1 from rfl, at_dSeq]
  simp only [at_dSetF, at_dVar, at_dComp, at_dRng1, at_dCons, at_dNil, List.getElem?_cons_zero, List.getElem?_cons_succ, bnd_some, rz, wipeD, List.set_cons_zero, List.set_cons_succ, cp1]
  rw [n1, bnd_some, sf (by simp [f1])]
  simp only [bnd_some, seqK_nx]
  rw [show putFD "cut" (.ref 1) f1 = f2 from rfl, at_dSeq]
  simp only [at_dSetF, at_dVar, at_dLst, at_dNil, List.getElem?_cons_zero, List.getElem?_cons_succ, bnd_some]
  rw [n2, bnd_some, sf (by simp [f2])]
  simp only [bnd_some, seqK_nx]
  rw [show putFD "capabilities" (.ref 2) f2 = f3 from rfl, at_dSeq]
  simp only [at_dSetF, at_dVar, at_dComp, at_dRng1, at_dCons, at_dNil, at_dC, List.getElem?_cons_zero, List.getElem?_cons_succ, bnd_some, rz4, wipeD, List.set_cons_zero, List.set_cons_succ, cp2]
  rw [n3, bnd_some, sf (by simp [f3])]
  simp only [bnd_some, seqK_nx]
  rw [show putFD "kept" (.ref 3) f3 = f4 from rfl]
  simp only [at_dSetF, at_dVar, at_dComp, at_dRng1, at_dCons, at_dNil, List.getElem?_cons_zero, List.getElem?_cons_succ, bnd_some, rz, wipeD, List.set_cons_zero, List.set_cons_succ]
  rw [cp3, bnd_some, n4, bnd_some, sf (by simp [f4])]
  rw [show putFD "changes" (.ref (4 + m)) f4 = stoF m from rfl]
  unfold stoL
  rw [List.map_replicate]
  rfl
end Kb
namespace Kb
open PySem PySem.Spec PyProof.Rows L2 Pv
def chP (r : R5) : P := insP (.int (r.a : Int)) (.int (r.n : Int)) (capP r.cap) (intsP r.h) (r.pubs.map pubP) parts4
section
variable (r : R5) (S : SH)
theorem ch_author : dFld [0] "author" (.p (chP r)) S = some (.p (.int (r.a : Int)), S) := f_author _ _ _ _ _ _ S
theorem ch_number : dFld [0] "number" (.p (chP r)) S = some (.p (.int (r.n : Int)), S) := f_number _ _ _ _ _ _ S
theorem ch_heard : dFld [0] "heard" (.p (chP r)) S = some (.p (.tup (intsP r.h)), S) := f_heard _ _ _ _ _ _ S
theorem ch_cap : dFld [0] "capability" (.p (chP r)) S = some (.p (capP r.cap), S) := f_capability _ _ _ _ _ _ S
theorem ch_pubs : dFld [0] "publics" (.p (chP r)) S = some (.p (.tup (r.pubs.map pubP)), S) := f_publics _ _ _ _ _ _ S
theorem ch_parts : dFld [0] "parts" (.p (chP r)) S = some (.p (.tup parts4), S) := f_parts _ _ _ _ _ _ S
theorem ch_header (σ : En) (i : Nat) (h : σ[i]? = some (some (.p (chP r)))) : dMeth 0 "header" m_Change_header (dVar i) dNil σ S = some (.p (.tup [.int (r.a : Int), .int (r.n : Int), .tup (intsP r.h), capP r.cap, .tup (r.pubs.map pubP)]), S) := by
  rw [meth_at (gs := insG (.int (r.a : Int)) (.int (r.n : Int)) (capP r.cap) (intsP r.h) (r.pubs.map pubP) parts4) (by rw [at_dVar, h]; rfl) rfl]
  exact header_eq _ _ _ _ _ _ S
end
abbrev tabC (m : Nat) (g : Nat → List R5) : List (List P) := tab m fun j => (g j).map chP
theorem cut_put {S : SH} (b k : Nat) (o : Ob) : Pv.cutS S ⟨b, S.os.set k o⟩ = S.put k o := by
  unfold Pv.cutS SH.len SH.put
  have e : (S.os.set k o).length = S.os.length := List.length_set
  rw [← e, List.take_length]
theorem Sto.of {b b' : Nat} {os : List Ob} {m : Nat} {cut : List Int} {caps kept : List P} {chs : List (List P)} (h : Sto ⟨b, os⟩ m cut caps kept chs) : Sto ⟨b', os⟩ m cut caps kept chs := ⟨h.o, h.c, h.k, h.e, h.l, h.d⟩
theorem add_eq {m : Nat} (c : List Int) (caps kept : List P) (g : Nat → List R5) (r : R5) (ha : r.a < m) (hl : (g r.a).length ≤ 900) : m_Store_add [.ref 0, .p (chP r)] ⟨0, stoL m c caps kept (tabC m g)⟩ = some (.p .non, ⟨0, stoL m c caps kept (tabC m (updF g r.a (g r.a ++ [r])))⟩) := by
  obtain ⟨S, hS0⟩ : ∃ S : SH, S = ⟨0, stoL m c caps kept (tabC m g)⟩ := ⟨_, rfl⟩
  obtain ⟨S1, hS⟩ : ∃ S1 : SH, S1 = ⟨S.os.length, S.os⟩ := ⟨_, rfl⟩
  have h0 : Sto S m c caps kept (tabC m g) := by rw [hS0]; exact sto_sto 0 m _ _ _ _ (tab_len _ _)
  have h1 : Sto S1 m c caps kept (tabC m g) := by rw [hS]; exact h0.of
  have oj := h1.l r.a _ (tab_at _ ha)
  have ap := fApp_p (S := S1) (x := chP r) oj (by rw [List.length_map, List.length_map]; exact lt_line (by omega))
  have ty := isTy_ref oj
  rw [← hS0]
  unfold m_Store_add
  rw [fn_at (k := 2) rfl, ← hS, show startD 2 [.ref 0, .p (chP r)] = [some (.ref 0), some (.p (chP r))] from rfl]
  simp only [at_dDrop, at_dBM, at_dOp, at_dUn, at_dVar, at_dCons, at_dNil, bnd_some, List.getElem?_cons_zero, List.getElem?_cons_succ, so_changes h1, ch_author, so_ix h1 ha, ty, if_true, ap, frame_nx]
  have e1 : (S1.put (4 + r.a) (.lst (((g r.a).map chP).map D.p ++ [.p (chP r)]))) = ⟨S.os.length, S.os.set (4 + r.a) (lpO ((g r.a ++ [r]).map chP))⟩ := by
    rw [hS]
    simp [lpO]
  rw [e1, cut_put, hS0, sto_put_ch _ _ _ _ _ _ _ (by rw [tab_len]; exact ha), tab_set]
  congr 3
  congr 1
  unfold tabC
  congr 1
  funext j
  unfold updF
  split <;> rfl
def gOf (rs : List R5) (j : Nat) : List R5 := rs.filter fun r => r.a = j
theorem gOf_take (rs : List R5) {i : Nat} {r : R5} (h : rs[i]? = some r) : gOf (rs.take (i + 1)) = updF (gOf (rs.take i)) r.a (gOf (rs.take i) r.a ++ [r]) := by
  obtain ⟨hi, rfl⟩ := List.getElem?_eq_some_iff.mp h
  funext j
  unfold gOf updF
  rw [List.take_succ_eq_append_getElem hi, List.filter_append]
  by_cases e : j = rs[i].a
  · rw [if_pos e, List.filter_cons_of_pos (by simpa using e.symm), e]; rfl
  · rw [if_neg e, List.filter_cons_of_neg (by simpa using fun z => e z.symm)]
    simp
theorem gOf_len (rs : List R5) (j : Nat) : (gOf rs j).length ≤ rs.length := List.length_filter_le _ _
theorem rep_tab (m : Nat) : List.replicate m ([] : List P) = tabC m fun _ => [] := by
  unfold tabC tab
  apply List.ext_getElem?
  intro i
  by_cases h : i < m
  · simp [h]
  · rw [List.getElem?_eq_none (by rw [List.length_replicate]; omega), List.getElem?_eq_none (by rw [List.length_map, List.length_range]; omega)]
abbrev kepts : List P := [k0P, k0P, k0P, k0P]
/-- the store as data -/
def stoG (m : Nat) (c : List Int) (ks : List Kep) (rs : List R5) : List (Str × P) := [("members", .int (m : Int)), ("cut", .lst (intsP c)), ("capabilities", .lst (ks.map kepE)), ("kept", .lst kepts), ("changes", .lst (tab m fun j => .lst ((gOf rs j).map chP)))]
def stoP (m : Nat) (c : List Int) (ks : List Kep) (rs : List R5) : P := .ins 2 (stoG m c ks rs)
theorem toP_sto {S : SH} {m : Nat} {c : List Int} {ks : List Kep} {rs : List R5} (h : Sto S m c (ks.map kepE) kepts (tabC m (gOf rs))) : toP 8 0 S (.ref 0) = some (stoP m c ks rs) := by
  have h1 : toP 7 0 S (.ref 1) = some (.lst (intsP c)) := toP_lp (Nat.zero_le _) h.c
  have h2 : toP 7 0 S (.ref 2) = some (.lst (ks.map kepE)) := toP_lp (Nat.zero_le _) h.k
  have h3 : toP 7 0 S (.ref 3) = some (.lst kepts) := toP_lp (Nat.zero_le _) h.e
  have h4 : toP 7 0 S (.ref (4 + m)) = some (.lst (tab m fun j => .lst ((gOf rs j).map chP))) := by
    unfold toP
    rw [if_neg (Nat.not_lt_zero _), h.d]
    dsimp only
    unfold tab
    rw [mapM_some (f := fun j => D.ref (4 + j)) (g := toP 6 0 S) (h := fun j => P.lst ((gOf rs j).map chP)) fun j hj => toP_lp (Nat.zero_le _) (h.l j _ (tab_at _ (List.mem_range.mp hj)))]
    rfl
  unfold toP
  rw [if_neg (Nat.not_lt_zero _), h.o]
  dsimp only
  unfold stoF
  rw [List.mapM_cons, List.mapM_cons, List.mapM_cons, List.mapM_cons, List.mapM_cons, h1, h2, h3, h4]
  rfl
section
variable {m : Nat} {c : List Int} {ks : List Kep} {rs : List R5}
theorem wx (i : Nat) {x : P} (e : (worldL m rs c ks)[i]? = some x) (S : SH) : fIx (.p (worldP m rs c ks)) (.p (.int (i : Int))) S = some (.p x, S) := fIx_l e
theorem wx0 (S : SH) : fIx (.p (worldP m rs c ks)) (.p (.int 0)) S = some (.p (.int (m : Int)), S) := wx 0 rfl S
theorem wx1 (S : SH) : fIx (.p (worldP m rs c ks)) (.p (.int 1)) S = some (.p (.lst (rs.map row5P)), S) := wx 1 rfl S
theorem wx2 (S : SH) : fIx (.p (worldP m rs c ks)) (.p (.int 2)) S = some (.p (.lst (intsP c)), S) := wx 2 rfl S
theorem wx3 (S : SH) : fIx (.p (worldP m rs c ks)) (.p (.int 3)) S = some (.p (.lst (ks.map kepE)), S) := wx 3 rfl S
theorem wx4 (S : SH) : fIx (.p (worldP m rs c ks)) (.p (.int 4)) S = some (.p nothP, S) := wx 4 rfl S
abbrev cuB : MS := (dAsg (dOp fIx (dOp fIx (dVar 0) (dC (.int 2))) (dVar 2)) (gSb (dUn (dFld [2] "cut") (dVar 1)) (dVar 2)))
theorem cut_loop (hc : c.length = m) (caps kept : List P) (chs : List (List P)) (lm : chs.length = m) :
    forL [2, 3, 4] (srcN 0 m).fin (gNm 2) cuB (srcN 0 m).items [some (.p (worldP m rs c ks)), some (.ref 0), none, none, none] ⟨0, stoL m (tab m fun _ => 0) caps kept chs⟩ =
    some (.nx [some (.p (worldP m rs c ks)), some (.ref 0), none, none, none], ⟨0, stoL m c caps kept chs⟩) := by
  obtain ⟨σ', S', h1, rfl, rfl⟩ := rng0_inv (body := cuB) (ws := [2, 3, 4]) (j := 2) (fun k σ S => σ = [some (.p (worldP m rs c ks)), some (.ref 0), none, none, none] ∧ S = ⟨0, stoL m (tab m fun j => if j < k then c.getD j 0 else 0) caps kept chs⟩) m
    (σ := [some (.p (worldP m rs c ks)), some (.ref 0), none, none, none]) (S := ⟨0, stoL m (tab m fun _ => 0) caps kept chs⟩) ⟨rfl, by simp⟩ (by
    rintro k σ S hk ⟨rfl, rfl⟩
    have h := sto_sto 0 m (tab m fun j => if j < k then c.getD j 0 else 0) caps kept chs lm
    have i1 := fIx_l (S := ⟨0, stoL m (tab m fun j => if j < k then c.getD j 0 else 0) caps kept chs⟩) (intsP_at (getD_at (ds := c) (n := k) (by omega)))
    have st := setIx_ri (i := (k : Int)) (v := .int (c.getD k 0)) h.c (by omega) (by rw [List.length_map, intsP_len, tab_len]; simpa using hk)
    rw [Int.toNat_natCast, intsP_setL, tab_set] at st
    have ef : updF (fun j => if j < k then c.getD j 0 else 0) k (c.getD k 0) = fun j => if j < k + 1 then c.getD j 0 else 0 := by
      funext j
      unfold updF
      by_cases e : j = k
      · rw [if_pos e, if_pos (by omega), e]
      · rw [if_neg e]
        show (if j < k then c.getD j 0 else 0) = _
        by_cases e2 : j < k
        · rw [if_pos e2, if_pos (by omega)]
        · rw [if_neg e2, if_neg (by omega)]
    rw [ef] at st
    refine ⟨[some (.p (worldP m rs c ks)), some (.ref 0), some (.p (.int (k : Int))), none, none], _, .inl ?_, rfl, rfl⟩
    unfold cuB
    simp only [at_dAsg, at_gSb, at_dOp, at_dUn, at_dVar, at_dC, bnd_some, List.set_cons_zero, List.set_cons_succ, List.getElem?_cons_zero, List.getElem?_cons_succ, wx2, i1, so_cut h, st]
    rfl)
  have e : (tab m fun j => if j < m then c.getD j 0 else 0) = c := by
    apply List.ext_getElem?
    intro i
    by_cases hi : i < m
    · rw [tab_at _ hi, if_pos hi, getD_at (by omega)]
    · rw [List.getElem?_eq_none (by rw [tab_len]; omega), List.getElem?_eq_none (by omega)]
  rw [e] at h1
  exact h1
abbrev keB : MS := (dAsg (dCall m_kept (dCons (dOp fIx (dOp fIx (dVar 0) (dC (.int 4))) (dVar 3)) dNil)) (gSb (dUn (dFld [2] "kept") (dVar 1)) (dVar 3)))
theorem kep_loop (caps : List P) (chs : List (List P)) (lm : chs.length = m) :
    forL [2, 3, 4] (srcN 0 4).fin (gNm 3) keB (srcN 0 4).items [some (.p (worldP m rs c ks)), some (.ref 0), none, none, none] ⟨0, stoL m c caps kepts chs⟩ =
    some (.nx [some (.p (worldP m rs c ks)), some (.ref 0), none, none, none], ⟨0, stoL m c caps kepts chs⟩) := by
  obtain ⟨σ', S', h1, rfl, rfl⟩ := rng0_inv (body := keB) (ws := [2, 3, 4]) (j := 3) (fun k σ S => σ = [some (.p (worldP m rs c ks)), some (.ref 0), none, none, none] ∧ S = ⟨0, stoL m c caps kepts chs⟩) 4
    (σ := [some (.p (worldP m rs c ks)), some (.ref 0), none, none, none]) (S := ⟨0, stoL m c caps kepts chs⟩) ⟨rfl, rfl⟩ (by
    rintro k σ S hk ⟨rfl, rfl⟩
    have h := sto_sto 0 m c caps kepts chs lm
    have hc : k = 0 ∨ k = 1 ∨ k = 2 ∨ k = 3 := by omega
    have i1 : fIx (.p nothP) (.p (.int (k : Int))) (⟨0, stoL m c caps kepts chs⟩ : SH) = some (.p empK, ⟨0, stoL m c caps kepts chs⟩) := by
      rcases hc with rfl | rfl | rfl | rfl <;> exact fIx_l rfl
    have st : setIx (.ref 3) (.p (.int (k : Int))) (.p k0P) (⟨0, stoL m c caps kepts chs⟩ : SH) = some ⟨0, stoL m c caps kepts chs⟩ := by
      rw [setIx_rr h.e (by simp; omega) rfl]
      rcases hc with rfl | rfl | rfl | rfl <;> rfl
    refine ⟨[some (.p (worldP m rs c ks)), some (.ref 0), none, some (.p (.int (k : Int))), none], _, .inl ?_, rfl, rfl⟩
    unfold keB
    simp only [at_dAsg, at_gSb, at_dOp, at_dUn, at_dVar, at_dC, at_dCall, at_dCons, at_dNil, bnd_some, List.set_cons_zero, List.set_cons_succ, List.getElem?_cons_zero, List.getElem?_cons_succ, wx4, i1, kepemp_eq, so_kept h, st])
  exact h1
abbrev adB : MS := dDrop (dMeth 2 "add" m_Store_add (dVar 1) (dCons (dMake false 0 m_Change_init (dCons (dOp fIx (dVar 4) (dC (.int 0))) (dCons (dOp fIx (dVar 4) (dC (.int 1))) (dCons (dCall fTuple (dCons (dOp fIx (dVar 4) (dC (.int 2))) dNil)) (dCons (dOp fIx (dVar 4) (dC (.int 3))) (dCons (dCall fTuple (dCons (dOp fIx (dVar 4) (dC (.int 4))) dNil)) (dCons (dCall fTuple (dCons (dOp fIx (dVar 4) (dC (.int 5))) dNil)) dNil))))))) dNil))
theorem add_loop (caps : List P) (ha : ∀ r ∈ rs, r.a < m) (ok : ∀ r ∈ rs, Ok5 r) (hl : rs.length ≤ 100) :
    forL [0, 2, 3, 4] (srcP (rs.map row5P)).fin (gNm 4) adB (srcP (rs.map row5P)).items [none, some (.ref 0), none, none, none] ⟨0, stoL m c caps kepts (tabC m fun _ => [])⟩ =
    some (.nx [none, some (.ref 0), none, none, none], ⟨0, stoL m c caps kepts (tabC m (gOf rs))⟩) := by
  obtain ⟨σ', S', h1, rfl, rfl⟩ := p_inv (body := adB) (ws := [0, 2, 3, 4]) (j := 4) (fun i σ T => σ = [none, some (.ref 0), none, none, none] ∧ T = ⟨0, stoL m c caps kepts (tabC m (gOf (rs.take i)))⟩) (rs.map row5P)
    (σ := [none, some (.ref 0), none, none, none]) (S := ⟨0, stoL m c caps kepts (tabC m fun _ => [])⟩) ⟨rfl, by rw [List.take_zero]; rfl⟩ (by
      rintro i p σ T hp ⟨rfl, rfl⟩
      rw [List.getElem?_map] at hp
      cases e : rs[i]? with
      | none => rw [e] at hp; cases hp
      | some r =>
      rw [e] at hp
      cases hp
      have hm := List.mem_of_getElem? e
      have o := ok r hm
      have st0 := sto_sto 0 m c caps kepts (tabC m (gOf (rs.take i))) (tab_len _ _)
      have ad := add_eq c caps kepts (gOf (rs.take i)) r (ha r hm) (Nat.le_trans (gOf_len _ _) (by rw [List.length_take]; omega))
      rw [← gOf_take _ e] at ad
      generalize (⟨0, stoL m c caps kepts (tabC m (gOf (rs.take i)))⟩ : SH) = S1 at st0 ad ⊢
      have ir : IsRow S1 (.p (row5P r)) r := .inl rfl
      have lh : (intsP r.h).length ≤ sizeLine := small (by rw [intsP_len]; have := o.hl; omega)
      have lp : (r.pubs.map pubP).length ≤ sizeLine := small (by rw [List.length_map]; have := o.pl; omega)
      have t1 := fTuple_l (S := S1) lh
      have t2 := fTuple_l (S := S1) lp
      have t3 := fTuple_l (S := S1) (ps := parts4) (small (by simp))
      have mk := mk_eq S1 (a := (dCons (dOp fIx (dVar 4) (dC (.int 0))) (dCons (dOp fIx (dVar 4) (dC (.int 1))) (dCons (dCall fTuple (dCons (dOp fIx (dVar 4) (dC (.int 2))) dNil)) (dCons (dOp fIx (dVar 4) (dC (.int 3))) (dCons (dCall fTuple (dCons (dOp fIx (dVar 4) (dC (.int 4))) dNil)) (dCons (dCall fTuple (dCons (dOp fIx (dVar 4) (dC (.int 5))) dNil)) dNil)))))))
        (σ := [none, some (.ref 0), none, none, some (.p (row5P r))]) (.int (r.a : Int)) (.int (r.n : Int)) (capP r.cap) (hd := intsP r.h) (pb := r.pubs.map pubP) (pt := parts4)
        (by simp only [at_dCons, at_dOp, at_dVar, at_dC, at_dCall, at_dNil, bnd_some, List.getElem?_cons_zero, List.getElem?_cons_succ, r5_0 ir, r5_1 ir, r5_2 ir, r5_3 ir, r5_4 ir, r5_5 ir, t1, t2, t3]) (.inr rfl) (.inr rfl) (.inr rfl) lh lp (small (by simp)) (by decide)
      have mt := so_meth st0 (nm := "add") (mf := m_Store_add) (a := dVar 1) (r := (dCons (dMake false 0 m_Change_init (dCons (dOp fIx (dVar 4) (dC (.int 0))) (dCons (dOp fIx (dVar 4) (dC (.int 1))) (dCons (dCall fTuple (dCons (dOp fIx (dVar 4) (dC (.int 2))) dNil)) (dCons (dOp fIx (dVar 4) (dC (.int 3))) (dCons (dCall fTuple (dCons (dOp fIx (dVar 4) (dC (.int 4))) dNil)) (dCons (dCall fTuple (dCons (dOp fIx (dVar 4) (dC (.int 5))) dNil)) dNil))))))) dNil)) (σ := [none, some (.ref 0), none, none, some (.p (row5P r))]) rfl rfl
      rw [at_dCons, mk, bnd_some, at_dNil, bnd_some, bnd_some] at mt
      refine ⟨[none, some (.ref 0), none, none, some (.p (row5P r))], _, .inl ?_, rfl, rfl⟩
      unfold adB
      rw [at_dDrop]
      show bnd (dMeth 2 "add" m_Store_add _ _ [none, some (.ref 0), none, none, some (.p (row5P r))] S1) _ = _
      rw [mt]
      show bnd (m_Store_add [.ref 0, .p (chP r)] S1) _ = _
      rw [ad, bnd_some]
      rfl)
  rw [List.length_map, List.take_of_length_le (Nat.le_refl _)] at h1
  exact h1
theorem store_eq (hc : c.length = m) (hm : m ≤ 6) (hk : ks.length ≤ 100) (ha : ∀ r ∈ rs, r.a < m) (ok : ∀ r ∈ rs, Ok5 r) (hl : rs.length ≤ 100) : m_store [.p (worldP m rs c ks)] ⟨0, []⟩ = some (.p (stoP m c ks rs), ⟨0, []⟩) := by
  have mk : dMake true 2 m_Store_init (dCons (dOp fIx (dVar 0) (dC (.int 0))) dNil) [some (.p (worldP m rs c ks)), none, none, none, none] ⟨0, []⟩ = some (.ref 0, ⟨0, stoL m (tab m fun _ => 0) [] kepts (List.replicate m [])⟩) := by
    rw [at_dMakeT]
    simp only [at_dCons, at_dOp, at_dVar, at_dC, at_dNil, bnd_some, List.getElem?_cons_zero, wx0]
    show bnd (m_Store_init [.ref 0, .p (.int (m : Int))] ⟨0, [.ins 2 []]⟩) _ = _
    rw [sinit m (by omega), bnd_some]
    rfl
  have lp1 := cut_loop (rs := rs) (ks := ks) hc [] kepts (List.replicate m []) List.length_replicate
  have h1 := sto_sto 0 m c [] kepts (List.replicate m []) List.length_replicate
  have lp2 := kep_loop (rs := rs) (c := c) (ks := ks) (ks.map kepE) (List.replicate m []) List.length_replicate
  have lp3 := add_loop (c := c) (ks.map kepE) ha ok hl
  have h3 := sto_sto 0 m c (ks.map kepE) kepts (tabC m (gOf rs)) (tab_len _ _)
  have rz := fun T => rng_nat m (by omega) T
  have r4 : ∀ T, rng1 [.p (.int 4)] T = some (srcN 0 4, T) := fun T => srt_rng 4 (by decide)
  have fl : ∀ T, fList false [.p (.lst (ks.map kepE))] T = some (.p (.lst (ks.map kepE)), T) := fun T => fList_l (S := T) (small (by rw [List.length_map]; omega))
  have ex : fExt [.ref 2, .p (.lst (ks.map kepE))] ⟨0, stoL m c [] kepts (List.replicate m [])⟩ = some (.p .non, ⟨0, stoL m c (ks.map kepE) kepts (List.replicate m [])⟩) := by
    unfold fExt
    dsimp only
    rw [h1.k, asQ_l]
    dsimp only
    rw [toPs_map]
    dsimp only
    rw [if_pos (by rw [List.length_map, List.length_map]; exact small (by simp; omega))]
    rfl
  have ty := isTy_ref h1.k
  have out : frameF ⟨0, []⟩ (some (.ret (.ref 0), ⟨0, stoL m c (ks.map kepE) kepts (tabC m (gOf rs))⟩)) = some (.p (stoP m c ks rs), ⟨0, []⟩) := by
    show (match outD 0 (⟨0, stoL m c (ks.map kepE) kepts (tabC m (gOf rs))⟩ : SH) (.ref 0) with | some d' => some (d', Pv.cutS ⟨0, []⟩ ⟨0, stoL m c (ks.map kepE) kepts (tabC m (gOf rs))⟩) | none => none) = _
    unfold outD
    dsimp only
    rw [if_neg (Nat.not_lt_zero _), toP_sto h3]
    rfl
  unfold m_store
  rw [fn_at (k := 1) rfl, show startD 5 [.p (worldP m rs c ks)] = [some (.p (worldP m rs c ks)), none, none, none, none] from rfl, at_dSeq, at_dSet]
  simp only [List.length_nil]
  rw [mk]
  simp only [bnd_some, seqK_nx, List.set_cons_zero, List.set_cons_succ]
  rw [at_dSeq]
  unfold cuB at lp1
  simp only [at_dFor, at_dRng1, at_dCons, at_dOp, at_dVar, at_dC, at_dNil, bnd_some, List.getElem?_cons_zero, List.getElem?_cons_succ, wx0, rz, wipeD, List.set_cons_zero, List.set_cons_succ, lp1, seqK_nx]
  rw [at_dSeq]
  simp only [at_dDrop, at_dBM, at_dUn, at_dVar, at_dCons, at_dCall, at_dOp, at_dC, at_dNil, bnd_some, List.getElem?_cons_zero, List.getElem?_cons_succ, so_caps h1, ty, if_true, wx3, fl, ex, seqK_nx]
  rw [at_dSeq]
  unfold keB at lp2
  simp only [at_dFor, at_dRng1, at_dCons, at_dC, at_dNil, bnd_some, r4, wipeD, List.set_cons_zero, List.set_cons_succ, lp2, seqK_nx]
  rw [at_dSeq]
  unfold adB at lp3
  simp only [at_dFor, at_dIt, at_dOp, at_dVar, at_dC, bnd_some, List.getElem?_cons_zero, List.getElem?_cons_succ, wx1, srcL, wipeD, List.set_cons_zero, List.set_cons_succ, rep_tab, lp3, seqK_nx, at_dRet]
  exact out
end
end Kb
namespace Kb
open PySem PySem.Spec PyProof.Rows L2 Pv
/-! a loop that looks for the first -/
section
variable {body : MS} {ws : List Nat} {fin : SH → Bool} {g : MG}
def fndR (σ : En) (S : SH) : Option D → Option (Fl × SH)
  | none => some (.nx σ, S)
  | some r => some (.ret r, S)
theorem forL_fnd {α : Type} {σ : En} {S : SH} (it : α → SH → Option D) (ok : α → Option D) (hf : fin S = true) : ∀ (xs : List α),
    (∀ x ∈ xs, ∃ d σ1, it x S = some d ∧ g d σ S = some (σ1, S) ∧ (ok x = none → ∃ σ2, body σ1 S = some (.nx σ2, S) ∧ wipeD ws σ2 = σ) ∧ (∀ r, ok x = some r → body σ1 S = some (.ret r, S))) →
    forL ws fin g body (xs.map it) σ S = fndR σ S (xs.findSome? ok)
  | [], _ => by rw [List.map_nil, forL, if_pos hf]; rfl
  | x :: xs, h => by
    obtain ⟨d, σ1, h1, h2, h3, h4⟩ := h x List.mem_cons_self
    have ih := forL_fnd it ok hf xs fun y hy => h y (List.mem_cons_of_mem _ hy)
    rw [List.map_cons, forL, h1]
    dsimp only
    rw [h2, bnd_some, List.findSome?_cons]
    cases e : ok x with
    | none =>
      obtain ⟨σ2, h5, h6⟩ := h3 e
      rw [h5, bnd_some]
      dsimp only
      rw [h6, ih]
    | some r =>
      rw [h4 r e, bnd_some]
      rfl
theorem p_fnd {α : Type} {σ : En} {S : SH} (f : α → P) (ok : α → Option D) (xs : List α)
    (h : ∀ x ∈ xs, ∃ σ1, g (.p (f x)) σ S = some (σ1, S) ∧ (ok x = none → ∃ σ2, body σ1 S = some (.nx σ2, S) ∧ wipeD ws σ2 = σ) ∧ (∀ r, ok x = some r → body σ1 S = some (.ret r, S))) :
    forL ws (srcP (xs.map f)).fin g body (srcP (xs.map f)).items σ S = fndR σ S (xs.findSome? ok) := by
  have q := forL_fnd (body := body) (ws := ws) (g := g) (fin := (srcP (xs.map f)).fin) (σ := σ) (S := S) (fun (x : α) _ => some (D.p (f x))) ok rfl xs fun x hx => by
    obtain ⟨σ1, h1, h2⟩ := h x hx
    exact ⟨_, σ1, rfl, h1, h2⟩
  have e : (srcP (xs.map f)).items = xs.map fun (x : α) (_ : SH) => some (D.p (f x)) := by simp [srcP]
  rw [← e] at q
  exact q
end
/-! what is told of a capability -/
abbrev Inf := Option Spot × Nat × P
def kfind (ks : List Kep) (s : Spot) : Option Kep := ks.find? fun e => decide (e.sp = s)
def rfind (rs : List R5) (a n : Nat) : Option R5 := rs.find? fun r => decide (r.a = a ∧ r.n = n)
def ginf (r : R5) (p : Nat) : Option Inf := match r.pubs[p]? with
  | some (.grant m rt) => some (r.cap, m, rt)
  | _ => none
def linf (rs : List R5) (s : Spot) : Option Inf := match rfind rs s.1 s.2.1 with
  | some r => ginf r s.2.2
  | none => none
def inf (ks : List Kep) (rs : List R5) (s : Spot) : Option Inf := match kfind ks s with
  | some e => some (e.par, e.ho, e.rt)
  | none => linf rs s
def infP (i : Inf) : P := .tup [capP i.1, .int (i.2.1 : Int), i.2.2]
def oinfP : Option Inf → P
  | some i => infP i
  | none => .non
structure Env5 (m : Nat) (c : List Int) (ks : List Kep) (rs : List R5) : Prop where
  cl : c.length = m
  m6 : m ≤ 6
  al : ∀ r ∈ rs, r.a < m
  ok : ∀ r ∈ rs, Ok5 r
  rl : rs.length ≤ 12
  kl : ks.length ≤ 60
  kz : ∀ e ∈ ks, okz 30 e.rt = true
  nums : ∀ j, j < m → ∃ k : Nat, c.getD j 0 = (k : Int) ∧ (gOf rs j).map (·.n) = List.range' (k + 1) (gOf rs j).length
def fnd (l : List R5) (c x : Int) : Option R5 := if 0 ≤ x - c - 1 then l[(x - c - 1).toNat]? else none
theorem fnd_mem {l : List R5} {c : Nat} {v : Int} {q : R5} (hl : l.map (·.n) = List.range' (c + 1) l.length) : fnd l (c : Int) v = some q ↔ q ∈ l ∧ (q.n : Int) = v := by
  have at' : ∀ i (hi : i < l.length), (l[i]).n = c + 1 + i := fun i hi => by
    have h : (l.map (·.n))[i]? = (List.range' (c + 1) l.length)[i]? := by rw [hl]
    rw [List.getElem?_map, List.getElem?_eq_getElem hi, List.getElem?_range' hi] at h
    simpa using h
  unfold fnd
  constructor
  · intro h
    split at h
    · rename_i h0
      obtain ⟨hi, e⟩ := List.getElem?_eq_some_iff.mp h
      have := at' _ hi
      rw [e] at this
      exact ⟨e ▸ List.getElem_mem hi, by omega⟩
    · cases h
  · rintro ⟨hq, hv⟩
    obtain ⟨i, hi, rfl⟩ := List.getElem_of_mem hq
    have := at' i hi
    rw [if_pos (by omega), show (v - (c : Int) - 1).toNat = i by omega, List.getElem?_eq_getElem hi]
theorem rfind_some {rs : List R5} {a n : Nat} {q : R5} (h : rfind rs a n = some q) : q ∈ rs ∧ q.a = a ∧ q.n = n := by
  unfold rfind at h
  have h1 := List.find?_some h
  have h2 := List.mem_of_find?_eq_some h
  simp only [decide_eq_true_eq] at h1
  exact ⟨h2, h1⟩
theorem rfind_mem {rs : List R5} {q : R5} (h : q ∈ rs) : ∃ q', rfind rs q.a q.n = some q' := by
  cases e : rfind rs q.a q.n with
  | some q' => exact ⟨q', rfl⟩
  | none =>
    unfold rfind at e
    rw [List.find?_eq_none] at e
    exact absurd (decide_eq_true (⟨rfl, rfl⟩ : q.a = q.a ∧ q.n = q.n)) (e q h)
section
variable {m : Nat} {c : List Int} {ks : List Kep} {rs : List R5} (E : Env5 m c ks rs)
include E
theorem fnd_rfind {a : Nat} (ha : a < m) (n : Nat) : fnd (gOf rs a) (c.getD a 0) (n : Int) = rfind rs a n := by
  obtain ⟨k, e1, e2⟩ := E.nums a ha
  have fm := fun (v : Int) q => fnd_mem (l := gOf rs a) (c := k) (v := v) (q := q) e2
  rw [← e1] at fm
  cases e : rfind rs a n with
  | none =>
    cases e' : fnd (gOf rs a) (c.getD a 0) (n : Int) with
    | none => rfl
    | some q =>
      obtain ⟨h1, h2⟩ := (fm _ _).mp e'
      obtain ⟨h3, h4⟩ := List.mem_filter.mp h1
      obtain ⟨q', h5⟩ := rfind_mem h3
      rw [show q.a = a by simpa using h4, show q.n = n by omega, e] at h5
      cases h5
  | some q =>
    obtain ⟨h1, h2, h3⟩ := rfind_some e
    exact (fm _ _).mpr ⟨List.mem_filter.mpr ⟨h1, by simpa using h2⟩, by omega⟩
end
section
variable {m : Nat} {c : List Int} {ks : List Kep} {rs : List R5} (S : SH)
theorem sp_members : dFld [2] "members" (.p (stoP m c ks rs)) S = some (.p (.int (m : Int)), S) := rfl
theorem sp_cut : dFld [2] "cut" (.p (stoP m c ks rs)) S = some (.p (.lst (intsP c)), S) := rfl
theorem sp_caps : dFld [2] "capabilities" (.p (stoP m c ks rs)) S = some (.p (.lst (ks.map kepE)), S) := rfl
theorem sp_kept : dFld [2] "kept" (.p (stoP m c ks rs)) S = some (.p (.lst kepts), S) := rfl
theorem sp_changes : dFld [2] "changes" (.p (stoP m c ks rs)) S = some (.p (.lst (tab m fun j => .lst ((gOf rs j).map chP))), S) := rfl
theorem sp_meth {nm : Str} {mf : MF} {a : ME} {r : MA} {σ : En} (ha : a σ S = some (.p (stoP m c ks rs), S)) (hn : ((stoG m c ks rs).map fun p => (p.1, D.p p.2)).lookup nm = none) : dMeth 2 nm mf a r σ S = bnd (r σ S) fun xs S2 => mf (.p (stoP m c ks rs) :: xs) S2 := by
  have e : fldsOf (.p (stoP m c ks rs)) S = some (2, (stoG m c ks rs).map fun p => (p.1, D.p p.2)) := fldsOf_p 2 _
  rw [at_dMeth, ha, bnd_some, e]
  dsimp only
  rw [if_pos ⟨rfl, hn⟩]
end
def optC : Option R5 → P
  | some r => chP r
  | none => .non
section
variable {m : Nat} {c : List Int} {ks : List Kep} {rs : List R5} (E : Env5 m c ks rs)
include E
theorem find_eq (a n : Nat) (S : SH) : m_Store_find [.p (stoP m c ks rs), .p (.tup [.int (a : Int), .int (n : Int)])] S = some (.p (optC (rfind rs a n)), S) := by
  obtain ⟨S1, hS⟩ : ∃ S1 : SH, S1 = ⟨S.os.length, S.os⟩ := ⟨_, rfl⟩
  have ev : startD 5 [.p (stoP m c ks rs), .p (.tup [.int (a : Int), .int (n : Int)])] = [some (.p (stoP m c ks rs)), some (.p (.tup [.int (a : Int), .int (n : Int)])), none, none, none] := rfl
  have a0 : (0 : Int) ≤ (a : Int) := by omega
  have fin : ∀ p, frameF S (some (.ret (.p p), S1)) = some (.p p, S) := fun p => by rw [frame_p, hS, cut_self]
  unfold m_Store_find
  rw [fn_at (k := 2) rfl, ev, ← hS, at_dSeq]
  simp only [at_dAsg, at_gTp, at_gCn, at_gNm, at_gNl, at_dVar, bnd_some, List.getElem?_cons_zero, List.getElem?_cons_succ, List.length_cons, List.length_nil, if_true, List.map_cons, List.map_nil, List.set_cons_zero, List.set_cons_succ, seqK_nx]
  rw [at_dSeq]
  by_cases ha : a < m
  · have a1 : (a : Int) < (m : Int) := by omega
    have i1 : fIx (.p (.lst (intsP c))) (.p (.int (a : Int))) S1 = some (.p (.int (c.getD a 0)), S1) := fIx_l (intsP_at (getD_at (ds := c) (n := a) (by rw [E.cl]; exact ha)))
    have i2 : fIx (.p (.lst (tab m fun j => P.lst ((gOf rs j).map chP)))) (.p (.int (a : Int))) S1 = some (.p (.lst ((gOf rs a).map chP)), S1) := fIx_l (tab_at _ ha)
    have l1 : fLen [.p (.lst ((gOf rs a).map chP))] S1 = some (.p (.int ((gOf rs a).length : Int)), S1) := by rw [fLen_l, List.length_map]
    rw [← fnd_rfind E ha]
    simp only [at_dIf, at_dNot, at_dTest, at_dChain, at_dC, at_dUn, at_dVar, bnd_some, List.getElem?_cons_zero, List.getElem?_cons_succ, fII_eq, if_true, toB_p, a0, a1, decide_true, sp_members, Bool.not_true, Bool.false_eq_true, if_false, at_dNx, seqK_nx]
    rw [at_dSeq]
    simp only [at_dSet, at_dOp, at_dUn, at_dC, at_dVar, bnd_some, List.getElem?_cons_zero, List.getElem?_cons_succ, sp_cut, i1, fII_eq, if_true, List.set_cons_zero, List.set_cons_succ, seqK_nx]
    rw [at_dSeq]
    unfold fnd
    by_cases q0 : 0 ≤ (n : Int) - c.getD a 0 - 1
    · by_cases q1 : (n : Int) - c.getD a 0 - 1 < ((gOf rs a).length : Int)
      · have hlt : ((n : Int) - c.getD a 0 - 1).toNat < (gOf rs a).length := by omega
        have i3 : fIx (.p (.lst ((gOf rs a).map chP))) (.p (.int ((n : Int) - c.getD a 0 - 1))) S1 = some (.p (chP ((gOf rs a)[((n : Int) - c.getD a 0 - 1).toNat])), S1) := fIx_li q0 (by rw [List.getElem?_map, List.getElem?_eq_getElem hlt]; rfl)
        simp only [at_dIf, at_dTest, at_dChain, at_dC, at_dUn, at_dOp, at_dVar, at_dCall, at_dCons, at_dNil, bnd_some, List.getElem?_cons_zero, List.getElem?_cons_succ, fII_eq, if_true, toB_p, q0, q1, decide_true, sp_changes, i2, l1, at_dRet, i3, seqK_ret]
        rw [fin, List.getElem?_eq_getElem hlt]
        rfl
      · have hge : (gOf rs a)[((n : Int) - c.getD a 0 - 1).toNat]? = none := List.getElem?_eq_none (by omega)
        simp only [at_dIf, at_dTest, at_dChain, at_dC, at_dUn, at_dOp, at_dVar, at_dCall, at_dCons, at_dNil, bnd_some, List.getElem?_cons_zero, List.getElem?_cons_succ, fII_eq, if_true, toB_p, q0, q1, decide_true, decide_false, Bool.false_eq_true, if_false, sp_changes, i2, l1, at_dNx, seqK_nx, at_dRet]
        rw [fin, hge]
        rfl
    · simp only [at_dIf, at_dTest, at_dChain, at_dC, at_dUn, at_dOp, at_dVar, at_dCall, at_dCons, at_dNil, bnd_some, List.getElem?_cons_zero, List.getElem?_cons_succ, fII_eq, if_true, toB_p, q0, decide_false, Bool.false_eq_true, if_false, at_dNx, seqK_nx, at_dRet]
      rw [fin]
      rfl
  · have a1 : ¬ (a : Int) < (m : Int) := by omega
    have rn : rfind rs a n = none := by
      cases e : rfind rs a n with
      | none => rfl
      | some q =>
        obtain ⟨h1, h2, _⟩ := rfind_some e
        have := E.al q h1
        omega
    rw [rn]
    simp only [at_dIf, at_dNot, at_dTest, at_dChain, at_dC, at_dUn, at_dVar, bnd_some, List.getElem?_cons_zero, List.getElem?_cons_succ, fII_eq, if_true, toB_p, a0, a1, decide_true, decide_false, sp_members, Bool.not_false, at_dRet, seqK_ret]
    rw [fin]
    rfl
end
def kinfP (ks : List Kep) (s : Spot) : P := match kfind ks s with
  | some e => infP (e.par, e.ho, e.rt)
  | none => .non
theorem fEq_spot (neg : Bool) (s t : Spot) (S : SH) : fEq neg (.p (spotP s)) (.p (spotP t)) S = some (.p (.bl (if neg = true then !decide (s = t) else decide (s = t))), S) := by
  have h : ∀ s, okd 40 (spotP s) = true := fun s => okz_okd _ _ (spot_z 39 s)
  unfold fEq
  rw [rdP_p, rdP_p]
  dsimp only
  rw [if_pos ⟨h s, h t⟩, peq_spot]
theorem fnd_kep (ks : List Kep) (s : Spot) : ks.findSome? (fun e => if e.sp = s then some (D.p (infP (e.par, e.ho, e.rt))) else none) = (kfind ks s).map fun e => D.p (infP (e.par, e.ho, e.rt)) := by
  unfold kfind
  induction ks with
  | nil => rfl
  | cons e ks ih =>
    rw [List.findSome?_cons, List.find?_cons]
    by_cases q : e.sp = s
    · rw [if_pos q, decide_eq_true q]
      rfl
    · rw [if_neg q, decide_eq_false q]
      exact ih
section
variable {m : Nat} {c : List Int} {ks : List Kep} {rs : List R5} (S : SH)
theorem inf_mk (i : Inf) : newT [.p (capP i.1), .p (.int (i.2.1 : Int)), .p i.2.2] S = some (.p (infP i), S) := newT_p (S := S) [capP i.1, .int (i.2.1 : Int), i.2.2] (small (by simp))
theorem kinfo_eq (s : Spot) : m_kept_info [.p (stoP m c ks rs), .p (spotP s)] S = some (.p (kinfP ks s), S) := by
  obtain ⟨S1, hS⟩ : ∃ S1 : SH, S1 = ⟨S.os.length, S.os⟩ := ⟨_, rfl⟩
  have fin : ∀ p, frameF S (some (.ret (.p p), S1)) = some (.p p, S) := fun p => by rw [frame_p, hS, cut_self]
  have lp := p_fnd (g := (gTp 4 (gCn (gNm 2) (gCn (gNm 3) (gCn (gNm 4) (gCn (gNm 5) gNl)))))) (body := (dIf (dTest (dOp (fEq false) (dVar 2) (dVar 1))) (dRet (dTup (dCons (dVar 3) (dCons (dVar 4) (dCons (dVar 5) dNil))))) dNx)) (ws := [0, 2, 3, 4, 5]) (σ := [none, some (.p (spotP s)), none, none, none, none]) (S := S1) kepE (fun e => if e.sp = s then some (D.p (infP (e.par, e.ho, e.rt))) else none) ks fun e he => by
    have nt := inf_mk S1 (e.par, e.ho, e.rt)
    refine ⟨[none, some (.p (spotP s)), some (.p (spotP e.sp)), some (.p (capP e.par)), some (.p (.int (e.ho : Int))), some (.p e.rt)], rfl, fun h => ?_, fun r h => ?_⟩
    · have q : ¬ e.sp = s := fun z => by rw [if_pos z] at h; cases h
      refine ⟨[none, some (.p (spotP s)), some (.p (spotP e.sp)), some (.p (capP e.par)), some (.p (.int (e.ho : Int))), some (.p e.rt)], ?_, rfl⟩
      simp only [at_dIf, at_dTest, at_dOp, at_dVar, bnd_some, List.getElem?_cons_zero, List.getElem?_cons_succ, fEq_spot, Bool.false_eq_true, if_false, q, decide_false, toB_p, at_dNx]
    · have q : e.sp = s := by
        by_cases z : e.sp = s
        · exact z
        · rw [if_neg z] at h; cases h
      rw [if_pos q] at h
      cases h
      simp only [at_dIf, at_dTest, at_dOp, at_dVar, bnd_some, List.getElem?_cons_zero, List.getElem?_cons_succ, fEq_spot, Bool.false_eq_true, if_false, q, decide_true, toB_p, if_true, at_dRet, at_dTup, at_dCons, at_dNil, nt]
  rw [fnd_kep] at lp
  unfold m_kept_info kinfP
  rw [fn_at (k := 2) rfl, show startD 6 [.p (stoP m c ks rs), .p (spotP s)] = [some (.p (stoP m c ks rs)), some (.p (spotP s)), none, none, none, none] from rfl, ← hS, at_dSeq]
  simp only [at_dFor, at_dIt, at_dUn, at_dVar, bnd_some, List.getElem?_cons_zero, sp_caps, srcL, wipeD, List.set_cons_zero, List.set_cons_succ, lp]
  cases kfind ks s with
  | none => simp only [Option.map_none, fndR, bnd_some, seqK_nx, at_dRet, at_dC, fin]
  | some e => simp only [Option.map_some, fndR, bnd_some, seqK_ret, fin]
def isK (ks : List Kep) (s : Spot) : Bool := (kfind ks s).isSome
theorem is_kept_eq (s : Spot) : m_is_kept [.p (stoP m c ks rs), .p (spotP s)] S = some (.p (.bl (isK ks s)), S) := by
  obtain ⟨S1, hS⟩ : ∃ S1 : SH, S1 = ⟨S.os.length, S.os⟩ := ⟨_, rfl⟩
  have h : fIs true (.p (kinfP ks s)) (.p .non) S1 = some (.p (.bl (isK ks s)), S1) := by
    unfold kinfP isK
    cases kfind ks s <;> rfl
  unfold m_is_kept
  rw [fn_at (k := 2) rfl, show startD 2 [.p (stoP m c ks rs), .p (spotP s)] = [some (.p (stoP m c ks rs)), some (.p (spotP s))] from rfl, ← hS]
  simp only [at_dRet, at_dOp, at_dCall, at_dCons, at_dVar, at_dC, at_dNil, bnd_some, List.getElem?_cons_zero, List.getElem?_cons_succ, kinfo_eq, h, frame_p]
  rw [hS, cut_self]
end
end Kb
namespace Kb
open PySem PySem.Spec PyProof.Rows L2 Pv
def infO (ks : List Kep) (rs : List R5) : Option Spot → Option Inf
  | none => some (none, 0, fullP)
  | some s => inf ks rs s
theorem sl_spot (s : Spot) (S : SH) : fSl false (.p (spotP s)) none (some 2) S = some (.p (.tup [.int (s.1 : Int), .int (s.2.1 : Int)]), S) := rfl
theorem spot_2 (s : Spot) (S : SH) : fIx (.p (spotP s)) (.p (.int 2)) S = some (.p (.int (s.2.2 : Int)), S) := fIx_t (n := 2) rfl
theorem spot_0 (s : Spot) (S : SH) : fIx (.p (spotP s)) (.p (.int 0)) S = some (.p (.int (s.1 : Int)), S) := fIx_t (n := 0) rfl
theorem spot_1 (s : Spot) (S : SH) : fIx (.p (spotP s)) (.p (.int 1)) S = some (.p (.int (s.2.1 : Int)), S) := fIx_t (n := 1) rfl
theorem non_spot (s : Spot) : isNon (.p (spotP s)) = false := rfl
theorem non_ch (r : R5) : isNon (.p (chP r)) = false := rfl
theorem non_inf (i : Inf) : isNon (.p (infP i)) = false := rfl
section
variable {m : Nat} {c : List Int} {ks : List Kep} {rs : List R5}
theorem sp_meth2 {nm : Str} {mf : MF} {r : MA} {σ : En} {S : SH} (hn : ((stoG m c ks rs).map fun p => (p.1, D.p p.2)).lookup nm = none) : methL 2 nm mf r σ (.p (stoP m c ks rs)) S = bl (r σ S) (fun xs S2 => mf (.p (stoP m c ks rs) :: xs) S2) ⟨⟩ := meth_p hn
variable (E : Env5 m c ks rs)
include E
theorem own_eq (k : Option Spot) (S : SH) : m_own_info [.p (stoP m c ks rs), .p (capP k)] S = some (.p (oinfP (infO ks rs k)), S) := by
  refine fn_eq rfl rfl ?_
  cases k with
  | none =>
    simp -dsimp only [Ev_bl, Ev_some, bl_some, sel_t, sel_f, optL_some, at_dC, l_Var0, l_VarS, l_Op, l_Un, l_Test, l_And, l_Or, l_Not, l_NotV, l_AndV, l_OrV, l_IfE, at_dNil, l_Cons, l_Call, at_dNx, l_Seq, seqK_nx, seqK_ret, seqK_brk, seqK_ct, at_dBrk, at_dCt, l_Drop, l_Ret, at_dRetN, l_If, l_Set, l_Tup, l_Lst, at_dYes, l_Tru, l_Chain, l_Meth, l_BM, at_gNm, l_Asg, l_gSb, at_gNl, l_gCn, gT0, gT1, gT2, gT3, gT4, l_For, l_Wh, l_Comp, l_It, l_Rng1, l_Rng2, l_SetF, l_SlN, l_SlH, l_SlL, l_SlB, slK_i, toB_p, truD_b, wipeD, List.set_cons_zero, List.set_cons_succ, stepQ_nx, stepQ_ct, stepQ_brk, stepQ_ret, frame_p, frame_nx, live_ret, live_nx, cut_self, cut_app, newT0, newT1, newT2, newT3, newT4, newT5, newT6, newL0, newL1, newL2, newL3, newL4, newL5, newL6, src_l, src_t, fAdd_i, fSub_i, fLt_i, fLe_i, fGt_i, fGe_i, is_non, isNon_ref, isNon_non, isNon_int, isNon_str, isNon_bl, isNon_tup, isNon_lst, isNon_ins, Bool.false_eq_true, if_true, if_false, decide_true, decide_false, Bool.not_true, Bool.not_false, and_self, and_true, true_and, eq_self, startD_c, startD_n, startD_z, fndQ_nx, fndQ_ct, fndQ_ret, endQ_none, endQ_some, capP]
    rfl
  | some s =>
    have mt : ∀ (r : MA) (σ : En) (S : SH), methL 2 "find" m_Store_find r σ (.p (stoP m c ks rs)) S = bl (r σ S) (fun xs S2 => m_Store_find (.p (stoP m c ks rs) :: xs) S2) ⟨⟩ := fun r σ S => sp_meth2 rfl
    cases e : kfind ks s with
    | some x =>
      have ek : kinfP ks s = infP (x.par, x.ho, x.rt) := by unfold kinfP; rw [e]
      simp -dsimp only [Ev_bl, Ev_some, bl_some, sel_t, sel_f, optL_some, at_dC, l_Var0, l_VarS, l_Op, l_Un, l_Test, l_And, l_Or, l_Not, l_NotV, l_AndV, l_OrV, l_IfE, at_dNil, l_Cons, l_Call, at_dNx, l_Seq, seqK_nx, seqK_ret, seqK_brk, seqK_ct, at_dBrk, at_dCt, l_Drop, l_Ret, at_dRetN, l_If, l_Set, l_Tup, l_Lst, at_dYes, l_Tru, l_Chain, l_Meth, l_BM, at_gNm, l_Asg, l_gSb, at_gNl, l_gCn, gT0, gT1, gT2, gT3, gT4, l_For, l_Wh, l_Comp, l_It, l_Rng1, l_Rng2, l_SetF, l_SlN, l_SlH, l_SlL, l_SlB, slK_i, toB_p, truD_b, wipeD, List.set_cons_zero, List.set_cons_succ, stepQ_nx, stepQ_ct, stepQ_brk, stepQ_ret, frame_p, frame_nx, live_ret, live_nx, cut_self, cut_app, newT0, newT1, newT2, newT3, newT4, newT5, newT6, newL0, newL1, newL2, newL3, newL4, newL5, newL6, src_l, src_t, fAdd_i, fSub_i, fLt_i, fLe_i, fGt_i, fGe_i, is_non, isNon_ref, isNon_non, isNon_int, isNon_str, isNon_bl, isNon_tup, isNon_lst, isNon_ins, Bool.false_eq_true, if_true, if_false, decide_true, decide_false, Bool.not_true, Bool.not_false, and_self, and_true, true_and, eq_self, startD_c, startD_n, startD_z, fndQ_nx, fndQ_ct, fndQ_ret, endQ_none, endQ_some, capP, non_spot, kinfo_eq, ek, non_inf]
      show _ = D.p (oinfP (inf ks rs s))
      unfold inf
      rw [e]
      rfl
    | none =>
      have ek : kinfP ks s = .non := by unfold kinfP; rw [e]
      have ei : infO ks rs (some s) = linf rs s := by
        show inf ks rs s = _
        unfold inf
        rw [e]
      rw [ei]
      unfold linf
      cases e2 : rfind rs s.1 s.2.1 with
      | none =>
        simp -dsimp only [Ev_bl, Ev_some, bl_some, sel_t, sel_f, optL_some, at_dC, l_Var0, l_VarS, l_Op, l_Un, l_Test, l_And, l_Or, l_Not, l_NotV, l_AndV, l_OrV, l_IfE, at_dNil, l_Cons, l_Call, at_dNx, l_Seq, seqK_nx, seqK_ret, seqK_brk, seqK_ct, at_dBrk, at_dCt, l_Drop, l_Ret, at_dRetN, l_If, l_Set, l_Tup, l_Lst, at_dYes, l_Tru, l_Chain, l_Meth, l_BM, at_gNm, l_Asg, l_gSb, at_gNl, l_gCn, gT0, gT1, gT2, gT3, gT4, l_For, l_Wh, l_Comp, l_It, l_Rng1, l_Rng2, l_SetF, l_SlN, l_SlH, l_SlL, l_SlB, slK_i, toB_p, truD_b, wipeD, List.set_cons_zero, List.set_cons_succ, stepQ_nx, stepQ_ct, stepQ_brk, stepQ_ret, frame_p, frame_nx, live_ret, live_nx, cut_self, cut_app, newT0, newT1, newT2, newT3, newT4, newT5, newT6, newL0, newL1, newL2, newL3, newL4, newL5, newL6, src_l, src_t, fAdd_i, fSub_i, fLt_i, fLe_i, fGt_i, fGe_i, is_non, isNon_ref, isNon_non, isNon_int, isNon_str, isNon_bl, isNon_tup, isNon_lst, isNon_ins, Bool.false_eq_true, if_true, if_false, decide_true, decide_false, Bool.not_true, Bool.not_false, and_self, and_true, true_and, eq_self, startD_c, startD_n, startD_z, fndQ_nx, fndQ_ct, fndQ_ret, endQ_none, endQ_some, capP, non_spot, kinfo_eq, ek, mt, sl_spot, find_eq E, e2, optC]
        rfl
      | some r =>
        have hl : ∀ T, fLen [.p (.tup (r.pubs.map pubP))] T = some (.p (.int (r.pubs.length : Int)), T) := fun T => by rw [fLen_t, List.length_map]
        have h0 : (0 : Int) ≤ (s.2.2 : Int) := by omega
        cases e3 : r.pubs[s.2.2]? with
        | none =>
          have h1 : ¬ (s.2.2 : Int) < (r.pubs.length : Int) := by
            have := List.getElem?_eq_none_iff.mp e3
            omega
          simp -dsimp only [Ev_bl, Ev_some, bl_some, sel_t, sel_f, optL_some, at_dC, l_Var0, l_VarS, l_Op, l_Un, l_Test, l_And, l_Or, l_Not, l_NotV, l_AndV, l_OrV, l_IfE, at_dNil, l_Cons, l_Call, at_dNx, l_Seq, seqK_nx, seqK_ret, seqK_brk, seqK_ct, at_dBrk, at_dCt, l_Drop, l_Ret, at_dRetN, l_If, l_Set, l_Tup, l_Lst, at_dYes, l_Tru, l_Chain, l_Meth, l_BM, at_gNm, l_Asg, l_gSb, at_gNl, l_gCn, gT0, gT1, gT2, gT3, gT4, l_For, l_Wh, l_Comp, l_It, l_Rng1, l_Rng2, l_SetF, l_SlN, l_SlH, l_SlL, l_SlB, slK_i, toB_p, truD_b, wipeD, List.set_cons_zero, List.set_cons_succ, stepQ_nx, stepQ_ct, stepQ_brk, stepQ_ret, frame_p, frame_nx, live_ret, live_nx, cut_self, cut_app, newT0, newT1, newT2, newT3, newT4, newT5, newT6, newL0, newL1, newL2, newL3, newL4, newL5, newL6, src_l, src_t, fAdd_i, fSub_i, fLt_i, fLe_i, fGt_i, fGe_i, is_non, isNon_ref, isNon_non, isNon_int, isNon_str, isNon_bl, isNon_tup, isNon_lst, isNon_ins, Bool.false_eq_true, if_true, if_false, decide_true, decide_false, Bool.not_true, Bool.not_false, and_self, and_true, true_and, eq_self, startD_c, startD_n, startD_z, fndQ_nx, fndQ_ct, fndQ_ret, endQ_none, endQ_some, capP, non_spot, kinfo_eq, ek, mt, sl_spot, find_eq E, e2, optC, non_ch, spot_2, h0, ch_pubs, hl, h1]
          unfold ginf
          simp only [e3]
          rfl
        | some p =>
          have h1 : (s.2.2 : Int) < (r.pubs.length : Int) := by
            have := (List.getElem?_eq_some_iff.mp e3).1
            omega
          have px : ∀ T, fIx (.p (.tup (r.pubs.map pubP))) (.p (.int (s.2.2 : Int))) T = some (.p (pubP p), T) := fun T => fIx_t (by rw [List.getElem?_map, e3]; rfl)
          have tg := tag_g p
          cases p with
          | grant mm rt =>
            have tg' : (tagS (.grant mm rt) == ("grant" : Str)) = true := tg
            simp -dsimp only [Ev_bl, Ev_some, bl_some, sel_t, sel_f, optL_some, at_dC, l_Var0, l_VarS, l_Op, l_Un, l_Test, l_And, l_Or, l_Not, l_NotV, l_AndV, l_OrV, l_IfE, at_dNil, l_Cons, l_Call, at_dNx, l_Seq, seqK_nx, seqK_ret, seqK_brk, seqK_ct, at_dBrk, at_dCt, l_Drop, l_Ret, at_dRetN, l_If, l_Set, l_Tup, l_Lst, at_dYes, l_Tru, l_Chain, l_Meth, l_BM, at_gNm, l_Asg, l_gSb, at_gNl, l_gCn, gT0, gT1, gT2, gT3, gT4, l_For, l_Wh, l_Comp, l_It, l_Rng1, l_Rng2, l_SetF, l_SlN, l_SlH, l_SlL, l_SlB, slK_i, toB_p, truD_b, wipeD, List.set_cons_zero, List.set_cons_succ, stepQ_nx, stepQ_ct, stepQ_brk, stepQ_ret, frame_p, frame_nx, live_ret, live_nx, cut_self, cut_app, newT0, newT1, newT2, newT3, newT4, newT5, newT6, newL0, newL1, newL2, newL3, newL4, newL5, newL6, src_l, src_t, fAdd_i, fSub_i, fLt_i, fLe_i, fGt_i, fGe_i, is_non, isNon_ref, isNon_non, isNon_int, isNon_str, isNon_bl, isNon_tup, isNon_lst, isNon_ins, Bool.false_eq_true, if_true, if_false, decide_true, decide_false, Bool.not_true, Bool.not_false, and_self, and_true, true_and, eq_self, startD_c, startD_n, startD_z, fndQ_nx, fndQ_ct, fndQ_ret, endQ_none, endQ_some, capP, non_spot, kinfo_eq, ek, mt, sl_spot, find_eq E, e2, optC, non_ch, spot_2, h0, ch_pubs, hl, h1, px, pub_0, fEq_ss, tg', ch_cap, pub_1, pub_2]
            unfold ginf
            simp only [e3]
            rfl
          | revoke cc =>
            have tg' : (tagS (.revoke cc) == ("grant" : Str)) = false := tg
            simp -dsimp only [Ev_bl, Ev_some, bl_some, sel_t, sel_f, optL_some, at_dC, l_Var0, l_VarS, l_Op, l_Un, l_Test, l_And, l_Or, l_Not, l_NotV, l_AndV, l_OrV, l_IfE, at_dNil, l_Cons, l_Call, at_dNx, l_Seq, seqK_nx, seqK_ret, seqK_brk, seqK_ct, at_dBrk, at_dCt, l_Drop, l_Ret, at_dRetN, l_If, l_Set, l_Tup, l_Lst, at_dYes, l_Tru, l_Chain, l_Meth, l_BM, at_gNm, l_Asg, l_gSb, at_gNl, l_gCn, gT0, gT1, gT2, gT3, gT4, l_For, l_Wh, l_Comp, l_It, l_Rng1, l_Rng2, l_SetF, l_SlN, l_SlH, l_SlL, l_SlB, slK_i, toB_p, truD_b, wipeD, List.set_cons_zero, List.set_cons_succ, stepQ_nx, stepQ_ct, stepQ_brk, stepQ_ret, frame_p, frame_nx, live_ret, live_nx, cut_self, cut_app, newT0, newT1, newT2, newT3, newT4, newT5, newT6, newL0, newL1, newL2, newL3, newL4, newL5, newL6, src_l, src_t, fAdd_i, fSub_i, fLt_i, fLe_i, fGt_i, fGe_i, is_non, isNon_ref, isNon_non, isNon_int, isNon_str, isNon_bl, isNon_tup, isNon_lst, isNon_ins, Bool.false_eq_true, if_true, if_false, decide_true, decide_false, Bool.not_true, Bool.not_false, and_self, and_true, true_and, eq_self, startD_c, startD_n, startD_z, fndQ_nx, fndQ_ct, fndQ_ret, endQ_none, endQ_some, capP, non_spot, kinfo_eq, ek, mt, sl_spot, find_eq E, e2, optC, non_ch, spot_2, h0, ch_pubs, hl, h1, px, pub_0, fEq_ss, tg']
            unfold ginf
            simp only [e3]
            rfl
          | sl =>
            have tg' : (tagS .sl == ("grant" : Str)) = false := tg
            simp -dsimp only [Ev_bl, Ev_some, bl_some, sel_t, sel_f, optL_some, at_dC, l_Var0, l_VarS, l_Op, l_Un, l_Test, l_And, l_Or, l_Not, l_NotV, l_AndV, l_OrV, l_IfE, at_dNil, l_Cons, l_Call, at_dNx, l_Seq, seqK_nx, seqK_ret, seqK_brk, seqK_ct, at_dBrk, at_dCt, l_Drop, l_Ret, at_dRetN, l_If, l_Set, l_Tup, l_Lst, at_dYes, l_Tru, l_Chain, l_Meth, l_BM, at_gNm, l_Asg, l_gSb, at_gNl, l_gCn, gT0, gT1, gT2, gT3, gT4, l_For, l_Wh, l_Comp, l_It, l_Rng1, l_Rng2, l_SetF, l_SlN, l_SlH, l_SlL, l_SlB, slK_i, toB_p, truD_b, wipeD, List.set_cons_zero, List.set_cons_succ, stepQ_nx, stepQ_ct, stepQ_brk, stepQ_ret, frame_p, frame_nx, live_ret, live_nx, cut_self, cut_app, newT0, newT1, newT2, newT3, newT4, newT5, newT6, newL0, newL1, newL2, newL3, newL4, newL5, newL6, src_l, src_t, fAdd_i, fSub_i, fLt_i, fLe_i, fGt_i, fGe_i, is_non, isNon_ref, isNon_non, isNon_int, isNon_str, isNon_bl, isNon_tup, isNon_lst, isNon_ins, Bool.false_eq_true, if_true, if_false, decide_true, decide_false, Bool.not_true, Bool.not_false, and_self, and_true, true_and, eq_self, startD_c, startD_n, startD_z, fndQ_nx, fndQ_ct, fndQ_ret, endQ_none, endQ_some, capP, non_spot, kinfo_eq, ek, mt, sl_spot, find_eq E, e2, optC, non_ch, spot_2, h0, ch_pubs, hl, h1, px, pub_0, fEq_ss, tg']
            unfold ginf
            simp only [e3]
            rfl
end
end Kb
namespace Kb
open PySem PySem.Spec PyProof.Rows L2 Pv
/-! the way up from a capability -/
def walk (P : Spot → Option (Option Spot)) : Nat → Option Spot → Option (List Spot)
  | _, none => some []
  | 0, some _ => none
  | n + 1, some s => match P s with
    | none => none
    | some c => (walk P n c).map (s :: ·)
section
variable {P : Spot → Option (Option Spot)}
theorem walk_none (n : Nat) : walk P n none = some [] := by cases n <;> rfl
theorem walk_step {s : Spot} {c : Option Spot} (h : P s = some c) (n : Nat) : walk P (n + 1) (some s) = (walk P n c).map (s :: ·) := by
  show (match P s with | none => none | some c => (walk P n c).map (s :: ·)) = _
  rw [h]
theorem walk_stop {s : Spot} (h : P s = none) (n : Nat) : walk P n (some s) = none := by
  cases n with
  | zero => rfl
  | succ n =>
    show (match P s with | none => none | some c => (walk P n c).map (s :: ·)) = _
    rw [h]
theorem walk_up : ∀ {n : Nat} {c : Option Spot} {l : List Spot} (k : Nat), walk P n c = some l → walk P (n + k) c = some l
  | n, none, l, k, h => by rw [walk_none] at h ⊢; exact h
  | 0, some s, l, k, h => by cases h
  | n + 1, some s, l, k, h => by
    cases e : P s with
    | none => rw [walk_stop e] at h; cases h
    | some c =>
      rw [walk_step e] at h
      rw [show n + 1 + k = (n + k) + 1 by omega, walk_step e]
      cases e2 : walk P n c with
      | none => rw [e2] at h; cases h
      | some l' => rw [e2] at h; rw [walk_up k e2]; exact h
theorem walk_fun {n n' : Nat} {c : Option Spot} {l l' : List Spot} (h : walk P n c = some l) (h' : walk P n' c = some l') : l = l' := by
  have a := walk_up n' h
  have b := walk_up n h'
  rw [Nat.add_comm n' n, a] at b
  cases b
  rfl
theorem walk_mem : ∀ {n : Nat} {c : Option Spot} {l : List Spot}, walk P n c = some l → ∀ s ∈ l, P s ≠ none
  | n, none, l, h => by rw [walk_none] at h; cases h; simp
  | 0, some s, l, h => by cases h
  | n + 1, some s, l, h => by
    cases e : P s with
    | none => rw [walk_stop e] at h; cases h
    | some c =>
      rw [walk_step e] at h
      cases e2 : walk P n c with
      | none => rw [e2] at h; cases h
      | some l' =>
        rw [e2] at h
        cases h
        intro x hx
        rcases List.mem_cons.mp hx with rfl | hx
        · rw [e]; simp
        · exact walk_mem e2 x hx
theorem walk_drop : ∀ {n : Nat} {c : Option Spot} {l : List Spot}, walk P n c = some l → ∀ (i : Nat) (s : Spot), l[i]? = some s → walk P n (some s) = some (l.drop i)
  | n, none, l, h => by rw [walk_none] at h; cases h; intro i s hi; cases hi
  | 0, some s, l, h => by cases h
  | n + 1, some s, l, h => by
    have h0 := h
    cases e : P s with
    | none => rw [walk_stop e] at h; cases h
    | some c =>
      rw [walk_step e] at h
      cases e2 : walk P n c with
      | none => rw [e2] at h; cases h
      | some l' =>
        rw [e2] at h
        cases h
        intro i x hx
        cases i with
        | zero => cases hx; exact h0
        | succ i => exact walk_up 1 (walk_drop e2 i x hx)
theorem walk_len : ∀ {n : Nat} {c : Option Spot} {l : List Spot}, walk P n c = some l → l.length ≤ n ∧ walk P l.length c = some l
  | n, none, l, h => by rw [walk_none] at h; cases h; exact ⟨Nat.zero_le _, rfl⟩
  | 0, some s, l, h => by cases h
  | n + 1, some s, l, h => by
    cases e : P s with
    | none => rw [walk_stop e] at h; cases h
    | some c =>
      rw [walk_step e] at h
      cases e2 : walk P n c with
      | none => rw [e2] at h; cases h
      | some l' =>
        rw [e2] at h
        cases h
        obtain ⟨a, b⟩ := walk_len e2
        refine ⟨Nat.succ_le_succ a, ?_⟩
        show walk P (l'.length + 1) (some s) = _
        rw [walk_step e, b]
        rfl
theorem walk_nodup {n : Nat} {c : Option Spot} {l : List Spot} (h : walk P n c = some l) : l.Nodup := by
  refine List.pairwise_iff_getElem.mpr fun i j hi hj hij e => ?_
  have a := walk_drop h i _ (List.getElem?_eq_getElem hi)
  have b := walk_drop h j _ (List.getElem?_eq_getElem hj)
  rw [e] at a
  have := walk_fun a b
  have := congrArg List.length this
  rw [List.length_drop, List.length_drop] at this
  omega
def Ends (P : Spot → Option (Option Spot)) (c : Option Spot) : Prop := ∃ n l, walk P n c = some l
/-- the steps from one capability to another -/
inductive Lk (P : Spot → Option (Option Spot)) : Option Spot → Option Spot → List Spot → Prop
  | nil (c : Option Spot) : Lk P c c []
  | snoc {c : Option Spot} {s : Spot} {d : Option Spot} {l : List Spot} : Lk P c (some s) l → P s = some d → Lk P c d (l ++ [s])
theorem Lk.wk {c d : Option Spot} {l : List Spot} (k : Lk P c d l) : ∀ n, walk P (n + l.length) c = (walk P n d).map (l ++ ·) := by
  induction k with
  | nil => intro n; simp
  | @snoc s d l k h ih =>
    intro n
    rw [List.length_append, List.length_singleton, show n + (l.length + 1) = (n + 1) + l.length by omega, ih (n + 1), walk_step h, Option.map_map]
    congr 1
    funext x
    simp
theorem Lk.from {c d : Option Spot} {l : List Spot} (k : Lk P c d l) : ∀ s ∈ l, ∃ l', l' ≠ [] ∧ Lk P (some s) d l' := by
  induction k with
  | nil => intro s h; cases h
  | @snoc s d l k h ih =>
    intro x hx
    rcases List.mem_append.mp hx with hx | hx
    · obtain ⟨l', _, k'⟩ := ih x hx
      exact ⟨l' ++ [s], by simp, k'.snoc h⟩
    · rw [List.mem_singleton.mp hx]
      exact ⟨[s], by simp, (Lk.nil (some s)).snoc h⟩
theorem Lk.ends {c d : Option Spot} {l : List Spot} (k : Lk P c d l) (e : Ends P c) : Ends P d := by
  obtain ⟨n, x, h⟩ := e
  have a := k.wk n
  rw [walk_up l.length h] at a
  cases e : walk P n d with
  | none => rw [e] at a; cases a
  | some y => exact ⟨n, y, e⟩
theorem Lk.loop {s : Spot} {l : List Spot} (k : Lk P (some s) (some s) l) (hl : l ≠ []) : ¬ Ends P (some s) := by
  rintro ⟨n, x, h⟩
  have a := k.wk n
  rw [walk_up l.length h, h] at a
  simp only [Option.map_some, Option.some.injEq] at a
  have := congrArg List.length a
  rw [List.length_append] at this
  exact hl (List.length_eq_zero_iff.mp (by omega))
end
abbrev parF (ks : List Kep) (rs : List R5) (s : Spot) : Option (Option Spot) := (inf ks rs s).map (·.1)
/-- the world's spots -/
structure Uni (ks : List Kep) (rs : List R5) (U : List Spot) : Prop where
  all : ∀ s, inf ks rs s ≠ none → s ∈ U
  len : U.length ≤ 39
  kept : ∀ s, isK ks s = true → Ends (parF ks rs) (some s)
def way (ks : List Kep) (rs : List R5) (c : Option Spot) : Option (List Spot) := walk (parF ks rs) 39 c
section
variable {ks : List Kep} {rs : List R5} {U : List Spot} (u : Uni ks rs U)
include u
theorem Uni.way_of {c : Option Spot} {n : Nat} {l : List Spot} (h : walk (parF ks rs) n c = some l) : way ks rs c = some l := by
  have nd := walk_nodup h
  have sub : l ⊆ U := fun s hs => u.all s fun e => walk_mem h s hs (by show (inf ks rs s).map _ = none; rw [e]; rfl)
  have ln := List.Nodup.length_le_of_subset nd sub
  obtain ⟨_, b⟩ := walk_len h
  have := walk_up (39 - l.length) b
  rw [show l.length + (39 - l.length) = 39 by have := u.len; omega] at this
  exact this
theorem Uni.way_none {c : Option Spot} (h : ¬ Ends (parF ks rs) c) : way ks rs c = none := by
  cases e : way ks rs c with
  | none => rfl
  | some l => exact absurd ⟨39, l, e⟩ h
end
def capsP (l : List Spot) : List P := (l.map some ++ [none]).map capP
def pathP : Option (List Spot) → P
  | some l => .lst (capsP l)
  | none => .non
abbrev lpS (l : List Spot) : Ob := lpO ((l.map some).map capP)
theorem non_cap (s : Spot) : isNon (.p (capP (some s))) = false := rfl
theorem add_rl {n : Nat} {S : SH} {ps qs : List P} (h : S.os[n]? = some (lpO ps)) (hl : ps.length + qs.length ≤ 1000) : fAdd false (.ref n) (.p (.lst qs)) S = some (.p (.lst (ps ++ qs)), S) := by
  have e : asL (.ref n) S = some (ps.map D.p) := by unfold asL; dsimp only; rw [h]
  show (match asL (.ref n) S, asL (.p (.lst qs)) S with | some a, some b => newL false (a ++ b) S | _, _ => none) = _
  rw [e, asL_l]
  dsimp only
  rw [← List.map_append]
  exact newL_f _ (small (by rw [List.length_append]; exact hl))
section
variable {m : Nat} {c : List Int} {ks : List Kep} {rs : List R5} (E : Env5 m c ks rs) {U : List Spot} (u : Uni ks rs U)
include E u
theorem path_eq (k : Option Spot) (S : SH) : m_path [.p (stoP m c ks rs), .p (capP k)] S = some (.p (pathP (way ks rs k)), S) := by
  have nl : newL true [] (⟨S.os.length, S.os⟩ : SH) = some (.ref S.os.length, ⟨S.os.length, S.os ++ [lpS []]⟩) := newL_t _ (small (by simp))
  refine fn_eq rfl rfl ?_
  simp -dsimp only [Ev_bl, Ev_some, bl_some, sel_t, sel_f, optL_some, at_dC, l_Var0, l_VarS, l_Op, l_Un, l_Test, l_And, l_Or, l_Not, l_NotV, l_AndV, l_OrV, l_IfE, at_dNil, l_Cons, l_Call, at_dNx, l_Seq, seqK_nx, seqK_ret, seqK_brk, seqK_ct, at_dBrk, at_dCt, l_Drop, l_Ret, at_dRetN, l_If, l_Set, l_Tup, l_Lst, at_dYes, l_Tru, l_Chain, l_Meth, l_BM, at_gNm, l_Asg, l_gSb, at_gNl, l_gCn, gT0, gT1, gT2, gT3, gT4, l_For, l_Wh, l_Comp, l_It, l_Rng1, l_Rng2, l_SetF, l_SlN, l_SlH, l_SlL, l_SlB, slK_i, toB_p, truD_b, wipeD, List.set_cons_zero, List.set_cons_succ, stepQ_nx, stepQ_ct, stepQ_brk, stepQ_ret, frame_p, frame_nx, live_ret, live_nx, cut_self, cut_app, newT0, newT1, newT2, newT3, newT4, newT5, newT6, newL0, newL1, newL2, newL3, newL4, newL5, newL6, src_l, src_t, fAdd_i, fSub_i, fLt_i, fLe_i, fGt_i, fGe_i, is_non, isNon_ref, isNon_non, isNon_int, isNon_str, isNon_bl, isNon_tup, isNon_lst, isNon_ins, Bool.false_eq_true, if_true, if_false, decide_true, decide_false, Bool.not_true, Bool.not_false, and_self, and_true, true_and, eq_self, startD_c, startD_n, startD_z, fndQ_nx, fndQ_ct, fndQ_ret, endQ_none, endQ_some, nl]
  refine Ev_wh (fun n σ T => ∃ (d : Option Spot) (l : List Spot) (x : Option D), σ = [some (.p (stoP m c ks rs)), some (.p (capP d)), some (.ref S.os.length), some (.p (.bl (l.any (isK ks)))), none] ∧ T = ⟨S.os.length, S.os ++ [lpS l]⟩ ∧ Lk (parF ks rs) k d l ∧ l.Nodup ∧ l ⊆ U ∧ n = 39 - l.length) wFuel 39 _ _ (by decide) ⟨k, [], none, rfl, rfl, .nil k, List.nodup_nil, by simp, rfl⟩ ?_
  rintro n σ T ⟨d, l, x, rfl, rfl, lk, nd, sub, hn⟩
  have hl : l.length ≤ 39 := Nat.le_trans (List.Nodup.length_le_of_subset nd sub) u.len
  have at0 : (⟨S.os.length, S.os ++ [lpS l]⟩ : SH).os[S.os.length]? = some (lpS l) := at_last _ _ _
  cases d with
  | none =>
    have wy : way ks rs k = some l := by
      have := lk.wk 0
      rw [walk_none, Option.map_some, List.append_nil] at this
      exact u.way_of this
    have ad := add_rl (qs := [.non]) at0 (by simp; omega)
    simp -dsimp only [Ev_bl, Ev_some, bl_some, sel_t, sel_f, optL_some, at_dC, l_Var0, l_VarS, l_Op, l_Un, l_Test, l_And, l_Or, l_Not, l_NotV, l_AndV, l_OrV, l_IfE, at_dNil, l_Cons, l_Call, at_dNx, l_Seq, seqK_nx, seqK_ret, seqK_brk, seqK_ct, at_dBrk, at_dCt, l_Drop, l_Ret, at_dRetN, l_If, l_Set, l_Tup, l_Lst, at_dYes, l_Tru, l_Chain, l_Meth, l_BM, at_gNm, l_Asg, l_gSb, at_gNl, l_gCn, gT0, gT1, gT2, gT3, gT4, l_For, l_Wh, l_Comp, l_It, l_Rng1, l_Rng2, l_SetF, l_SlN, l_SlH, l_SlL, l_SlB, slK_i, toB_p, truD_b, wipeD, List.set_cons_zero, List.set_cons_succ, stepQ_nx, stepQ_ct, stepQ_brk, stepQ_ret, frame_p, frame_nx, live_ret, live_nx, cut_self, cut_app, newT0, newT1, newT2, newT3, newT4, newT5, newT6, newL0, newL1, newL2, newL3, newL4, newL5, newL6, src_l, src_t, fAdd_i, fSub_i, fLt_i, fLe_i, fGt_i, fGe_i, is_non, isNon_ref, isNon_non, isNon_int, isNon_str, isNon_bl, isNon_tup, isNon_lst, isNon_ins, Bool.false_eq_true, if_true, if_false, decide_true, decide_false, Bool.not_true, Bool.not_false, and_self, and_true, true_and, eq_self, startD_c, startD_n, startD_z, fndQ_nx, fndQ_ct, fndQ_ret, endQ_none, endQ_some, capP, ad]
    rw [wy]
    show _ = D.p (.lst (capsP l))
    unfold capsP
    rw [List.map_append]
    rfl
  | some s =>
    have own := fun T => own_eq E (some s) T
    have ik : ∀ T, m_is_kept [.p (stoP m c ks rs), .p (capP (some s))] T = some (.p (.bl (isK ks s)), T) := fun T => is_kept_eq T s
    have inc := in_caps (cs := l.map some) at0 (some s)
    have bad : ¬ Ends (parF ks rs) (some s) → way ks rs k = none ∧ l.any (isK ks) = false := fun h => by
      refine ⟨u.way_none fun e => h (lk.ends e), ?_⟩
      rw [List.any_eq_false]
      intro q hq hk
      obtain ⟨l', _, k'⟩ := lk.from q hq
      exact h (k'.ends (u.kept q hk))
    have ty := isTy_ref at0
    cases e : inf ks rs s with
    | none =>
      have ei : infO ks rs (some s) = none := e
      obtain ⟨b1, b2⟩ := bad (by rintro ⟨n, l', h⟩; rw [walk_stop (by show (inf ks rs s).map _ = none; rw [e]; rfl)] at h; cases h)
      simp -dsimp only [Ev_bl, Ev_some, bl_some, sel_t, sel_f, optL_some, at_dC, l_Var0, l_VarS, l_Op, l_Un, l_Test, l_And, l_Or, l_Not, l_NotV, l_AndV, l_OrV, l_IfE, at_dNil, l_Cons, l_Call, at_dNx, l_Seq, seqK_nx, seqK_ret, seqK_brk, seqK_ct, at_dBrk, at_dCt, l_Drop, l_Ret, at_dRetN, l_If, l_Set, l_Tup, l_Lst, at_dYes, l_Tru, l_Chain, l_Meth, l_BM, at_gNm, l_Asg, l_gSb, at_gNl, l_gCn, gT0, gT1, gT2, gT3, gT4, l_For, l_Wh, l_Comp, l_It, l_Rng1, l_Rng2, l_SetF, l_SlN, l_SlH, l_SlL, l_SlB, slK_i, toB_p, truD_b, wipeD, List.set_cons_zero, List.set_cons_succ, stepQ_nx, stepQ_ct, stepQ_brk, stepQ_ret, frame_p, frame_nx, live_ret, live_nx, cut_self, cut_app, newT0, newT1, newT2, newT3, newT4, newT5, newT6, newL0, newL1, newL2, newL3, newL4, newL5, newL6, src_l, src_t, fAdd_i, fSub_i, fLt_i, fLe_i, fGt_i, fGe_i, is_non, isNon_ref, isNon_non, isNon_int, isNon_str, isNon_bl, isNon_tup, isNon_lst, isNon_ins, Bool.false_eq_true, if_true, if_false, decide_true, decide_false, Bool.not_true, Bool.not_false, and_self, and_true, true_and, eq_self, startD_c, startD_n, startD_z, fndQ_nx, fndQ_ct, fndQ_ret, endQ_none, endQ_some, non_cap, own, ei, oinfP, b2]
      rw [b1]
      rfl
    | some i =>
      have ei : infO ks rs (some s) = some i := e
      by_cases hm : s ∈ l
      · obtain ⟨b1, b2⟩ := bad (by
          obtain ⟨l', h1, k'⟩ := lk.from s hm
          exact k'.loop h1)
        have dm : decide (some s ∈ l.map some) = true := decide_eq_true (List.mem_map.mpr ⟨s, hm, rfl⟩)
        simp -dsimp only [Ev_bl, Ev_some, bl_some, sel_t, sel_f, optL_some, at_dC, l_Var0, l_VarS, l_Op, l_Un, l_Test, l_And, l_Or, l_Not, l_NotV, l_AndV, l_OrV, l_IfE, at_dNil, l_Cons, l_Call, at_dNx, l_Seq, seqK_nx, seqK_ret, seqK_brk, seqK_ct, at_dBrk, at_dCt, l_Drop, l_Ret, at_dRetN, l_If, l_Set, l_Tup, l_Lst, at_dYes, l_Tru, l_Chain, l_Meth, l_BM, at_gNm, l_Asg, l_gSb, at_gNl, l_gCn, gT0, gT1, gT2, gT3, gT4, l_For, l_Wh, l_Comp, l_It, l_Rng1, l_Rng2, l_SetF, l_SlN, l_SlH, l_SlL, l_SlB, slK_i, toB_p, truD_b, wipeD, List.set_cons_zero, List.set_cons_succ, stepQ_nx, stepQ_ct, stepQ_brk, stepQ_ret, frame_p, frame_nx, live_ret, live_nx, cut_self, cut_app, newT0, newT1, newT2, newT3, newT4, newT5, newT6, newL0, newL1, newL2, newL3, newL4, newL5, newL6, src_l, src_t, fAdd_i, fSub_i, fLt_i, fLe_i, fGt_i, fGe_i, is_non, isNon_ref, isNon_non, isNon_int, isNon_str, isNon_bl, isNon_tup, isNon_lst, isNon_ins, Bool.false_eq_true, if_true, if_false, decide_true, decide_false, Bool.not_true, Bool.not_false, and_self, and_true, true_and, eq_self, startD_c, startD_n, startD_z, fndQ_nx, fndQ_ct, fndQ_ret, endQ_none, endQ_some, non_cap, own, ei, oinfP, non_inf, inc, dm, b2]
        rw [b1]
        rfl
      · have dm : decide (some s ∈ l.map some) = false := decide_eq_false (by
          intro h
          obtain ⟨q, hq, e⟩ := List.mem_map.mp h
          cases e
          exact hm hq)
        have ap := app_last S.os.length S.os ((l.map some).map capP) (capP (some s)) (by rw [List.length_map, List.length_map]; omega)
        have i0 : ∀ T, fIx (.p (infP i)) (.p (.int 0)) T = some (.p (capP i.1), T) := fun T => fIx_t (n := 0) rfl
        have su : s ∈ U := u.all s (by rw [e]; simp)
        have l2 : (l ++ [s]).length ≤ 39 := Nat.le_trans (List.Nodup.length_le_of_subset (l₂ := U) (List.nodup_append.mpr ⟨nd, by simp, fun a ha b hb e => by rw [List.mem_singleton.mp hb] at e; exact hm (e ▸ ha)⟩) (by
          intro x hx
          rcases List.mem_append.mp hx with hx | hx
          · exact sub hx
          · rw [List.mem_singleton.mp hx]; exact su)) u.len
        rw [List.length_append, List.length_singleton] at l2
        have fin : Hold (∃ mm, mm < n ∧ ∃ (d : Option Spot) (l' : List Spot) (x : Option D), ([some (.p (stoP m c ks rs)), some (.p (capP i.1)), some (.ref S.os.length), some (.p (.bl (l.any (isK ks) || isK ks s))), none] : En) = [some (.p (stoP m c ks rs)), some (.p (capP d)), some (.ref S.os.length), some (.p (.bl (l'.any (isK ks)))), none] ∧ (⟨S.os.length, S.os ++ [lpO ((l.map some).map capP ++ [capP (some s)])]⟩ : SH) = ⟨S.os.length, S.os ++ [lpS l']⟩ ∧ Lk (parF ks rs) k d l' ∧ l'.Nodup ∧ l' ⊆ U ∧ mm = 39 - l'.length) ⟨⟩ := by
          refine Hold.i ⟨39 - (l ++ [s]).length, by rw [List.length_append, List.length_singleton]; omega, i.1, l ++ [s], none, ?_, ?_, lk.snoc (by show (inf ks rs s).map _ = _; rw [e]; rfl), ?_, ?_, rfl⟩
          · rw [List.any_append]; simp
          · simp
          · exact List.nodup_append.mpr ⟨nd, by simp, fun a ha b hb e => by rw [List.mem_singleton.mp hb] at e; exact hm (e ▸ ha)⟩
          · intro x hx
            rcases List.mem_append.mp hx with hx | hx
            · exact sub hx
            · rw [List.mem_singleton.mp hx]; exact su
        cases b : l.any (isK ks) with
        | true =>
          rw [b] at fin
          simp -dsimp only [Ev_bl, Ev_some, bl_some, sel_t, sel_f, optL_some, at_dC, l_Var0, l_VarS, l_Op, l_Un, l_Test, l_And, l_Or, l_Not, l_NotV, l_AndV, l_OrV, l_IfE, at_dNil, l_Cons, l_Call, at_dNx, l_Seq, seqK_nx, seqK_ret, seqK_brk, seqK_ct, at_dBrk, at_dCt, l_Drop, l_Ret, at_dRetN, l_If, l_Set, l_Tup, l_Lst, at_dYes, l_Tru, l_Chain, l_Meth, l_BM, at_gNm, l_Asg, l_gSb, at_gNl, l_gCn, gT0, gT1, gT2, gT3, gT4, l_For, l_Wh, l_Comp, l_It, l_Rng1, l_Rng2, l_SetF, l_SlN, l_SlH, l_SlL, l_SlB, slK_i, toB_p, truD_b, wipeD, List.set_cons_zero, List.set_cons_succ, stepQ_nx, stepQ_ct, stepQ_brk, stepQ_ret, frame_p, frame_nx, live_ret, live_nx, cut_self, cut_app, newT0, newT1, newT2, newT3, newT4, newT5, newT6, newL0, newL1, newL2, newL3, newL4, newL5, newL6, src_l, src_t, fAdd_i, fSub_i, fLt_i, fLe_i, fGt_i, fGe_i, is_non, isNon_ref, isNon_non, isNon_int, isNon_str, isNon_bl, isNon_tup, isNon_lst, isNon_ins, Bool.false_eq_true, if_true, if_false, decide_true, decide_false, Bool.not_true, Bool.not_false, and_self, and_true, true_and, eq_self, startD_c, startD_n, startD_z, fndQ_nx, fndQ_ct, fndQ_ret, endQ_none, endQ_some, non_cap, own, ei, oinfP, non_inf, inc, dm, ik, ty, ap, i0, Bool.true_or]
          exact fin
        | false =>
          rw [b] at fin
          simp -dsimp only [Ev_bl, Ev_some, bl_some, sel_t, sel_f, optL_some, at_dC, l_Var0, l_VarS, l_Op, l_Un, l_Test, l_And, l_Or, l_Not, l_NotV, l_AndV, l_OrV, l_IfE, at_dNil, l_Cons, l_Call, at_dNx, l_Seq, seqK_nx, seqK_ret, seqK_brk, seqK_ct, at_dBrk, at_dCt, l_Drop, l_Ret, at_dRetN, l_If, l_Set, l_Tup, l_Lst, at_dYes, l_Tru, l_Chain, l_Meth, l_BM, at_gNm, l_Asg, l_gSb, at_gNl, l_gCn, gT0, gT1, gT2, gT3, gT4, l_For, l_Wh, l_Comp, l_It, l_Rng1, l_Rng2, l_SetF, l_SlN, l_SlH, l_SlL, l_SlB, slK_i, toB_p, truD_b, wipeD, List.set_cons_zero, List.set_cons_succ, stepQ_nx, stepQ_ct, stepQ_brk, stepQ_ret, frame_p, frame_nx, live_ret, live_nx, cut_self, cut_app, newT0, newT1, newT2, newT3, newT4, newT5, newT6, newL0, newL1, newL2, newL3, newL4, newL5, newL6, src_l, src_t, fAdd_i, fSub_i, fLt_i, fLe_i, fGt_i, fGe_i, is_non, isNon_ref, isNon_non, isNon_int, isNon_str, isNon_bl, isNon_tup, isNon_lst, isNon_ins, Bool.false_eq_true, if_true, if_false, decide_true, decide_false, Bool.not_true, Bool.not_false, and_self, and_true, true_and, eq_self, startD_c, startD_n, startD_z, fndQ_nx, fndQ_ct, fndQ_ret, endQ_none, endQ_some, non_cap, own, ei, oinfP, non_inf, inc, dm, ik, ty, ap, i0]
          exact fin
end
end Kb
namespace Kb
open PySem PySem.Spec PyProof.Rows L2 Pv
/-! what the law itself finds -/
def orow : Option R5 → P
  | some r => row5P r
  | none => .non
theorem fnd_row (rs : List R5) (a n : Nat) : rs.findSome? (fun r => if r.a = a ∧ r.n = n then some (D.p (row5P r)) else none) = (rfind rs a n).map fun r => D.p (row5P r) := by
  unfold rfind
  induction rs with
  | nil => rfl
  | cons e ks ih =>
    rw [List.findSome?_cons, List.find?_cons]
    by_cases q : e.a = a ∧ e.n = n
    · rw [if_pos q, decide_eq_true q]
      rfl
    · rw [if_neg q, decide_eq_false q]
      exact ih
def infL (i : Inf) : P := .lst [capP i.1, .int (i.2.1 : Int), i.2.2]
def oinfL : Option Inf → P
  | some i => infL i
  | none => .non
theorem fnd_kepL (ks : List Kep) (s : Spot) : ks.findSome? (fun e => if e.sp = s then some (D.p (infL (e.par, e.ho, e.rt))) else none) = (kfind ks s).map fun e => D.p (infL (e.par, e.ho, e.rt)) := by
  unfold kfind
  induction ks with
  | nil => rfl
  | cons e ks ih =>
    rw [List.findSome?_cons, List.find?_cons]
    by_cases q : e.sp = s
    · rw [if_pos q, decide_eq_true q]
      rfl
    · rw [if_neg q, decide_eq_false q]
      exact ih
section
variable {m : Nat} {c : List Int} {ks : List Kep} {rs : List R5}
theorem lfind_eq (s : Spot) (S : SH) : m_find [.p (worldP m rs c ks), .p (capP (some s))] S = some (.p (orow (rfind rs s.1 s.2.1)), S) := by
  refine fn_eq rfl rfl ?_
  have s0 : ∀ T, fIx (.p (capP (some s))) (.p (.int 0)) T = some (.p (.int (s.1 : Int)), T) := fun T => spot_0 s T
  have s1 : ∀ T, fIx (.p (capP (some s))) (.p (.int 1)) T = some (.p (.int (s.2.1 : Int)), T) := fun T => spot_1 s T
  simp -dsimp only [Ev_bl, Ev_some, bl_some, sel_t, sel_f, optL_some, at_dC, l_Var0, l_VarS, l_Op, l_Un, l_Test, l_And, l_Or, l_Not, l_NotV, l_AndV, l_OrV, l_IfE, at_dNil, l_Cons, l_Call, at_dNx, l_Seq, seqK_nx, seqK_ret, seqK_brk, seqK_ct, at_dBrk, at_dCt, l_Drop, l_Ret, at_dRetN, l_If, l_Set, l_Tup, l_Lst, at_dYes, l_Tru, l_Chain, l_Meth, l_BM, at_gNm, l_Asg, l_gSb, at_gNl, l_gCn, gT0, gT1, gT2, gT3, gT4, l_For, l_Wh, l_Comp, l_It, l_Rng1, l_Rng2, l_SetF, l_SlN, l_SlH, l_SlL, l_SlB, slK_i, toB_p, truD_b, wipeD, List.set_cons_zero, List.set_cons_succ, stepQ_nx, stepQ_ct, stepQ_brk, stepQ_ret, frame_p, frame_nx, live_ret, live_nx, cut_self, cut_app, newT0, newT1, newT2, newT3, newT4, newT5, newT6, newL0, newL1, newL2, newL3, newL4, newL5, newL6, src_l, src_t, fAdd_i, fSub_i, fLt_i, fLe_i, fGt_i, fGe_i, is_non, isNon_ref, isNon_non, isNon_int, isNon_str, isNon_bl, isNon_tup, isNon_lst, isNon_ins, Bool.false_eq_true, if_true, if_false, decide_true, decide_false, Bool.not_true, Bool.not_false, and_self, and_true, true_and, eq_self, startD_c, startD_n, startD_z, fndQ_nx, fndQ_ct, fndQ_ret, endQ_none, endQ_some, wx1]
  refine Ev_fndn (fun r => if r.a = s.1 ∧ r.n = s.2.1 then some (D.p (row5P r)) else none) (fun r hr => ?_) ?_
  · have ir : ∀ T, IsRow T (.p (row5P r)) r := fun T => .inl rfl
    by_cases q1 : r.a = s.1
    · by_cases q2 : r.n = s.2.1
      · rw [if_pos ⟨q1, q2⟩]
        simp -dsimp only [Ev_bl, Ev_some, bl_some, sel_t, sel_f, optL_some, at_dC, l_Var0, l_VarS, l_Op, l_Un, l_Test, l_And, l_Or, l_Not, l_NotV, l_AndV, l_OrV, l_IfE, at_dNil, l_Cons, l_Call, at_dNx, l_Seq, seqK_nx, seqK_ret, seqK_brk, seqK_ct, at_dBrk, at_dCt, l_Drop, l_Ret, at_dRetN, l_If, l_Set, l_Tup, l_Lst, at_dYes, l_Tru, l_Chain, l_Meth, l_BM, at_gNm, l_Asg, l_gSb, at_gNl, l_gCn, gT0, gT1, gT2, gT3, gT4, l_For, l_Wh, l_Comp, l_It, l_Rng1, l_Rng2, l_SetF, l_SlN, l_SlH, l_SlL, l_SlB, slK_i, toB_p, truD_b, wipeD, List.set_cons_zero, List.set_cons_succ, stepQ_nx, stepQ_ct, stepQ_brk, stepQ_ret, frame_p, frame_nx, live_ret, live_nx, cut_self, cut_app, newT0, newT1, newT2, newT3, newT4, newT5, newT6, newL0, newL1, newL2, newL3, newL4, newL5, newL6, src_l, src_t, fAdd_i, fSub_i, fLt_i, fLe_i, fGt_i, fGe_i, is_non, isNon_ref, isNon_non, isNon_int, isNon_str, isNon_bl, isNon_tup, isNon_lst, isNon_ins, Bool.false_eq_true, if_true, if_false, decide_true, decide_false, Bool.not_true, Bool.not_false, and_self, and_true, true_and, eq_self, startD_c, startD_n, startD_z, fndQ_nx, fndQ_ct, fndQ_ret, endQ_none, endQ_some, r5_0 (ir _), r5_1 (ir _), s0, s1, fEq_ii, dec_nn, q1, q2]
      · rw [if_neg fun z => q2 z.2]
        simp -dsimp only [Ev_bl, Ev_some, bl_some, sel_t, sel_f, optL_some, at_dC, l_Var0, l_VarS, l_Op, l_Un, l_Test, l_And, l_Or, l_Not, l_NotV, l_AndV, l_OrV, l_IfE, at_dNil, l_Cons, l_Call, at_dNx, l_Seq, seqK_nx, seqK_ret, seqK_brk, seqK_ct, at_dBrk, at_dCt, l_Drop, l_Ret, at_dRetN, l_If, l_Set, l_Tup, l_Lst, at_dYes, l_Tru, l_Chain, l_Meth, l_BM, at_gNm, l_Asg, l_gSb, at_gNl, l_gCn, gT0, gT1, gT2, gT3, gT4, l_For, l_Wh, l_Comp, l_It, l_Rng1, l_Rng2, l_SetF, l_SlN, l_SlH, l_SlL, l_SlB, slK_i, toB_p, truD_b, wipeD, List.set_cons_zero, List.set_cons_succ, stepQ_nx, stepQ_ct, stepQ_brk, stepQ_ret, frame_p, frame_nx, live_ret, live_nx, cut_self, cut_app, newT0, newT1, newT2, newT3, newT4, newT5, newT6, newL0, newL1, newL2, newL3, newL4, newL5, newL6, src_l, src_t, fAdd_i, fSub_i, fLt_i, fLe_i, fGt_i, fGe_i, is_non, isNon_ref, isNon_non, isNon_int, isNon_str, isNon_bl, isNon_tup, isNon_lst, isNon_ins, Bool.false_eq_true, if_true, if_false, decide_true, decide_false, Bool.not_true, Bool.not_false, and_self, and_true, true_and, eq_self, startD_c, startD_n, startD_z, fndQ_nx, fndQ_ct, fndQ_ret, endQ_none, endQ_some, r5_0 (ir _), r5_1 (ir _), s0, s1, fEq_ii, dec_nn, q1, q2]
    · rw [if_neg fun z => q1 z.1]
      simp -dsimp only [Ev_bl, Ev_some, bl_some, sel_t, sel_f, optL_some, at_dC, l_Var0, l_VarS, l_Op, l_Un, l_Test, l_And, l_Or, l_Not, l_NotV, l_AndV, l_OrV, l_IfE, at_dNil, l_Cons, l_Call, at_dNx, l_Seq, seqK_nx, seqK_ret, seqK_brk, seqK_ct, at_dBrk, at_dCt, l_Drop, l_Ret, at_dRetN, l_If, l_Set, l_Tup, l_Lst, at_dYes, l_Tru, l_Chain, l_Meth, l_BM, at_gNm, l_Asg, l_gSb, at_gNl, l_gCn, gT0, gT1, gT2, gT3, gT4, l_For, l_Wh, l_Comp, l_It, l_Rng1, l_Rng2, l_SetF, l_SlN, l_SlH, l_SlL, l_SlB, slK_i, toB_p, truD_b, wipeD, List.set_cons_zero, List.set_cons_succ, stepQ_nx, stepQ_ct, stepQ_brk, stepQ_ret, frame_p, frame_nx, live_ret, live_nx, cut_self, cut_app, newT0, newT1, newT2, newT3, newT4, newT5, newT6, newL0, newL1, newL2, newL3, newL4, newL5, newL6, src_l, src_t, fAdd_i, fSub_i, fLt_i, fLe_i, fGt_i, fGe_i, is_non, isNon_ref, isNon_non, isNon_int, isNon_str, isNon_bl, isNon_tup, isNon_lst, isNon_ins, Bool.false_eq_true, if_true, if_false, decide_true, decide_false, Bool.not_true, Bool.not_false, and_self, and_true, true_and, eq_self, startD_c, startD_n, startD_z, fndQ_nx, fndQ_ct, fndQ_ret, endQ_none, endQ_some, r5_0 (ir _), r5_1 (ir _), s0, s1, fEq_ii, dec_nn, q1]
  · rw [fnd_row]
    cases rfind rs s.1 s.2.1 with
    | none => simp -dsimp only [Ev_bl, Ev_some, bl_some, sel_t, sel_f, optL_some, at_dC, l_Var0, l_VarS, l_Op, l_Un, l_Test, l_And, l_Or, l_Not, l_NotV, l_AndV, l_OrV, l_IfE, at_dNil, l_Cons, l_Call, at_dNx, l_Seq, seqK_nx, seqK_ret, seqK_brk, seqK_ct, at_dBrk, at_dCt, l_Drop, l_Ret, at_dRetN, l_If, l_Set, l_Tup, l_Lst, at_dYes, l_Tru, l_Chain, l_Meth, l_BM, at_gNm, l_Asg, l_gSb, at_gNl, l_gCn, gT0, gT1, gT2, gT3, gT4, l_For, l_Wh, l_Comp, l_It, l_Rng1, l_Rng2, l_SetF, l_SlN, l_SlH, l_SlL, l_SlB, slK_i, toB_p, truD_b, wipeD, List.set_cons_zero, List.set_cons_succ, stepQ_nx, stepQ_ct, stepQ_brk, stepQ_ret, frame_p, frame_nx, live_ret, live_nx, cut_self, cut_app, newT0, newT1, newT2, newT3, newT4, newT5, newT6, newL0, newL1, newL2, newL3, newL4, newL5, newL6, src_l, src_t, fAdd_i, fSub_i, fLt_i, fLe_i, fGt_i, fGe_i, is_non, isNon_ref, isNon_non, isNon_int, isNon_str, isNon_bl, isNon_tup, isNon_lst, isNon_ins, Bool.false_eq_true, if_true, if_false, decide_true, decide_false, Bool.not_true, Bool.not_false, and_self, and_true, true_and, eq_self, startD_c, startD_n, startD_z, fndQ_nx, fndQ_ct, fndQ_ret, endQ_none, endQ_some, Option.map_none, orow]
    | some r => simp -dsimp only [Ev_bl, Ev_some, bl_some, sel_t, sel_f, optL_some, at_dC, l_Var0, l_VarS, l_Op, l_Un, l_Test, l_And, l_Or, l_Not, l_NotV, l_AndV, l_OrV, l_IfE, at_dNil, l_Cons, l_Call, at_dNx, l_Seq, seqK_nx, seqK_ret, seqK_brk, seqK_ct, at_dBrk, at_dCt, l_Drop, l_Ret, at_dRetN, l_If, l_Set, l_Tup, l_Lst, at_dYes, l_Tru, l_Chain, l_Meth, l_BM, at_gNm, l_Asg, l_gSb, at_gNl, l_gCn, gT0, gT1, gT2, gT3, gT4, l_For, l_Wh, l_Comp, l_It, l_Rng1, l_Rng2, l_SetF, l_SlN, l_SlH, l_SlL, l_SlB, slK_i, toB_p, truD_b, wipeD, List.set_cons_zero, List.set_cons_succ, stepQ_nx, stepQ_ct, stepQ_brk, stepQ_ret, frame_p, frame_nx, live_ret, live_nx, cut_self, cut_app, newT0, newT1, newT2, newT3, newT4, newT5, newT6, newL0, newL1, newL2, newL3, newL4, newL5, newL6, src_l, src_t, fAdd_i, fSub_i, fLt_i, fLe_i, fGt_i, fGe_i, is_non, isNon_ref, isNon_non, isNon_int, isNon_str, isNon_bl, isNon_tup, isNon_lst, isNon_ins, Bool.false_eq_true, if_true, if_false, decide_true, decide_false, Bool.not_true, Bool.not_false, and_self, and_true, true_and, eq_self, startD_c, startD_n, startD_z, fndQ_nx, fndQ_ct, fndQ_ret, endQ_none, endQ_some, Option.map_some, orow]
theorem linfo_eq (k : Option Spot) (S : SH) : m_info [.p (worldP m rs c ks), .p (capP k)] S = some (.p (oinfL (infO ks rs k)), S) := by
  refine fn_eq rfl rfl ?_
  cases k with
  | none =>
    simp -dsimp only [Ev_bl, Ev_some, bl_some, sel_t, sel_f, optL_some, at_dC, l_Var0, l_VarS, l_Op, l_Un, l_Test, l_And, l_Or, l_Not, l_NotV, l_AndV, l_OrV, l_IfE, at_dNil, l_Cons, l_Call, at_dNx, l_Seq, seqK_nx, seqK_ret, seqK_brk, seqK_ct, at_dBrk, at_dCt, l_Drop, l_Ret, at_dRetN, l_If, l_Set, l_Tup, l_Lst, at_dYes, l_Tru, l_Chain, l_Meth, l_BM, at_gNm, l_Asg, l_gSb, at_gNl, l_gCn, gT0, gT1, gT2, gT3, gT4, l_For, l_Wh, l_Comp, l_It, l_Rng1, l_Rng2, l_SetF, l_SlN, l_SlH, l_SlL, l_SlB, slK_i, toB_p, truD_b, wipeD, List.set_cons_zero, List.set_cons_succ, stepQ_nx, stepQ_ct, stepQ_brk, stepQ_ret, frame_p, frame_nx, live_ret, live_nx, cut_self, cut_app, newT0, newT1, newT2, newT3, newT4, newT5, newT6, newL0, newL1, newL2, newL3, newL4, newL5, newL6, src_l, src_t, fAdd_i, fSub_i, fLt_i, fLe_i, fGt_i, fGe_i, is_non, isNon_ref, isNon_non, isNon_int, isNon_str, isNon_bl, isNon_tup, isNon_lst, isNon_ins, Bool.false_eq_true, if_true, if_false, decide_true, decide_false, Bool.not_true, Bool.not_false, and_self, and_true, true_and, eq_self, startD_c, startD_n, startD_z, fndQ_nx, fndQ_ct, fndQ_ret, endQ_none, endQ_some, capP, full_eq]
    rfl
  | some s =>
    have s2 : ∀ T, fIx (.p (capP (some s))) (.p (.int 2)) T = some (.p (.int (s.2.2 : Int)), T) := fun T => spot_2 s T
    simp -dsimp only [Ev_bl, Ev_some, bl_some, sel_t, sel_f, optL_some, at_dC, l_Var0, l_VarS, l_Op, l_Un, l_Test, l_And, l_Or, l_Not, l_NotV, l_AndV, l_OrV, l_IfE, at_dNil, l_Cons, l_Call, at_dNx, l_Seq, seqK_nx, seqK_ret, seqK_brk, seqK_ct, at_dBrk, at_dCt, l_Drop, l_Ret, at_dRetN, l_If, l_Set, l_Tup, l_Lst, at_dYes, l_Tru, l_Chain, l_Meth, l_BM, at_gNm, l_Asg, l_gSb, at_gNl, l_gCn, gT0, gT1, gT2, gT3, gT4, l_For, l_Wh, l_Comp, l_It, l_Rng1, l_Rng2, l_SetF, l_SlN, l_SlH, l_SlL, l_SlB, slK_i, toB_p, truD_b, wipeD, List.set_cons_zero, List.set_cons_succ, stepQ_nx, stepQ_ct, stepQ_brk, stepQ_ret, frame_p, frame_nx, live_ret, live_nx, cut_self, cut_app, newT0, newT1, newT2, newT3, newT4, newT5, newT6, newL0, newL1, newL2, newL3, newL4, newL5, newL6, src_l, src_t, fAdd_i, fSub_i, fLt_i, fLe_i, fGt_i, fGe_i, is_non, isNon_ref, isNon_non, isNon_int, isNon_str, isNon_bl, isNon_tup, isNon_lst, isNon_ins, Bool.false_eq_true, if_true, if_false, decide_true, decide_false, Bool.not_true, Bool.not_false, and_self, and_true, true_and, eq_self, startD_c, startD_n, startD_z, fndQ_nx, fndQ_ct, fndQ_ret, endQ_none, endQ_some, non_cap, wx3]
    refine Ev_fndn (fun e => if e.sp = s then some (D.p (infL (e.par, e.ho, e.rt))) else none) (fun e he => ?_) ?_
    · have k0 : ∀ T, fIx (.p (kepE e)) (.p (.int 0)) T = some (.p (spotP e.sp), T) := fun T => fIx_t (n := 0) rfl
      have k1 : ∀ T, fIx (.p (kepE e)) (.p (.int 1)) T = some (.p (capP e.par), T) := fun T => fIx_t (n := 1) rfl
      have k2 : ∀ T, fIx (.p (kepE e)) (.p (.int 2)) T = some (.p (.int (e.ho : Int)), T) := fun T => fIx_t (n := 2) rfl
      have k3 : ∀ T, fIx (.p (kepE e)) (.p (.int 3)) T = some (.p e.rt, T) := fun T => fIx_t (n := 3) rfl
      have eq : ∀ T, fEq false (.p (spotP e.sp)) (.p (capP (some s))) T = some (.p (.bl (decide (e.sp = s))), T) := fun T => fEq_spot false e.sp s T
      by_cases q : e.sp = s
      · rw [if_pos q]
        have dt : decide (e.sp = s) = true := decide_eq_true q
        simp -dsimp only [Ev_bl, Ev_some, bl_some, sel_t, sel_f, optL_some, at_dC, l_Var0, l_VarS, l_Op, l_Un, l_Test, l_And, l_Or, l_Not, l_NotV, l_AndV, l_OrV, l_IfE, at_dNil, l_Cons, l_Call, at_dNx, l_Seq, seqK_nx, seqK_ret, seqK_brk, seqK_ct, at_dBrk, at_dCt, l_Drop, l_Ret, at_dRetN, l_If, l_Set, l_Tup, l_Lst, at_dYes, l_Tru, l_Chain, l_Meth, l_BM, at_gNm, l_Asg, l_gSb, at_gNl, l_gCn, gT0, gT1, gT2, gT3, gT4, l_For, l_Wh, l_Comp, l_It, l_Rng1, l_Rng2, l_SetF, l_SlN, l_SlH, l_SlL, l_SlB, slK_i, toB_p, truD_b, wipeD, List.set_cons_zero, List.set_cons_succ, stepQ_nx, stepQ_ct, stepQ_brk, stepQ_ret, frame_p, frame_nx, live_ret, live_nx, cut_self, cut_app, newT0, newT1, newT2, newT3, newT4, newT5, newT6, newL0, newL1, newL2, newL3, newL4, newL5, newL6, src_l, src_t, fAdd_i, fSub_i, fLt_i, fLe_i, fGt_i, fGe_i, is_non, isNon_ref, isNon_non, isNon_int, isNon_str, isNon_bl, isNon_tup, isNon_lst, isNon_ins, Bool.false_eq_true, if_true, if_false, decide_true, decide_false, Bool.not_true, Bool.not_false, and_self, and_true, true_and, eq_self, startD_c, startD_n, startD_z, fndQ_nx, fndQ_ct, fndQ_ret, endQ_none, endQ_some, k0, eq, dt, k1, k2, k3]
        rfl
      · rw [if_neg q]
        simp -dsimp only [Ev_bl, Ev_some, bl_some, sel_t, sel_f, optL_some, at_dC, l_Var0, l_VarS, l_Op, l_Un, l_Test, l_And, l_Or, l_Not, l_NotV, l_AndV, l_OrV, l_IfE, at_dNil, l_Cons, l_Call, at_dNx, l_Seq, seqK_nx, seqK_ret, seqK_brk, seqK_ct, at_dBrk, at_dCt, l_Drop, l_Ret, at_dRetN, l_If, l_Set, l_Tup, l_Lst, at_dYes, l_Tru, l_Chain, l_Meth, l_BM, at_gNm, l_Asg, l_gSb, at_gNl, l_gCn, gT0, gT1, gT2, gT3, gT4, l_For, l_Wh, l_Comp, l_It, l_Rng1, l_Rng2, l_SetF, l_SlN, l_SlH, l_SlL, l_SlB, slK_i, toB_p, truD_b, wipeD, List.set_cons_zero, List.set_cons_succ, stepQ_nx, stepQ_ct, stepQ_brk, stepQ_ret, frame_p, frame_nx, live_ret, live_nx, cut_self, cut_app, newT0, newT1, newT2, newT3, newT4, newT5, newT6, newL0, newL1, newL2, newL3, newL4, newL5, newL6, src_l, src_t, fAdd_i, fSub_i, fLt_i, fLe_i, fGt_i, fGe_i, is_non, isNon_ref, isNon_non, isNon_int, isNon_str, isNon_bl, isNon_tup, isNon_lst, isNon_ins, Bool.false_eq_true, if_true, if_false, decide_true, decide_false, Bool.not_true, Bool.not_false, and_self, and_true, true_and, eq_self, startD_c, startD_n, startD_z, fndQ_nx, fndQ_ct, fndQ_ret, endQ_none, endQ_some, k0, eq, q]
    · rw [fnd_kepL]
      cases e : kfind ks s with
      | some x =>
        simp -dsimp only [Ev_bl, Ev_some, bl_some, sel_t, sel_f, optL_some, at_dC, l_Var0, l_VarS, l_Op, l_Un, l_Test, l_And, l_Or, l_Not, l_NotV, l_AndV, l_OrV, l_IfE, at_dNil, l_Cons, l_Call, at_dNx, l_Seq, seqK_nx, seqK_ret, seqK_brk, seqK_ct, at_dBrk, at_dCt, l_Drop, l_Ret, at_dRetN, l_If, l_Set, l_Tup, l_Lst, at_dYes, l_Tru, l_Chain, l_Meth, l_BM, at_gNm, l_Asg, l_gSb, at_gNl, l_gCn, gT0, gT1, gT2, gT3, gT4, l_For, l_Wh, l_Comp, l_It, l_Rng1, l_Rng2, l_SetF, l_SlN, l_SlH, l_SlL, l_SlB, slK_i, toB_p, truD_b, wipeD, List.set_cons_zero, List.set_cons_succ, stepQ_nx, stepQ_ct, stepQ_brk, stepQ_ret, frame_p, frame_nx, live_ret, live_nx, cut_self, cut_app, newT0, newT1, newT2, newT3, newT4, newT5, newT6, newL0, newL1, newL2, newL3, newL4, newL5, newL6, src_l, src_t, fAdd_i, fSub_i, fLt_i, fLe_i, fGt_i, fGe_i, is_non, isNon_ref, isNon_non, isNon_int, isNon_str, isNon_bl, isNon_tup, isNon_lst, isNon_ins, Bool.false_eq_true, if_true, if_false, decide_true, decide_false, Bool.not_true, Bool.not_false, and_self, and_true, true_and, eq_self, startD_c, startD_n, startD_z, fndQ_nx, fndQ_ct, fndQ_ret, endQ_none, endQ_some, Option.map_some]
        show _ = D.p (oinfL (inf ks rs s))
        unfold inf
        rw [e]
        rfl
      | none =>
        have ei : infO ks rs (some s) = linf rs s := by
          show inf ks rs s = _
          unfold inf
          rw [e]
        rw [ei]
        unfold linf
        cases e2 : rfind rs s.1 s.2.1 with
        | none =>
          simp -dsimp only [Ev_bl, Ev_some, bl_some, sel_t, sel_f, optL_some, at_dC, l_Var0, l_VarS, l_Op, l_Un, l_Test, l_And, l_Or, l_Not, l_NotV, l_AndV, l_OrV, l_IfE, at_dNil, l_Cons, l_Call, at_dNx, l_Seq, seqK_nx, seqK_ret, seqK_brk, seqK_ct, at_dBrk, at_dCt, l_Drop, l_Ret, at_dRetN, l_If, l_Set, l_Tup, l_Lst, at_dYes, l_Tru, l_Chain, l_Meth, l_BM, at_gNm, l_Asg, l_gSb, at_gNl, l_gCn, gT0, gT1, gT2, gT3, gT4, l_For, l_Wh, l_Comp, l_It, l_Rng1, l_Rng2, l_SetF, l_SlN, l_SlH, l_SlL, l_SlB, slK_i, toB_p, truD_b, wipeD, List.set_cons_zero, List.set_cons_succ, stepQ_nx, stepQ_ct, stepQ_brk, stepQ_ret, frame_p, frame_nx, live_ret, live_nx, cut_self, cut_app, newT0, newT1, newT2, newT3, newT4, newT5, newT6, newL0, newL1, newL2, newL3, newL4, newL5, newL6, src_l, src_t, fAdd_i, fSub_i, fLt_i, fLe_i, fGt_i, fGe_i, is_non, isNon_ref, isNon_non, isNon_int, isNon_str, isNon_bl, isNon_tup, isNon_lst, isNon_ins, Bool.false_eq_true, if_true, if_false, decide_true, decide_false, Bool.not_true, Bool.not_false, and_self, and_true, true_and, eq_self, startD_c, startD_n, startD_z, fndQ_nx, fndQ_ct, fndQ_ret, endQ_none, endQ_some, Option.map_none, lfind_eq, e2, orow]
          rfl
        | some r =>
          have ir : ∀ T, IsRow T (.p (row5P r)) r := fun T => .inl rfl
          have nr : isNon (.p (row5P r)) = false := rfl
          cases e3 : r.pubs[s.2.2]? with
          | none =>
            have h1 : (r.pubs.length : Int) ≤ (s.2.2 : Int) := by
              have := List.getElem?_eq_none_iff.mp e3
              omega
            simp -dsimp only [Ev_bl, Ev_some, bl_some, sel_t, sel_f, optL_some, at_dC, l_Var0, l_VarS, l_Op, l_Un, l_Test, l_And, l_Or, l_Not, l_NotV, l_AndV, l_OrV, l_IfE, at_dNil, l_Cons, l_Call, at_dNx, l_Seq, seqK_nx, seqK_ret, seqK_brk, seqK_ct, at_dBrk, at_dCt, l_Drop, l_Ret, at_dRetN, l_If, l_Set, l_Tup, l_Lst, at_dYes, l_Tru, l_Chain, l_Meth, l_BM, at_gNm, l_Asg, l_gSb, at_gNl, l_gCn, gT0, gT1, gT2, gT3, gT4, l_For, l_Wh, l_Comp, l_It, l_Rng1, l_Rng2, l_SetF, l_SlN, l_SlH, l_SlL, l_SlB, slK_i, toB_p, truD_b, wipeD, List.set_cons_zero, List.set_cons_succ, stepQ_nx, stepQ_ct, stepQ_brk, stepQ_ret, frame_p, frame_nx, live_ret, live_nx, cut_self, cut_app, newT0, newT1, newT2, newT3, newT4, newT5, newT6, newL0, newL1, newL2, newL3, newL4, newL5, newL6, src_l, src_t, fAdd_i, fSub_i, fLt_i, fLe_i, fGt_i, fGe_i, is_non, isNon_ref, isNon_non, isNon_int, isNon_str, isNon_bl, isNon_tup, isNon_lst, isNon_ins, Bool.false_eq_true, if_true, if_false, decide_true, decide_false, Bool.not_true, Bool.not_false, and_self, and_true, true_and, eq_self, startD_c, startD_n, startD_z, fndQ_nx, fndQ_ct, fndQ_ret, endQ_none, endQ_some, Option.map_none, lfind_eq, e2, orow, nr, s2, r5_4 (ir _), pubs_len, h1]
            unfold ginf
            simp only [e3]
            rfl
          | some p =>
            have h1 : ¬ (r.pubs.length : Int) ≤ (s.2.2 : Int) := by
              have := (List.getElem?_eq_some_iff.mp e3).1
              omega
            have px := fun T => pubs_ix e3 T
            have tg := tag_g p
            cases p with
            | grant mm rt =>
              have tg' : (tagS (.grant mm rt) == ("grant" : Str)) = true := tg
              simp -dsimp only [Ev_bl, Ev_some, bl_some, sel_t, sel_f, optL_some, at_dC, l_Var0, l_VarS, l_Op, l_Un, l_Test, l_And, l_Or, l_Not, l_NotV, l_AndV, l_OrV, l_IfE, at_dNil, l_Cons, l_Call, at_dNx, l_Seq, seqK_nx, seqK_ret, seqK_brk, seqK_ct, at_dBrk, at_dCt, l_Drop, l_Ret, at_dRetN, l_If, l_Set, l_Tup, l_Lst, at_dYes, l_Tru, l_Chain, l_Meth, l_BM, at_gNm, l_Asg, l_gSb, at_gNl, l_gCn, gT0, gT1, gT2, gT3, gT4, l_For, l_Wh, l_Comp, l_It, l_Rng1, l_Rng2, l_SetF, l_SlN, l_SlH, l_SlL, l_SlB, slK_i, toB_p, truD_b, wipeD, List.set_cons_zero, List.set_cons_succ, stepQ_nx, stepQ_ct, stepQ_brk, stepQ_ret, frame_p, frame_nx, live_ret, live_nx, cut_self, cut_app, newT0, newT1, newT2, newT3, newT4, newT5, newT6, newL0, newL1, newL2, newL3, newL4, newL5, newL6, src_l, src_t, fAdd_i, fSub_i, fLt_i, fLe_i, fGt_i, fGe_i, is_non, isNon_ref, isNon_non, isNon_int, isNon_str, isNon_bl, isNon_tup, isNon_lst, isNon_ins, Bool.false_eq_true, if_true, if_false, decide_true, decide_false, Bool.not_true, Bool.not_false, and_self, and_true, true_and, eq_self, startD_c, startD_n, startD_z, fndQ_nx, fndQ_ct, fndQ_ret, endQ_none, endQ_some, Option.map_none, lfind_eq, e2, orow, nr, s2, r5_4 (ir _), r5_3 (ir _), pubs_len, h1, px, pub_0, fEq_ss, tg', pub_1, pub_2]
              unfold ginf
              simp only [e3]
              rfl
            | revoke cc =>
              have tg' : (tagS (.revoke cc) == ("grant" : Str)) = false := tg
              simp -dsimp only [Ev_bl, Ev_some, bl_some, sel_t, sel_f, optL_some, at_dC, l_Var0, l_VarS, l_Op, l_Un, l_Test, l_And, l_Or, l_Not, l_NotV, l_AndV, l_OrV, l_IfE, at_dNil, l_Cons, l_Call, at_dNx, l_Seq, seqK_nx, seqK_ret, seqK_brk, seqK_ct, at_dBrk, at_dCt, l_Drop, l_Ret, at_dRetN, l_If, l_Set, l_Tup, l_Lst, at_dYes, l_Tru, l_Chain, l_Meth, l_BM, at_gNm, l_Asg, l_gSb, at_gNl, l_gCn, gT0, gT1, gT2, gT3, gT4, l_For, l_Wh, l_Comp, l_It, l_Rng1, l_Rng2, l_SetF, l_SlN, l_SlH, l_SlL, l_SlB, slK_i, toB_p, truD_b, wipeD, List.set_cons_zero, List.set_cons_succ, stepQ_nx, stepQ_ct, stepQ_brk, stepQ_ret, frame_p, frame_nx, live_ret, live_nx, cut_self, cut_app, newT0, newT1, newT2, newT3, newT4, newT5, newT6, newL0, newL1, newL2, newL3, newL4, newL5, newL6, src_l, src_t, fAdd_i, fSub_i, fLt_i, fLe_i, fGt_i, fGe_i, is_non, isNon_ref, isNon_non, isNon_int, isNon_str, isNon_bl, isNon_tup, isNon_lst, isNon_ins, Bool.false_eq_true, if_true, if_false, decide_true, decide_false, Bool.not_true, Bool.not_false, and_self, and_true, true_and, eq_self, startD_c, startD_n, startD_z, fndQ_nx, fndQ_ct, fndQ_ret, endQ_none, endQ_some, Option.map_none, lfind_eq, e2, orow, nr, s2, r5_4 (ir _), r5_3 (ir _), pubs_len, h1, px, pub_0, fEq_ss, tg']
              unfold ginf
              simp only [e3]
              rfl
            | sl =>
              have tg' : (tagS .sl == ("grant" : Str)) = false := tg
              simp -dsimp only [Ev_bl, Ev_some, bl_some, sel_t, sel_f, optL_some, at_dC, l_Var0, l_VarS, l_Op, l_Un, l_Test, l_And, l_Or, l_Not, l_NotV, l_AndV, l_OrV, l_IfE, at_dNil, l_Cons, l_Call, at_dNx, l_Seq, seqK_nx, seqK_ret, seqK_brk, seqK_ct, at_dBrk, at_dCt, l_Drop, l_Ret, at_dRetN, l_If, l_Set, l_Tup, l_Lst, at_dYes, l_Tru, l_Chain, l_Meth, l_BM, at_gNm, l_Asg, l_gSb, at_gNl, l_gCn, gT0, gT1, gT2, gT3, gT4, l_For, l_Wh, l_Comp, l_It, l_Rng1, l_Rng2, l_SetF, l_SlN, l_SlH, l_SlL, l_SlB, slK_i, toB_p, truD_b, wipeD, List.set_cons_zero, List.set_cons_succ, stepQ_nx, stepQ_ct, stepQ_brk, stepQ_ret, frame_p, frame_nx, live_ret, live_nx, cut_self, cut_app, newT0, newT1, newT2, newT3, newT4, newT5, newT6, newL0, newL1, newL2, newL3, newL4, newL5, newL6, src_l, src_t, fAdd_i, fSub_i, fLt_i, fLe_i, fGt_i, fGe_i, is_non, isNon_ref, isNon_non, isNon_int, isNon_str, isNon_bl, isNon_tup, isNon_lst, isNon_ins, Bool.false_eq_true, if_true, if_false, decide_true, decide_false, Bool.not_true, Bool.not_false, and_self, and_true, true_and, eq_self, startD_c, startD_n, startD_z, fndQ_nx, fndQ_ct, fndQ_ret, endQ_none, endQ_some, Option.map_none, lfind_eq, e2, orow, nr, s2, r5_4 (ir _), r5_3 (ir _), pubs_len, h1, px, pub_0, fEq_ss, tg']
              unfold ginf
              simp only [e3]
              rfl
def lpathP : Option (List Spot) → P
  | some l => .lst (capsP l)
  | none => .lst []
theorem lpath_eq (k : Option Spot) (S : SH) : m_lpath [.p (worldP m rs c ks), .p (capP k)] S = some (.p (lpathP (way ks rs k)), S) := by
  have nl : newL true [] (⟨S.os.length, S.os⟩ : SH) = some (.ref S.os.length, ⟨S.os.length, S.os ++ [lpS []]⟩) := newL_t _ (small (by simp))
  have r40 : ∀ T, rng1 [.p (.int 40)] T = some (srcN 0 40, T) := fun T => srt_rng 40 (by decide)
  refine fn_eq rfl rfl ?_
  simp -dsimp only [Ev_bl, Ev_some, bl_some, sel_t, sel_f, optL_some, at_dC, l_Var0, l_VarS, l_Op, l_Un, l_Test, l_And, l_Or, l_Not, l_NotV, l_AndV, l_OrV, l_IfE, at_dNil, l_Cons, l_Call, at_dNx, l_Seq, seqK_nx, seqK_ret, seqK_brk, seqK_ct, at_dBrk, at_dCt, l_Drop, l_Ret, at_dRetN, l_If, l_Set, l_Tup, l_Lst, at_dYes, l_Tru, l_Chain, l_Meth, l_BM, at_gNm, l_Asg, l_gSb, at_gNl, l_gCn, gT0, gT1, gT2, gT3, gT4, l_For, l_Wh, l_Comp, l_It, l_Rng1, l_Rng2, l_SetF, l_SlN, l_SlH, l_SlL, l_SlB, slK_i, toB_p, truD_b, wipeD, List.set_cons_zero, List.set_cons_succ, stepQ_nx, stepQ_ct, stepQ_brk, stepQ_ret, frame_p, frame_nx, live_ret, live_nx, cut_self, cut_app, newT0, newT1, newT2, newT3, newT4, newT5, newT6, newL0, newL1, newL2, newL3, newL4, newL5, newL6, src_l, src_t, fAdd_i, fSub_i, fLt_i, fLe_i, fGt_i, fGe_i, is_non, isNon_ref, isNon_non, isNon_int, isNon_str, isNon_bl, isNon_tup, isNon_lst, isNon_ins, Bool.false_eq_true, if_true, if_false, decide_true, decide_false, Bool.not_true, Bool.not_false, and_self, and_true, true_and, eq_self, startD_c, startD_n, startD_z, fndQ_nx, fndQ_ct, fndQ_ret, endQ_none, endQ_some, nl, r40]
  refine Ev_rng (fun n σ T => ∃ (d : Option Spot) (l : List Spot), σ = [some (.p (worldP m rs c ks)), some (.p (capP d)), some (.ref S.os.length), none, none] ∧ T = ⟨S.os.length, S.os ++ [lpS l]⟩ ∧ Lk (parF ks rs) k d l ∧ l.length = n) ⟨k, [], rfl, rfl, .nil k, rfl⟩ ?_ ?_
  · rintro n σ T hn ⟨d, l, rfl, rfl, lk, hl⟩
    have at0 : (⟨S.os.length, S.os ++ [lpS l]⟩ : SH).os[S.os.length]? = some (lpS l) := at_last _ _ _
    have ty := isTy_ref at0
    have fl := add_rl (qs := [.non]) at0 (by simp; omega)
    cases d with
    | none =>
      have wy : way ks rs k = some l := by
        have := lk.wk 0
        rw [walk_none, Option.map_some, List.append_nil, Nat.zero_add] at this
        have h2 := walk_up (39 - l.length) this
        rw [show l.length + (39 - l.length) = 39 by omega] at h2
        exact h2
      simp -dsimp only [Ev_bl, Ev_some, bl_some, sel_t, sel_f, optL_some, at_dC, l_Var0, l_VarS, l_Op, l_Un, l_Test, l_And, l_Or, l_Not, l_NotV, l_AndV, l_OrV, l_IfE, at_dNil, l_Cons, l_Call, at_dNx, l_Seq, seqK_nx, seqK_ret, seqK_brk, seqK_ct, at_dBrk, at_dCt, l_Drop, l_Ret, at_dRetN, l_If, l_Set, l_Tup, l_Lst, at_dYes, l_Tru, l_Chain, l_Meth, l_BM, at_gNm, l_Asg, l_gSb, at_gNl, l_gCn, gT0, gT1, gT2, gT3, gT4, l_For, l_Wh, l_Comp, l_It, l_Rng1, l_Rng2, l_SetF, l_SlN, l_SlH, l_SlL, l_SlB, slK_i, toB_p, truD_b, wipeD, List.set_cons_zero, List.set_cons_succ, stepQ_nx, stepQ_ct, stepQ_brk, stepQ_ret, frame_p, frame_nx, live_ret, live_nx, cut_self, cut_app, newT0, newT1, newT2, newT3, newT4, newT5, newT6, newL0, newL1, newL2, newL3, newL4, newL5, newL6, src_l, src_t, fAdd_i, fSub_i, fLt_i, fLe_i, fGt_i, fGe_i, is_non, isNon_ref, isNon_non, isNon_int, isNon_str, isNon_bl, isNon_tup, isNon_lst, isNon_ins, Bool.false_eq_true, if_true, if_false, decide_true, decide_false, Bool.not_true, Bool.not_false, and_self, and_true, true_and, eq_self, startD_c, startD_n, startD_z, fndQ_nx, fndQ_ct, fndQ_ret, endQ_none, endQ_some, capP, fl]
      rw [wy]
      show _ = D.p (.lst (capsP l))
      unfold capsP
      rw [List.map_append]
      rfl
    | some s =>
      have own := fun T => linfo_eq (m := m) (c := c) (ks := ks) (rs := rs) (some s) T
      cases e : inf ks rs s with
      | none =>
        have ei : infO ks rs (some s) = none := e
        have wy : way ks rs k = none := by
          have := lk.wk (39 - l.length)
          rw [show 39 - l.length + l.length = 39 by omega, walk_stop (by show (inf ks rs s).map _ = none; rw [e]; rfl)] at this
          exact this
        simp -dsimp only [Ev_bl, Ev_some, bl_some, sel_t, sel_f, optL_some, at_dC, l_Var0, l_VarS, l_Op, l_Un, l_Test, l_And, l_Or, l_Not, l_NotV, l_AndV, l_OrV, l_IfE, at_dNil, l_Cons, l_Call, at_dNx, l_Seq, seqK_nx, seqK_ret, seqK_brk, seqK_ct, at_dBrk, at_dCt, l_Drop, l_Ret, at_dRetN, l_If, l_Set, l_Tup, l_Lst, at_dYes, l_Tru, l_Chain, l_Meth, l_BM, at_gNm, l_Asg, l_gSb, at_gNl, l_gCn, gT0, gT1, gT2, gT3, gT4, l_For, l_Wh, l_Comp, l_It, l_Rng1, l_Rng2, l_SetF, l_SlN, l_SlH, l_SlL, l_SlB, slK_i, toB_p, truD_b, wipeD, List.set_cons_zero, List.set_cons_succ, stepQ_nx, stepQ_ct, stepQ_brk, stepQ_ret, frame_p, frame_nx, live_ret, live_nx, cut_self, cut_app, newT0, newT1, newT2, newT3, newT4, newT5, newT6, newL0, newL1, newL2, newL3, newL4, newL5, newL6, src_l, src_t, fAdd_i, fSub_i, fLt_i, fLe_i, fGt_i, fGe_i, is_non, isNon_ref, isNon_non, isNon_int, isNon_str, isNon_bl, isNon_tup, isNon_lst, isNon_ins, Bool.false_eq_true, if_true, if_false, decide_true, decide_false, Bool.not_true, Bool.not_false, and_self, and_true, true_and, eq_self, startD_c, startD_n, startD_z, fndQ_nx, fndQ_ct, fndQ_ret, endQ_none, endQ_some, non_cap, own, ei, oinfL]
        rw [wy]
        rfl
      | some i =>
        have ei : infO ks rs (some s) = some i := e
        have ni : isNon (.p (infL i)) = false := rfl
        have ap := app_last S.os.length S.os ((l.map some).map capP) (capP (some s)) (by rw [List.length_map, List.length_map]; omega)
        have i0 : ∀ T, fIx (.p (infL i)) (.p (.int 0)) T = some (.p (capP i.1), T) := fun T => fIx_l (n := 0) rfl
        simp -dsimp only [Ev_bl, Ev_some, bl_some, sel_t, sel_f, optL_some, at_dC, l_Var0, l_VarS, l_Op, l_Un, l_Test, l_And, l_Or, l_Not, l_NotV, l_AndV, l_OrV, l_IfE, at_dNil, l_Cons, l_Call, at_dNx, l_Seq, seqK_nx, seqK_ret, seqK_brk, seqK_ct, at_dBrk, at_dCt, l_Drop, l_Ret, at_dRetN, l_If, l_Set, l_Tup, l_Lst, at_dYes, l_Tru, l_Chain, l_Meth, l_BM, at_gNm, l_Asg, l_gSb, at_gNl, l_gCn, gT0, gT1, gT2, gT3, gT4, l_For, l_Wh, l_Comp, l_It, l_Rng1, l_Rng2, l_SetF, l_SlN, l_SlH, l_SlL, l_SlB, slK_i, toB_p, truD_b, wipeD, List.set_cons_zero, List.set_cons_succ, stepQ_nx, stepQ_ct, stepQ_brk, stepQ_ret, frame_p, frame_nx, live_ret, live_nx, cut_self, cut_app, newT0, newT1, newT2, newT3, newT4, newT5, newT6, newL0, newL1, newL2, newL3, newL4, newL5, newL6, src_l, src_t, fAdd_i, fSub_i, fLt_i, fLe_i, fGt_i, fGe_i, is_non, isNon_ref, isNon_non, isNon_int, isNon_str, isNon_bl, isNon_tup, isNon_lst, isNon_ins, Bool.false_eq_true, if_true, if_false, decide_true, decide_false, Bool.not_true, Bool.not_false, and_self, and_true, true_and, eq_self, startD_c, startD_n, startD_z, fndQ_nx, fndQ_ct, fndQ_ret, endQ_none, endQ_some, non_cap, own, ei, oinfL, ni, ty, ap, i0]
        refine Hold.i ⟨i.1, l ++ [s], rfl, ?_, lk.snoc (by show (inf ks rs s).map _ = _; rw [e]; rfl), by rw [List.length_append, hl]; rfl⟩
        simp
  · rintro σ T ⟨d, l, rfl, rfl, lk, hl⟩
    have wy : way ks rs k = none := by
      cases e : way ks rs k with
      | none => rfl
      | some l' =>
        have h1 := (walk_len e).1
        have h2 := lk.wk 0
        have h3 := walk_up 1 e
        rw [Nat.zero_add, hl, show (40 : Nat) = 39 + 1 from rfl, h3] at h2
        cases e3 : walk (parF ks rs) 0 d with
        | none => rw [e3] at h2; cases h2
        | some z =>
          rw [e3] at h2
          simp only [Option.map_some, Option.some.injEq] at h2
          rw [h2, List.length_append] at h1
          omega
    simp -dsimp only [Ev_bl, Ev_some, bl_some, sel_t, sel_f, optL_some, at_dC, l_Var0, l_VarS, l_Op, l_Un, l_Test, l_And, l_Or, l_Not, l_NotV, l_AndV, l_OrV, l_IfE, at_dNil, l_Cons, l_Call, at_dNx, l_Seq, seqK_nx, seqK_ret, seqK_brk, seqK_ct, at_dBrk, at_dCt, l_Drop, l_Ret, at_dRetN, l_If, l_Set, l_Tup, l_Lst, at_dYes, l_Tru, l_Chain, l_Meth, l_BM, at_gNm, l_Asg, l_gSb, at_gNl, l_gCn, gT0, gT1, gT2, gT3, gT4, l_For, l_Wh, l_Comp, l_It, l_Rng1, l_Rng2, l_SetF, l_SlN, l_SlH, l_SlL, l_SlB, slK_i, toB_p, truD_b, wipeD, List.set_cons_zero, List.set_cons_succ, stepQ_nx, stepQ_ct, stepQ_brk, stepQ_ret, frame_p, frame_nx, live_ret, live_nx, cut_self, cut_app, newT0, newT1, newT2, newT3, newT4, newT5, newT6, newL0, newL1, newL2, newL3, newL4, newL5, newL6, src_l, src_t, fAdd_i, fSub_i, fLt_i, fLe_i, fGt_i, fGe_i, is_non, isNon_ref, isNon_non, isNon_int, isNon_str, isNon_bl, isNon_tup, isNon_lst, isNon_ins, Bool.false_eq_true, if_true, if_false, decide_true, decide_false, Bool.not_true, Bool.not_false, and_self, and_true, true_and, eq_self, startD_c, startD_n, startD_z, fndQ_nx, fndQ_ct, fndQ_ret, endQ_none, endQ_some]
    rw [wy]
    rfl
end
end Kb
namespace Kb
open PySem PySem.Spec PyProof.Rows L2 Pv
/-! the store as nested tuples -/
abbrev kdP : P := .tup [.tup [], .tup [], .tup []]
theorem fAdd_tt (l : Bool) (a b : List P) (h : a.length + b.length ≤ 1000) (S : SH) : fAdd l (.p (.tup a)) (.p (.tup b)) S = some (.p (.tup (a ++ b)), S) := if_pos (small h)
theorem fTup_map {α : Type} (f : α → P) (xs : List α) (h : xs.length ≤ 1000) (S : SH) : fTuple [.p (.lst (xs.map f))] S = some (.p (.tup (xs.map f)), S) := fTuple_l (S := S) (by rw [List.length_map]; exact small h)
theorem kdata_eq (S : SH) : m_kept_data [.p k0P] S = some (.p kdP, S) := by
  have fa : ∀ T, dFld [1] "acts" (.p k0P) T = some (.p (.lst []), T) := fun T => rfl
  have fs : ∀ T, dFld [1] "sums" (.p k0P) T = some (.p (.lst []), T) := fun T => rfl
  have ft : ∀ T, dFld [1] "texts" (.p k0P) T = some (.p (.lst []), T) := fun T => rfl
  have tu : ∀ T, fTuple [.p (.lst [])] T = some (.p (.tup []), T) := fun T => fTuple_l (S := T) (ps := []) (small (by simp))
  have cp : ∀ (g : MG) (elt : ME) (σ : En) (T : SH), compL (srcP []).fin g dYes elt σ (srcP []).items [] T = some ([], T) := fun g elt σ T => rfl
  have kd : ∀ T, m_Kept_data [.p k0P] T = some (.p kdP, T) := fun T => by
    refine fn_eq rfl rfl ?_
    simp -dsimp only [Ev_bl, Ev_some, bl_some, sel_t, sel_f, optL_some, at_dC, l_Var0, l_VarS, l_Op, l_Un, l_Test, l_And, l_Or, l_Not, l_NotV, l_AndV, l_OrV, l_IfE, at_dNil, l_Cons, l_Call, at_dNx, l_Seq, seqK_nx, seqK_ret, seqK_brk, seqK_ct, at_dBrk, at_dCt, l_Drop, l_Ret, at_dRetN, l_If, l_Set, l_Tup, l_Lst, at_dYes, l_Tru, l_Chain, l_Meth, l_BM, at_gNm, l_Asg, l_gSb, at_gNl, l_gCn, gT0, gT1, gT2, gT3, gT4, l_For, l_Wh, l_Comp, l_It, l_Rng1, l_Rng2, l_SetF, l_SlN, l_SlH, l_SlL, l_SlB, slK_i, toB_p, truD_b, wipeD, List.set_cons_zero, List.set_cons_succ, stepQ_nx, stepQ_ct, stepQ_brk, stepQ_ret, frame_p, frame_nx, live_ret, live_nx, cut_self, cut_app, newT0, newT1, newT2, newT3, newT4, newT5, newT6, newL0, newL1, newL2, newL3, newL4, newL5, newL6, src_l, src_t, fAdd_i, fSub_i, fLt_i, fLe_i, fGt_i, fGe_i, is_non, isNon_ref, isNon_non, isNon_int, isNon_str, isNon_bl, isNon_tup, isNon_lst, isNon_ins, Bool.false_eq_true, if_true, if_false, decide_true, decide_false, Bool.not_true, Bool.not_false, and_self, and_true, true_and, eq_self, startD_c, startD_n, startD_z, fndQ_nx, fndQ_ct, fndQ_ret, endQ_none, endQ_some, fa, fs, ft, tu, cp]
  have mt : ∀ (r : MA) (σ : En) (S : SH), methL 1 "data" m_Kept_data r σ (.p k0P) S = bl (r σ S) (fun xs S2 => m_Kept_data (.p k0P :: xs) S2) ⟨⟩ := fun r σ S => meth_p rfl
  have nn : isNon (.p k0P) = false := rfl
  refine fn_eq rfl rfl ?_
  simp -dsimp only [Ev_bl, Ev_some, bl_some, sel_t, sel_f, optL_some, at_dC, l_Var0, l_VarS, l_Op, l_Un, l_Test, l_And, l_Or, l_Not, l_NotV, l_AndV, l_OrV, l_IfE, at_dNil, l_Cons, l_Call, at_dNx, l_Seq, seqK_nx, seqK_ret, seqK_brk, seqK_ct, at_dBrk, at_dCt, l_Drop, l_Ret, at_dRetN, l_If, l_Set, l_Tup, l_Lst, at_dYes, l_Tru, l_Chain, l_Meth, l_BM, at_gNm, l_Asg, l_gSb, at_gNl, l_gCn, gT0, gT1, gT2, gT3, gT4, l_For, l_Wh, l_Comp, l_It, l_Rng1, l_Rng2, l_SetF, l_SlN, l_SlH, l_SlL, l_SlB, slK_i, toB_p, truD_b, wipeD, List.set_cons_zero, List.set_cons_succ, stepQ_nx, stepQ_ct, stepQ_brk, stepQ_ret, frame_p, frame_nx, live_ret, live_nx, cut_self, cut_app, newT0, newT1, newT2, newT3, newT4, newT5, newT6, newL0, newL1, newL2, newL3, newL4, newL5, newL6, src_l, src_t, fAdd_i, fSub_i, fLt_i, fLe_i, fGt_i, fGe_i, is_non, isNon_ref, isNon_non, isNon_int, isNon_str, isNon_bl, isNon_tup, isNon_lst, isNon_ins, Bool.false_eq_true, if_true, if_false, decide_true, decide_false, Bool.not_true, Bool.not_false, and_self, and_true, true_and, eq_self, startD_c, startD_n, startD_z, fndQ_nx, fndQ_ct, fndQ_ret, endQ_none, endQ_some, nn, mt, kd]
theorem okd_ints (k : Nat) (l : List Int) : (intsP l).all (okd k) = true := by
  simp only [intsP, List.all_eq_true, List.mem_map]
  rintro p ⟨r, _, rfl⟩
  cases k <;> rfl
def hdrP (r : R5) : P := .tup [.int (r.a : Int), .int (r.n : Int), .tup (intsP r.h), capP r.cap, .tup (r.pubs.map pubP), .tup parts4]
def datP (m : Nat) (c : List Int) (ks : List Kep) (rs : List R5) : P := .tup [.tup (intsP c), .tup (ks.map kepE), .tup [kdP, kdP, kdP, kdP], .tup (tab m fun j => .tup ((gOf rs j).map hdrP))]
theorem pub_ok {p : Pub5} (h : OkPub p) : okd 36 (pubP p) = true := by
  cases p with
  | grant mm rt =>
    have e : okd 35 rt = true := okz_okd _ _ (okz_up (show okz 30 rt = true from h) 5)
    show ([.str "grant", .int (mm : Int), rt] : List P).all (okd 35) = true
    simp only [List.all_cons, List.all_nil, Bool.and_true, e]
    rfl
  | revoke c =>
    have e := okd_cap 34 c
    show ([.str "revoke", capP c] : List P).all (okd 35) = true
    simp only [List.all_cons, List.all_nil, Bool.and_true, e]
    rfl
  | sl => rfl
theorem hdr_ok {r : R5} (h : Ok5 r) : okd 38 (hdrP r) = true := by
  have h1 := okd_ints 36 r.h
  have h2 := okd_cap 36 r.cap
  have h3 : (r.pubs.map pubP).all (okd 36) = true := by
    simp only [List.all_eq_true, List.mem_map]
    rintro p ⟨q, hq, rfl⟩
    exact pub_ok (h.po q hq)
  have e1 : okd 37 (.tup (intsP r.h)) = true := h1
  have e2 : okd 37 (capP r.cap) = true := h2
  have e3 : okd 37 (.tup (r.pubs.map pubP)) = true := h3
  have e4 : okd 37 (.tup parts4) = true := by decide
  show ([.int (r.a : Int), .int (r.n : Int), .tup (intsP r.h), capP r.cap, .tup (r.pubs.map pubP), .tup parts4] : List P).all (okd 37) = true
  simp only [List.all_cons, List.all_nil, Bool.and_true, e1, e2, e3, e4]
  rfl
section
variable {m : Nat} {c : List Int} {ks : List Kep} {rs : List R5} (E : Env5 m c ks rs)
include E
theorem dat_ok : okd 40 (datP m c ks rs) = true := by
  have h1 := okd_ints 38 c
  have h2 : (tab m fun j => P.tup ((gOf rs j).map hdrP)).all (okd 39) = true := by
    simp only [tab, List.all_eq_true, List.mem_map]
    rintro p ⟨j, _, rfl⟩
    show ((gOf rs j).map hdrP).all (okd 38) = true
    simp only [List.all_eq_true, List.mem_map]
    rintro q ⟨r, hr, rfl⟩
    exact hdr_ok (E.ok r (List.mem_filter.mp hr).1)
  have h4 : (ks.map kepE).all (okd 38) = true := by
    simp only [List.all_eq_true, List.mem_map]
    rintro q ⟨e, he, rfl⟩
    have a := okd_cap 36 (some e.sp)
    have b := okd_cap 36 e.par
    have d : okd 37 e.rt = true := okz_okd _ _ (okz_up (E.kz e he) 7)
    have a' : okd 37 (spotP e.sp) = true := a
    show ([spotP e.sp, capP e.par, .int (e.ho : Int), e.rt] : List P).all (okd 37) = true
    simp only [List.all_cons, List.all_nil, Bool.and_true, a', b, d]
    rfl
  have e1 : okd 39 (.tup (intsP c)) = true := h1
  have e2 : okd 39 (.tup (tab m fun j => .tup ((gOf rs j).map hdrP))) = true := by
    show (tab m fun j => P.tup ((gOf rs j).map hdrP)).all (okd 38) = true
    simp only [tab, List.all_eq_true, List.mem_map]
    rintro p ⟨j, _, rfl⟩
    show ((gOf rs j).map hdrP).all (okd 37) = true
    simp only [List.all_eq_true, List.mem_map]
    rintro q ⟨r, hr, rfl⟩
    have o := E.ok r (List.mem_filter.mp hr).1
    have h1 := okd_ints 35 r.h
    have h3 : (r.pubs.map pubP).all (okd 35) = true := by
      simp only [List.all_eq_true, List.mem_map]
      rintro p ⟨q, hq, rfl⟩
      have := o.po q hq
      cases q with
      | grant mm rt =>
        have e : okd 34 rt = true := okz_okd _ _ (okz_up (show okz 30 rt = true from this) 4)
        show ([.str "grant", .int (mm : Int), rt] : List P).all (okd 34) = true
        simp only [List.all_cons, List.all_nil, Bool.and_true, e]
        rfl
      | revoke c =>
        have e := okd_cap 33 c
        show ([.str "revoke", capP c] : List P).all (okd 34) = true
        simp only [List.all_cons, List.all_nil, Bool.and_true, e]
        rfl
      | sl => rfl
    have e1 : okd 36 (.tup (intsP r.h)) = true := h1
    have e2 : okd 36 (capP r.cap) = true := okd_cap 35 r.cap
    have e3 : okd 36 (.tup (r.pubs.map pubP)) = true := h3
    have e4 : okd 36 (.tup parts4) = true := by decide
    show ([.int (r.a : Int), .int (r.n : Int), .tup (intsP r.h), capP r.cap, .tup (r.pubs.map pubP), .tup parts4] : List P).all (okd 36) = true
    simp only [List.all_cons, List.all_nil, Bool.and_true, e1, e2, e3, e4]
    rfl
  have e3 : okd 39 (.tup [kdP, kdP, kdP, kdP]) = true := by decide
  have e4 : okd 39 (.tup (ks.map kepE)) = true := h4
  show ([.tup (intsP c), .tup (ks.map kepE), .tup [kdP, kdP, kdP, kdP], .tup (tab m fun j => .tup ((gOf rs j).map hdrP))] : List P).all (okd 39) = true
  simp only [List.all_cons, List.all_nil, Bool.and_true, e1, e2, e3, e4]
theorem gOf_small (j : Nat) : (gOf rs j).length ≤ 1000 := Nat.le_trans (gOf_len rs j) (by have := E.rl; omega)
theorem data_eq (S : SH) : m_Store_data [.p (stoP m c ks rs)] S = some (.p (datP m c ks rs), S) := by
  have m6 := E.m6
  have kl := E.kl
  have tc : ∀ T, fTuple [.p (.lst (intsP c))] T = some (.p (.tup (intsP c)), T) := fun T => fTup_map P.int c (by have := E.cl; omega) T
  have tk := fun T => fTup_map kepE ks (by omega) T
  have t4 : ∀ T, fTuple [.p (.lst [kdP, kdP, kdP, kdP])] T = some (.p (.tup [kdP, kdP, kdP, kdP]), T) := fun T => fTuple_l (S := T) (ps := [kdP, kdP, kdP, kdP]) (small (by simp))
  have hp : ∀ (r : R5) (T : SH), fAdd false (.p (.tup [.int (r.a : Int), .int (r.n : Int), .tup (intsP r.h), capP r.cap, .tup (r.pubs.map pubP)])) (.p (.tup [.tup parts4])) T = some (.p (hdrP r), T) := fun r T => by
    exact fAdd_tt false _ _ (by simp) T
  refine fn_eq rfl rfl ?_
  simp -dsimp only [Ev_bl, Ev_some, bl_some, sel_t, sel_f, optL_some, at_dC, l_Var0, l_VarS, l_Op, l_Un, l_Test, l_And, l_Or, l_Not, l_NotV, l_AndV, l_OrV, l_IfE, at_dNil, l_Cons, l_Call, at_dNx, l_Seq, seqK_nx, seqK_ret, seqK_brk, seqK_ct, at_dBrk, at_dCt, l_Drop, l_Ret, at_dRetN, l_If, l_Set, l_Tup, l_Lst, at_dYes, l_Tru, l_Chain, l_Meth, l_BM, at_gNm, l_Asg, l_gSb, at_gNl, l_gCn, gT0, gT1, gT2, gT3, gT4, l_For, l_Wh, l_Comp, l_It, l_Rng1, l_Rng2, l_SetF, l_SlN, l_SlH, l_SlL, l_SlB, slK_i, toB_p, truD_b, wipeD, List.set_cons_zero, List.set_cons_succ, stepQ_nx, stepQ_ct, stepQ_brk, stepQ_ret, frame_p, frame_nx, live_ret, live_nx, cut_self, cut_app, newT0, newT1, newT2, newT3, newT4, newT5, newT6, newL0, newL1, newL2, newL3, newL4, newL5, newL6, src_l, src_t, fAdd_i, fSub_i, fLt_i, fLe_i, fGt_i, fGe_i, is_non, isNon_ref, isNon_non, isNon_int, isNon_str, isNon_bl, isNon_tup, isNon_lst, isNon_ins, Bool.false_eq_true, if_true, if_false, decide_true, decide_false, Bool.not_true, Bool.not_false, and_self, and_true, true_and, eq_self, startD_c, startD_n, startD_z, fndQ_nx, fndQ_ct, fndQ_ret, endQ_none, endQ_some, sp_kept]
  refine Ev_cpn (f := id) (xs := kepts) (fun _ => .p kdP) (small (by simp)) (fun x hx => ?_) ?_
  · have : x = k0P := by simpa using hx
    subst this
    simp -dsimp only [Ev_bl, Ev_some, bl_some, sel_t, sel_f, optL_some, at_dC, l_Var0, l_VarS, l_Op, l_Un, l_Test, l_And, l_Or, l_Not, l_NotV, l_AndV, l_OrV, l_IfE, at_dNil, l_Cons, l_Call, at_dNx, l_Seq, seqK_nx, seqK_ret, seqK_brk, seqK_ct, at_dBrk, at_dCt, l_Drop, l_Ret, at_dRetN, l_If, l_Set, l_Tup, l_Lst, at_dYes, l_Tru, l_Chain, l_Meth, l_BM, at_gNm, l_Asg, l_gSb, at_gNl, l_gCn, gT0, gT1, gT2, gT3, gT4, l_For, l_Wh, l_Comp, l_It, l_Rng1, l_Rng2, l_SetF, l_SlN, l_SlH, l_SlL, l_SlB, slK_i, toB_p, truD_b, wipeD, List.set_cons_zero, List.set_cons_succ, stepQ_nx, stepQ_ct, stepQ_brk, stepQ_ret, frame_p, frame_nx, live_ret, live_nx, cut_self, cut_app, newT0, newT1, newT2, newT3, newT4, newT5, newT6, newL0, newL1, newL2, newL3, newL4, newL5, newL6, src_l, src_t, fAdd_i, fSub_i, fLt_i, fLe_i, fGt_i, fGe_i, is_non, isNon_ref, isNon_non, isNon_int, isNon_str, isNon_bl, isNon_tup, isNon_lst, isNon_ins, Bool.false_eq_true, if_true, if_false, decide_true, decide_false, Bool.not_true, Bool.not_false, and_self, and_true, true_and, eq_self, startD_c, startD_n, startD_z, fndQ_nx, fndQ_ct, fndQ_ret, endQ_none, endQ_some, id, kdata_eq]
  · simp -dsimp only [Ev_bl, Ev_some, bl_some, sel_t, sel_f, optL_some, at_dC, l_Var0, l_VarS, l_Op, l_Un, l_Test, l_And, l_Or, l_Not, l_NotV, l_AndV, l_OrV, l_IfE, at_dNil, l_Cons, l_Call, at_dNx, l_Seq, seqK_nx, seqK_ret, seqK_brk, seqK_ct, at_dBrk, at_dCt, l_Drop, l_Ret, at_dRetN, l_If, l_Set, l_Tup, l_Lst, at_dYes, l_Tru, l_Chain, l_Meth, l_BM, at_gNm, l_Asg, l_gSb, at_gNl, l_gCn, gT0, gT1, gT2, gT3, gT4, l_For, l_Wh, l_Comp, l_It, l_Rng1, l_Rng2, l_SetF, l_SlN, l_SlH, l_SlL, l_SlB, slK_i, toB_p, truD_b, wipeD, List.set_cons_zero, List.set_cons_succ, stepQ_nx, stepQ_ct, stepQ_brk, stepQ_ret, frame_p, frame_nx, live_ret, live_nx, cut_self, cut_app, newT0, newT1, newT2, newT3, newT4, newT5, newT6, newL0, newL1, newL2, newL3, newL4, newL5, newL6, src_l, src_t, fAdd_i, fSub_i, fLt_i, fLe_i, fGt_i, fGe_i, is_non, isNon_ref, isNon_non, isNon_int, isNon_str, isNon_bl, isNon_tup, isNon_lst, isNon_ins, Bool.false_eq_true, if_true, if_false, decide_true, decide_false, Bool.not_true, Bool.not_false, and_self, and_true, true_and, eq_self, startD_c, startD_n, startD_z, fndQ_nx, fndQ_ct, fndQ_ret, endQ_none, endQ_some, List.map_cons, List.map_nil, sp_changes]
    refine Ev_cpn (f := fun j => P.lst ((gOf rs j).map chP)) (xs := List.range m) (fun j => .p (.tup ((gOf rs j).map hdrP))) (small (by simp; omega)) (fun j hj => ?_) ?_
    · simp -dsimp only [Ev_bl, Ev_some, bl_some, sel_t, sel_f, optL_some, at_dC, l_Var0, l_VarS, l_Op, l_Un, l_Test, l_And, l_Or, l_Not, l_NotV, l_AndV, l_OrV, l_IfE, at_dNil, l_Cons, l_Call, at_dNx, l_Seq, seqK_nx, seqK_ret, seqK_brk, seqK_ct, at_dBrk, at_dCt, l_Drop, l_Ret, at_dRetN, l_If, l_Set, l_Tup, l_Lst, at_dYes, l_Tru, l_Chain, l_Meth, l_BM, at_gNm, l_Asg, l_gSb, at_gNl, l_gCn, gT0, gT1, gT2, gT3, gT4, l_For, l_Wh, l_Comp, l_It, l_Rng1, l_Rng2, l_SetF, l_SlN, l_SlH, l_SlL, l_SlB, slK_i, toB_p, truD_b, wipeD, List.set_cons_zero, List.set_cons_succ, stepQ_nx, stepQ_ct, stepQ_brk, stepQ_ret, frame_p, frame_nx, live_ret, live_nx, cut_self, cut_app, newT0, newT1, newT2, newT3, newT4, newT5, newT6, newL0, newL1, newL2, newL3, newL4, newL5, newL6, src_l, src_t, fAdd_i, fSub_i, fLt_i, fLe_i, fGt_i, fGe_i, is_non, isNon_ref, isNon_non, isNon_int, isNon_str, isNon_bl, isNon_tup, isNon_lst, isNon_ins, Bool.false_eq_true, if_true, if_false, decide_true, decide_false, Bool.not_true, Bool.not_false, and_self, and_true, true_and, eq_self, startD_c, startD_n, startD_z, fndQ_nx, fndQ_ct, fndQ_ret, endQ_none, endQ_some]
      refine Ev_cpn (f := chP) (xs := gOf rs j) (fun r => .p (hdrP r)) (small (gOf_small E j)) (fun r hr => ?_) ?_
      · have mt : ∀ (ra : MA) (σ : En) (S : SH), methL 0 "header" m_Change_header ra σ (.p (chP r)) S = bl (ra σ S) (fun xs S2 => m_Change_header (.p (chP r) :: xs) S2) ⟨⟩ := fun ra σ S => meth_p rfl
        have hh : ∀ T, m_Change_header [.p (chP r)] T = some (.p (.tup [.int (r.a : Int), .int (r.n : Int), .tup (intsP r.h), capP r.cap, .tup (r.pubs.map pubP)]), T) := fun T => header_eq _ _ _ _ _ _ T
        simp -dsimp only [Ev_bl, Ev_some, bl_some, sel_t, sel_f, optL_some, at_dC, l_Var0, l_VarS, l_Op, l_Un, l_Test, l_And, l_Or, l_Not, l_NotV, l_AndV, l_OrV, l_IfE, at_dNil, l_Cons, l_Call, at_dNx, l_Seq, seqK_nx, seqK_ret, seqK_brk, seqK_ct, at_dBrk, at_dCt, l_Drop, l_Ret, at_dRetN, l_If, l_Set, l_Tup, l_Lst, at_dYes, l_Tru, l_Chain, l_Meth, l_BM, at_gNm, l_Asg, l_gSb, at_gNl, l_gCn, gT0, gT1, gT2, gT3, gT4, l_For, l_Wh, l_Comp, l_It, l_Rng1, l_Rng2, l_SetF, l_SlN, l_SlH, l_SlL, l_SlB, slK_i, toB_p, truD_b, wipeD, List.set_cons_zero, List.set_cons_succ, stepQ_nx, stepQ_ct, stepQ_brk, stepQ_ret, frame_p, frame_nx, live_ret, live_nx, cut_self, cut_app, newT0, newT1, newT2, newT3, newT4, newT5, newT6, newL0, newL1, newL2, newL3, newL4, newL5, newL6, src_l, src_t, fAdd_i, fSub_i, fLt_i, fLe_i, fGt_i, fGe_i, is_non, isNon_ref, isNon_non, isNon_int, isNon_str, isNon_bl, isNon_tup, isNon_lst, isNon_ins, Bool.false_eq_true, if_true, if_false, decide_true, decide_false, Bool.not_true, Bool.not_false, and_self, and_true, true_and, eq_self, startD_c, startD_n, startD_z, fndQ_nx, fndQ_ct, fndQ_ret, endQ_none, endQ_some, mt, hh, ch_parts, hp]
      · have nm := newM (S := ⟨S.os.length, S.os⟩) hdrP (gOf rs j) (small (gOf_small E j))
        have tu := fun T => fTup_map hdrP (gOf rs j) (gOf_small E j) T
        simp -dsimp only [Ev_bl, Ev_some, bl_some, sel_t, sel_f, optL_some, at_dC, l_Var0, l_VarS, l_Op, l_Un, l_Test, l_And, l_Or, l_Not, l_NotV, l_AndV, l_OrV, l_IfE, at_dNil, l_Cons, l_Call, at_dNx, l_Seq, seqK_nx, seqK_ret, seqK_brk, seqK_ct, at_dBrk, at_dCt, l_Drop, l_Ret, at_dRetN, l_If, l_Set, l_Tup, l_Lst, at_dYes, l_Tru, l_Chain, l_Meth, l_BM, at_gNm, l_Asg, l_gSb, at_gNl, l_gCn, gT0, gT1, gT2, gT3, gT4, l_For, l_Wh, l_Comp, l_It, l_Rng1, l_Rng2, l_SetF, l_SlN, l_SlH, l_SlL, l_SlB, slK_i, toB_p, truD_b, wipeD, List.set_cons_zero, List.set_cons_succ, stepQ_nx, stepQ_ct, stepQ_brk, stepQ_ret, frame_p, frame_nx, live_ret, live_nx, cut_self, cut_app, newT0, newT1, newT2, newT3, newT4, newT5, newT6, newL0, newL1, newL2, newL3, newL4, newL5, newL6, src_l, src_t, fAdd_i, fSub_i, fLt_i, fLe_i, fGt_i, fGe_i, is_non, isNon_ref, isNon_non, isNon_int, isNon_str, isNon_bl, isNon_tup, isNon_lst, isNon_ins, Bool.false_eq_true, if_true, if_false, decide_true, decide_false, Bool.not_true, Bool.not_false, and_self, and_true, true_and, eq_self, startD_c, startD_n, startD_z, fndQ_nx, fndQ_ct, fndQ_ret, endQ_none, endQ_some, nm, tu]
    · have nm := newM (S := ⟨S.os.length, S.os⟩) (fun j => P.tup ((gOf rs j).map hdrP)) (List.range m) (small (by simp; omega))
      have tu := fun T => fTup_map (fun j => P.tup ((gOf rs j).map hdrP)) (List.range m) (by simp; omega) T
      simp -dsimp only [Ev_bl, Ev_some, bl_some, sel_t, sel_f, optL_some, at_dC, l_Var0, l_VarS, l_Op, l_Un, l_Test, l_And, l_Or, l_Not, l_NotV, l_AndV, l_OrV, l_IfE, at_dNil, l_Cons, l_Call, at_dNx, l_Seq, seqK_nx, seqK_ret, seqK_brk, seqK_ct, at_dBrk, at_dCt, l_Drop, l_Ret, at_dRetN, l_If, l_Set, l_Tup, l_Lst, at_dYes, l_Tru, l_Chain, l_Meth, l_BM, at_gNm, l_Asg, l_gSb, at_gNl, l_gCn, gT0, gT1, gT2, gT3, gT4, l_For, l_Wh, l_Comp, l_It, l_Rng1, l_Rng2, l_SetF, l_SlN, l_SlH, l_SlL, l_SlB, slK_i, toB_p, truD_b, wipeD, List.set_cons_zero, List.set_cons_succ, stepQ_nx, stepQ_ct, stepQ_brk, stepQ_ret, frame_p, frame_nx, live_ret, live_nx, cut_self, cut_app, newT0, newT1, newT2, newT3, newT4, newT5, newT6, newL0, newL1, newL2, newL3, newL4, newL5, newL6, src_l, src_t, fAdd_i, fSub_i, fLt_i, fLe_i, fGt_i, fGe_i, is_non, isNon_ref, isNon_non, isNon_int, isNon_str, isNon_bl, isNon_tup, isNon_lst, isNon_ins, Bool.false_eq_true, if_true, if_false, decide_true, decide_false, Bool.not_true, Bool.not_false, and_self, and_true, true_and, eq_self, startD_c, startD_n, startD_z, fndQ_nx, fndQ_ct, fndQ_ret, endQ_none, endQ_some, nm, tu, sp_cut, sp_caps, tc, tk, t4]
      rfl
end
end Kb
namespace Kb
open PySem PySem.Spec PyProof.Rows L2 Pv
theorem range_above (k c : Nat) (h : c ≤ k) : (List.range' 1 k).filter (fun n => decide (c < n)) = List.range' (c + 1) (k - c) := by
  have e : List.range' 1 k = List.range' 1 c ++ List.range' (1 + c) (k - c) := by
    rw [List.range'_append_1]
    congr 1
    omega
  rw [e, List.filter_append, List.filter_eq_nil_iff.mpr, List.filter_eq_self.mpr, List.nil_append, Nat.add_comm]
  · intro a ha
    rw [List.mem_range'_1] at ha
    exact decide_eq_true (by omega)
  · intro a ha
    rw [List.mem_range'_1] at ha
    simp
    omega
/-- the numbers of a member in the store -/
theorem nums_kept {m : Nat} {R : List R5} (t : Told m R) {ct : List Int} (hc : CutOk m R ct) {j : Nat} (hj : j < m) : ∃ k : Nat, ct.getD j 0 = (k : Int) ∧ k ≤ cnt R j ∧ (gOf (R.filter (keepF ct)) j).map (·.n) = List.range' (k + 1) (cnt R j - k) := by
  have hg := hc.le j _ (getD_at (ds := ct) (n := j) (by rw [hc.len]; exact hj))
  refine ⟨(ct.getD j 0).toNat, by omega, by omega, ?_⟩
  unfold gOf
  rw [List.filter_filter]
  have e : (R.filter fun r => (decide (r.a = j) && keepF ct r)) = (R.filter fun r => r.a = j).filter fun r => decide ((ct.getD j 0).toNat < r.n) := by
    rw [List.filter_filter]
    apply List.filter_congr
    intro r _
    unfold keepF
    by_cases q : r.a = j
    · have : decide (ct.getD j 0 < (r.n : Int)) = decide ((ct.getD j 0).toNat < r.n) := by
        rw [Bool.eq_iff_iff, decide_eq_true_eq, decide_eq_true_eq]
        omega
      rw [q, this, Bool.and_comm]
    · rw [decide_eq_false q, Bool.false_and, Bool.and_false]
  rw [e, ← range_above _ _ (by omega), ← t.num j, List.filter_map]
  rfl
theorem KsOk.rt {R : List R5} {c : List Int} {k q : Nat} {ks : List Kep} (h : KsOk R c k q ks) (ok : ∀ r ∈ R, Ok5 r) : ∀ e ∈ ks, okz 30 e.rt = true := fun e he => by
  obtain ⟨k', p, r, _, h2, _, _, _, h6⟩ := h.src e he
  exact (ok r (List.mem_of_getElem? h2)).po _ (List.mem_of_getElem? h6)
theorem env_of {m : Nat} {R : List R5} (t : Told m R) (ok : ∀ r ∈ R, Ok5 r) (hm : m ≤ 6) (hR : R.length ≤ 12) {c : List Int} (hc : CutOk m R c) {ks ks0 : List Kep} (pm : ks.Perm ks0) (ko : KsOk R c R.length 0 ks0) (kl : ks.length ≤ 60) : Env5 m c ks (R.filter (keepF c)) where
  cl := hc.len
  m6 := hm
  al := fun r hr => t.al r (List.mem_filter.mp hr).1
  ok := fun r hr => ok r (List.mem_filter.mp hr).1
  rl := Nat.le_trans (List.length_filter_le _ _) hR
  kl := kl
  kz := fun e he => ko.rt ok e (pm.mem_iff.mp he)
  nums := fun j hj => by
    obtain ⟨k, h1, h2, h3⟩ := nums_kept t hc hj
    refine ⟨k, h1, ?_⟩
    have hl := congrArg List.length h3
    rw [List.length_map, List.length_range'] at hl
    rw [h3, hl]
/-! the spots of a world -/
def spotsOf (R : List R5) : List Spot := (R.map fun r => (List.range r.pubs.length).map fun p => (r.a, r.n, p)).flatten
theorem spots_mem {R : List R5} {r : R5} (hr : r ∈ R) {p : Nat} {x : Pub5} (hp : r.pubs[p]? = some x) : (r.a, r.n, p) ∈ spotsOf R :=
  List.mem_flatten.mpr ⟨_, List.mem_map.mpr ⟨r, hr, rfl⟩, List.mem_map.mpr ⟨p, List.mem_range.mpr (List.getElem?_eq_some_iff.mp hp).1, rfl⟩⟩
theorem spots_len0 : ∀ (R : List R5), (∀ r ∈ R, r.pubs.length ≤ 2) → (spotsOf R).length ≤ 2 * R.length
  | [], _ => by simp [spotsOf]
  | r :: R, h => by
    have ih := spots_len0 R fun q hq => h q (List.mem_cons_of_mem _ hq)
    have h0 := h r List.mem_cons_self
    have e : spotsOf (r :: R) = ((List.range r.pubs.length).map fun p => (r.a, r.n, p)) ++ spotsOf R := by simp [spotsOf]
    rw [e, List.length_append, List.length_map, List.length_range, List.length_cons]
    omega
theorem spots_len {R : List R5} (hR : R.length ≤ 12) (h : ∀ (k : Nat) (r : R5), R[k]? = some r → r.pubs.length ≤ (if k = 0 then 5 else 2)) : (spotsOf R).length ≤ 39 := by
  cases R with
  | nil => simp [spotsOf]
  | cons r R =>
    have h0 := h 0 r rfl
    have h1 := spots_len0 R fun q hq => by
      obtain ⟨i, hi, rfl⟩ := List.getElem_of_mem hq
      have := h (i + 1) R[i] (by rw [List.getElem?_cons_succ, List.getElem?_eq_getElem hi])
      simpa using this
    have e : spotsOf (r :: R) = ((List.range r.pubs.length).map fun p => (r.a, r.n, p)) ++ spotsOf R := by simp [spotsOf]
    rw [e, List.length_append, List.length_map, List.length_range]
    rw [List.length_cons] at hR
    simp at h0
    omega
theorem kfind_of {ks : List Kep} (nd : (ks.map (·.sp)).Nodup) {e : Kep} (he : e ∈ ks) : kfind ks e.sp = some e := by
  unfold kfind
  induction ks with
  | nil => cases he
  | cons x ks ih =>
    rw [List.map_cons, List.nodup_cons] at nd
    rw [List.find?_cons]
    by_cases q : x.sp = e.sp
    · rw [decide_eq_true q]
      rcases List.mem_cons.mp he with rfl | he
      · rfl
      · exact absurd (List.mem_map.mpr ⟨e, he, q.symm⟩) nd.1
    · rw [decide_eq_false q]
      rcases List.mem_cons.mp he with rfl | he
      · exact absurd rfl q
      · exact ih nd.2 he
theorem kfind_some {ks : List Kep} {s : Spot} {e : Kep} (h : kfind ks s = some e) : e ∈ ks ∧ e.sp = s := by
  unfold kfind at h
  exact ⟨List.mem_of_find?_eq_some h, by simpa using List.find?_some h⟩
theorem uni_of {R : List R5} {c : List Int} (rs : List R5) (hrs : ∀ r ∈ rs, r ∈ R) {ks ks0 : List Kep} (pm : ks.Perm ks0) (ko : KsOk R c R.length 0 ks0) (hl : (spotsOf R).length ≤ 39) : Uni ks rs (spotsOf R) := by
  have nd : (ks.map (·.sp)).Nodup := (pm.map _).nodup_iff.mpr ko.nd
  refine ⟨fun s hs => ?_, hl, ?_⟩
  · unfold inf at hs
    cases e : kfind ks s with
    | some x =>
      obtain ⟨h1, h2⟩ := kfind_some e
      obtain ⟨k', p, r, _, q2, _, q4, _, q6⟩ := ko.src x (pm.mem_iff.mp h1)
      rw [← h2, q4]
      exact spots_mem (List.mem_of_getElem? q2) q6
    | none =>
      simp only [e] at hs
      unfold linf at hs
      cases e2 : rfind rs s.1 s.2.1 with
      | none => simp only [e2] at hs; exact absurd rfl hs
      | some r =>
        simp only [e2] at hs
        obtain ⟨h1, h2, h3⟩ := rfind_some e2
        unfold ginf at hs
        cases e3 : r.pubs[s.2.2]? with
        | none => simp only [e3] at hs; exact absurd rfl hs
        | some p =>
          have := spots_mem (hrs r h1) e3
          rw [h2, h3] at this
          exact this
  · have key : ∀ (i : Nat) (e : Kep), ks0[i]? = some e → Ends (parF ks rs) (some e.sp) := by
      intro i
      induction i using Nat.strongRecOn with
      | _ i ih =>
        intro e he
        have hm : e ∈ ks := pm.mem_iff.mpr (List.mem_of_getElem? he)
        have hp : parF ks rs e.sp = some e.par := by
          show (inf ks rs e.sp).map _ = _
          unfold inf
          rw [kfind_of nd hm]
          rfl
        rcases ko.par i e he with q | ⟨j, e', hj, he', q⟩
        · exact ⟨1, [e.sp], by rw [walk_step hp, q, walk_none]; rfl⟩
        · obtain ⟨n, l, hw⟩ := ih j hj e' he'
          exact ⟨n + 1, e.sp :: l, by rw [walk_step hp, q, hw]; rfl⟩
    intro s hs
    unfold isK at hs
    obtain ⟨e, he⟩ := Option.isSome_iff_exists.mp hs
    obtain ⟨h1, h2⟩ := kfind_some he
    obtain ⟨i, hi, e'⟩ := List.getElem_of_mem (pm.mem_iff.mp h1)
    have := key i e (by rw [List.getElem?_eq_getElem hi, e'])
    rw [h2] at this
    exact this
end Kb
namespace Kb
open PySem PySem.Spec PyProof.Rows L2 Pv
theorem in_capsP (c : Option Spot) (cs : List (Option Spot)) (S : SH) : fInG false (.p (capP c)) (.p (.lst (cs.map capP))) S = some (.p (.bl (decide (c ∈ cs))), S) := by
  have h2 : (cs.map capP).all (okd 40) = true := by
    simp only [List.all_eq_true, List.mem_map]
    rintro p ⟨r, _, rfl⟩
    exact okd_cap 39 r
  have h3 : (cs.map capP).any (fun y => peq y (capP c)) = decide (c ∈ cs) := by
    rw [Bool.eq_iff_iff, List.any_eq_true, decide_eq_true_eq]
    constructor
    · rintro ⟨y, hy, e⟩
      obtain ⟨d, hd, rfl⟩ := List.mem_map.mp hy
      rw [peq_cap, decide_eq_true_eq] at e
      subst e
      exact hd
    · intro hc
      exact ⟨capP c, List.mem_map.mpr ⟨c, hc, rfl⟩, by rw [peq_cap]; exact decide_eq_true rfl⟩
  have e : fInG false (.p (capP c)) (.p (.lst (cs.map capP))) S = fIn false (.p (capP c)) (.p (.lst (cs.map capP))) S := by
    cases c <;> rfl
  rw [e]
  unfold fIn
  rw [rdP_p, rdP_p]
  dsimp only
  rw [if_pos ⟨okd_cap 39 c, h2⟩, if_neg Bool.false_ne_true, h3]
def wayIn (ks : List Kep) (rs : List R5) (a k : Option Spot) : Bool := match way ks rs k with
  | some l => decide (a ∈ l.map some ++ [none])
  | none => false
def there (ks : List Kep) (rs : List R5) (k : Option Spot) : Option Inf := match way ks rs k with
  | some _ => infO ks rs k
  | none => none
section
variable {m : Nat} {c : List Int} {ks : List Kep} {rs : List R5} (E : Env5 m c ks rs) {U : List Spot} (u : Uni ks rs U)
include E u
theorem cinfo_eq (k : Option Spot) (S : SH) : m_capability_info [.p (stoP m c ks rs), .p (capP k)] S = some (.p (oinfP (there ks rs k)), S) := by
  refine fn_eq rfl rfl ?_
  have pe := fun T => path_eq E u k T
  have oe := fun T => own_eq E k T
  cases e : way ks rs k with
  | none =>
    have et : there ks rs k = none := by unfold there; rw [e]
    simp -dsimp only [Ev_bl, Ev_some, bl_some, sel_t, sel_f, optL_some, at_dC, l_Var0, l_VarS, l_Op, l_Un, l_Test, l_And, l_Or, l_Not, l_NotV, l_AndV, l_OrV, l_IfE, at_dNil, l_Cons, l_Call, at_dNx, l_Seq, seqK_nx, seqK_ret, seqK_brk, seqK_ct, at_dBrk, at_dCt, l_Drop, l_Ret, at_dRetN, l_If, l_Set, l_Tup, l_Lst, at_dYes, l_Tru, l_Chain, l_Meth, l_BM, at_gNm, l_Asg, l_gSb, at_gNl, l_gCn, gT0, gT1, gT2, gT3, gT4, l_For, l_Wh, l_Comp, l_It, l_Rng1, l_Rng2, l_SetF, l_SlN, l_SlH, l_SlL, l_SlB, slK_i, toB_p, truD_b, wipeD, List.set_cons_zero, List.set_cons_succ, stepQ_nx, stepQ_ct, stepQ_brk, stepQ_ret, frame_p, frame_nx, live_ret, live_nx, cut_self, cut_app, newT0, newT1, newT2, newT3, newT4, newT5, newT6, newL0, newL1, newL2, newL3, newL4, newL5, newL6, src_l, src_t, fAdd_i, fSub_i, fLt_i, fLe_i, fGt_i, fGe_i, is_non, isNon_ref, isNon_non, isNon_int, isNon_str, isNon_bl, isNon_tup, isNon_lst, isNon_ins, Bool.false_eq_true, if_true, if_false, decide_true, decide_false, Bool.not_true, Bool.not_false, and_self, and_true, true_and, eq_self, startD_c, startD_n, startD_z, fndQ_nx, fndQ_ct, fndQ_ret, endQ_none, endQ_some, pe, e, pathP, et, oinfP]
  | some l =>
    have et : there ks rs k = infO ks rs k := by unfold there; rw [e]
    simp -dsimp only [Ev_bl, Ev_some, bl_some, sel_t, sel_f, optL_some, at_dC, l_Var0, l_VarS, l_Op, l_Un, l_Test, l_And, l_Or, l_Not, l_NotV, l_AndV, l_OrV, l_IfE, at_dNil, l_Cons, l_Call, at_dNx, l_Seq, seqK_nx, seqK_ret, seqK_brk, seqK_ct, at_dBrk, at_dCt, l_Drop, l_Ret, at_dRetN, l_If, l_Set, l_Tup, l_Lst, at_dYes, l_Tru, l_Chain, l_Meth, l_BM, at_gNm, l_Asg, l_gSb, at_gNl, l_gCn, gT0, gT1, gT2, gT3, gT4, l_For, l_Wh, l_Comp, l_It, l_Rng1, l_Rng2, l_SetF, l_SlN, l_SlH, l_SlL, l_SlB, slK_i, toB_p, truD_b, wipeD, List.set_cons_zero, List.set_cons_succ, stepQ_nx, stepQ_ct, stepQ_brk, stepQ_ret, frame_p, frame_nx, live_ret, live_nx, cut_self, cut_app, newT0, newT1, newT2, newT3, newT4, newT5, newT6, newL0, newL1, newL2, newL3, newL4, newL5, newL6, src_l, src_t, fAdd_i, fSub_i, fLt_i, fLe_i, fGt_i, fGe_i, is_non, isNon_ref, isNon_non, isNon_int, isNon_str, isNon_bl, isNon_tup, isNon_lst, isNon_ins, Bool.false_eq_true, if_true, if_false, decide_true, decide_false, Bool.not_true, Bool.not_false, and_self, and_true, true_and, eq_self, startD_c, startD_n, startD_z, fndQ_nx, fndQ_ct, fndQ_ret, endQ_none, endQ_some, pe, e, pathP, oe, et]
theorem above_eq (a k : Option Spot) (S : SH) : m_is_above [.p (stoP m c ks rs), .p (capP a), .p (capP k)] S = some (.p (.bl (wayIn ks rs a k)), S) := by
  refine fn_eq rfl rfl ?_
  have pe := fun T => path_eq E u k T
  cases e : way ks rs k with
  | none =>
    have et : wayIn ks rs a k = false := by unfold wayIn; rw [e]
    simp -dsimp only [Ev_bl, Ev_some, bl_some, sel_t, sel_f, optL_some, at_dC, l_Var0, l_VarS, l_Op, l_Un, l_Test, l_And, l_Or, l_Not, l_NotV, l_AndV, l_OrV, l_IfE, at_dNil, l_Cons, l_Call, at_dNx, l_Seq, seqK_nx, seqK_ret, seqK_brk, seqK_ct, at_dBrk, at_dCt, l_Drop, l_Ret, at_dRetN, l_If, l_Set, l_Tup, l_Lst, at_dYes, l_Tru, l_Chain, l_Meth, l_BM, at_gNm, l_Asg, l_gSb, at_gNl, l_gCn, gT0, gT1, gT2, gT3, gT4, l_For, l_Wh, l_Comp, l_It, l_Rng1, l_Rng2, l_SetF, l_SlN, l_SlH, l_SlL, l_SlB, slK_i, toB_p, truD_b, wipeD, List.set_cons_zero, List.set_cons_succ, stepQ_nx, stepQ_ct, stepQ_brk, stepQ_ret, frame_p, frame_nx, live_ret, live_nx, cut_self, cut_app, newT0, newT1, newT2, newT3, newT4, newT5, newT6, newL0, newL1, newL2, newL3, newL4, newL5, newL6, src_l, src_t, fAdd_i, fSub_i, fLt_i, fLe_i, fGt_i, fGe_i, is_non, isNon_ref, isNon_non, isNon_int, isNon_str, isNon_bl, isNon_tup, isNon_lst, isNon_ins, Bool.false_eq_true, if_true, if_false, decide_true, decide_false, Bool.not_true, Bool.not_false, and_self, and_true, true_and, eq_self, startD_c, startD_n, startD_z, fndQ_nx, fndQ_ct, fndQ_ret, endQ_none, endQ_some, pe, e, pathP, et]
  | some l =>
    have et : wayIn ks rs a k = decide (a ∈ l.map some ++ [none]) := by unfold wayIn; rw [e]
    simp -dsimp only [Ev_bl, Ev_some, bl_some, sel_t, sel_f, optL_some, at_dC, l_Var0, l_VarS, l_Op, l_Un, l_Test, l_And, l_Or, l_Not, l_NotV, l_AndV, l_OrV, l_IfE, at_dNil, l_Cons, l_Call, at_dNx, l_Seq, seqK_nx, seqK_ret, seqK_brk, seqK_ct, at_dBrk, at_dCt, l_Drop, l_Ret, at_dRetN, l_If, l_Set, l_Tup, l_Lst, at_dYes, l_Tru, l_Chain, l_Meth, l_BM, at_gNm, l_Asg, l_gSb, at_gNl, l_gCn, gT0, gT1, gT2, gT3, gT4, l_For, l_Wh, l_Comp, l_It, l_Rng1, l_Rng2, l_SetF, l_SlN, l_SlH, l_SlL, l_SlB, slK_i, toB_p, truD_b, wipeD, List.set_cons_zero, List.set_cons_succ, stepQ_nx, stepQ_ct, stepQ_brk, stepQ_ret, frame_p, frame_nx, live_ret, live_nx, cut_self, cut_app, newT0, newT1, newT2, newT3, newT4, newT5, newT6, newL0, newL1, newL2, newL3, newL4, newL5, newL6, src_l, src_t, fAdd_i, fSub_i, fLt_i, fLe_i, fGt_i, fGe_i, is_non, isNon_ref, isNon_non, isNon_int, isNon_str, isNon_bl, isNon_tup, isNon_lst, isNon_ins, Bool.false_eq_true, if_true, if_false, decide_true, decide_false, Bool.not_true, Bool.not_false, and_self, and_true, true_and, eq_self, startD_c, startD_n, startD_z, fndQ_nx, fndQ_ct, fndQ_ret, endQ_none, endQ_some, pe, e, pathP, capsP, in_capsP, et]
end
theorem laway_in (ks : List Kep) (rs : List R5) (a k : Option Spot) (S : SH) : fInG false (.p (capP a)) (.p (lpathP (way ks rs k))) S = some (.p (.bl (wayIn ks rs a k)), S) := by
  unfold wayIn
  cases way ks rs k with
  | none => exact in_capsP a [] S
  | some l => exact in_capsP a (l.map some ++ [none]) S
theorem cap_ix {sp : List (Option Spot)} {i : Nat} {k : Option Spot} (h : sp[i]? = some k) (S : SH) : fIx (.p (.lst (sp.map capP))) (.p (.int (i : Int))) S = some (.p (capP k), S) := fIx_l (by rw [List.getElem?_map, h]; rfl)
section
variable {m : Nat} {c : List Int} {ks : List Kep} {rs : List R5} (E : Env5 m c ks rs) {ds : List Int} (hd : ∀ d ∈ ds, 0 ≤ d ∧ d < 9973)
include E hd
theorem asked_eq (S : SH) : ∃ sp : List (Option Spot), sp.length ≤ 300 ∧ m_asked [.p (.lst (intsP ds)), .p (worldP m rs c ks)] S = some (.p (.lst (sp.map capP)), S) := by
  suffices h : Ev (m_asked [.p (.lst (intsP ds)), .p (worldP m rs c ks)] S) (fun d T => (∃ sp : List (Option Spot), sp.length ≤ 300 ∧ d = .p (.lst (sp.map capP))) ∧ T = S) ⟨⟩ by
    obtain ⟨d, ⟨sp, h1, rfl⟩, h2⟩ := Ev.ex (R := fun (d : D) (_ : SH) => ∃ sp : List (Option Spot), sp.length ≤ 300 ∧ d = .p (.lst (sp.map capP))) h
    exact ⟨sp, h1, h2⟩
  refine fn_ev rfl rfl ?_
  obtain ⟨u, hu, au⟩ := at_nat hd 9 (by omega)
  have n0 : newL true [.p .non, .p (.tup [.int 0, .int 1, .int 7]), .p (.tup [.int 5, .int 3, .int 0])] ⟨S.os.length, S.os⟩ = some (.ref S.os.length, ⟨S.os.length, S.os ++ [lpO [.non, .tup [.int 0, .int 1, .int 7], .tup [.int 5, .int 3, .int 0]]]⟩) := newL_tp S.os.length S.os [.non, .tup [.int 0, .int 1, .int 7], .tup [.int 5, .int 3, .int 0]] (by simp)
  have ty := isTy_ref (at_last S.os.length S.os (lpO [.non, .tup [.int 0, .int 1, .int 7], .tup [.int 5, .int 3, .int 0]]))
  have kl := E.kl
  have rl := E.rl
  simp -dsimp only [Ev_bl, Ev_some, bl_some, sel_t, sel_f, optL_some, at_dC, l_Var0, l_VarS, l_Op, l_Un, l_Test, l_And, l_Or, l_Not, l_NotV, l_AndV, l_OrV, l_IfE, at_dNil, l_Cons, l_Call, at_dNx, l_Seq, seqK_nx, seqK_ret, seqK_brk, seqK_ct, at_dBrk, at_dCt, l_Drop, l_Ret, at_dRetN, l_If, l_Set, l_Tup, l_Lst, at_dYes, l_Tru, l_Chain, l_Meth, l_BM, at_gNm, l_Asg, l_gSb, at_gNl, l_gCn, gT0, gT1, gT2, gT3, gT4, l_For, l_Wh, l_Comp, l_It, l_Rng1, l_Rng2, l_SetF, l_SlN, l_SlH, l_SlL, l_SlB, slK_i, toB_p, truD_b, wipeD, List.set_cons_zero, List.set_cons_succ, stepQ_nx, stepQ_ct, stepQ_brk, stepQ_ret, frame_p, frame_nx, live_ret, live_nx, cut_self, cut_app, newT0, newT1, newT2, newT3, newT4, newT5, newT6, newL0, newL1, newL2, newL3, newL4, newL5, newL6, src_l, src_t, fAdd_i, fSub_i, fLt_i, fLe_i, fGt_i, fGe_i, is_non, isNon_ref, isNon_non, isNon_int, isNon_str, isNon_bl, isNon_tup, isNon_lst, isNon_ins, Bool.false_eq_true, if_true, if_false, decide_true, decide_false, Bool.not_true, Bool.not_false, and_self, and_true, true_and, eq_self, startD_c, startD_n, startD_z, fndQ_nx, fndQ_ct, fndQ_ret, endQ_none, endQ_some, n0, ty, wx3]
  refine Ev_cpn (f := kepE) (xs := ks) (fun e => .p (spotP e.sp)) (small (by omega)) (fun e he => ?_) ?_
  · have k0 : ∀ T, fIx (.p (kepE e)) (.p (.int 0)) T = some (.p (spotP e.sp), T) := fun T => fIx_t (n := 0) rfl
    simp -dsimp only [Ev_bl, Ev_some, bl_some, sel_t, sel_f, optL_some, at_dC, l_Var0, l_VarS, l_Op, l_Un, l_Test, l_And, l_Or, l_Not, l_NotV, l_AndV, l_OrV, l_IfE, at_dNil, l_Cons, l_Call, at_dNx, l_Seq, seqK_nx, seqK_ret, seqK_brk, seqK_ct, at_dBrk, at_dCt, l_Drop, l_Ret, at_dRetN, l_If, l_Set, l_Tup, l_Lst, at_dYes, l_Tru, l_Chain, l_Meth, l_BM, at_gNm, l_Asg, l_gSb, at_gNl, l_gCn, gT0, gT1, gT2, gT3, gT4, l_For, l_Wh, l_Comp, l_It, l_Rng1, l_Rng2, l_SetF, l_SlN, l_SlH, l_SlL, l_SlB, slK_i, toB_p, truD_b, wipeD, List.set_cons_zero, List.set_cons_succ, stepQ_nx, stepQ_ct, stepQ_brk, stepQ_ret, frame_p, frame_nx, live_ret, live_nx, cut_self, cut_app, newT0, newT1, newT2, newT3, newT4, newT5, newT6, newL0, newL1, newL2, newL3, newL4, newL5, newL6, src_l, src_t, fAdd_i, fSub_i, fLt_i, fLe_i, fGt_i, fGe_i, is_non, isNon_ref, isNon_non, isNon_int, isNon_str, isNon_bl, isNon_tup, isNon_lst, isNon_ins, Bool.false_eq_true, if_true, if_false, decide_true, decide_false, Bool.not_true, Bool.not_false, and_self, and_true, true_and, eq_self, startD_c, startD_n, startD_z, fndQ_nx, fndQ_ct, fndQ_ret, endQ_none, endQ_some, k0]
  · have nm := newM (S := ⟨S.os.length, S.os ++ [lpO [.non, .tup [.int 0, .int 1, .int 7], .tup [.int 5, .int 3, .int 0]]]⟩) (fun e : Kep => spotP e.sp) ks (small (by omega))
    have ex := ext_last S.os.length S.os [.non, .tup [.int 0, .int 1, .int 7], .tup [.int 5, .int 3, .int 0]] (ks.map fun e : Kep => spotP e.sp) (by simp; omega)
    have e0 : ([.non, .tup [.int 0, .int 1, .int 7], .tup [.int 5, .int 3, .int 0]] ++ ks.map fun e : Kep => spotP e.sp : List P) = ([none, some (0, 1, 7), some (5, 3, 0)] ++ ks.map fun e : Kep => some e.sp).map capP := by
      rw [List.map_append, List.map_map]
      rfl
    rw [e0] at ex
    simp -dsimp only [Ev_bl, Ev_some, bl_some, sel_t, sel_f, optL_some, at_dC, l_Var0, l_VarS, l_Op, l_Un, l_Test, l_And, l_Or, l_Not, l_NotV, l_AndV, l_OrV, l_IfE, at_dNil, l_Cons, l_Call, at_dNx, l_Seq, seqK_nx, seqK_ret, seqK_brk, seqK_ct, at_dBrk, at_dCt, l_Drop, l_Ret, at_dRetN, l_If, l_Set, l_Tup, l_Lst, at_dYes, l_Tru, l_Chain, l_Meth, l_BM, at_gNm, l_Asg, l_gSb, at_gNl, l_gCn, gT0, gT1, gT2, gT3, gT4, l_For, l_Wh, l_Comp, l_It, l_Rng1, l_Rng2, l_SetF, l_SlN, l_SlH, l_SlL, l_SlB, slK_i, toB_p, truD_b, wipeD, List.set_cons_zero, List.set_cons_succ, stepQ_nx, stepQ_ct, stepQ_brk, stepQ_ret, frame_p, frame_nx, live_ret, live_nx, cut_self, cut_app, newT0, newT1, newT2, newT3, newT4, newT5, newT6, newL0, newL1, newL2, newL3, newL4, newL5, newL6, src_l, src_t, fAdd_i, fSub_i, fLt_i, fLe_i, fGt_i, fGe_i, is_non, isNon_ref, isNon_non, isNon_int, isNon_str, isNon_bl, isNon_tup, isNon_lst, isNon_ins, Bool.false_eq_true, if_true, if_false, decide_true, decide_false, Bool.not_true, Bool.not_false, and_self, and_true, true_and, eq_self, startD_c, startD_n, startD_z, fndQ_nx, fndQ_ct, fndQ_ret, endQ_none, endQ_some, nm, ex, wx1]
    refine Ev_pn (fun i σ T => σ = [some (.p (.lst (intsP ds))), none, some (.ref S.os.length), none, none, none, none] ∧ ∃ sp : List (Option Spot), T = ⟨S.os.length, S.os ++ [lpO (sp.map capP)]⟩ ∧ sp.length ≤ 63 + 5 * i) ⟨rfl, _, rfl, by simp; omega⟩ ?_ ?_
    · rintro i r σ T hr ⟨rfl, sp, rfl, hs⟩
      have hm := List.mem_of_getElem? hr
      have hi := (List.getElem?_eq_some_iff.mp hr).1
      have pl := (E.ok r hm).pl
      have ir : ∀ T, IsRow T (.p (row5P r)) r := fun T => .inl rfl
      have ty := isTy_ref (at_last S.os.length S.os (lpO (sp.map capP)))
      simp -dsimp only [Ev_bl, Ev_some, bl_some, sel_t, sel_f, optL_some, at_dC, l_Var0, l_VarS, l_Op, l_Un, l_Test, l_And, l_Or, l_Not, l_NotV, l_AndV, l_OrV, l_IfE, at_dNil, l_Cons, l_Call, at_dNx, l_Seq, seqK_nx, seqK_ret, seqK_brk, seqK_ct, at_dBrk, at_dCt, l_Drop, l_Ret, at_dRetN, l_If, l_Set, l_Tup, l_Lst, at_dYes, l_Tru, l_Chain, l_Meth, l_BM, at_gNm, l_Asg, l_gSb, at_gNl, l_gCn, gT0, gT1, gT2, gT3, gT4, l_For, l_Wh, l_Comp, l_It, l_Rng1, l_Rng2, l_SetF, l_SlN, l_SlH, l_SlL, l_SlB, slK_i, toB_p, truD_b, wipeD, List.set_cons_zero, List.set_cons_succ, stepQ_nx, stepQ_ct, stepQ_brk, stepQ_ret, frame_p, frame_nx, live_ret, live_nx, cut_self, cut_app, newT0, newT1, newT2, newT3, newT4, newT5, newT6, newL0, newL1, newL2, newL3, newL4, newL5, newL6, src_l, src_t, fAdd_i, fSub_i, fLt_i, fLe_i, fGt_i, fGe_i, is_non, isNon_ref, isNon_non, isNon_int, isNon_str, isNon_bl, isNon_tup, isNon_lst, isNon_ins, Bool.false_eq_true, if_true, if_false, decide_true, decide_false, Bool.not_true, Bool.not_false, and_self, and_true, true_and, eq_self, startD_c, startD_n, startD_z, fndQ_nx, fndQ_ct, fndQ_ret, endQ_none, endQ_some, ty, r5_4 (ir _), pubs_len, rng_nat r.pubs.length (by omega)]
      refine Ev_cr0 (fun p => .p (spotP (r.a, r.n, p))) (small (by omega)) (fun p hp => ?_) ?_
      · simp -dsimp only [Ev_bl, Ev_some, bl_some, sel_t, sel_f, optL_some, at_dC, l_Var0, l_VarS, l_Op, l_Un, l_Test, l_And, l_Or, l_Not, l_NotV, l_AndV, l_OrV, l_IfE, at_dNil, l_Cons, l_Call, at_dNx, l_Seq, seqK_nx, seqK_ret, seqK_brk, seqK_ct, at_dBrk, at_dCt, l_Drop, l_Ret, at_dRetN, l_If, l_Set, l_Tup, l_Lst, at_dYes, l_Tru, l_Chain, l_Meth, l_BM, at_gNm, l_Asg, l_gSb, at_gNl, l_gCn, gT0, gT1, gT2, gT3, gT4, l_For, l_Wh, l_Comp, l_It, l_Rng1, l_Rng2, l_SetF, l_SlN, l_SlH, l_SlL, l_SlB, slK_i, toB_p, truD_b, wipeD, List.set_cons_zero, List.set_cons_succ, stepQ_nx, stepQ_ct, stepQ_brk, stepQ_ret, frame_p, frame_nx, live_ret, live_nx, cut_self, cut_app, newT0, newT1, newT2, newT3, newT4, newT5, newT6, newL0, newL1, newL2, newL3, newL4, newL5, newL6, src_l, src_t, fAdd_i, fSub_i, fLt_i, fLe_i, fGt_i, fGe_i, is_non, isNon_ref, isNon_non, isNon_int, isNon_str, isNon_bl, isNon_tup, isNon_lst, isNon_ins, Bool.false_eq_true, if_true, if_false, decide_true, decide_false, Bool.not_true, Bool.not_false, and_self, and_true, true_and, eq_self, startD_c, startD_n, startD_z, fndQ_nx, fndQ_ct, fndQ_ret, endQ_none, endQ_some, r5_0 (ir _), r5_1 (ir _)]
        rfl
      · have nm := newM (S := ⟨S.os.length, S.os ++ [lpO (sp.map capP)]⟩) (fun p => spotP (r.a, r.n, p)) (List.range r.pubs.length) (small (by simp; omega))
        have ex := ext_last S.os.length S.os (sp.map capP) ((List.range r.pubs.length).map fun p => spotP (r.a, r.n, p)) (by simp; omega)
        have e0 : (sp.map capP ++ (List.range r.pubs.length).map fun p => spotP (r.a, r.n, p)) = (sp ++ (List.range r.pubs.length).map fun p => some (r.a, r.n, p)).map capP := by
          rw [List.map_append, List.map_map]
          rfl
        rw [e0] at ex
        simp -dsimp only [Ev_bl, Ev_some, bl_some, sel_t, sel_f, optL_some, at_dC, l_Var0, l_VarS, l_Op, l_Un, l_Test, l_And, l_Or, l_Not, l_NotV, l_AndV, l_OrV, l_IfE, at_dNil, l_Cons, l_Call, at_dNx, l_Seq, seqK_nx, seqK_ret, seqK_brk, seqK_ct, at_dBrk, at_dCt, l_Drop, l_Ret, at_dRetN, l_If, l_Set, l_Tup, l_Lst, at_dYes, l_Tru, l_Chain, l_Meth, l_BM, at_gNm, l_Asg, l_gSb, at_gNl, l_gCn, gT0, gT1, gT2, gT3, gT4, l_For, l_Wh, l_Comp, l_It, l_Rng1, l_Rng2, l_SetF, l_SlN, l_SlH, l_SlL, l_SlB, slK_i, toB_p, truD_b, wipeD, List.set_cons_zero, List.set_cons_succ, stepQ_nx, stepQ_ct, stepQ_brk, stepQ_ret, frame_p, frame_nx, live_ret, live_nx, cut_self, cut_app, newT0, newT1, newT2, newT3, newT4, newT5, newT6, newL0, newL1, newL2, newL3, newL4, newL5, newL6, src_l, src_t, fAdd_i, fSub_i, fLt_i, fLe_i, fGt_i, fGe_i, is_non, isNon_ref, isNon_non, isNon_int, isNon_str, isNon_bl, isNon_tup, isNon_lst, isNon_ins, Bool.false_eq_true, if_true, if_false, decide_true, decide_false, Bool.not_true, Bool.not_false, and_self, and_true, true_and, eq_self, startD_c, startD_n, startD_z, fndQ_nx, fndQ_ct, fndQ_ret, endQ_none, endQ_some, nm, ex]
        exact Hold.i ⟨rfl, _, rfl, by simp; omega⟩
    · rintro σ T ⟨rfl, sp, rfl, hs⟩
      have hs' : sp.length ≤ 123 := by omega
      have at0 : (⟨S.os.length, S.os ++ [lpO (sp.map capP)]⟩ : SH).os[S.os.length]? = some (lpO (sp.map capP)) := at_last _ _ _
      have ln := len_r at0
      rw [List.length_map, List.length_map] at ln
      by_cases h : (12 : Int) < (sp.length : Int)
      · have h1 : (0 : Int) < (sp.length : Int) - 11 := by omega
        have md := fun T => fMod_i (i := (u : Int)) h1 T
        have s1 := fSl_r at0 (by simp; omega) none (some 3)
        have s2 := fun f => fSl_r at0 (by simp; omega) (some f) (some (f + 9))
        have s3 : ∀ f, ((cutD (sp.map capP) none (some 3)) ++ (cutD (sp.map capP) (some f) (some (f + 9)))) = (cutD sp none (some 3) ++ cutD sp (some f) (some (f + 9))).map capP := fun f => by
          rw [cutD_map, cutD_map, List.map_append]
        obtain ⟨sp2, e2⟩ : ∃ sp2, sp2 = cutD sp none (some 3) ++ cutD sp (some (3 + (u : Int) % ((sp.length : Int) - 11))) (some (3 + (u : Int) % ((sp.length : Int) - 11) + 9)) := ⟨_, rfl⟩
        have l2 : sp2.length ≤ 300 := by
          have a := cutD_len sp none (some 3)
          have b := cutD_len sp (some (3 + (u : Int) % ((sp.length : Int) - 11))) (some (3 + (u : Int) % ((sp.length : Int) - 11) + 9))
          rw [e2, List.length_append]
          omega
        have nt := newL_tp S.os.length (S.os ++ [lpO (sp.map capP)]) (sp2.map capP) (by simp; omega)
        have out : frameF S (some (.ret (.ref (S.os ++ [lpO (sp.map capP)]).length), ⟨S.os.length, S.os ++ [lpO (sp.map capP)] ++ [.lst ((sp2.map capP).map D.p)]⟩)) = some (.p (.lst (sp2.map capP)), S) := by
          rw [frame_ref (ps := sp2.map capP) (by simp) (at_last S.os.length (S.os ++ [lpO (sp.map capP)]) _), List.append_assoc, cut_app]
        simp -dsimp only [Ev_bl, Ev_some, bl_some, sel_t, sel_f, optL_some, at_dC, l_Var0, l_VarS, l_Op, l_Un, l_Test, l_And, l_Or, l_Not, l_NotV, l_AndV, l_OrV, l_IfE, at_dNil, l_Cons, l_Call, at_dNx, l_Seq, seqK_nx, seqK_ret, seqK_brk, seqK_ct, at_dBrk, at_dCt, l_Drop, l_Ret, at_dRetN, l_If, l_Set, l_Tup, l_Lst, at_dYes, l_Tru, l_Chain, l_Meth, l_BM, at_gNm, l_Asg, l_gSb, at_gNl, l_gCn, gT0, gT1, gT2, gT3, gT4, l_For, l_Wh, l_Comp, l_It, l_Rng1, l_Rng2, l_SetF, l_SlN, l_SlH, l_SlL, l_SlB, slK_i, toB_p, truD_b, wipeD, List.set_cons_zero, List.set_cons_succ, stepQ_nx, stepQ_ct, stepQ_brk, stepQ_ret, frame_p, frame_nx, live_ret, live_nx, cut_self, cut_app, newT0, newT1, newT2, newT3, newT4, newT5, newT6, newL0, newL1, newL2, newL3, newL4, newL5, newL6, src_l, src_t, fAdd_i, fSub_i, fLt_i, fLe_i, fGt_i, fGe_i, is_non, isNon_ref, isNon_non, isNon_int, isNon_str, isNon_bl, isNon_tup, isNon_lst, isNon_ins, Bool.false_eq_true, if_true, if_false, decide_true, decide_false, Bool.not_true, Bool.not_false, and_self, and_true, true_and, eq_self, startD_c, startD_n, startD_z, fndQ_nx, fndQ_ct, fndQ_ret, endQ_none, endQ_some, ln, h, au, md, s1, s2, fAdd_ll, s3, ← e2, nt, out]
        exact ⟨sp2, l2, rfl⟩
      · have out := frame_lp S S.os.length (sp.map capP)
        simp -dsimp only [Ev_bl, Ev_some, bl_some, sel_t, sel_f, optL_some, at_dC, l_Var0, l_VarS, l_Op, l_Un, l_Test, l_And, l_Or, l_Not, l_NotV, l_AndV, l_OrV, l_IfE, at_dNil, l_Cons, l_Call, at_dNx, l_Seq, seqK_nx, seqK_ret, seqK_brk, seqK_ct, at_dBrk, at_dCt, l_Drop, l_Ret, at_dRetN, l_If, l_Set, l_Tup, l_Lst, at_dYes, l_Tru, l_Chain, l_Meth, l_BM, at_gNm, l_Asg, l_gSb, at_gNl, l_gCn, gT0, gT1, gT2, gT3, gT4, l_For, l_Wh, l_Comp, l_It, l_Rng1, l_Rng2, l_SetF, l_SlN, l_SlH, l_SlL, l_SlB, slK_i, toB_p, truD_b, wipeD, List.set_cons_zero, List.set_cons_succ, stepQ_nx, stepQ_ct, stepQ_brk, stepQ_ret, frame_p, frame_nx, live_ret, live_nx, cut_self, cut_app, newT0, newT1, newT2, newT3, newT4, newT5, newT6, newL0, newL1, newL2, newL3, newL4, newL5, newL6, src_l, src_t, fAdd_i, fSub_i, fLt_i, fLe_i, fGt_i, fGe_i, is_non, isNon_ref, isNon_non, isNon_int, isNon_str, isNon_bl, isNon_tup, isNon_lst, isNon_ins, Bool.false_eq_true, if_true, if_false, decide_true, decide_false, Bool.not_true, Bool.not_false, and_self, and_true, true_and, eq_self, startD_c, startD_n, startD_z, fndQ_nx, fndQ_ct, fndQ_ret, endQ_none, endQ_some, ln, h, out]
        exact ⟨sp, by omega, rfl⟩
end
end Kb
namespace Kb
open PySem PySem.Spec PyProof.Rows L2 Pv
theorem fEq_bb (neg : Bool) (a b : Bool) (S : SH) : fEq neg (.p (.bl a)) (.p (.bl b)) S = some (.p (.bl (if neg = true then !(a == b) else (a == b))), S) := by
  unfold fEq
  rw [rdP_p, rdP_p]
  dsimp only
  rw [if_pos ⟨rfl, rfl⟩]
  rfl
theorem fEq_self {x : P} (h : okd 40 x = true) (S : SH) : fEq false (.p x) (.p x) S = some (.p (.bl true), S) := by
  unfold fEq
  rw [rdP_p]
  dsimp only
  rw [if_pos ⟨h, h⟩, if_neg Bool.false_ne_true, peq_refl 40 _ h]
theorem there_some {ks : List Kep} {rs : List R5} {k : Option Spot} {l : List Spot} (h : way ks rs k = some l) : ∃ i, infO ks rs k = some i ∧ there ks rs k = some i := by
  have ht : there ks rs k = infO ks rs k := by unfold there; rw [h]
  cases k with
  | none => exact ⟨_, rfl, by rw [ht]; rfl⟩
  | some s =>
    cases e : inf ks rs s with
    | none =>
      unfold way at h
      rw [walk_stop (by show (inf ks rs s).map _ = none; rw [e]; rfl)] at h
      cases h
    | some i => exact ⟨i, e, by rw [ht]; exact e⟩
theorem okz_inf {ks : List Kep} {rs : List R5} (kz : ∀ e ∈ ks, okz 30 e.rt = true) (ok : ∀ r ∈ rs, Ok5 r) {k : Option Spot} {i : Inf} (h : infO ks rs k = some i) : okz 30 i.2.2 = true := by
  cases k with
  | none => cases h; decide
  | some s =>
    have h' : inf ks rs s = some i := h
    unfold inf at h'
    cases e : kfind ks s with
    | some x =>
      rw [e] at h'
      cases h'
      exact kz x (kfind_some e).1
    | none =>
      rw [e] at h'
      have h2 : linf rs s = some i := h'
      unfold linf at h2
      cases e2 : rfind rs s.1 s.2.1 with
      | none => simp only [e2] at h2; cases h2
      | some r =>
        simp only [e2] at h2
        unfold ginf at h2
        cases e3 : r.pubs[s.2.2]? with
        | none => simp only [e3] at h2; cases h2
        | some p =>
          simp only [e3] at h2
          cases p with
          | grant mm rt =>
            cases h2
            exact (ok r (rfind_some e2).1).po _ (List.mem_of_getElem? e3)
          | revoke cc => cases h2
          | sl => cases h2
theorem law_true (ns : List Int) (hn : ns.length ≤ 63) : m_law [.p (.lst (intsP ns))] ⟨0, []⟩ = some (.p (.bl true), ⟨0, []⟩) := by
  obtain ⟨ds, hdr, hd⟩ := draws_eq ns hn ⟨0, []⟩
  obtain ⟨u0, h0, a0⟩ := at_nat hd 0 (by omega)
  obtain ⟨u1, h1, a1⟩ := at_nat hd 1 (by omega)
  obtain ⟨u2, h2, a2⟩ := at_nat hd 2 (by omega)
  have em : 1 + (u0 : Int) % 8 % 6 = ((1 + u0 % 8 % 6 : Nat) : Int) := by omega
  obtain ⟨m, hm⟩ : ∃ m, m = 1 + u0 % 8 % 6 := ⟨_, rfl⟩
  rw [← hm] at em
  have m6 : 1 ≤ m ∧ m ≤ 6 := by omega
  have ec : (u1 : Int) % 13 = ((u1 % 13 : Nat) : Int) := by omega
  obtain ⟨R, rl, t, ok, pl, er⟩ := rows_eq hd 20 m (u1 % 13) m6 (by omega) (decide ((u2 : Int) % 2 = 0))
  obtain ⟨c, ks, ks0, hc, pm, ko, kl, ew⟩ := cutw_eq hd t ok m6 rl 300
  have er' : m_rows [.p (.lst (intsP ds)), .p (.int 20), .p (.int (m : Int)), .p (.int ((u1 % 13 : Nat) : Int)), .p (.bl (decide ((u2 : Int) % 2 = 0)))] ⟨0, []⟩ = some (.p (.lst (R.map row5P)), ⟨0, []⟩) := er
  obtain ⟨rs, hrs⟩ : ∃ rs, rs = R.filter (keepF c) := ⟨_, rfl⟩
  have ew' : m_cut_world [.p (.lst (intsP ds)), .p (.int 300), .p (.int (m : Int)), .p (.lst (R.map row5P))] ⟨0, []⟩ = some (.p (worldP m rs c ks), ⟨0, []⟩) := by rw [hrs]; exact ew
  have E : Env5 m c ks rs := by rw [hrs]; exact env_of t ok m6.2 rl hc pm ko kl
  have U : Uni ks rs (spotsOf R) := uni_of rs (fun r hr => by rw [hrs] at hr; exact (List.mem_filter.mp hr).1) pm ko (spots_len rl pl)
  have es := store_eq (m := m) (c := c) (ks := ks) (rs := rs) E.cl E.m6 (by have := E.kl; omega) E.al E.ok (by have := E.rl; omega)
  have dm : ∀ (r : MA) (σ : En) (S : SH), methL 2 "data" m_Store_data r σ (.p (stoP m c ks rs)) S = bl (r σ S) (fun xs S2 => m_Store_data (.p (stoP m c ks rs) :: xs) S2) ⟨⟩ := fun r σ S => sp_meth2 rfl
  have dt := fun S => data_eq E S
  obtain ⟨sp, sl, ea⟩ := asked_eq E hd ⟨0, []⟩
  have dk := dat_ok E
  refine fn_eq rfl rfl ?_
  simp -dsimp only [Ev_bl, Ev_some, bl_some, sel_t, sel_f, optL_some, at_dC, l_Var0, l_VarS, l_Op, l_Un, l_Test, l_And, l_Or, l_Not, l_NotV, l_AndV, l_OrV, l_IfE, at_dNil, l_Cons, l_Call, at_dNx, l_Seq, seqK_nx, seqK_ret, seqK_brk, seqK_ct, at_dBrk, at_dCt, l_Drop, l_Ret, at_dRetN, l_If, l_Set, l_Tup, l_Lst, at_dYes, l_Tru, l_Chain, l_Meth, l_BM, at_gNm, l_Asg, l_gSb, at_gNl, l_gCn, gT0, gT1, gT2, gT3, gT4, l_For, l_Wh, l_Comp, l_It, l_Rng1, l_Rng2, l_SetF, l_SlN, l_SlH, l_SlL, l_SlB, slK_i, toB_p, truD_b, wipeD, List.set_cons_zero, List.set_cons_succ, stepQ_nx, stepQ_ct, stepQ_brk, stepQ_ret, frame_p, frame_nx, live_ret, live_nx, cut_self, cut_app, newT0, newT1, newT2, newT3, newT4, newT5, newT6, newL0, newL1, newL2, newL3, newL4, newL5, newL6, src_l, src_t, fAdd_i, fSub_i, fLt_i, fLe_i, fGt_i, fGe_i, is_non, isNon_ref, isNon_non, isNon_int, isNon_str, isNon_bl, isNon_tup, isNon_lst, isNon_ins, Bool.false_eq_true, if_true, if_false, decide_true, decide_false, Bool.not_true, Bool.not_false, and_self, and_true, true_and, eq_self, startD_c, startD_n, startD_z, fndQ_nx, fndQ_ct, fndQ_ret, endQ_none, endQ_some, hdr, a0, a1, a2, mod8, mod6, mod13, mod2, em, ec, fEq_ii, er', ew', es, dm, dt, ea, List.length_nil]
  refine Ev_cpn (f := capP) (xs := sp) (fun k => .p (lpathP (way ks rs k))) (small (by omega)) (fun k hk => ?_) ?_
  · simp -dsimp only [Ev_bl, Ev_some, bl_some, sel_t, sel_f, optL_some, at_dC, l_Var0, l_VarS, l_Op, l_Un, l_Test, l_And, l_Or, l_Not, l_NotV, l_AndV, l_OrV, l_IfE, at_dNil, l_Cons, l_Call, at_dNx, l_Seq, seqK_nx, seqK_ret, seqK_brk, seqK_ct, at_dBrk, at_dCt, l_Drop, l_Ret, at_dRetN, l_If, l_Set, l_Tup, l_Lst, at_dYes, l_Tru, l_Chain, l_Meth, l_BM, at_gNm, l_Asg, l_gSb, at_gNl, l_gCn, gT0, gT1, gT2, gT3, gT4, l_For, l_Wh, l_Comp, l_It, l_Rng1, l_Rng2, l_SetF, l_SlN, l_SlH, l_SlL, l_SlB, slK_i, toB_p, truD_b, wipeD, List.set_cons_zero, List.set_cons_succ, stepQ_nx, stepQ_ct, stepQ_brk, stepQ_ret, frame_p, frame_nx, live_ret, live_nx, cut_self, cut_app, newT0, newT1, newT2, newT3, newT4, newT5, newT6, newL0, newL1, newL2, newL3, newL4, newL5, newL6, src_l, src_t, fAdd_i, fSub_i, fLt_i, fLe_i, fGt_i, fGe_i, is_non, isNon_ref, isNon_non, isNon_int, isNon_str, isNon_bl, isNon_tup, isNon_lst, isNon_ins, Bool.false_eq_true, if_true, if_false, decide_true, decide_false, Bool.not_true, Bool.not_false, and_self, and_true, true_and, eq_self, startD_c, startD_n, startD_z, fndQ_nx, fndQ_ct, fndQ_ret, endQ_none, endQ_some, lpath_eq]
  · have nm := newM (S := ⟨0, []⟩) (fun k => lpathP (way ks rs k)) sp (small (by omega))
    have ln : ∀ T, fLen [.p (.lst (sp.map capP))] T = some (.p (.int (sp.length : Int)), T) := fun T => by rw [fLen_l, List.length_map]
    simp -dsimp only [Ev_bl, Ev_some, bl_some, sel_t, sel_f, optL_some, at_dC, l_Var0, l_VarS, l_Op, l_Un, l_Test, l_And, l_Or, l_Not, l_NotV, l_AndV, l_OrV, l_IfE, at_dNil, l_Cons, l_Call, at_dNx, l_Seq, seqK_nx, seqK_ret, seqK_brk, seqK_ct, at_dBrk, at_dCt, l_Drop, l_Ret, at_dRetN, l_If, l_Set, l_Tup, l_Lst, at_dYes, l_Tru, l_Chain, l_Meth, l_BM, at_gNm, l_Asg, l_gSb, at_gNl, l_gCn, gT0, gT1, gT2, gT3, gT4, l_For, l_Wh, l_Comp, l_It, l_Rng1, l_Rng2, l_SetF, l_SlN, l_SlH, l_SlL, l_SlB, slK_i, toB_p, truD_b, wipeD, List.set_cons_zero, List.set_cons_succ, stepQ_nx, stepQ_ct, stepQ_brk, stepQ_ret, frame_p, frame_nx, live_ret, live_nx, cut_self, cut_app, newT0, newT1, newT2, newT3, newT4, newT5, newT6, newL0, newL1, newL2, newL3, newL4, newL5, newL6, src_l, src_t, fAdd_i, fSub_i, fLt_i, fLe_i, fGt_i, fGe_i, is_non, isNon_ref, isNon_non, isNon_int, isNon_str, isNon_bl, isNon_tup, isNon_lst, isNon_ins, Bool.false_eq_true, if_true, if_false, decide_true, decide_false, Bool.not_true, Bool.not_false, and_self, and_true, true_and, eq_self, startD_c, startD_n, startD_z, fndQ_nx, fndQ_ct, fndQ_ret, endQ_none, endQ_some, nm, ln, rng_nat sp.length (by omega)]
    refine Ev_rng (fun i σ T => T = ⟨0, []⟩ ∧ σ = [none, none, none, none, some (.p (worldP m rs c ks)), some (.p (stoP m c ks rs)), some (.p (datP m c ks rs)), some (.p (.lst (sp.map capP))), some (.p (.lst (sp.map fun k => lpathP (way ks rs k)))), none, none, none, none, none]) ⟨rfl, rfl⟩ ?_ ?_
    · rintro i σ T hi ⟨rfl, rfl⟩
      obtain ⟨k, hk⟩ : ∃ k, sp[i]? = some k := ⟨_, List.getElem?_eq_getElem hi⟩
      have ix1 := fun T => cap_ix hk T
      have ix2 : ∀ T, fIx (.p (.lst (sp.map fun k => lpathP (way ks rs k)))) (.p (.int (i : Int))) T = some (.p (lpathP (way ks rs k)), T) := fun T => fIx_l (by rw [List.getElem?_map, hk]; rfl)
      have rest : Ev (forL [0, 1, 2, 3, 10, 11, 12] (srcN 0 sp.length).fin (gNm 11) (dSeq (dSet 12 (dCall m_is_above (dCons (dVar 5) (dCons (dOp fIx (dVar 7) (dVar 11)) (dCons (dOp fIx (dVar 7) (dVar 9)) dNil)))))
          (dIf (dOr (dNot (dTest (dUn (fIsi ["bool"]) (dVar 12)))) (dTest (dOp (fEq true) (dVar 12) (dOp (fInG false) (dOp fIx (dVar 7) (dVar 11)) (dOp fIx (dVar 8) (dVar 9))))))
            (dRet (dC (.bl false)))
            dNx)) (srcN 0 sp.length).items [none, none, none, none, some (.p (worldP m rs c ks)), some (.p (stoP m c ks rs)), some (.p (datP m c ks rs)), some (.p (.lst (sp.map capP))), some (.p (.lst (sp.map fun k => lpathP (way ks rs k)))), some (.p (.int (i : Int))), none, none, none, none] ⟨0, []⟩)
            (fun f T => f = .nx [none, none, none, none, some (.p (worldP m rs c ks)), some (.p (stoP m c ks rs)), some (.p (datP m c ks rs)), some (.p (.lst (sp.map capP))), some (.p (.lst (sp.map fun k => lpathP (way ks rs k)))), some (.p (.int (i : Int))), none, none, none, none] ∧ T = ⟨0, []⟩) ⟨⟩ := by
        refine Ev_rng (fun j σ T => T = ⟨0, []⟩ ∧ σ = [none, none, none, none, some (.p (worldP m rs c ks)), some (.p (stoP m c ks rs)), some (.p (datP m c ks rs)), some (.p (.lst (sp.map capP))), some (.p (.lst (sp.map fun k => lpathP (way ks rs k)))), some (.p (.int (i : Int))), none, none, none, none]) ⟨rfl, rfl⟩ ?_ ?_
        · rintro j σ T hj ⟨rfl, rfl⟩
          obtain ⟨a, ha⟩ : ∃ a, sp[j]? = some a := ⟨_, List.getElem?_eq_getElem hj⟩
          have ix3 := fun T => cap_ix ha T
          have ib : ∀ b T, fIsi ["bool"] (.p (.bl b)) T = some (.p (.bl true), T) := fun b T => rfl
          simp -dsimp only [Ev_bl, Ev_some, bl_some, sel_t, sel_f, optL_some, at_dC, l_Var0, l_VarS, l_Op, l_Un, l_Test, l_And, l_Or, l_Not, l_NotV, l_AndV, l_OrV, l_IfE, at_dNil, l_Cons, l_Call, at_dNx, l_Seq, seqK_nx, seqK_ret, seqK_brk, seqK_ct, at_dBrk, at_dCt, l_Drop, l_Ret, at_dRetN, l_If, l_Set, l_Tup, l_Lst, at_dYes, l_Tru, l_Chain, l_Meth, l_BM, at_gNm, l_Asg, l_gSb, at_gNl, l_gCn, gT0, gT1, gT2, gT3, gT4, l_For, l_Wh, l_Comp, l_It, l_Rng1, l_Rng2, l_SetF, l_SlN, l_SlH, l_SlL, l_SlB, slK_i, toB_p, truD_b, wipeD, List.set_cons_zero, List.set_cons_succ, stepQ_nx, stepQ_ct, stepQ_brk, stepQ_ret, frame_p, frame_nx, live_ret, live_nx, cut_self, cut_app, newT0, newT1, newT2, newT3, newT4, newT5, newT6, newL0, newL1, newL2, newL3, newL4, newL5, newL6, src_l, src_t, fAdd_i, fSub_i, fLt_i, fLe_i, fGt_i, fGe_i, is_non, isNon_ref, isNon_non, isNon_int, isNon_str, isNon_bl, isNon_tup, isNon_lst, isNon_ins, Bool.false_eq_true, if_true, if_false, decide_true, decide_false, Bool.not_true, Bool.not_false, and_self, and_true, true_and, eq_self, startD_c, startD_n, startD_z, fndQ_nx, fndQ_ct, fndQ_ret, endQ_none, endQ_some, ix1, ix2, ix3, above_eq E U, ib, laway_in, fEq_bb, beq_self_eq_true]
          exact Hold.i ⟨rfl, rfl⟩
        · rintro σ T ⟨rfl, rfl⟩
          exact ⟨rfl, rfl⟩
      have ge := fun T => cinfo_eq E U k T
      cases e : way ks rs k with
      | none =>
        have et : there ks rs k = none := by unfold there; rw [e]
        have lz : ∀ T, fLen [.p (lpathP none)] T = some (.p (.int 0), T) := fun T => fLen_l
        have sm : ∀ T, m_same 40 [.p .non, .p .non] T = some (.p (.bl true), T) := fun T => same40 .non T rfl
        have lt0 : ¬ (0 : Int) < 0 := by omega
        simp -dsimp only [Ev_bl, Ev_some, bl_some, sel_t, sel_f, optL_some, at_dC, l_Var0, l_VarS, l_Op, l_Un, l_Test, l_And, l_Or, l_Not, l_NotV, l_AndV, l_OrV, l_IfE, at_dNil, l_Cons, l_Call, at_dNx, l_Seq, seqK_nx, seqK_ret, seqK_brk, seqK_ct, at_dBrk, at_dCt, l_Drop, l_Ret, at_dRetN, l_If, l_Set, l_Tup, l_Lst, at_dYes, l_Tru, l_Chain, l_Meth, l_BM, at_gNm, l_Asg, l_gSb, at_gNl, l_gCn, gT0, gT1, gT2, gT3, gT4, l_For, l_Wh, l_Comp, l_It, l_Rng1, l_Rng2, l_SetF, l_SlN, l_SlH, l_SlL, l_SlB, slK_i, toB_p, truD_b, wipeD, List.set_cons_zero, List.set_cons_succ, stepQ_nx, stepQ_ct, stepQ_brk, stepQ_ret, frame_p, frame_nx, live_ret, live_nx, cut_self, cut_app, newT0, newT1, newT2, newT3, newT4, newT5, newT6, newL0, newL1, newL2, newL3, newL4, newL5, newL6, src_l, src_t, fAdd_i, fSub_i, fLt_i, fLe_i, fGt_i, fGe_i, is_non, isNon_ref, isNon_non, isNon_int, isNon_str, isNon_bl, isNon_tup, isNon_lst, isNon_ins, Bool.false_eq_true, if_true, if_false, decide_true, decide_false, Bool.not_true, Bool.not_false, and_self, and_true, true_and, eq_self, startD_c, startD_n, startD_z, fndQ_nx, fndQ_ct, fndQ_ret, endQ_none, endQ_some, ix1, ix2, e, lz, lt0, ge, et, oinfP, sm, ln, rng_nat sp.length (by omega)]
        exact rest.mono fun f T h => by
          obtain ⟨rfl, rfl⟩ := h
          simp -dsimp only [Ev_bl, Ev_some, bl_some, sel_t, sel_f, optL_some, at_dC, l_Var0, l_VarS, l_Op, l_Un, l_Test, l_And, l_Or, l_Not, l_NotV, l_AndV, l_OrV, l_IfE, at_dNil, l_Cons, l_Call, at_dNx, l_Seq, seqK_nx, seqK_ret, seqK_brk, seqK_ct, at_dBrk, at_dCt, l_Drop, l_Ret, at_dRetN, l_If, l_Set, l_Tup, l_Lst, at_dYes, l_Tru, l_Chain, l_Meth, l_BM, at_gNm, l_Asg, l_gSb, at_gNl, l_gCn, gT0, gT1, gT2, gT3, gT4, l_For, l_Wh, l_Comp, l_It, l_Rng1, l_Rng2, l_SetF, l_SlN, l_SlH, l_SlL, l_SlB, slK_i, toB_p, truD_b, wipeD, List.set_cons_zero, List.set_cons_succ, stepQ_nx, stepQ_ct, stepQ_brk, stepQ_ret, frame_p, frame_nx, live_ret, live_nx, cut_self, cut_app, newT0, newT1, newT2, newT3, newT4, newT5, newT6, newL0, newL1, newL2, newL3, newL4, newL5, newL6, src_l, src_t, fAdd_i, fSub_i, fLt_i, fLe_i, fGt_i, fGe_i, is_non, isNon_ref, isNon_non, isNon_int, isNon_str, isNon_bl, isNon_tup, isNon_lst, isNon_ins, Bool.false_eq_true, if_true, if_false, decide_true, decide_false, Bool.not_true, Bool.not_false, and_self, and_true, true_and, eq_self, startD_c, startD_n, startD_z, fndQ_nx, fndQ_ct, fndQ_ret, endQ_none, endQ_some]
          exact Hold.i ⟨rfl, rfl⟩
      | some l =>
        obtain ⟨inf, e1, e2⟩ := there_some e
        have lz : ∀ T, fLen [.p (lpathP (some l))] T = some (.p (.int ((capsP l).length : Int)), T) := fun T => fLen_l
        have lt0 : (0 : Int) < ((capsP l).length : Int) := by unfold capsP; simp
        have le := fun T => linfo_eq (m := m) (c := c) (ks := ks) (rs := rs) k T
        have tl : ∀ T, fTuple [.p (infL inf)] T = some (.p (infP inf), T) := fun T => fTuple_l (S := T) (ps := [capP inf.1, .int (inf.2.1 : Int), inf.2.2]) (small (by simp))
        have sm : ∀ T, m_same 40 [.p (infP inf), .p (infP inf)] T = some (.p (.bl true), T) := fun T => same40 _ T (by
          have z := okz_inf E.kz E.ok e1
          have z1 : okz 38 inf.2.2 = true := okz_up z 8
          have z2 : okz 38 (capP inf.1) = true := cap_z 37 _
          show (decide _ && ([capP inf.1, .int (inf.2.1 : Int), inf.2.2] : List P).all (okz 38)) = true
          simp only [List.all_cons, List.all_nil, z1, z2, Bool.and_true]
          rfl)
        simp -dsimp only [Ev_bl, Ev_some, bl_some, sel_t, sel_f, optL_some, at_dC, l_Var0, l_VarS, l_Op, l_Un, l_Test, l_And, l_Or, l_Not, l_NotV, l_AndV, l_OrV, l_IfE, at_dNil, l_Cons, l_Call, at_dNx, l_Seq, seqK_nx, seqK_ret, seqK_brk, seqK_ct, at_dBrk, at_dCt, l_Drop, l_Ret, at_dRetN, l_If, l_Set, l_Tup, l_Lst, at_dYes, l_Tru, l_Chain, l_Meth, l_BM, at_gNm, l_Asg, l_gSb, at_gNl, l_gCn, gT0, gT1, gT2, gT3, gT4, l_For, l_Wh, l_Comp, l_It, l_Rng1, l_Rng2, l_SetF, l_SlN, l_SlH, l_SlL, l_SlB, slK_i, toB_p, truD_b, wipeD, List.set_cons_zero, List.set_cons_succ, stepQ_nx, stepQ_ct, stepQ_brk, stepQ_ret, frame_p, frame_nx, live_ret, live_nx, cut_self, cut_app, newT0, newT1, newT2, newT3, newT4, newT5, newT6, newL0, newL1, newL2, newL3, newL4, newL5, newL6, src_l, src_t, fAdd_i, fSub_i, fLt_i, fLe_i, fGt_i, fGe_i, is_non, isNon_ref, isNon_non, isNon_int, isNon_str, isNon_bl, isNon_tup, isNon_lst, isNon_ins, Bool.false_eq_true, if_true, if_false, decide_true, decide_false, Bool.not_true, Bool.not_false, and_self, and_true, true_and, eq_self, startD_c, startD_n, startD_z, fndQ_nx, fndQ_ct, fndQ_ret, endQ_none, endQ_some, ix1, ix2, e, lz, lt0, le, e1, oinfL, tl, ge, e2, oinfP, sm, ln, rng_nat sp.length (by omega)]
        exact rest.mono fun f T h => by
          obtain ⟨rfl, rfl⟩ := h
          simp -dsimp only [Ev_bl, Ev_some, bl_some, sel_t, sel_f, optL_some, at_dC, l_Var0, l_VarS, l_Op, l_Un, l_Test, l_And, l_Or, l_Not, l_NotV, l_AndV, l_OrV, l_IfE, at_dNil, l_Cons, l_Call, at_dNx, l_Seq, seqK_nx, seqK_ret, seqK_brk, seqK_ct, at_dBrk, at_dCt, l_Drop, l_Ret, at_dRetN, l_If, l_Set, l_Tup, l_Lst, at_dYes, l_Tru, l_Chain, l_Meth, l_BM, at_gNm, l_Asg, l_gSb, at_gNl, l_gCn, gT0, gT1, gT2, gT3, gT4, l_For, l_Wh, l_Comp, l_It, l_Rng1, l_Rng2, l_SetF, l_SlN, l_SlH, l_SlL, l_SlB, slK_i, toB_p, truD_b, wipeD, List.set_cons_zero, List.set_cons_succ, stepQ_nx, stepQ_ct, stepQ_brk, stepQ_ret, frame_p, frame_nx, live_ret, live_nx, cut_self, cut_app, newT0, newT1, newT2, newT3, newT4, newT5, newT6, newL0, newL1, newL2, newL3, newL4, newL5, newL6, src_l, src_t, fAdd_i, fSub_i, fLt_i, fLe_i, fGt_i, fGe_i, is_non, isNon_ref, isNon_non, isNon_int, isNon_str, isNon_bl, isNon_tup, isNon_lst, isNon_ins, Bool.false_eq_true, if_true, if_false, decide_true, decide_false, Bool.not_true, Bool.not_false, and_self, and_true, true_and, eq_self, startD_c, startD_n, startD_z, fndQ_nx, fndQ_ct, fndQ_ret, endQ_none, endQ_some]
          exact Hold.i ⟨rfl, rfl⟩
    · rintro σ T ⟨rfl, rfl⟩
      simp -dsimp only [Ev_bl, Ev_some, bl_some, sel_t, sel_f, optL_some, at_dC, l_Var0, l_VarS, l_Op, l_Un, l_Test, l_And, l_Or, l_Not, l_NotV, l_AndV, l_OrV, l_IfE, at_dNil, l_Cons, l_Call, at_dNx, l_Seq, seqK_nx, seqK_ret, seqK_brk, seqK_ct, at_dBrk, at_dCt, l_Drop, l_Ret, at_dRetN, l_If, l_Set, l_Tup, l_Lst, at_dYes, l_Tru, l_Chain, l_Meth, l_BM, at_gNm, l_Asg, l_gSb, at_gNl, l_gCn, gT0, gT1, gT2, gT3, gT4, l_For, l_Wh, l_Comp, l_It, l_Rng1, l_Rng2, l_SetF, l_SlN, l_SlH, l_SlL, l_SlB, slK_i, toB_p, truD_b, wipeD, List.set_cons_zero, List.set_cons_succ, stepQ_nx, stepQ_ct, stepQ_brk, stepQ_ret, frame_p, frame_nx, live_ret, live_nx, cut_self, cut_app, newT0, newT1, newT2, newT3, newT4, newT5, newT6, newL0, newL1, newL2, newL3, newL4, newL5, newL6, src_l, src_t, fAdd_i, fSub_i, fLt_i, fLe_i, fGt_i, fGe_i, is_non, isNon_ref, isNon_non, isNon_int, isNon_str, isNon_bl, isNon_tup, isNon_lst, isNon_ins, Bool.false_eq_true, if_true, if_false, decide_true, decide_false, Bool.not_true, Bool.not_false, and_self, and_true, true_and, eq_self, startD_c, startD_n, startD_z, fndQ_nx, fndQ_ct, fndQ_ret, endQ_none, endQ_some, dm, dt, fEq_self dk]
      rfl
end Kb
namespace Kb
open PySem PySem.Spec PyProof.Rows L2 Pv
def spLaw (K : PySem.W.Frag) : Sp := fun vs H Q _ => ∃ (a : Addr) (ns : List Int), vs = [V.ref a] ∧ SqL K H a (ns.map V.int) ∧ ns.length ≤ 63 ∧ ∀ H', Q (.bl true) H'
theorem law_sp {K : PySem.W.Frag} {cl : Nat → Addr} {vs : List V} {H : Hp} {Q : VK} {E : XK} (h : spLaw K vs H Q E) : spOf K cl m_law vs H Q E := by
  obtain ⟨a, ns, rfl, hs, hl, q⟩ := h
  exact law_of hs (law_true ns hl) q
end Kb
namespace Kb
open PySem PySem.Spec PyProof.Rows L2 Pv
def topS (i : Nat) : Stmt := PySem.Challenge.pw_kithbase_k05_capabilities_form_a_tree.main.body.getD i (.Pass ⟨0, 0, 0, 0⟩)
abbrev s_as_tuple : Stmt := (topS 2)
theorem sc_as_tuple : FnScope ["part"] ["part"] (defScope s_as_tuple) := ⟨rfl, rfl, rfl, by decide +kernel, rfl, by decide +kernel, by decide +kernel⟩
abbrev s_Change_init : Stmt := (inClass (topS 3) 0)
theorem sc_Change_init : FnScope ["self", "author", "number", "heard", "capability", "publics", "parts", "part"] ["self", "author", "number", "heard", "capability", "publics", "parts"] (defScope s_Change_init) := ⟨rfl, rfl, rfl, by decide +kernel, rfl, by decide +kernel, by decide +kernel⟩
abbrev s_Change_header : Stmt := (inClass (topS 3) 2)
theorem sc_Change_header : FnScope ["self"] ["self"] (defScope s_Change_header) := ⟨rfl, rfl, rfl, by decide +kernel, rfl, by decide +kernel, by decide +kernel⟩
abbrev s_kept_info : Stmt := (topS 6)
theorem sc_kept_info : FnScope ["store", "capability", "kept", "parent", "holder", "rights"] ["store", "capability"] (defScope s_kept_info) := ⟨rfl, rfl, rfl, by decide +kernel, rfl, by decide +kernel, by decide +kernel⟩
abbrev s_is_kept : Stmt := (topS 7)
theorem sc_is_kept : FnScope ["store", "capability"] ["store", "capability"] (defScope s_is_kept) := ⟨rfl, rfl, rfl, by decide +kernel, rfl, by decide +kernel, by decide +kernel⟩
abbrev s_own_info : Stmt := (topS 8)
theorem sc_own_info : FnScope ["store", "capability", "kept", "change", "act"] ["store", "capability"] (defScope s_own_info) := ⟨rfl, rfl, rfl, by decide +kernel, rfl, by decide +kernel, by decide +kernel⟩
abbrev s_path : Stmt := (topS 9)
theorem sc_path : FnScope ["store", "capability", "path", "is_there", "info"] ["store", "capability"] (defScope s_path) := ⟨rfl, rfl, rfl, by decide +kernel, rfl, by decide +kernel, by decide +kernel⟩
abbrev s_capability_info : Stmt := (topS 10)
theorem sc_capability_info : FnScope ["store", "capability"] ["store", "capability"] (defScope s_capability_info) := ⟨rfl, rfl, rfl, by decide +kernel, rfl, by decide +kernel, by decide +kernel⟩
abbrev s_is_above : Stmt := (topS 11)
theorem sc_is_above : FnScope ["store", "first", "second", "path"] ["store", "first", "second"] (defScope s_is_above) := ⟨rfl, rfl, rfl, by decide +kernel, rfl, by decide +kernel, by decide +kernel⟩
abbrev s_Kept_init : Stmt := (inClass (topS 14) 0)
theorem sc_Kept_init : FnScope ["self", "acts", "sums", "texts", "spot", "act", "cell", "total", "characters", "mark", "char"] ["self", "acts", "sums", "texts"] (defScope s_Kept_init) := ⟨rfl, rfl, rfl, by decide +kernel, rfl, by decide +kernel, by decide +kernel⟩
abbrev s_Kept_data : Stmt := (inClass (topS 14) 1)
theorem sc_Kept_data : FnScope ["self", "texts", "cell", "characters"] ["self"] (defScope s_Kept_data) := ⟨rfl, rfl, rfl, by decide +kernel, rfl, by decide +kernel, by decide +kernel⟩
abbrev s_Store_init : Stmt := (inClass (topS 15) 0)
theorem sc_Store_init : FnScope ["self", "members", "_"] ["self", "members"] (defScope s_Store_init) := ⟨rfl, rfl, rfl, by decide +kernel, rfl, by decide +kernel, by decide +kernel⟩
abbrev s_Store_find : Stmt := (inClass (topS 15) 3)
theorem sc_Store_find : FnScope ["self", "name", "author", "number", "index"] ["self", "name"] (defScope s_Store_find) := ⟨rfl, rfl, rfl, by decide +kernel, rfl, by decide +kernel, by decide +kernel⟩
abbrev s_Store_add : Stmt := (inClass (topS 15) 6)
theorem sc_Store_add : FnScope ["self", "change"] ["self", "change"] (defScope s_Store_add) := ⟨rfl, rfl, rfl, by decide +kernel, rfl, by decide +kernel, by decide +kernel⟩
abbrev s_Store_data : Stmt := (inClass (topS 15) 8)
theorem sc_Store_data : FnScope ["self", "kept", "changes", "each", "change"] ["self"] (defScope s_Store_data) := ⟨rfl, rfl, rfl, by decide +kernel, rfl, by decide +kernel, by decide +kernel⟩
abbrev s_kept_data : Stmt := (topS 16)
theorem sc_kept_data : FnScope ["kept"] ["kept"] (defScope s_kept_data) := ⟨rfl, rfl, rfl, by decide +kernel, rfl, by decide +kernel, by decide +kernel⟩
abbrev s_mix : Stmt := (topS 18)
theorem sc_mix : FnScope ["_law_cell", "_law_k", "_law_value"] ["_law_cell", "_law_k"] (defScope s_mix) := ⟨rfl, rfl, rfl, by decide +kernel, rfl, by decide +kernel, by decide +kernel⟩
abbrev s_draws : Stmt := (topS 19)
theorem sc_draws : FnScope ["_law_script", "_law_draws_here", "_law_k", "_law_cell", "_law_place"] ["_law_script"] (defScope s_draws) := ⟨rfl, rfl, rfl, by decide +kernel, rfl, by decide +kernel, by decide +kernel⟩
abbrev s_at : Stmt := (topS 20)
theorem sc_at : FnScope ["_law_draws_here", "_law_index"] ["_law_draws_here", "_law_index"] (defScope s_at) := ⟨rfl, rfl, rfl, by decide +kernel, rfl, by decide +kernel, by decide +kernel⟩
abbrev s_is_integer : Stmt := (topS 21)
theorem sc_is_integer : FnScope ["_law_actual"] ["_law_actual"] (defScope s_is_integer) := ⟨rfl, rfl, rfl, by decide +kernel, rfl, by decide +kernel, by decide +kernel⟩
abbrev s_same : Stmt := (topS 22)
theorem sc_same : FnScope ["_law_actual", "_law_expected", "_law_k"] ["_law_actual", "_law_expected"] (defScope s_same) := ⟨rfl, rfl, rfl, by decide +kernel, rfl, by decide +kernel, by decide +kernel⟩
abbrev s_full : Stmt := (topS 23)
theorem sc_full : FnScope ["_law_k"] [] (defScope s_full) := ⟨rfl, rfl, rfl, by decide +kernel, rfl, by decide +kernel, by decide +kernel⟩
abbrev s_rights : Stmt := (topS 24)
theorem sc_rights : FnScope ["_law_value", "_law_bits", "_law_rights_here", "_law_k", "_law_triple"] ["_law_value"] (defScope s_rights) := ⟨rfl, rfl, rfl, by decide +kernel, rfl, by decide +kernel, by decide +kernel⟩
abbrev s_grants : Stmt := (topS 25)
theorem sc_grants : FnScope ["_law_rows_here", "_law_grants_here", "_law_row", "_law_place"] ["_law_rows_here"] (defScope s_grants) := ⟨rfl, rfl, rfl, by decide +kernel, rfl, by decide +kernel, by decide +kernel⟩
abbrev s_choice : Stmt := (topS 26)
theorem sc_choice : FnScope ["_law_draws_here", "_law_index", "_law_rows_here", "_law_row", "_law_pick", "_law_grants_here", "_law_own", "_law_grant"] ["_law_draws_here", "_law_index", "_law_rows_here", "_law_row"] (defScope s_choice) := ⟨rfl, rfl, rfl, by decide +kernel, rfl, by decide +kernel, by decide +kernel⟩
abbrev s_publics : Stmt := (topS 27)
theorem sc_publics : FnScope ["_law_draws_here", "_law_index", "_law_rows_here", "_law_members", "_law_row", "_law_publics_here", "_law_grants_here", "_law_k", "_law_kind", "_law_pick", "_law_value"] ["_law_draws_here", "_law_index", "_law_rows_here", "_law_members", "_law_row"] (defScope s_publics) := ⟨rfl, rfl, rfl, by decide +kernel, rfl, by decide +kernel, by decide +kernel⟩
abbrev s_rows : Stmt := (topS 28)
theorem sc_rows : FnScope ["_law_draws_here", "_law_start", "_law_members", "_law_count", "_law_is_rich", "_law_seen", "_law_k", "_law_rows_here", "_law_base", "_law_author", "_law_partner", "_law_row", "_law_j", "_law_member"] ["_law_draws_here", "_law_start", "_law_members", "_law_count", "_law_is_rich"] (defScope s_rows) := ⟨rfl, rfl, rfl, by decide +kernel, rfl, by decide +kernel, by decide +kernel⟩
abbrev s_nothing : Stmt := (topS 29)
theorem sc_nothing : FnScope ["_law_k"] [] (defScope s_nothing) := ⟨rfl, rfl, rfl, by decide +kernel, rfl, by decide +kernel, by decide +kernel⟩
abbrev s_world : Stmt := (topS 30)
theorem sc_world : FnScope ["_law_members", "_law_rows_here", "_law_k"] ["_law_members", "_law_rows_here"] (defScope s_world) := ⟨rfl, rfl, rfl, by decide +kernel, rfl, by decide +kernel, by decide +kernel⟩
abbrev s_cut_world : Stmt := (topS 31)
theorem sc_cut_world : FnScope ["_law_draws_here", "_law_index", "_law_members", "_law_rows_here", "_law_world_here", "_law_last", "_law_cut", "_law_kept_here", "_law_names", "_law_k", "_law_row", "_law_place"] ["_law_draws_here", "_law_index", "_law_members", "_law_rows_here"] (defScope s_cut_world) := ⟨rfl, rfl, rfl, by decide +kernel, rfl, by decide +kernel, by decide +kernel⟩
abbrev s_kept : Stmt := (topS 32)
theorem sc_kept : FnScope ["_law_kept_here", "_law_cell", "_law_chars"] ["_law_kept_here"] (defScope s_kept) := ⟨rfl, rfl, rfl, by decide +kernel, rfl, by decide +kernel, by decide +kernel⟩
abbrev s_store : Stmt := (topS 33)
theorem sc_store : FnScope ["_law_world_here", "_law_store_here", "_law_k", "_law_space", "_law_row"] ["_law_world_here"] (defScope s_store) := ⟨rfl, rfl, rfl, by decide +kernel, rfl, by decide +kernel, by decide +kernel⟩
abbrev s_find : Stmt := (topS 34)
theorem sc_find : FnScope ["_law_world_here", "_law_name", "_law_row"] ["_law_world_here", "_law_name"] (defScope s_find) := ⟨rfl, rfl, rfl, by decide +kernel, rfl, by decide +kernel, by decide +kernel⟩
abbrev s_info : Stmt := (topS 35)
theorem sc_info : FnScope ["_law_world_here", "_law_capability", "_law_entry", "_law_row"] ["_law_world_here", "_law_capability"] (defScope s_info) := ⟨rfl, rfl, rfl, by decide +kernel, rfl, by decide +kernel, by decide +kernel⟩
abbrev s_lpath : Stmt := (topS 36)
theorem sc_lpath : FnScope ["_law_world_here", "_law_capability", "_law_path_here", "_law_k", "_law_info_here"] ["_law_world_here", "_law_capability"] (defScope s_lpath) := ⟨rfl, rfl, rfl, by decide +kernel, rfl, by decide +kernel, by decide +kernel⟩
abbrev s_asked : Stmt := (topS 37)
theorem sc_asked : FnScope ["_law_draws_here", "_law_world_here", "_law_spots", "_law_row", "_law_first", "_law_entry", "_law_place"] ["_law_draws_here", "_law_world_here"] (defScope s_asked) := ⟨rfl, rfl, rfl, by decide +kernel, rfl, by decide +kernel, by decide +kernel⟩
abbrev s_law : Stmt := (topS 38)
theorem sc_law : FnScope ["_law_script", "_law_draws_here", "_law_members", "_law_rows_here", "_law_world_here", "_law_store_here", "_law_data", "_law_spots", "_law_paths", "_law_k", "_law_expected", "_law_j", "_law_actual", "_law_spot"] ["_law_script"] (defScope s_law) := ⟨rfl, rfl, rfl, by decide +kernel, rfl, by decide +kernel, by decide +kernel⟩
theorem bt_bool : bootBuiltins "bool" = some (.type "bool") := by decide +kernel
theorem bt_int : bootBuiltins "int" = some (.type "int") := by decide +kernel
theorem bt_isinstance : bootBuiltins "isinstance" = some (.builtin "isinstance") := by decide +kernel
theorem bt_len : bootBuiltins "len" = some (.builtin "len") := by decide +kernel
theorem bt_list : bootBuiltins "list" = some (.type "list") := by decide +kernel
theorem bt_max : bootBuiltins "max" = some (.builtin "max") := by decide +kernel
theorem bt_min : bootBuiltins "min" = some (.builtin "min") := by decide +kernel
theorem bt_range : bootBuiltins "range" = some (.type "range") := by decide +kernel
theorem bt_sorted : bootBuiltins "sorted" = some (.builtin "sorted") := by decide +kernel
theorem bt_str : bootBuiltins "str" = some (.type "str") := by decide +kernel
theorem bt_tuple : bootBuiltins "tuple" = some (.type "tuple") := by decide +kernel
structure Txt (K : PySem.W.Frag) (mg : Str → Option Value) where
  c_Change : Addr
  cl_Change : Cls K c_Change
  g_Change : mg "Change" = some (.ref c_Change)
  n_Change_author : NoAttr K c_Change "author"
  n_Change_capability : NoAttr K c_Change "capability"
  n_Change_heard : NoAttr K c_Change "heard"
  n_Change_number : NoAttr K c_Change "number"
  n_Change_parts : NoAttr K c_Change "parts"
  n_Change_publics : NoAttr K c_Change "publics"
  c_Kept : Addr
  cl_Kept : Cls K c_Kept
  g_Kept : mg "Kept" = some (.ref c_Kept)
  n_Kept_acts : NoAttr K c_Kept "acts"
  n_Kept_sums : NoAttr K c_Kept "sums"
  n_Kept_texts : NoAttr K c_Kept "texts"
  c_Store : Addr
  cl_Store : Cls K c_Store
  g_Store : mg "Store" = some (.ref c_Store)
  n_Store_capabilities : NoAttr K c_Store "capabilities"
  n_Store_changes : NoAttr K c_Store "changes"
  n_Store_cut : NoAttr K c_Store "cut"
  n_Store_kept : NoAttr K c_Store "kept"
  n_Store_members : NoAttr K c_Store "members"
  a_as_tuple : Addr
  d_as_tuple : FuncData
  F_as_tuple : Fun K "_as_tuple" "_as_tuple" s_as_tuple a_as_tuple d_as_tuple
  b_as_tuple : Binds K d_as_tuple ["part"] []
  g_as_tuple : mg "_as_tuple" = some (.ref a_as_tuple)
  a_Change_init : Addr
  d_Change_init : FuncData
  F_Change_init : Fun K "__init__" "Change.__init__" s_Change_init a_Change_init d_Change_init
  b_Change_init : Binds K d_Change_init ["self", "author", "number", "heard", "capability", "publics", "parts"] []
  M_Change : Mk K c_Change a_Change_init
  a_Change_header : Addr
  d_Change_header : FuncData
  F_Change_header : Fun K "header" "Change.header" s_Change_header a_Change_header d_Change_header
  b_Change_header : Binds K d_Change_header ["self"] []
  m_Change_header : Meth K c_Change "header" a_Change_header
  a_kept_info : Addr
  d_kept_info : FuncData
  F_kept_info : Fun K "_kept_info" "_kept_info" s_kept_info a_kept_info d_kept_info
  b_kept_info : Binds K d_kept_info ["store", "capability"] []
  g_kept_info : mg "_kept_info" = some (.ref a_kept_info)
  a_is_kept : Addr
  d_is_kept : FuncData
  F_is_kept : Fun K "_is_kept" "_is_kept" s_is_kept a_is_kept d_is_kept
  b_is_kept : Binds K d_is_kept ["store", "capability"] []
  g_is_kept : mg "_is_kept" = some (.ref a_is_kept)
  a_own_info : Addr
  d_own_info : FuncData
  F_own_info : Fun K "_own_info" "_own_info" s_own_info a_own_info d_own_info
  b_own_info : Binds K d_own_info ["store", "capability"] []
  g_own_info : mg "_own_info" = some (.ref a_own_info)
  a_path : Addr
  d_path : FuncData
  F_path : Fun K "_path" "_path" s_path a_path d_path
  b_path : Binds K d_path ["store", "capability"] []
  g_path : mg "_path" = some (.ref a_path)
  a_capability_info : Addr
  d_capability_info : FuncData
  F_capability_info : Fun K "capability_info" "capability_info" s_capability_info a_capability_info d_capability_info
  b_capability_info : Binds K d_capability_info ["store", "capability"] []
  g_capability_info : mg "capability_info" = some (.ref a_capability_info)
  a_is_above : Addr
  d_is_above : FuncData
  F_is_above : Fun K "is_above" "is_above" s_is_above a_is_above d_is_above
  b_is_above : Binds K d_is_above ["store", "first", "second"] []
  g_is_above : mg "is_above" = some (.ref a_is_above)
  a_Kept_init : Addr
  d_Kept_init : FuncData
  F_Kept_init : Fun K "__init__" "Kept.__init__" s_Kept_init a_Kept_init d_Kept_init
  b_Kept_init : Binds K d_Kept_init ["self", "acts", "sums", "texts"] []
  M_Kept : Mk K c_Kept a_Kept_init
  a_Kept_data : Addr
  d_Kept_data : FuncData
  F_Kept_data : Fun K "data" "Kept.data" s_Kept_data a_Kept_data d_Kept_data
  b_Kept_data : Binds K d_Kept_data ["self"] []
  m_Kept_data : Meth K c_Kept "data" a_Kept_data
  a_Store_init : Addr
  d_Store_init : FuncData
  F_Store_init : Fun K "__init__" "Store.__init__" s_Store_init a_Store_init d_Store_init
  b_Store_init : Binds K d_Store_init ["self", "members"] []
  M_Store : Mk K c_Store a_Store_init
  a_Store_find : Addr
  d_Store_find : FuncData
  F_Store_find : Fun K "find" "Store.find" s_Store_find a_Store_find d_Store_find
  b_Store_find : Binds K d_Store_find ["self", "name"] []
  m_Store_find : Meth K c_Store "find" a_Store_find
  a_Store_add : Addr
  d_Store_add : FuncData
  F_Store_add : Fun K "add" "Store.add" s_Store_add a_Store_add d_Store_add
  b_Store_add : Binds K d_Store_add ["self", "change"] []
  m_Store_add : Meth K c_Store "add" a_Store_add
  a_Store_data : Addr
  d_Store_data : FuncData
  F_Store_data : Fun K "data" "Store.data" s_Store_data a_Store_data d_Store_data
  b_Store_data : Binds K d_Store_data ["self"] []
  m_Store_data : Meth K c_Store "data" a_Store_data
  a_kept_data : Addr
  d_kept_data : FuncData
  F_kept_data : Fun K "_kept_data" "_kept_data" s_kept_data a_kept_data d_kept_data
  b_kept_data : Binds K d_kept_data ["kept"] []
  g_kept_data : mg "_kept_data" = some (.ref a_kept_data)
  a_mix : Addr
  d_mix : FuncData
  F_mix : Fun K "_law_mix" "_law_mix" s_mix a_mix d_mix
  b_mix : Binds K d_mix ["_law_cell", "_law_k"] []
  g_mix : mg "_law_mix" = some (.ref a_mix)
  a_draws : Addr
  d_draws : FuncData
  F_draws : Fun K "_law_draws" "_law_draws" s_draws a_draws d_draws
  b_draws : Binds K d_draws ["_law_script"] []
  g_draws : mg "_law_draws" = some (.ref a_draws)
  a_at : Addr
  d_at : FuncData
  F_at : Fun K "_law_at" "_law_at" s_at a_at d_at
  b_at : Binds K d_at ["_law_draws_here", "_law_index"] []
  g_at : mg "_law_at" = some (.ref a_at)
  a_is_integer : Addr
  d_is_integer : FuncData
  F_is_integer : Fun K "_law_is_integer" "_law_is_integer" s_is_integer a_is_integer d_is_integer
  b_is_integer : Binds K d_is_integer ["_law_actual"] []
  g_is_integer : mg "_law_is_integer" = some (.ref a_is_integer)
  a_same : Addr
  d_same : FuncData
  F_same : Fun K "_law_same" "_law_same" s_same a_same d_same
  b_same : Binds K d_same ["_law_actual", "_law_expected"] []
  g_same : mg "_law_same" = some (.ref a_same)
  a_full : Addr
  d_full : FuncData
  F_full : Fun K "_law_full" "_law_full" s_full a_full d_full
  b_full : Binds K d_full [] []
  g_full : mg "_law_full" = some (.ref a_full)
  a_rights : Addr
  d_rights : FuncData
  F_rights : Fun K "_law_rights" "_law_rights" s_rights a_rights d_rights
  b_rights : Binds K d_rights ["_law_value"] []
  g_rights : mg "_law_rights" = some (.ref a_rights)
  a_grants : Addr
  d_grants : FuncData
  F_grants : Fun K "_law_grants" "_law_grants" s_grants a_grants d_grants
  b_grants : Binds K d_grants ["_law_rows_here"] []
  g_grants : mg "_law_grants" = some (.ref a_grants)
  a_choice : Addr
  d_choice : FuncData
  F_choice : Fun K "_law_choice" "_law_choice" s_choice a_choice d_choice
  b_choice : Binds K d_choice ["_law_draws_here", "_law_index", "_law_rows_here", "_law_row"] []
  g_choice : mg "_law_choice" = some (.ref a_choice)
  a_publics : Addr
  d_publics : FuncData
  F_publics : Fun K "_law_publics" "_law_publics" s_publics a_publics d_publics
  b_publics : Binds K d_publics ["_law_draws_here", "_law_index", "_law_rows_here", "_law_members", "_law_row"] []
  g_publics : mg "_law_publics" = some (.ref a_publics)
  a_rows : Addr
  d_rows : FuncData
  F_rows : Fun K "_law_rows" "_law_rows" s_rows a_rows d_rows
  b_rows : Binds K d_rows ["_law_draws_here", "_law_start", "_law_members", "_law_count", "_law_is_rich"] []
  g_rows : mg "_law_rows" = some (.ref a_rows)
  a_nothing : Addr
  d_nothing : FuncData
  F_nothing : Fun K "_law_nothing" "_law_nothing" s_nothing a_nothing d_nothing
  b_nothing : Binds K d_nothing [] []
  g_nothing : mg "_law_nothing" = some (.ref a_nothing)
  a_world : Addr
  d_world : FuncData
  F_world : Fun K "_law_world" "_law_world" s_world a_world d_world
  b_world : Binds K d_world ["_law_members", "_law_rows_here"] []
  g_world : mg "_law_world" = some (.ref a_world)
  a_cut_world : Addr
  d_cut_world : FuncData
  F_cut_world : Fun K "_law_cut_world" "_law_cut_world" s_cut_world a_cut_world d_cut_world
  b_cut_world : Binds K d_cut_world ["_law_draws_here", "_law_index", "_law_members", "_law_rows_here"] []
  g_cut_world : mg "_law_cut_world" = some (.ref a_cut_world)
  a_kept : Addr
  d_kept : FuncData
  F_kept : Fun K "_law_kept" "_law_kept" s_kept a_kept d_kept
  b_kept : Binds K d_kept ["_law_kept_here"] []
  g_kept : mg "_law_kept" = some (.ref a_kept)
  a_store : Addr
  d_store : FuncData
  F_store : Fun K "_law_store" "_law_store" s_store a_store d_store
  b_store : Binds K d_store ["_law_world_here"] []
  g_store : mg "_law_store" = some (.ref a_store)
  a_find : Addr
  d_find : FuncData
  F_find : Fun K "_law_find" "_law_find" s_find a_find d_find
  b_find : Binds K d_find ["_law_world_here", "_law_name"] []
  g_find : mg "_law_find" = some (.ref a_find)
  a_info : Addr
  d_info : FuncData
  F_info : Fun K "_law_info" "_law_info" s_info a_info d_info
  b_info : Binds K d_info ["_law_world_here", "_law_capability"] []
  g_info : mg "_law_info" = some (.ref a_info)
  a_lpath : Addr
  d_lpath : FuncData
  F_lpath : Fun K "_law_path" "_law_path" s_lpath a_lpath d_lpath
  b_lpath : Binds K d_lpath ["_law_world_here", "_law_capability"] []
  g_lpath : mg "_law_path" = some (.ref a_lpath)
  a_asked : Addr
  d_asked : FuncData
  F_asked : Fun K "_law_asked" "_law_asked" s_asked a_asked d_asked
  b_asked : Binds K d_asked ["_law_draws_here", "_law_world_here"] []
  g_asked : mg "_law_asked" = some (.ref a_asked)
  a_law : Addr
  d_law : FuncData
  F_law : Fun K "law" "law" s_law a_law d_law
  b_law : Binds K d_law ["_law_script"] []
  g_law : mg "law" = some (.ref a_law)
  z_bool : mg "bool" = none
  z_int : mg "int" = none
  z_isinstance : mg "isinstance" = none
  z_len : mg "len" = none
  z_list : mg "list" = none
  z_max : mg "max" = none
  z_min : mg "min" = none
  z_range : mg "range" = none
  z_sorted : mg "sorted" = none
  z_str : mg "str" = none
  z_tuple : mg "tuple" = none
  v_ALLRIGHTS : V
  u_ALLRIGHTS : Value
  g_ALLRIGHTS : mg "ALL_RIGHTS" = some u_ALLRIGHTS
  r_ALLRIGHTS : RelV v_ALLRIGHTS u_ALLRIGHTS
  q_ALLRIGHTS : ∀ (F : Hp) (cl : Nat → Addr), Rp K cl F Kb.u_ALLRIGHTS v_ALLRIGHTS
  t_ALLRIGHTS : TupC K v_ALLRIGHTS
  v_SPACES : V
  u_SPACES : Value
  g_SPACES : mg "SPACES" = some u_SPACES
  r_SPACES : RelV v_SPACES u_SPACES
  q_SPACES : ∀ (F : Hp) (cl : Nat → Addr), Rp K cl F Kb.u_SPACES v_SPACES
def Txt.cl {K : PySem.W.Frag} {mg : Str → Option Value} (T : Txt K mg) : Nat → Addr
  | 0 => T.c_Change
  | 1 => T.c_Kept
  | 2 => T.c_Store
  | _ => 0
section
variable {P : Program} {w : World} {K : PySem.W.Frag} {mg : Str → Option Value} {base : Heap}
theorem ok_as_tuple (T : Txt K mg) : FnOk P w K mg base CX0 1 T.a_as_tuple T.d_as_tuple ["part"] (spOf K T.cl m_as_tuple) :=
  fn_ok T.F_as_tuple sc_as_tuple fun cdv A outer s H E hr => (s_cons (s_if (t_cmp d_is o_is (k_var 0) k_non (nomark _))
      (s_one (s_ret k_non))
      s_nil)
    (s_one (s_ret (k_callT d_tuple c_tuple (by rfl) T.z_tuple bt_tuple (a_cons (k_var 0) a_nil)))))
theorem ok_Change_init (T : Txt K mg) : FnOk P w K mg base CX0 2 T.a_Change_init T.d_Change_init ["self", "author", "number", "heard", "capability", "publics", "parts"] (spOf K T.cl m_Change_init) :=
  fnL_ok T.F_Change_init sc_Change_init fun cdv A outer s H E hr => (s_cons (s_fld (cs_cons ⟨T.cl_Change, T.n_Change_author⟩ cs_nil) (k_var 0) (k_var 1))
    (s_cons (s_fld (cs_cons ⟨T.cl_Change, T.n_Change_number⟩ cs_nil) (k_var 0) (k_var 2))
    (s_cons (s_fld (cs_cons ⟨T.cl_Change, T.n_Change_heard⟩ cs_nil) (k_var 0) (k_callT d_tuple c_tuple (by rfl) T.z_tuple bt_tuple (a_cons (k_var 3) a_nil)))
    (s_cons (s_fld (cs_cons ⟨T.cl_Change, T.n_Change_capability⟩ cs_nil) (k_var 0) (k_var 4))
    (s_cons (s_fld (cs_cons ⟨T.cl_Change, T.n_Change_publics⟩ cs_nil) (k_var 0) (k_callT d_tuple c_tuple (by rfl) T.z_tuple bt_tuple (a_cons (k_var 5) a_nil)))
    (s_one (s_fld (cs_cons ⟨T.cl_Change, T.n_Change_parts⟩ cs_nil) (k_var 0) (k_callT d_tuple c_tuple (by rfl) T.z_tuple bt_tuple (a_cons (k_comp (own := [("part", 7)]) (live := false) rfl sc_Change_init.nd (pi_any (k_var 6)) (blkOk_by (own := [("part", 7)]) (N := ["self", "author", "number", "heard", "capability", "publics", "parts", "part"]) (sc := defScope s_Change_init) (by decide +kernel)) (fun _ _ _ _ _ => (g_name (i := 7) sc_Change_init.nd rfl (.inl rfl))) (fun _ _ _ _ _ => ts_nil) (fun _ _ _ _ _ => (k_call (ok_as_tuple T) (hr.mono (by first | decide | omega)) (by rfl) T.g_as_tuple T.F_as_tuple.kp T.b_as_tuple pass0 (a_cons (k_var 7) a_nil)))) a_nil)))))))))
theorem ok_Change_header (T : Txt K mg) : FnOk P w K mg base CX0 1 T.a_Change_header T.d_Change_header ["self"] (spOf K T.cl m_Change_header) :=
  fn_ok T.F_Change_header sc_Change_header fun cdv A outer s H E hr => (s_one (s_ret (k_tup (a_cons (k_fld (cs_cons ⟨T.cl_Change, T.n_Change_author⟩ cs_nil) (k_var 0)) (a_cons (k_fld (cs_cons ⟨T.cl_Change, T.n_Change_number⟩ cs_nil) (k_var 0)) (a_cons (k_fld (cs_cons ⟨T.cl_Change, T.n_Change_heard⟩ cs_nil) (k_var 0)) (a_cons (k_fld (cs_cons ⟨T.cl_Change, T.n_Change_capability⟩ cs_nil) (k_var 0)) (a_cons (k_fld (cs_cons ⟨T.cl_Change, T.n_Change_publics⟩ cs_nil) (k_var 0)) a_nil))))))))
theorem ok_kept_info (T : Txt K mg) : FnOk P w K mg base CX0 1 T.a_kept_info T.d_kept_info ["store", "capability"] (spOf K T.cl m_kept_info) :=
  fn_ok T.F_kept_info sc_kept_info fun cdv A outer s H E hr => (s_cons (s_for PassesOwn.never rfl (pi_any (k_fld (cs_cons ⟨T.cl_Store, T.n_Store_capabilities⟩ cs_nil) (k_var 0))) (g_tup rfl (gs_cons (g_name (i := 2) sc_kept_info.nd rfl (.inl rfl)) (gs_cons (g_name (i := 3) sc_kept_info.nd rfl (.inl rfl)) (gs_cons (g_name (i := 4) sc_kept_info.nd rfl (.inl rfl)) (gs_cons (g_name (i := 5) sc_kept_info.nd rfl (.inl rfl)) gs_nil)))))
      (s_one (s_if (t_cmp d_eq (o_eq hr.units) (k_var 2) (k_var 1) (nomark _))
      (s_one (s_ret (k_tup (a_cons (k_var 3) (a_cons (k_var 4) (a_cons (k_var 5) a_nil))))))
      s_nil)))
    (s_one (s_ret k_non)))
theorem ok_is_kept (T : Txt K mg) : FnOk P w K mg base CX0 2 T.a_is_kept T.d_is_kept ["store", "capability"] (spOf K T.cl m_is_kept) :=
  fn_ok T.F_is_kept sc_is_kept fun cdv A outer s H E hr => (s_one (s_ret (k_cmp d_is o_isnot (k_call (ok_kept_info T) (hr.mono (by first | decide | omega)) (by rfl) T.g_kept_info T.F_kept_info.kp T.b_kept_info pass0 (a_cons (k_var 0) (a_cons (k_var 1) a_nil))) k_non (nomark _))))
theorem ok_Store_find (T : Txt K mg) : FnOk P w K mg base CX0 1 T.a_Store_find T.d_Store_find ["self", "name"] (spOf K T.cl m_Store_find) :=
  fn_ok T.F_Store_find sc_Store_find fun cdv A outer s H E hr => (s_cons (s_asg (k_var 1) (g_tup rfl (gs_cons (g_name (i := 2) sc_Store_find.nd rfl (.inl rfl)) (gs_cons (g_name (i := 3) sc_Store_find.nd rfl (.inl rfl)) gs_nil))))
    (s_cons (s_if (t_not (t_chain d_le d_lt op_le op_lt k_int (k_var 2) (k_fld (cs_cons ⟨T.cl_Store, T.n_Store_members⟩ cs_nil) (k_var 0))))
      (s_one (s_ret k_non))
      s_nil)
    (s_cons (s_set (i := 4) sc_Store_find.nd rfl (.inl rfl) (k_op d_sub op_sub (k_op d_sub op_sub (k_var 3) (k_ix (k_fld (cs_cons ⟨T.cl_Store, T.n_Store_cut⟩ cs_nil) (k_var 0)) (k_var 2))) k_int))
    (s_cons (s_if (t_chain d_le d_lt op_le op_lt k_int (k_var 4) (k_callB d_len c_len (by rfl) T.z_len bt_len (a_cons (k_ix (k_fld (cs_cons ⟨T.cl_Store, T.n_Store_changes⟩ cs_nil) (k_var 0)) (k_var 2)) a_nil)))
      (s_one (s_ret (k_ix (k_ix (k_fld (cs_cons ⟨T.cl_Store, T.n_Store_changes⟩ cs_nil) (k_var 0)) (k_var 2)) (k_var 4))))
      s_nil)
    (s_one (s_ret k_non))))))
theorem ok_own_info (T : Txt K mg) : FnOk P w K mg base CX0 2 T.a_own_info T.d_own_info ["store", "capability"] (spOf K T.cl m_own_info) :=
  fn_ok T.F_own_info sc_own_info fun cdv A outer s H E hr => (s_cons (s_if (t_cmp d_is o_is (k_var 1) k_non (nomark _))
      (s_one (s_ret (k_tup (a_cons k_non (a_cons k_int (a_cons (k_glob (by rfl) T.g_ALLRIGHTS T.r_ALLRIGHTS (fun F => T.q_ALLRIGHTS F T.cl)) a_nil))))))
      s_nil)
    (s_cons (s_set (i := 2) sc_own_info.nd rfl (.inl rfl) (k_call (ok_kept_info T) (hr.mono (by first | decide | omega)) (by rfl) T.g_kept_info T.F_kept_info.kp T.b_kept_info pass0 (a_cons (k_var 0) (a_cons (k_var 1) a_nil))))
    (s_cons (s_if (t_cmp d_is o_isnot (k_var 2) k_non (nomark _))
      (s_one (s_ret (k_var 2)))
      s_nil)
    (s_cons (s_set (i := 3) sc_own_info.nd rfl (.inl rfl) (k_meth (c := 2) (k_var 0) T.cl_Store T.m_Store_find (ok_Store_find T) (hr.mono (by first | decide | omega)) T.b_Store_find pass0 (a_cons (k_sl (live := false) (k_var 1) o_none (o_some k_int)) a_nil)))
    (s_cons (s_if (PW.pt (w_or (t_cmp d_is o_is (k_var 3) k_non (nomark _)) (w_or1 (t_not (t_chain d_le d_lt op_le op_lt k_int (k_ix (k_var 1) k_int) (k_callB d_len c_len (by rfl) T.z_len bt_len (a_cons (k_fld (cs_cons ⟨T.cl_Change, T.n_Change_publics⟩ cs_nil) (k_var 3)) a_nil)))))))
      (s_one (s_ret k_non))
      s_nil)
    (s_cons (s_set (i := 4) sc_own_info.nd rfl (.inl rfl) (k_ix (k_fld (cs_cons ⟨T.cl_Change, T.n_Change_publics⟩ cs_nil) (k_var 3)) (k_ix (k_var 1) k_int)))
    (s_cons (s_if (t_cmp d_eq (o_ne hr.units) (k_ix (k_var 4) k_int) k_str (nomark _))
      (s_one (s_ret k_non))
      s_nil)
    (s_one (s_ret (k_tup (a_cons (k_fld (cs_cons ⟨T.cl_Change, T.n_Change_capability⟩ cs_nil) (k_var 3)) (a_cons (k_ix (k_var 4) k_int) (a_cons (k_ix (k_var 4) k_int) a_nil)))))))))))))
theorem ok_path (T : Txt K mg) : FnOk P w K mg base CX0 3 T.a_path T.d_path ["store", "capability"] (spOf K T.cl m_path) :=
  fn_ok T.F_path sc_path fun cdv A outer s H E hr => (s_cons (s_set (i := 2) sc_path.nd rfl (.inl rfl) (k_lst (live := true) a_nil))
    (s_cons (s_set (i := 3) sc_path.nd rfl (.inl rfl) k_bl)
    (s_cons (s_while PassesOwn.never (t_cmp d_is o_isnot (k_var 1) k_non (nomark _))
      (s_cons (s_set (i := 4) sc_path.nd rfl (.inl rfl) (k_call (ok_own_info T) (hr.mono (by first | decide | omega)) (by rfl) T.g_own_info T.F_own_info.kp T.b_own_info pass0 (a_cons (k_var 0) (a_cons (k_var 1) a_nil))))
    (s_cons (s_if (PW.pt (w_or (t_cmp d_is o_is (k_var 4) k_non (nomark _)) (w_or1 (t_cmp d_inG (o_inG (u65 hr)) (k_var 1) (k_var 2) (by rfl)))))
      (s_one (s_ret (k_if (t_val (k_var 3)) (k_var 2) k_non)))
      s_nil)
    (s_cons (s_set (i := 3) sc_path.nd rfl (.inl rfl) (k_or (k_var 3) (k_one (k_call (ok_is_kept T) (hr.mono (by first | decide | omega)) (by rfl) T.g_is_kept T.F_is_kept.kp T.b_is_kept pass0 (a_cons (k_var 0) (a_cons (k_var 1) a_nil))))))
    (s_cons (s_drop (k_bm d_app PySem.F.plainAttrs_list PySem.F.slot_list_append PySem.F.type_list_append mt_append (k_var 2) (a_cons (k_var 1) a_nil)))
    (s_one (s_set (i := 1) sc_path.nd rfl (.inl rfl) (k_ix (k_var 4) k_int))))))))
    (s_one (s_ret (k_op d_add o_add (k_var 2) (k_lst (live := false) (a_cons k_non a_nil))))))))
theorem ok_capability_info (T : Txt K mg) : FnOk P w K mg base CX0 4 T.a_capability_info T.d_capability_info ["store", "capability"] (spOf K T.cl m_capability_info) :=
  fn_ok T.F_capability_info sc_capability_info fun cdv A outer s H E hr => (s_cons (s_if (t_cmp d_is o_is (k_call (ok_path T) (hr.mono (by first | decide | omega)) (by rfl) T.g_path T.F_path.kp T.b_path pass0 (a_cons (k_var 0) (a_cons (k_var 1) a_nil))) k_non (nomark _))
      (s_one (s_ret k_non))
      s_nil)
    (s_one (s_ret (k_call (ok_own_info T) (hr.mono (by first | decide | omega)) (by rfl) T.g_own_info T.F_own_info.kp T.b_own_info pass0 (a_cons (k_var 0) (a_cons (k_var 1) a_nil))))))
theorem ok_is_above (T : Txt K mg) : FnOk P w K mg base CX0 4 T.a_is_above T.d_is_above ["store", "first", "second"] (spOf K T.cl m_is_above) :=
  fn_ok T.F_is_above sc_is_above fun cdv A outer s H E hr => (s_cons (s_set (i := 3) sc_is_above.nd rfl (.inl rfl) (k_call (ok_path T) (hr.mono (by first | decide | omega)) (by rfl) T.g_path T.F_path.kp T.b_path pass0 (a_cons (k_var 0) (a_cons (k_var 2) a_nil))))
    (s_one (s_ret (k_and (k_cmp d_is o_isnot (k_var 3) k_non (nomark _)) (k_one (k_cmp d_inG (o_inG (u65 hr)) (k_var 1) (k_var 3) (by rfl)))))))
theorem ok_Kept_init (T : Txt K mg) : FnOk P w K mg base CX0 1 T.a_Kept_init T.d_Kept_init ["self", "acts", "sums", "texts"] (spOf K T.cl m_Kept_init) :=
  fnL_ok T.F_Kept_init sc_Kept_init fun cdv A outer s H E hr => (s_cons (s_fld (cs_cons ⟨T.cl_Kept, T.n_Kept_acts⟩ cs_nil) (k_var 0) (k_comp (own := [("spot", 4), ("act", 5)]) (live := false) rfl sc_Kept_init.nd (pi_any (k_var 1)) (blkOk_by (own := [("spot", 4), ("act", 5)]) (N := ["self", "acts", "sums", "texts", "spot", "act", "cell", "total", "characters", "mark", "char"]) (sc := defScope s_Kept_init) (by decide +kernel)) (fun _ _ _ _ _ => (g_tup rfl (gs_cons (g_name (i := 4) sc_Kept_init.nd rfl (.inl rfl)) (gs_cons (g_name (i := 5) sc_Kept_init.nd rfl (.inl rfl)) gs_nil)))) (fun _ _ _ _ _ => ts_nil) (fun _ _ _ _ _ => (k_tup (a_cons (k_var 4) (a_cons (k_var 5) a_nil))))))
    (s_cons (s_fld (cs_cons ⟨T.cl_Kept, T.n_Kept_sums⟩ cs_nil) (k_var 0) (k_comp (own := [("cell", 6), ("total", 7)]) (live := false) rfl sc_Kept_init.nd (pi_any (k_var 2)) (blkOk_by (own := [("cell", 6), ("total", 7)]) (N := ["self", "acts", "sums", "texts", "spot", "act", "cell", "total", "characters", "mark", "char"]) (sc := defScope s_Kept_init) (by decide +kernel)) (fun _ _ _ _ _ => (g_tup rfl (gs_cons (g_name (i := 6) sc_Kept_init.nd rfl (.inl rfl)) (gs_cons (g_name (i := 7) sc_Kept_init.nd rfl (.inl rfl)) gs_nil)))) (fun _ _ _ _ _ => ts_nil) (fun _ _ _ _ _ => (k_tup (a_cons (k_var 6) (a_cons (k_var 7) a_nil))))))
    (s_one (s_fld (cs_cons ⟨T.cl_Kept, T.n_Kept_texts⟩ cs_nil) (k_var 0) (k_comp (own := [("cell", 6), ("characters", 8)]) (live := false) rfl sc_Kept_init.nd (pi_any (k_var 3)) (blkOk_by (own := [("cell", 6), ("characters", 8)]) (N := ["self", "acts", "sums", "texts", "spot", "act", "cell", "total", "characters", "mark", "char"]) (sc := defScope s_Kept_init) (by decide +kernel)) (fun _ _ _ _ _ => (g_tup rfl (gs_cons (g_name (i := 6) sc_Kept_init.nd rfl (.inl rfl)) (gs_cons (g_name (i := 8) sc_Kept_init.nd rfl (.inl rfl)) gs_nil)))) (fun _ _ _ _ _ => ts_nil) (fun _ _ _ _ _ => (k_tup (a_cons (k_var 6) (a_cons (k_comp (own := [("mark", 9), ("char", 10)]) (live := false) rfl sc_Kept_init.nd (pi_any (k_var 8)) (blkOk_by (own := [("mark", 9), ("char", 10)]) (N := ["self", "acts", "sums", "texts", "spot", "act", "cell", "total", "characters", "mark", "char"]) (sc := ({ kind := .function, names := [(PySem.Str.ofString ".0", .local), (PySem.Str.ofString "cell", .local), (PySem.Str.ofString "characters", .local)], isGenerator := false, isCoroutine := false } : Scope)) (by decide +kernel)) (fun _ _ _ _ _ => (g_tup rfl (gs_cons (g_name (i := 9) sc_Kept_init.nd rfl (.inl rfl)) (gs_cons (g_name (i := 10) sc_Kept_init.nd rfl (.inl rfl)) gs_nil)))) (fun _ _ _ _ _ => ts_nil) (fun _ _ _ _ _ => (k_tup (a_cons (k_var 9) (a_cons (k_var 10) a_nil))))) a_nil)))))))))
theorem ok_Kept_data (T : Txt K mg) : FnOk P w K mg base CX0 1 T.a_Kept_data T.d_Kept_data ["self"] (spOf K T.cl m_Kept_data) :=
  fn_ok T.F_Kept_data sc_Kept_data fun cdv A outer s H E hr => (s_cons (s_setComp (i := 1) (own := [("cell", 2), ("characters", 3)]) (live := false) rfl sc_Kept_data.nd rfl rfl (sw_true rfl rfl rfl (by decide +kernel)) (pi_any (k_fld (cs_cons ⟨T.cl_Kept, T.n_Kept_texts⟩ cs_nil) (k_var 0))) (blkOk_by (own := [("cell", 2), ("characters", 3)]) (N := ["self", "texts", "cell", "characters"]) (sc := defScope s_Kept_data) (by decide +kernel)) (fun _ _ _ _ _ => (g_tup rfl (gs_cons (g_name (i := 2) sc_Kept_data.nd rfl (.inl rfl)) (gs_cons (g_name (i := 3) sc_Kept_data.nd rfl (.inl rfl)) gs_nil)))) (fun _ _ _ _ _ => ts_nil) (fun _ _ _ _ _ => (k_tup (a_cons (k_var 2) (a_cons (k_callT d_tuple c_tuple (by rfl) T.z_tuple bt_tuple (a_cons (k_var 3) a_nil)) a_nil)))))
    (s_one (s_ret (k_tup (a_cons (k_callT d_tuple c_tuple (by rfl) T.z_tuple bt_tuple (a_cons (k_fld (cs_cons ⟨T.cl_Kept, T.n_Kept_acts⟩ cs_nil) (k_var 0)) a_nil)) (a_cons (k_callT d_tuple c_tuple (by rfl) T.z_tuple bt_tuple (a_cons (k_fld (cs_cons ⟨T.cl_Kept, T.n_Kept_sums⟩ cs_nil) (k_var 0)) a_nil)) (a_cons (k_callT d_tuple c_tuple (by rfl) T.z_tuple bt_tuple (a_cons (k_var 1) a_nil)) a_nil)))))))
theorem ok_Store_init (T : Txt K mg) : FnOk P w K mg base CX0 4 T.a_Store_init T.d_Store_init ["self", "members"] (spOf K T.cl m_Store_init) :=
  fnL_ok T.F_Store_init sc_Store_init fun cdv A outer s H E hr => (s_cons (s_fld (cs_cons ⟨T.cl_Store, T.n_Store_members⟩ cs_nil) (k_var 0) (k_var 1))
    (s_cons (s_fld (cs_cons ⟨T.cl_Store, T.n_Store_cut⟩ cs_nil) (k_var 0) (k_comp (own := [("_", 2)]) (live := true) rfl sc_Store_init.nd (pi_rng1 (by rfl) T.z_range (a_cons (k_var 1) a_nil)) (blkOk_by (own := [("_", 2)]) (N := ["self", "members", "_"]) (sc := defScope s_Store_init) (by decide +kernel)) (fun _ _ _ _ _ => (g_name (i := 2) sc_Store_init.nd rfl (.inl rfl))) (fun _ _ _ _ _ => ts_nil) (fun _ _ _ _ _ => k_int)))
    (s_cons (s_fld (cs_cons ⟨T.cl_Store, T.n_Store_capabilities⟩ cs_nil) (k_var 0) (k_lst (live := true) a_nil))
    (s_cons (s_fld (cs_cons ⟨T.cl_Store, T.n_Store_kept⟩ cs_nil) (k_var 0) (k_comp (own := [("_", 2)]) (live := true) rfl sc_Store_init.nd (pi_rng1 (by rfl) T.z_range (a_cons (k_glob (by rfl) T.g_SPACES T.r_SPACES (fun F => T.q_SPACES F T.cl)) a_nil)) (blkOk_by (own := [("_", 2)]) (N := ["self", "members", "_"]) (sc := defScope s_Store_init) (by decide +kernel)) (fun _ _ _ _ _ => (g_name (i := 2) sc_Store_init.nd rfl (.inl rfl))) (fun _ _ _ _ _ => ts_nil) (fun _ _ _ _ _ => (k_make (live := false) (c := 1) T.M_Kept (ok_Kept_init T) (hr.mono (by first | decide | omega)) (by rfl) T.g_Kept T.b_Kept_init pass0 (a_cons (k_lst (live := false) a_nil) (a_cons (k_lst (live := false) a_nil) (a_cons (k_lst (live := false) a_nil) a_nil)))))))
    (s_one (s_fld (cs_cons ⟨T.cl_Store, T.n_Store_changes⟩ cs_nil) (k_var 0) (k_comp (own := [("_", 2)]) (live := true) rfl sc_Store_init.nd (pi_rng1 (by rfl) T.z_range (a_cons (k_var 1) a_nil)) (blkOk_by (own := [("_", 2)]) (N := ["self", "members", "_"]) (sc := defScope s_Store_init) (by decide +kernel)) (fun _ _ _ _ _ => (g_name (i := 2) sc_Store_init.nd rfl (.inl rfl))) (fun _ _ _ _ _ => ts_nil) (fun _ _ _ _ _ => (k_lst (live := true) a_nil)))))))))
theorem ok_Store_add (T : Txt K mg) : FnOk P w K mg base CX0 1 T.a_Store_add T.d_Store_add ["self", "change"] (spOf K T.cl m_Store_add) :=
  fn_ok T.F_Store_add sc_Store_add fun cdv A outer s H E hr => (s_one (s_drop (k_bm d_app PySem.F.plainAttrs_list PySem.F.slot_list_append PySem.F.type_list_append mt_append (k_ix (k_fld (cs_cons ⟨T.cl_Store, T.n_Store_changes⟩ cs_nil) (k_var 0)) (k_fld (cs_cons ⟨T.cl_Change, T.n_Change_author⟩ cs_nil) (k_var 1))) (a_cons (k_var 1) a_nil))))
theorem ok_kept_data (T : Txt K mg) : FnOk P w K mg base CX0 2 T.a_kept_data T.d_kept_data ["kept"] (spOf K T.cl m_kept_data) :=
  fn_ok T.F_kept_data sc_kept_data fun cdv A outer s H E hr => (s_cons (s_if (t_cmp d_is o_is (k_var 0) k_non (nomark _))
      (s_one (s_ret k_non))
      s_nil)
    (s_one (s_ret (k_meth0 (c := 1) (k_var 0) T.cl_Kept T.m_Kept_data (ok_Kept_data T) (hr.mono (by first | decide | omega)) T.b_Kept_data pass0))))
theorem ok_Store_data (T : Txt K mg) : FnOk P w K mg base CX0 3 T.a_Store_data T.d_Store_data ["self"] (spOf K T.cl m_Store_data) :=
  fn_ok T.F_Store_data sc_Store_data fun cdv A outer s H E hr => (s_cons (s_setComp (i := 1) (own := [("each", 3)]) (live := false) rfl sc_Store_data.nd rfl rfl (sw_true rfl rfl rfl (by decide +kernel)) (pi_any (k_fld (cs_cons ⟨T.cl_Store, T.n_Store_kept⟩ cs_nil) (k_var 0))) (blkOk_by (own := [("each", 3)]) (N := ["self", "kept", "changes", "each", "change"]) (sc := defScope s_Store_data) (by decide +kernel)) (fun _ _ _ _ _ => (g_name (i := 3) sc_Store_data.nd rfl (.inl rfl))) (fun _ _ _ _ _ => ts_nil) (fun _ _ _ _ _ => (k_call (ok_kept_data T) (hr.mono (by first | decide | omega)) (by rfl) T.g_kept_data T.F_kept_data.kp T.b_kept_data pass0 (a_cons (k_var 3) a_nil))))
    (s_cons (s_setComp (i := 2) (own := [("each", 3)]) (live := false) rfl sc_Store_data.nd rfl rfl (sw_true rfl rfl rfl (by decide +kernel)) (pi_any (k_fld (cs_cons ⟨T.cl_Store, T.n_Store_changes⟩ cs_nil) (k_var 0))) (blkOk_by (own := [("each", 3)]) (N := ["self", "kept", "changes", "each", "change"]) (sc := defScope s_Store_data) (by decide +kernel)) (fun _ _ _ _ _ => (g_name (i := 3) sc_Store_data.nd rfl (.inl rfl))) (fun _ _ _ _ _ => ts_nil) (fun _ _ _ _ _ => (k_callT d_tuple c_tuple (by rfl) T.z_tuple bt_tuple (a_cons (k_comp (own := [("change", 4)]) (live := false) rfl sc_Store_data.nd (pi_any (k_var 3)) (blkOk_by (own := [("change", 4)]) (N := ["self", "kept", "changes", "each", "change"]) (sc := ({ kind := .function, names := [(PySem.Str.ofString ".0", .local), (PySem.Str.ofString "each", .local), (PySem.Str.ofString "tuple", .globalImplicit)], isGenerator := false, isCoroutine := false } : Scope)) (by decide +kernel)) (fun _ _ _ _ _ => (g_name (i := 4) sc_Store_data.nd rfl (.inl rfl))) (fun _ _ _ _ _ => ts_nil) (fun _ _ _ _ _ => (k_op d_add o_add (k_meth0 (c := 0) (k_var 4) T.cl_Change T.m_Change_header (ok_Change_header T) (hr.mono (by first | decide | omega)) T.b_Change_header pass0) (k_tup (a_cons (k_fld (cs_cons ⟨T.cl_Change, T.n_Change_parts⟩ cs_nil) (k_var 4)) a_nil))))) a_nil))))
    (s_one (s_ret (k_tup (a_cons (k_callT d_tuple c_tuple (by rfl) T.z_tuple bt_tuple (a_cons (k_fld (cs_cons ⟨T.cl_Store, T.n_Store_cut⟩ cs_nil) (k_var 0)) a_nil)) (a_cons (k_callT d_tuple c_tuple (by rfl) T.z_tuple bt_tuple (a_cons (k_fld (cs_cons ⟨T.cl_Store, T.n_Store_capabilities⟩ cs_nil) (k_var 0)) a_nil)) (a_cons (k_callT d_tuple c_tuple (by rfl) T.z_tuple bt_tuple (a_cons (k_var 1) a_nil)) (a_cons (k_callT d_tuple c_tuple (by rfl) T.z_tuple bt_tuple (a_cons (k_var 2) a_nil)) a_nil)))))))))
theorem ok_mix (T : Txt K mg) : FnOk P w K mg base CX0 1 T.a_mix T.d_mix ["_law_cell", "_law_k"] (spOf K T.cl m_mix) :=
  fn_ok T.F_mix sc_mix fun cdv A outer s H E hr => (s_cons (s_set (i := 2) sc_mix.nd rfl (.inl rfl) (k_op d_mod op_mod (k_callT d_int c_int (by rfl) T.z_int bt_int (a_cons (k_op d_add o_add (k_op d_add o_add (k_op d_mul op_mulG (k_callT d_int c_int (by rfl) T.z_int bt_int (a_cons (k_var 0) a_nil)) k_int) (k_op d_mul op_mulG (k_var 1) k_int)) k_int) a_nil)) k_int))
    (s_cons (s_set (i := 2) sc_mix.nd rfl (.inl rfl) (k_op d_mod op_mod (k_callT d_int c_int (by rfl) T.z_int bt_int (a_cons (k_op d_add o_add (k_op d_add o_add (k_op d_mul op_mulG (k_var 2) (k_var 2)) (k_op d_mul op_mulG (k_var 1) k_int)) k_int) a_nil)) k_int))
    (s_one (s_ret (k_op d_mod op_mod (k_op d_div op_fdivW (k_var 2) k_int) k_int)))))
theorem ok_draws (T : Txt K mg) : FnOk P w K mg base CX0 2 T.a_draws T.d_draws ["_law_script"] (spOf K T.cl m_draws) :=
  fn_ok T.F_draws sc_draws fun cdv A outer s H E hr => (s_cons (s_set (i := 1) sc_draws.nd rfl (.inl rfl) (k_lst (live := true) a_nil))
    (s_cons (s_for PassesOwn.never rfl (pi_rng1 (by rfl) T.z_range (a_cons (k_callB d_min (c_min rfl) (by rfl) T.z_min bt_min (a_cons k_int (a_cons (k_callB d_len c_len (by rfl) T.z_len bt_len (a_cons (k_var 0) a_nil)) a_nil))) a_nil)) (g_name (i := 2) sc_draws.nd rfl (.inl rfl))
      (s_cons (s_set (i := 3) sc_draws.nd rfl (.inl rfl) (k_callT d_int c_int (by rfl) T.z_int bt_int (a_cons (k_ix (k_var 0) (k_var 2)) a_nil)))
    (s_one (s_if (t_cmp d_lt op_lt (k_var 3) (k_op d_pow op_pow k_int k_int) (nomark _))
      (s_one (s_drop (k_bm d_app PySem.F.plainAttrs_list PySem.F.slot_list_append PySem.F.type_list_append mt_append (k_var 1) (a_cons (k_call (ok_mix T) (hr.mono (by first | decide | omega)) (by rfl) T.g_mix T.F_mix.kp T.b_mix pass0 (a_cons (k_var 3) (a_cons (k_var 2) a_nil))) a_nil))))
      (s_one (s_for PassesOwn.never rfl (pi_rng1 (by rfl) T.z_range (a_cons k_int a_nil)) (g_name (i := 4) sc_draws.nd rfl (.inl rfl))
      (s_one (s_if (t_cmp d_gt op_gt (k_var 3) k_int (nomark _))
      (s_cons (s_drop (k_bm d_app PySem.F.plainAttrs_list PySem.F.slot_list_append PySem.F.type_list_append mt_append (k_var 1) (a_cons (k_op d_mod op_mod (k_callT d_int c_int (by rfl) T.z_int bt_int (a_cons (k_var 3) a_nil)) k_int) a_nil)))
    (s_one (s_set (i := 3) sc_draws.nd rfl (.inl rfl) (k_op d_div op_fdivW (k_var 3) k_int))))
      s_nil))))))))
    (s_one (s_ret (k_var 1)))))
theorem ok_at (T : Txt K mg) : FnOk P w K mg base CX0 2 T.a_at T.d_at ["_law_draws_here", "_law_index"] (spOf K T.cl m_at) :=
  fn_ok T.F_at sc_at fun cdv A outer s H E hr => (s_cons (s_if (t_cmp d_lt op_lt (k_var 1) (k_callB d_len c_len (by rfl) T.z_len bt_len (a_cons (k_var 0) a_nil)) (nomark _))
      (s_one (s_ret (k_ix (k_var 0) (k_var 1))))
      s_nil)
    (s_cons (s_if (t_cmp d_eq (o_eq hr.units) (k_callB d_len c_len (by rfl) T.z_len bt_len (a_cons (k_var 0) a_nil)) k_int (nomark _))
      (s_one (s_ret (k_call (ok_mix T) (hr.mono (by first | decide | omega)) (by rfl) T.g_mix T.F_mix.kp T.b_mix pass0 (a_cons (k_var 1) (a_cons k_int a_nil)))))
      s_nil)
    (s_one (s_ret (k_call (ok_mix T) (hr.mono (by first | decide | omega)) (by rfl) T.g_mix T.F_mix.kp T.b_mix pass0 (a_cons (k_op d_add o_add (k_ix (k_var 0) (k_op d_mod op_mod (k_callT d_int c_int (by rfl) T.z_int bt_int (a_cons (k_var 1) a_nil)) (k_callB d_len c_len (by rfl) T.z_len bt_len (a_cons (k_var 0) a_nil)))) (k_op d_mul op_mulG (k_var 1) k_int)) (a_cons (k_var 1) a_nil)))))))
theorem ok_is_integer (T : Txt K mg) : FnOk P w K mg base CX0 1 T.a_is_integer T.d_is_integer ["_law_actual"] (spOf K T.cl m_is_integer) :=
  fn_ok T.F_is_integer sc_is_integer fun cdv A outer s H E hr => (s_one (s_ret (k_and (k_isi (k_var 0) (by rfl) T.z_isinstance (by rfl) T.z_int bt_int) (k_one (k_not (k_isi (k_var 0) (by rfl) T.z_isinstance (by rfl) T.z_bool bt_bool))))))
theorem ok_same (T : Txt K mg) : ∀ n : Nat, FnOk P w K mg base CX0 (1 + n) T.a_same T.d_same ["_law_actual", "_law_expected"] (spOf K T.cl (m_same n))
  | 0 => fn_no
  | n + 1 => by
    have G_same := ok_same T n
    exact fn_ok (k := 1 + n) T.F_same sc_same fun cdv A outer s H E hr => (s_cons (s_if (t_val (k_isi2 (k_var 1) (by rfl) T.z_isinstance (by rfl) T.z_list bt_list (by rfl) T.z_tuple bt_tuple))
      (s_cons (s_if (PW.pt (w_or (t_cmp d_eq (o_ne hr.units) (k_isi (k_var 1) (by rfl) T.z_isinstance (by rfl) T.z_list bt_list) (k_isi (k_var 0) (by rfl) T.z_isinstance (by rfl) T.z_list bt_list) (nomark _)) (w_or1 (t_cmp d_eq (o_ne hr.units) (k_isi (k_var 1) (by rfl) T.z_isinstance (by rfl) T.z_tuple bt_tuple) (k_isi (k_var 0) (by rfl) T.z_isinstance (by rfl) T.z_tuple bt_tuple) (nomark _)))))
      (s_one (s_ret k_bl))
      s_nil)
    (s_cons (s_if (t_cmp d_eq (o_ne hr.units) (k_callB d_len c_len (by rfl) T.z_len bt_len (a_cons (k_var 0) a_nil)) (k_callB d_len c_len (by rfl) T.z_len bt_len (a_cons (k_var 1) a_nil)) (nomark _))
      (s_one (s_ret k_bl))
      s_nil)
    (s_cons (s_for PassesOwn.never rfl (pi_rng1 (by rfl) T.z_range (a_cons (k_callB d_len c_len (by rfl) T.z_len bt_len (a_cons (k_var 1) a_nil)) a_nil)) (g_name (i := 2) sc_same.nd rfl (.inl rfl))
      (s_one (s_if (t_not (t_val (k_call G_same (hr.mono (by first | decide | omega)) (by rfl) T.g_same T.F_same.kp T.b_same pass0 (a_cons (k_ix (k_var 0) (k_var 2)) (a_cons (k_ix (k_var 1) (k_var 2)) a_nil)))))
      (s_one (s_ret k_bl))
      s_nil)))
    (s_one (s_ret k_bl)))))
      s_nil)
    (s_cons (s_if (t_cmp d_is o_is (k_var 1) k_non (nomark _))
      (s_one (s_ret (k_cmp d_is o_is (k_var 0) k_non (nomark _))))
      s_nil)
    (s_cons (s_if (t_val (k_isi (k_var 1) (by rfl) T.z_isinstance (by rfl) T.z_bool bt_bool))
      (s_one (s_ret (k_and (k_isi (k_var 0) (by rfl) T.z_isinstance (by rfl) T.z_bool bt_bool) (k_one (k_cmp d_eq (o_eq hr.units) (k_var 0) (k_var 1) (nomark _))))))
      s_nil)
    (s_cons (s_if (t_val (k_isi (k_var 1) (by rfl) T.z_isinstance (by rfl) T.z_int bt_int))
      (s_one (s_ret (k_and (k_call (ok_is_integer T) (hr.mono (by first | decide | omega)) (by rfl) T.g_is_integer T.F_is_integer.kp T.b_is_integer pass0 (a_cons (k_var 0) a_nil)) (k_one (k_cmp d_eq (o_eq hr.units) (k_var 0) (k_var 1) (nomark _))))))
      s_nil)
    (s_one (s_ret (k_and (k_isi (k_var 0) (by rfl) T.z_isinstance (by rfl) T.z_str bt_str) (k_one (k_cmp d_eq (o_eq hr.units) (k_var 0) (k_var 1) (nomark _))))))))))
theorem ok_full (T : Txt K mg) : FnOk P w K mg base CX0 1 T.a_full T.d_full [] (spOf K T.cl m_full) :=
  fn_ok T.F_full sc_full fun cdv A outer s H E hr => (s_one (s_ret (k_callT d_tuple c_tuple (by rfl) T.z_tuple bt_tuple (a_cons (k_comp (own := [("_law_k", 0)]) (live := false) rfl sc_full.nd (pi_rng1 (by rfl) T.z_range (a_cons k_int a_nil)) (blkOk_by (own := [("_law_k", 0)]) (N := ["_law_k"]) (sc := defScope s_full) (by decide +kernel)) (fun _ _ _ _ _ => (g_name (i := 0) sc_full.nd rfl (.inl rfl))) (fun _ _ _ _ _ => ts_nil) (fun _ _ _ _ _ => (k_tup (a_cons k_bl (a_cons k_bl (a_cons k_bl a_nil)))))) a_nil))))
theorem ok_rights (T : Txt K mg) : FnOk P w K mg base CX0 2 T.a_rights T.d_rights ["_law_value"] (spOf K T.cl m_rights) :=
  fn_ok T.F_rights sc_rights fun cdv A outer s H E hr => (s_cons (s_if (t_cmp d_eq (o_eq hr.units) (k_op d_mod op_mod (k_var 0) k_int) k_int (nomark _))
      (s_one (s_ret (k_call0 (ok_full T) (hr.mono (by first | decide | omega)) (by rfl) T.g_full T.F_full.kp T.b_full pass0)))
      s_nil)
    (s_cons (s_set (i := 1) sc_rights.nd rfl (.inl rfl) (k_op d_div op_fdivW (k_var 0) k_int))
    (s_cons (s_set (i := 2) sc_rights.nd rfl (.inl rfl) (k_lst (live := true) a_nil))
    (s_cons (s_for PassesOwn.never rfl (pi_rng1 (by rfl) T.z_range (a_cons k_int a_nil)) (g_name (i := 3) sc_rights.nd rfl (.inl rfl))
      (s_cons (s_set (i := 4) sc_rights.nd rfl (.inl rfl) (k_tup (a_cons (k_cmp d_eq (o_eq hr.units) (k_op d_mod op_mod (k_var 1) k_int) k_int (nomark _)) (a_cons (k_cmp d_eq (o_eq hr.units) (k_op d_mod op_mod (k_op d_div op_fdivW (k_var 1) k_int) k_int) k_int (nomark _)) (a_cons (k_cmp d_eq (o_eq hr.units) (k_op d_mod op_mod (k_op d_div op_fdivW (k_var 1) k_int) k_int) k_int (nomark _)) a_nil)))))
    (s_cons (s_if (t_cmp d_eq (o_eq hr.units) (k_op d_mod op_mod (k_var 0) k_int) k_int (nomark _))
      (s_one (s_set (i := 4) sc_rights.nd rfl (.inl rfl) (k_tup (a_cons k_bl (a_cons (k_cmp d_eq (o_eq hr.units) (k_op d_mod op_mod (k_var 1) k_int) k_int (nomark _)) (a_cons (k_cmp d_eq (o_eq hr.units) (k_op d_mod op_mod (k_op d_div op_fdivW (k_var 1) k_int) k_int) k_int (nomark _)) a_nil))))))
      s_nil)
    (s_cons (s_drop (k_bm d_app PySem.F.plainAttrs_list PySem.F.slot_list_append PySem.F.type_list_append mt_append (k_var 2) (a_cons (k_var 4) a_nil)))
    (s_one (s_set (i := 1) sc_rights.nd rfl (.inl rfl) (k_op d_div op_fdivW (k_var 1) k_int)))))))
    (s_one (s_ret (k_callT d_tuple c_tuple (by rfl) T.z_tuple bt_tuple (a_cons (k_var 2) a_nil))))))))
theorem ok_grants (T : Txt K mg) : FnOk P w K mg base CX0 1 T.a_grants T.d_grants ["_law_rows_here"] (spOf K T.cl m_grants) :=
  fn_ok T.F_grants sc_grants fun cdv A outer s H E hr => (s_cons (s_set (i := 1) sc_grants.nd rfl (.inl rfl) (k_lst (live := true) a_nil))
    (s_cons (s_for PassesOwn.never rfl (pi_any (k_var 0)) (g_name (i := 2) sc_grants.nd rfl (.inl rfl))
      (s_one (s_for PassesOwn.never rfl (pi_rng1 (by rfl) T.z_range (a_cons (k_callB d_len c_len (by rfl) T.z_len bt_len (a_cons (k_ix (k_var 2) k_int) a_nil)) a_nil)) (g_name (i := 3) sc_grants.nd rfl (.inl rfl))
      (s_one (s_if (t_cmp d_eq (o_eq hr.units) (k_ix (k_ix (k_ix (k_var 2) k_int) (k_var 3)) k_int) k_str (nomark _))
      (s_one (s_drop (k_bm d_app PySem.F.plainAttrs_list PySem.F.slot_list_append PySem.F.type_list_append mt_append (k_var 1) (a_cons (k_lst (live := false) (a_cons (k_tup (a_cons (k_ix (k_var 2) k_int) (a_cons (k_ix (k_var 2) k_int) (a_cons (k_var 3) a_nil)))) (a_cons (k_ix (k_ix (k_ix (k_var 2) k_int) (k_var 3)) k_int) a_nil))) a_nil))))
      s_nil)))))
    (s_one (s_ret (k_var 1)))))
theorem ok_choice (T : Txt K mg) : FnOk P w K mg base CX0 3 T.a_choice T.d_choice ["_law_draws_here", "_law_index", "_law_rows_here", "_law_row"] (spOf K T.cl m_choice) :=
  fn_ok T.F_choice sc_choice fun cdv A outer s H E hr => (s_cons (s_set (i := 4) sc_choice.nd rfl (.inl rfl) (k_call (ok_at T) (hr.mono (by first | decide | omega)) (by rfl) T.g_at T.F_at.kp T.b_at pass0 (a_cons (k_var 0) (a_cons (k_var 1) a_nil))))
    (s_cons (s_if (t_cmp d_eq (o_eq hr.units) (k_op d_mod op_mod (k_var 4) k_int) k_int (nomark _))
      (s_one (s_ret (k_tup (a_cons (k_ix (k_var 3) k_int) (a_cons (k_op d_add o_add (k_ix (k_var 3) k_int) (k_op d_mod op_mod (k_op d_div op_fdivW (k_var 4) k_int) k_int)) (a_cons k_int a_nil))))))
      s_nil)
    (s_cons (s_if (PW.pt (w_and (t_cmp d_eq (o_eq hr.units) (k_ix (k_var 3) k_int) k_int (nomark _)) (w_and1 (t_cmp d_eq (o_ne hr.units) (k_op d_mod op_mod (k_var 4) k_int) k_int (nomark _)))))
      (s_one (s_ret k_non))
      s_nil)
    (s_cons (s_set (i := 5) sc_choice.nd rfl (.inl rfl) (k_call (ok_grants T) (hr.mono (by first | decide | omega)) (by rfl) T.g_grants T.F_grants.kp T.b_grants pass0 (a_cons (k_var 2) a_nil)))
    (s_cons (s_setComp (i := 6) (own := [("_law_grant", 7)]) (live := false) rfl sc_choice.nd rfl rfl (sw_true rfl rfl rfl (by decide +kernel)) (pi_any (k_var 5)) (blkOk_by (own := [("_law_grant", 7)]) (N := ["_law_draws_here", "_law_index", "_law_rows_here", "_law_row", "_law_pick", "_law_grants_here", "_law_own", "_law_grant"]) (sc := defScope s_choice) (by decide +kernel)) (fun _ _ _ _ _ => (g_name (i := 7) sc_choice.nd rfl (.inl rfl))) (fun _ _ _ _ _ => (ts_one (t_cmp d_eq (o_eq hr.units) (k_ix (k_var 7) k_int) (k_ix (k_var 3) k_int) (nomark _)))) (fun _ _ _ _ _ => (k_ix (k_var 7) k_int)))
    (s_cons (s_if (PW.pt (w_and (t_cmp d_gt op_gt (k_callB d_len c_len (by rfl) T.z_len bt_len (a_cons (k_var 6) a_nil)) k_int (nomark _)) (w_and1 (t_cmp d_eq (o_ne hr.units) (k_op d_mod op_mod (k_var 4) k_int) k_int (nomark _)))))
      (s_one (s_ret (k_ix (k_var 6) (k_op d_mod op_mod (k_op d_div op_fdivW (k_var 4) k_int) (k_callB d_len c_len (by rfl) T.z_len bt_len (a_cons (k_var 6) a_nil))))))
      s_nil)
    (s_cons (s_if (t_cmp d_gt op_gt (k_callB d_len c_len (by rfl) T.z_len bt_len (a_cons (k_var 5) a_nil)) k_int (nomark _))
      (s_one (s_ret (k_ix (k_ix (k_var 5) (k_op d_mod op_mod (k_op d_div op_fdivW (k_var 4) k_int) (k_callB d_len c_len (by rfl) T.z_len bt_len (a_cons (k_var 5) a_nil)))) k_int)))
      s_nil)
    (s_one (s_ret k_non)))))))))
theorem ok_publics (T : Txt K mg) : FnOk P w K mg base CX0 3 T.a_publics T.d_publics ["_law_draws_here", "_law_index", "_law_rows_here", "_law_members", "_law_row"] (spOf K T.cl m_publics) :=
  fn_ok T.F_publics sc_publics fun cdv A outer s H E hr => (s_cons (s_set (i := 5) sc_publics.nd rfl (.inl rfl) (k_lst (live := true) a_nil))
    (s_cons (s_set (i := 6) sc_publics.nd rfl (.inl rfl) (k_call (ok_grants T) (hr.mono (by first | decide | omega)) (by rfl) T.g_grants T.F_grants.kp T.b_grants pass0 (a_cons (k_var 2) a_nil)))
    (s_cons (s_for PassesOwn.never rfl (pi_rng1 (by rfl) T.z_range (a_cons (k_op d_mod op_mod (k_call (ok_at T) (hr.mono (by first | decide | omega)) (by rfl) T.g_at T.F_at.kp T.b_at pass0 (a_cons (k_var 0) (a_cons (k_var 1) a_nil))) k_int) a_nil)) (g_name (i := 7) sc_publics.nd rfl (.inl rfl))
      (s_cons (s_set (i := 8) sc_publics.nd rfl (.inl rfl) (k_op d_mod op_mod (k_call (ok_at T) (hr.mono (by first | decide | omega)) (by rfl) T.g_at T.F_at.kp T.b_at pass0 (a_cons (k_var 0) (a_cons (k_op d_add o_add (k_op d_add o_add (k_var 1) k_int) (k_op d_mul op_mulG k_int (k_var 7))) a_nil))) k_int))
    (s_cons (s_set (i := 9) sc_publics.nd rfl (.inl rfl) (k_call (ok_at T) (hr.mono (by first | decide | omega)) (by rfl) T.g_at T.F_at.kp T.b_at pass0 (a_cons (k_var 0) (a_cons (k_op d_add o_add (k_op d_add o_add (k_var 1) k_int) (k_op d_mul op_mulG k_int (k_var 7))) a_nil))))
    (s_one (s_if (t_cmp d_lt op_lt (k_var 8) k_int (nomark _))
      (s_cons (s_set (i := 10) sc_publics.nd rfl (.inl rfl) (k_op d_add o_add (k_op d_mul op_mulG (k_call (ok_at T) (hr.mono (by first | decide | omega)) (by rfl) T.g_at T.F_at.kp T.b_at pass0 (a_cons (k_var 0) (a_cons (k_op d_add o_add (k_op d_add o_add (k_var 1) k_int) (k_op d_mul op_mulG k_int (k_var 7))) a_nil))) k_int) (k_call (ok_at T) (hr.mono (by first | decide | omega)) (by rfl) T.g_at T.F_at.kp T.b_at pass0 (a_cons (k_var 0) (a_cons (k_op d_add o_add (k_op d_add o_add (k_var 1) k_int) (k_op d_mul op_mulG k_int (k_var 7))) a_nil)))))
    (s_one (s_drop (k_bm d_app PySem.F.plainAttrs_list PySem.F.slot_list_append PySem.F.type_list_append mt_append (k_var 5) (a_cons (k_tup (a_cons k_str (a_cons (k_op d_mod op_mod (k_var 9) (k_var 3)) (a_cons (k_call (ok_rights T) (hr.mono (by first | decide | omega)) (by rfl) T.g_rights T.F_rights.kp T.b_rights pass0 (a_cons (k_var 10) a_nil)) a_nil)))) a_nil)))))
      (s_one (s_if (PW.pt (w_and (t_cmp d_lt op_lt (k_var 8) k_int (nomark _)) (w_and1 (t_cmp d_gt op_gt (k_callB d_len c_len (by rfl) T.z_len bt_len (a_cons (k_var 6) a_nil)) k_int (nomark _)))))
      (s_one (s_drop (k_bm d_app PySem.F.plainAttrs_list PySem.F.slot_list_append PySem.F.type_list_append mt_append (k_var 5) (a_cons (k_tup (a_cons k_str (a_cons (k_ix (k_ix (k_var 6) (k_op d_mod op_mod (k_var 9) (k_callB d_len c_len (by rfl) T.z_len bt_len (a_cons (k_var 6) a_nil)))) k_int) a_nil))) a_nil))))
      (s_one (s_if (PW.pt (w_or (PW.pt (w_and (t_cmp d_eq (o_eq hr.units) (k_var 8) k_int (nomark _)) (w_and1 (t_cmp d_eq (o_eq hr.units) (k_ix (k_var 4) k_int) k_int (nomark _))))) (w_or1 (PW.pt (w_and (t_cmp d_eq (o_eq hr.units) (k_var 8) k_int (nomark _)) (w_and1 (t_cmp d_eq (o_eq hr.units) (k_op d_mod op_mod (k_var 9) k_int) k_int (nomark _))))))))
      (s_one (s_drop (k_bm d_app PySem.F.plainAttrs_list PySem.F.slot_list_append PySem.F.type_list_append mt_append (k_var 5) (a_cons (k_tup (a_cons k_str a_nil)) a_nil))))
      (s_one (s_if (PW.pt (w_and (t_cmp d_eq (o_eq hr.units) (k_var 8) k_int (nomark _)) (w_and1 (t_cmp d_eq (o_eq hr.units) (k_op d_mod op_mod (k_var 9) k_int) k_int (nomark _)))))
      (s_one (s_drop (k_bm d_app PySem.F.plainAttrs_list PySem.F.slot_list_append PySem.F.type_list_append mt_append (k_var 5) (a_cons (k_tup (a_cons k_str (a_cons k_non a_nil))) a_nil))))
      s_nil)))))))))))
    (s_one (s_ret (k_var 5))))))
theorem ok_rows (T : Txt K mg) : FnOk P w K mg base CX0 4 T.a_rows T.d_rows ["_law_draws_here", "_law_start", "_law_members", "_law_count", "_law_is_rich"] (spOf K T.cl m_rows) :=
  fn_ok T.F_rows sc_rows fun cdv A outer s H E hr => (s_cons (s_set (i := 5) sc_rows.nd rfl (.inr rfl) (k_lst (live := true) a_nil))
    (s_cons (s_for PassesOwn.never rfl (pi_rng1 (by rfl) T.z_range (a_cons (k_var 2) a_nil)) (g_name (i := 6) sc_rows.nd rfl (.inl rfl))
      (s_one (s_drop (k_bm d_app PySem.F.plainAttrs_list PySem.F.slot_list_append PySem.F.type_list_append mt_append (k_var 5) (a_cons (k_comp (own := [("_law_j", 12)]) (live := true) rfl sc_rows.nd (pi_rng1 (by rfl) T.z_range (a_cons (k_var 2) a_nil)) (blkOk_by (own := [("_law_j", 12)]) (N := ["_law_draws_here", "_law_start", "_law_members", "_law_count", "_law_is_rich", "_law_seen", "_law_k", "_law_rows_here", "_law_base", "_law_author", "_law_partner", "_law_row", "_law_j", "_law_member"]) (sc := defScope s_rows) (by decide +kernel)) (fun _ _ _ _ _ => (g_name (i := 12) sc_rows.nd rfl (.inl rfl))) (fun _ _ _ _ _ => ts_nil) (fun _ _ _ _ _ => k_int)) a_nil)))))
    (s_cons (s_set (i := 7) sc_rows.nd rfl (.inl rfl) (k_lst (live := true) a_nil))
    (s_cons (s_for PassesOwn.never rfl (pi_rng1 (by rfl) T.z_range (a_cons (k_var 3) a_nil)) (g_name (i := 6) sc_rows.nd rfl (.inl rfl))
      (s_cons (s_set (i := 8) sc_rows.nd rfl (.inl rfl) (k_op d_add o_add (k_var 1) (k_op d_mul op_mulG k_int (k_var 6))))
    (s_cons (s_set (i := 9) sc_rows.nd rfl (.inr rfl) (k_op d_mod op_mod (k_call (ok_at T) (hr.mono (by first | decide | omega)) (by rfl) T.g_at T.F_at.kp T.b_at pass0 (a_cons (k_var 0) (a_cons (k_var 8) a_nil))) (k_var 2)))
    (s_cons (s_set (i := 10) sc_rows.nd rfl (.inr rfl) (k_op d_mod op_mod (k_call (ok_at T) (hr.mono (by first | decide | omega)) (by rfl) T.g_at T.F_at.kp T.b_at pass0 (a_cons (k_var 0) (a_cons (k_op d_add o_add (k_var 8) k_int) a_nil))) (k_op d_add o_add (k_var 2) k_int)))
    (s_cons (s_if (PW.pt (w_and (t_cmp d_eq (o_eq hr.units) (k_var 6) k_int (nomark _)) (w_and1 (t_tru (k_var 4)))))
      (s_one (s_set (i := 9) sc_rows.nd rfl (.inr rfl) k_int))
      s_nil)
    (s_cons (s_if (t_cmp d_eq (o_eq hr.units) (k_var 10) (k_var 2) (nomark _))
      (s_one (s_set (i := 10) sc_rows.nd rfl (.inr rfl) k_int))
      s_nil)
    (s_cons (s_if (t_cmp d_lt op_lt (k_var 10) (k_var 2) (nomark _))
      (s_one (s_asg (k_comp (own := [("_law_j", 12)]) (live := true) rfl sc_rows.nd (pi_rng1 (by rfl) T.z_range (a_cons (k_var 2) a_nil)) (blkOk_by (own := [("_law_j", 12)]) (N := ["_law_draws_here", "_law_start", "_law_members", "_law_count", "_law_is_rich", "_law_seen", "_law_k", "_law_rows_here", "_law_base", "_law_author", "_law_partner", "_law_row", "_law_j", "_law_member"]) (sc := defScope s_rows) (by decide +kernel)) (fun _ _ _ _ _ => (g_name (i := 12) sc_rows.nd rfl (.inl rfl))) (fun _ _ _ _ _ => ts_nil) (fun _ _ _ _ _ => (k_callB d_max (c_max rfl) (by rfl) T.z_max bt_max (a_cons (k_ix (k_ix (k_var 5) (k_var 9)) (k_var 12)) (a_cons (k_ix (k_ix (k_var 5) (k_var 10)) (k_var 12)) a_nil))))) (g_sub (k_var 5) (k_var 9))))
      s_nil)
    (s_cons (s_set (i := 11) sc_rows.nd rfl (.inl rfl) (k_lst (live := true) (a_cons (k_var 9) (a_cons (k_op d_add o_add (k_ix (k_ix (k_var 5) (k_var 9)) (k_var 9)) k_int) (a_cons (k_callT (d_list (live := false)) c_list (by rfl) T.z_list bt_list (a_cons (k_ix (k_var 5) (k_var 9)) a_nil)) (a_cons k_non (a_cons (k_lst (live := false) a_nil) (a_cons (k_lst (live := false) (a_cons (k_tup a_nil) (a_cons (k_tup a_nil) (a_cons (k_tup a_nil) (a_cons (k_tup a_nil) a_nil))))) a_nil))))))))
    (s_cons (s_if (PW.pt (w_and (t_cmp d_eq (o_eq hr.units) (k_var 6) k_int (nomark _)) (w_and1 (t_tru (k_var 4)))))
      (s_one (s_asg (k_comp (own := [("_law_member", 13)]) (live := false) rfl sc_rows.nd (pi_rng2 (by rfl) T.z_range (a_cons k_int (a_cons (k_var 2) a_nil))) (blkOk_by (own := [("_law_member", 13)]) (N := ["_law_draws_here", "_law_start", "_law_members", "_law_count", "_law_is_rich", "_law_seen", "_law_k", "_law_rows_here", "_law_base", "_law_author", "_law_partner", "_law_row", "_law_j", "_law_member"]) (sc := defScope s_rows) (by decide +kernel)) (fun _ _ _ _ _ => (g_name (i := 13) sc_rows.nd rfl (.inl rfl))) (fun _ _ _ _ _ => ts_nil) (fun _ _ _ _ _ => (k_tup (a_cons k_str (a_cons (k_var 13) (a_cons (k_call0 (ok_full T) (hr.mono (by first | decide | omega)) (by rfl) T.g_full T.F_full.kp T.b_full pass0) a_nil)))))) (g_sub (k_var 11) k_int)))
      (s_cons (s_asg (k_call (ok_choice T) (hr.mono (by first | decide | omega)) (by rfl) T.g_choice T.F_choice.kp T.b_choice pass0 (a_cons (k_var 0) (a_cons (k_op d_add o_add (k_var 8) k_int) (a_cons (k_var 7) (a_cons (k_var 11) a_nil))))) (g_sub (k_var 11) k_int))
    (s_one (s_asg (k_call (ok_publics T) (hr.mono (by first | decide | omega)) (by rfl) T.g_publics T.F_publics.kp T.b_publics pass0 (a_cons (k_var 0) (a_cons (k_op d_add o_add (k_var 8) k_int) (a_cons (k_var 7) (a_cons (k_var 2) (a_cons (k_var 11) a_nil)))))) (g_sub (k_var 11) k_int)))))
    (s_cons (s_drop (k_bm d_app PySem.F.plainAttrs_list PySem.F.slot_list_append PySem.F.type_list_append mt_append (k_var 7) (a_cons (k_var 11) a_nil)))
    (s_one (s_asg (k_ix (k_var 11) k_int) (g_sub (k_ix (k_var 5) (k_var 9)) (k_var 9))))))))))))))
    (s_one (s_ret (k_var 7)))))))
theorem ok_nothing (T : Txt K mg) : FnOk P w K mg base CX0 1 T.a_nothing T.d_nothing [] (spOf K T.cl m_nothing) :=
  fn_ok T.F_nothing sc_nothing fun cdv A outer s H E hr => (s_one (s_ret (k_comp (own := [("_law_k", 0)]) (live := false) rfl sc_nothing.nd (pi_rng1 (by rfl) T.z_range (a_cons k_int a_nil)) (blkOk_by (own := [("_law_k", 0)]) (N := ["_law_k"]) (sc := defScope s_nothing) (by decide +kernel)) (fun _ _ _ _ _ => (g_name (i := 0) sc_nothing.nd rfl (.inl rfl))) (fun _ _ _ _ _ => ts_nil) (fun _ _ _ _ _ => (k_lst (live := false) (a_cons (k_lst (live := false) a_nil) (a_cons (k_lst (live := false) a_nil) (a_cons (k_lst (live := false) a_nil) a_nil))))))))
theorem ok_world (T : Txt K mg) : FnOk P w K mg base CX0 2 T.a_world T.d_world ["_law_members", "_law_rows_here"] (spOf K T.cl m_world) :=
  fn_ok T.F_world sc_world fun cdv A outer s H E hr => (s_one (s_ret (k_lst (live := true) (a_cons (k_var 0) (a_cons (k_var 1) (a_cons (k_comp (own := [("_law_k", 2)]) (live := false) rfl sc_world.nd (pi_rng1 (by rfl) T.z_range (a_cons (k_var 0) a_nil)) (blkOk_by (own := [("_law_k", 2)]) (N := ["_law_members", "_law_rows_here", "_law_k"]) (sc := defScope s_world) (by decide +kernel)) (fun _ _ _ _ _ => (g_name (i := 2) sc_world.nd rfl (.inl rfl))) (fun _ _ _ _ _ => ts_nil) (fun _ _ _ _ _ => k_int)) (a_cons (k_lst (live := false) a_nil) (a_cons (k_call0 (ok_nothing T) (hr.mono (by first | decide | omega)) (by rfl) T.g_nothing T.F_nothing.kp T.b_nothing pass0) a_nil))))))))
theorem okL_world (T : Txt K mg) : FnOk P w K mg base CX0 2 T.a_world T.d_world ["_law_members", "_law_rows_here"] (spOf K T.cl mL_world) :=
  fnL_ok T.F_world sc_world fun cdv A outer s H E hr => (s_one (s_ret (k_lst (live := true) (a_cons (k_var 0) (a_cons (k_var 1) (a_cons (k_comp (own := [("_law_k", 2)]) (live := false) rfl sc_world.nd (pi_rng1 (by rfl) T.z_range (a_cons (k_var 0) a_nil)) (blkOk_by (own := [("_law_k", 2)]) (N := ["_law_members", "_law_rows_here", "_law_k"]) (sc := defScope s_world) (by decide +kernel)) (fun _ _ _ _ _ => (g_name (i := 2) sc_world.nd rfl (.inl rfl))) (fun _ _ _ _ _ => ts_nil) (fun _ _ _ _ _ => k_int)) (a_cons (k_lst (live := false) a_nil) (a_cons (k_call0 (ok_nothing T) (hr.mono (by first | decide | omega)) (by rfl) T.g_nothing T.F_nothing.kp T.b_nothing pass0) a_nil))))))))
theorem ok_cut_world (T : Txt K mg) : FnOk P w K mg base CX0 3 T.a_cut_world T.d_cut_world ["_law_draws_here", "_law_index", "_law_members", "_law_rows_here"] (spOf K T.cl m_cut_world) :=
  fn_ok T.F_cut_world sc_cut_world fun cdv A outer s H E hr => (s_cons (s_set (i := 4) sc_cut_world.nd rfl (.inl rfl) (k_call (okL_world T) (hr.mono (by first | decide | omega)) (by rfl) T.g_world T.F_world.kp T.b_world pass0 (a_cons (k_var 2) (a_cons (k_var 3) a_nil))))
    (s_cons (s_if (PW.pt (w_or (t_cmp d_eq (o_eq hr.units) (k_callB d_len c_len (by rfl) T.z_len bt_len (a_cons (k_var 3) a_nil)) k_int (nomark _)) (w_or1 (t_cmp d_eq (o_ne hr.units) (k_op d_mod op_mod (k_call (ok_at T) (hr.mono (by first | decide | omega)) (by rfl) T.g_at T.F_at.kp T.b_at pass0 (a_cons (k_var 0) (a_cons (k_var 1) a_nil))) k_int) k_int (nomark _)))))
      (s_one (s_ret (k_var 4)))
      s_nil)
    (s_cons (s_set (i := 5) sc_cut_world.nd rfl (.inl rfl) (k_ix (k_var 3) (k_op d_mod op_mod (k_call (ok_at T) (hr.mono (by first | decide | omega)) (by rfl) T.g_at T.F_at.kp T.b_at pass0 (a_cons (k_var 0) (a_cons (k_op d_add o_add (k_var 1) k_int) a_nil))) (k_callB d_len c_len (by rfl) T.z_len bt_len (a_cons (k_var 3) a_nil)))))
    (s_cons (s_set (i := 6) sc_cut_world.nd rfl (.inr rfl) (k_callT (d_list (live := true)) c_list (by rfl) T.z_list bt_list (a_cons (k_ix (k_var 5) k_int) a_nil)))
    (s_cons (s_asg (k_op d_add o_add (k_ix (k_var 6) (k_ix (k_var 5) k_int)) (k_op d_mod op_mod (k_call (ok_at T) (hr.mono (by first | decide | omega)) (by rfl) T.g_at T.F_at.kp T.b_at pass0 (a_cons (k_var 0) (a_cons (k_op d_add o_add (k_var 1) k_int) a_nil))) k_int)) (g_sub (k_var 6) (k_ix (k_var 5) k_int)))
    (s_cons (s_set (i := 7) sc_cut_world.nd rfl (.inl rfl) (k_lst (live := true) a_nil))
    (s_cons (s_set (i := 8) sc_cut_world.nd rfl (.inl rfl) (k_lst (live := true) (a_cons k_non a_nil)))
    (s_cons (s_for PassesOwn.never rfl (pi_rng1 (by rfl) T.z_range (a_cons (k_callB d_len c_len (by rfl) T.z_len bt_len (a_cons (k_var 3) a_nil)) a_nil)) (g_name (i := 9) sc_cut_world.nd rfl (.inl rfl))
      (s_cons (s_set (i := 10) sc_cut_world.nd rfl (.inl rfl) (k_ix (k_var 3) (k_var 9)))
    (s_one (s_if (PW.pt (w_and (t_cmp d_le op_le (k_ix (k_var 10) k_int) (k_ix (k_var 6) (k_ix (k_var 10) k_int)) (nomark _)) (w_and1 (t_cmp d_inG (o_inG (u65 hr)) (k_ix (k_var 10) k_int) (k_var 8) (by rfl)))))
      (s_one (s_for PassesOwn.never rfl (pi_rng1 (by rfl) T.z_range (a_cons (k_callB d_len c_len (by rfl) T.z_len bt_len (a_cons (k_ix (k_var 10) k_int) a_nil)) a_nil)) (g_name (i := 11) sc_cut_world.nd rfl (.inl rfl))
      (s_one (s_if (PW.pt (w_and (t_cmp d_eq (o_eq hr.units) (k_ix (k_ix (k_ix (k_var 10) k_int) (k_var 11)) k_int) k_str (nomark _)) (w_and1 (t_cmp d_eq (o_ne hr.units) (k_op d_mod op_mod (k_call (ok_at T) (hr.mono (by first | decide | omega)) (by rfl) T.g_at T.F_at.kp T.b_at pass0 (a_cons (k_var 0) (a_cons (k_op d_add o_add (k_op d_add o_add (k_op d_add o_add (k_var 1) k_int) (k_op d_mul op_mulG k_int (k_var 9))) (k_var 11)) a_nil))) k_int) k_int (nomark _)))))
      (s_cons (s_drop (k_bm d_app PySem.F.plainAttrs_list PySem.F.slot_list_append PySem.F.type_list_append mt_append (k_var 7) (a_cons (k_tup (a_cons (k_tup (a_cons (k_ix (k_var 10) k_int) (a_cons (k_ix (k_var 10) k_int) (a_cons (k_var 11) a_nil)))) (a_cons (k_ix (k_var 10) k_int) (a_cons (k_ix (k_ix (k_ix (k_var 10) k_int) (k_var 11)) k_int) (a_cons (k_ix (k_ix (k_ix (k_var 10) k_int) (k_var 11)) k_int) a_nil))))) a_nil)))
    (s_one (s_drop (k_bm d_app PySem.F.plainAttrs_list PySem.F.slot_list_append PySem.F.type_list_append mt_append (k_var 8) (a_cons (k_tup (a_cons (k_ix (k_var 10) k_int) (a_cons (k_ix (k_var 10) k_int) (a_cons (k_var 11) a_nil)))) a_nil)))))
      s_nil))))
      s_nil))))
    (s_cons (s_asg (k_comp (own := [("_law_row", 10)]) (live := false) rfl sc_cut_world.nd (pi_any (k_var 3)) (blkOk_by (own := [("_law_row", 10)]) (N := ["_law_draws_here", "_law_index", "_law_members", "_law_rows_here", "_law_world_here", "_law_last", "_law_cut", "_law_kept_here", "_law_names", "_law_k", "_law_row", "_law_place"]) (sc := defScope s_cut_world) (by decide +kernel)) (fun _ _ _ _ _ => (g_name (i := 10) sc_cut_world.nd rfl (.inl rfl))) (fun _ _ _ _ _ => (ts_one (t_cmp d_gt op_gt (k_ix (k_var 10) k_int) (k_ix (k_var 6) (k_ix (k_var 10) k_int)) (nomark _)))) (fun _ _ _ _ _ => (k_var 10))) (g_sub (k_var 4) k_int))
    (s_cons (s_asg (k_var 6) (g_sub (k_var 4) k_int))
    (s_cons (s_asg (k_callB (d_sort (live := false)) (c_sort (u65 hr)) (by rfl) T.z_sorted bt_sorted (a_cons (k_var 7) a_nil)) (g_sub (k_var 4) k_int))
    (s_one (s_ret (k_var 4))))))))))))))
theorem ok_kept (T : Txt K mg) : FnOk P w K mg base CX0 4 T.a_kept T.d_kept ["_law_kept_here"] (spOf K T.cl m_kept) :=
  fn_ok T.F_kept sc_kept fun cdv A outer s H E hr => (s_cons (s_if (t_cmp d_is o_is (k_var 0) k_non (nomark _))
      (s_one (s_ret k_non))
      s_nil)
    (s_one (s_ret (k_make (live := false) (c := 1) T.M_Kept (ok_Kept_init T) (hr.mono (by first | decide | omega)) (by rfl) T.g_Kept T.b_Kept_init pass0 (a_cons (k_callT (d_list (live := false)) c_list (by rfl) T.z_list bt_list (a_cons (k_ix (k_var 0) k_int) a_nil)) (a_cons (k_callT (d_list (live := false)) c_list (by rfl) T.z_list bt_list (a_cons (k_ix (k_var 0) k_int) a_nil)) (a_cons (k_comp (own := [("_law_cell", 1), ("_law_chars", 2)]) (live := false) rfl sc_kept.nd (pi_any (k_ix (k_var 0) k_int)) (blkOk_by (own := [("_law_cell", 1), ("_law_chars", 2)]) (N := ["_law_kept_here", "_law_cell", "_law_chars"]) (sc := defScope s_kept) (by decide +kernel)) (fun _ _ _ _ _ => (g_tup rfl (gs_cons (g_name (i := 1) sc_kept.nd rfl (.inl rfl)) (gs_cons (g_name (i := 2) sc_kept.nd rfl (.inl rfl)) gs_nil)))) (fun _ _ _ _ _ => ts_nil) (fun _ _ _ _ _ => (k_tup (a_cons (k_var 1) (a_cons (k_callT (d_list (live := false)) c_list (by rfl) T.z_list bt_list (a_cons (k_var 2) a_nil)) a_nil))))) a_nil)))))))
theorem ok_store (T : Txt K mg) : FnOk P w K mg base CX0 7 T.a_store T.d_store ["_law_world_here"] (spOf K T.cl m_store) :=
  fn_ok T.F_store sc_store fun cdv A outer s H E hr => (s_cons (s_set (i := 1) sc_store.nd rfl (.inl rfl) (k_make (live := true) (c := 2) T.M_Store (ok_Store_init T) (hr.mono (by first | decide | omega)) (by rfl) T.g_Store T.b_Store_init pass0 (a_cons (k_ix (k_var 0) k_int) a_nil)))
    (s_cons (s_for PassesOwn.never rfl (pi_rng1 (by rfl) T.z_range (a_cons (k_ix (k_var 0) k_int) a_nil)) (g_name (i := 2) sc_store.nd rfl (.inl rfl))
      (s_one (s_asg (k_ix (k_ix (k_var 0) k_int) (k_var 2)) (g_sub (k_fld (cs_cons ⟨T.cl_Store, T.n_Store_cut⟩ cs_nil) (k_var 1)) (k_var 2)))))
    (s_cons (s_drop (k_bm d_ext PySem.F.plainAttrs_list PySem.F.slot_list_extend PySem.F.type_list_extend mt_extG (k_fld (cs_cons ⟨T.cl_Store, T.n_Store_capabilities⟩ cs_nil) (k_var 1)) (a_cons (k_callT (d_list (live := false)) c_list (by rfl) T.z_list bt_list (a_cons (k_ix (k_var 0) k_int) a_nil)) a_nil)))
    (s_cons (s_for PassesOwn.never rfl (pi_rng1 (by rfl) T.z_range (a_cons k_int a_nil)) (g_name (i := 3) sc_store.nd rfl (.inl rfl))
      (s_one (s_asg (k_call (ok_kept T) (hr.mono (by first | decide | omega)) (by rfl) T.g_kept T.F_kept.kp T.b_kept pass0 (a_cons (k_ix (k_ix (k_var 0) k_int) (k_var 3)) a_nil)) (g_sub (k_fld (cs_cons ⟨T.cl_Store, T.n_Store_kept⟩ cs_nil) (k_var 1)) (k_var 3)))))
    (s_cons (s_for PassesOwn.never rfl (pi_any (k_ix (k_var 0) k_int)) (g_name (i := 4) sc_store.nd rfl (.inl rfl))
      (s_one (s_drop (k_meth (c := 2) (k_var 1) T.cl_Store T.m_Store_add (ok_Store_add T) (hr.mono (by first | decide | omega)) T.b_Store_add pass0 (a_cons (k_make (live := false) (c := 0) T.M_Change (ok_Change_init T) (hr.mono (by first | decide | omega)) (by rfl) T.g_Change T.b_Change_init pass0 (a_cons (k_ix (k_var 4) k_int) (a_cons (k_ix (k_var 4) k_int) (a_cons (k_callT d_tuple c_tuple (by rfl) T.z_tuple bt_tuple (a_cons (k_ix (k_var 4) k_int) a_nil)) (a_cons (k_ix (k_var 4) k_int) (a_cons (k_callT d_tuple c_tuple (by rfl) T.z_tuple bt_tuple (a_cons (k_ix (k_var 4) k_int) a_nil)) (a_cons (k_callT d_tuple c_tuple (by rfl) T.z_tuple bt_tuple (a_cons (k_ix (k_var 4) k_int) a_nil)) a_nil))))))) a_nil)))))
    (s_one (s_ret (k_var 1))))))))
theorem ok_find (T : Txt K mg) : FnOk P w K mg base CX0 1 T.a_find T.d_find ["_law_world_here", "_law_name"] (spOf K T.cl m_find) :=
  fn_ok T.F_find sc_find fun cdv A outer s H E hr => (s_cons (s_for PassesOwn.never rfl (pi_any (k_ix (k_var 0) k_int)) (g_name (i := 2) sc_find.nd rfl (.inl rfl))
      (s_one (s_if (PW.pt (w_and (t_cmp d_eq (o_eq hr.units) (k_ix (k_var 2) k_int) (k_ix (k_var 1) k_int) (nomark _)) (w_and1 (t_cmp d_eq (o_eq hr.units) (k_ix (k_var 2) k_int) (k_ix (k_var 1) k_int) (nomark _)))))
      (s_one (s_ret (k_var 2)))
      s_nil)))
    (s_one (s_ret k_non)))
theorem ok_info (T : Txt K mg) : FnOk P w K mg base CX0 2 T.a_info T.d_info ["_law_world_here", "_law_capability"] (spOf K T.cl m_info) :=
  fn_ok T.F_info sc_info fun cdv A outer s H E hr => (s_cons (s_if (t_cmp d_is o_is (k_var 1) k_non (nomark _))
      (s_one (s_ret (k_lst (live := false) (a_cons k_non (a_cons k_int (a_cons (k_call0 (ok_full T) (hr.mono (by first | decide | omega)) (by rfl) T.g_full T.F_full.kp T.b_full pass0) a_nil))))))
      s_nil)
    (s_cons (s_for PassesOwn.never rfl (pi_any (k_ix (k_var 0) k_int)) (g_name (i := 2) sc_info.nd rfl (.inl rfl))
      (s_one (s_if (t_cmp d_eq (o_eq hr.units) (k_ix (k_var 2) k_int) (k_var 1) (nomark _))
      (s_one (s_ret (k_lst (live := false) (a_cons (k_ix (k_var 2) k_int) (a_cons (k_ix (k_var 2) k_int) (a_cons (k_ix (k_var 2) k_int) a_nil))))))
      s_nil)))
    (s_cons (s_set (i := 3) sc_info.nd rfl (.inl rfl) (k_call (ok_find T) (hr.mono (by first | decide | omega)) (by rfl) T.g_find T.F_find.kp T.b_find pass0 (a_cons (k_var 0) (a_cons (k_var 1) a_nil))))
    (s_cons (s_if (PW.pt (w_or (t_cmp d_is o_is (k_var 3) k_non (nomark _)) (w_or (t_cmp d_ge op_ge (k_ix (k_var 1) k_int) (k_callB d_len c_len (by rfl) T.z_len bt_len (a_cons (k_ix (k_var 3) k_int) a_nil)) (nomark _)) (w_or1 (t_cmp d_eq (o_ne hr.units) (k_ix (k_ix (k_ix (k_var 3) k_int) (k_ix (k_var 1) k_int)) k_int) k_str (nomark _))))))
      (s_one (s_ret k_non))
      s_nil)
    (s_one (s_ret (k_lst (live := false) (a_cons (k_ix (k_var 3) k_int) (a_cons (k_ix (k_ix (k_ix (k_var 3) k_int) (k_ix (k_var 1) k_int)) k_int) (a_cons (k_ix (k_ix (k_ix (k_var 3) k_int) (k_ix (k_var 1) k_int)) k_int) a_nil))))))))))
theorem ok_lpath (T : Txt K mg) : FnOk P w K mg base CX0 3 T.a_lpath T.d_lpath ["_law_world_here", "_law_capability"] (spOf K T.cl m_lpath) :=
  fn_ok T.F_lpath sc_lpath fun cdv A outer s H E hr => (s_cons (s_set (i := 2) sc_lpath.nd rfl (.inl rfl) (k_lst (live := true) a_nil))
    (s_cons (s_for PassesOwn.never rfl (pi_rng1 (by rfl) T.z_range (a_cons k_int a_nil)) (g_name (i := 3) sc_lpath.nd rfl (.inl rfl))
      (s_cons (s_if (t_cmp d_is o_is (k_var 1) k_non (nomark _))
      (s_one (s_ret (k_op d_add o_add (k_var 2) (k_lst (live := false) (a_cons k_non a_nil)))))
      s_nil)
    (s_cons (s_set (i := 4) sc_lpath.nd rfl (.inl rfl) (k_call (ok_info T) (hr.mono (by first | decide | omega)) (by rfl) T.g_info T.F_info.kp T.b_info pass0 (a_cons (k_var 0) (a_cons (k_var 1) a_nil))))
    (s_cons (s_if (t_cmp d_is o_is (k_var 4) k_non (nomark _))
      (s_one (s_ret (k_lst (live := false) a_nil)))
      s_nil)
    (s_cons (s_drop (k_bm d_app PySem.F.plainAttrs_list PySem.F.slot_list_append PySem.F.type_list_append mt_append (k_var 2) (a_cons (k_var 1) a_nil)))
    (s_one (s_set (i := 1) sc_lpath.nd rfl (.inl rfl) (k_ix (k_var 4) k_int))))))))
    (s_one (s_ret (k_lst (live := false) a_nil)))))
theorem ok_asked (T : Txt K mg) : FnOk P w K mg base CX0 3 T.a_asked T.d_asked ["_law_draws_here", "_law_world_here"] (spOf K T.cl m_asked) :=
  fn_ok T.F_asked sc_asked fun cdv A outer s H E hr => (s_cons (s_set (i := 2) sc_asked.nd rfl (.inl rfl) (k_lst (live := true) (a_cons k_non (a_cons (k_tup (a_cons k_int (a_cons k_int (a_cons k_int a_nil)))) (a_cons (k_tup (a_cons k_int (a_cons k_int (a_cons k_int a_nil)))) a_nil)))))
    (s_cons (s_drop (k_bm d_ext PySem.F.plainAttrs_list PySem.F.slot_list_extend PySem.F.type_list_extend mt_extG (k_var 2) (a_cons (k_comp (own := [("_law_entry", 5)]) (live := false) rfl sc_asked.nd (pi_any (k_ix (k_var 1) k_int)) (blkOk_by (own := [("_law_entry", 5)]) (N := ["_law_draws_here", "_law_world_here", "_law_spots", "_law_row", "_law_first", "_law_entry", "_law_place"]) (sc := defScope s_asked) (by decide +kernel)) (fun _ _ _ _ _ => (g_name (i := 5) sc_asked.nd rfl (.inl rfl))) (fun _ _ _ _ _ => ts_nil) (fun _ _ _ _ _ => (k_ix (k_var 5) k_int))) a_nil)))
    (s_cons (s_for PassesOwn.never rfl (pi_any (k_ix (k_var 1) k_int)) (g_name (i := 3) sc_asked.nd rfl (.inr rfl))
      (s_one (s_drop (k_bm d_ext PySem.F.plainAttrs_list PySem.F.slot_list_extend PySem.F.type_list_extend mt_extG (k_var 2) (a_cons (k_comp (own := [("_law_place", 6)]) (live := false) rfl sc_asked.nd (pi_rng1 (by rfl) T.z_range (a_cons (k_callB d_len c_len (by rfl) T.z_len bt_len (a_cons (k_ix (k_var 3) k_int) a_nil)) a_nil)) (blkOk_by (own := [("_law_place", 6)]) (N := ["_law_draws_here", "_law_world_here", "_law_spots", "_law_row", "_law_first", "_law_entry", "_law_place"]) (sc := defScope s_asked) (by decide +kernel)) (fun _ _ _ _ _ => (g_name (i := 6) sc_asked.nd rfl (.inl rfl))) (fun _ _ _ _ _ => ts_nil) (fun _ _ _ _ _ => (k_tup (a_cons (k_ix (k_var 3) k_int) (a_cons (k_ix (k_var 3) k_int) (a_cons (k_var 6) a_nil)))))) a_nil)))))
    (s_cons (s_if (t_cmp d_gt op_gt (k_callB d_len c_len (by rfl) T.z_len bt_len (a_cons (k_var 2) a_nil)) k_int (nomark _))
      (s_cons (s_set (i := 4) sc_asked.nd rfl (.inl rfl) (k_op d_add o_add k_int (k_op d_mod op_mod (k_call (ok_at T) (hr.mono (by first | decide | omega)) (by rfl) T.g_at T.F_at.kp T.b_at pass0 (a_cons (k_var 0) (a_cons k_int a_nil))) (k_op d_sub op_sub (k_callB d_len c_len (by rfl) T.z_len bt_len (a_cons (k_var 2) a_nil)) k_int))))
    (s_one (s_set (i := 2) sc_asked.nd rfl (.inl rfl) (k_op d_add o_add (k_sl (live := false) (k_var 2) o_none (o_some k_int)) (k_sl (live := false) (k_var 2) (o_some (k_var 4)) (o_some (k_op d_add o_add (k_var 4) k_int)))))))
      s_nil)
    (s_one (s_ret (k_var 2)))))))
theorem ok_law (T : Txt K mg) : FnOk P w K mg base CX0 42 T.a_law T.d_law ["_law_script"] (spOf K T.cl m_law) :=
  fn_ok T.F_law sc_law fun cdv A outer s H E hr => (s_cons (s_set (i := 1) sc_law.nd rfl (.inl rfl) (k_call (ok_draws T) (hr.mono (by first | decide | omega)) (by rfl) T.g_draws T.F_draws.kp T.b_draws pass0 (a_cons (k_var 0) a_nil)))
    (s_cons (s_set (i := 2) sc_law.nd rfl (.inl rfl) (k_op d_add o_add k_int (k_op d_mod op_mod (k_op d_mod op_mod (k_call (ok_at T) (hr.mono (by first | decide | omega)) (by rfl) T.g_at T.F_at.kp T.b_at pass0 (a_cons (k_var 1) (a_cons k_int a_nil))) k_int) k_int)))
    (s_cons (s_set (i := 3) sc_law.nd rfl (.inl rfl) (k_call (ok_rows T) (hr.mono (by first | decide | omega)) (by rfl) T.g_rows T.F_rows.kp T.b_rows pass0 (a_cons (k_var 1) (a_cons k_int (a_cons (k_var 2) (a_cons (k_op d_mod op_mod (k_call (ok_at T) (hr.mono (by first | decide | omega)) (by rfl) T.g_at T.F_at.kp T.b_at pass0 (a_cons (k_var 1) (a_cons k_int a_nil))) k_int) (a_cons (k_cmp d_eq (o_eq hr.units) (k_op d_mod op_mod (k_call (ok_at T) (hr.mono (by first | decide | omega)) (by rfl) T.g_at T.F_at.kp T.b_at pass0 (a_cons (k_var 1) (a_cons k_int a_nil))) k_int) k_int (nomark _)) a_nil)))))))
    (s_cons (s_set (i := 4) sc_law.nd rfl (.inr rfl) (k_call (ok_cut_world T) (hr.mono (by first | decide | omega)) (by rfl) T.g_cut_world T.F_cut_world.kp T.b_cut_world pass0 (a_cons (k_var 1) (a_cons k_int (a_cons (k_var 2) (a_cons (k_var 3) a_nil))))))
    (s_cons (s_set (i := 5) sc_law.nd rfl (.inl rfl) (k_call (ok_store T) (hr.mono (by first | decide | omega)) (by rfl) T.g_store T.F_store.kp T.b_store pass0 (a_cons (k_var 4) a_nil)))
    (s_cons (s_set (i := 6) sc_law.nd rfl (.inl rfl) (k_meth0 (c := 2) (k_var 5) T.cl_Store T.m_Store_data (ok_Store_data T) (hr.mono (by first | decide | omega)) T.b_Store_data pass0))
    (s_cons (s_set (i := 7) sc_law.nd rfl (.inl rfl) (k_call (ok_asked T) (hr.mono (by first | decide | omega)) (by rfl) T.g_asked T.F_asked.kp T.b_asked pass0 (a_cons (k_var 1) (a_cons (k_var 4) a_nil))))
    (s_cons (s_setComp (i := 8) (own := [("_law_spot", 13)]) (live := false) rfl sc_law.nd rfl rfl (sw_true rfl rfl rfl (by decide +kernel)) (pi_any (k_var 7)) (blkOk_by (own := [("_law_spot", 13)]) (N := ["_law_script", "_law_draws_here", "_law_members", "_law_rows_here", "_law_world_here", "_law_store_here", "_law_data", "_law_spots", "_law_paths", "_law_k", "_law_expected", "_law_j", "_law_actual", "_law_spot"]) (sc := defScope s_law) (by decide +kernel)) (fun _ _ _ _ _ => (g_name (i := 13) sc_law.nd rfl (.inl rfl))) (fun _ _ _ _ _ => ts_nil) (fun _ _ _ _ _ => (k_call (ok_lpath T) (hr.mono (by first | decide | omega)) (by rfl) T.g_lpath T.F_lpath.kp T.b_lpath pass0 (a_cons (k_var 4) (a_cons (k_var 13) a_nil)))))
    (s_cons (s_for PassesOwn.never rfl (pi_rng1 (by rfl) T.z_range (a_cons (k_callB d_len c_len (by rfl) T.z_len bt_len (a_cons (k_var 7) a_nil)) a_nil)) (g_name (i := 9) sc_law.nd rfl (.inl rfl))
      (s_cons (s_set (i := 10) sc_law.nd rfl (.inl rfl) k_non)
    (s_cons (s_if (t_cmp d_gt op_gt (k_callB d_len c_len (by rfl) T.z_len bt_len (a_cons (k_ix (k_var 8) (k_var 9)) a_nil)) k_int (nomark _))
      (s_one (s_set (i := 10) sc_law.nd rfl (.inl rfl) (k_callT d_tuple c_tuple (by rfl) T.z_tuple bt_tuple (a_cons (k_call (ok_info T) (hr.mono (by first | decide | omega)) (by rfl) T.g_info T.F_info.kp T.b_info pass0 (a_cons (k_var 4) (a_cons (k_ix (k_var 7) (k_var 9)) a_nil))) a_nil))))
      s_nil)
    (s_cons (s_if (t_not (t_val (k_call (ok_same T 40) (hr.mono (by first | decide | omega)) (by rfl) T.g_same T.F_same.kp T.b_same pass0 (a_cons (k_call (ok_capability_info T) (hr.mono (by first | decide | omega)) (by rfl) T.g_capability_info T.F_capability_info.kp T.b_capability_info pass0 (a_cons (k_var 5) (a_cons (k_ix (k_var 7) (k_var 9)) a_nil))) (a_cons (k_var 10) a_nil)))))
      (s_one (s_ret k_bl))
      s_nil)
    (s_one (s_for PassesOwn.never rfl (pi_rng1 (by rfl) T.z_range (a_cons (k_callB d_len c_len (by rfl) T.z_len bt_len (a_cons (k_var 7) a_nil)) a_nil)) (g_name (i := 11) sc_law.nd rfl (.inl rfl))
      (s_cons (s_set (i := 12) sc_law.nd rfl (.inl rfl) (k_call (ok_is_above T) (hr.mono (by first | decide | omega)) (by rfl) T.g_is_above T.F_is_above.kp T.b_is_above pass0 (a_cons (k_var 5) (a_cons (k_ix (k_var 7) (k_var 11)) (a_cons (k_ix (k_var 7) (k_var 9)) a_nil)))))
    (s_one (s_if (PW.pt (w_or (t_not (t_val (k_isi (k_var 12) (by rfl) T.z_isinstance (by rfl) T.z_bool bt_bool))) (w_or1 (t_cmp d_eq (o_ne hr.units) (k_var 12) (k_cmp d_inG (o_inG (u65 hr)) (k_ix (k_var 7) (k_var 11)) (k_ix (k_var 8) (k_var 9)) (by rfl)) (nomark _)))))
      (s_one (s_ret k_bl))
      s_nil)))))))))
    (s_one (s_ret (k_cmp d_eq (o_eq hr.units) (k_meth0 (c := 2) (k_var 5) T.cl_Store T.m_Store_data (ok_Store_data T) (hr.mono (by first | decide | omega)) T.b_Store_data pass0) (k_var 6) (nomark _)))))))))))))
end
theorem all_mk {l : PySem.W.OpenLaw} {w : World} {K : PySem.W.Frag} {h : Heap} {mg : Str → Option Value} {fa C_Change C_Kept C_Store f_as_tuple f_Change_init f_Change_header f_kept_info f_is_kept f_own_info f_path f_capability_info f_is_above f_Kept_init f_Kept_data f_Store_init f_Store_find f_Store_add f_Store_data f_kept_data f_mix f_draws f_at f_is_integer f_same f_full f_rights f_grants f_choice f_publics f_rows f_nothing f_world f_cut_world f_kept f_store f_find f_info f_lpath f_asked f_law : Addr} (X : K.In h) (G : h.Ns mainGlobals mg) (hfa : mg "law" = some (.ref fa))
    {od_as_tuple an_as_tuple : Option Addr} {sl_as_tuple : Array (Option Value)} {oc_as_tuple kV_as_tuple dc_as_tuple pm_as_tuple cd_as_tuple ct_as_tuple : Value}
    {od_Change_init an_Change_init : Option Addr} {sl_Change_init : Array (Option Value)} {oc_Change_init kV_Change_init dc_Change_init pm_Change_init cd_Change_init ct_Change_init : Value}
    {od_Change_header an_Change_header : Option Addr} {sl_Change_header : Array (Option Value)} {oc_Change_header kV_Change_header dc_Change_header pm_Change_header cd_Change_header ct_Change_header : Value}
    {od_kept_info an_kept_info : Option Addr} {sl_kept_info : Array (Option Value)} {oc_kept_info kV_kept_info dc_kept_info pm_kept_info cd_kept_info ct_kept_info : Value}
    {od_is_kept an_is_kept : Option Addr} {sl_is_kept : Array (Option Value)} {oc_is_kept kV_is_kept dc_is_kept pm_is_kept cd_is_kept ct_is_kept : Value}
    {od_own_info an_own_info : Option Addr} {sl_own_info : Array (Option Value)} {oc_own_info kV_own_info dc_own_info pm_own_info cd_own_info ct_own_info : Value}
    {od_path an_path : Option Addr} {sl_path : Array (Option Value)} {oc_path kV_path dc_path pm_path cd_path ct_path : Value}
    {od_capability_info an_capability_info : Option Addr} {sl_capability_info : Array (Option Value)} {oc_capability_info kV_capability_info dc_capability_info pm_capability_info cd_capability_info ct_capability_info : Value}
    {od_is_above an_is_above : Option Addr} {sl_is_above : Array (Option Value)} {oc_is_above kV_is_above dc_is_above pm_is_above cd_is_above ct_is_above : Value}
    {od_Kept_init an_Kept_init : Option Addr} {sl_Kept_init : Array (Option Value)} {oc_Kept_init kV_Kept_init dc_Kept_init pm_Kept_init cd_Kept_init ct_Kept_init : Value}
    {od_Kept_data an_Kept_data : Option Addr} {sl_Kept_data : Array (Option Value)} {oc_Kept_data kV_Kept_data dc_Kept_data pm_Kept_data cd_Kept_data ct_Kept_data : Value}
    {od_Store_init an_Store_init : Option Addr} {sl_Store_init : Array (Option Value)} {oc_Store_init kV_Store_init dc_Store_init pm_Store_init cd_Store_init ct_Store_init : Value}
    {od_Store_find an_Store_find : Option Addr} {sl_Store_find : Array (Option Value)} {oc_Store_find kV_Store_find dc_Store_find pm_Store_find cd_Store_find ct_Store_find : Value}
    {od_Store_add an_Store_add : Option Addr} {sl_Store_add : Array (Option Value)} {oc_Store_add kV_Store_add dc_Store_add pm_Store_add cd_Store_add ct_Store_add : Value}
    {od_Store_data an_Store_data : Option Addr} {sl_Store_data : Array (Option Value)} {oc_Store_data kV_Store_data dc_Store_data pm_Store_data cd_Store_data ct_Store_data : Value}
    {od_kept_data an_kept_data : Option Addr} {sl_kept_data : Array (Option Value)} {oc_kept_data kV_kept_data dc_kept_data pm_kept_data cd_kept_data ct_kept_data : Value}
    {od_mix an_mix : Option Addr} {sl_mix : Array (Option Value)} {oc_mix kV_mix dc_mix pm_mix cd_mix ct_mix : Value}
    {od_draws an_draws : Option Addr} {sl_draws : Array (Option Value)} {oc_draws kV_draws dc_draws pm_draws cd_draws ct_draws : Value}
    {od_at an_at : Option Addr} {sl_at : Array (Option Value)} {oc_at kV_at dc_at pm_at cd_at ct_at : Value}
    {od_is_integer an_is_integer : Option Addr} {sl_is_integer : Array (Option Value)} {oc_is_integer kV_is_integer dc_is_integer pm_is_integer cd_is_integer ct_is_integer : Value}
    {od_same an_same : Option Addr} {sl_same : Array (Option Value)} {oc_same kV_same dc_same pm_same cd_same ct_same : Value}
    {od_full an_full : Option Addr} {sl_full : Array (Option Value)} {oc_full kV_full dc_full pm_full cd_full ct_full : Value}
    {od_rights an_rights : Option Addr} {sl_rights : Array (Option Value)} {oc_rights kV_rights dc_rights pm_rights cd_rights ct_rights : Value}
    {od_grants an_grants : Option Addr} {sl_grants : Array (Option Value)} {oc_grants kV_grants dc_grants pm_grants cd_grants ct_grants : Value}
    {od_choice an_choice : Option Addr} {sl_choice : Array (Option Value)} {oc_choice kV_choice dc_choice pm_choice cd_choice ct_choice : Value}
    {od_publics an_publics : Option Addr} {sl_publics : Array (Option Value)} {oc_publics kV_publics dc_publics pm_publics cd_publics ct_publics : Value}
    {od_rows an_rows : Option Addr} {sl_rows : Array (Option Value)} {oc_rows kV_rows dc_rows pm_rows cd_rows ct_rows : Value}
    {od_nothing an_nothing : Option Addr} {sl_nothing : Array (Option Value)} {oc_nothing kV_nothing dc_nothing pm_nothing cd_nothing ct_nothing : Value}
    {od_world an_world : Option Addr} {sl_world : Array (Option Value)} {oc_world kV_world dc_world pm_world cd_world ct_world : Value}
    {od_cut_world an_cut_world : Option Addr} {sl_cut_world : Array (Option Value)} {oc_cut_world kV_cut_world dc_cut_world pm_cut_world cd_cut_world ct_cut_world : Value}
    {od_kept an_kept : Option Addr} {sl_kept : Array (Option Value)} {oc_kept kV_kept dc_kept pm_kept cd_kept ct_kept : Value}
    {od_store an_store : Option Addr} {sl_store : Array (Option Value)} {oc_store kV_store dc_store pm_store cd_store ct_store : Value}
    {od_find an_find : Option Addr} {sl_find : Array (Option Value)} {oc_find kV_find dc_find pm_find cd_find ct_find : Value}
    {od_info an_info : Option Addr} {sl_info : Array (Option Value)} {oc_info kV_info dc_info pm_info cd_info ct_info : Value}
    {od_lpath an_lpath : Option Addr} {sl_lpath : Array (Option Value)} {oc_lpath kV_lpath dc_lpath pm_lpath cd_lpath ct_lpath : Value}
    {od_asked an_asked : Option Addr} {sl_asked : Array (Option Value)} {oc_asked kV_asked dc_asked pm_asked cd_asked ct_asked : Value}
    {od_law an_law : Option Addr} {sl_law : Array (Option Value)} {oc_law kV_law dc_law pm_law cd_law ct_law : Value}
    (aC_Change : PySem.W.nsIn K mainGlobals "Change" = some (some (.ref C_Change)))
    (pg_Change : PySem.W.plainGet K C_Change Str.empty = true)
    (hd_Change : PySem.W.hasDictIn K C_Change = true)
    (po_Change : PySem.W.plainOver K C_Change = true)
    (sa_Change : PySem.W.findIn K (.ref C_Change) "__setattr__" = some (some (.builtin "object.__setattr__")))
    (mk_Change : PySem.W.makesIn K C_Change = true)
    (kc_Change : PySem.W.keepIn K (.ref C_Change) = true)
    (n_Change_author : PySem.W.findIn K (.ref C_Change) "author" = some none)
    (n_Change_capability : PySem.W.findIn K (.ref C_Change) "capability" = some none)
    (n_Change_heard : PySem.W.findIn K (.ref C_Change) "heard" = some none)
    (n_Change_number : PySem.W.findIn K (.ref C_Change) "number" = some none)
    (n_Change_parts : PySem.W.findIn K (.ref C_Change) "parts" = some none)
    (n_Change_publics : PySem.W.findIn K (.ref C_Change) "publics" = some none)
    (aC_Kept : PySem.W.nsIn K mainGlobals "Kept" = some (some (.ref C_Kept)))
    (pg_Kept : PySem.W.plainGet K C_Kept Str.empty = true)
    (hd_Kept : PySem.W.hasDictIn K C_Kept = true)
    (po_Kept : PySem.W.plainOver K C_Kept = true)
    (sa_Kept : PySem.W.findIn K (.ref C_Kept) "__setattr__" = some (some (.builtin "object.__setattr__")))
    (mk_Kept : PySem.W.makesIn K C_Kept = true)
    (kc_Kept : PySem.W.keepIn K (.ref C_Kept) = true)
    (n_Kept_acts : PySem.W.findIn K (.ref C_Kept) "acts" = some none)
    (n_Kept_sums : PySem.W.findIn K (.ref C_Kept) "sums" = some none)
    (n_Kept_texts : PySem.W.findIn K (.ref C_Kept) "texts" = some none)
    (aC_Store : PySem.W.nsIn K mainGlobals "Store" = some (some (.ref C_Store)))
    (pg_Store : PySem.W.plainGet K C_Store Str.empty = true)
    (hd_Store : PySem.W.hasDictIn K C_Store = true)
    (po_Store : PySem.W.plainOver K C_Store = true)
    (sa_Store : PySem.W.findIn K (.ref C_Store) "__setattr__" = some (some (.builtin "object.__setattr__")))
    (mk_Store : PySem.W.makesIn K C_Store = true)
    (kc_Store : PySem.W.keepIn K (.ref C_Store) = true)
    (n_Store_capabilities : PySem.W.findIn K (.ref C_Store) "capabilities" = some none)
    (n_Store_changes : PySem.W.findIn K (.ref C_Store) "changes" = some none)
    (n_Store_cut : PySem.W.findIn K (.ref C_Store) "cut" = some none)
    (n_Store_kept : PySem.W.findIn K (.ref C_Store) "kept" = some none)
    (n_Store_members : PySem.W.findIn K (.ref C_Store) "members" = some none)
    (a_as_tuple : PySem.W.nsIn K mainGlobals "_as_tuple" = some (some (.ref f_as_tuple)))
    (l_as_tuple : K.lookup f_as_tuple = some ⟨oc_as_tuple, od_as_tuple, .func (PySem.W.fnOf "_as_tuple" "_as_tuple" (defArgs s_as_tuple) (defBody s_as_tuple) (defScope s_as_tuple) .none kV_as_tuple dc_as_tuple pm_as_tuple an_as_tuple cd_as_tuple ct_as_tuple), sl_as_tuple⟩)
    (c_as_tuple : PySem.W.codeIn K cd_as_tuple "_as_tuple" = true)
    (k_as_tuple : PySem.W.keepIn K (.ref f_as_tuple) = true)
    (a_Change_init : PySem.W.findIn K (.ref C_Change) "__init__" = some (some (.ref f_Change_init)))
    (i_Change_init : PySem.W.isFn K (.ref f_Change_init) = true)
    (l_Change_init : K.lookup f_Change_init = some ⟨oc_Change_init, od_Change_init, .func (PySem.W.fnOf "__init__" "Change.__init__" (defArgs s_Change_init) (defBody s_Change_init) (defScope s_Change_init) .none kV_Change_init dc_Change_init pm_Change_init an_Change_init cd_Change_init ct_Change_init), sl_Change_init⟩)
    (c_Change_init : PySem.W.codeIn K cd_Change_init "Change.__init__" = true)
    (k_Change_init : PySem.W.keepIn K (.ref f_Change_init) = true)
    (a_Change_header : PySem.W.findIn K (.ref C_Change) "header" = some (some (.ref f_Change_header)))
    (i_Change_header : PySem.W.isFn K (.ref f_Change_header) = true)
    (l_Change_header : K.lookup f_Change_header = some ⟨oc_Change_header, od_Change_header, .func (PySem.W.fnOf "header" "Change.header" (defArgs s_Change_header) (defBody s_Change_header) (defScope s_Change_header) .none kV_Change_header dc_Change_header pm_Change_header an_Change_header cd_Change_header ct_Change_header), sl_Change_header⟩)
    (c_Change_header : PySem.W.codeIn K cd_Change_header "Change.header" = true)
    (k_Change_header : PySem.W.keepIn K (.ref f_Change_header) = true)
    (a_kept_info : PySem.W.nsIn K mainGlobals "_kept_info" = some (some (.ref f_kept_info)))
    (l_kept_info : K.lookup f_kept_info = some ⟨oc_kept_info, od_kept_info, .func (PySem.W.fnOf "_kept_info" "_kept_info" (defArgs s_kept_info) (defBody s_kept_info) (defScope s_kept_info) .none kV_kept_info dc_kept_info pm_kept_info an_kept_info cd_kept_info ct_kept_info), sl_kept_info⟩)
    (c_kept_info : PySem.W.codeIn K cd_kept_info "_kept_info" = true)
    (k_kept_info : PySem.W.keepIn K (.ref f_kept_info) = true)
    (a_is_kept : PySem.W.nsIn K mainGlobals "_is_kept" = some (some (.ref f_is_kept)))
    (l_is_kept : K.lookup f_is_kept = some ⟨oc_is_kept, od_is_kept, .func (PySem.W.fnOf "_is_kept" "_is_kept" (defArgs s_is_kept) (defBody s_is_kept) (defScope s_is_kept) .none kV_is_kept dc_is_kept pm_is_kept an_is_kept cd_is_kept ct_is_kept), sl_is_kept⟩)
    (c_is_kept : PySem.W.codeIn K cd_is_kept "_is_kept" = true)
    (k_is_kept : PySem.W.keepIn K (.ref f_is_kept) = true)
    (a_own_info : PySem.W.nsIn K mainGlobals "_own_info" = some (some (.ref f_own_info)))
    (l_own_info : K.lookup f_own_info = some ⟨oc_own_info, od_own_info, .func (PySem.W.fnOf "_own_info" "_own_info" (defArgs s_own_info) (defBody s_own_info) (defScope s_own_info) .none kV_own_info dc_own_info pm_own_info an_own_info cd_own_info ct_own_info), sl_own_info⟩)
    (c_own_info : PySem.W.codeIn K cd_own_info "_own_info" = true)
    (k_own_info : PySem.W.keepIn K (.ref f_own_info) = true)
    (a_path : PySem.W.nsIn K mainGlobals "_path" = some (some (.ref f_path)))
    (l_path : K.lookup f_path = some ⟨oc_path, od_path, .func (PySem.W.fnOf "_path" "_path" (defArgs s_path) (defBody s_path) (defScope s_path) .none kV_path dc_path pm_path an_path cd_path ct_path), sl_path⟩)
    (c_path : PySem.W.codeIn K cd_path "_path" = true)
    (k_path : PySem.W.keepIn K (.ref f_path) = true)
    (a_capability_info : PySem.W.nsIn K mainGlobals "capability_info" = some (some (.ref f_capability_info)))
    (l_capability_info : K.lookup f_capability_info = some ⟨oc_capability_info, od_capability_info, .func (PySem.W.fnOf "capability_info" "capability_info" (defArgs s_capability_info) (defBody s_capability_info) (defScope s_capability_info) .none kV_capability_info dc_capability_info pm_capability_info an_capability_info cd_capability_info ct_capability_info), sl_capability_info⟩)
    (c_capability_info : PySem.W.codeIn K cd_capability_info "capability_info" = true)
    (k_capability_info : PySem.W.keepIn K (.ref f_capability_info) = true)
    (a_is_above : PySem.W.nsIn K mainGlobals "is_above" = some (some (.ref f_is_above)))
    (l_is_above : K.lookup f_is_above = some ⟨oc_is_above, od_is_above, .func (PySem.W.fnOf "is_above" "is_above" (defArgs s_is_above) (defBody s_is_above) (defScope s_is_above) .none kV_is_above dc_is_above pm_is_above an_is_above cd_is_above ct_is_above), sl_is_above⟩)
    (c_is_above : PySem.W.codeIn K cd_is_above "is_above" = true)
    (k_is_above : PySem.W.keepIn K (.ref f_is_above) = true)
    (a_Kept_init : PySem.W.findIn K (.ref C_Kept) "__init__" = some (some (.ref f_Kept_init)))
    (i_Kept_init : PySem.W.isFn K (.ref f_Kept_init) = true)
    (l_Kept_init : K.lookup f_Kept_init = some ⟨oc_Kept_init, od_Kept_init, .func (PySem.W.fnOf "__init__" "Kept.__init__" (defArgs s_Kept_init) (defBody s_Kept_init) (defScope s_Kept_init) .none kV_Kept_init dc_Kept_init pm_Kept_init an_Kept_init cd_Kept_init ct_Kept_init), sl_Kept_init⟩)
    (c_Kept_init : PySem.W.codeIn K cd_Kept_init "Kept.__init__" = true)
    (k_Kept_init : PySem.W.keepIn K (.ref f_Kept_init) = true)
    (a_Kept_data : PySem.W.findIn K (.ref C_Kept) "data" = some (some (.ref f_Kept_data)))
    (i_Kept_data : PySem.W.isFn K (.ref f_Kept_data) = true)
    (l_Kept_data : K.lookup f_Kept_data = some ⟨oc_Kept_data, od_Kept_data, .func (PySem.W.fnOf "data" "Kept.data" (defArgs s_Kept_data) (defBody s_Kept_data) (defScope s_Kept_data) .none kV_Kept_data dc_Kept_data pm_Kept_data an_Kept_data cd_Kept_data ct_Kept_data), sl_Kept_data⟩)
    (c_Kept_data : PySem.W.codeIn K cd_Kept_data "Kept.data" = true)
    (k_Kept_data : PySem.W.keepIn K (.ref f_Kept_data) = true)
    (a_Store_init : PySem.W.findIn K (.ref C_Store) "__init__" = some (some (.ref f_Store_init)))
    (i_Store_init : PySem.W.isFn K (.ref f_Store_init) = true)
    (l_Store_init : K.lookup f_Store_init = some ⟨oc_Store_init, od_Store_init, .func (PySem.W.fnOf "__init__" "Store.__init__" (defArgs s_Store_init) (defBody s_Store_init) (defScope s_Store_init) .none kV_Store_init dc_Store_init pm_Store_init an_Store_init cd_Store_init ct_Store_init), sl_Store_init⟩)
    (c_Store_init : PySem.W.codeIn K cd_Store_init "Store.__init__" = true)
    (k_Store_init : PySem.W.keepIn K (.ref f_Store_init) = true)
    (a_Store_find : PySem.W.findIn K (.ref C_Store) "find" = some (some (.ref f_Store_find)))
    (i_Store_find : PySem.W.isFn K (.ref f_Store_find) = true)
    (l_Store_find : K.lookup f_Store_find = some ⟨oc_Store_find, od_Store_find, .func (PySem.W.fnOf "find" "Store.find" (defArgs s_Store_find) (defBody s_Store_find) (defScope s_Store_find) .none kV_Store_find dc_Store_find pm_Store_find an_Store_find cd_Store_find ct_Store_find), sl_Store_find⟩)
    (c_Store_find : PySem.W.codeIn K cd_Store_find "Store.find" = true)
    (k_Store_find : PySem.W.keepIn K (.ref f_Store_find) = true)
    (a_Store_add : PySem.W.findIn K (.ref C_Store) "add" = some (some (.ref f_Store_add)))
    (i_Store_add : PySem.W.isFn K (.ref f_Store_add) = true)
    (l_Store_add : K.lookup f_Store_add = some ⟨oc_Store_add, od_Store_add, .func (PySem.W.fnOf "add" "Store.add" (defArgs s_Store_add) (defBody s_Store_add) (defScope s_Store_add) .none kV_Store_add dc_Store_add pm_Store_add an_Store_add cd_Store_add ct_Store_add), sl_Store_add⟩)
    (c_Store_add : PySem.W.codeIn K cd_Store_add "Store.add" = true)
    (k_Store_add : PySem.W.keepIn K (.ref f_Store_add) = true)
    (a_Store_data : PySem.W.findIn K (.ref C_Store) "data" = some (some (.ref f_Store_data)))
    (i_Store_data : PySem.W.isFn K (.ref f_Store_data) = true)
    (l_Store_data : K.lookup f_Store_data = some ⟨oc_Store_data, od_Store_data, .func (PySem.W.fnOf "data" "Store.data" (defArgs s_Store_data) (defBody s_Store_data) (defScope s_Store_data) .none kV_Store_data dc_Store_data pm_Store_data an_Store_data cd_Store_data ct_Store_data), sl_Store_data⟩)
    (c_Store_data : PySem.W.codeIn K cd_Store_data "Store.data" = true)
    (k_Store_data : PySem.W.keepIn K (.ref f_Store_data) = true)
    (a_kept_data : PySem.W.nsIn K mainGlobals "_kept_data" = some (some (.ref f_kept_data)))
    (l_kept_data : K.lookup f_kept_data = some ⟨oc_kept_data, od_kept_data, .func (PySem.W.fnOf "_kept_data" "_kept_data" (defArgs s_kept_data) (defBody s_kept_data) (defScope s_kept_data) .none kV_kept_data dc_kept_data pm_kept_data an_kept_data cd_kept_data ct_kept_data), sl_kept_data⟩)
    (c_kept_data : PySem.W.codeIn K cd_kept_data "_kept_data" = true)
    (k_kept_data : PySem.W.keepIn K (.ref f_kept_data) = true)
    (a_mix : PySem.W.nsIn K mainGlobals "_law_mix" = some (some (.ref f_mix)))
    (l_mix : K.lookup f_mix = some ⟨oc_mix, od_mix, .func (PySem.W.fnOf "_law_mix" "_law_mix" (defArgs s_mix) (defBody s_mix) (defScope s_mix) .none kV_mix dc_mix pm_mix an_mix cd_mix ct_mix), sl_mix⟩)
    (c_mix : PySem.W.codeIn K cd_mix "_law_mix" = true)
    (k_mix : PySem.W.keepIn K (.ref f_mix) = true)
    (a_draws : PySem.W.nsIn K mainGlobals "_law_draws" = some (some (.ref f_draws)))
    (l_draws : K.lookup f_draws = some ⟨oc_draws, od_draws, .func (PySem.W.fnOf "_law_draws" "_law_draws" (defArgs s_draws) (defBody s_draws) (defScope s_draws) .none kV_draws dc_draws pm_draws an_draws cd_draws ct_draws), sl_draws⟩)
    (c_draws : PySem.W.codeIn K cd_draws "_law_draws" = true)
    (k_draws : PySem.W.keepIn K (.ref f_draws) = true)
    (a_at : PySem.W.nsIn K mainGlobals "_law_at" = some (some (.ref f_at)))
    (l_at : K.lookup f_at = some ⟨oc_at, od_at, .func (PySem.W.fnOf "_law_at" "_law_at" (defArgs s_at) (defBody s_at) (defScope s_at) .none kV_at dc_at pm_at an_at cd_at ct_at), sl_at⟩)
    (c_at : PySem.W.codeIn K cd_at "_law_at" = true)
    (k_at : PySem.W.keepIn K (.ref f_at) = true)
    (a_is_integer : PySem.W.nsIn K mainGlobals "_law_is_integer" = some (some (.ref f_is_integer)))
    (l_is_integer : K.lookup f_is_integer = some ⟨oc_is_integer, od_is_integer, .func (PySem.W.fnOf "_law_is_integer" "_law_is_integer" (defArgs s_is_integer) (defBody s_is_integer) (defScope s_is_integer) .none kV_is_integer dc_is_integer pm_is_integer an_is_integer cd_is_integer ct_is_integer), sl_is_integer⟩)
    (c_is_integer : PySem.W.codeIn K cd_is_integer "_law_is_integer" = true)
    (k_is_integer : PySem.W.keepIn K (.ref f_is_integer) = true)
    (a_same : PySem.W.nsIn K mainGlobals "_law_same" = some (some (.ref f_same)))
    (l_same : K.lookup f_same = some ⟨oc_same, od_same, .func (PySem.W.fnOf "_law_same" "_law_same" (defArgs s_same) (defBody s_same) (defScope s_same) .none kV_same dc_same pm_same an_same cd_same ct_same), sl_same⟩)
    (c_same : PySem.W.codeIn K cd_same "_law_same" = true)
    (k_same : PySem.W.keepIn K (.ref f_same) = true)
    (a_full : PySem.W.nsIn K mainGlobals "_law_full" = some (some (.ref f_full)))
    (l_full : K.lookup f_full = some ⟨oc_full, od_full, .func (PySem.W.fnOf "_law_full" "_law_full" (defArgs s_full) (defBody s_full) (defScope s_full) .none kV_full dc_full pm_full an_full cd_full ct_full), sl_full⟩)
    (c_full : PySem.W.codeIn K cd_full "_law_full" = true)
    (k_full : PySem.W.keepIn K (.ref f_full) = true)
    (a_rights : PySem.W.nsIn K mainGlobals "_law_rights" = some (some (.ref f_rights)))
    (l_rights : K.lookup f_rights = some ⟨oc_rights, od_rights, .func (PySem.W.fnOf "_law_rights" "_law_rights" (defArgs s_rights) (defBody s_rights) (defScope s_rights) .none kV_rights dc_rights pm_rights an_rights cd_rights ct_rights), sl_rights⟩)
    (c_rights : PySem.W.codeIn K cd_rights "_law_rights" = true)
    (k_rights : PySem.W.keepIn K (.ref f_rights) = true)
    (a_grants : PySem.W.nsIn K mainGlobals "_law_grants" = some (some (.ref f_grants)))
    (l_grants : K.lookup f_grants = some ⟨oc_grants, od_grants, .func (PySem.W.fnOf "_law_grants" "_law_grants" (defArgs s_grants) (defBody s_grants) (defScope s_grants) .none kV_grants dc_grants pm_grants an_grants cd_grants ct_grants), sl_grants⟩)
    (c_grants : PySem.W.codeIn K cd_grants "_law_grants" = true)
    (k_grants : PySem.W.keepIn K (.ref f_grants) = true)
    (a_choice : PySem.W.nsIn K mainGlobals "_law_choice" = some (some (.ref f_choice)))
    (l_choice : K.lookup f_choice = some ⟨oc_choice, od_choice, .func (PySem.W.fnOf "_law_choice" "_law_choice" (defArgs s_choice) (defBody s_choice) (defScope s_choice) .none kV_choice dc_choice pm_choice an_choice cd_choice ct_choice), sl_choice⟩)
    (c_choice : PySem.W.codeIn K cd_choice "_law_choice" = true)
    (k_choice : PySem.W.keepIn K (.ref f_choice) = true)
    (a_publics : PySem.W.nsIn K mainGlobals "_law_publics" = some (some (.ref f_publics)))
    (l_publics : K.lookup f_publics = some ⟨oc_publics, od_publics, .func (PySem.W.fnOf "_law_publics" "_law_publics" (defArgs s_publics) (defBody s_publics) (defScope s_publics) .none kV_publics dc_publics pm_publics an_publics cd_publics ct_publics), sl_publics⟩)
    (c_publics : PySem.W.codeIn K cd_publics "_law_publics" = true)
    (k_publics : PySem.W.keepIn K (.ref f_publics) = true)
    (a_rows : PySem.W.nsIn K mainGlobals "_law_rows" = some (some (.ref f_rows)))
    (l_rows : K.lookup f_rows = some ⟨oc_rows, od_rows, .func (PySem.W.fnOf "_law_rows" "_law_rows" (defArgs s_rows) (defBody s_rows) (defScope s_rows) .none kV_rows dc_rows pm_rows an_rows cd_rows ct_rows), sl_rows⟩)
    (c_rows : PySem.W.codeIn K cd_rows "_law_rows" = true)
    (k_rows : PySem.W.keepIn K (.ref f_rows) = true)
    (a_nothing : PySem.W.nsIn K mainGlobals "_law_nothing" = some (some (.ref f_nothing)))
    (l_nothing : K.lookup f_nothing = some ⟨oc_nothing, od_nothing, .func (PySem.W.fnOf "_law_nothing" "_law_nothing" (defArgs s_nothing) (defBody s_nothing) (defScope s_nothing) .none kV_nothing dc_nothing pm_nothing an_nothing cd_nothing ct_nothing), sl_nothing⟩)
    (c_nothing : PySem.W.codeIn K cd_nothing "_law_nothing" = true)
    (k_nothing : PySem.W.keepIn K (.ref f_nothing) = true)
    (a_world : PySem.W.nsIn K mainGlobals "_law_world" = some (some (.ref f_world)))
    (l_world : K.lookup f_world = some ⟨oc_world, od_world, .func (PySem.W.fnOf "_law_world" "_law_world" (defArgs s_world) (defBody s_world) (defScope s_world) .none kV_world dc_world pm_world an_world cd_world ct_world), sl_world⟩)
    (c_world : PySem.W.codeIn K cd_world "_law_world" = true)
    (k_world : PySem.W.keepIn K (.ref f_world) = true)
    (a_cut_world : PySem.W.nsIn K mainGlobals "_law_cut_world" = some (some (.ref f_cut_world)))
    (l_cut_world : K.lookup f_cut_world = some ⟨oc_cut_world, od_cut_world, .func (PySem.W.fnOf "_law_cut_world" "_law_cut_world" (defArgs s_cut_world) (defBody s_cut_world) (defScope s_cut_world) .none kV_cut_world dc_cut_world pm_cut_world an_cut_world cd_cut_world ct_cut_world), sl_cut_world⟩)
    (c_cut_world : PySem.W.codeIn K cd_cut_world "_law_cut_world" = true)
    (k_cut_world : PySem.W.keepIn K (.ref f_cut_world) = true)
    (a_kept : PySem.W.nsIn K mainGlobals "_law_kept" = some (some (.ref f_kept)))
    (l_kept : K.lookup f_kept = some ⟨oc_kept, od_kept, .func (PySem.W.fnOf "_law_kept" "_law_kept" (defArgs s_kept) (defBody s_kept) (defScope s_kept) .none kV_kept dc_kept pm_kept an_kept cd_kept ct_kept), sl_kept⟩)
    (c_kept : PySem.W.codeIn K cd_kept "_law_kept" = true)
    (k_kept : PySem.W.keepIn K (.ref f_kept) = true)
    (a_store : PySem.W.nsIn K mainGlobals "_law_store" = some (some (.ref f_store)))
    (l_store : K.lookup f_store = some ⟨oc_store, od_store, .func (PySem.W.fnOf "_law_store" "_law_store" (defArgs s_store) (defBody s_store) (defScope s_store) .none kV_store dc_store pm_store an_store cd_store ct_store), sl_store⟩)
    (c_store : PySem.W.codeIn K cd_store "_law_store" = true)
    (k_store : PySem.W.keepIn K (.ref f_store) = true)
    (a_find : PySem.W.nsIn K mainGlobals "_law_find" = some (some (.ref f_find)))
    (l_find : K.lookup f_find = some ⟨oc_find, od_find, .func (PySem.W.fnOf "_law_find" "_law_find" (defArgs s_find) (defBody s_find) (defScope s_find) .none kV_find dc_find pm_find an_find cd_find ct_find), sl_find⟩)
    (c_find : PySem.W.codeIn K cd_find "_law_find" = true)
    (k_find : PySem.W.keepIn K (.ref f_find) = true)
    (a_info : PySem.W.nsIn K mainGlobals "_law_info" = some (some (.ref f_info)))
    (l_info : K.lookup f_info = some ⟨oc_info, od_info, .func (PySem.W.fnOf "_law_info" "_law_info" (defArgs s_info) (defBody s_info) (defScope s_info) .none kV_info dc_info pm_info an_info cd_info ct_info), sl_info⟩)
    (c_info : PySem.W.codeIn K cd_info "_law_info" = true)
    (k_info : PySem.W.keepIn K (.ref f_info) = true)
    (a_lpath : PySem.W.nsIn K mainGlobals "_law_path" = some (some (.ref f_lpath)))
    (l_lpath : K.lookup f_lpath = some ⟨oc_lpath, od_lpath, .func (PySem.W.fnOf "_law_path" "_law_path" (defArgs s_lpath) (defBody s_lpath) (defScope s_lpath) .none kV_lpath dc_lpath pm_lpath an_lpath cd_lpath ct_lpath), sl_lpath⟩)
    (c_lpath : PySem.W.codeIn K cd_lpath "_law_path" = true)
    (k_lpath : PySem.W.keepIn K (.ref f_lpath) = true)
    (a_asked : PySem.W.nsIn K mainGlobals "_law_asked" = some (some (.ref f_asked)))
    (l_asked : K.lookup f_asked = some ⟨oc_asked, od_asked, .func (PySem.W.fnOf "_law_asked" "_law_asked" (defArgs s_asked) (defBody s_asked) (defScope s_asked) .none kV_asked dc_asked pm_asked an_asked cd_asked ct_asked), sl_asked⟩)
    (c_asked : PySem.W.codeIn K cd_asked "_law_asked" = true)
    (k_asked : PySem.W.keepIn K (.ref f_asked) = true)
    (a_law : PySem.W.nsIn K mainGlobals "law" = some (some (.ref f_law)))
    (l_law : K.lookup f_law = some ⟨oc_law, od_law, .func (PySem.W.fnOf "law" "law" (defArgs s_law) (defBody s_law) (defScope s_law) .none kV_law dc_law pm_law an_law cd_law ct_law), sl_law⟩)
    (c_law : PySem.W.codeIn K cd_law "law" = true)
    (k_law : PySem.W.keepIn K (.ref f_law) = true)
    (z_bool : PySem.W.nsIn K mainGlobals "bool" = some none)
    (z_int : PySem.W.nsIn K mainGlobals "int" = some none)
    (z_isinstance : PySem.W.nsIn K mainGlobals "isinstance" = some none)
    (z_len : PySem.W.nsIn K mainGlobals "len" = some none)
    (z_list : PySem.W.nsIn K mainGlobals "list" = some none)
    (z_max : PySem.W.nsIn K mainGlobals "max" = some none)
    (z_min : PySem.W.nsIn K mainGlobals "min" = some none)
    (z_range : PySem.W.nsIn K mainGlobals "range" = some none)
    (z_sorted : PySem.W.nsIn K mainGlobals "sorted" = some none)
    (z_str : PySem.W.nsIn K mainGlobals "str" = some none)
    (z_tuple : PySem.W.nsIn K mainGlobals "tuple" = some none)
    {u_ALLRIGHTS : Value} {v_ALLRIGHTS : V}
    {u_SPACES : Value} {v_SPACES : V}
    (gc_ALLRIGHTS : PySem.W.nsIn K mainGlobals "ALL_RIGHTS" = some (some u_ALLRIGHTS)) (rc_ALLRIGHTS : RelV v_ALLRIGHTS u_ALLRIGHTS) (qc_ALLRIGHTS : ∀ (F : Hp) (cl : Nat → Addr), Rp K cl F Kb.u_ALLRIGHTS v_ALLRIGHTS) (tc_ALLRIGHTS : TupC K v_ALLRIGHTS)
    (gc_SPACES : PySem.W.nsIn K mainGlobals "SPACES" = some (some u_SPACES)) (rc_SPACES : RelV v_SPACES u_SPACES) (qc_SPACES : ∀ (F : Hp) (cl : Nat → Addr), Rp K cl F Kb.u_SPACES v_SPACES)
    : ∃ fd : FuncData, (∀ (s : Shared) (v : Value), BindsTo s fd ⟨[v], []⟩ [("_law_script", v)]) ∧ ∀ base : Heap, K.In base → base.Ns mainGlobals mg → FnOk l.prog w K mg base CX0 42 fa fd ["_law_script"] (spLaw K) := by
  have e := hfa.symm.trans (PySem.W.mg_of X G a_law)
  have e2 : fa = f_law := by cases e; rfl
  rw [e2]
  exact ⟨PySem.W.fnOf "law" "law" (defArgs s_law) (defBody s_law) (defScope s_law) .none kV_law dc_law pm_law an_law cd_law ct_law, fun s v => .of_eq rfl, fun base _ _ =>
    (ok_law { 
      u_ALLRIGHTS := u_ALLRIGHTS
      v_ALLRIGHTS := v_ALLRIGHTS
      g_ALLRIGHTS := PySem.W.mg_of X G gc_ALLRIGHTS
      r_ALLRIGHTS := rc_ALLRIGHTS
      q_ALLRIGHTS := qc_ALLRIGHTS
      t_ALLRIGHTS := tc_ALLRIGHTS
      u_SPACES := u_SPACES
      v_SPACES := v_SPACES
      g_SPACES := PySem.W.mg_of X G gc_SPACES
      r_SPACES := rc_SPACES
      q_SPACES := qc_SPACES
      c_Change := C_Change
      cl_Change := ⟨pg_Change, hd_Change, po_Change, sa_Change⟩
      g_Change := PySem.W.mg_of X G aC_Change
      n_Change_author := n_Change_author
      n_Change_capability := n_Change_capability
      n_Change_heard := n_Change_heard
      n_Change_number := n_Change_number
      n_Change_parts := n_Change_parts
      n_Change_publics := n_Change_publics
      c_Kept := C_Kept
      cl_Kept := ⟨pg_Kept, hd_Kept, po_Kept, sa_Kept⟩
      g_Kept := PySem.W.mg_of X G aC_Kept
      n_Kept_acts := n_Kept_acts
      n_Kept_sums := n_Kept_sums
      n_Kept_texts := n_Kept_texts
      c_Store := C_Store
      cl_Store := ⟨pg_Store, hd_Store, po_Store, sa_Store⟩
      g_Store := PySem.W.mg_of X G aC_Store
      n_Store_capabilities := n_Store_capabilities
      n_Store_changes := n_Store_changes
      n_Store_cut := n_Store_cut
      n_Store_kept := n_Store_kept
      n_Store_members := n_Store_members
      a_as_tuple := f_as_tuple
      d_as_tuple := PySem.W.fnOf "_as_tuple" "_as_tuple" (defArgs s_as_tuple) (defBody s_as_tuple) (defScope s_as_tuple) .none kV_as_tuple dc_as_tuple pm_as_tuple an_as_tuple cd_as_tuple ct_as_tuple
      F_as_tuple := fun_mk (st := s_as_tuple) l_as_tuple c_as_tuple k_as_tuple
      b_as_tuple := (fun_mk (st := s_as_tuple) l_as_tuple c_as_tuple k_as_tuple).binds (ps := ["part"]) fun _ _ _ _ _ _ us hl => match us, hl with | [_], _ => rfl
      g_as_tuple := PySem.W.mg_of X G a_as_tuple
      a_Change_init := f_Change_init
      d_Change_init := PySem.W.fnOf "__init__" "Change.__init__" (defArgs s_Change_init) (defBody s_Change_init) (defScope s_Change_init) .none kV_Change_init dc_Change_init pm_Change_init an_Change_init cd_Change_init ct_Change_init
      F_Change_init := fun_mk (st := s_Change_init) l_Change_init c_Change_init k_Change_init
      b_Change_init := (fun_mk (st := s_Change_init) l_Change_init c_Change_init k_Change_init).binds (ps := ["self", "author", "number", "heard", "capability", "publics", "parts"]) fun _ _ _ _ _ _ us hl => match us, hl with | [_, _, _, _, _, _, _], _ => rfl
      M_Change := ⟨mk_Change, a_Change_init, i_Change_init, kc_Change⟩
      a_Change_header := f_Change_header
      d_Change_header := PySem.W.fnOf "header" "Change.header" (defArgs s_Change_header) (defBody s_Change_header) (defScope s_Change_header) .none kV_Change_header dc_Change_header pm_Change_header an_Change_header cd_Change_header ct_Change_header
      F_Change_header := fun_mk (st := s_Change_header) l_Change_header c_Change_header k_Change_header
      b_Change_header := (fun_mk (st := s_Change_header) l_Change_header c_Change_header k_Change_header).binds (ps := ["self"]) fun _ _ _ _ _ _ us hl => match us, hl with | [_], _ => rfl
      m_Change_header := ⟨a_Change_header, i_Change_header, k_Change_header⟩
      a_kept_info := f_kept_info
      d_kept_info := PySem.W.fnOf "_kept_info" "_kept_info" (defArgs s_kept_info) (defBody s_kept_info) (defScope s_kept_info) .none kV_kept_info dc_kept_info pm_kept_info an_kept_info cd_kept_info ct_kept_info
      F_kept_info := fun_mk (st := s_kept_info) l_kept_info c_kept_info k_kept_info
      b_kept_info := (fun_mk (st := s_kept_info) l_kept_info c_kept_info k_kept_info).binds (ps := ["store", "capability"]) fun _ _ _ _ _ _ us hl => match us, hl with | [_, _], _ => rfl
      g_kept_info := PySem.W.mg_of X G a_kept_info
      a_is_kept := f_is_kept
      d_is_kept := PySem.W.fnOf "_is_kept" "_is_kept" (defArgs s_is_kept) (defBody s_is_kept) (defScope s_is_kept) .none kV_is_kept dc_is_kept pm_is_kept an_is_kept cd_is_kept ct_is_kept
      F_is_kept := fun_mk (st := s_is_kept) l_is_kept c_is_kept k_is_kept
      b_is_kept := (fun_mk (st := s_is_kept) l_is_kept c_is_kept k_is_kept).binds (ps := ["store", "capability"]) fun _ _ _ _ _ _ us hl => match us, hl with | [_, _], _ => rfl
      g_is_kept := PySem.W.mg_of X G a_is_kept
      a_own_info := f_own_info
      d_own_info := PySem.W.fnOf "_own_info" "_own_info" (defArgs s_own_info) (defBody s_own_info) (defScope s_own_info) .none kV_own_info dc_own_info pm_own_info an_own_info cd_own_info ct_own_info
      F_own_info := fun_mk (st := s_own_info) l_own_info c_own_info k_own_info
      b_own_info := (fun_mk (st := s_own_info) l_own_info c_own_info k_own_info).binds (ps := ["store", "capability"]) fun _ _ _ _ _ _ us hl => match us, hl with | [_, _], _ => rfl
      g_own_info := PySem.W.mg_of X G a_own_info
      a_path := f_path
      d_path := PySem.W.fnOf "_path" "_path" (defArgs s_path) (defBody s_path) (defScope s_path) .none kV_path dc_path pm_path an_path cd_path ct_path
      F_path := fun_mk (st := s_path) l_path c_path k_path
      b_path := (fun_mk (st := s_path) l_path c_path k_path).binds (ps := ["store", "capability"]) fun _ _ _ _ _ _ us hl => match us, hl with | [_, _], _ => rfl
      g_path := PySem.W.mg_of X G a_path
      a_capability_info := f_capability_info
      d_capability_info := PySem.W.fnOf "capability_info" "capability_info" (defArgs s_capability_info) (defBody s_capability_info) (defScope s_capability_info) .none kV_capability_info dc_capability_info pm_capability_info an_capability_info cd_capability_info ct_capability_info
      F_capability_info := fun_mk (st := s_capability_info) l_capability_info c_capability_info k_capability_info
      b_capability_info := (fun_mk (st := s_capability_info) l_capability_info c_capability_info k_capability_info).binds (ps := ["store", "capability"]) fun _ _ _ _ _ _ us hl => match us, hl with | [_, _], _ => rfl
      g_capability_info := PySem.W.mg_of X G a_capability_info
      a_is_above := f_is_above
      d_is_above := PySem.W.fnOf "is_above" "is_above" (defArgs s_is_above) (defBody s_is_above) (defScope s_is_above) .none kV_is_above dc_is_above pm_is_above an_is_above cd_is_above ct_is_above
      F_is_above := fun_mk (st := s_is_above) l_is_above c_is_above k_is_above
      b_is_above := (fun_mk (st := s_is_above) l_is_above c_is_above k_is_above).binds (ps := ["store", "first", "second"]) fun _ _ _ _ _ _ us hl => match us, hl with | [_, _, _], _ => rfl
      g_is_above := PySem.W.mg_of X G a_is_above
      a_Kept_init := f_Kept_init
      d_Kept_init := PySem.W.fnOf "__init__" "Kept.__init__" (defArgs s_Kept_init) (defBody s_Kept_init) (defScope s_Kept_init) .none kV_Kept_init dc_Kept_init pm_Kept_init an_Kept_init cd_Kept_init ct_Kept_init
      F_Kept_init := fun_mk (st := s_Kept_init) l_Kept_init c_Kept_init k_Kept_init
      b_Kept_init := (fun_mk (st := s_Kept_init) l_Kept_init c_Kept_init k_Kept_init).binds (ps := ["self", "acts", "sums", "texts"]) fun _ _ _ _ _ _ us hl => match us, hl with | [_, _, _, _], _ => rfl
      M_Kept := ⟨mk_Kept, a_Kept_init, i_Kept_init, kc_Kept⟩
      a_Kept_data := f_Kept_data
      d_Kept_data := PySem.W.fnOf "data" "Kept.data" (defArgs s_Kept_data) (defBody s_Kept_data) (defScope s_Kept_data) .none kV_Kept_data dc_Kept_data pm_Kept_data an_Kept_data cd_Kept_data ct_Kept_data
      F_Kept_data := fun_mk (st := s_Kept_data) l_Kept_data c_Kept_data k_Kept_data
      b_Kept_data := (fun_mk (st := s_Kept_data) l_Kept_data c_Kept_data k_Kept_data).binds (ps := ["self"]) fun _ _ _ _ _ _ us hl => match us, hl with | [_], _ => rfl
      m_Kept_data := ⟨a_Kept_data, i_Kept_data, k_Kept_data⟩
      a_Store_init := f_Store_init
      d_Store_init := PySem.W.fnOf "__init__" "Store.__init__" (defArgs s_Store_init) (defBody s_Store_init) (defScope s_Store_init) .none kV_Store_init dc_Store_init pm_Store_init an_Store_init cd_Store_init ct_Store_init
      F_Store_init := fun_mk (st := s_Store_init) l_Store_init c_Store_init k_Store_init
      b_Store_init := (fun_mk (st := s_Store_init) l_Store_init c_Store_init k_Store_init).binds (ps := ["self", "members"]) fun _ _ _ _ _ _ us hl => match us, hl with | [_, _], _ => rfl
      M_Store := ⟨mk_Store, a_Store_init, i_Store_init, kc_Store⟩
      a_Store_find := f_Store_find
      d_Store_find := PySem.W.fnOf "find" "Store.find" (defArgs s_Store_find) (defBody s_Store_find) (defScope s_Store_find) .none kV_Store_find dc_Store_find pm_Store_find an_Store_find cd_Store_find ct_Store_find
      F_Store_find := fun_mk (st := s_Store_find) l_Store_find c_Store_find k_Store_find
      b_Store_find := (fun_mk (st := s_Store_find) l_Store_find c_Store_find k_Store_find).binds (ps := ["self", "name"]) fun _ _ _ _ _ _ us hl => match us, hl with | [_, _], _ => rfl
      m_Store_find := ⟨a_Store_find, i_Store_find, k_Store_find⟩
      a_Store_add := f_Store_add
      d_Store_add := PySem.W.fnOf "add" "Store.add" (defArgs s_Store_add) (defBody s_Store_add) (defScope s_Store_add) .none kV_Store_add dc_Store_add pm_Store_add an_Store_add cd_Store_add ct_Store_add
      F_Store_add := fun_mk (st := s_Store_add) l_Store_add c_Store_add k_Store_add
      b_Store_add := (fun_mk (st := s_Store_add) l_Store_add c_Store_add k_Store_add).binds (ps := ["self", "change"]) fun _ _ _ _ _ _ us hl => match us, hl with | [_, _], _ => rfl
      m_Store_add := ⟨a_Store_add, i_Store_add, k_Store_add⟩
      a_Store_data := f_Store_data
      d_Store_data := PySem.W.fnOf "data" "Store.data" (defArgs s_Store_data) (defBody s_Store_data) (defScope s_Store_data) .none kV_Store_data dc_Store_data pm_Store_data an_Store_data cd_Store_data ct_Store_data
      F_Store_data := fun_mk (st := s_Store_data) l_Store_data c_Store_data k_Store_data
      b_Store_data := (fun_mk (st := s_Store_data) l_Store_data c_Store_data k_Store_data).binds (ps := ["self"]) fun _ _ _ _ _ _ us hl => match us, hl with | [_], _ => rfl
      m_Store_data := ⟨a_Store_data, i_Store_data, k_Store_data⟩
      a_kept_data := f_kept_data
      d_kept_data := PySem.W.fnOf "_kept_data" "_kept_data" (defArgs s_kept_data) (defBody s_kept_data) (defScope s_kept_data) .none kV_kept_data dc_kept_data pm_kept_data an_kept_data cd_kept_data ct_kept_data
      F_kept_data := fun_mk (st := s_kept_data) l_kept_data c_kept_data k_kept_data
      b_kept_data := (fun_mk (st := s_kept_data) l_kept_data c_kept_data k_kept_data).binds (ps := ["kept"]) fun _ _ _ _ _ _ us hl => match us, hl with | [_], _ => rfl
      g_kept_data := PySem.W.mg_of X G a_kept_data
      a_mix := f_mix
      d_mix := PySem.W.fnOf "_law_mix" "_law_mix" (defArgs s_mix) (defBody s_mix) (defScope s_mix) .none kV_mix dc_mix pm_mix an_mix cd_mix ct_mix
      F_mix := fun_mk (st := s_mix) l_mix c_mix k_mix
      b_mix := (fun_mk (st := s_mix) l_mix c_mix k_mix).binds (ps := ["_law_cell", "_law_k"]) fun _ _ _ _ _ _ us hl => match us, hl with | [_, _], _ => rfl
      g_mix := PySem.W.mg_of X G a_mix
      a_draws := f_draws
      d_draws := PySem.W.fnOf "_law_draws" "_law_draws" (defArgs s_draws) (defBody s_draws) (defScope s_draws) .none kV_draws dc_draws pm_draws an_draws cd_draws ct_draws
      F_draws := fun_mk (st := s_draws) l_draws c_draws k_draws
      b_draws := (fun_mk (st := s_draws) l_draws c_draws k_draws).binds (ps := ["_law_script"]) fun _ _ _ _ _ _ us hl => match us, hl with | [_], _ => rfl
      g_draws := PySem.W.mg_of X G a_draws
      a_at := f_at
      d_at := PySem.W.fnOf "_law_at" "_law_at" (defArgs s_at) (defBody s_at) (defScope s_at) .none kV_at dc_at pm_at an_at cd_at ct_at
      F_at := fun_mk (st := s_at) l_at c_at k_at
      b_at := (fun_mk (st := s_at) l_at c_at k_at).binds (ps := ["_law_draws_here", "_law_index"]) fun _ _ _ _ _ _ us hl => match us, hl with | [_, _], _ => rfl
      g_at := PySem.W.mg_of X G a_at
      a_is_integer := f_is_integer
      d_is_integer := PySem.W.fnOf "_law_is_integer" "_law_is_integer" (defArgs s_is_integer) (defBody s_is_integer) (defScope s_is_integer) .none kV_is_integer dc_is_integer pm_is_integer an_is_integer cd_is_integer ct_is_integer
      F_is_integer := fun_mk (st := s_is_integer) l_is_integer c_is_integer k_is_integer
      b_is_integer := (fun_mk (st := s_is_integer) l_is_integer c_is_integer k_is_integer).binds (ps := ["_law_actual"]) fun _ _ _ _ _ _ us hl => match us, hl with | [_], _ => rfl
      g_is_integer := PySem.W.mg_of X G a_is_integer
      a_same := f_same
      d_same := PySem.W.fnOf "_law_same" "_law_same" (defArgs s_same) (defBody s_same) (defScope s_same) .none kV_same dc_same pm_same an_same cd_same ct_same
      F_same := fun_mk (st := s_same) l_same c_same k_same
      b_same := (fun_mk (st := s_same) l_same c_same k_same).binds (ps := ["_law_actual", "_law_expected"]) fun _ _ _ _ _ _ us hl => match us, hl with | [_, _], _ => rfl
      g_same := PySem.W.mg_of X G a_same
      a_full := f_full
      d_full := PySem.W.fnOf "_law_full" "_law_full" (defArgs s_full) (defBody s_full) (defScope s_full) .none kV_full dc_full pm_full an_full cd_full ct_full
      F_full := fun_mk (st := s_full) l_full c_full k_full
      b_full := (fun_mk (st := s_full) l_full c_full k_full).binds (ps := []) fun _ _ _ _ _ _ us hl => match us, hl with | [], _ => rfl
      g_full := PySem.W.mg_of X G a_full
      a_rights := f_rights
      d_rights := PySem.W.fnOf "_law_rights" "_law_rights" (defArgs s_rights) (defBody s_rights) (defScope s_rights) .none kV_rights dc_rights pm_rights an_rights cd_rights ct_rights
      F_rights := fun_mk (st := s_rights) l_rights c_rights k_rights
      b_rights := (fun_mk (st := s_rights) l_rights c_rights k_rights).binds (ps := ["_law_value"]) fun _ _ _ _ _ _ us hl => match us, hl with | [_], _ => rfl
      g_rights := PySem.W.mg_of X G a_rights
      a_grants := f_grants
      d_grants := PySem.W.fnOf "_law_grants" "_law_grants" (defArgs s_grants) (defBody s_grants) (defScope s_grants) .none kV_grants dc_grants pm_grants an_grants cd_grants ct_grants
      F_grants := fun_mk (st := s_grants) l_grants c_grants k_grants
      b_grants := (fun_mk (st := s_grants) l_grants c_grants k_grants).binds (ps := ["_law_rows_here"]) fun _ _ _ _ _ _ us hl => match us, hl with | [_], _ => rfl
      g_grants := PySem.W.mg_of X G a_grants
      a_choice := f_choice
      d_choice := PySem.W.fnOf "_law_choice" "_law_choice" (defArgs s_choice) (defBody s_choice) (defScope s_choice) .none kV_choice dc_choice pm_choice an_choice cd_choice ct_choice
      F_choice := fun_mk (st := s_choice) l_choice c_choice k_choice
      b_choice := (fun_mk (st := s_choice) l_choice c_choice k_choice).binds (ps := ["_law_draws_here", "_law_index", "_law_rows_here", "_law_row"]) fun _ _ _ _ _ _ us hl => match us, hl with | [_, _, _, _], _ => rfl
      g_choice := PySem.W.mg_of X G a_choice
      a_publics := f_publics
      d_publics := PySem.W.fnOf "_law_publics" "_law_publics" (defArgs s_publics) (defBody s_publics) (defScope s_publics) .none kV_publics dc_publics pm_publics an_publics cd_publics ct_publics
      F_publics := fun_mk (st := s_publics) l_publics c_publics k_publics
      b_publics := (fun_mk (st := s_publics) l_publics c_publics k_publics).binds (ps := ["_law_draws_here", "_law_index", "_law_rows_here", "_law_members", "_law_row"]) fun _ _ _ _ _ _ us hl => match us, hl with | [_, _, _, _, _], _ => rfl
      g_publics := PySem.W.mg_of X G a_publics
      a_rows := f_rows
      d_rows := PySem.W.fnOf "_law_rows" "_law_rows" (defArgs s_rows) (defBody s_rows) (defScope s_rows) .none kV_rows dc_rows pm_rows an_rows cd_rows ct_rows
      F_rows := fun_mk (st := s_rows) l_rows c_rows k_rows
      b_rows := (fun_mk (st := s_rows) l_rows c_rows k_rows).binds (ps := ["_law_draws_here", "_law_start", "_law_members", "_law_count", "_law_is_rich"]) fun _ _ _ _ _ _ us hl => match us, hl with | [_, _, _, _, _], _ => rfl
      g_rows := PySem.W.mg_of X G a_rows
      a_nothing := f_nothing
      d_nothing := PySem.W.fnOf "_law_nothing" "_law_nothing" (defArgs s_nothing) (defBody s_nothing) (defScope s_nothing) .none kV_nothing dc_nothing pm_nothing an_nothing cd_nothing ct_nothing
      F_nothing := fun_mk (st := s_nothing) l_nothing c_nothing k_nothing
      b_nothing := (fun_mk (st := s_nothing) l_nothing c_nothing k_nothing).binds (ps := []) fun _ _ _ _ _ _ us hl => match us, hl with | [], _ => rfl
      g_nothing := PySem.W.mg_of X G a_nothing
      a_world := f_world
      d_world := PySem.W.fnOf "_law_world" "_law_world" (defArgs s_world) (defBody s_world) (defScope s_world) .none kV_world dc_world pm_world an_world cd_world ct_world
      F_world := fun_mk (st := s_world) l_world c_world k_world
      b_world := (fun_mk (st := s_world) l_world c_world k_world).binds (ps := ["_law_members", "_law_rows_here"]) fun _ _ _ _ _ _ us hl => match us, hl with | [_, _], _ => rfl
      g_world := PySem.W.mg_of X G a_world
      a_cut_world := f_cut_world
      d_cut_world := PySem.W.fnOf "_law_cut_world" "_law_cut_world" (defArgs s_cut_world) (defBody s_cut_world) (defScope s_cut_world) .none kV_cut_world dc_cut_world pm_cut_world an_cut_world cd_cut_world ct_cut_world
      F_cut_world := fun_mk (st := s_cut_world) l_cut_world c_cut_world k_cut_world
      b_cut_world := (fun_mk (st := s_cut_world) l_cut_world c_cut_world k_cut_world).binds (ps := ["_law_draws_here", "_law_index", "_law_members", "_law_rows_here"]) fun _ _ _ _ _ _ us hl => match us, hl with | [_, _, _, _], _ => rfl
      g_cut_world := PySem.W.mg_of X G a_cut_world
      a_kept := f_kept
      d_kept := PySem.W.fnOf "_law_kept" "_law_kept" (defArgs s_kept) (defBody s_kept) (defScope s_kept) .none kV_kept dc_kept pm_kept an_kept cd_kept ct_kept
      F_kept := fun_mk (st := s_kept) l_kept c_kept k_kept
      b_kept := (fun_mk (st := s_kept) l_kept c_kept k_kept).binds (ps := ["_law_kept_here"]) fun _ _ _ _ _ _ us hl => match us, hl with | [_], _ => rfl
      g_kept := PySem.W.mg_of X G a_kept
      a_store := f_store
      d_store := PySem.W.fnOf "_law_store" "_law_store" (defArgs s_store) (defBody s_store) (defScope s_store) .none kV_store dc_store pm_store an_store cd_store ct_store
      F_store := fun_mk (st := s_store) l_store c_store k_store
      b_store := (fun_mk (st := s_store) l_store c_store k_store).binds (ps := ["_law_world_here"]) fun _ _ _ _ _ _ us hl => match us, hl with | [_], _ => rfl
      g_store := PySem.W.mg_of X G a_store
      a_find := f_find
      d_find := PySem.W.fnOf "_law_find" "_law_find" (defArgs s_find) (defBody s_find) (defScope s_find) .none kV_find dc_find pm_find an_find cd_find ct_find
      F_find := fun_mk (st := s_find) l_find c_find k_find
      b_find := (fun_mk (st := s_find) l_find c_find k_find).binds (ps := ["_law_world_here", "_law_name"]) fun _ _ _ _ _ _ us hl => match us, hl with | [_, _], _ => rfl
      g_find := PySem.W.mg_of X G a_find
      a_info := f_info
      d_info := PySem.W.fnOf "_law_info" "_law_info" (defArgs s_info) (defBody s_info) (defScope s_info) .none kV_info dc_info pm_info an_info cd_info ct_info
      F_info := fun_mk (st := s_info) l_info c_info k_info
      b_info := (fun_mk (st := s_info) l_info c_info k_info).binds (ps := ["_law_world_here", "_law_capability"]) fun _ _ _ _ _ _ us hl => match us, hl with | [_, _], _ => rfl
      g_info := PySem.W.mg_of X G a_info
      a_lpath := f_lpath
      d_lpath := PySem.W.fnOf "_law_path" "_law_path" (defArgs s_lpath) (defBody s_lpath) (defScope s_lpath) .none kV_lpath dc_lpath pm_lpath an_lpath cd_lpath ct_lpath
      F_lpath := fun_mk (st := s_lpath) l_lpath c_lpath k_lpath
      b_lpath := (fun_mk (st := s_lpath) l_lpath c_lpath k_lpath).binds (ps := ["_law_world_here", "_law_capability"]) fun _ _ _ _ _ _ us hl => match us, hl with | [_, _], _ => rfl
      g_lpath := PySem.W.mg_of X G a_lpath
      a_asked := f_asked
      d_asked := PySem.W.fnOf "_law_asked" "_law_asked" (defArgs s_asked) (defBody s_asked) (defScope s_asked) .none kV_asked dc_asked pm_asked an_asked cd_asked ct_asked
      F_asked := fun_mk (st := s_asked) l_asked c_asked k_asked
      b_asked := (fun_mk (st := s_asked) l_asked c_asked k_asked).binds (ps := ["_law_draws_here", "_law_world_here"]) fun _ _ _ _ _ _ us hl => match us, hl with | [_, _], _ => rfl
      g_asked := PySem.W.mg_of X G a_asked
      a_law := f_law
      d_law := PySem.W.fnOf "law" "law" (defArgs s_law) (defBody s_law) (defScope s_law) .none kV_law dc_law pm_law an_law cd_law ct_law
      F_law := fun_mk (st := s_law) l_law c_law k_law
      b_law := (fun_mk (st := s_law) l_law c_law k_law).binds (ps := ["_law_script"]) fun _ _ _ _ _ _ us hl => match us, hl with | [_], _ => rfl
      g_law := PySem.W.mg_of X G a_law
      z_bool := PySem.W.mg_none_of X G z_bool
      z_int := PySem.W.mg_none_of X G z_int
      z_isinstance := PySem.W.mg_none_of X G z_isinstance
      z_len := PySem.W.mg_none_of X G z_len
      z_list := PySem.W.mg_none_of X G z_list
      z_max := PySem.W.mg_none_of X G z_max
      z_min := PySem.W.mg_none_of X G z_min
      z_range := PySem.W.mg_none_of X G z_range
      z_sorted := PySem.W.mg_none_of X G z_sorted
      z_str := PySem.W.mg_none_of X G z_str
      z_tuple := PySem.W.mg_none_of X G z_tuple }).imp (fun vs H Q E q => law_sp q)⟩
end Kb
open PySem PySem.W PyProof.Rows
theorem Kb.relI (i : Int) (t : Tok) : L2.RelV (L2.V.int i) (Value.int i t) := ⟨t, rfl⟩
theorem Kb.relS (x : Str) (t : Tok) : L2.RelV (L2.V.str x) (Value.str x t) := ⟨t, rfl⟩
set_option maxRecDepth 100000 in
set_option maxHeartbeats 0 in
theorem PySem.Challenge.cw_kithbase_k05_capabilities_form_a_tree_holds : PySem.Challenge.rw_kithbase_k05_capabilities_form_a_tree.Holds := by
  w_on; o_law; k_head; (case hw => w_witness2)
  k_fill
  refine L2.walk_of (l := PySem.Challenge.rw_kithbase_k05_capabilities_form_a_tree) (n := 63) (k := 42) (x := "_law_script") (CX := fun _ => L2.CX0) (sp := fun w => Kb.spLaw _) rfl (by decide) rfl ⟨rfl, by decide, by decide⟩ (fun w h Y => PySem.W.kIn_of Y) ?F (fun _ _ a ns hl _ hS => ⟨a, ns, rfl, hS, hl, fun _ => rfl⟩) (fun _ _ _ _ _ h => h)
  case F =>
    intro w mg fa h KX G hmg
    refine' Kb.all_mk KX G hmg ?aC_Change ?pg_Change ?hd_Change ?po_Change ?sa_Change ?mk_Change ?kc_Change ?n_Change_author ?n_Change_capability ?n_Change_heard ?n_Change_number ?n_Change_parts ?n_Change_publics ?aC_Kept ?pg_Kept ?hd_Kept ?po_Kept ?sa_Kept ?mk_Kept ?kc_Kept ?n_Kept_acts ?n_Kept_sums ?n_Kept_texts ?aC_Store ?pg_Store ?hd_Store ?po_Store ?sa_Store ?mk_Store ?kc_Store ?n_Store_capabilities ?n_Store_changes ?n_Store_cut ?n_Store_kept ?n_Store_members ?a_as_tuple ?l_as_tuple ?c_as_tuple ?k_as_tuple ?a_Change_init ?i_Change_init ?l_Change_init ?c_Change_init ?k_Change_init ?a_Change_header ?i_Change_header ?l_Change_header ?c_Change_header ?k_Change_header ?a_kept_info ?l_kept_info ?c_kept_info ?k_kept_info ?a_is_kept ?l_is_kept ?c_is_kept ?k_is_kept ?a_own_info ?l_own_info ?c_own_info ?k_own_info ?a_path ?l_path ?c_path ?k_path ?a_capability_info ?l_capability_info ?c_capability_info ?k_capability_info ?a_is_above ?l_is_above ?c_is_above ?k_is_above ?a_Kept_init ?i_Kept_init ?l_Kept_init ?c_Kept_init ?k_Kept_init ?a_Kept_data ?i_Kept_data ?l_Kept_data ?c_Kept_data ?k_Kept_data ?a_Store_init ?i_Store_init ?l_Store_init ?c_Store_init ?k_Store_init ?a_Store_find ?i_Store_find ?l_Store_find ?c_Store_find ?k_Store_find ?a_Store_add ?i_Store_add ?l_Store_add ?c_Store_add ?k_Store_add ?a_Store_data ?i_Store_data ?l_Store_data ?c_Store_data ?k_Store_data ?a_kept_data ?l_kept_data ?c_kept_data ?k_kept_data ?a_mix ?l_mix ?c_mix ?k_mix ?a_draws ?l_draws ?c_draws ?k_draws ?a_at ?l_at ?c_at ?k_at ?a_is_integer ?l_is_integer ?c_is_integer ?k_is_integer ?a_same ?l_same ?c_same ?k_same ?a_full ?l_full ?c_full ?k_full ?a_rights ?l_rights ?c_rights ?k_rights ?a_grants ?l_grants ?c_grants ?k_grants ?a_choice ?l_choice ?c_choice ?k_choice ?a_publics ?l_publics ?c_publics ?k_publics ?a_rows ?l_rows ?c_rows ?k_rows ?a_nothing ?l_nothing ?c_nothing ?k_nothing ?a_world ?l_world ?c_world ?k_world ?a_cut_world ?l_cut_world ?c_cut_world ?k_cut_world ?a_kept ?l_kept ?c_kept ?k_kept ?a_store ?l_store ?c_store ?k_store ?a_find ?l_find ?c_find ?k_find ?a_info ?l_info ?c_info ?k_info ?a_lpath ?l_lpath ?c_lpath ?k_lpath ?a_asked ?l_asked ?c_asked ?k_asked ?a_law ?l_law ?c_law ?k_law ?z_bool ?z_int ?z_isinstance ?z_len ?z_list ?z_max ?z_min ?z_range ?z_sorted ?z_str ?z_tuple ?gc_ALLRIGHTS ?rc_ALLRIGHTS ?qc_ALLRIGHTS ?tc_ALLRIGHTS ?gc_SPACES ?rc_SPACES ?qc_SPACES
    (case aC_Change => k_is)
    (case pg_Change => k_is)
    (case hd_Change => k_is)
    (case po_Change => k_is)
    (case sa_Change => k_is)
    (case mk_Change => k_is)
    (case kc_Change => k_is)
    (case n_Change_author => k_is)
    (case n_Change_capability => k_is)
    (case n_Change_heard => k_is)
    (case n_Change_number => k_is)
    (case n_Change_parts => k_is)
    (case n_Change_publics => k_is)
    (case aC_Kept => k_is)
    (case pg_Kept => k_is)
    (case hd_Kept => k_is)
    (case po_Kept => k_is)
    (case sa_Kept => k_is)
    (case mk_Kept => k_is)
    (case kc_Kept => k_is)
    (case n_Kept_acts => k_is)
    (case n_Kept_sums => k_is)
    (case n_Kept_texts => k_is)
    (case aC_Store => k_is)
    (case pg_Store => k_is)
    (case hd_Store => k_is)
    (case po_Store => k_is)
    (case sa_Store => k_is)
    (case mk_Store => k_is)
    (case kc_Store => k_is)
    (case n_Store_capabilities => k_is)
    (case n_Store_changes => k_is)
    (case n_Store_cut => k_is)
    (case n_Store_kept => k_is)
    (case n_Store_members => k_is)
    (case a_as_tuple => k_is)
    (case l_as_tuple => k_is)
    (case c_as_tuple => k_is)
    (case k_as_tuple => k_is)
    (case a_Change_init => k_is)
    (case i_Change_init => k_is)
    (case l_Change_init => k_is)
    (case c_Change_init => k_is)
    (case k_Change_init => k_is)
    (case a_Change_header => k_is)
    (case i_Change_header => k_is)
    (case l_Change_header => k_is)
    (case c_Change_header => k_is)
    (case k_Change_header => k_is)
    (case a_kept_info => k_is)
    (case l_kept_info => k_is)
    (case c_kept_info => k_is)
    (case k_kept_info => k_is)
    (case a_is_kept => k_is)
    (case l_is_kept => k_is)
    (case c_is_kept => k_is)
    (case k_is_kept => k_is)
    (case a_own_info => k_is)
    (case l_own_info => k_is)
    (case c_own_info => k_is)
    (case k_own_info => k_is)
    (case a_path => k_is)
    (case l_path => k_is)
    (case c_path => k_is)
    (case k_path => k_is)
    (case a_capability_info => k_is)
    (case l_capability_info => k_is)
    (case c_capability_info => k_is)
    (case k_capability_info => k_is)
    (case a_is_above => k_is)
    (case l_is_above => k_is)
    (case c_is_above => k_is)
    (case k_is_above => k_is)
    (case a_Kept_init => k_is)
    (case i_Kept_init => k_is)
    (case l_Kept_init => k_is)
    (case c_Kept_init => k_is)
    (case k_Kept_init => k_is)
    (case a_Kept_data => k_is)
    (case i_Kept_data => k_is)
    (case l_Kept_data => k_is)
    (case c_Kept_data => k_is)
    (case k_Kept_data => k_is)
    (case a_Store_init => k_is)
    (case i_Store_init => k_is)
    (case l_Store_init => k_is)
    (case c_Store_init => k_is)
    (case k_Store_init => k_is)
    (case a_Store_find => k_is)
    (case i_Store_find => k_is)
    (case l_Store_find => k_is)
    (case c_Store_find => k_is)
    (case k_Store_find => k_is)
    (case a_Store_add => k_is)
    (case i_Store_add => k_is)
    (case l_Store_add => k_is)
    (case c_Store_add => k_is)
    (case k_Store_add => k_is)
    (case a_Store_data => k_is)
    (case i_Store_data => k_is)
    (case l_Store_data => k_is)
    (case c_Store_data => k_is)
    (case k_Store_data => k_is)
    (case a_kept_data => k_is)
    (case l_kept_data => k_is)
    (case c_kept_data => k_is)
    (case k_kept_data => k_is)
    (case a_mix => k_is)
    (case l_mix => k_is)
    (case c_mix => k_is)
    (case k_mix => k_is)
    (case a_draws => k_is)
    (case l_draws => k_is)
    (case c_draws => k_is)
    (case k_draws => k_is)
    (case a_at => k_is)
    (case l_at => k_is)
    (case c_at => k_is)
    (case k_at => k_is)
    (case a_is_integer => k_is)
    (case l_is_integer => k_is)
    (case c_is_integer => k_is)
    (case k_is_integer => k_is)
    (case a_same => k_is)
    (case l_same => k_is)
    (case c_same => k_is)
    (case k_same => k_is)
    (case a_full => k_is)
    (case l_full => k_is)
    (case c_full => k_is)
    (case k_full => k_is)
    (case a_rights => k_is)
    (case l_rights => k_is)
    (case c_rights => k_is)
    (case k_rights => k_is)
    (case a_grants => k_is)
    (case l_grants => k_is)
    (case c_grants => k_is)
    (case k_grants => k_is)
    (case a_choice => k_is)
    (case l_choice => k_is)
    (case c_choice => k_is)
    (case k_choice => k_is)
    (case a_publics => k_is)
    (case l_publics => k_is)
    (case c_publics => k_is)
    (case k_publics => k_is)
    (case a_rows => k_is)
    (case l_rows => k_is)
    (case c_rows => k_is)
    (case k_rows => k_is)
    (case a_nothing => k_is)
    (case l_nothing => k_is)
    (case c_nothing => k_is)
    (case k_nothing => k_is)
    (case a_world => k_is)
    (case l_world => k_is)
    (case c_world => k_is)
    (case k_world => k_is)
    (case a_cut_world => k_is)
    (case l_cut_world => k_is)
    (case c_cut_world => k_is)
    (case k_cut_world => k_is)
    (case a_kept => k_is)
    (case l_kept => k_is)
    (case c_kept => k_is)
    (case k_kept => k_is)
    (case a_store => k_is)
    (case l_store => k_is)
    (case c_store => k_is)
    (case k_store => k_is)
    (case a_find => k_is)
    (case l_find => k_is)
    (case c_find => k_is)
    (case k_find => k_is)
    (case a_info => k_is)
    (case l_info => k_is)
    (case c_info => k_is)
    (case k_info => k_is)
    (case a_lpath => k_is)
    (case l_lpath => k_is)
    (case c_lpath => k_is)
    (case k_lpath => k_is)
    (case a_asked => k_is)
    (case l_asked => k_is)
    (case c_asked => k_is)
    (case k_asked => k_is)
    (case a_law => k_is)
    (case l_law => k_is)
    (case c_law => k_is)
    (case k_law => k_is)
    (case z_bool => k_is)
    (case z_int => k_is)
    (case z_isinstance => k_is)
    (case z_len => k_is)
    (case z_list => k_is)
    (case z_max => k_is)
    (case z_min => k_is)
    (case z_range => k_is)
    (case z_sorted => k_is)
    (case z_str => k_is)
    (case z_tuple => k_is)
    (case gc_ALLRIGHTS => k_is)
    (case rc_ALLRIGHTS => exact Pv.rel_ref)
    (case qc_ALLRIGHTS => intro F cl; exact Pv.rp_const (vs := [L2.V.ref _, L2.V.ref _, L2.V.ref _, L2.V.ref _]) (by k_is) rfl rfl (by decide) (.cons Pv.rel_ref (.cons Pv.rel_ref (.cons Pv.rel_ref (.cons Pv.rel_ref .nil)))) (.cons (by exact Pv.rp_const (vs := [L2.V.bl true, L2.V.bl true, L2.V.bl true]) (by k_is) rfl rfl (by decide) (.cons rfl (.cons rfl (.cons rfl .nil))) (.cons (.bl _) (.cons (.bl _) (.cons (.bl _) .nil)))) (.cons (by exact Pv.rp_const (vs := [L2.V.bl true, L2.V.bl true, L2.V.bl true]) (by k_is) rfl rfl (by decide) (.cons rfl (.cons rfl (.cons rfl .nil))) (.cons (.bl _) (.cons (.bl _) (.cons (.bl _) .nil)))) (.cons (by exact Pv.rp_const (vs := [L2.V.bl true, L2.V.bl true, L2.V.bl true]) (by k_is) rfl rfl (by decide) (.cons rfl (.cons rfl (.cons rfl .nil))) (.cons (.bl _) (.cons (.bl _) (.cons (.bl _) .nil)))) (.cons (by exact Pv.rp_const (vs := [L2.V.bl true, L2.V.bl true, L2.V.bl true]) (by k_is) rfl rfl (by decide) (.cons rfl (.cons rfl (.cons rfl .nil))) (.cons (.bl _) (.cons (.bl _) (.cons (.bl _) .nil)))) .nil)))))
    (case tc_ALLRIGHTS => exact ⟨_, _, rfl, by k_is, rfl, rfl⟩)
    (case gc_SPACES => k_is)
    (case rc_SPACES => exact Kb.relI _ _)
    (case qc_SPACES => intro F cl; exact .int _)

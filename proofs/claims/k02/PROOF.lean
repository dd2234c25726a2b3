import PyProof.Rows.All
import Wide.All
import OpenK.AllK
import Wide.FinOn
import HandS.ForMost
import HandS.IsInst
import HandS.Wide
import HandS.TupAny
import HandS.Flow
import HandS.Text
import HandS.Codes
import KE.KTupSum
import KE.SortKeyHeap
import HandS.SortKw
import HandS.Keys
import PySem.Challenge.RW_kithbase_k02_order_of_changes
set_option Elab.async false
set_option linter.all false
set_option maxRecDepth 100000
set_option maxHeartbeats 4000000
/-! values without a heap, over HandS -/
namespace Pv
open PySem PySem.Spec PyProof.Rows L2

/-- data, by value -/
inductive P where
  | non | bl (b : Bool) | int (i : Int) | str (x : Str)
  | tup (ps : List P) | lst (ps : List P)
  | dK (kvs : List (Key × P)) | dT (kvs : List (List Key × P))
  | ins (c : Nat) (fs : List (Str × P))
/-- a value of a name: data, or the place of an object that may change -/
inductive D where
  | p (x : P) | ref (n : Nat)
/-- an object that may change -/
inductive Ob where
  | lst (ds : List D) | dK (kvs : List (Key × D)) | dT (kvs : List (List Key × D)) | ins (c : Nat) (fs : List (Str × D))
/-- all objects that may change; those from b on were made by the def that runs -/
structure SH where
  b : Nat
  os : List Ob
abbrev SH.len (S : SH) : Nat := S.os.length
abbrev En := List (Option D)
def D.lt (k : Nat) : D → Prop | .p _ => True | .ref n => n < k
def Ob.ds : Ob → List D | .lst ds => ds | .dK kvs => kvs.map (·.2) | .dT kvs => kvs.map (·.2) | .ins _ fs => fs.map (·.2)
def Ob.lt (k : Nat) (o : Ob) : Prop := ∀ d ∈ o.ds, d.lt k
theorem D.lt.mono {j k : Nat} {d : D} (h : d.lt j) (l : j ≤ k) : d.lt k := by
  cases d with
  | p x => trivial
  | ref n => exact Nat.lt_of_lt_of_le h l

section
variable (K : PySem.W.Frag) (cl : Nat → Addr)
mutual
inductive Rp (F : Hp) : P → V → Prop
  | non : Rp F .non .non
  | bl (b : Bool) : Rp F (.bl b) (.bl b)
  | int (i : Int) : Rp F (.int i) (.int i)
  | str (x : Str) : Rp F (.str x) (.str x)
  | tup {a : Addr} {ps : List P} {vs : List V} : SqT K F a vs → RpA F ps vs → Rp F (.tup ps) (.ref a)
  | lst {a : Addr} {ps : List P} {vs : List V} : SqL K F a vs → RpA F ps vs → Rp F (.lst ps) (.ref a)
  | dK {a : Addr} {kvs : List (Key × P)} {vs : List (Key × V)} : F a = some (.dK vs) → RpK F kvs vs → Rp F (.dK kvs) (.ref a)
  | dT {a : Addr} {kvs : List (List Key × P)} {vs : List (List Key × V)} : F a = some (.dT vs) → RpT F kvs vs → Rp F (.dT kvs) (.ref a)
  | ins {a dx : Addr} {c : Nat} {fs : List (Str × P)} {gs : List (Str × V)} : F a = some (.ins (cl c) dx gs) → RpF F fs gs → Rp F (.ins c fs) (.ref a)
inductive RpA (F : Hp) : List P → List V → Prop
  | nil : RpA F [] []
  | cons {x : P} {xs : List P} {v : V} {vs : List V} : Rp F x v → RpA F xs vs → RpA F (x :: xs) (v :: vs)
inductive RpK (F : Hp) : List (Key × P) → List (Key × V) → Prop
  | nil : RpK F [] []
  | cons {k : Key} {x : P} {xs : List (Key × P)} {v : V} {vs : List (Key × V)} : Rp F x v → RpK F xs vs → RpK F ((k, x) :: xs) ((k, v) :: vs)
inductive RpT (F : Hp) : List (List Key × P) → List (List Key × V) → Prop
  | nil : RpT F [] []
  | cons {k : List Key} {x : P} {xs : List (List Key × P)} {v : V} {vs : List (List Key × V)} : Rp F x v → RpT F xs vs → RpT F ((k, x) :: xs) ((k, v) :: vs)
inductive RpF (F : Hp) : List (Str × P) → List (Str × V) → Prop
  | nil : RpF F [] []
  | cons {k : Str} {x : P} {xs : List (Str × P)} {v : V} {vs : List (Str × V)} : Rp F x v → RpF F xs vs → RpF F ((k, x) :: xs) ((k, v) :: vs)
end
/-- a value of a name -/
def DR (F : Hp) (φ : Nat → Addr) : D → V → Prop
  | .p x, v => Rp K cl F x v
  | .ref n, v => v = .ref (φ n)
abbrev DRA (F : Hp) (φ : Nat → Addr) : List D → List V → Prop := Paired (DR K cl F φ)
abbrev DRK {κ : Type} (F : Hp) (φ : Nat → Addr) : List (κ × D) → List (κ × V) → Prop := Paired fun p q => p.1 = q.1 ∧ DR K cl F φ p.2 q.2
def OR (F : Hp) (φ : Nat → Addr) (x : Option HO) : Ob → Prop
  | .lst ds => ∃ vs, x = some (.lst vs) ∧ DRA K cl F φ ds vs
  | .dK kvs => ∃ vs, x = some (.dK vs) ∧ DRK K cl F φ kvs vs
  | .dT kvs => ∃ vs, x = some (.dT vs) ∧ DRK K cl F φ kvs vs
  | .ins c fs => ∃ dx gs, x = some (.ins (cl c) dx gs) ∧ DRK K cl F φ fs gs
/-- the objects by place, the data, and the heap -/
structure Sim (S : SH) (B : List Nat) (F : Hp) (φ : Nat → Addr) (H : Hp) : Prop where
  le : Same F H
  ob : ∀ (n : Nat) (o : Ob), S.os[n]? = some o → F (φ n) = none ∧ OR K cl F φ (H (φ n)) o
  inj : ∀ n m, n < S.len → m < S.len → φ n = φ m → n = m
  wf : ∀ (n : Nat) (o : Ob), S.os[n]? = some o → o.lt S.len
  bs : ∀ b ∈ B, b ≤ S.b ∧ ∀ (n : Nat) (o : Ob), S.os[n]? = some o → n < b → o.lt b
  bl : S.b ≤ S.len
/-- what a step may have done -/
structure Ext (S : SH) (F : Hp) (φ : Nat → Addr) (H : Hp) (S' : SH) (F' : Hp) (φ' : Nat → Addr) (H' : Hp) : Prop where
  fz : Same F F'
  len : S.len ≤ S'.len
  b : S'.b = S.b
  phi : ∀ n, n < S.len → φ' n = φ n
  new : ∀ n, S.len ≤ n → n < S'.len → H (φ' n) = none
  keep : ∀ a o, H a = some o → (∀ n, n < S.len → φ n ≠ a) → H' a = some o
  tr : ∀ n, n < S.len → H' (φ n) ≠ none
  fr : ∀ a o, H a = some o → F a = none → (∀ n, n < S.len → φ n ≠ a) → F' a = none
/-- the names -/
def RS (F : Hp) (φ : Nat → Addr) (k : Nat) (σd : En) (σ : L2.St) : Prop :=
  σd.length = σ.length ∧ ∀ (i : Nat) (d : D), σd[i]? = some (some d) → d.lt k ∧ ∃ v : V, σ[i]? = some (some v) ∧ DR K cl F φ d v
end

section
variable {K : PySem.W.Frag} {cl : Nat → Addr} {S S' S1 S2 : SH} {B : List Nat} {F F' F1 F2 H H' H1 H2 : Hp} {φ φ' φ1 φ2 : Nat → Addr}
theorem SqL.mono (h : Same F F') {a : Addr} {xs : List V} (q : SqL K F a xs) : SqL K F' a xs := h.seq q
theorem SqT.mono (e : Same F F') {a : Addr} {xs : List V} (h : SqT K F a xs) : SqT K F' a xs := by
  rcases h with (h | ⟨o, h⟩) | h
  · exact .inl (.inl (e _ _ h))
  · exact .inl (.inr ⟨o, e _ _ h⟩)
  · exact .inr h
mutual
theorem Rp.mono (h : Same F F') {x : P} {v : V} : Rp K cl F x v → Rp K cl F' x v
  | .non => .non
  | .bl b => .bl b
  | .int i => .int i
  | .str x => .str x
  | .tup q r => .tup (SqT.mono h q) (RpA.mono h r)
  | .lst q r => .lst (SqL.mono h q) (RpA.mono h r)
  | .dK q r => .dK (h _ _ q) (RpK.mono h r)
  | .dT q r => .dT (h _ _ q) (RpT.mono h r)
  | .ins q r => .ins (h _ _ q) (RpF.mono h r)
theorem RpA.mono (h : Same F F') {x : List P} {v : List V} : RpA K cl F x v → RpA K cl F' x v
  | .nil => .nil
  | .cons a b => .cons (Rp.mono h a) (RpA.mono h b)
theorem RpK.mono (h : Same F F') {x : List (Key × P)} {v : List (Key × V)} : RpK K cl F x v → RpK K cl F' x v
  | .nil => .nil
  | .cons a b => .cons (Rp.mono h a) (RpK.mono h b)
theorem RpT.mono (h : Same F F') {x : List (List Key × P)} {v : List (List Key × V)} : RpT K cl F x v → RpT K cl F' x v
  | .nil => .nil
  | .cons a b => .cons (Rp.mono h a) (RpT.mono h b)
theorem RpF.mono (h : Same F F') {x : List (Str × P)} {v : List (Str × V)} : RpF K cl F x v → RpF K cl F' x v
  | .nil => .nil
  | .cons a b => .cons (Rp.mono h a) (RpF.mono h b)
end
theorem DR.mono (h : Same F F') {k : Nat} (p : ∀ n, n < k → φ' n = φ n) {d : D} {v : V} (l : d.lt k) (r : DR K cl F φ d v) : DR K cl F' φ' d v := by
  cases d with
  | p x => exact Rp.mono h r
  | ref n => exact r.trans (congrArg V.ref (p n l).symm)
theorem DRA.mono (h : Same F F') {k : Nat} (p : ∀ n, n < k → φ' n = φ n) : ∀ {ds : List D} {vs : List V}, (∀ d ∈ ds, d.lt k) → DRA K cl F φ ds vs → DRA K cl F' φ' ds vs
  | _, _, _, .nil => .nil
  | _, _, l, .cons a b => .cons (DR.mono h p (l _ List.mem_cons_self) a) (DRA.mono h p (fun d q => l d (List.mem_cons_of_mem _ q)) b)
theorem DRK.mono {κ : Type} (h : Same F F') {k : Nat} (p : ∀ n, n < k → φ' n = φ n) : ∀ {ds : List (κ × D)} {vs : List (κ × V)}, (∀ d ∈ ds.map (·.2), d.lt k) → DRK K cl F φ ds vs → DRK K cl F' φ' ds vs
  | _, _, _, .nil => .nil
  | _, _, l, .cons a b => .cons ⟨a.1, DR.mono h p (l _ List.mem_cons_self) a.2⟩ (DRK.mono h p (fun d q => l d (List.mem_cons_of_mem _ q)) b)
theorem OR.mono (h : Same F F') {k : Nat} (p : ∀ n, n < k → φ' n = φ n) {x : Option HO} {o : Ob} (l : o.lt k) (r : OR K cl F φ x o) : OR K cl F' φ' x o := by
  cases o with
  | lst ds => obtain ⟨vs, e, r⟩ := r; exact ⟨vs, e, DRA.mono h p l r⟩
  | dK ds => obtain ⟨vs, e, r⟩ := r; exact ⟨vs, e, DRK.mono h p l r⟩
  | dT ds => obtain ⟨vs, e, r⟩ := r; exact ⟨vs, e, DRK.mono h p l r⟩
  | ins c ds => obtain ⟨dx, vs, e, r⟩ := r; exact ⟨dx, vs, e, DRK.mono h p l r⟩
theorem OR.ne0 {x : Option HO} {o : Ob} (r : OR K cl F φ x o) : x ≠ none := by
  cases o with
  | lst ds => obtain ⟨vs, e, r⟩ := r; rw [e]; simp
  | dK ds => obtain ⟨vs, e, r⟩ := r; rw [e]; simp
  | dT ds => obtain ⟨vs, e, r⟩ := r; rw [e]; simp
  | ins c ds => obtain ⟨dx, vs, e, r⟩ := r; rw [e]; simp
theorem Sim.ne0 (s : Sim K cl S B F φ H) {n : Nat} (h : n < S.len) : H (φ n) ≠ none := (s.ob n _ (List.getElem?_eq_getElem h)).2.ne0
theorem Ext.refl (s : Sim K cl S B F φ H) : Ext S F φ H S F φ H := ⟨Same.refl _, Nat.le_refl _, rfl, fun _ _ => rfl, fun n h1 h2 => absurd h1 (Nat.not_le_of_lt h2), fun _ _ h _ => h, fun _ h => s.ne0 h, fun _ _ _ h _ => h⟩
theorem Ext.trans (a : Ext S F φ H S1 F1 φ1 H1) (b : Ext S1 F1 φ1 H1 S2 F2 φ2 H2) : Ext S F φ H S2 F2 φ2 H2 where
  fz := a.fz.trans b.fz
  len := Nat.le_trans a.len b.len
  b := b.b.trans a.b
  phi := fun n h => (b.phi n (Nat.lt_of_lt_of_le h a.len)).trans (a.phi n h)
  new := fun n h1 h2 => by
    by_cases h3 : n < S1.len
    · rw [b.phi n h3]
      exact a.new n h1 h3
    · cases e : H (φ2 n) with
      | none => rfl
      | some o =>
        have z := b.new n (Nat.le_of_not_lt h3) h2
        by_cases q : ∃ m, m < S.len ∧ φ m = φ2 n
        · obtain ⟨m, hm, ee⟩ := q
          exact absurd (by rw [ee]; exact z) (a.tr m hm)
        · rw [a.keep _ o e fun m hm ee => q ⟨m, hm, ee⟩] at z; cases z
  keep := fun c o h n => b.keep c o (a.keep c o h n) fun m hm e => by
    by_cases h3 : m < S.len
    · exact n m h3 (by rw [← a.phi m h3]; exact e)
    · have z := a.new m (Nat.le_of_not_lt h3) hm
      rw [e, h] at z; cases z
  tr := fun n h => by
    rw [← a.phi n h]
    exact b.tr n (Nat.lt_of_lt_of_le h a.len)
  fr := fun c o h f n => b.fr c o (a.keep c o h n) (a.fr c o h f n) fun m hm e => by
    by_cases h3 : m < S.len
    · exact n m h3 (by rw [← a.phi m h3]; exact e)
    · have z := a.new m (Nat.le_of_not_lt h3) hm
      rw [e, h] at z; cases z
theorem RS.mono (h : Same F F') {k k' : Nat} (l : k ≤ k') (p : ∀ n, n < k → φ' n = φ n) {σd : En} {σ : L2.St} (r : RS K cl F φ k σd σ) : RS K cl F' φ' k' σd σ :=
  ⟨r.1, fun i d e => let ⟨a, v, b, c⟩ := r.2 i d e; ⟨a.mono l, v, b, DR.mono h p a c⟩⟩
end
end Pv
namespace Pv
open PySem PySem.Spec PyProof.Rows L2

abbrev ME := En → SH → Option (D × SH)
abbrev MT := En → SH → Option (Bool × SH)
abbrev MA := En → SH → Option (List D × SH)
inductive Fl where
  | nx (σ : En) | ret (d : D) | brk (σ : En) | ct (σ : En)
abbrev MS := En → SH → Option (Fl × SH)
abbrev MF := List D → SH → Option (D × SH)

section
variable (K : PySem.W.Frag) (cl : Nat → Addr)
/-- an end as wished: a value, a truth, values -/
def OkE (S : SH) (B : List Nat) (F : Hp) (φ : Nat → Addr) (H : Hp) (r : Option (D × SH)) (Q : VK) : Prop :=
  ∃ d S1, r = some (d, S1) ∧ ∀ F1 φ1 H1 u, Sim K cl S1 B F1 φ1 H1 → Ext S F φ H S1 F1 φ1 H1 → DR K cl F1 φ1 d u → d.lt S1.len → Q u H1
def OkT (S : SH) (B : List Nat) (F : Hp) (φ : Nat → Addr) (H : Hp) (r : Option (Bool × SH)) (Q : Bool → Hp → Prop) : Prop :=
  ∃ d S1, r = some (d, S1) ∧ ∀ F1 φ1 H1, Sim K cl S1 B F1 φ1 H1 → Ext S F φ H S1 F1 φ1 H1 → Q d H1
def OkA (S : SH) (B : List Nat) (F : Hp) (φ : Nat → Addr) (H : Hp) (r : Option (List D × SH)) (Q : List V → Hp → Prop) : Prop :=
  ∃ ds S1, r = some (ds, S1) ∧ ∀ F1 φ1 H1 us, Sim K cl S1 B F1 φ1 H1 → Ext S F φ H S1 F1 φ1 H1 → DRA K cl F1 φ1 ds us → (∀ d ∈ ds, d.lt S1.len) → Q us H1
def OkF (S : SH) (B : List Nat) (F : Hp) (φ : Nat → Addr) (H : Hp) (Z : Ends) (S1 : SH) : Fl → Prop
  | .nx σd => ∀ F1 φ1 H1 σ, Sim K cl S1 B F1 φ1 H1 → Ext S F φ H S1 F1 φ1 H1 → RS K cl F1 φ1 S1.len σd σ → Z.nx σ H1
  | .ret d => ∀ F1 φ1 H1 u, Sim K cl S1 B F1 φ1 H1 → Ext S F φ H S1 F1 φ1 H1 → DR K cl F1 φ1 d u → d.lt S1.len → Z.rt u H1
  | .brk σd => ∀ F1 φ1 H1 σ, Sim K cl S1 B F1 φ1 H1 → Ext S F φ H S1 F1 φ1 H1 → RS K cl F1 φ1 S1.len σd σ → Z.bk σ H1
  | .ct σd => ∀ F1 φ1 H1 σ, Sim K cl S1 B F1 φ1 H1 → Ext S F φ H S1 F1 φ1 H1 → RS K cl F1 φ1 S1.len σd σ → Z.ct σ H1
def OkS (S : SH) (B : List Nat) (F : Hp) (φ : Nat → Addr) (H : Hp) (r : Option (Fl × SH)) (Z : Ends) : Prop :=
  ∃ f S1, r = some (f, S1) ∧ OkF K cl S B F φ H Z S1 f
/-- readings out of computations by value -/
def LE (m : ME) : TE := fun σ H Q => ∃ σd S B F φ, Sim K cl S B F φ H ∧ RS K cl F φ S.len σd σ ∧ OkE K cl S B F φ H (m σd S) Q
def LT (m : MT) : TT := fun σ H Q => ∃ σd S B F φ, Sim K cl S B F φ H ∧ RS K cl F φ S.len σd σ ∧ OkT K cl S B F φ H (m σd S) Q
def LA (m : MA) : TA := fun σ H Q => ∃ σd S B F φ, Sim K cl S B F φ H ∧ RS K cl F φ S.len σd σ ∧ OkA K cl S B F φ H (m σd S) Q
def LS (m : MS) : TS := fun Z σ H => ∃ σd S B F φ, Sim K cl S B F φ H ∧ RS K cl F φ S.len σd σ ∧ OkS K cl S B F φ H (m σd S) Z
end

/-! the combinators -/
def bnd {α β : Type} (r : Option (α × SH)) (f : α → SH → Option (β × SH)) : Option (β × SH) := match r with
  | some (a, S) => f a S
  | none => none
@[simp] theorem bnd_some {α β : Type} (a : α) (S : SH) (f : α → SH → Option (β × SH)) : bnd (some (a, S)) f = f a S := id rfl
@[simp] theorem bnd_none {α β : Type} (f : α → SH → Option (β × SH)) : bnd none f = none := id rfl
theorem bnd_of {α β : Type} {r : Option (α × SH)} {f : α → SH → Option (β × SH)} {x : β × SH} (h : bnd r f = some x) : ∃ a S, r = some (a, S) ∧ f a S = some x := by
  cases r with
  | none => cases h
  | some p => exact ⟨p.1, p.2, rfl, h⟩
def isB : D → Option Bool
  | .p (.bl b) => some b
  | _ => none
theorem isB_of {d : D} {b : Bool} (h : isB d = some b) : d = .p (.bl b) := by
  cases d with
  | ref n => cases h
  | p x => cases x <;> cases h <;> rfl
def dVar (i : Nat) : ME := fun σ S => match σ[i]? with | some (some d) => some (d, S) | _ => none
def dC (x : P) : ME := fun _ S => some (.p x, S)
def dOp (f : D → D → SH → Option (D × SH)) (a b : ME) : ME := fun σ S => bnd (a σ S) fun x S1 => bnd (b σ S1) fun y S2 => f x y S2
def dUn (f : D → SH → Option (D × SH)) (a : ME) : ME := fun σ S => bnd (a σ S) fun x S1 => f x S1
def toB (d : D) (S : SH) : Option (Bool × SH) := match isB d with | some b => some (b, S) | none => none
@[simp] theorem toB_p (b : Bool) (S : SH) : toB (.p (.bl b)) S = some (b, S) := id rfl
def dTest (a : ME) : MT := fun σ S => bnd (a σ S) toB
def dAnd (a b : MT) : MT := fun σ S => bnd (a σ S) fun t S1 => if t = true then b σ S1 else some (false, S1)
def dOr (a b : MT) : MT := fun σ S => bnd (a σ S) fun t S1 => if t = true then some (true, S1) else b σ S1
def dNot (a : MT) : MT := fun σ S => bnd (a σ S) fun t S1 => some (!t, S1)
def dNotV (a : ME) : ME := fun σ S => bnd (a σ S) fun d S1 => bnd (toB d S1) fun t S2 => some (.p (.bl (!t)), S2)
def dAndV (a b : ME) : ME := fun σ S => bnd (a σ S) fun d S1 => bnd (toB d S1) fun t S2 => if t = true then b σ S2 else some (.p (.bl false), S2)
def dOrV (a b : ME) : ME := fun σ S => bnd (a σ S) fun d S1 => bnd (toB d S1) fun t S2 => if t = true then some (.p (.bl true), S2) else b σ S2
def dIfE (t : MT) (a b : ME) : ME := fun σ S => bnd (t σ S) fun t S1 => if t = true then a σ S1 else b σ S1
def dNil : MA := fun _ S => some ([], S)
def dCons (a : ME) (r : MA) : MA := fun σ S => bnd (a σ S) fun x S1 => bnd (r σ S1) fun xs S2 => some (x :: xs, S2)
def dCall (f : MF) (a : MA) : ME := fun σ S => bnd (a σ S) fun xs S1 => f xs S1
def dNx : MS := fun σ S => some (.nx σ, S)
def dSeq (a b : MS) : MS := fun σ S => bnd (a σ S) fun f S1 => match f with | .nx σ1 => b σ1 S1 | r => some (r, S1)
def dBrk : MS := fun σ S => some (.brk σ, S)
def dCt : MS := fun σ S => some (.ct σ, S)
def dDrop (a : ME) : MS := fun σ S => bnd (a σ S) fun _ S1 => some (.nx σ, S1)
def dRet (a : ME) : MS := fun σ S => bnd (a σ S) fun d S1 => some (.ret d, S1)
def dRetN : MS := fun _ S => some (.ret (.p .non), S)
def dIf (t : MT) (a b : MS) : MS := fun σ S => bnd (t σ S) fun t S1 => if t = true then a σ S1 else b σ S1
def dNever : MS := fun _ _ => none
def dSet (i : Nat) (a : ME) : MS := fun σ S => bnd (a σ S) fun d S1 => some (.nx (σ.set i (some d)), S1)
/-- forget what some names hold -/
def wipeD : List Nat → En → En
  | [], σ => σ
  | i :: r, σ => wipeD r (σ.set i none)
def dWipe (vs : List Nat) (a : MS) : MS := fun σ S => a (wipeD vs σ) S

section
variable {K : PySem.W.Frag} {cl : Nat → Addr} {S S' S1 S2 : SH} {B : List Nat} {F F' F1 F2 H H' H1 H2 : Hp} {φ φ' φ1 φ2 : Nat → Addr}
theorem Ext.rs (e : Ext S F φ H S1 F1 φ1 H1) {σd : En} {σ : L2.St} (r : RS K cl F φ S.len σd σ) : RS K cl F1 φ1 S1.len σd σ := r.mono e.fz e.len e.phi
theorem Ext.dr (e : Ext S F φ H S1 F1 φ1 H1) {d : D} {v : V} (l : d.lt S.len) (r : DR K cl F φ d v) : DR K cl F1 φ1 d v := DR.mono e.fz e.phi l r
theorem Ext.lt (e : Ext S F φ H S1 F1 φ1 H1) {d : D} (l : d.lt S.len) : d.lt S1.len := l.mono e.len
theorem Ext.dra (e : Ext S F φ H S1 F1 φ1 H1) {d : List D} {v : List V} (l : ∀ x ∈ d, x.lt S.len) (r : DRA K cl F φ d v) : DRA K cl F1 φ1 d v := DRA.mono e.fz e.phi l r
theorem OkE.ext (e : Ext S F φ H S1 F1 φ1 H1) {r : Option (D × SH)} {Q : VK} (h : OkE K cl S B F φ H r Q) : OkE K cl S1 B F1 φ1 H1 r Q := by
  obtain ⟨d, S2, er, k⟩ := h
  exact ⟨d, S2, er, fun F2 φ2 H2 u s x => k F2 φ2 H2 u s (e.trans x)⟩
theorem OkT.ext (e : Ext S F φ H S1 F1 φ1 H1) {r : Option (Bool × SH)} {Q : Bool → Hp → Prop} (h : OkT K cl S B F φ H r Q) : OkT K cl S1 B F1 φ1 H1 r Q := by
  obtain ⟨d, S2, er, k⟩ := h
  exact ⟨d, S2, er, fun F2 φ2 H2 s x => k F2 φ2 H2 s (e.trans x)⟩
theorem OkA.ext (e : Ext S F φ H S1 F1 φ1 H1) {r : Option (List D × SH)} {Q : List V → Hp → Prop} (h : OkA K cl S B F φ H r Q) : OkA K cl S1 B F1 φ1 H1 r Q := by
  obtain ⟨d, S2, er, k⟩ := h
  exact ⟨d, S2, er, fun F2 φ2 H2 u s x => k F2 φ2 H2 u s (e.trans x)⟩
theorem OkF.ext (e : Ext S F φ H S1 F1 φ1 H1) {f : Fl} {Z : Ends} (h : OkF K cl S B F φ H Z S2 f) : OkF K cl S1 B F1 φ1 H1 Z S2 f := by
  cases f with
  | nx σ => exact fun F2 φ2 H2 u s x => h F2 φ2 H2 u s (e.trans x)
  | ret d => exact fun F2 φ2 H2 u s x => h F2 φ2 H2 u s (e.trans x)
  | brk σ => exact fun F2 φ2 H2 u s x => h F2 φ2 H2 u s (e.trans x)
  | ct σ => exact fun F2 φ2 H2 u s x => h F2 φ2 H2 u s (e.trans x)
theorem OkS.ext (e : Ext S F φ H S1 F1 φ1 H1) {r : Option (Fl × SH)} {Z : Ends} (h : OkS K cl S B F φ H r Z) : OkS K cl S1 B F1 φ1 H1 r Z := by
  obtain ⟨f, S2, er, k⟩ := h
  exact ⟨f, S2, er, k.ext e⟩
/-- one after the other: what the first one leaves -/
theorem LE.then_ {m : ME} {σ : L2.St} {σd : En} {Q : VK} {d : D} (s : Sim K cl S B F φ H) (r : RS K cl F φ S.len σd σ) (e : m σd S = some (d, S1))
    (k : ∀ F1 φ1 H1 u, Sim K cl S1 B F1 φ1 H1 → Ext S F φ H S1 F1 φ1 H1 → RS K cl F1 φ1 S1.len σd σ → DR K cl F1 φ1 d u → d.lt S1.len → Q u H1) : LE K cl m σ H Q :=
  ⟨σd, S, B, F, φ, s, r, d, S1, e, fun F1 φ1 H1 u s1 x dr l => k F1 φ1 H1 u s1 x (x.rs r) dr l⟩
theorem LT.then_ {m : MT} {σ : L2.St} {σd : En} {Q : Bool → Hp → Prop} {d : Bool} (s : Sim K cl S B F φ H) (r : RS K cl F φ S.len σd σ) (e : m σd S = some (d, S1))
    (k : ∀ F1 φ1 H1, Sim K cl S1 B F1 φ1 H1 → Ext S F φ H S1 F1 φ1 H1 → RS K cl F1 φ1 S1.len σd σ → Q d H1) : LT K cl m σ H Q :=
  ⟨σd, S, B, F, φ, s, r, d, S1, e, fun F1 φ1 H1 s1 x => k F1 φ1 H1 s1 x (x.rs r)⟩
theorem LA.then_ {m : MA} {σ : L2.St} {σd : En} {Q : List V → Hp → Prop} {d : List D} (s : Sim K cl S B F φ H) (r : RS K cl F φ S.len σd σ) (e : m σd S = some (d, S1))
    (k : ∀ F1 φ1 H1 u, Sim K cl S1 B F1 φ1 H1 → Ext S F φ H S1 F1 φ1 H1 → RS K cl F1 φ1 S1.len σd σ → DRA K cl F1 φ1 d u → (∀ x ∈ d, x.lt S1.len) → Q u H1) : LA K cl m σ H Q :=
  ⟨σd, S, B, F, φ, s, r, d, S1, e, fun F1 φ1 H1 u s1 x dr l => k F1 φ1 H1 u s1 x (x.rs r) dr l⟩
theorem LS.then_ {m : MS} {σ : L2.St} {σd : En} {Z : Ends} {f : Fl} (s : Sim K cl S B F φ H) (r : RS K cl F φ S.len σd σ) (e : m σd S = some (f, S1))
    (k : OkF K cl S B F φ H Z S1 f) : LS K cl m Z σ H := ⟨σd, S, B, F, φ, s, r, f, S1, e, k⟩
/-- the end as it is -/
theorem OkE.fin {r : Option (D × SH)} {Q : VK} {d : D} {u : V} (h : OkE K cl S B F φ H r Q) (e : r = some (d, S1)) (s : Sim K cl S1 B F1 φ1 H1) (x : Ext S F φ H S1 F1 φ1 H1) (dr : DR K cl F1 φ1 d u) (l : d.lt S1.len) : Q u H1 := by
  obtain ⟨d', S', e', k⟩ := h
  rw [e] at e'; cases e'
  exact k F1 φ1 H1 u s x dr l
theorem OkE.fin0 {r : Option (D × SH)} {Q : VK} {d : D} {u : V} (h : OkE K cl S B F φ H r Q) (e : r = some (d, S)) (s : Sim K cl S B F φ H) (dr : DR K cl F φ d u) (l : d.lt S.len) : Q u H := h.fin e s (.refl s) dr l
end

theorem _root_.L2.PE.imp {X : Cx} {e : Expr} {t t' : TE} (h : PE X e t) (i : ∀ σ H Q, t' σ H Q → t σ H Q) : PE X e t' := ⟨fun pins s σ H Q I q => h.run pins s σ H Q I (i σ H Q q)⟩
theorem _root_.L2.PT.imp {X : Cx} {e : Expr} {t t' : TT} (h : PT X e t) (i : ∀ σ H Q, t' σ H Q → t σ H Q) : PT X e t' := ⟨fun pins s σ H Q I q => h.run pins s σ H Q I (i σ H Q q)⟩
theorem _root_.L2.PW.imp {X : Cx} {e : Expr} {t t' : TT} (h : PW X e t) (i : ∀ σ H Q, t' σ H Q → t σ H Q) : PW X e t' := ⟨fun w pins s σ H Q I q => h.run w pins s σ H Q I (i σ H Q q)⟩
theorem _root_.L2.PA.imp {X : Cx} {e : List Expr} {t t' : TA} (h : PA X e t) (i : ∀ σ H Q, t' σ H Q → t σ H Q) : PA X e t' := ⟨fun p pins s σ H Q I q => h.run p pins s σ H Q I (i σ H Q q)⟩
theorem _root_.L2.PS.imp {X : Cx} {e : Stmt} {t t' : TS} (h : PS X e t) (i : ∀ Z σ H, t' Z σ H → t Z σ H) : PS X e t' := ⟨fun pins s σ H Z I q => h.run pins s σ H Z I (i Z σ H q)⟩
theorem _root_.L2.PSs.imp {X : Cx} {e : List Stmt} {t t' : TS} (h : PSs X e t) (i : ∀ Z σ H, t' Z σ H → t Z σ H) : PSs X e t' := ⟨fun pins s σ H Z I q => h.run pins s σ H Z I (i Z σ H q)⟩

/-! the rules -/
section
variable {X : Cx} {cl : Nat → Addr}
/-- an operation by values: its reading follows from its computation -/
def OpD (K : PySem.W.Frag) (cl : Nat → Addr) (f : D → D → SH → Option (D × SH)) (r : R2) : Prop :=
  ∀ S B F φ H d1 d2 x y Q, Sim K cl S B F φ H → DR K cl F φ d1 x → DR K cl F φ d2 y → d1.lt S.len → d2.lt S.len → OkE K cl S B F φ H (f d1 d2 S) Q → r x y H Q
def UnD (K : PySem.W.Frag) (cl : Nat → Addr) (f : D → SH → Option (D × SH)) (r : V → Hp → VK → Prop) : Prop :=
  ∀ S B F φ H d x Q, Sim K cl S B F φ H → DR K cl F φ d x → d.lt S.len → OkE K cl S B F φ H (f d S) Q → r x H Q
def CallD (K : PySem.W.Frag) (cl : Nat → Addr) (f : MF) (r : List V → Hp → VK → Prop) : Prop :=
  ∀ S B F φ H ds xs Q, Sim K cl S B F φ H → DRA K cl F φ ds xs → (∀ d ∈ ds, d.lt S.len) → OkE K cl S B F φ H (f ds S) Q → r xs H Q

theorem okE_bnd {K : PySem.W.Frag} {α : Type} {S : SH} {B : List Nat} {F : Hp} {φ : Nat → Addr} {H : Hp} {r : Option (α × SH)} {f : α → SH → Option (D × SH)} {Q : VK} (h : OkE K cl S B F φ H (bnd r f) Q) : ∃ a S1, r = some (a, S1) ∧ OkE K cl S B F φ H (f a S1) Q := by
  cases r with
  | none => obtain ⟨_, _, z, _⟩ := h; cases z
  | some p => exact ⟨p.1, p.2, rfl, h⟩
theorem okT_bnd {K : PySem.W.Frag} {α : Type} {S : SH} {B : List Nat} {F : Hp} {φ : Nat → Addr} {H : Hp} {r : Option (α × SH)} {f : α → SH → Option (Bool × SH)} {Q : Bool → Hp → Prop} (h : OkT K cl S B F φ H (bnd r f) Q) : ∃ a S1, r = some (a, S1) ∧ OkT K cl S B F φ H (f a S1) Q := by
  cases r with
  | none => obtain ⟨_, _, z, _⟩ := h; cases z
  | some p => exact ⟨p.1, p.2, rfl, h⟩
theorem okA_bnd {K : PySem.W.Frag} {α : Type} {S : SH} {B : List Nat} {F : Hp} {φ : Nat → Addr} {H : Hp} {r : Option (α × SH)} {f : α → SH → Option (List D × SH)} {Q : List V → Hp → Prop} (h : OkA K cl S B F φ H (bnd r f) Q) : ∃ a S1, r = some (a, S1) ∧ OkA K cl S B F φ H (f a S1) Q := by
  cases r with
  | none => obtain ⟨_, _, z, _⟩ := h; cases z
  | some p => exact ⟨p.1, p.2, rfl, h⟩
theorem okS_bnd {K : PySem.W.Frag} {α : Type} {S : SH} {B : List Nat} {F : Hp} {φ : Nat → Addr} {H : Hp} {r : Option (α × SH)} {f : α → SH → Option (Fl × SH)} {Q : Ends} (h : OkS K cl S B F φ H (bnd r f) Q) : ∃ a S1, r = some (a, S1) ∧ OkS K cl S B F φ H (f a S1) Q := by
  cases r with
  | none => obtain ⟨_, _, z, _⟩ := h; cases z
  | some p => exact ⟨p.1, p.2, rfl, h⟩
theorem toB_of {d : D} {S S' : SH} {b : Bool} (h : toB d S = some (b, S')) : d = .p (.bl b) ∧ S' = S := by
  unfold toB at h
  cases e : isB d with
  | none => rw [e] at h; cases h
  | some c => rw [e] at h; cases h; exact ⟨isB_of e, rfl⟩
theorem rp_bl {K : PySem.W.Frag} {F : Hp} {φ : Nat → Addr} {b : Bool} {x : V} (h : DR K cl F φ (.p (.bl b)) x) : x = .bl b := by
  cases (show Rp K cl F (.bl b) x from h); rfl
theorem e_op {K : PySem.W.Frag} {f : D → D → SH → Option (D × SH)} {r : R2} (h : OpD K cl f r) {ma mb : ME} {σ : L2.St} {H : Hp} {Q : VK} (q : LE K cl (dOp f ma mb) σ H Q) : tOp r (LE K cl ma) (LE K cl mb) σ H Q := by
  obtain ⟨σd, S, B, F, φ, s, rs, o⟩ := q
  obtain ⟨d1, S1, ea, o⟩ := okE_bnd o
  obtain ⟨d2, S2, eb, o⟩ := okE_bnd o
  refine LE.then_ s rs ea fun F1 φ1 H1 x s1 x1 rs1 dr1 l1 => ?_
  refine LE.then_ s1 rs1 eb fun F2 φ2 H2 y s2 x2 rs2 dr2 l2 => ?_
  exact h S2 B F2 φ2 H2 d1 d2 x y Q s2 (x2.dr l1 dr1) dr2 (x2.lt l1) l2 (o.ext (x1.trans x2))
theorem e_un {K : PySem.W.Frag} {f : D → SH → Option (D × SH)} {r : V → Hp → VK → Prop} (h : UnD K cl f r) {ma : ME} {σ : L2.St} {H : Hp} {Q : VK} (q : LE K cl (dUn f ma) σ H Q) : tUn r (LE K cl ma) σ H Q := by
  obtain ⟨σd, S, B, F, φ, s, rs, o⟩ := q
  obtain ⟨d1, S1, ea, o⟩ := okE_bnd o
  exact LE.then_ s rs ea fun F1 φ1 H1 x s1 x1 rs1 dr1 l1 => h S1 B F1 φ1 H1 d1 x Q s1 dr1 l1 (o.ext x1)
theorem k_var (i : Nat) {x : Str} {pos : Pos} (hN : X.N[i]? = some x := by rfl) (hv : Vis X.env.scope x := by first | exact Or.inl rfl | exact Or.inr (Or.inl rfl) | exact Or.inr (Or.inr rfl)) (hd : (x == ("__debug__" : Str)) = false := by decide)
    (hcd : (x == ("__classdict__" : Str)) = false := by decide) : PE X (.Name x pos) (LE X.K cl (dVar i)) := by
  refine (pe_var hN hv hd hcd).imp fun σ H Q q => ?_
  obtain ⟨σd, S, B, F, φ, s, rs, d, S1, e, k⟩ := q
  unfold dVar at e
  split at e
  · rename_i d' h
    cases e
    obtain ⟨l, v, hv, dr⟩ := rs.2 i _ h
    exact ⟨v, hv, k F φ H v s (.refl s) dr l⟩
  · cases e
theorem e_c {K : PySem.W.Frag} {p : P} {v : V} {σ : L2.St} {H : Hp} {Q : VK} (q : LE K cl (dC p) σ H Q) (h : ∀ F, Rp K cl F p v) : Q v H := by
  obtain ⟨σd, S, B, F, φ, s, rs, o⟩ := q
  exact o.fin0 rfl s (h F) trivial
theorem k_int {i j pos} : PE X (.Constant (.int i) j pos) (LE X.K cl (dC (.int i))) := pe_int.imp fun _ _ _ q => e_c q fun _ => .int _
theorem k_bl {i j pos} : PE X (.Constant (.bool i) j pos) (LE X.K cl (dC (.bl i))) := pe_bl.imp fun _ _ _ q => e_c q fun _ => .bl _
theorem k_str {i j pos} : PE X (.Constant (.str i) j pos) (LE X.K cl (dC (.str i))) := pe_str.imp fun _ _ _ q => e_c q fun _ => .str _
theorem k_non {j pos} : PE X (.Constant .none j pos) (LE X.K cl (dC .non)) := pe_non.imp fun _ _ _ q => e_c q fun _ => .non
variable {a b c : Expr} {ma mb mc : ME} {ta tb : MT} {pos : Pos}
theorem k_op {op : Operator} {f : D → D → SH → Option (D × SH)} {r : R2} (hd : OpD X.K cl f r) (ho : OpR X (binaryOp op) r) (ha : PE X a (LE X.K cl ma)) (hb : PE X b (LE X.K cl mb)) : PE X (.BinOp a op b pos) (LE X.K cl (dOp f ma mb)) :=
  (pe_op ho ha hb).imp fun _ _ _ q => e_op hd q
theorem k_un {op : UnaryOp} {f : D → SH → Option (D × SH)} {r : V → Hp → VK → Prop} (hd : UnD X.K cl f r) (ho : UnR X (unaryOp op) r) (ha : PE X a (LE X.K cl ma)) : PE X (.UnaryOp op a pos) (LE X.K cl (dUn f ma)) :=
  (pe_un ho ha).imp fun _ _ _ q => e_un hd q
theorem k_cmp {op : CmpOp} {f : D → D → SH → Option (D × SH)} {r : R2} (hd : OpD X.K cl f r) (ho : OpR X (compareOp op) r) (ha : PE X a (LE X.K cl ma)) (hb : PE X b (LE X.K cl mb)) (hm : behindInMarks op b = false) : PE X (.Compare a [op] [b] pos) (LE X.K cl (dOp f ma mb)) :=
  (pe_cmpR ho ha hb hm).imp fun _ _ _ q => e_op hd q
theorem e_test {K : PySem.W.Frag} {ma : ME} {σ : L2.St} {H : Hp} {Q : Bool → Hp → Prop} (q : LT K cl (dTest ma) σ H Q) : LE K cl ma σ H fun x H' => ∃ k, x = .bl k ∧ Q k H' := by
  obtain ⟨σd, S, B, F, φ, s, rs, o⟩ := q
  obtain ⟨d, S1, e, o⟩ := okT_bnd o
  obtain ⟨b, S2, e2, k⟩ := o
  obtain ⟨rfl, rfl⟩ := toB_of e2
  exact LE.then_ s rs e fun F1 φ1 H1 x s1 x1 rs1 dr1 l1 => ⟨b, rp_bl dr1, k F1 φ1 H1 s1 x1⟩
theorem e_test2 {K : PySem.W.Frag} {f : D → D → SH → Option (D × SH)} {r : R2} (h : OpD K cl f r) {ma mb : ME} {σ : L2.St} {H : Hp} {Q : Bool → Hp → Prop} (q : LT K cl (dTest (dOp f ma mb)) σ H Q) : tTest (tOp r (LE K cl ma) (LE K cl mb)) σ H Q := by
  refine e_op h ?_
  exact e_test q
theorem t_cmp {op : CmpOp} {f : D → D → SH → Option (D × SH)} {r : R2} (hd : OpD X.K cl f r) (ho : OpR X (compareOp op) r) (ha : PE X a (LE X.K cl ma)) (hb : PE X b (LE X.K cl mb)) (hm : behindInMarks op b = false) : PT X (.Compare a [op] [b] pos) (LT X.K cl (dTest (dOp f ma mb))) :=
  (pt_cmpR ho ha hb hm).imp fun _ _ _ q => e_test2 hd q
theorem t_val {e : Expr} {m : ME} (h : PE X e (LE X.K cl m)) (he : ∀ whole, isTrue e X.env whole = (do let v ← whole; standAt e.pos; holding [v] (truthy v)) := by intro _; rfl) : PT X e (LT X.K cl (dTest m)) :=
  (pt_val h he).imp fun σ H Q q => e_test q
theorem w_and1 (ha : PT X a (LT X.K cl ta)) : PW X (.BoolOp .And [a] pos) (LT X.K cl ta) := pw_and1 ha
theorem w_or1 (ha : PT X a (LT X.K cl ta)) : PW X (.BoolOp .Or [a] pos) (LT X.K cl ta) := pw_or1 ha
variable {rest : List Expr}
theorem w_and (ha : PT X a (LT X.K cl ta)) (hb : PW X (.BoolOp .And (b :: rest) pos) (LT X.K cl tb)) : PW X (.BoolOp .And (a :: b :: rest) pos) (LT X.K cl (dAnd ta tb)) := by
  refine (pw_and ha hb).imp fun σ H Q q => ?_
  obtain ⟨σd, S, B, F, φ, s, rs, o⟩ := q
  obtain ⟨t, S1, e, o⟩ := okT_bnd o
  refine LT.then_ s rs e fun F1 φ1 H1 s1 x1 rs1 => ?_
  split
  · rename_i ht; rw [if_pos ht] at o; exact ⟨σd, S1, B, F1, φ1, s1, rs1, o.ext x1⟩
  · rename_i ht; rw [if_neg ht] at o
    obtain ⟨_, _, z, k⟩ := o
    cases z
    exact k F1 φ1 H1 s1 x1
theorem w_or (ha : PT X a (LT X.K cl ta)) (hb : PW X (.BoolOp .Or (b :: rest) pos) (LT X.K cl tb)) : PW X (.BoolOp .Or (a :: b :: rest) pos) (LT X.K cl (dOr ta tb)) := by
  refine (pw_or ha hb).imp fun σ H Q q => ?_
  obtain ⟨σd, S, B, F, φ, s, rs, o⟩ := q
  obtain ⟨t, S1, e, o⟩ := okT_bnd o
  refine LT.then_ s rs e fun F1 φ1 H1 s1 x1 rs1 => ?_
  split
  · rename_i ht; rw [if_pos ht] at o
    obtain ⟨_, _, z, k⟩ := o
    cases z
    exact k F1 φ1 H1 s1 x1
  · rename_i ht; rw [if_neg ht] at o; exact ⟨σd, S1, B, F1, φ1, s1, rs1, o.ext x1⟩
theorem t_not (ha : PT X a (LT X.K cl ta)) : PT X (.UnaryOp .Not a pos) (LT X.K cl (dNot ta)) := by
  refine (pt_not ha).imp fun σ H Q q => ?_
  obtain ⟨σd, S, B, F, φ, s, rs, o⟩ := q
  obtain ⟨t, S1, e, o⟩ := okT_bnd o
  refine LT.then_ s rs e fun F1 φ1 H1 s1 x1 rs1 => ?_
  obtain ⟨_, _, z, k⟩ := o
  cases z
  exact k F1 φ1 H1 s1 x1
theorem k_not (ha : PE X a (LE X.K cl ma)) : PE X (.UnaryOp .Not a pos) (LE X.K cl (dNotV ma)) := by
  refine (pe_not ha).imp fun σ H Q q => ?_
  obtain ⟨σd, S, B, F, φ, s, rs, o⟩ := q
  obtain ⟨d, S1, e, o⟩ := okE_bnd o
  obtain ⟨b, S2, e2, o2⟩ := okE_bnd o
  clear o
  obtain ⟨rfl, rfl⟩ := toB_of e2
  have o := o2
  clear o2
  exact LE.then_ s rs e fun F1 φ1 H1 x s1 x1 rs1 dr1 l1 => ⟨b, rp_bl dr1, o.fin rfl s1 x1 (Rp.bl _) trivial⟩
theorem k_one {op} (h : PE X a (LE X.K cl ma)) : PE X (.BoolOp op [a] pos) (LE X.K cl ma) := pe_one h
theorem k_and (ha : PE X a (LE X.K cl ma)) (hb : PE X (.BoolOp .And (b :: rest) pos) (LE X.K cl mb)) : PE X (.BoolOp .And (a :: b :: rest) pos) (LE X.K cl (dAndV ma mb)) := by
  refine (pe_and ha hb).imp fun σ H Q q => ?_
  obtain ⟨σd, S, B, F, φ, s, rs, o⟩ := q
  obtain ⟨d, S1, e, o⟩ := okE_bnd o
  obtain ⟨b, S2, e2, o2⟩ := okE_bnd o
  clear o
  obtain ⟨rfl, rfl⟩ := toB_of e2
  have o := o2
  clear o2
  refine LE.then_ s rs e fun F1 φ1 H1 x s1 x1 rs1 dr1 l1 => ⟨b, rp_bl dr1, ?_⟩
  split
  · rename_i ht; rw [if_pos ht] at o; exact ⟨σd, S2, B, F1, φ1, s1, rs1, o.ext x1⟩
  · rename_i ht; rw [if_neg ht] at o; exact o.fin rfl s1 x1 (Rp.bl _) trivial
theorem k_or (ha : PE X a (LE X.K cl ma)) (hb : PE X (.BoolOp .Or (b :: rest) pos) (LE X.K cl mb)) : PE X (.BoolOp .Or (a :: b :: rest) pos) (LE X.K cl (dOrV ma mb)) := by
  refine (pe_or ha hb).imp fun σ H Q q => ?_
  obtain ⟨σd, S, B, F, φ, s, rs, o⟩ := q
  obtain ⟨d, S1, e, o⟩ := okE_bnd o
  obtain ⟨b, S2, e2, o2⟩ := okE_bnd o
  clear o
  obtain ⟨rfl, rfl⟩ := toB_of e2
  have o := o2
  clear o2
  refine LE.then_ s rs e fun F1 φ1 H1 x s1 x1 rs1 dr1 l1 => ⟨b, rp_bl dr1, ?_⟩
  split
  · rename_i ht; rw [if_pos ht] at o; exact o.fin rfl s1 x1 (Rp.bl _) trivial
  · rename_i ht; rw [if_neg ht] at o; exact ⟨σd, S2, B, F1, φ1, s1, rs1, o.ext x1⟩
theorem k_if {t : Expr} (ht : PT X t (LT X.K cl ta)) (ha : PE X a (LE X.K cl ma)) (hb : PE X b (LE X.K cl mb)) : PE X (.IfExp t a b pos) (LE X.K cl (dIfE ta ma mb)) := by
  refine (pe_ifExp ht ha hb).imp fun σ H Q q => ?_
  obtain ⟨σd, S, B, F, φ, s, rs, o⟩ := q
  obtain ⟨t, S1, e, o⟩ := okE_bnd o
  refine LT.then_ s rs e fun F1 φ1 H1 s1 x1 rs1 => ?_
  split
  · rename_i ht; rw [if_pos ht] at o; exact ⟨σd, S1, B, F1, φ1, s1, rs1, o.ext x1⟩
  · rename_i ht; rw [if_neg ht] at o; exact ⟨σd, S1, B, F1, φ1, s1, rs1, o.ext x1⟩
variable {e : Expr} {es : List Expr} {mr : MA}
theorem a_nil : PA X [] (LA X.K cl dNil) := pa_nil.imp fun σ H Q q => by
  obtain ⟨σd, S, B, F, φ, s, rs, d, S1, e, k⟩ := q
  cases e
  exact k F φ H [] s (.refl s) .nil (fun _ z => absurd z (by simp))
theorem a_cons (he : PE X e (LE X.K cl ma)) (hr : PA X es (LA X.K cl mr)) (hs : starEach (e :: es) X.env = (false, eval e X.env) :: starEach es X.env := by rfl) : PA X (e :: es) (LA X.K cl (dCons ma mr)) := by
  refine (pa_cons he hr hs).imp fun σ H Q q => ?_
  obtain ⟨σd, S, B, F, φ, s, rs, o⟩ := q
  obtain ⟨d1, S1, ea, o⟩ := okA_bnd o
  obtain ⟨d2, S2, eb, o⟩ := okA_bnd o
  refine LE.then_ s rs ea fun F1 φ1 H1 x s1 x1 rs1 dr1 l1 => ?_
  refine LA.then_ s1 rs1 eb fun F2 φ2 H2 y s2 x2 rs2 dr2 l2 => ?_
  obtain ⟨_, _, z, k⟩ := o
  cases z
  exact k F2 φ2 H2 (x :: y) s2 (x1.trans x2) (.cons (x2.dr l1 dr1) dr2) fun d hd => by
    rcases List.mem_cons.mp hd with rfl | hd
    · exact x2.lt l1
    · exact l2 d hd
theorem e_call {K : PySem.W.Frag} {f : MF} {r : List V → Hp → VK → Prop} (h : CallD K cl f r) {m : MA} {σ : L2.St} {H : Hp} {Q : VK} (q : LE K cl (dCall f m) σ H Q) : LA K cl m σ H fun vs H1 => r vs H1 Q := by
  obtain ⟨σd, S, B, F, φ, s, rs, o⟩ := q
  obtain ⟨d1, S1, ea, o⟩ := okE_bnd o
  exact LA.then_ s rs ea fun F1 φ1 H1 x s1 x1 rs1 dr1 l1 => h S1 B F1 φ1 H1 d1 x Q s1 dr1 l1 (o.ext x1)
end
end Pv
namespace Pv
open PySem PySem.Spec PyProof.Rows L2

/-! ### what a def leaves behind: the objects that it made are data from then on -/
def toP : Nat → Nat → SH → D → Option P
  | _, _, _, .p x => some x
  | 0, _, _, .ref _ => none
  | k + 1, b, S, .ref n => if n < b then none else match S.os[n]? with
    | some (.lst ds) => (ds.mapM (toP k b S)).map .lst
    | some (.dK kvs) => (kvs.mapM fun p => (toP k b S p.2).map fun x => (p.1, x)).map .dK
    | some (.dT kvs) => (kvs.mapM fun p => (toP k b S p.2).map fun x => (p.1, x)).map .dT
    | some (.ins c fs) => (fs.mapM fun p => (toP k b S p.2).map fun x => (p.1, x)).map (.ins c)
    | none => none
/-- a value as it is behind the end of a def that began at b -/
def outD (b : Nat) (S : SH) (d : D) : Option D := match d with
  | .p x => some (.p x)
  | .ref n => if n < b then some (.ref n) else (toP 8 b S (.ref n)).map .p
def cutS (S0 S1 : SH) : SH := ⟨S0.b, S1.os.take S0.len⟩
/-- a def's call: what it made becomes data, or goes -/
def frameF (S : SH) (r : Option (Fl × SH)) : Option (D × SH) := bnd r fun f S1 => match f with
  | .ret d => match outD S.len S1 d with | some d' => some (d', cutS S S1) | none => none
  | .nx _ => some (.p .non, cutS S S1)
  | _ => none
/-- a def's call where what it made stays -/
def liveF (r : Option (Fl × SH)) : Option (D × SH) := bnd r fun f S1 => match f with
  | .ret d => some (d, S1)
  | .nx _ => some (.p .non, S1)
  | _ => none
/-- a block whose new objects become data at its end; a name that can't be data is forgotten -/
def outO (b : Nat) (S : SH) : Option D → Option D
  | some d => outD b S d
  | none => none
def outE (b : Nat) (S : SH) (σ : En) : En := σ.map (outO b S)
def dBlock (m : MS) : MS := fun σ S => bnd (m σ ⟨S.len, S.os⟩) fun f S1 => match f with
  | .nx σ1 => some (.nx (outE S.len S1 σ1), cutS S S1)
  | .ct σ1 => some (.ct (outE S.len S1 σ1), cutS S S1)
  | .brk σ1 => some (.brk (outE S.len S1 σ1), cutS S S1)
  | .ret d => match outD S.len S1 d with | some d' => some (.ret d', cutS S S1) | none => none

section
variable {K : PySem.W.Frag} {cl : Nat → Addr} {S S' S1 S2 : SH} {B : List Nat} {F F' F0 F1 F2 H H' H0 H1 H2 : Hp} {φ φ' φ0 φ1 φ2 : Nat → Addr}
open Classical in
/-- the heap of data with the objects from b on -/
noncomputable def addF (b k : Nat) (F H : Hp) (φ : Nat → Addr) : Hp := fun a => if ∃ n, b ≤ n ∧ n < k ∧ φ n = a then H a else F a
theorem addF_in {b k n : Nat} (h1 : b ≤ n) (h2 : n < k) : addF b k F H φ (φ n) = H (φ n) := by unfold addF; rw [if_pos ⟨n, h1, h2, rfl⟩]
theorem addF_out {b k : Nat} {a : Addr} (h : ∀ n, b ≤ n → n < k → φ n ≠ a) : addF b k F H φ a = F a := by
  unfold addF; rw [if_neg]; rintro ⟨n, h1, h2, e⟩; exact h n h1 h2 e
theorem addF_le (s : Sim K cl S B F φ H) (b : Nat) : Same F (addF b S.len F H φ) := fun a o e => by
  rw [addF_out]
  · exact e
  · intro n h1 h2 q
    have z := (s.ob n _ (List.getElem?_eq_getElem h2)).1
    rw [q, e] at z; cases z
theorem addF_heap (s : Sim K cl S B F φ H) (b : Nat) : Same (addF b S.len F H φ) H := fun a o e => by
  by_cases h : ∃ n, b ≤ n ∧ n < S.len ∧ φ n = a
  · obtain ⟨n, h1, h2, rfl⟩ := h
    rw [addF_in h1 h2] at e; exact e
  · rw [addF_out fun n h1 h2 q => h ⟨n, h1, h2, q⟩] at e
    exact s.le _ _ e
theorem mapM_rp {α : Type} {g : α → Option P} {R : α → V → Prop} {F : Hp} (hR : ∀ a x v, g a = some x → R a v → Rp K cl F x v) : ∀ {l : List α} {xs : List P} {vs : List V}, l.mapM g = some xs → Paired R l vs → RpA K cl F xs vs
  | [], xs, vs, e, r => by
    cases r
    simp at e
    subst e
    exact .nil
  | a :: l, xs, vs, e, r => by
    cases r with
    | cons r1 r2 =>
      rw [List.mapM_cons] at e
      cases e1 : g a with
      | none => rw [e1] at e; cases e
      | some x =>
        rw [e1] at e
        cases e2 : l.mapM g with
        | none => rw [e2] at e; cases e
        | some ys =>
          rw [e2] at e
          cases e
          exact .cons (hR a x _ e1 r1) (mapM_rp hR e2 r2)
theorem mapM_rpk {κ : Type} {g : D → Option P} {R : D → V → Prop} {F : Hp} {Z : List (κ × P) → List (κ × V) → Prop} (z0 : Z [] []) (z1 : ∀ k x v xs vs, Rp K cl F x v → Z xs vs → Z ((k, x) :: xs) ((k, v) :: vs))
    (hR : ∀ a x v, g a = some x → R a v → Rp K cl F x v) : ∀ {l : List (κ × D)} {xs : List (κ × P)} {vs : List (κ × V)}, l.mapM (fun p => (g p.2).map fun x => (p.1, x)) = some xs → Paired (fun p q => p.1 = q.1 ∧ R p.2 q.2) l vs → Z xs vs
  | [], xs, vs, e, r => by
    cases r
    simp at e
    subst e
    exact z0
  | (k, a) :: l, xs, vs, e, r => by
    cases r with
    | cons r1 r2 =>
      rename_i q vs'
      obtain ⟨k', v⟩ := q
      obtain ⟨rfl, r1⟩ := r1
      rw [List.mapM_cons] at e
      cases e1 : g a with
      | none => rw [e1] at e; cases e
      | some x =>
        rw [e1] at e
        cases e2 : l.mapM (fun p => (g p.2).map fun x => (p.1, x)) with
        | none =>
          simp only [Option.map_some] at e
          rw [e2] at e; cases e
        | some ys =>
          simp only [Option.map_some] at e
          rw [e2] at e
          cases e
          exact z1 _ _ _ _ _ (hR a x _ e1 r1) (mapM_rpk z0 z1 hR e2 r2)
theorem toP_ok (s : Sim K cl S B F φ H) (b : Nat) : ∀ (k : Nat) (d : D) (x : P) (v : V), toP k b S d = some x → DR K cl F φ d v → Rp K cl (addF b S.len F H φ) x v
  | k, .p y, x, v, e, r => by
    have e : y = x := by cases k <;> (simp [toP] at e; exact e)
    subst e
    exact Rp.mono (addF_le s b) r
  | 0, .ref n, x, v, e, r => by simp [toP] at e
  | k + 1, .ref n, x, v, e, r => by
    have r' : v = .ref (φ n) := r
    subst r'
    unfold toP at e
    by_cases hb : n < b
    · rw [if_pos hb] at e; cases e
    · rw [if_neg hb] at e
      have ih : ∀ (a : D) (x : P) (v : V), toP k b S a = some x → DR K cl F φ a v → Rp K cl (addF b S.len F H φ) x v := toP_ok s b k
      cases ho : S.os[n]? with
      | none => rw [ho] at e; cases e
      | some o =>
        rw [ho] at e
        have hn : n < S.len := (List.getElem?_eq_some_iff.mp ho).1
        have hF : addF b S.len F H φ (φ n) = H (φ n) := addF_in (Nat.le_of_not_lt hb) hn
        have ob := (s.ob n o ho).2
        cases o with
        | lst ds =>
          obtain ⟨vs, ev, rv⟩ := ob
          dsimp only at e
          cases e2 : ds.mapM (toP k b S) with
          | none => rw [e2] at e; cases e
          | some xs =>
            rw [e2] at e
            cases e
            exact .lst (.inl (.inl (hF.trans ev))) (mapM_rp ih e2 rv)
        | dK kvs =>
          obtain ⟨vs, ev, rv⟩ := ob
          dsimp only at e
          cases e2 : kvs.mapM fun p => (toP k b S p.2).map fun x => (p.1, x) with
          | none => rw [e2] at e; cases e
          | some xs =>
            rw [e2] at e
            cases e
            exact .dK (hF.trans ev) (mapM_rpk (Z := RpK K cl _) .nil (fun _ _ _ _ _ h1 h2 => .cons h1 h2) ih e2 rv)
        | dT kvs =>
          obtain ⟨vs, ev, rv⟩ := ob
          dsimp only at e
          cases e2 : kvs.mapM fun p => (toP k b S p.2).map fun x => (p.1, x) with
          | none => rw [e2] at e; cases e
          | some xs =>
            rw [e2] at e
            cases e
            exact .dT (hF.trans ev) (mapM_rpk (Z := RpT K cl _) .nil (fun _ _ _ _ _ h1 h2 => .cons h1 h2) ih e2 rv)
        | ins c fs =>
          obtain ⟨dx, vs, ev, rv⟩ := ob
          dsimp only at e
          cases e2 : fs.mapM fun p => (toP k b S p.2).map fun x => (p.1, x) with
          | none => rw [e2] at e; cases e
          | some xs =>
            rw [e2] at e
            cases e
            exact .ins (hF.trans ev) (mapM_rpk (Z := RpF K cl _) .nil (fun _ _ _ _ _ h1 h2 => .cons h1 h2) ih e2 rv)
/-- a block, a def's body begins -/
theorem Sim.begin (s : Sim K cl S B F φ H) : Sim K cl ⟨S.len, S.os⟩ (S.len :: B) F φ H := by
  refine ⟨s.le, s.ob, s.inj, s.wf, fun b hb => ?_, Nat.le_refl _⟩
  rcases List.mem_cons.mp hb with rfl | hb
  · exact ⟨Nat.le_refl _, fun n o e _ => s.wf n o e⟩
  · exact ⟨Nat.le_trans (s.bs b hb).1 s.bl, (s.bs b hb).2⟩
theorem cutS_len (h : S.len ≤ S1.len) : (cutS S S1).len = S.len := by
  show (S1.os.take S.len).length = _
  rw [List.length_take]
  exact Nat.min_eq_left h
theorem cutS_get {n : Nat} {o : Ob} (e : (cutS S S1).os[n]? = some o) : n < S.len ∧ S1.os[n]? = some o := by
  have e : (S1.os.take S.len)[n]? = some o := e
  rw [List.getElem?_take] at e
  split at e
  · rename_i h; exact ⟨h, e⟩
  · cases e
/-- .. and ends -/
theorem Sim.end_ (s0 : Sim K cl S B F0 φ0 H0) (s : Sim K cl S1 (S.len :: B) F φ H) (h : S.len ≤ S1.len) : Sim K cl (cutS S S1) B (addF S.len S1.len F H φ) φ H := by
  have hl := cutS_len h
  refine ⟨addF_heap s _, fun n o e => ?_, fun n m h1 h2 => ?_, fun n o e => ?_, fun b hb => ⟨(s0.bs b hb).1, fun n o e hn => ?_⟩, ?_⟩
  · obtain ⟨hn, e⟩ := cutS_get e
    refine ⟨?_, ?_⟩
    · rw [addF_out fun m h1 h2 q => ?_]
      · exact (s.ob n o e).1
      · have := s.inj m n h2 (Nat.lt_of_lt_of_le hn h) q
        omega
    · exact OR.mono (addF_le s _) (fun _ _ => rfl) (s.wf n o e) (s.ob n o e).2
  · exact s.inj n m (by omega) (by omega)
  · obtain ⟨hn, e⟩ := cutS_get e
    rw [hl]
    exact (s.bs S.len List.mem_cons_self).2 n o e hn
  · obtain ⟨_, e⟩ := cutS_get e
    exact (s.bs b (List.mem_cons_of_mem _ hb)).2 n o e hn
  · rw [hl]; exact s0.bl
theorem Ext.end_ (s : Sim K cl S1 (S.len :: B) F φ H) (x : Ext ⟨S.len, S.os⟩ F0 φ0 H0 S1 F φ H) : Ext S F0 φ0 H0 (cutS S S1) (addF S.len S1.len F H φ) φ H := by
  have hl := cutS_len (S := S) (S1 := S1) x.len
  refine ⟨x.fz.trans (addF_le s _), Nat.le_of_eq hl.symm, rfl, x.phi, fun n h1 h2 => by omega, x.keep, x.tr, fun a o h f n => ?_⟩
  rw [addF_out fun m h1 h2 q => ?_]
  · exact x.fr a o h f n
  · have := x.new m h1 h2
    rw [q, h] at this; cases this
theorem outD_ok (s : Sim K cl S1 (S.len :: B) F φ H) (h : S.len ≤ S1.len) {d d' : D} {v : V} (e : outD S.len S1 d = some d') (r : DR K cl F φ d v) (l : d.lt S1.len) : DR K cl (addF S.len S1.len F H φ) φ d' v ∧ d'.lt (cutS S S1).len := by
  rw [cutS_len h]
  cases d with
  | p x => cases e; exact ⟨Rp.mono (addF_le s _) r, trivial⟩
  | ref n =>
    unfold outD at e
    dsimp only at e
    by_cases hn : n < S.len
    · rw [if_pos hn] at e; cases e; exact ⟨r, hn⟩
    · rw [if_neg hn] at e
      cases e2 : toP 8 S.len S1 (.ref n) with
      | none => rw [e2] at e; cases e
      | some x => rw [e2] at e; cases e; exact ⟨toP_ok s _ _ _ _ _ e2 r, trivial⟩
theorem outE_ok (s : Sim K cl S1 (S.len :: B) F φ H) (h : S.len ≤ S1.len) {σd : En} {σ : L2.St} (r : RS K cl F φ S1.len σd σ) : RS K cl (addF S.len S1.len F H φ) φ (cutS S S1).len (outE S.len S1 σd) σ := by
  refine ⟨by unfold outE; rw [List.length_map]; exact r.1, fun i d e => ?_⟩
  unfold outE at e
  rw [List.getElem?_map] at e
  cases e1 : σd[i]? with
  | none => rw [e1] at e; cases e
  | some o =>
    rw [e1] at e
    cases o with
    | none => cases e
    | some d0 =>
      have e : outD S.len S1 d0 = some d := Option.some.inj e
      obtain ⟨l, v, ev, rv⟩ := r.2 i d0 e1
      obtain ⟨a, b⟩ := outD_ok s h e rv l
      exact ⟨b, v, ev, a⟩
end
section
variable {X : Cx} {cl : Nat → Addr} {st : Stmt} {rest : List Stmt} {m n : MS} {me : ME} {mt : MT} {e : Expr} {pos : Pos}
theorem s_nil : PSs X [] (LS X.K cl dNx) := pss_nil.imp fun Z σ H q => by
  obtain ⟨σd, S, B, F, φ, s, rs, f, S1, e, k⟩ := q
  cases e
  exact k F φ H σ s (.refl s) rs
theorem s_pass : PS X (.Pass pos) (LS X.K cl dNx) := ps_pass.imp fun Z σ H q => by
  obtain ⟨σd, S, B, F, φ, s, rs, f, S1, e, k⟩ := q
  cases e
  exact k F φ H σ s (.refl s) rs
theorem s_brk : PS X (.Break pos) (LS X.K cl dBrk) := ps_break.imp fun Z σ H q => by
  obtain ⟨σd, S, B, F, φ, s, rs, f, S1, e, k⟩ := q
  cases e
  exact k F φ H σ s (.refl s) rs
theorem s_ct : PS X (.Continue pos) (LS X.K cl dCt) := ps_continue.imp fun Z σ H q => by
  obtain ⟨σd, S, B, F, φ, s, rs, f, S1, e, k⟩ := q
  cases e
  exact k F φ H σ s (.refl s) rs
theorem s_doc {x j pos'} : PS X (.Expr (.Constant (.str x) j pos) pos') (LS X.K cl dNx) := ps_doc.imp fun Z σ H q => by
  obtain ⟨σd, S, B, F, φ, s, rs, f, S1, e, k⟩ := q
  cases e
  exact k F φ H σ s (.refl s) rs
theorem s_one (h : PS X st (LS X.K cl m)) : PSs X [st] (LS X.K cl m) := pss_one h
theorem s_cons (h1 : PS X st (LS X.K cl m)) (h2 : PSs X rest (LS X.K cl n)) : PSs X (st :: rest) (LS X.K cl (dSeq m n)) := by
  refine (pss_cons h1 h2).imp fun Z σ H q => ?_
  obtain ⟨σd, S, B, F, φ, s, rs, o⟩ := q
  obtain ⟨f, S1, e, o⟩ := okS_bnd o
  refine LS.then_ s rs e ?_
  cases f with
  | nx σ1 => exact fun F1 φ1 H1 σ' s1 x1 rs1 => ⟨σ1, S1, B, F1, φ1, s1, rs1, o.ext x1⟩
  | ret d => obtain ⟨_, _, z, k⟩ := o; cases z; exact k
  | brk d => obtain ⟨_, _, z, k⟩ := o; cases z; exact k
  | ct d => obtain ⟨_, _, z, k⟩ := o; cases z; exact k
theorem s_never : PS X st (LS X.K cl dNever) := ps_never.imp fun Z σ H q => by
  obtain ⟨σd, S, B, F, φ, s, rs, f, S1, e, k⟩ := q
  cases e
theorem ss_never {sts : List Stmt} : PSs X sts (LS X.K cl dNever) := pss_never.imp fun Z σ H q => by
  obtain ⟨σd, S, B, F, φ, s, rs, f, S1, e, k⟩ := q
  cases e
theorem s_if {c : Expr} {a b : List Stmt} (hc : PT X c (LT X.K cl mt)) (ha : PSs X a (LS X.K cl m)) (hb : PSs X b (LS X.K cl n)) : PS X (.If c a b pos) (LS X.K cl (dIf mt m n)) := by
  refine (ps_if hc ha hb).imp fun Z σ H q => ?_
  obtain ⟨σd, S, B, F, φ, s, rs, o⟩ := q
  obtain ⟨t, S1, e, o⟩ := okS_bnd o
  refine LT.then_ s rs e fun F1 φ1 H1 s1 x1 rs1 => ?_
  split
  · rename_i ht; rw [if_pos ht] at o; exact ⟨σd, S1, B, F1, φ1, s1, rs1, o.ext x1⟩
  · rename_i ht; rw [if_neg ht] at o; exact ⟨σd, S1, B, F1, φ1, s1, rs1, o.ext x1⟩
theorem s_ret (he : PE X e (LE X.K cl me)) : PS X (.Return (some e) pos) (LS X.K cl (dRet me)) := by
  refine (ps_ret he).imp fun Z σ H q => ?_
  obtain ⟨σd, S, B, F, φ, s, rs, o⟩ := q
  obtain ⟨d, S1, e, o⟩ := okS_bnd o
  obtain ⟨_, _, z, k⟩ := o
  cases z
  exact LE.then_ s rs e fun F1 φ1 H1 u s1 x1 _ dr l => k F1 φ1 H1 u s1 x1 dr l
theorem s_retN : PS X (.Return none pos) (LS X.K cl dRetN) := ps_retN.imp fun Z σ H q => by
  obtain ⟨σd, S, B, F, φ, s, rs, f, S1, e, k⟩ := q
  cases e
  exact k F φ H .non s (.refl s) .non trivial
theorem s_drop (he : PE X e (LE X.K cl me)) (hs : swapsWith e none pos.line X.env = pure false := by rfl) : PS X (.Expr e pos) (LS X.K cl (dDrop me)) := by
  refine (ps_expr he hs).imp fun Z σ H q => ?_
  obtain ⟨σd, S, B, F, φ, s, rs, o⟩ := q
  obtain ⟨d, S1, e, o⟩ := okS_bnd o
  obtain ⟨_, _, z, k⟩ := o
  cases z
  exact LE.then_ s rs e fun F1 φ1 H1 u s1 x1 rs1 dr l => k F1 φ1 H1 σ s1 x1 rs1
theorem RS.set {K : PySem.W.Frag} {F : Hp} {φ : Nat → Addr} {k : Nat} {σd : En} {σ : L2.St} (r : RS K cl F φ k σd σ) (i : Nat) {d : D} {v : V} (dr : DR K cl F φ d v) (l : d.lt k) : RS K cl F φ k (σd.set i (some d)) (σ.set i (some v)) := by
  refine ⟨by rw [List.length_set, List.length_set]; exact r.1, fun j d' e => ?_⟩
  by_cases h : i = j
  · subst h
    rw [List.getElem?_set] at e
    rw [if_pos rfl] at e
    by_cases hi : i < σd.length
    · rw [if_pos hi] at e
      cases e
      exact ⟨l, v, by rw [List.getElem?_set_self (by rw [← r.1]; exact hi)], dr⟩
    · rw [if_neg hi] at e; cases e
  · rw [List.getElem?_set_ne h] at e
    obtain ⟨a, v', b, c⟩ := r.2 j d' e
    exact ⟨a, v', by rw [List.getElem?_set_ne h]; exact b, c⟩
theorem RS.unset {K : PySem.W.Frag} {F : Hp} {φ : Nat → Addr} {k : Nat} {σd : En} {σ : L2.St} (r : RS K cl F φ k σd σ) (i : Nat) : RS K cl F φ k (σd.set i none) σ := by
  refine ⟨by rw [List.length_set]; exact r.1, fun j d' e => ?_⟩
  by_cases h : i = j
  · subst h
    rw [List.getElem?_set, if_pos rfl] at e
    split at e <;> cases e
  · rw [List.getElem?_set_ne h] at e
    exact r.2 j d' e
theorem RS.wipe {K : PySem.W.Frag} {F : Hp} {φ : Nat → Addr} {k : Nat} {σ : L2.St} : ∀ (vs : List Nat) {σd : En}, RS K cl F φ k σd σ → RS K cl F φ k (wipeD vs σd) σ
  | [], _, r => r
  | i :: vs, _, r => RS.wipe vs (r.unset i)
theorem s_set {i : Nat} {x : Str} {pos' : Pos} (hN : X.N.Nodup) (hi : X.N[i]? = some x) (hx : Loc X.env.scope x) (he : PE X e (LE X.K cl me)) (hs : swapsWith e (some (.Name x pos')) pos.line X.env = pure false := by rfl) (hf : X.fn x = true ∨ X.env.scope.names.lookup x = some .local := by first | exact .inl rfl | exact .inr rfl | assumption) :
    PS X (.Assign [.Name x pos'] e pos) (LS X.K cl (dSet i me)) := by
  refine (ps_set hN hi hx he hs hf).imp fun Z σ H q => ?_
  obtain ⟨σd, S, B, F, φ, s, rs, o⟩ := q
  obtain ⟨d, S1, e, o⟩ := okS_bnd o
  obtain ⟨_, _, z, k⟩ := o
  cases z
  exact LE.then_ s rs e fun F1 φ1 H1 u s1 x1 rs1 dr l => k F1 φ1 H1 _ s1 x1 (rs1.set i dr l)
theorem s_wipe {vs : List Nat} (h : PS X st (LS X.K cl m)) : PS X st (LS X.K cl (dWipe vs m)) := h.imp fun Z σ H q => by
  obtain ⟨σd, S, B, F, φ, s, rs, o⟩ := q
  exact ⟨_, S, B, F, φ, s, rs.wipe vs, o⟩
theorem ss_wipe {vs : List Nat} (h : PSs X rest (LS X.K cl m)) : PSs X rest (LS X.K cl (dWipe vs m)) := h.imp fun Z σ H q => by
  obtain ⟨σd, S, B, F, φ, s, rs, o⟩ := q
  exact ⟨_, S, B, F, φ, s, rs.wipe vs, o⟩
theorem ss_block (h : PSs X rest (LS X.K cl m)) : PSs X rest (LS X.K cl (dBlock m)) := h.imp fun Z σ H q => by
  obtain ⟨σd, S, B, F, φ, s, rs, o⟩ := q
  obtain ⟨f, S1, e, o⟩ := okS_bnd o
  refine ⟨σd, ⟨S.len, S.os⟩, S.len :: B, F, φ, s.begin, rs, f, S1, e, ?_⟩
  cases f with
  | nx σ1 =>
    obtain ⟨_, _, z, k⟩ := o; cases z
    exact fun F1 φ1 H1 σ' s1 x1 rs1 => k _ _ _ _ (Sim.end_ s s1 x1.len) (Ext.end_ s1 x1) (outE_ok s1 x1.len rs1)
  | ct σ1 =>
    obtain ⟨_, _, z, k⟩ := o; cases z
    exact fun F1 φ1 H1 σ' s1 x1 rs1 => k _ _ _ _ (Sim.end_ s s1 x1.len) (Ext.end_ s1 x1) (outE_ok s1 x1.len rs1)
  | brk σ1 =>
    obtain ⟨_, _, z, k⟩ := o; cases z
    exact fun F1 φ1 H1 σ' s1 x1 rs1 => k _ _ _ _ (Sim.end_ s s1 x1.len) (Ext.end_ s1 x1) (outE_ok s1 x1.len rs1)
  | ret d =>
    dsimp only at o
    cases ed : outD S.len S1 d with
    | none => rw [ed] at o; obtain ⟨_, _, z, _⟩ := o; cases z
    | some d' =>
      rw [ed] at o
      obtain ⟨_, _, z, k⟩ := o; cases z
      intro F1 φ1 H1 u s1 x1 dr l
      obtain ⟨a, b⟩ := outD_ok s1 x1.len ed dr l
      exact k _ _ _ _ (Sim.end_ s s1 x1.len) (Ext.end_ s1 x1) a b

/-! ### defs -/
def startD (n : Nat) (ds : List D) : En := ds.map some ++ List.replicate (n - ds.length) none
theorem DRA.length {K : PySem.W.Frag} {F : Hp} {φ : Nat → Addr} {ds : List D} {vs : List V} (h : DRA K cl F φ ds vs) : ds.length = vs.length := Paired.length h
theorem DRA.get {K : PySem.W.Frag} {F : Hp} {φ : Nat → Addr} : ∀ {ds : List D} {vs : List V} {i : Nat} {d : D}, DRA K cl F φ ds vs → ds[i]? = some d → ∃ v, vs[i]? = some v ∧ DR K cl F φ d v
  | _, _, _, _, .nil, e => by simp at e
  | _, _, 0, _, .cons r _, e => by simp at e; subst e; exact ⟨_, rfl, r⟩
  | _, _, i + 1, d, .cons _ t, e => by
    obtain ⟨u, h1, h2⟩ := DRA.get (i := i) (d := d) t (by simpa using e)
    exact ⟨u, by simpa using h1, h2⟩
theorem rs_start {K : PySem.W.Frag} {F : Hp} {φ : Nat → Addr} {k : Nat} {N : List Str} {ds : List D} {vs : List V} (r : DRA K cl F φ ds vs) (l : ∀ d ∈ ds, d.lt k) : RS K cl F φ k (startD N.length ds) (L2.start N vs) := by
  have hl := r.length
  refine ⟨by unfold startD L2.start; simp [hl], fun i d e => ?_⟩
  unfold startD at e
  by_cases hi : i < ds.length
  · rw [List.getElem?_append_left (by simpa using hi), List.getElem?_map] at e
    cases e1 : ds[i]? with
    | none => rw [e1] at e; cases e
    | some d0 =>
      rw [e1] at e; cases e
      obtain ⟨v, ev, dr⟩ := r.get e1
      refine ⟨l d (List.mem_of_getElem? e1), v, ?_, dr⟩
      unfold L2.start
      rw [List.getElem?_append_left (by simpa [← hl] using hi), List.getElem?_map, ev]
      rfl
  · rw [List.getElem?_append_right (by simpa using hi), List.getElem?_replicate] at e
    split at e <;> cases e
/-- what a def promises, by its computation -/
def spOf (K : PySem.W.Frag) (cl : Nat → Addr) (m : MF) : Sp := fun vs H Q _ => ∃ ds S B F φ, Sim K cl S B F φ H ∧ DRA K cl F φ ds vs ∧ (∀ d ∈ ds, d.lt S.len) ∧ OkE K cl S B F φ H (m ds S) Q
/-- a def by its body: what it made becomes data -/
def dFn (k n : Nat) (body : MS) : MF := fun ds S => if ds.length = k then frameF S (body (startD n ds) ⟨S.len, S.os⟩) else none
def dFnL (k n : Nat) (body : MS) : MF := fun ds S => if ds.length = k then liveF (body (startD n ds) S) else none
theorem fn_len {K : PySem.W.Frag} {S : SH} {B : List Nat} {F : Hp} {φ : Nat → Addr} {H : Hp} {Q : VK} {ds : List D} {k : Nat} {r : Option (D × SH)} (h : OkE K cl S B F φ H (if ds.length = k then r else none) Q) : ds.length = k ∧ OkE K cl S B F φ H r Q := by
  by_cases e : ds.length = k
  · rw [if_pos e] at h; exact ⟨e, h⟩
  · rw [if_neg e] at h; obtain ⟨_, _, z, _⟩ := h; cases z
theorem sp_len {K : PySem.W.Frag} {k n : Nat} {m : MS} {vs : List V} {H : Hp} {Q : VK} {E : XK} (h : spOf K cl (dFn k n m) vs H Q E) : vs.length = k := by
  obtain ⟨ds, S, B, F, φ, s, dr, l, o⟩ := h
  rw [← dr.length]
  exact (fn_len o).1
theorem spL_len {K : PySem.W.Frag} {k n : Nat} {m : MS} {vs : List V} {H : Hp} {Q : VK} {E : XK} (h : spOf K cl (dFnL k n m) vs H Q E) : vs.length = k := by
  obtain ⟨ds, S, B, F, φ, s, dr, l, o⟩ := h
  rw [← dr.length]
  exact (fn_len o).1
theorem fn_body {K : PySem.W.Frag} {N : List Str} {k : Nat} {m : MS} {vs : List V} {H : Hp} {Q : VK} {E : XK} (h : spOf K cl (dFn k N.length m) vs H Q E) : LS K cl m { nx := fun _ H' => Q .non H', rt := Q } (L2.start N vs) H := by
  obtain ⟨ds, S, B, F, φ, s, dr, l, o⟩ := h
  have o := (fn_len o).2
  obtain ⟨f, S1, e, o⟩ := okE_bnd o
  refine ⟨_, ⟨S.len, S.os⟩, S.len :: B, F, φ, s.begin, rs_start dr l, f, S1, e, ?_⟩
  cases f with
  | nx σ1 =>
    obtain ⟨_, _, z, k⟩ := o; cases z
    exact fun F1 φ1 H1 σ' s1 x1 rs1 => k _ _ _ _ (Sim.end_ s s1 x1.len) (Ext.end_ s1 x1) .non trivial
  | ret d =>
    dsimp only at o
    cases ed : outD S.len S1 d with
    | none => rw [ed] at o; obtain ⟨_, _, z, _⟩ := o; cases z
    | some d' =>
      rw [ed] at o
      obtain ⟨_, _, z, k⟩ := o; cases z
      intro F1 φ1 H1 u s1 x1 dr l
      obtain ⟨a, b⟩ := outD_ok s1 x1.len ed dr l
      exact k _ _ _ _ (Sim.end_ s s1 x1.len) (Ext.end_ s1 x1) a b
  | brk _ => obtain ⟨_, _, z, _⟩ := o; cases z
  | ct _ => obtain ⟨_, _, z, _⟩ := o; cases z
theorem fnL_body {K : PySem.W.Frag} {N : List Str} {k : Nat} {m : MS} {vs : List V} {H : Hp} {Q : VK} {E : XK} (h : spOf K cl (dFnL k N.length m) vs H Q E) : LS K cl m { nx := fun _ H' => Q .non H', rt := Q } (L2.start N vs) H := by
  obtain ⟨ds, S, B, F, φ, s, dr, l, o⟩ := h
  have o := (fn_len o).2
  obtain ⟨f, S1, e, o⟩ := okE_bnd o
  refine ⟨_, S, B, F, φ, s, rs_start dr l, f, S1, e, ?_⟩
  cases f with
  | nx σ1 =>
    obtain ⟨_, _, z, k⟩ := o; cases z
    exact fun F1 φ1 H1 σ' s1 x1 rs1 => k _ _ _ _ s1 x1 .non trivial
  | ret d => obtain ⟨_, _, z, k⟩ := o; cases z; exact k
  | brk _ => obtain ⟨_, _, z, _⟩ := o; cases z
  | ct _ => obtain ⟨_, _, z, _⟩ := o; cases z
/-- THE RULE for a def -/
theorem fn_ok {P : Program} {w : World} {K : PySem.W.Frag} {mg : Str → Option Value} {base : Heap} {x qual : Str} {st : Stmt} {f : Addr} {fd : FuncData} {N ps : List Str} {k : Nat} {m : MS} (F : Fun K x qual st f fd) (S : FnScope N ps (defScope st))
    (h : ∀ (cdv : Value) (A : Around) (outer : List Env) (s : Shared) (H : Hp) (E : XK), Room k (A.deeper (envOfC qual (defScope st) s.heap.objs.size f cdv)) →
      PSs (cxOf CX0 P w K mg base N qual (defScope st) f cdv A outer s H E).nox (defBody st) (LS K cl m)) : FnOk P w K mg base CX0 (k + 1) f fd ps (spOf K cl (dFn ps.length N.length m)) :=
  F.ok S (fun vs H Q E q => sp_len q) fun cdv A outer s H vs Q E hr q => ⟨_, h cdv A outer s H E hr, fn_body q⟩
theorem fnL_ok {P : Program} {w : World} {K : PySem.W.Frag} {mg : Str → Option Value} {base : Heap} {x qual : Str} {st : Stmt} {f : Addr} {fd : FuncData} {N ps : List Str} {k : Nat} {m : MS} (F : Fun K x qual st f fd) (S : FnScope N ps (defScope st))
    (h : ∀ (cdv : Value) (A : Around) (outer : List Env) (s : Shared) (H : Hp) (E : XK), Room k (A.deeper (envOfC qual (defScope st) s.heap.objs.size f cdv)) →
      PSs (cxOf CX0 P w K mg base N qual (defScope st) f cdv A outer s H E).nox (defBody st) (LS K cl m)) : FnOk P w K mg base CX0 (k + 1) f fd ps (spOf K cl (dFnL ps.length N.length m)) :=
  F.ok S (fun vs H Q E q => spL_len q) fun cdv A outer s H vs Q E hr q => ⟨_, h cdv A outer s H E hr, fnL_body q⟩
end
end Pv
namespace Pv
open PySem PySem.Spec PyProof.Rows L2

theorem _root_.L2.Same.new {H H1 : Hp} {q : Addr} {o : HO} (a : Same H H1) (h : H1 q = none) : Same H (L2.upd H1 q o) := fun c u e => by
  rw [upd_ne (ne_of_none (a c u e) h)]
  exact a c u e
/-! ### new objects -/
def isP : D → Option P
  | .p x => some x
  | .ref _ => none
def toPs : List D → Option (List P)
  | [] => some []
  | .p x :: r => (toPs r).map (x :: ·)
  | .ref _ :: _ => none
@[simp] theorem toPs_map (ps : List P) : toPs (ps.map D.p) = some ps := by
  induction ps with
  | nil => rfl
  | cons x r ih => simp [toPs, ih]
theorem toPs_of : ∀ {ds : List D} {ps : List P}, toPs ds = some ps → ds = ps.map D.p
  | [], ps, h => by cases h; rfl
  | .p x :: r, ps, h => by
    unfold toPs at h
    cases e : toPs r with
    | none => rw [e] at h; cases h
    | some qs => rw [e] at h; cases h; rw [List.map_cons, ← toPs_of e]
  | .ref n :: r, ps, h => by cases h
abbrev SH.push (S : SH) (o : Ob) : SH := ⟨S.b, S.os ++ [o]⟩
abbrev SH.put (S : SH) (n : Nat) (o : Ob) : SH := ⟨S.b, S.os.set n o⟩
def newT (ds : List D) (S : SH) : Option (D × SH) := match toPs ds with
  | some ps => if ps.length ≤ sizeLine then some (.p (.tup ps), S) else none
  | none => none
def newL (live : Bool) (ds : List D) (S : SH) : Option (D × SH) := if ds.length ≤ sizeLine then (if live = true then some (.ref S.len, S.push (.lst ds)) else match toPs ds with
  | some ps => some (.p (.lst ps), S)
  | none => none) else none
/-- the items of a list, wherever it stands -/
def asL (d : D) (S : SH) : Option (List D) := match d with
  | .p (.lst ps) => some (ps.map .p)
  | .ref n => match S.os[n]? with | some (.lst ds) => some ds | _ => none
  | _ => none
/-- .. of a list or a tuple -/
def asQ (d : D) (S : SH) : Option (List D) := match d with
  | .p (.lst ps) => some (ps.map .p)
  | .p (.tup ps) => some (ps.map .p)
  | .ref n => match S.os[n]? with | some (.lst ds) => some ds | _ => none
  | _ => none
section
variable {K : PySem.W.Frag} {cl : Nat → Addr} {S S' S1 S2 : SH} {B : List Nat} {F F' F0 F1 F2 H H' H0 H1 H2 : Hp} {φ φ' φ0 φ1 φ2 : Nat → Addr} {Q : VK}
theorem RpA.dra {ps : List P} {vs : List V} (h : RpA K cl F ps vs) : DRA K cl F φ (ps.map D.p) vs := by
  induction ps generalizing vs with
  | nil => cases h; exact .nil
  | cons x r ih => cases h with | cons a b => exact .cons a (ih b)
theorem DRA.rpa {ps : List P} {vs : List V} (h : DRA K cl F φ (ps.map D.p) vs) : RpA K cl F ps vs := by
  induction ps generalizing vs with
  | nil => cases h; exact .nil
  | cons x r ih => cases h with | cons a b => exact .cons a (ih b)
theorem lt_map {ps : List P} {k : Nat} : ∀ d ∈ ps.map D.p, d.lt k := fun d hd => by
  obtain ⟨x, _, rfl⟩ := List.mem_map.mp hd
  trivial
theorem Sim.keep (s : Sim K cl S B F φ H) (k : Same H H') : Sim K cl S B F φ H' := by
  refine ⟨s.le.trans k, fun n o e => ⟨(s.ob n o e).1, ?_⟩, s.inj, s.wf, s.bs, s.bl⟩
  have z := (s.ob n o e).2
  cases q : H (φ n) with
  | none => exact absurd q z.ne0
  | some u => rw [k _ _ q, ← q]; exact z
theorem Sim.none_p (s : Sim K cl S B F φ H) {p : Addr} (hp : H p = none) : F p = none ∧ ∀ n, n < S.len → φ n ≠ p := by
  refine ⟨?_, fun n h e => s.ne0 h (by rw [e]; exact hp)⟩
  cases q : F p with
  | none => rfl
  | some u => rw [s.le _ _ q] at hp; cases hp
theorem Ext.ofSame (s : Sim K cl S B F φ H) (k : Same H H') : Ext S F φ H S F φ H' :=
  ⟨Same.refl _, Nat.le_refl _, rfl, fun _ _ => rfl, fun n h1 h2 => absurd h1 (Nat.not_le_of_lt h2), fun a o e _ => k a o e, fun n h => (s.keep k).ne0 h, fun _ _ _ h _ => h⟩
/-- a new object that is data -/
theorem Sim.frz (s : Sim K cl S B F φ H) (k : Same H H') {p : Addr} {o : HO} (hp : H p = none) (ho : H' p = some o) : Sim K cl S B (upd F p o) φ H' ∧ Ext S F φ H S (upd F p o) φ H' := by
  obtain ⟨fp, np⟩ := s.none_p hp
  have sf : Same F (upd F p o) := fun a u e => by rw [upd_ne (ne_of_none e fp)]; exact e
  have s1 := s.keep k
  refine ⟨⟨fun a u e => ?_, fun n u e => ⟨?_, OR.mono sf (fun _ _ => rfl) (s1.wf n u e) (s1.ob n u e).2⟩, s1.inj, s1.wf, s1.bs, s1.bl⟩, ⟨sf, Nat.le_refl _, rfl, fun _ _ => rfl, fun n h1 h2 => absurd h1 (Nat.not_le_of_lt h2), fun a u e _ => k a u e, fun n h => s1.ne0 h, fun a u e f _ => ?_⟩⟩
  · by_cases h : a = p
    · subst h; rw [upd_same] at e; rw [ho, e]
    · rw [upd_ne h] at e; exact s1.le a u e
  · rw [upd_ne (np n (List.getElem?_eq_some_iff.mp e).1)]; exact (s1.ob n u e).1
  · rw [upd_ne (ne_of_none e hp)]; exact f
/-- a new object that may change -/
theorem Sim.push (s : Sim K cl S B F φ H) (k : Same H H') {p : Addr} {o : Ob} (hp : H p = none) (ho : OR K cl F φ (H' p) o) (hl : o.lt S.len) :
    Sim K cl (S.push o) B F (fun n => if n = S.len then p else φ n) H' ∧ Ext S F φ H (S.push o) F (fun n => if n = S.len then p else φ n) H' := by
  obtain ⟨fp, np⟩ := s.none_p hp
  have s1 := s.keep k
  have hlen : (S.push o).len = S.len + 1 := by show (S.os ++ [o]).length = _; simp
  have ph : ∀ n, n < S.len → (if n = S.len then p else φ n) = φ n := fun n h => if_neg (by omega)
  have get : ∀ (n : Nat) (u : Ob), (S.push o).os[n]? = some u → (n < S.len ∧ S.os[n]? = some u) ∨ (n = S.len ∧ u = o) := fun n u e => by
    have e : (S.os ++ [o])[n]? = some u := e
    by_cases h : n < S.len
    · rw [List.getElem?_append_left h] at e; exact .inl ⟨h, e⟩
    · have hz : S.os.length = S.len := rfl
      rw [List.getElem?_append_right (by omega)] at e
      right
      have h2 : n - S.os.length = 0 := by
        have := (List.getElem?_eq_some_iff.mp e).1
        simp at this; omega
      rw [h2] at e
      simp at e
      exact ⟨by have : S.os.length = S.len := rfl; omega, e.symm⟩
  refine ⟨⟨s1.le, fun n u e => ?_, fun n m h1 h2 e => ?_, fun n u e => ?_, fun b hb => ⟨(s1.bs b hb).1, fun n u e h => ?_⟩, by rw [hlen]; exact Nat.le_succ_of_le s.bl⟩, ⟨Same.refl _, by rw [hlen]; exact Nat.le_succ _, rfl, ph, fun n h1 h2 => ?_, fun a u e _ => k a u e, fun n h => s1.ne0 h, fun _ _ _ h _ => h⟩⟩
  · rcases get n u e with ⟨h, e'⟩ | ⟨h, e'⟩
    · rw [ph n h]; exact ⟨(s1.ob n u e').1, OR.mono (Same.refl _) ph (s1.wf n u e') (s1.ob n u e').2⟩
    · subst h; subst e'; rw [if_pos rfl]; exact ⟨fp, OR.mono (Same.refl _) ph hl ho⟩
  · rw [hlen] at h1 h2
    by_cases a : n = S.len
    · by_cases b : m = S.len
      · omega
      · rw [if_pos a, if_neg b] at e
        exact absurd e.symm (np m (by omega))
    · by_cases b : m = S.len
      · rw [if_neg a, if_pos b] at e
        exact absurd e (np n (by omega))
      · rw [if_neg a, if_neg b] at e
        exact s1.inj n m (by omega) (by omega) e
  · rw [hlen]
    rcases get n u e with ⟨h, e'⟩ | ⟨h, e'⟩
    · exact fun d hd => (s1.wf n u e' d hd).mono (Nat.le_succ _)
    · subst e'; exact fun d hd => (hl d hd).mono (Nat.le_succ _)
  · rcases get n u e with ⟨h1, e'⟩ | ⟨h1, e'⟩
    · exact (s1.bs b hb).2 n u e' h
    · have := (s1.bs b hb).1; have := s.bl; omega
  · rw [hlen] at h2
    have e : n = S.len := by omega
    rw [if_pos e]; exact hp
/-- an object that may change is changed -/
theorem Sim.put (s : Sim K cl S B F φ H) {n : Nat} {o : Ob} {x : HO} (hn : n < S.len) (ho : OR K cl F φ (some x) o) (hl : o.lt S.len) (hb : S.b ≤ n ∨ ∀ k, o.lt k) :
    Sim K cl (S.put n o) B F φ (upd H (φ n) x) ∧ Ext S F φ H (S.put n o) F φ (upd H (φ n) x) := by
  have hlen : (S.put n o).len = S.len := by show (S.os.set n o).length = _; simp
  have fn := (s.ob n _ (List.getElem?_eq_getElem hn)).1
  have get : ∀ (m : Nat) (u : Ob), (S.put n o).os[m]? = some u → (m ≠ n ∧ S.os[m]? = some u) ∨ (m = n ∧ u = o) := fun m u e => by
    have e : (S.os.set n o)[m]? = some u := e
    by_cases h : n = m
    · subst h
      rw [List.getElem?_set_self hn] at e
      cases e
      exact .inr ⟨rfl, rfl⟩
    · rw [List.getElem?_set_ne h] at e; exact .inl ⟨Ne.symm h, e⟩
  have ne : ∀ m, m < S.len → m ≠ n → φ m ≠ φ n := fun m hm h e => h (s.inj m n hm hn e)
  have all : Sim K cl (S.put n o) B F φ (upd H (φ n) x) := by
    refine ⟨fun a u e => ?_, fun m u e => ?_, fun a b h1 h2 => ?_, fun m u e => ?_, fun b hb' => ⟨(s.bs b hb').1, fun m u e h => ?_⟩, by rw [hlen]; exact s.bl⟩
    · rw [upd_ne (ne_of_none e fn)]; exact s.le a u e
    · rcases get m u e with ⟨h, e⟩ | ⟨rfl, rfl⟩
      · rw [upd_ne (ne m (List.getElem?_eq_some_iff.mp e).1 h)]; exact s.ob m u e
      · rw [upd_same]; exact ⟨fn, ho⟩
    · exact s.inj a b (by omega) (by omega)
    · rw [hlen]
      rcases get m u e with ⟨h, e⟩ | ⟨rfl, rfl⟩
      · exact s.wf m u e
      · exact hl
    · rcases get m u e with ⟨h1, e⟩ | ⟨rfl, rfl⟩
      · exact (s.bs b hb').2 m u e h
      · rcases hb with hb | hb
        · have := (s.bs b hb').1; omega
        · exact hb b
  refine ⟨all, ⟨Same.refl _, Nat.le_of_eq hlen.symm, rfl, fun _ _ => rfl, fun m h1 h2 => by omega, fun a u e h => ?_, fun m hm => all.ne0 (by omega), fun _ _ _ h _ => h⟩⟩
  rw [upd_ne (fun z => h n hn z.symm)]; exact e
theorem newT_ok {ds : List D} {vs : List V} (h : OkE K cl S B F φ H (newT ds S) Q) (s : Sim K cl S B F φ H) (r : DRA K cl F φ ds vs) : vs.length ≤ sizeLine ∧ ∀ p, H p = none → Q (.ref p) (upd H p (.tup vs)) := by
  unfold newT at h
  cases e : toPs ds with
  | none => rw [e] at h; obtain ⟨_, _, z, _⟩ := h; cases z
  | some ps =>
    rw [e] at h
    have ed := toPs_of e
    subst ed
    have hlen := r.length
    rw [List.length_map] at hlen
    dsimp only at h
    by_cases hz : ps.length ≤ sizeLine
    · rw [if_pos hz] at h
      refine ⟨by rw [← hlen]; exact hz, fun p hp => ?_⟩
      obtain ⟨s1, x1⟩ := s.frz (H' := upd H p (.tup vs)) (Same.new (Same.refl H) hp) hp upd_same
      exact h.fin rfl s1 x1 (Rp.tup (.inl (.inl upd_same)) (RpA.mono x1.fz r.rpa)) trivial
    · rw [if_neg hz] at h; obtain ⟨_, _, z, _⟩ := h; cases z
theorem newL_ok {live : Bool} {ds : List D} {vs : List V} (h : OkE K cl S B F φ H (newL live ds S) Q) (s : Sim K cl S B F φ H) (r : DRA K cl F φ ds vs) (l : ∀ d ∈ ds, d.lt S.len) : vs.length ≤ sizeLine ∧ ∀ p H', H p = none → Same H H' → H' p = some (.lst vs) → Q (.ref p) H' := by
  unfold newL at h
  have hlen := r.length
  by_cases hz : ds.length ≤ sizeLine
  · rw [if_pos hz] at h
    refine ⟨by rw [← hlen]; exact hz, fun p H' hp sm hv => ?_⟩
    cases live with
    | true =>
      rw [if_pos rfl] at h
      obtain ⟨s1, x1⟩ := s.push (H' := H') sm (o := .lst ds) hp ⟨vs, hv, r⟩ l
      exact h.fin rfl s1 x1 (show V.ref p = V.ref (if S.len = S.len then p else φ S.len) by rw [if_pos rfl]) (show S.len < (S.os ++ [Ob.lst ds]).length by simp)
    | false =>
      rw [if_neg Bool.false_ne_true] at h
      cases e : toPs ds with
      | none => rw [e] at h; obtain ⟨_, _, z, _⟩ := h; cases z
      | some ps =>
        rw [e] at h
        have ed := toPs_of e
        subst ed
        obtain ⟨s1, x1⟩ := s.frz (H' := H') sm hp hv
        exact h.fin rfl s1 x1 (Rp.lst (.inl (.inl upd_same)) (RpA.mono x1.fz r.rpa)) trivial
  · rw [if_neg hz] at h; obtain ⟨_, _, z, _⟩ := h; cases z
theorem newL_ok1 {live : Bool} {ds : List D} {vs : List V} (h : OkE K cl S B F φ H (newL live ds S) Q) (s : Sim K cl S B F φ H) (r : DRA K cl F φ ds vs) (l : ∀ d ∈ ds, d.lt S.len) : vs.length ≤ sizeLine ∧ ∀ p, H p = none → Q (.ref p) (upd H p (.lst vs)) := by
  obtain ⟨a, b⟩ := newL_ok h s r l
  exact ⟨a, fun p hp => b p _ hp (Same.new (Same.refl H) hp) upd_same⟩
/-- a list's items are there -/
theorem asL_ok (s : Sim K cl S B F φ H) {d : D} {ds : List D} {v : V} (e : asL d S = some ds) (r : DR K cl F φ d v) (l : d.lt S.len) : ∃ a vs, v = .ref a ∧ SqL K H a vs ∧ DRA K cl F φ ds vs ∧ ∀ x ∈ ds, x.lt S.len := by
  cases d with
  | p x =>
    cases x <;> try (cases e; done)
    rename_i ps
    cases e
    cases (show Rp K cl F (.lst ps) v from r) with
    | lst q t => exact ⟨_, _, rfl, SqL.mono s.le q, t.dra, lt_map⟩
  | ref n =>
    unfold asL at e
    dsimp only at e
    cases q : S.os[n]? with
    | none => rw [q] at e; cases e
    | some o =>
      rw [q] at e
      cases o <;> try (cases e; done)
      rename_i ds'
      cases e
      obtain ⟨vs, ev, rv⟩ := (s.ob n _ q).2
      exact ⟨_, vs, r, .inl (.inl ev), rv, s.wf n _ q⟩
theorem asQ_ok (s : Sim K cl S B F φ H) {d : D} {ds : List D} {v : V} (e : asQ d S = some ds) (r : DR K cl F φ d v) (l : d.lt S.len) : ∃ a vs, v = .ref a ∧ (SqL K H a vs ∨ SqT K H a vs) ∧ DRA K cl F φ ds vs ∧ ∀ x ∈ ds, x.lt S.len := by
  cases d with
  | p x =>
    cases x <;> try (cases e; done)
    · rename_i ps
      cases e
      cases (show Rp K cl F (.tup ps) v from r) with
      | tup q t => exact ⟨_, _, rfl, .inr (SqT.mono s.le q), t.dra, lt_map⟩
    · rename_i ps
      cases e
      cases (show Rp K cl F (.lst ps) v from r) with
      | lst q t => exact ⟨_, _, rfl, .inl (SqL.mono s.le q), t.dra, lt_map⟩
  | ref n =>
    obtain ⟨a, vs, h1, h2, h3⟩ := asL_ok s (d := .ref n) e r l
    exact ⟨a, vs, h1, .inl h2, h3⟩
end

/-! ### displays, calls -/
def dTup (m : MA) : ME := fun σ S => bnd (m σ S) fun ds S1 => newT ds S1
def dLst (live : Bool) (m : MA) : ME := fun σ S => bnd (m σ S) fun ds S1 => newL live ds S1
def fldsOf (d : D) (S : SH) : Option (Nat × List (Str × D)) := match d with
  | .p (.ins c fs) => some (c, fs.map fun p => (p.1, .p p.2))
  | .ref n => match S.os[n]? with | some (.ins c fs) => some (c, fs) | _ => none
  | _ => none
def dFld (cs : List Nat) (f : Str) (d : D) (S : SH) : Option (D × SH) := match fldsOf d S with
  | some (c, fs) => if cs.contains c = true then (match fs.lookup f with | some x => some (x, S) | none => none) else none
  | none => none
def dMeth (c : Nat) (nm : Str) (f : MF) (o : ME) (a : MA) : ME := fun σ S => bnd (o σ S) fun d S1 => match fldsOf d S1 with
  | some (c', fs) => if c' = c ∧ fs.lookup nm = none then bnd (a σ S1) fun xs S2 => f (d :: xs) S2 else none
  | none => none
/-- C(..) -/
def dMake (live : Bool) (c : Nat) (init : MF) (a : MA) : ME := fun σ S => bnd (a σ S) fun xs S1 =>
  if live = true then bnd (init (.ref S1.len :: xs) (S1.push (.ins c []))) fun d S2 => match d with | .p .non => some (.ref S1.len, S2) | _ => none
  else bnd (init (.ref S1.len :: xs) ⟨S1.len, S1.os ++ [.ins c []]⟩) fun d S2 => match d with
    | .p .non => match outD S1.len S2 (.ref S1.len) with | some d' => some (d', cutS S1 S2) | none => none
    | _ => none
/-- o.f = v -/
def putFD (f : Str) (v : D) : List (Str × D) → List (Str × D)
  | [] => [(f, v)]
  | (g, x) :: r => if g = f then (g, v) :: r else (g, x) :: putFD f v r
def okRef (S : SH) (n : Nat) : D → Bool
  | .p _ => true
  | .ref _ => decide (S.b ≤ n)
@[simp] theorem okRef_p (S : SH) (n : Nat) (x : P) : okRef S n (.p x) = true := id rfl
def setFld (cs : List Nat) (f : Str) (o v : D) (S : SH) : Option SH := match o with
  | .ref n => match S.os[n]? with
    | some (.ins c fs) => if cs.contains c = true ∧ fs.length < 1000 ∧ okRef S n v = true then some (S.put n (.ins c (putFD f v fs))) else none
    | _ => none
  | _ => none
def dSetF (cs : List Nat) (f : Str) (o v : ME) : MS := fun σ S => bnd (v σ S) fun y S1 => bnd (o σ S1) fun x S2 => match setFld cs f x y S2 with | some S3 => some (.nx σ, S3) | none => none

section
variable {X : Cx} {cl : Nat → Addr} {es : List Expr} {e o value : Expr} {pos pos' : Pos} {mr : MA} {me mo mv : ME}
theorem k_tup {x1} (h : PA X es (LA X.K cl mr)) : PE X (.Tuple es x1 pos) (LE X.K cl (dTup mr)) := by
  refine (pe_tup h).imp fun σ H Q q => ?_
  obtain ⟨σd, S, B, F, φ, s, rs, o⟩ := q
  obtain ⟨ds, S1, e, o⟩ := okE_bnd o
  exact LA.then_ s rs e fun F1 φ1 H1 vs s1 x1 rs1 dr l => newT_ok (o.ext x1) s1 dr
theorem k_lst {live : Bool} (h : PA X es (LA X.K cl mr)) : PE X (.List es pos) (LE X.K cl (dLst live mr)) := by
  refine (pe_lst h).imp fun σ H Q q => ?_
  obtain ⟨σd, S, B, F, φ, s, rs, o⟩ := q
  obtain ⟨ds, S1, e, o⟩ := okE_bnd o
  exact LA.then_ s rs e fun F1 φ1 H1 vs s1 x1 rs1 dr l => newL_ok1 (o.ext x1) s1 dr l
theorem lookup_drk {K : PySem.W.Frag} {F : Hp} {φ : Nat → Addr} {f : Str} : ∀ {fs : List (Str × D)} {gs : List (Str × V)}, DRK K cl F φ fs gs → (fs.lookup f = none → gs.lookup f = none) ∧ ∀ x, fs.lookup f = some x → ∃ v, gs.lookup f = some v ∧ DR K cl F φ x v
  | _, _, .nil => ⟨fun _ => rfl, fun x h => by cases h⟩
  | (k, x) :: fs, (k', v) :: gs, .cons r t => by
    obtain ⟨rfl, r⟩ := r
    obtain ⟨i1, i2⟩ := lookup_drk (f := f) t
    rw [List.lookup_cons, List.lookup_cons]
    cases hk : f == k with
    | true => exact ⟨fun z => by simp at z, fun y hy => by simp at hy; subst hy; exact ⟨v, by simp, r⟩⟩
    | false => exact ⟨fun z => by simpa using i1 (by simpa using z), fun y hy => by simpa using i2 y (by simpa using hy)⟩
theorem RpF.drk {K : PySem.W.Frag} {F : Hp} {φ : Nat → Addr} : ∀ {fs : List (Str × P)} {gs : List (Str × V)}, RpF K cl F fs gs → DRK K cl F φ (fs.map fun p => (p.1, D.p p.2)) gs
  | _, _, .nil => .nil
  | _, _, .cons a b => .cons ⟨rfl, a⟩ (RpF.drk b)
theorem flds_ok {K : PySem.W.Frag} {S : SH} {B : List Nat} {F : Hp} {φ : Nat → Addr} {H : Hp} (s : Sim K cl S B F φ H) {d : D} {c : Nat} {fs : List (Str × D)} {v : V} (e : fldsOf d S = some (c, fs)) (r : DR K cl F φ d v) : ∃ a dx gs, v = .ref a ∧ H a = some (.ins (cl c) dx gs) ∧ DRK K cl F φ fs gs ∧ ∀ x ∈ fs.map (·.2), x.lt S.len := by
  cases d with
  | p x =>
    cases x <;> try (cases e; done)
    rename_i c' fs'
    cases e
    cases (show Rp K cl F (.ins c fs') v from r) with
    | ins q t => exact ⟨_, _, _, rfl, s.le _ _ q, t.drk, fun x hx => by
        obtain ⟨p, hp, rfl⟩ := List.mem_map.mp hx
        obtain ⟨p', hp', rfl⟩ := List.mem_map.mp hp
        trivial⟩
  | ref n =>
    unfold fldsOf at e
    dsimp only at e
    cases q : S.os[n]? with
    | none => rw [q] at e; cases e
    | some o =>
      rw [q] at e
      cases o <;> try (cases e; done)
      rename_i c' fs'
      cases e
      obtain ⟨dx, gs, ev, rv⟩ := (s.ob n _ q).2
      exact ⟨_, dx, gs, r, ev, rv, s.wf n _ q⟩
theorem k_fld {f : Str} {cs : List Nat} (hc : ∀ c ∈ cs, Cls X.K (cl c) ∧ NoAttr X.K (cl c) f) (he : PE X e (LE X.K cl me)) (hb : attributeBase e f X.env (eval e X.env) = eval e X.env := by rfl) : PE X (.Attribute e f pos) (LE X.K cl (dUn (dFld cs f) me)) := by
  refine (pe_fld he hb).imp fun σ H Q q => ?_
  obtain ⟨σd, S, B, F, φ, s, rs, o⟩ := q
  obtain ⟨d, S1, e, o⟩ := okE_bnd o
  refine LE.then_ s rs e fun F1 φ1 H1 x s1 x1 rs1 dr l => ?_
  have o := o.ext x1
  unfold dFld at o
  cases e1 : fldsOf d S1 with
  | none => rw [e1] at o; obtain ⟨_, _, z, _⟩ := o; cases z
  | some p =>
    obtain ⟨c, fs⟩ := p
    rw [e1] at o
    obtain ⟨a, dx, gs, rfl, ha, rf, lf⟩ := flds_ok s1 e1 dr
    dsimp only at o
    by_cases hm : cs.contains c = true
    · rw [if_pos hm] at o
      cases e2 : fs.lookup f with
      | none => rw [e2] at o; obtain ⟨_, _, z, _⟩ := o; cases z
      | some y =>
        rw [e2] at o
        obtain ⟨v, hv, rv⟩ := (lookup_drk rf).2 y e2
        obtain ⟨h1, h2⟩ := hc c (by simpa using hm)
        exact ⟨a, cl c, dx, gs, v, rfl, ha, h1, h2, hv, o.fin0 rfl s1 rv (lf y (by
          exact List.mem_map.mpr ⟨_, PySem.mem_of_lookup e2, rfl⟩))⟩
    · rw [if_neg hm] at o; obtain ⟨_, _, z, _⟩ := o; cases z
end
section
variable {K : PySem.W.Frag} {cl : Nat → Addr} {S S' S1 S2 : SH} {B : List Nat} {F F' F1 F2 H H' H1 H2 : Hp} {φ φ' φ1 φ2 : Nat → Addr}
theorem okRef_b {n : Nat} {d : D} (h : okRef S n d = true) : S.b ≤ n ∨ ∀ k, d.lt k := by
  cases d with
  | p x => exact .inr fun _ => trivial
  | ref m => exact .inl (of_decide_eq_true h)
/-- the object at n may hold what o holds: what it held, data, or places where it is of this def -/
theorem putGen {n : Nat} {o : Ob} {x : HO} {u0 : Ob} (s : Sim K cl S B F φ H) (q : S.os[n]? = some u0) (he : ∀ y ∈ o.ds, (∀ k, y.lt k) ∨ y ∈ u0.ds ∨ (S.b ≤ n ∧ y.lt S.len)) (ho : OR K cl F φ (some x) o) :
    Sim K cl (S.put n o) B F φ (upd H (φ n) x) ∧ Ext S F φ H (S.put n o) F φ (upd H (φ n) x) := by
  have hn : n < S.len := (List.getElem?_eq_some_iff.mp q).1
  have wf := s.wf n _ q
  have lt1 : o.lt S.len := fun y hy => by
    rcases he y hy with h | h | h
    · exact h _
    · exact wf y h
    · exact h.2
  have hlen : (S.put n o).len = S.len := by show (S.os.set n o).length = _; simp
  have fn := (s.ob n _ q).1
  have get : ∀ (m : Nat) (u : Ob), (S.put n o).os[m]? = some u → (m ≠ n ∧ S.os[m]? = some u) ∨ (m = n ∧ u = o) := fun m u e => by
    have e : (S.os.set n o)[m]? = some u := e
    by_cases h : n = m
    · subst h
      rw [List.getElem?_set_self hn] at e
      cases e
      exact .inr ⟨rfl, rfl⟩
    · rw [List.getElem?_set_ne h] at e; exact .inl ⟨Ne.symm h, e⟩
  have ne : ∀ m, m < S.len → m ≠ n → φ m ≠ φ n := fun m hm h e => h (s.inj m n hm hn e)
  have all : Sim K cl (S.put n o) B F φ (upd H (φ n) x) := by
    refine ⟨fun a u e => ?_, fun m u e => ?_, fun a b h1 h2 => ?_, fun m u e => ?_, fun b hb' => ⟨(s.bs b hb').1, fun m u e h' => ?_⟩, by rw [hlen]; exact s.bl⟩
    · rw [upd_ne (ne_of_none e fn)]; exact s.le a u e
    · rcases get m u e with ⟨h, e⟩ | ⟨rfl, rfl⟩
      · rw [upd_ne (ne m (List.getElem?_eq_some_iff.mp e).1 h)]; exact s.ob m u e
      · rw [upd_same]; exact ⟨fn, ho⟩
    · exact s.inj a b (by omega) (by omega)
    · rw [hlen]
      rcases get m u e with ⟨h, e⟩ | ⟨rfl, rfl⟩
      · exact s.wf m u e
      · exact lt1
    · rcases get m u e with ⟨h1, e⟩ | ⟨rfl, rfl⟩
      · exact (s.bs b hb').2 m u e h'
      · intro y hy
        rcases he y hy with h | h | h
        · exact h b
        · exact (s.bs b hb').2 m _ q h' y h
        · have := (s.bs b hb').1; omega
  refine ⟨all, ⟨Same.refl _, Nat.le_of_eq hlen.symm, rfl, fun _ _ => rfl, fun m h1 h2 => by omega, fun a u e h => ?_, fun m hm => all.ne0 (by omega), fun _ _ _ h _ => h⟩⟩
  rw [upd_ne (fun z => h n hn z.symm)]; exact e
end
end Pv
namespace Pv
open PySem PySem.Spec PyProof.Rows L2

section
variable {X : Cx} {cl : Nat → Addr} {CX : CXT} {es : List Expr} {e o value : Expr} {pos pos' p apos : Pos} {mr : MA} {me mo mv : ME} {k : Nat} {f C : Addr} {fd : FuncData} {ps : List Str} {m : MF} {E : XK} {x nm : Str}
theorem k_call (F : FnOk X.prog X.w X.K X.mg X.base CX k f fd ps (spOf X.K cl m)) (hr : Room k X.A) (hg : Gl X x) (hm : X.mg x = some (.ref f)) (hk : PySem.W.keepIn X.K (.ref f) = true) (hb : Binds X.K fd ps []) (hx : Passes CX X E)
    (ha : PA X (e :: es) (LA X.K cl mr)) (hdb : (x == ("__debug__" : Str)) = false := by decide) (he : starEach (e :: es) X.env = (false, eval e X.env) :: starEach es X.env := by rfl) (hpl : (backTo pos (starEach es X.env)).any (·.1) = false := by rfl) :
    PE X (.Call (.Name x p) (e :: es) [] pos) (LE X.K cl (dCall m mr)) := by
  refine (pe_call F hr hg hm hk hb .nil hx ha hdb he hpl).imp fun σ H Q q => ?_
  refine e_call (r := fun vs H1 Q => spOf X.K cl m (vs ++ []) H1 Q E) (fun S B F φ H ds xs Q s dr l o => ?_) q
  show spOf X.K cl m (xs ++ []) H Q E
  rw [List.append_nil]
  exact ⟨ds, S, B, F, φ, s, dr, l, o⟩
theorem k_call0 (F : FnOk X.prog X.w X.K X.mg X.base CX k f fd ps (spOf X.K cl m)) (hr : Room k X.A) (hg : Gl X x) (hm : X.mg x = some (.ref f)) (hk : PySem.W.keepIn X.K (.ref f) = true) (hb : Binds X.K fd ps []) (hx : Passes CX X E)
    (hdb : (x == ("__debug__" : Str)) = false := by decide) : PE X (.Call (.Name x p) [] [] pos) (LE X.K cl (dCall m dNil)) := by
  refine (pe_call0 F hr hg hm hk hb .nil hx hdb).imp fun σ H Q q => ?_
  obtain ⟨σd, S, B, F, φ, s, rs, o⟩ := q
  exact ⟨[], S, B, F, φ, s, .nil, fun _ z => absurd z (by simp), o⟩
theorem e_meth {c : Nat} {σ : L2.St} {H : Hp} {Q : VK} (hx : C = cl c) (q : LE X.K cl (dMeth c nm m mo mr) σ H Q) : tMeth C nm (spOf X.K cl m) [] E (LE X.K cl mo) (LA X.K cl mr) σ H Q := by
  obtain ⟨σd, S, B, F, φ, s, rs, o⟩ := q
  obtain ⟨d, S1, e, o⟩ := okE_bnd o
  refine LE.then_ s rs e fun F1 φ1 H1 x s1 x1 rs1 dr1 l1 => ?_
  cases e1 : fldsOf d S1 with
  | none => rw [e1] at o; obtain ⟨_, _, z, _⟩ := o; cases z
  | some p =>
    obtain ⟨c', fs⟩ := p
    rw [e1] at o
    obtain ⟨a, dx, gs, rfl, ha, rf, lf⟩ := flds_ok s1 e1 dr1
    dsimp only at o
    by_cases hc : c' = c ∧ fs.lookup nm = none
    · rw [if_pos hc] at o
      obtain ⟨hc1, hn⟩ := hc
      obtain ⟨xs, S2, em, o2⟩ := okE_bnd o
      refine ⟨a, dx, gs, rfl, by rw [hx, ← hc1]; exact ha, (lookup_drk rf).1 hn, ?_⟩
      refine LA.then_ s1 rs1 em fun F2 φ2 H2 vs s2 x2 rs2 dr2 l2 => ?_
      rw [List.append_nil]
      refine ⟨d :: xs, S2, B, F2, φ2, s2, .cons (x2.dr l1 dr1) dr2, fun y hy => ?_, o2.ext (x1.trans x2)⟩
      rcases List.mem_cons.mp hy with rfl | hy
      · exact x2.lt l1
      · exact l2 y hy
    · rw [if_neg hc] at o; obtain ⟨_, _, z, _⟩ := o; cases z
theorem k_meth {c : Nat} {pl : Sem Bool} (he : PE X o (LE X.K cl mo)) (cc : Cls X.K C) (hm : Meth X.K C nm f) (F : FnOk X.prog X.w X.K X.mg X.base CX k f fd ps (spOf X.K cl m)) (hr : Room k X.A) (hb : Binds X.K fd ps []) (hx : Passes CX X E) (ha : PA X (e :: es) (LA X.K cl mr)) (hcl : C = cl c := by rfl)
    (hst : starEach (e :: es) X.env = (false, eval e X.env) :: starEach es X.env := by rfl) (hpl : (backTo pos (starEach es X.env)).any (·.1) = false := by rfl)
    (ht : eval (.Call (.Attribute o nm apos) (e :: es) [] pos) X.env = (do
      let ov ← eval o X.env
      standAt apos.atName
      let (f, first) ← holding [ov] (getMethod ov nm pl)
      callWith pos f first (backTo pos (starEach (e :: es) X.env)) (backToKw pos (keywordEach [] X.env))) := by rfl) :
    PE X (.Call (.Attribute o nm apos) (e :: es) [] pos) (LE X.K cl (dMeth c nm m mo mr)) :=
  (pe_meth (pl := pl) he cc hm F hr hb .nil hx ha hst hpl ht).imp fun _ _ _ q => e_meth hcl q
theorem k_meth0 {c : Nat} {pl : Sem Bool} (he : PE X o (LE X.K cl mo)) (cc : Cls X.K C) (hm : Meth X.K C nm f) (F : FnOk X.prog X.w X.K X.mg X.base CX k f fd ps (spOf X.K cl m)) (hr : Room k X.A) (hb : Binds X.K fd ps []) (hx : Passes CX X E) (hcl : C = cl c := by rfl)
    (ht : eval (.Call (.Attribute o nm apos) [] [] pos) X.env = (do
      let ov ← eval o X.env
      standAt apos.atName
      let (f, first) ← holding [ov] (getMethod ov nm pl)
      callWith pos f first (backTo pos (starEach [] X.env)) (backToKw pos (keywordEach [] X.env))) := by rfl) :
    PE X (.Call (.Attribute o nm apos) [] [] pos) (LE X.K cl (dMeth c nm m mo dNil)) := by
  refine (pe_meth0 (pl := pl) he cc hm F hr hb .nil hx ht).imp fun σ H Q q => ?_
  have z := e_meth (E := E) hcl q
  unfold tMeth at z ⊢
  obtain ⟨σd, S, B, F, φ, s, rs, d, S1, e, k⟩ := z
  refine ⟨σd, S, B, F, φ, s, rs, d, S1, e, fun F1 φ1 H1 u s1 x1 dr l => ?_⟩
  obtain ⟨a, dx, fs, h1, h2, h3, h4⟩ := k F1 φ1 H1 u s1 x1 dr l
  refine ⟨a, dx, fs, h1, h2, h3, ?_⟩
  obtain ⟨σd', S', B', F', φ', s', rs', d', S1', e', k'⟩ := h4
  cases e'
  exact k' F' φ' H1 [] s' (.refl s') .nil fun _ z => absurd z (by simp)
theorem e_make {live : Bool} {c : Nat} {σ : L2.St} {H : Hp} {Q : VK} (hx : C = cl c) (q : LE X.K cl (dMake live c m mr) σ H Q) : tMake C (spOf X.K cl m) [] E (LA X.K cl mr) σ H Q := by
  obtain ⟨σd, S, B, F, φ, s, rs, o⟩ := q
  obtain ⟨ds, S1, e, o⟩ := okE_bnd o
  refine LA.then_ s rs e fun F1 φ1 H1 vs s1 x1 rs1 dr l => ?_
  intro a dx na ndx nad
  rw [List.append_nil]
  have o := o.ext x1
  have sm : Same H1 (upd (upd H1 dx (.own a)) a (.ins C dx [])) := Same.new (Same.new (Same.refl _) ndx) (by rw [upd_ne (Ne.symm nad)]; exact na)
  have none_lt : (Ob.ins c []).lt S1.len := fun d hd => by simp [Ob.ds] at hd
  have hor : OR X.K cl F1 φ1 (upd (upd H1 dx (.own a)) a (.ins C dx []) a) (.ins c []) := ⟨dx, [], by rw [upd_same, hx], .nil⟩
  cases live with
  | true =>
    rw [if_pos rfl] at o
    obtain ⟨s2, x2⟩ := s1.push sm na hor none_lt
    obtain ⟨d, S2, e2, o⟩ := okE_bnd o
    refine ⟨.ref S1.len :: ds, _, B, F1, _, s2, .cons (show V.ref a = V.ref (if S1.len = S1.len then a else φ1 S1.len) by rw [if_pos rfl]) (x2.dra l dr), fun d hd => ?_, ⟨d, S2, e2, fun F3 φ3 H3 u s3 x3 dr3 l3 => ?_⟩⟩
    · rcases List.mem_cons.mp hd with rfl | hd
      · show S1.len < (S1.os ++ [_]).length
        simp
      · exact (l d hd).mono x2.len
    · cases d with
      | ref n => obtain ⟨_, _, z, _⟩ := o; cases z
      | p y =>
        cases y <;> first | (obtain ⟨_, _, z, _⟩ := o; cases z; done) | skip
        cases (show Rp X.K cl F3 .non u from dr3)
        refine ⟨rfl, o.fin rfl s3 (x2.trans x3) ?_ (Nat.lt_of_lt_of_le (show S1.len < (S1.os ++ [_]).length by simp) x3.len)⟩
        show V.ref a = V.ref (φ3 S1.len)
        rw [x3.phi S1.len (show S1.len < (S1.os ++ [_]).length by simp)]
        show V.ref a = V.ref (if S1.len = S1.len then a else φ1 S1.len)
        rw [if_pos rfl]
  | false =>
    rw [if_neg Bool.false_ne_true] at o
    obtain ⟨s2, x2⟩ := s1.begin.push sm na hor none_lt
    obtain ⟨d, S2, e2, o⟩ := okE_bnd o
    refine ⟨.ref S1.len :: ds, _, S1.len :: B, F1, _, s2, .cons (show V.ref a = V.ref (if S1.len = S1.len then a else φ1 S1.len) by rw [if_pos rfl]) (x2.dra l dr), fun d hd => ?_, ⟨d, S2, e2, fun F3 φ3 H3 u s3 x3 dr3 l3 => ?_⟩⟩
    · rcases List.mem_cons.mp hd with rfl | hd
      · show S1.len < (S1.os ++ [_]).length
        simp
      · exact (l d hd).mono x2.len
    · cases d with
      | ref n => obtain ⟨_, _, z, _⟩ := o; cases z
      | p y =>
        cases y <;> first | (obtain ⟨_, _, z, _⟩ := o; cases z; done) | skip
        cases (show Rp X.K cl F3 .non u from dr3)
        refine ⟨rfl, ?_⟩
        dsimp only at o
        cases ed : outD S1.len S2 (.ref S1.len) with
        | none => rw [ed] at o; obtain ⟨_, _, z, _⟩ := o; cases z
        | some d' =>
          rw [ed] at o
          have x4 := x2.trans x3
          have hl : S1.len < S2.len := Nat.lt_of_lt_of_le (show S1.len < (S1.os ++ [_]).length by simp) x3.len
          obtain ⟨h1, h2⟩ := outD_ok (S := S1) s3 x4.len (v := .ref (φ3 S1.len)) ed rfl hl
          have ea : φ3 S1.len = a := by
            rw [x3.phi S1.len (show S1.len < (S1.os ++ [_]).length by simp)]
            exact if_pos rfl
          rw [ea] at h1
          exact o.fin rfl (Sim.end_ s1 s3 x4.len) (Ext.end_ s3 x4) h1 h2
theorem k_make {live : Bool} {c : Nat} (M : Mk X.K C f) (F : FnOk X.prog X.w X.K X.mg X.base CX k f fd ps (spOf X.K cl m)) (hr : Room (k + 1) X.A) (hg : Gl X x) (hm : X.mg x = some (.ref C)) (hb : Binds X.K fd ps []) (hx : Passes CX X E)
    (ha : PA X (e :: es) (LA X.K cl mr)) (hcl : C = cl c := by rfl) (hdb : (x == ("__debug__" : Str)) = false := by decide) (he : starEach (e :: es) X.env = (false, eval e X.env) :: starEach es X.env := by rfl) (hpl : (backTo pos (starEach es X.env)).any (·.1) = false := by rfl) :
    PE X (.Call (.Name x p) (e :: es) [] pos) (LE X.K cl (dMake live c m mr)) :=
  (pe_make M F hr hg hm hb .nil hx ha hdb he hpl).imp fun _ _ _ q => e_make hcl q
theorem k_make0 {live : Bool} {c : Nat} (M : Mk X.K C f) (F : FnOk X.prog X.w X.K X.mg X.base CX k f fd ps (spOf X.K cl m)) (hr : Room (k + 1) X.A) (hg : Gl X x) (hm : X.mg x = some (.ref C)) (hb : Binds X.K fd ps []) (hx : Passes CX X E)
    (hcl : C = cl c := by rfl) (hdb : (x == ("__debug__" : Str)) = false := by decide) :
    PE X (.Call (.Name x p) [] [] pos) (LE X.K cl (dMake live c m dNil)) := by
  refine (pe_make0 M F hr hg hm hb .nil hx hdb).imp fun σ H Q q => ?_
  have z := e_make (E := E) hcl q
  obtain ⟨σd', S', B', F', φ', s', rs', d', S1', e', k'⟩ := z
  cases e'
  exact k' F' φ' H [] s' (.refl s') .nil fun _ z => absurd z (by simp)
theorem putFD_drk {K : PySem.W.Frag} {F : Hp} {φ : Nat → Addr} {f : Str} {d : D} {v : V} (r : DR K cl F φ d v) : ∀ {fs : List (Str × D)} {gs : List (Str × V)}, DRK K cl F φ fs gs → DRK K cl F φ (putFD f d fs) (putF f v gs)
  | _, _, .nil => .cons ⟨rfl, r⟩ .nil
  | (k, x) :: fs, (k', u) :: gs, .cons q t => by
    obtain ⟨rfl, q⟩ := q
    unfold putFD putF
    dsimp only
    by_cases h : k = f
    · rw [if_pos h, if_pos h]; exact .cons ⟨rfl, r⟩ t
    · rw [if_neg h, if_neg h]; exact .cons ⟨rfl, q⟩ (putFD_drk r t)
theorem mem_putFD {f : Str} {d : D} : ∀ {fs : List (Str × D)} {y : D}, y ∈ (putFD f d fs).map (·.2) → y = d ∨ y ∈ fs.map (·.2)
  | [], y, h => by simp [putFD] at h; exact .inl h
  | (k, x) :: r, y, h => by
    unfold putFD at h
    by_cases hk : k = f
    · rw [if_pos hk] at h
      simp only [List.map_cons, List.mem_cons] at h ⊢
      rcases h with h | h
      · exact .inl h
      · exact .inr (.inr h)
    · rw [if_neg hk] at h
      simp only [List.map_cons, List.mem_cons] at h ⊢
      rcases h with h | h
      · exact .inr (.inl h)
      · rcases mem_putFD h with h | h
        · exact .inl h
        · exact .inr (.inr h)
theorem isP_lt {d : D} {k : Nat} (h : (isP d).isSome = true) : d.lt k := by
  cases d with
  | p x => trivial
  | ref n => cases h
theorem DRK.length {K : PySem.W.Frag} {F : Hp} {φ : Nat → Addr} {κ : Type} {fs : List (κ × D)} {gs : List (κ × V)} (h : DRK K cl F φ fs gs) : fs.length = gs.length := Paired.length h
theorem setFld_ok {K : PySem.W.Frag} {cs : List Nat} {f : Str} {d v : D} {S S' : SH} {B : List Nat} {F : Hp} {φ : Nat → Addr} {H : Hp} {x y : V} (e : setFld cs f d v S = some S') (s : Sim K cl S B F φ H) (r : DR K cl F φ d x) (rv : DR K cl F φ v y) (lv : v.lt S.len) :
    ∃ a c dx gs, x = .ref a ∧ H a = some (.ins (cl c) dx gs) ∧ c ∈ cs ∧ gs.length < 1000 ∧ Sim K cl S' B F φ (upd H a (.ins (cl c) dx (putF f y gs))) ∧ Ext S F φ H S' F φ (upd H a (.ins (cl c) dx (putF f y gs))) := by
  cases d with
  | p _ => cases e
  | ref n =>
    unfold setFld at e
    dsimp only at e
    cases q : S.os[n]? with
    | none => rw [q] at e; cases e
    | some ob =>
      rw [q] at e
      cases ob <;> try (cases e; done)
      rename_i c fs
      dsimp only at e
      obtain ⟨dx, gs, ev, rf⟩ := (s.ob n _ q).2
      have hn : n < S.len := (List.getElem?_eq_some_iff.mp q).1
      have hl := rf.length
      have hor : OR K cl F φ (some (.ins (cl c) dx (putF f y gs))) (.ins c (putFD f v fs)) := ⟨dx, _, rfl, putFD_drk rv rf⟩
      have r' : x = .ref (φ n) := r
      by_cases h1 : cs.contains c = true ∧ fs.length < 1000 ∧ okRef S n v = true
      · rw [if_pos h1] at e
        cases e
        obtain ⟨h1, h2, h3⟩ := h1
        obtain ⟨s2, x2⟩ := putGen (o := .ins c (putFD f v fs)) s q (fun z hz => by
          rcases mem_putFD hz with rfl | hz
          · rcases okRef_b h3 with h | h
            · exact .inr (.inr ⟨h, lv⟩)
            · exact .inl h
          · exact .inr (.inl hz)) hor
        exact ⟨φ n, c, dx, gs, r', ev, by simpa using h1, by omega, s2, x2⟩
      · rw [if_neg h1] at e; cases e
theorem s_fld {f : Str} {cs : List Nat} (hc : ∀ c ∈ cs, Cls X.K (cl c) ∧ NoAttr X.K (cl c) f) (ha : PE X o (LE X.K cl mo)) (hv : PE X value (LE X.K cl mv)) (hs : swapsWith value (some (.Attribute o f pos')) pos.line X.env = pure false := by rfl) :
    PS X (.Assign [.Attribute o f pos'] value pos) (LS X.K cl (dSetF cs f mo mv)) := by
  refine (ps_fld ha hv hs).imp fun Z σ H q => ?_
  obtain ⟨σd, S, B, F, φ, s, rs, o⟩ := q
  obtain ⟨y, S1, e, o⟩ := okS_bnd o
  obtain ⟨d, S2, e2, o⟩ := okS_bnd o
  refine LE.then_ s rs e fun F1 φ1 H1 u s1 x1 rs1 dr1 l1 => LE.then_ s1 rs1 e2 fun F2 φ2 H2 v s2 x2 rs2 dr2 l2 => ?_
  cases e3 : setFld cs f d y S2 with
  | none => rw [e3] at o; obtain ⟨_, _, z, _⟩ := o; cases z
  | some S3 =>
    rw [e3] at o
    obtain ⟨_, _, z, k⟩ := o
    cases z
    obtain ⟨a, c, dx, gs, rfl, ha, hm, hz, s3, x3⟩ := setFld_ok e3 s2 dr2 (x2.dr l1 dr1) (x2.lt l1)
    obtain ⟨h1, h2⟩ := hc c hm
    exact ⟨a, cl c, dx, gs, rfl, ha, h1, h2, hz, k _ _ _ σ s3 ((x1.trans x2).trans x3) (x3.rs rs2)⟩
/-- o.f op= v -/
def dAugF (cs : List Nat) (f : Str) (op : D → D → SH → Option (D × SH)) (o v : ME) : MS := fun σ S => bnd (o σ S) fun x S1 => match fldsOf x S1 with
  | some (c, fs) => if cs.contains c = true then (match fs.lookup f with
    | some old => bnd (v σ S1) fun y S3 => bnd (op old y S3) fun z S4 => match setFld [c] f x z S4 with | some S5 => some (.nx σ, S5) | none => none
    | none => none) else none
  | none => none
theorem s_augF {f : Str} {cs : List Nat} {op : Operator} {fo : D → D → SH → Option (D × SH)} {rd : V → V → Hp → VK → Prop} (hd : OpD X.K cl fo rd) (ho : InOp X op rd) (hc : ∀ c ∈ cs, Cls X.K (cl c) ∧ NoAttr X.K (cl c) f) (ha : PE X o (LE X.K cl mo)) (hv : PE X value (LE X.K cl mv)) :
    PS X (.AugAssign (.Attribute o f pos') op value pos) (LS X.K cl (dAugF cs f fo mo mv)) := by
  refine (ps_fldaug ha hv ho).imp fun Z σ H q => ?_
  obtain ⟨σd, S, B, F, φ, s, rs, o0⟩ := q
  obtain ⟨d, S1, e, o1⟩ := okS_bnd o0
  refine LE.then_ s rs e fun F1 φ1 H1 u s1 x1 rs1 dr1 l1 => ?_
  cases e5 : fldsOf d S1 with
  | none => rw [e5] at o1; obtain ⟨_, _, z, _⟩ := o1; cases z
  | some p =>
    obtain ⟨c, fs⟩ := p
    rw [e5] at o1
    obtain ⟨a, dx, gs, eu, ha, rf, lf⟩ := flds_ok s1 e5 dr1
    dsimp only at o1
    by_cases hm : cs.contains c = true
    · rw [if_pos hm] at o1
      cases e6 : fs.lookup f with
      | none => rw [e6] at o1; obtain ⟨_, _, z, _⟩ := o1; cases z
      | some old =>
        rw [e6] at o1
        dsimp only at o1
        obtain ⟨y, S3, e3, o3⟩ := okS_bnd o1
        obtain ⟨z, S4, e4, o4⟩ := okS_bnd o3
        obtain ⟨v0, hv0, rv0⟩ := (lookup_drk rf).2 _ e6
        have lold : old.lt S1.len := lf _ (List.mem_map.mpr ⟨_, PySem.mem_of_lookup e6, rfl⟩)
        obtain ⟨h1, h2⟩ := hc c (by simpa using hm)
        refine ⟨a, cl c, dx, gs, v0, eu, ha, h1, h2, hv0, ?_⟩
        refine LE.then_ s1 rs1 e3 fun F3 φ3 H3 v s3 x3 rs3 dr3 l3 => ?_
        refine hd S3 B F3 φ3 H3 old y v0 v _ s3 (x3.dr lold rv0) dr3 (x3.lt lold) l3 ⟨z, S4, e4, fun F4 φ4 H4 w s4 x4 dr4 l4 => ?_⟩
        cases e7 : setFld [c] f d z S4 with
        | none => rw [e7] at o4; obtain ⟨_, _, z, _⟩ := o4; cases z
        | some S5 =>
          rw [e7] at o4
          obtain ⟨_, _, z, k⟩ := o4
          cases z
          obtain ⟨a', c', dx', gs', ea, ha', hm', hz', s5, x5⟩ := setFld_ok e7 s4 (x4.dr (x3.lt l1) (x3.dr l1 dr1)) dr4 l4
          have ec : c' = c := by simpa using hm'
          have eaa : a = a' := by rw [eu] at ea; injection ea
          subst ec
          subst eaa
          exact ⟨dx', gs', ha', hz', k _ _ _ σ s5 (((x1.trans x3).trans x4).trans x5) (x5.rs (x4.rs rs3))⟩
    · rw [if_neg hm] at o1; obtain ⟨_, _, z, _⟩ := o1; cases z
end
end Pv
namespace Pv
open PySem PySem.Spec PyProof.Rows L2

/-! ### targets -/
abbrev MG := D → En → SH → Option (En × SH)
abbrev MGs := List D → En → SH → Option (En × SH)
section
variable (K : PySem.W.Frag) (cl : Nat → Addr)
def OkG (vs : List Nat) (σ : L2.St) (S : SH) (B : List Nat) (F : Hp) (φ : Nat → Addr) (H : Hp) (r : Option (En × SH)) (Q : L2.St → Hp → Prop) : Prop :=
  ∃ σ1 S1, r = some (σ1, S1) ∧ ∀ F1 φ1 H1 σ', Sim K cl S1 B F1 φ1 H1 → Ext S F φ H S1 F1 φ1 H1 → RS K cl F1 φ1 S1.len σ1 σ' → (σ'.length = σ.length ∧ ∀ j, j ∉ vs → σ'[j]? = σ[j]?) → Q σ' H1
def LG (vs : List Nat) (g : MG) : TG := fun v σ H Q => ∃ d σd S B F φ, Sim K cl S B F φ H ∧ RS K cl F φ S.len σd σ ∧ DR K cl F φ d v ∧ d.lt S.len ∧ OkG K cl vs σ S B F φ H (g d σd S) Q
def LGs (vs : List Nat) (g : MGs) : TGs := fun us σ H Q => ∃ ds σd S B F φ, Sim K cl S B F φ H ∧ RS K cl F φ S.len σd σ ∧ DRA K cl F φ ds us ∧ (∀ d ∈ ds, d.lt S.len) ∧ OkG K cl vs σ S B F φ H (g ds σd S) Q
end
def gNm (i : Nat) : MG := fun d σ S => some (σ.set i (some d), S)
def gNl : MGs := fun ds σ S => match ds with | [] => some (σ, S) | _ => none
def gCn (g : MG) (gs : MGs) : MGs := fun ds σ S => match ds with | d :: r => bnd (g d σ S) fun σ1 S1 => gs r σ1 S1 | [] => none
def gTp (n : Nat) (gs : MGs) : MG := fun d σ S => match d with | .p (.tup ps) => if ps.length = n then gs (ps.map .p) σ S else none | _ => none
/-- o[i] = v -/
def setIx (o i v : D) (S : SH) : Option SH := match o, i with
  | .ref n, .p (.int k) => match S.os[n]? with
    | some (.lst ds) => match ixN ds.length k with
      | some j => if okRef S n v = true then some (S.put n (.lst (ds.set j v))) else none
      | none => none
    | _ => none
  | _, _ => none
def gSb (o i : ME) : MG := fun d σ S => bnd (o σ S) fun x S1 => bnd (i σ S1) fun y S2 => match setIx x y d S2 with | some S3 => some (σ, S3) | none => none
def dAsg (e : ME) (g : MG) : MS := fun σ S => bnd (e σ S) fun d S1 => bnd (g d σ S1) fun σ2 S2 => some (.nx σ2, S2)

section
variable {K : PySem.W.Frag} {cl : Nat → Addr} {S S' S1 S2 : SH} {B : List Nat} {F F' F1 F2 H H' H1 H2 : Hp} {φ φ' φ1 φ2 : Nat → Addr}
theorem okG_bnd {vs : List Nat} {σ : L2.St} {α : Type} {r : Option (α × SH)} {f : α → SH → Option (En × SH)} {Q : L2.St → Hp → Prop} (h : OkG K cl vs σ S B F φ H (bnd r f) Q) : ∃ a S1, r = some (a, S1) ∧ OkG K cl vs σ S B F φ H (f a S1) Q := by
  cases r with
  | none => obtain ⟨_, _, z, _⟩ := h; cases z
  | some p => exact ⟨p.1, p.2, rfl, h⟩
theorem DRA.set {ds : List D} {vs : List V} {d : D} {v : V} (r : DR K cl F φ d v) : ∀ {ds : List D} {vs : List V} (j : Nat), DRA K cl F φ ds vs → DRA K cl F φ (ds.set j d) (vs.set j v)
  | _, _, _, .nil => .nil
  | _, _, 0, .cons _ t => .cons r t
  | _, _, j + 1, .cons a t => .cons a (DRA.set (ds := ds) (vs := vs) r j t)
theorem DRA.append {ds es : List D} {vs us : List V} (a : DRA K cl F φ ds vs) (b : DRA K cl F φ es us) : DRA K cl F φ (ds ++ es) (vs ++ us) := by
  induction a with
  | nil => exact b
  | cons r t ih => exact .cons r ih
theorem okB_set {n : Nat} {ds : List D} {d : D} {j : Nat} (w : (Ob.lst ds).lt S.len) (l : d.lt S.len) : (Ob.lst (ds.set j d)).lt S.len := fun y hy => by
  rcases List.mem_or_eq_of_mem_set hy with h | h
  · exact w y h
  · rw [h]; exact l
theorem putOk {n : Nat} {o : Ob} {x : HO} {ds : List D} {d : D} (s : Sim K cl S B F φ H) (q : S.os[n]? = some (.lst ds)) (hd : okRef S n d = true) (l : d.lt S.len) (he : ∀ y ∈ o.ds, y = d ∨ y ∈ ds) (ho : OR K cl F φ (some x) o) :
    Sim K cl (S.put n o) B F φ (upd H (φ n) x) ∧ Ext S F φ H (S.put n o) F φ (upd H (φ n) x) :=
  putGen s q (fun y hy => by
    rcases he y hy with rfl | h
    · rcases okRef_b hd with h | h
      · exact .inr (.inr ⟨h, l⟩)
      · exact .inl h
    · exact .inr (.inl h)) ho
theorem setIx_ok {o i v : D} {x y u : V} (e : setIx o i v S = some S') (s : Sim K cl S B F φ H) (ro : DR K cl F φ o x) (ri : DR K cl F φ i y) (rv : DR K cl F φ v u) (lv : v.lt S.len) :
    ∃ p xs k j, x = .ref p ∧ y = .int k ∧ H p = some (.lst xs) ∧ ixN xs.length k = some j ∧ Sim K cl S' B F φ (upd H p (.lst (xs.set j u))) ∧ Ext S F φ H S' F φ (upd H p (.lst (xs.set j u))) := by
  cases o with
  | p _ => cases e
  | ref n =>
    cases i with
    | ref _ => cases e
    | p z =>
      cases z <;> try (cases e; done)
      rename_i k
      unfold setIx at e
      dsimp only at e
      cases q : S.os[n]? with
      | none => rw [q] at e; cases e
      | some ob =>
        rw [q] at e
        cases ob <;> try (cases e; done)
        rename_i ds
        dsimp only at e
        cases hj : ixN ds.length k with
        | none => rw [hj] at e; cases e
        | some j =>
          rw [hj] at e
          dsimp only at e
          by_cases hr : okRef S n v = true
          · rw [if_pos hr] at e
            cases e
            obtain ⟨vs, ev, rvs⟩ := (s.ob n _ q).2
            have hl := rvs.length
            cases (show Rp K cl F (.int k) y from ri)
            obtain ⟨a, b⟩ := putOk (o := .lst (ds.set j v)) (x := .lst (vs.set j u)) s q hr lv (fun y hy => by
              rcases List.mem_or_eq_of_mem_set hy with h | h
              · exact .inr h
              · exact .inl h) ⟨_, rfl, DRA.set (ds := ds) (vs := vs) rv j rvs⟩
            exact ⟨φ n, vs, k, j, ro, rfl, ev, by rw [← hl]; exact hj, a, b⟩
          · rw [if_neg hr] at e; cases e
end
section
variable {X : Cx} {cl : Nat → Addr} {tg e o ix : Expr} {es : List Expr} {pos : Pos} {g : MG} {gs : MGs} {vs us : List Nat} {me mo mi : ME}
theorem g_name {i : Nat} {x : Str} (hN : X.N.Nodup) (hi : X.N[i]? = some x) (hx : Loc X.env.scope x) (hf : X.fn x = true ∨ X.env.scope.names.lookup x = some .local := by first | exact .inl rfl | exact .inr rfl | assumption) : PG X (.Name x pos) (LG X.K cl [i] (gNm i)) := by
  have h := pg_name (pos := pos) hN hi hx hf
  refine ⟨fun pins s σ H v u Q I r q => h.run pins s σ H v u Q I r ?_⟩
  obtain ⟨d, σd, S, B, F, φ, sm, rs, dr, l, σ1, S1, e, k⟩ := q
  cases e
  refine k F φ H _ sm (.refl sm) (rs.set i dr l) ⟨by rw [List.length_set], fun j hj => ?_⟩
  rw [List.getElem?_set_ne]
  rintro rfl
  exact hj (by simp)
theorem gs_nil : PGs X [] (LGs X.K cl [] gNl) := by
  have h := pgs_nil (X := X)
  refine ⟨fun pins s σ H v u Q I r q => h.run pins s σ H v u Q I r ?_⟩
  obtain ⟨ds, σd, S, B, F, φ, sm, rs, dr, l, σ1, S1, e, k⟩ := q
  cases dr with
  | nil => cases e; exact ⟨rfl, k F φ H σ sm (.refl sm) rs ⟨rfl, fun _ _ => rfl⟩⟩
  | cons _ _ => cases e
theorem gs_cons (h1 : PG X e (LG X.K cl vs g)) (h2 : PGs X es (LGs X.K cl us gs)) (hs : (assignEach (e :: es) X.env).map (·.2) = assign e X.env :: (assignEach es X.env).map (·.2) := by rfl) : PGs X (e :: es) (LGs X.K cl (vs ++ us) (gCn g gs)) := by
  have h := pgs_cons h1 h2 hs
  refine ⟨fun pins s σ H v u Q I r q => h.run pins s σ H v u Q I r ?_⟩
  obtain ⟨ds, σd, S, B, F, φ, sm, rs, dr, l, ok⟩ := q
  cases dr with
  | nil => obtain ⟨_, _, z, _⟩ := ok; cases z
  | @cons d v0 ds' vs' r1 r2 =>
    obtain ⟨σ1, S1, e1, ok⟩ := okG_bnd ok
    refine ⟨v0, vs', rfl, d, σd, S, B, F, φ, sm, rs, r1, l d List.mem_cons_self, σ1, S1, e1, fun F1 φ1 H1 σ' s1 x1 rs1 hk => ?_⟩
    obtain ⟨σ2, S2, e2, k2⟩ := ok
    refine ⟨ds', σ1, S1, B, F1, φ1, s1, rs1, x1.dra (fun y hy => l y (List.mem_cons_of_mem _ hy)) r2, fun y hy => x1.lt (l y (List.mem_cons_of_mem _ hy)), σ2, S2, e2, fun F2 φ2 H2 σ'' s2 x2 rs2 hk2 => ?_⟩
    refine k2 F2 φ2 H2 σ'' s2 (x1.trans x2) rs2 ⟨hk2.1.trans hk.1, fun j hj => ?_⟩
    rw [List.mem_append, not_or] at hj
    exact (hk2.2 j hj.2).trans (hk.2 j hj.1)
theorem g_tup {k n : Nat} (hc : X.calm = true) (h : PGs X es (LGs X.K cl vs gs)) (hn : (assignEach es X.env).length = n := by rfl) (hst : (assignEach es X.env).findIdx? (·.1) = none := by rfl) : PG X (.Tuple es k pos) (LG X.K cl vs (gTp n gs)) := by
  have h := pg_tup (k := k) (pos := pos) hc h hn hst
  refine ⟨fun pins s σ H v u Q I r q => h.run pins s σ H v u Q I r ?_⟩
  obtain ⟨d, σd, S, B, F, φ, sm, rs, dr, l, ok⟩ := q
  cases d with
  | ref _ => obtain ⟨_, _, z, _⟩ := ok; cases z
  | p x =>
    cases x <;> try (obtain ⟨_, _, z, _⟩ := ok; cases z; done)
    rename_i ps
    unfold gTp at ok
    dsimp only at ok
    by_cases hp : ps.length = n
    · rw [if_pos hp] at ok
      cases (show Rp X.K cl F (.tup ps) v from dr) with
      | tup q t =>
        have tr : DRA X.K cl F φ (ps.map D.p) _ := t.dra
        have hl := tr.length
        rw [List.length_map] at hl
        exact ⟨_, _, rfl, SqT.mono sm.le q, by rw [← hl]; exact hp, _, σd, S, B, F, φ, sm, rs, tr, lt_map, ok⟩
    · rw [if_neg hp] at ok; obtain ⟨_, _, z, _⟩ := ok; cases z
theorem g_sub (ho : PE X o (LE X.K cl mo)) (hi : PE X ix (LE X.K cl mi))
    (ha : ∀ v, assign (.Subscript o ix pos) X.env v = (do
      let ov ← holding [v] (eval o X.env)
      let iv ← holding [v, ov] (eval ix X.env)
      standAt pos
      holding [v, ov, iv] (setItem ov iv v)
      release [v, ov, iv] []) := by intro _; rfl) : PG X (.Subscript o ix pos) (LG X.K cl [] (gSb mo mi)) := by
  have h := pg_sub ho hi set_list ha
  refine ⟨fun pins s σ H v u Q I r q => h.run pins s σ H v u Q I r ?_⟩
  obtain ⟨d, σd, S, B, F, φ, sm, rs, dr, l, ok⟩ := q
  obtain ⟨a, S1, e1, ok1⟩ := okG_bnd ok
  obtain ⟨b, S2, e2, ok2⟩ := okG_bnd ok1
  refine LE.then_ sm rs e1 fun F1 φ1 H1 x s1 x1 rs1 dr1 l1 => LE.then_ s1 rs1 e2 fun F2 φ2 H2 y s2 x2 rs2 dr2 l2 => ?_
  cases e3 : setIx a b d S2 with
  | none => rw [e3] at ok2; obtain ⟨_, _, z, _⟩ := ok2; cases z
  | some S3 =>
    rw [e3] at ok2
    obtain ⟨_, _, z, k⟩ := ok2
    cases z
    have x12 := x1.trans x2
    obtain ⟨p, xs, k0, j, h1, h2, h3, h4, s5, x5⟩ := setIx_ok e3 s2 (x2.dr l1 dr1) dr2 (x12.dr l dr) (x12.lt l)
    exact ⟨p, xs, k0, j, h1, h2, h3, h4, k _ _ _ σ s5 (x12.trans x5) (x5.rs rs2) ⟨rfl, fun _ _ => rfl⟩⟩
theorem s_asg (he : PE X e (LE X.K cl me)) (hg : PG X tg (LG X.K cl vs g)) (hs : swapsWithSole [tg] e pos.line X.env = pure false := by rfl) (hw : swappedStores [tg] e X.env = pure none := by rfl)
    (h1 : (assignEach [tg] X.env).map (·.2) = [assign tg X.env] := by rfl) : PS X (.Assign [tg] e pos) (LS X.K cl (dAsg me g)) := by
  refine (ps_asg he hg hs hw h1).imp fun Z σ H q => ?_
  obtain ⟨σd, S, B, F, φ, s, rs, o⟩ := q
  obtain ⟨d, S1, e1, o1⟩ := okS_bnd o
  obtain ⟨σ2, S2, e2, o2⟩ := okS_bnd o1
  obtain ⟨_, _, z, k⟩ := o2
  cases z
  exact LE.then_ s rs e1 fun F1 φ1 H1 u s1 x1 rs1 dr l => ⟨d, σd, S1, B, F1, φ1, s1, rs1, dr, l, σ2, S2, e2, fun F2 φ2 H2 σ' s2 x2 rs2 _ => k F2 φ2 H2 σ' s2 (x1.trans x2) rs2⟩
end

/-! ### what is walked -/
structure Src where
  items : List (SH → Option D)
  fin : SH → Bool
abbrev MI := En → SH → Option (Src × SH)
def srcP (ps : List P) : Src := ⟨ps.map fun p _ => some (.p p), fun _ => true⟩
/-- the list at n, its length unchanged -/
def itemR (n len i : Nat) (S : SH) : Option D := match S.os[n]? with
  | some (.lst ds) => if ds.length = len then ds[i]? else none
  | _ => none
def finR (n len : Nat) (S : SH) : Bool := match S.os[n]? with
  | some (.lst ds) => decide (ds.length = len)
  | _ => false
def srcR (n len : Nat) : Src := ⟨(List.range len).map (itemR n len), finR n len⟩
def srcOf (d : D) (S : SH) : Option (Src × SH) := match d with
  | .p (.lst ps) => some (srcP ps, S)
  | .p (.tup ps) => some (srcP ps, S)
  | .ref n => match S.os[n]? with | some (.lst ds) => some (srcR n ds.length, S) | _ => none
  | _ => none
def dIt (m : ME) : MI := fun σ S => bnd (m σ S) srcOf
def srcN (lo : Int) (n : Nat) : Src := ⟨(List.range n).map fun (i : Nat) _ => some (.p (.int (lo + (i : Int)))), fun _ => true⟩
def rng1 (ds : List D) (S : SH) : Option (Src × SH) := match ds with
  | [.p (.int j)] => if -(2 ^ 62) ≤ j ∧ j < 2 ^ 62 then some (srcN 0 j.toNat, S) else none
  | _ => none
def rng2 (ds : List D) (S : SH) : Option (Src × SH) := match ds with
  | [.p (.int i), .p (.int j)] => if -(2 ^ 62) ≤ i ∧ i < 2 ^ 62 ∧ -(2 ^ 62) ≤ j ∧ j < 2 ^ 62 then some (srcN i (j - i).toNat, S) else none
  | _ => none
def dRng1 (m : MA) : MI := fun σ S => bnd (m σ S) rng1
def dRng2 (m : MA) : MI := fun σ S => bnd (m σ S) rng2

section
variable (K : PySem.W.Frag) (cl : Nat → Addr)
def ItD (S1 : SH) (F1 : Hp) (φ1 : Nat → Addr) (J : It) (src : Src) : Prop :=
  ∀ S' B' F' φ' H', Sim K cl S' B' F' φ' H' → Same F1 F' → S1.len ≤ S'.len → (∀ n, n < S1.len → φ' n = φ1 n) → ∀ i : Nat,
    (∀ t d, src.items[i]? = some t → t S' = some d → d.lt S'.len ∧ J.go i H' ∧ ∀ x H2, J.yld i H' x H2 → ∃ F2, Sim K cl S' B' F2 φ' H2 ∧ Ext S' F' φ' H' S' F2 φ' H2 ∧ DR K cl F2 φ' d x) ∧
    (src.items.length ≤ i → src.fin S' = true → J.stop i H')
def LI (m : MI) : TI := fun σ H R => ∃ σd S B F φ, Sim K cl S B F φ H ∧ RS K cl F φ S.len σd σ ∧ ∃ src S1, m σd S = some (src, S1) ∧
  ∀ F1 φ1 H1 J, Sim K cl S1 B F1 φ1 H1 → Ext S F φ H S1 F1 φ1 H1 → ItD K cl S1 F1 φ1 J src → R J H1
end
section
variable {X : Cx} {cl : Nat → Addr} {tg e l : Expr} {pos p : Pos} {me : ME} {ma : MA}
theorem itD_seq {K : PySem.W.Frag} {S : SH} {F : Hp} {φ : Nat → Addr} {ps : List P} {vs : List V} {J : It} (hr : RpA K cl F ps vs)
    (hg : ∀ H, Same F H → ∀ (i : Nat) (x : V), vs[i]? = some x → J.go i H) (hy : ∀ H, Same F H → ∀ (i : Nat) (x : V), vs[i]? = some x → ∀ y H2, J.yld i H y H2 → H2 = H ∧ y = x) (hs : ∀ H, Same F H → ∀ i : Nat, vs.length ≤ i → J.stop i H) : ItD K cl S F φ J (srcP ps) := by
  intro S' B' F' φ' H' s sf hl hp i
  have dr : DRA K cl F' φ' (ps.map D.p) vs := (RpA.mono sf hr).dra
  have hlen := dr.length
  rw [List.length_map] at hlen
  refine ⟨fun t d ht htd => ?_, fun hi _ => ?_⟩
  · have ht : (ps.map fun p (_ : SH) => some (D.p p))[i]? = some t := ht
    rw [List.getElem?_map] at ht
    cases e : ps[i]? with
    | none => rw [e] at ht; cases ht
    | some q =>
      rw [e] at ht
      cases ht
      cases htd
      obtain ⟨v, hv, rv⟩ := dr.get (i := i) (d := .p q) (by rw [List.getElem?_map, e]; rfl)
      refine ⟨trivial, hg H' (sf.trans s.le) i v hv, fun x H2 y => ?_⟩
      obtain ⟨rfl, rfl⟩ := hy H' (sf.trans s.le) i v hv x H2 y
      exact ⟨F', s, .refl s, rv⟩
  · have hi : (ps.map fun p (_ : SH) => some (D.p p)).length ≤ i := hi
    rw [List.length_map] at hi
    exact hs H' (sf.trans s.le) i (by omega)
theorem sqL_inj {P : Program} {w : World} {h : Heap} {K : PySem.W.Frag} {H : Hp} {a : Addr} {xs ys : List V} : True := trivial
/-- any list or tuple, walked -/
theorem pi_any (hl : PE X l (LE X.K cl me)) : PI X tg l (LI X.K cl (dIt me)) := by
  refine ⟨fun pins s σ H R I h => ?_⟩
  obtain ⟨σd, S, B, F, φ, sm, rs, src, S1, e, k⟩ := h
  obtain ⟨d, S2, e1, e2⟩ := bnd_of e
  have base : LE X.K cl me σ H fun x H1 => ∃ F1 φ1, Sim X.K cl S2 B F1 φ1 H1 ∧ Ext S F φ H S2 F1 φ1 H1 ∧ DR X.K cl F1 φ1 d x ∧ d.lt S2.len :=
    LE.then_ sm rs e1 fun F1 φ1 H1 x s1 x1 rs1 dr1 l1 => ⟨F1, φ1, s1, x1, dr1, l1⟩
  refine thn (hl.run pins s σ H _ I base) fun v s1 ⟨x, H1, I1, r1, F1, φ1, sm1, x1, dr1, l1⟩ => ?_
  -- a list at a
  have lst : ∀ (a : Addr) (xs : List V), x = .ref a → SqL X.K H1 a xs → R (Itl X.K a) H1 → wpAny (model X.prog X.w) X.A (pyIter v) (PIE X pins σ tg R) X.xe s1 := by
    intro a xs ex hq hR
    subst ex
    cases r1
    obtain ⟨its, rv, p, hz⟩ := I1.list hq
    refine wpAny_pyIter_list p.isList ?_
    refine ⟨s1.heap.objs.size, [s1.heap.objs.size], _, _, H1, rfl, I1.kept (t' := s1.toks) fun b o e => Heap.get?_push_of_some _ e, turn_list a _, ⟨_, Heap.get?_push_size _ rfl, rfl, rfl⟩, fun b hb => ?_, hR⟩
    have e : b = s1.heap.objs.size := by simpa using hb
    subst e
    exact I1.fpOk (Nat.le_refl _) (I1.hok.fresh (Nat.le_refl _))
  have tup : ∀ (a : Addr) (xs : List V), x = .ref a → SqT X.K H1 a xs → R (Itt X.K a) H1 → wpAny (model X.prog X.w) X.A (pyIter v) (PIE X pins σ tg R) X.xe s1 := by
    intro a xs ex hq hR
    subst ex
    cases r1
    obtain ⟨its, rv, p, hz⟩ := I1.tuple hq
    refine wpAny_pyIter_tuple (show s1.heap.IsTuple a its.toArray from p) ?_
    refine ⟨s1.heap.objs.size, [s1.heap.objs.size], _, _, H1, rfl, I1.kept (t' := s1.toks) fun b o e => Heap.get?_push_of_some _ e, turn_tuple a _, ⟨_, Heap.get?_push_size _ rfl, rfl, rfl⟩, fun b hb => ?_, hR⟩
    have e : b = s1.heap.objs.size := by simpa using hb
    subst e
    exact I1.fpOk (Nat.le_refl _) (I1.hok.fresh (Nat.le_refl _))
  cases d with
  | p y =>
    cases y with
    | tup zs =>
      simp only [srcOf, Option.some.injEq, Prod.mk.injEq] at e2
      obtain ⟨rfl, rfl⟩ := e2
      cases (show Rp X.K cl F1 (.tup zs) x from dr1) with
      | @tup a _ vs q t =>
        refine tup a vs rfl (SqT.mono sm1.le q) (k F1 φ1 H1 _ sm1 x1 (itD_seq t (fun H sf i x hx => ⟨vs, x, SqT.mono sf q, hx⟩) (fun H sf i x hx y H2 hy => ⟨hy.1, ?_⟩) fun H sf i hi => ⟨vs, SqT.mono sf q, hi⟩))
        have := hy.2 vs (SqT.mono sf q)
        rw [hx] at this
        exact (Option.some.inj this).symm
    | lst zs =>
      simp only [srcOf, Option.some.injEq, Prod.mk.injEq] at e2
      obtain ⟨rfl, rfl⟩ := e2
      cases (show Rp X.K cl F1 (.lst zs) x from dr1) with
      | @lst a _ vs q t =>
        refine lst a vs rfl (SqL.mono sm1.le q) (k F1 φ1 H1 _ sm1 x1 (itD_seq t (fun H sf i x hx => ⟨vs, x, SqL.mono sf q, hx⟩) (fun H sf i x hx y H2 hy => ⟨hy.1, ?_⟩) fun H sf i hi => ⟨vs, SqL.mono sf q, hi⟩))
        have := hy.2 vs (SqL.mono sf q)
        rw [hx] at this
        exact (Option.some.inj this).symm
    | _ => cases e2
  | ref n =>
    unfold srcOf at e2
    dsimp only at e2
    cases q : S2.os[n]? with
    | none => rw [q] at e2; cases e2
    | some ob =>
      rw [q] at e2
      cases ob <;> try (cases e2; done)
      rename_i ds
      simp only [Option.some.injEq, Prod.mk.injEq] at e2
      obtain ⟨rfl, rfl⟩ := e2
      have hn : n < S2.len := (List.getElem?_eq_some_iff.mp q).1
      obtain ⟨vs, ev, rv⟩ := (sm1.ob n _ q).2
      refine lst (φ1 n) vs dr1 (.inl (.inl ev)) (k F1 φ1 H1 _ sm1 x1 ?_)
      intro S' B' F' φ' H' s' sf hl hp i
      have at_ : ∀ ds', S'.os[n]? = some (.lst ds') → ∃ vs', SqL X.K H' (φ1 n) vs' ∧ H' (φ1 n) = some (.lst vs') ∧ DRA X.K cl F' φ' ds' vs' := fun ds' q' => by
        obtain ⟨vs', ev', rv'⟩ := (s'.ob n _ q').2
        rw [hp n hn] at ev'
        exact ⟨vs', .inl (.inl ev'), ev', rv'⟩
      refine ⟨fun t d ht htd => ?_, fun hi hf => ?_⟩
      · have ht : ((List.range ds.length).map (itemR n ds.length))[i]? = some t := ht
        rw [List.getElem?_map] at ht
        cases er : (List.range ds.length)[i]? with
        | none => rw [er] at ht; cases ht
        | some j =>
          rw [er] at ht
          cases ht
          have hj : j = i := by
            have := List.getElem?_eq_some_iff.mp er
            obtain ⟨h1, h2⟩ := this
            rw [List.getElem_range] at h2
            exact h2.symm
          subst hj
          unfold itemR at htd
          cases q' : S'.os[n]? with
          | none => rw [q'] at htd; cases htd
          | some ob' =>
            rw [q'] at htd
            cases ob' <;> try (cases htd; done)
            rename_i ds'
            dsimp only at htd
            by_cases hlen : ds'.length = ds.length
            · rw [if_pos hlen] at htd
              obtain ⟨vs', h1, h2, h3⟩ := at_ ds' q'
              obtain ⟨v', hv', rv'⟩ := h3.get htd
              refine ⟨s'.wf n _ q' d (List.mem_of_getElem? htd), ⟨vs', v', h1, hv'⟩, fun x H2 hy => ?_⟩
              obtain ⟨rfl, hy⟩ := hy
              have := hy vs' h1
              rw [hv'] at this
              cases this
              exact ⟨F', s', .refl s', rv'⟩
            · rw [if_neg hlen] at htd; cases htd
      · have hf : finR n ds.length S' = true := hf
        unfold finR at hf
        cases q' : S'.os[n]? with
        | none => rw [q'] at hf; cases hf
        | some ob' =>
          rw [q'] at hf
          cases ob' <;> try (cases hf; done)
          rename_i ds'
          have hlen : ds'.length = ds.length := of_decide_eq_true hf
          obtain ⟨vs', h1, h2, h3⟩ := at_ ds' q'
          refine ⟨vs', h1, ?_⟩
          have := h3.length
          have hi : ((List.range ds.length).map (itemR n ds.length)).length ≤ i := hi
          rw [List.length_map, List.length_range] at hi
          omega
theorem itD_rng {K : PySem.W.Frag} {S : SH} {F : Hp} {φ : Nat → Addr} {lo : Int} {n : Nat} : ItD K cl S F φ (Itr lo n) (srcN lo n) := by
  intro S' B' F' φ' H' s sf hl hp i
  refine ⟨fun t d ht htd => ?_, fun hi _ => ?_⟩
  · have ht : ((List.range n).map fun (i : Nat) (_ : SH) => some (D.p (.int (lo + (i : Int)))))[i]? = some t := ht
    rw [List.getElem?_map] at ht
    cases er : (List.range n)[i]? with
    | none => rw [er] at ht; cases ht
    | some j =>
      rw [er] at ht
      cases ht
      obtain ⟨h1, h2⟩ := List.getElem?_eq_some_iff.mp er
      rw [List.getElem_range] at h2
      rw [List.length_range] at h1
      subst h2
      cases htd
      refine ⟨trivial, h1, fun x H2 y => ?_⟩
      obtain ⟨rfl, rfl⟩ := y
      exact ⟨F', s, .refl s, Rp.int _⟩
  · have hi : ((List.range n).map fun (i : Nat) (_ : SH) => some (D.p (.int (lo + (i : Int))))).length ≤ i := hi
    rw [List.length_map, List.length_range] at hi
    exact hi
theorem drInt {K : PySem.W.Frag} {F : Hp} {φ : Nat → Addr} {i : Int} {x : V} (h : DR K cl F φ (.p (.int i)) x) : x = .int i := by
  cases (show Rp K cl F (.int i) x from h); rfl
theorem pi_rng1 {a : Expr} (hg : Gl X "range") (hm : X.mg "range" = none) (ha : PA X [a] (LA X.K cl ma)) (hs : starEach [a] X.env = [(false, eval a X.env)] := by rfl) : PI X tg (.Call (.Name "range" p) [a] [] pos) (LI X.K cl (dRng1 ma)) := by
  have h := pi_range1 (tg := tg) (p := p) (pos := pos) hg hm ha hs
  refine ⟨fun pins s σ H R I q => h.run pins s σ H R I ?_⟩
  obtain ⟨σd, S, B, F, φ, sm, rs, src, S1, e, k⟩ := q
  obtain ⟨ds, S2, e1, e2⟩ := bnd_of e
  refine LA.then_ sm rs e1 fun F1 φ1 H1 us s1 x1 rs1 dr l => ?_
  unfold rng1 at e2
  split at e2
  · rename_i j
    split at e2
    · rename_i hj
      cases e2
      cases dr with
      | cons r t =>
        cases t
        exact ⟨j, by rw [drInt r], hj.1, hj.2, k F1 φ1 H1 _ s1 x1 itD_rng⟩
    · cases e2
  · cases e2
theorem pi_rng2 {a b : Expr} (hg : Gl X "range") (hm : X.mg "range" = none) (ha : PA X [a, b] (LA X.K cl ma)) (hs : starEach [a, b] X.env = [(false, eval a X.env), (false, eval b X.env)] := by rfl) (hs2 : starEach [b] X.env = [(false, eval b X.env)] := by rfl) : PI X tg (.Call (.Name "range" p) [a, b] [] pos) (LI X.K cl (dRng2 ma)) := by
  have h := pi_range2 (tg := tg) (p := p) (pos := pos) hg hm ha hs hs2
  refine ⟨fun pins s σ H R I q => h.run pins s σ H R I ?_⟩
  obtain ⟨σd, S, B, F, φ, sm, rs, src, S1, e, k⟩ := q
  obtain ⟨ds, S2, e1, e2⟩ := bnd_of e
  refine LA.then_ sm rs e1 fun F1 φ1 H1 us s1 x1 rs1 dr l => ?_
  unfold rng2 at e2
  split at e2
  · rename_i i j
    split at e2
    · rename_i hj
      cases e2
      cases dr with
      | cons r t =>
        cases t with
        | cons r2 t =>
          cases t
          exact ⟨i, j, by rw [drInt r, drInt r2], hj, k F1 φ1 H1 _ s1 x1 itD_rng⟩
    · cases e2
  · cases e2
end

/-! ### loops -/
def forL (ws : List Nat) (fin : SH → Bool) (g : MG) (body : MS) : List (SH → Option D) → MS
  | [], σ, S => if fin S = true then some (.nx σ, S) else none
  | t :: ts, σ, S => match t S with
    | some d => bnd (g d σ S) fun σ1 S1 => bnd (body σ1 S1) fun f S2 => match f with
      | .nx σ2 => forL ws fin g body ts (wipeD ws σ2) S2
      | .ct σ2 => forL ws fin g body ts (wipeD ws σ2) S2
      | .brk σ2 => some (.nx (wipeD ws σ2), S2)
      | .ret d => some (.ret d, S2)
    | none => none
/-- ws: the names that no turn needs from the one before, nor what follows -/
def dFor (ws : List Nat) (m : MI) (g : MG) (body : MS) : MS := fun σ S => bnd (m σ S) fun src S1 => forL ws src.fin g body src.items (wipeD ws σ) S1
def whL (ws : List Nat) (t : MT) (body : MS) : Nat → MS
  | 0, _, _ => none
  | k + 1, σ, S => bnd (t σ S) fun b S1 => if b = true then bnd (body σ S1) fun f S2 => match f with
      | .nx σ2 => whL ws t body k (wipeD ws σ2) S2
      | .ct σ2 => whL ws t body k (wipeD ws σ2) S2
      | .brk σ2 => some (.nx (wipeD ws σ2), S2)
      | .ret d => some (.ret d, S2)
    else some (.nx σ, S1)
def dWhile (ws : List Nat) (fuel : Nat) (t : MT) (body : MS) : MS := fun σ S => whL ws t body fuel (wipeD ws σ) S
def compL (fin : SH → Bool) (g : MG) (c : MT) (elt : ME) (σ : En) : List (SH → Option D) → List D → SH → Option (List D × SH)
  | [], acc, S => if fin S = true then some (acc, S) else none
  | t :: ts, acc, S => match t S with
    | some d => bnd (g d σ S) fun σ1 S1 => bnd (c σ1 S1) fun b S2 => if b = true then
        (if acc.length < sizeLine then bnd (elt σ1 S2) fun y S3 => compL fin g c elt σ ts (acc ++ [y]) S3 else none)
        else compL fin g c elt σ ts acc S2
    | none => none
def dComp (live : Bool) (m : MI) (g : MG) (c : MT) (elt : ME) (vs : List Nat) : ME := fun σ S => bnd (m σ S) fun src S1 => bnd (compL src.fin g c elt (wipeD vs σ) src.items [] S1) fun ds S2 => newL live ds S2
def dYes : MT := fun _ S => some (true, S)
section
variable {X : Cx} {cl : Nat → Addr} {tg iter e : Expr} {body : List Stmt} {pos : Pos} {m : MI} {g : MG} {vs : List Nat} {mb : MS} {mt : MT} {me : ME}
theorem s_for {ws : List Nat} (hp : PassesOwn (model X.prog X.w) X.A X.env X.xe) (hc : X.calm = true) (hi : PI X tg iter (LI X.K cl m)) (hg : PG X tg (LG X.K cl vs g)) (hb : PSs X body (LS X.K cl mb))
    (hs : ∀ x, foldedSetIterable iter X.env x = pure x := by intro _; rfl) : PS X (.For tg iter body [] pos) (LS X.K cl (dFor ws m g mb)) := by
  refine (ps_for hp hc hi hg hb hs).imp fun Z σ H q => ?_
  obtain ⟨σd, S, B, F, φ, s, rs, o⟩ := q
  obtain ⟨src, S1, e1, o1⟩ := okS_bnd o
  refine ⟨σd, S, B, F, φ, s, rs, src, S1, e1, fun F1 φ1 H1 J s1 x1 it => ?_⟩
  refine ⟨fun i mm σ' H' => mm = src.items.length - i ∧ i ≤ src.items.length ∧ ∃ σd' S' F' φ', Sim X.K cl S' B F' φ' H' ∧ Ext S1 F1 φ1 H1 S' F' φ' H' ∧ RS X.K cl F' φ' S'.len σd' σ' ∧ OkS X.K cl S' B F' φ' H' (forL ws src.fin g mb (src.items.drop i) σd' S') Z,
    ⟨src.items.length, by simp, Nat.zero_le _, wipeD ws σd, S1, F1, φ1, s1, .refl s1, (x1.rs rs).wipe ws, by rw [List.drop_zero]; exact o1.ext x1⟩, ?_⟩
  rintro i mm σ' H' ⟨rfl, hi, σd', S', F', φ', s', x', rs', o'⟩
  obtain ⟨turn, stop⟩ := it S' B F' φ' H' s' x'.fz x'.len x'.phi i
  by_cases hlt : i < src.items.length
  · rw [List.drop_eq_getElem_cons hlt] at o'
    unfold forL at o'
    cases ht : src.items[i] S' with
    | none => rw [ht] at o'; obtain ⟨_, _, z, _⟩ := o'; cases z
    | some d =>
      rw [ht] at o'
      dsimp only at o'
      obtain ⟨ld, go, yld⟩ := turn _ d (List.getElem?_eq_getElem hlt) ht
      refine .inr ⟨go, fun σ3 H3 => ∃ σd3 S3 F3 φ3, Sim X.K cl S3 B F3 φ3 H3 ∧ Ext S1 F1 φ1 H1 S3 F3 φ3 H3 ∧ RS X.K cl F3 φ3 S3.len σd3 σ3 ∧ OkS X.K cl S3 B F3 φ3 H3 (forL ws src.fin g mb (src.items.drop (i + 1)) σd3 S3) Z, fun σ3 H3 h => ⟨src.items.length - (i + 1), by omega, rfl, hlt, h⟩, fun x H2 y => ?_⟩
      obtain ⟨F2, s2, x2, dr⟩ := yld x H2 y
      have o2 := o'.ext x2
      obtain ⟨σ3, S3, e3, o3⟩ := okS_bnd o2
      refine ⟨d, σd', S', B, F2, φ', s2, x2.rs rs', dr, ld, σ3, S3, e3, fun F4 φ4 H4 σ4 s4 x4 rs4 _ => ?_⟩
      obtain ⟨f, S5, e5, o5⟩ := okS_bnd (o3.ext x4)
      refine ⟨σ3, S3, B, F4, φ4, s4, rs4, f, S5, e5, ?_⟩
      cases f with
      | nx σ5 => exact fun F6 φ6 H6 σ6 s6 x6 rs6 => ⟨wipeD ws σ5, S5, F6, φ6, s6, x'.trans (x2.trans (x4.trans x6)), rs6.wipe ws, o5.ext x6⟩
      | ct σ5 => exact fun F6 φ6 H6 σ6 s6 x6 rs6 => ⟨wipeD ws σ5, S5, F6, φ6, s6, x'.trans (x2.trans (x4.trans x6)), rs6.wipe ws, o5.ext x6⟩
      | brk σ5 => obtain ⟨_, _, z, k⟩ := o5; cases z; exact fun F6 φ6 H6 σ6 s6 x6 rs6 => k F6 φ6 H6 σ6 s6 x6 (rs6.wipe ws)
      | ret d => obtain ⟨_, _, z, k⟩ := o5; cases z; exact k
  · have hd : src.items.drop i = [] := List.drop_eq_nil_iff.mpr (by omega)
    rw [hd] at o'
    unfold forL at o'
    by_cases hf : src.fin S' = true
    · rw [if_pos hf] at o'
      obtain ⟨_, _, z, k⟩ := o'
      cases z
      exact .inl ⟨stop (by omega) hf, k F' φ' H' σ' s' (.refl s') rs'⟩
    · rw [if_neg hf] at o'; obtain ⟨_, _, z, _⟩ := o'; cases z
theorem s_while {ws : List Nat} {c : Expr} {fuel : Nat} (hp : PassesOwn (model X.prog X.w) X.A X.env X.xe) (hc : PT X c (LT X.K cl mt)) (hb : PSs X body (LS X.K cl mb)) : PS X (.While c body [] pos) (LS X.K cl (dWhile ws fuel mt mb)) := by
  refine (ps_while hp hc hb).imp fun Z σ H q => ?_
  obtain ⟨σd, S, B, F, φ, s, rs, o⟩ := q
  refine ⟨fun k σ' H' => ∃ σd' S' F' φ', Sim X.K cl S' B F' φ' H' ∧ RS X.K cl F' φ' S'.len σd' σ' ∧ OkS X.K cl S' B F' φ' H' (whL ws mt mb k σd' S') Z, ⟨fuel, wipeD ws σd, S, F, φ, s, rs.wipe ws, o⟩, ?_⟩
  rintro k σ' H' ⟨σd', S', F', φ', s', rs', o'⟩
  cases k with
  | zero => obtain ⟨_, _, z, _⟩ := o'; cases z
  | succ k =>
    unfold whL at o'
    obtain ⟨b, S1, e1, o1⟩ := okS_bnd o'
    refine LT.then_ s' rs' e1 fun F1 φ1 H1 s1 x1 rs1 => ?_
    split
    · rename_i hb; rw [if_pos hb] at o1
      obtain ⟨f, S2, e2, o2⟩ := okS_bnd (o1.ext x1)
      refine ⟨fun σ3 H3 => ∃ σd3 S3 F3 φ3, Sim X.K cl S3 B F3 φ3 H3 ∧ RS X.K cl F3 φ3 S3.len σd3 σ3 ∧ OkS X.K cl S3 B F3 φ3 H3 (whL ws mt mb k σd3 S3) Z, fun σ3 H3 h => ⟨k, Nat.lt_succ_self _, h⟩, ?_⟩
      refine ⟨σd', S1, B, F1, φ1, s1, rs1, f, S2, e2, ?_⟩
      cases f with
      | nx σ5 => exact fun F6 φ6 H6 σ6 s6 x6 rs6 => ⟨wipeD ws σ5, S2, F6, φ6, s6, rs6.wipe ws, o2.ext x6⟩
      | ct σ5 => exact fun F6 φ6 H6 σ6 s6 x6 rs6 => ⟨wipeD ws σ5, S2, F6, φ6, s6, rs6.wipe ws, o2.ext x6⟩
      | brk σ5 => obtain ⟨_, _, z, k⟩ := o2; cases z; exact fun F6 φ6 H6 σ6 s6 x6 rs6 => k F6 φ6 H6 σ6 s6 x6 (rs6.wipe ws)
      | ret d => obtain ⟨_, _, z, k⟩ := o2; cases z; exact k
    · rename_i hb; rw [if_neg hb] at o1
      obtain ⟨_, _, z, k⟩ := o1
      cases z
      exact k F1 φ1 H1 σ' s1 x1 rs1
theorem wipe_get {σ : L2.St} {i : Nat} : ∀ {vs : List Nat}, i ∉ vs → (wipe σ vs)[i]? = σ[i]?
  | [], _ => rfl
  | v :: vs, h => by
    unfold wipe
    rw [List.mem_cons, not_or] at h
    rw [List.getElem?_set_ne (fun e => h.1 e.symm)]
    exact wipe_get h.2
theorem wipe_in {σ : L2.St} {i : Nat} : ∀ {vs : List Nat}, i ∈ vs → i < σ.length → (wipe σ vs)[i]? = some none
  | v :: vs, h, hl => by
    unfold wipe
    by_cases e : v = i
    · subst e
      rw [List.getElem?_set_self (by rw [wipe_length]; exact hl)]
    · rw [List.getElem?_set_ne e]
      rcases List.mem_cons.mp h with h | h
      · exact absurd h.symm e
      · exact wipe_in h hl
theorem wipe_eq {σ σ' : L2.St} {vs : List Nat} (h : σ'.length = σ.length) (k : ∀ j, j ∉ vs → σ'[j]? = σ[j]?) : wipe σ' vs = wipe σ vs := by
  apply List.ext_getElem?
  intro i
  by_cases hi : i ∈ vs
  · by_cases hl : i < σ.length
    · rw [wipe_in hi (by omega), wipe_in hi hl]
    · rw [List.getElem?_eq_none (by rw [wipe_length]; omega), List.getElem?_eq_none (by rw [wipe_length]; omega)]
  · rw [wipe_get hi, wipe_get hi]; exact k i hi
theorem wipe_wipe {σ : L2.St} {vs : List Nat} : wipe (wipe σ vs) vs = wipe σ vs := wipe_eq (wipe_length _ _) fun j h => wipe_get h
theorem wipeD_len : ∀ (vs : List Nat) (σd : En), (wipeD vs σd).length = σd.length
  | [], _ => rfl
  | i :: r, σd => by unfold wipeD; rw [wipeD_len r, List.length_set]
theorem wipeD_some : ∀ {vs : List Nat} {σd : En} {i : Nat} {d : D}, (wipeD vs σd)[i]? = some (some d) → σd[i]? = some (some d) ∧ i ∉ vs
  | [], _, _, _, h => ⟨h, by simp⟩
  | v :: vs, σd, i, d, h => by
    unfold wipeD at h
    obtain ⟨h1, h2⟩ := wipeD_some h
    by_cases e : v = i
    · subst e
      rw [List.getElem?_set, if_pos rfl] at h1
      split at h1 <;> cases h1
    · rw [List.getElem?_set_ne e] at h1
      exact ⟨h1, by rw [List.mem_cons, not_or]; exact ⟨fun z => e z.symm, h2⟩⟩
theorem RS.wipe2 {K : PySem.W.Frag} {F : Hp} {φ : Nat → Addr} {k : Nat} {σd : En} {σ : L2.St} (r : RS K cl F φ k σd σ) (vs : List Nat) : RS K cl F φ k (wipeD vs σd) (L2.wipe σ vs) := by
  refine ⟨by rw [wipeD_len, wipe_length]; exact r.1, fun i d e => ?_⟩
  obtain ⟨h1, h2⟩ := wipeD_some e
  obtain ⟨a, v, b, c⟩ := r.2 i d h1
  exact ⟨a, v, by rw [wipe_get h2]; exact b, c⟩
/-- another object, neither data nor one that may change here -/
def At (L : Addr) (us : List V) (S : SH) (F : Hp) (φ : Nat → Addr) (H : Hp) : Prop := H L = some (.lst us) ∧ F L = none ∧ ∀ n, n < S.len → φ n ≠ L
theorem At.ext {L : Addr} {us : List V} {S S' : SH} {F F' H H' : Hp} {φ φ' : Nat → Addr} (x : Ext S F φ H S' F' φ' H') (a : At L us S F φ H) : At L us S' F' φ' H' := by
  refine ⟨x.keep L _ a.1 a.2.2, x.fr L _ a.1 a.2.1 a.2.2, fun n hn e => ?_⟩
  by_cases h : n < S.len
  · exact a.2.2 n h ((x.phi n h).symm.trans e)
  · have := x.new n (Nat.le_of_not_lt h) hn
    rw [e, a.1] at this; cases this
theorem Sim.other {K : PySem.W.Frag} {S : SH} {B : List Nat} {F H : Hp} {φ : Nat → Addr} (s : Sim K cl S B F φ H) {L : Addr} (o : HO) (fL : F L = none) (np : ∀ n, n < S.len → φ n ≠ L) : Sim K cl S B F φ (upd H L o) := by
  refine ⟨fun a u e => ?_, fun n u e => ⟨(s.ob n u e).1, ?_⟩, s.inj, s.wf, s.bs, s.bl⟩
  · rw [upd_ne (ne_of_none e fL)]; exact s.le a u e
  · rw [upd_ne (np n (List.getElem?_eq_some_iff.mp e).1)]; exact (s.ob n u e).2
theorem Ext.other {S S' : SH} {F F' H H' : Hp} {φ φ' : Nat → Addr} (x : Ext S F φ H S' F' φ' H') {L : Addr} (o : HO) (h : H L = none) : Ext S F φ H S' F' φ' (upd H' L o) :=
  ⟨x.fz, x.len, x.b, x.phi, x.new, fun a u e n => by rw [upd_ne (ne_of_none e h)]; exact x.keep a u e n, fun n hn => by
    by_cases e : φ n = L
    · rw [e, upd_same]; simp
    · rw [upd_ne e]; exact x.tr n hn, x.fr⟩
theorem newL_at {K : PySem.W.Frag} {S0 S : SH} {B : List Nat} {F0 F H0 H : Hp} {φ0 φ : Nat → Addr} {Q : VK} {live : Bool} {ds : List D} {us : List V} {L : Addr} (h : OkE K cl S0 B F0 φ0 H0 (newL live ds S) Q) (s : Sim K cl S B F φ H) (x : Ext S0 F0 φ0 H0 S F φ H)
    (r : DRA K cl F φ ds us) (l : ∀ d ∈ ds, d.lt S.len) (a : At L us S F φ H) (h0 : H0 L = none) : Q (.ref L) H := by
  -- as if the object were laid just now
  obtain ⟨aL, fL, np⟩ := a
  let Hm : Hp := fun b => if b = L then none else H b
  have hm : Hm L = none := if_pos rfl
  have ne : ∀ b, b ≠ L → Hm b = H b := fun b hb => if_neg hb
  have sm : Sim K cl S B F φ Hm := ⟨fun b o e => by rw [ne b (ne_of_none e fL)]; exact s.le b o e, fun n o e => ⟨(s.ob n o e).1, by rw [ne _ (np n (List.getElem?_eq_some_iff.mp e).1)]; exact (s.ob n o e).2⟩, s.inj, s.wf, s.bs, s.bl⟩
  have xm : Ext S0 F0 φ0 H0 S F φ Hm := ⟨x.fz, x.len, x.b, x.phi, x.new, fun b o e n => by rw [ne b (ne_of_none e h0)]; exact x.keep b o e n, fun n hn e => by
      by_cases q : φ0 n = L
      · exact np n (Nat.lt_of_lt_of_le hn x.len) ((x.phi n hn).trans q)
      · rw [ne _ q] at e; exact x.tr n hn e, x.fr⟩
  have same : Same Hm H := fun b o e => by
    by_cases q : b = L
    · rw [q, hm] at e; cases e
    · rw [ne b q] at e; exact e
  exact (newL_ok (h.ext xm) sm r l).2 L H hm same aL
theorem e_comp {K : PySem.W.Frag} {live : Bool} {σ : L2.St} {H : Hp} {Q : VK} {ws : List Nat} (hw : ∀ j ∈ vs, j ∈ ws) (q : LE K cl (dComp live m g mt me ws) σ H Q) : tLc (LI K cl m) (LG K cl vs g) (LT K cl mt) (LE K cl me) ws σ H Q := by
  obtain ⟨σd, S, B, F, φ, s, rs, o⟩ := q
  obtain ⟨src, S1, e1, o1⟩ := okE_bnd o
  refine ⟨σd, S, B, F, φ, s, rs, src, S1, e1, fun F1 φ1 H1 J s1 x1 it => ?_⟩
  intro L hL
  have o1 := o1.ext x1
  have smL : Same H1 (upd H1 L (.lst [])) := Same.new (Same.refl _) hL
  obtain ⟨fL, pL⟩ := s1.none_p hL
  refine ⟨fun i mm H' => mm = src.items.length - i ∧ i ≤ src.items.length ∧ ∃ acc us S' F' φ', Sim K cl S' B F' φ' H' ∧ Ext S1 F1 φ1 H1 S' F' φ' H' ∧ At L us S' F' φ' H' ∧ DRA K cl F' φ' acc us ∧ (∀ d ∈ acc, d.lt S'.len) ∧
      OkE K cl S1 B F1 φ1 H1 (bnd (compL src.fin g mt me (wipeD ws σd) (src.items.drop i) acc S') fun ds S2 => newL live ds S2) Q,
    ⟨src.items.length, by simp, Nat.zero_le _, [], [], S1, F1, φ1, s1.keep smL, Ext.ofSame s1 smL, ⟨upd_same, fL, pL⟩, .nil, fun _ z => absurd z (by simp), by rw [List.drop_zero]; exact o1⟩, ?_⟩
  rintro i mm H' ⟨rfl, hi, acc, us, S', F', φ', s', x', at', ra, la, o'⟩
  obtain ⟨turn, stop⟩ := it S' B F' φ' H' s' x'.fz x'.len x'.phi i
  by_cases hlt : i < src.items.length
  · rw [List.drop_eq_getElem_cons hlt] at o'
    unfold compL at o'
    cases ht : src.items[i] S' with
    | none => rw [ht] at o'; obtain ⟨_, _, z, _⟩ := o'; cases z
    | some d =>
      rw [ht] at o'
      dsimp only at o'
      obtain ⟨ld, go, yld⟩ := turn _ d (List.getElem?_eq_getElem hlt) ht
      refine .inr ⟨go, fun H3 => ∃ acc us S' F' φ', Sim K cl S' B F' φ' H3 ∧ Ext S1 F1 φ1 H1 S' F' φ' H3 ∧ At L us S' F' φ' H3 ∧ DRA K cl F' φ' acc us ∧ (∀ d ∈ acc, d.lt S'.len) ∧
        OkE K cl S1 B F1 φ1 H1 (bnd (compL src.fin g mt me (wipeD ws σd) (src.items.drop (i + 1)) acc S') fun ds S2 => newL live ds S2) Q, fun H3 h => ⟨src.items.length - (i + 1), by omega, rfl, hlt, h⟩, fun x H2 y => ?_⟩
      obtain ⟨F2, s2, x2, dr⟩ := yld x H2 y
      obtain ⟨out, S9, eo, ko⟩ := okE_bnd o'
      obtain ⟨σ3, S3, e3, e4⟩ := bnd_of eo
      obtain ⟨b, S4, e5, e6⟩ := bnd_of e4
      refine ⟨d, wipeD ws σd, S', B, F2, φ', s2, (((x1.trans x').trans x2).rs rs).wipe2 ws, dr, ld, σ3, S3, e3, fun F4 φ4 H4 σ4 s4 x4 rs4 hk => ⟨?_, ?_⟩⟩
      · exact (wipe_eq hk.1 fun j hj => hk.2 j fun z => hj (hw j z)).trans wipe_wipe
      · refine LT.then_ s4 rs4 e5 fun F5 φ5 H5 s5 x5 rs5 => ?_
        have xa := (x2.trans x4).trans x5
        split
        · rename_i hb
          rw [if_pos hb] at e6
          by_cases hz : acc.length < sizeLine
          · rw [if_pos hz] at e6
            obtain ⟨y1, S6, e7, e8⟩ := bnd_of e6
            refine LE.then_ s5 rs5 e7 fun F6 φ6 H6 u s6 x6 rs6 dr6 l6 => ?_
            have xb := xa.trans x6
            have at6 := at'.ext xb
            have hlen := ra.length
            refine ⟨us, at6.1, by omega, acc ++ [y1], us ++ [u], S6, F6, φ6, s6.other _ at6.2.1 at6.2.2, (x'.trans xb).other _ hL, ⟨upd_same, at6.2⟩, ?_, fun z hz' => ?_, ?_⟩
            · exact DRA.append (xb.dra la ra) (.cons dr6 .nil)
            · rcases List.mem_append.mp hz' with h | h
              · exact xb.lt (la z h)
              · rw [List.mem_singleton.mp h]; exact l6
            · rw [e8]; exact ko
          · rw [if_neg hz] at e6; cases e6
        · rename_i hb
          rw [if_neg hb] at e6
          exact ⟨acc, us, S4, F5, φ5, s5, x'.trans xa, at'.ext xa, xa.dra la ra, fun z hz' => xa.lt (la z hz'), by rw [e6]; exact ko⟩
  · have hd : src.items.drop i = [] := List.drop_eq_nil_iff.mpr (by omega)
    rw [hd] at o'
    unfold compL at o'
    by_cases hf : src.fin S' = true
    · rw [if_pos hf] at o'
      exact .inl ⟨stop (by omega) hf, newL_at o' s' x' ra la at' hL⟩
    · rw [if_neg hf] at o'; obtain ⟨_, _, z, _⟩ := o'; cases z
theorem ts_nil : PTs X [] (LT X.K cl dYes) := by
  refine ⟨fun pins s σ H Q I h => pts_nil.run pins s σ H Q I ?_⟩
  obtain ⟨σd, S, B, F, φ, s, rs, d, S1, e, k⟩ := h
  cases e
  exact k F φ H s (.refl s)
theorem ts_one {c : Expr} (h : PT X c (LT X.K cl mt)) : PTs X [c] (LT X.K cl mt) := pts_one h
theorem k_comp {elt : Expr} {ifs : List Expr} {scope : Scope} {own : List (Str × Nat)} {live : Bool} (hc : X.calm = true) (hN : X.N.Nodup) (hi : PI X tg iter (LI X.K cl m)) (ok : BlkOk X.N X.env.scope scope own)
    (hg : ∀ (s : Shared) (H : Hp) (C : Addr) (cs : List (Str × Addr)) (fp : List Addr), PG (X.blk s H scope (compEnvC scope cs C X.env) fp) tg (LG X.K cl vs g)) (ht : ∀ (s : Shared) (H : Hp) (C : Addr) (cs : List (Str × Addr)) (fp : List Addr), PTs (X.blk s H scope (compEnvC scope cs C X.env) fp) ifs (LT X.K cl mt))
    (he : ∀ (s : Shared) (H : Hp) (C : Addr) (cs : List (Str × Addr)) (fp : List Addr), PE (X.blk s H scope (compEnvC scope cs C X.env) fp) elt (LE X.K cl me)) (hw : ∀ j ∈ vs, j ∈ own.map (·.2) := by decide) (hs : ∀ x, foldedSetIterable iter X.env x = pure x := by intro _; rfl) :
    PE X (.ListComp elt [⟨tg, iter, ifs, 0⟩] scope pos) (LE X.K cl (dComp live m g mt me (own.map (·.2)))) :=
  (pe_lc hc hN hi ok hg ht he hs).imp fun _ _ _ q => e_comp hw q
theorem s_setComp {i : Nat} {y : Str} {py spos : Pos} {elt : Expr} {ifs : List Expr} {scope : Scope} {own : List (Str × Nat)} {live : Bool} (hc : X.calm = true) (hN : X.N.Nodup) (hy : X.N[i]? = some y) (hyl : X.env.scope.names.lookup y = some .local)
    (hsw : swapsWith (.ListComp elt [⟨tg, iter, ifs, 0⟩] scope pos) (some (.Name y py)) spos.line X.env = pure true) (hi : PI X tg iter (LI X.K cl m)) (ok : BlkOk X.N X.env.scope scope own)
    (hg : ∀ (s : Shared) (H : Hp) (C : Addr) (cs : List (Str × Addr)) (fp : List Addr), PG (X.blk s H scope (compEnvC scope cs C X.env) fp) tg (LG X.K cl vs g)) (ht : ∀ (s : Shared) (H : Hp) (C : Addr) (cs : List (Str × Addr)) (fp : List Addr), PTs (X.blk s H scope (compEnvC scope cs C X.env) fp) ifs (LT X.K cl mt))
    (he : ∀ (s : Shared) (H : Hp) (C : Addr) (cs : List (Str × Addr)) (fp : List Addr), PE (X.blk s H scope (compEnvC scope cs C X.env) fp) elt (LE X.K cl me)) (hw : ∀ j ∈ vs, j ∈ own.map (·.2) := by decide) (hs : ∀ x, foldedSetIterable iter X.env x = pure x := by intro _; rfl) :
    PS X (.Assign [.Name y py] (.ListComp elt [⟨tg, iter, ifs, 0⟩] scope pos) spos) (LS X.K cl (dSet i (dComp live m g mt me (own.map (·.2))))) := by
  refine (ps_setLc hc hN hy hyl hsw hi ok hg ht he hs).imp fun Z σ H q => ?_
  obtain ⟨σd, S, B, F, φ, s, rs, o⟩ := q
  obtain ⟨d, S1, e1, o1⟩ := okS_bnd o
  obtain ⟨_, _, z, k⟩ := o1
  cases z
  exact e_comp hw ⟨σd, S, B, F, φ, s, rs, d, S1, e1, fun F1 φ1 H1 u s1 x1 dr l => k F1 φ1 H1 _ s1 x1 ((x1.rs rs).set i dr l)⟩
end
end Pv
namespace Pv
open PySem PySem.Spec PyProof.Rows L2

/-! ### == of data -/
mutual
def peq : P → P → Bool
  | .non, .non => true
  | .bl a, .bl b => a == b
  | .bl a, .int j => (if a = true then 1 else 0) == j
  | .int i, .bl b => i == (if b = true then 1 else 0)
  | .int i, .int j => i == j
  | .str x, .str y => x == y
  | .lst xs, .lst ys => peqA xs ys
  | .tup xs, .tup ys => peqA xs ys
  | _, _ => false
def peqA : List P → List P → Bool
  | [], [] => true
  | x :: xs, y :: ys => peq x y && peqA xs ys
  | _, _ => false
end
/-- data of nested lists and tuples, so deep at most -/
def okd : Nat → P → Bool
  | _, .non => true
  | _, .bl _ => true
  | _, .int _ => true
  | _, .str _ => true
  | k + 1, .lst ps => ps.all (okd k)
  | k + 1, .tup ps => ps.all (okd k)
  | _, _ => false
theorem peqA_len : ∀ {xs ys : List P}, xs.length ≠ ys.length → peqA xs ys = false
  | [], [], h => absurd rfl h
  | [], _ :: _, _ => by simp [peqA]
  | _ :: _, [], _ => by simp [peqA]
  | x :: xs, y :: ys, h => by
    rw [peqA, peqA_len (xs := xs) (ys := ys) (fun e => h (by rw [List.length_cons, List.length_cons, e])), Bool.and_false]
def pAt (xs ys : List P) (j : Nat) : Bool := peq (xs.getD j .non) (ys.getD j .non)
theorem peqA_all : ∀ {xs ys : List P}, xs.length = ys.length → peqA xs ys = (List.range xs.length).all (pAt xs ys)
  | [], [], _ => by simp [peqA]
  | [], _ :: _, h => by simp at h
  | _ :: _, [], h => by simp at h
  | x :: xs, y :: ys, h => by
    have h' : xs.length = ys.length := by simpa using h
    rw [peqA, peqA_all h', List.length_cons, List.range_succ_eq_map, List.all_cons, List.all_map]
    rfl
theorem pAt_get {xs ys : List P} {j : Nat} {x y : P} (h1 : xs[j]? = some x) (h2 : ys[j]? = some y) : pAt xs ys j = peq x y := by
  unfold pAt
  rw [List.getD_eq_getElem?_getD, List.getD_eq_getElem?_getD, h1, h2]
  rfl
section
variable {X : Cx} {cl : Nat → Addr} {pins : List (Addr × Obj)} {σ : L2.St} {H F : Hp} {s : Shared}
theorem RpA.get {K : PySem.W.Frag} : ∀ {ps : List P} {vs : List V} {i : Nat} {v : V}, RpA K cl F ps vs → vs[i]? = some v → ∃ p, ps[i]? = some p ∧ Rp K cl F p v
  | _, _, _, _, .nil, e => by simp at e
  | _, _, 0, _, .cons r _, e => by simp at e; subst e; exact ⟨_, rfl, r⟩
  | _, _, i + 1, _, .cons _ t, e => by
    obtain ⟨u, h1, h2⟩ := RpA.get (i := i) t (by simpa using e)
    exact ⟨u, by simpa using h1, h2⟩
theorem RpA.len {K : PySem.W.Frag} {ps : List P} {vs : List V} (h : RpA K cl F ps vs) : ps.length = vs.length := by
  induction ps generalizing vs with
  | nil => cases h; rfl
  | cons x r ih => cases h with | cons a b => rw [List.length_cons, List.length_cons, ih b]
/-- a list's, a tuple's items, by place -/
theorem lst_items (I : L2.Inv X pins σ H s) (sf : Same F H) {ps : List P} {v : V} {u : Value} (r : Rp X.K cl F (.lst ps) v) (ru : RelV v u) : ∃ a its, u = .ref a ∧ v = .ref a ∧ s.heap.IsList a its ∧ its.size = ps.length ∧ ∀ j (hj : j < its.size), ∃ p w, ps[j]? = some p ∧ Rp X.K cl F p w ∧ RelV w its[j] := by
  cases r with
  | @lst a _ vs q t =>
    cases ru
    obtain ⟨its, rv, pl, hz⟩ := I.list (SqL.mono sf q)
    have e1 := rv.length
    have e2 := t.len
    refine ⟨a, its.toArray, rfl, rfl, pl.isList, by rw [List.size_toArray]; omega, fun j hj => ?_⟩
    have hj2 : j < its.length := by simpa using hj
    have hv : vs[j]? = some vs[j] := List.getElem?_eq_getElem (by omega)
    obtain ⟨p, hp, rp⟩ := t.get hv
    obtain ⟨w, hw, rw'⟩ := rv.get hv
    refine ⟨p, vs[j], hp, rp, ?_⟩
    have : its[j] = w := by
      rw [List.getElem?_eq_getElem hj2] at hw
      exact Option.some.inj hw
    rw [List.getElem_toArray, this]
    exact rw'
theorem tup_items (I : L2.Inv X pins σ H s) (sf : Same F H) {ps : List P} {v : V} {u : Value} (r : Rp X.K cl F (.tup ps) v) (ru : RelV v u) : ∃ a its, u = .ref a ∧ v = .ref a ∧ s.heap.IsTuple a its ∧ its.size = ps.length ∧ ∀ j (hj : j < its.size), ∃ p w, ps[j]? = some p ∧ Rp X.K cl F p w ∧ RelV w its[j] := by
  cases r with
  | @tup a _ vs q t =>
    cases ru
    obtain ⟨its, rv, pl, hz⟩ := I.tuple (SqT.mono sf q)
    have e1 := rv.length
    have e2 := t.len
    refine ⟨a, its.toArray, rfl, rfl, pl, by rw [List.size_toArray]; omega, fun j hj => ?_⟩
    have hj2 : j < its.length := by simpa using hj
    have hv : vs[j]? = some vs[j] := List.getElem?_eq_getElem (by omega)
    obtain ⟨p, hp, rp⟩ := t.get hv
    obtain ⟨w, hw, rw'⟩ := rv.get hv
    refine ⟨p, vs[j], hp, rp, ?_⟩
    have : its[j] = w := by
      rw [List.getElem?_eq_getElem hj2] at hw
      exact Option.some.inj hw
    rw [List.getElem_toArray, this]
    exact rw'
theorem okd_at {k : Nat} {ps : List P} (h : ps.all (okd k) = true) {j : Nat} {p : P} (e : ps[j]? = some p) : okd k p = true := List.all_eq_true.mp h p (List.mem_of_getElem? e)
mutual
theorem peq_refl : ∀ (k : Nat) (p : P), okd k p = true → peq p p = true
  | _, .non, _ => rfl
  | _, .bl b, _ => by simp [peq]
  | _, .int i, _ => by simp [peq]
  | _, .str x, _ => by simp [peq]
  | 0, .lst _, h => by simp [okd] at h
  | 0, .tup _, h => by simp [okd] at h
  | k + 1, .lst ps, h => by rw [peq]; exact peqA_refl k ps (by simpa [okd] using h)
  | k + 1, .tup ps, h => by rw [peq]; exact peqA_refl k ps (by simpa [okd] using h)
  | 0, .dK _, h => by simp [okd] at h
  | _ + 1, .dK _, h => by simp [okd] at h
  | 0, .dT _, h => by simp [okd] at h
  | _ + 1, .dT _, h => by simp [okd] at h
  | 0, .ins _ _, h => by simp [okd] at h
  | _ + 1, .ins _ _, h => by simp [okd] at h
theorem peqA_refl : ∀ (k : Nat) (ps : List P), (∀ x, x ∈ ps → okd k x = true) → peqA ps ps = true
  | _, [], _ => rfl
  | k, p :: ps, h => by rw [peqA, peq_refl k p (h p List.mem_cons_self), peqA_refl k ps (fun x hx => h x (List.mem_cons_of_mem _ hx))]; rfl
end
/-- one address holds one datum -/
theorem Rp.uniq (I : L2.Inv X pins σ H s) (sf : Same F H) : ∀ (k : Nat) (p q : P) (v : V), okd k p = true → okd k q = true → Rp X.K cl F p v → Rp X.K cl F q v → p = q := by
  intro k
  induction k with
  | zero =>
    intro p q v hp hq r1 r2
    cases p <;> cases q <;> first | (simp [okd] at hp; done) | (simp [okd] at hq; done) | (cases r1; cases r2; rfl) | (cases r1; cases r2)
  | succ k ih =>
    have all : ∀ (ps qs : List P) (vs : List V), ps.all (okd k) = true → qs.all (okd k) = true → RpA X.K cl F ps vs → RpA X.K cl F qs vs → ps = qs := by
      intro ps
      induction ps with
      | nil => intro qs vs _ _ r1 r2; cases r1; cases r2; rfl
      | cons p ps ihp =>
        intro qs vs h1 h2 r1 r2
        cases r1 with
        | cons a b =>
          cases r2 with
          | cons c d =>
            simp only [List.all_cons, Bool.and_eq_true] at h1 h2
            rw [ih _ _ _ h1.1 h2.1 a c, ihp _ _ h1.2 h2.2 b d]
    intro p q v hp hq r1 r2
    have lt : ∀ {a : Addr} {xs ys : List V}, SqL X.K F a xs → SqT X.K F a ys → False := fun {a xs ys} h1 h2 => by
      obtain ⟨its, _, ⟨o, n, e, c, _⟩, _⟩ := I.list (SqL.mono sf h1)
      obtain ⟨its2, _, ⟨o2, e2, c2, _⟩, _⟩ := I.tuple (SqT.mono sf h2)
      rw [e] at e2; cases e2
      rw [c] at c2
      injection c2 with c3
      exact absurd c3 (by decide)
    cases p <;> cases q <;> first | (simp [okd] at hp; done) | (simp [okd] at hq; done) | (cases r1; cases r2; rfl) | (cases r1; cases r2; done) | skip
    · cases r1 with
      | tup q1 t1 =>
        cases r2 with
        | tup q2 t2 =>
          have e := I.tuple_inj (SqT.mono sf q1) (SqT.mono sf q2)
          subst e
          rw [all _ _ _ (by simpa [okd] using hp) (by simpa [okd] using hq) t1 t2]
    · cases r1 with
      | tup q1 t1 => cases r2 with | lst q2 t2 => exact (lt q2 q1).elim
    · cases r1 with
      | lst q1 t1 => cases r2 with | tup q2 t2 => exact (lt q1 q2).elim
    · cases r1 with
      | lst q1 t1 =>
        cases r2 with
        | lst q2 t2 =>
          have e := I.list_inj (SqL.mono sf q1) (SqL.mono sf q2)
          subst e
          rw [all _ _ _ (by simpa [okd] using hp) (by simpa [okd] using hq) t1 t2]
theorem flat_V {K : PySem.W.Frag} : ∀ {p : P} {v : V}, okd 0 p = true → Rp K cl F p v → flatV v = true ∧ ∀ {q : P} {w : V}, okd 0 q = true → Rp K cl F q w → eqV v w = peq p q
  | .non, _, _, .non => ⟨rfl, fun {q w} hq r => by cases q <;> first | (simp [okd] at hq; done) | (cases r; simp [eqV, peq])⟩
  | .bl a, _, _, .bl _ => ⟨rfl, fun {q w} hq r => by cases q <;> first | (simp [okd] at hq; done) | (cases r; simp [eqV, peq])⟩
  | .int i, _, _, .int _ => ⟨rfl, fun {q w} hq r => by cases q <;> first | (simp [okd] at hq; done) | (cases r; simp [eqV, peq])⟩
  | .str x, _, _, .str _ => ⟨rfl, fun {q w} hq r => by cases q <;> first | (simp [okd] at hq; done) | (cases r; simp [eqV, peq])⟩
theorem eqAt_flat (p q : P) (v w : V) (u z : Value) (A : Around) (hp : okd 0 p = true) (hq : okd 0 q = true) (r1 : Rp X.K cl F p v) (e1 : RelV v u) (r2 : Rp X.K cl F q w) (e2 : RelV w z) : SeqAt.EqAt A s u z (peq p q) := by
  obtain ⟨f1, h⟩ := flat_V hp r1
  rw [← h hq r2]
  exact eqAt_V e1 e2 f1 (flat_V hq r2).1
theorem eqAt_P (I : L2.Inv X pins σ H s) (sf : Same F H) : ∀ (k : Nat) (p q : P) (v w : V) (u z : Value) (A : Around), okd k p = true → okd k q = true → Rp X.K cl F p v → RelV v u → Rp X.K cl F q w → RelV w z → A.units + k < cLine → SeqAt.EqAt A s u z (peq p q) := by
  intro k
  induction k with
  | zero =>
    intro p q v w u z A hp hq r1 e1 r2 e2 hu
    exact eqAt_flat p q v w u z A hp hq r1 e1 r2 e2
  | succ k ih =>
    intro p q v w u z A hp hq r1 e1 r2 e2 hu
    have hu0 : A.units < cLine := by omega
    have flat : okd 0 p = true → okd 0 q = true → SeqAt.EqAt A s u z (peq p q) := fun h1 h2 => by
      have up : ∀ x : P, okd 0 x = true → okd k x = true := fun x h => by cases x <;> first | (simp [okd] at h; done) | (cases k <;> rfl)
      exact ih p q v w u z A (up p h1) (up q h2) r1 e1 r2 e2 (by omega)
    cases p with
    | dK _ => simp [okd] at hp
    | dT _ => simp [okd] at hp
    | ins _ _ => simp [okd] at hp
    | lst ps =>
      obtain ⟨a, its, eu, ev, il, hs, hi⟩ := lst_items I sf r1 e1
      subst eu
      cases q with
      | dK _ => simp [okd] at hq
      | dT _ => simp [okd] at hq
      | ins _ _ => simp [okd] at hq
      | non => cases r2; cases e2; exact SeqAt.EqAt.list_none il hu0
      | bl b => cases r2; cases e2; exact SeqAt.EqAt.list_bool b il hu0
      | int i => cases r2; obtain ⟨t, rfl⟩ := e2; exact SeqAt.EqAt.list_int i t il hu0
      | str i => cases r2; obtain ⟨t, rfl⟩ := e2; exact SeqAt.EqAt.list_str i t il hu0
      | tup qs =>
        obtain ⟨b, its2, eu2, ev2, il2, hs2, hi2⟩ := tup_items I sf r2 e2
        subst eu2
        exact SeqAt.EqAt.list_tuple il il2 hu0
      | lst qs =>
        obtain ⟨b, its2, eu2, ev2, il2, hs2, hi2⟩ := lst_items I sf r2 e2
        subst eu2
        by_cases hab : a = b
        · subst hab
          rw [ev] at r1
          rw [ev2] at r2
          rw [Rp.uniq I sf _ _ _ _ hp hq r1 r2, peq_refl _ _ hq]
          exact SeqAt.EqAt.same _
        · rw [peq]
          by_cases hsz : its.size = its2.size
          · rw [peqA_all (by omega : ps.length = qs.length), ← hs]
            refine SeqAt.EqAt.of_refs hab (SeqAt.RcAt.lists il il2 hsz hu0 fun j h1 h2 => ?_)
            obtain ⟨x, w1, hx, rx, ex⟩ := hi j h1
            obtain ⟨y, w2, hy, ry, ey⟩ := hi2 j h2
            rw [pAt_get hx hy]
            exact ih x y w1 w2 _ _ A.in1 (okd_at (by simpa only [okd] using hp) hx) (okd_at (by simpa only [okd] using hq) hy) rx ex ry ey (by show A.units + 1 + k < cLine; omega)
          · rw [peqA_len (by omega : ps.length ≠ qs.length)]
            exact SeqAt.EqAt.of_refs hab (SeqAt.RcAt.lists_lengths il il2 (by simpa using hsz) hu0)
    | tup ps =>
      obtain ⟨a, its, eu, ev, il, hs, hi⟩ := tup_items I sf r1 e1
      subst eu
      cases q with
      | dK _ => simp [okd] at hq
      | dT _ => simp [okd] at hq
      | ins _ _ => simp [okd] at hq
      | non => cases r2; cases e2; exact SeqAt.EqAt.tuple_none il hu0
      | bl b => cases r2; cases e2; exact SeqAt.EqAt.tuple_bool b il hu0
      | int i => cases r2; obtain ⟨t, rfl⟩ := e2; exact SeqAt.EqAt.tuple_int i t il hu0
      | str i => cases r2; obtain ⟨t, rfl⟩ := e2; exact SeqAt.EqAt.tuple_str i t il hu0
      | lst qs =>
        obtain ⟨b, its2, eu2, ev2, il2, hs2, hi2⟩ := lst_items I sf r2 e2
        subst eu2
        exact SeqAt.EqAt.tuple_list il il2 hu0
      | tup qs =>
        obtain ⟨b, its2, eu2, ev2, il2, hs2, hi2⟩ := tup_items I sf r2 e2
        subst eu2
        by_cases hab : a = b
        · subst hab
          rw [ev] at r1
          rw [ev2] at r2
          rw [Rp.uniq I sf _ _ _ _ hp hq r1 r2, peq_refl _ _ hq]
          exact SeqAt.EqAt.same _
        · rw [peq]
          have main := SeqAt.RcAt.tuples (A := A) (s := s) (e := pAt ps qs) il il2 hu0 fun j h1 h2 => by
            obtain ⟨x, w1, hx, rx, ex⟩ := hi j h1
            obtain ⟨y, w2, hy, ry, ey⟩ := hi2 j h2
            rw [pAt_get hx hy]
            exact ih x y w1 w2 _ _ A.in1 (okd_at (by simpa only [okd] using hp) hx) (okd_at (by simpa only [okd] using hq) hy) rx ex ry ey (by show A.units + 1 + k < cLine; omega)
          by_cases hsz : its.size = its2.size
          · rw [peqA_all (by omega : ps.length = qs.length), ← hs]
            rw [hsz, Nat.min_self, beq_self_eq_true, Bool.and_true, ← hsz] at main
            exact SeqAt.EqAt.of_refs hab main
          · rw [peqA_len (by omega : ps.length ≠ qs.length)]
            have : (its.size == its2.size) = false := beq_eq_false_iff_ne.mpr hsz
            rw [this, Bool.and_false] at main
            exact SeqAt.EqAt.of_refs hab main
    | non =>
      cases q with
      | lst qs => obtain ⟨b, its2, eu2, ev2, il2, hs2, hi2⟩ := lst_items I sf r2 e2; subst eu2; cases r1; cases e1; exact SeqAt.EqAt.none_list il2 hu0
      | tup qs => obtain ⟨b, its2, eu2, ev2, il2, hs2, hi2⟩ := tup_items I sf r2 e2; subst eu2; cases r1; cases e1; exact SeqAt.EqAt.none_tuple il2 hu0
      | dK _ => simp [okd] at hq
      | dT _ => simp [okd] at hq
      | ins _ _ => simp [okd] at hq
      | _ => exact flat rfl rfl
    | bl c =>
      cases q with
      | lst qs => obtain ⟨b, its2, eu2, ev2, il2, hs2, hi2⟩ := lst_items I sf r2 e2; subst eu2; cases r1; cases e1; exact SeqAt.EqAt.bool_list c il2 hu0
      | tup qs => obtain ⟨b, its2, eu2, ev2, il2, hs2, hi2⟩ := tup_items I sf r2 e2; subst eu2; cases r1; cases e1; exact SeqAt.EqAt.bool_tuple c il2 hu0
      | dK _ => simp [okd] at hq
      | dT _ => simp [okd] at hq
      | ins _ _ => simp [okd] at hq
      | _ => exact flat rfl rfl
    | int c =>
      cases q with
      | lst qs => obtain ⟨b, its2, eu2, ev2, il2, hs2, hi2⟩ := lst_items I sf r2 e2; subst eu2; cases r1; obtain ⟨t, rfl⟩ := e1; exact SeqAt.EqAt.int_list c t il2 hu0
      | tup qs => obtain ⟨b, its2, eu2, ev2, il2, hs2, hi2⟩ := tup_items I sf r2 e2; subst eu2; cases r1; obtain ⟨t, rfl⟩ := e1; exact SeqAt.EqAt.int_tuple c t il2 hu0
      | dK _ => simp [okd] at hq
      | dT _ => simp [okd] at hq
      | ins _ _ => simp [okd] at hq
      | _ => exact flat rfl rfl
    | str c =>
      cases q with
      | lst qs => obtain ⟨b, its2, eu2, ev2, il2, hs2, hi2⟩ := lst_items I sf r2 e2; subst eu2; cases r1; obtain ⟨t, rfl⟩ := e1; exact SeqAt.EqAt.str_list c t il2 hu0
      | tup qs => obtain ⟨b, its2, eu2, ev2, il2, hs2, hi2⟩ := tup_items I sf r2 e2; subst eu2; cases r1; obtain ⟨t, rfl⟩ := e1; exact SeqAt.EqAt.str_tuple c t il2 hu0
      | dK _ => simp [okd] at hq
      | dT _ => simp [okd] at hq
      | ins _ _ => simp [okd] at hq
      | _ => exact flat rfl rfl
theorem rcAt_P (I : L2.Inv X pins σ H s) (sf : Same F H) (k : Nat) (p q : P) (v w : V) (u z : Value) (A : Around) (hp : okd (k + 1) p = true) (hq : okd (k + 1) q = true) (r1 : Rp X.K cl F p v) (e1 : RelV v u) (r2 : Rp X.K cl F q w) (e2 : RelV w z) (hu : A.units + k + 1 < cLine) : SeqAt.RcAt A s u z (peq p q) := by
  have hu0 : A.units < cLine := by omega
  cases p with
  | non =>
    cases r1; cases e1
    cases q with
    | non =>
      cases r2; cases e2
      exact SeqAt.RcAt.none_none
    | bl c2 =>
      cases r2; cases e2
      exact SeqAt.RcAt.none_bool c2
    | int c2 =>
      cases r2; obtain ⟨t2, rfl⟩ := e2
      exact SeqAt.RcAt.none_int c2 t2
    | str c2 =>
      cases r2; obtain ⟨t2, rfl⟩ := e2
      exact SeqAt.RcAt.none_str c2 t2
    | lst qs =>
      obtain ⟨b, its2, eu2, ev2, il2, hs2, hi2⟩ := lst_items I sf r2 e2
      subst eu2
      exact SeqAt.RcAt.none_list il2 hu0
    | tup qs =>
      obtain ⟨b, its2, eu2, ev2, il2, hs2, hi2⟩ := tup_items I sf r2 e2
      subst eu2
      exact SeqAt.RcAt.none_tuple il2 hu0
    | dK _ => simp [okd] at hq
    | dT _ => simp [okd] at hq
    | ins _ _ => simp [okd] at hq
  | bl c =>
    cases r1; cases e1
    cases q with
    | non =>
      cases r2; cases e2
      exact SeqAt.RcAt.bool_none c
    | bl c2 =>
      cases r2; cases e2
      exact SeqAt.RcAt.bool_bool c c2
    | int c2 =>
      cases r2; obtain ⟨t2, rfl⟩ := e2
      exact SeqAt.RcAt.bool_int c c2 t2
    | str c2 =>
      cases r2; obtain ⟨t2, rfl⟩ := e2
      exact SeqAt.RcAt.bool_str c c2 t2
    | lst qs =>
      obtain ⟨b, its2, eu2, ev2, il2, hs2, hi2⟩ := lst_items I sf r2 e2
      subst eu2
      exact SeqAt.RcAt.bool_list c il2 hu0
    | tup qs =>
      obtain ⟨b, its2, eu2, ev2, il2, hs2, hi2⟩ := tup_items I sf r2 e2
      subst eu2
      exact SeqAt.RcAt.bool_tuple c il2 hu0
    | dK _ => simp [okd] at hq
    | dT _ => simp [okd] at hq
    | ins _ _ => simp [okd] at hq
  | int c =>
    cases r1; obtain ⟨t, rfl⟩ := e1
    cases q with
    | non =>
      cases r2; cases e2
      exact SeqAt.RcAt.int_none c t
    | bl c2 =>
      cases r2; cases e2
      exact SeqAt.RcAt.int_bool c t c2
    | int c2 =>
      cases r2; obtain ⟨t2, rfl⟩ := e2
      exact SeqAt.RcAt.int_int c t c2 t2
    | str c2 =>
      cases r2; obtain ⟨t2, rfl⟩ := e2
      exact SeqAt.RcAt.int_str c t c2 t2
    | lst qs =>
      obtain ⟨b, its2, eu2, ev2, il2, hs2, hi2⟩ := lst_items I sf r2 e2
      subst eu2
      exact SeqAt.RcAt.int_list c t il2 hu0
    | tup qs =>
      obtain ⟨b, its2, eu2, ev2, il2, hs2, hi2⟩ := tup_items I sf r2 e2
      subst eu2
      exact SeqAt.RcAt.int_tuple c t il2 hu0
    | dK _ => simp [okd] at hq
    | dT _ => simp [okd] at hq
    | ins _ _ => simp [okd] at hq
  | str c =>
    cases r1; obtain ⟨t, rfl⟩ := e1
    cases q with
    | non =>
      cases r2; cases e2
      exact SeqAt.RcAt.str_none c t
    | bl c2 =>
      cases r2; cases e2
      exact SeqAt.RcAt.str_bool c t c2
    | int c2 =>
      cases r2; obtain ⟨t2, rfl⟩ := e2
      exact SeqAt.RcAt.str_int c t c2 t2
    | str c2 =>
      cases r2; obtain ⟨t2, rfl⟩ := e2
      exact SeqAt.RcAt.str_str c t c2 t2
    | lst qs =>
      obtain ⟨b, its2, eu2, ev2, il2, hs2, hi2⟩ := lst_items I sf r2 e2
      subst eu2
      exact SeqAt.RcAt.str_list c t il2 hu0
    | tup qs =>
      obtain ⟨b, its2, eu2, ev2, il2, hs2, hi2⟩ := tup_items I sf r2 e2
      subst eu2
      exact SeqAt.RcAt.str_tuple c t il2 hu0
    | dK _ => simp [okd] at hq
    | dT _ => simp [okd] at hq
    | ins _ _ => simp [okd] at hq
  | lst ps =>
    obtain ⟨a, its, eu, ev, il, hs, hi⟩ := lst_items I sf r1 e1
    subst eu
    cases q with
    | non =>
      cases r2; cases e2
      exact SeqAt.RcAt.list_none il hu0
    | bl c2 =>
      cases r2; cases e2
      exact SeqAt.RcAt.list_bool c2 il hu0
    | int c2 =>
      cases r2; obtain ⟨t2, rfl⟩ := e2
      exact SeqAt.RcAt.list_int c2 t2 il hu0
    | str c2 =>
      cases r2; obtain ⟨t2, rfl⟩ := e2
      exact SeqAt.RcAt.list_str c2 t2 il hu0
    | lst qs =>
      obtain ⟨b, its2, eu2, ev2, il2, hs2, hi2⟩ := lst_items I sf r2 e2
      subst eu2
      have he : ∀ j (h1 : j < its.size) (h2 : j < its2.size), SeqAt.EqAt A.in1 s its[j] its2[j] (pAt ps qs j) := fun j h1 h2 => by
        obtain ⟨x, w1, hx, rx, ex⟩ := hi j h1
        obtain ⟨y, w2, hy, ry, ey⟩ := hi2 j h2
        rw [pAt_get hx hy]
        exact eqAt_P I sf k x y w1 w2 _ _ A.in1 (okd_at (by simpa only [okd] using hp) hx) (okd_at (by simpa only [okd] using hq) hy) rx ex ry ey (by show A.units + 1 + k < cLine; omega)
      rw [peq]
      by_cases hsz : its.size = its2.size
      · rw [peqA_all (by omega : ps.length = qs.length), ← hs]
        exact SeqAt.RcAt.lists il il2 hsz hu0 he
      · rw [peqA_len (by omega : ps.length ≠ qs.length)]
        exact SeqAt.RcAt.lists_lengths il il2 (by simpa using hsz) hu0
    | tup qs =>
      obtain ⟨b, its2, eu2, ev2, il2, hs2, hi2⟩ := tup_items I sf r2 e2
      subst eu2
      exact SeqAt.RcAt.list_tuple il il2 hu0
    | dK _ => simp [okd] at hq
    | dT _ => simp [okd] at hq
    | ins _ _ => simp [okd] at hq
  | tup ps =>
    obtain ⟨a, its, eu, ev, il, hs, hi⟩ := tup_items I sf r1 e1
    subst eu
    cases q with
    | non =>
      cases r2; cases e2
      exact SeqAt.RcAt.tuple_none il hu0
    | bl c2 =>
      cases r2; cases e2
      exact SeqAt.RcAt.tuple_bool c2 il hu0
    | int c2 =>
      cases r2; obtain ⟨t2, rfl⟩ := e2
      exact SeqAt.RcAt.tuple_int c2 t2 il hu0
    | str c2 =>
      cases r2; obtain ⟨t2, rfl⟩ := e2
      exact SeqAt.RcAt.tuple_str c2 t2 il hu0
    | lst qs =>
      obtain ⟨b, its2, eu2, ev2, il2, hs2, hi2⟩ := lst_items I sf r2 e2
      subst eu2
      exact SeqAt.RcAt.tuple_list il il2 hu0
    | tup qs =>
      obtain ⟨b, its2, eu2, ev2, il2, hs2, hi2⟩ := tup_items I sf r2 e2
      subst eu2
      have he : ∀ j (h1 : j < its.size) (h2 : j < its2.size), SeqAt.EqAt A.in1 s its[j] its2[j] (pAt ps qs j) := fun j h1 h2 => by
        obtain ⟨x, w1, hx, rx, ex⟩ := hi j h1
        obtain ⟨y, w2, hy, ry, ey⟩ := hi2 j h2
        rw [pAt_get hx hy]
        exact eqAt_P I sf k x y w1 w2 _ _ A.in1 (okd_at (by simpa only [okd] using hp) hx) (okd_at (by simpa only [okd] using hq) hy) rx ex ry ey (by show A.units + 1 + k < cLine; omega)
      rw [peq]
      have main := SeqAt.RcAt.tuples (A := A) (s := s) (e := pAt ps qs) il il2 hu0 he
      by_cases hsz : its.size = its2.size
      · rw [peqA_all (by omega : ps.length = qs.length), ← hs]
        rw [hsz, Nat.min_self, beq_self_eq_true, Bool.and_true, ← hsz] at main
        exact main
      · rw [peqA_len (by omega : ps.length ≠ qs.length)]
        have z : (its.size == its2.size) = false := beq_eq_false_iff_ne.mpr hsz
        rw [z, Bool.and_false] at main
        exact main
    | dK _ => simp [okd] at hq
    | dT _ => simp [okd] at hq
    | ins _ _ => simp [okd] at hq
  | dK _ => simp [okd] at hp
  | dT _ => simp [okd] at hp
  | ins _ _ => simp [okd] at hp
theorem rcNe_P (I : L2.Inv X pins σ H s) (sf : Same F H) (k : Nat) (p q : P) (v w : V) (u z : Value) (A : Around) (hp : okd (k + 1) p = true) (hq : okd (k + 1) q = true) (r1 : Rp X.K cl F p v) (e1 : RelV v u) (r2 : Rp X.K cl F q w) (e2 : RelV w z) (hu : A.units + k + 1 < cLine) : SeqAt.RcNeAt A s u z (!peq p q) := by
  have hu0 : A.units < cLine := by omega
  cases p with
  | non =>
    cases r1; cases e1
    cases q with
    | non =>
      cases r2; cases e2
      exact SeqAt.RcNeAt.none_none
    | bl c2 =>
      cases r2; cases e2
      exact SeqAt.RcNeAt.none_bool c2
    | int c2 =>
      cases r2; obtain ⟨t2, rfl⟩ := e2
      exact SeqAt.RcNeAt.none_int c2 t2
    | str c2 =>
      cases r2; obtain ⟨t2, rfl⟩ := e2
      exact SeqAt.RcNeAt.none_str c2 t2
    | lst qs =>
      obtain ⟨b, its2, eu2, ev2, il2, hs2, hi2⟩ := lst_items I sf r2 e2
      subst eu2
      exact SeqAt.RcNeAt.none_list il2 hu0
    | tup qs =>
      obtain ⟨b, its2, eu2, ev2, il2, hs2, hi2⟩ := tup_items I sf r2 e2
      subst eu2
      exact SeqAt.RcNeAt.none_tuple il2 hu0
    | dK _ => simp [okd] at hq
    | dT _ => simp [okd] at hq
    | ins _ _ => simp [okd] at hq
  | bl c =>
    cases r1; cases e1
    cases q with
    | non =>
      cases r2; cases e2
      exact SeqAt.RcNeAt.bool_none c
    | bl c2 =>
      cases r2; cases e2
      exact SeqAt.RcNeAt.bool_bool c c2
    | int c2 =>
      cases r2; obtain ⟨t2, rfl⟩ := e2
      exact SeqAt.RcNeAt.bool_int c c2 t2
    | str c2 =>
      cases r2; obtain ⟨t2, rfl⟩ := e2
      exact SeqAt.RcNeAt.bool_str c c2 t2
    | lst qs =>
      obtain ⟨b, its2, eu2, ev2, il2, hs2, hi2⟩ := lst_items I sf r2 e2
      subst eu2
      exact SeqAt.RcNeAt.bool_list c il2 hu0
    | tup qs =>
      obtain ⟨b, its2, eu2, ev2, il2, hs2, hi2⟩ := tup_items I sf r2 e2
      subst eu2
      exact SeqAt.RcNeAt.bool_tuple c il2 hu0
    | dK _ => simp [okd] at hq
    | dT _ => simp [okd] at hq
    | ins _ _ => simp [okd] at hq
  | int c =>
    cases r1; obtain ⟨t, rfl⟩ := e1
    cases q with
    | non =>
      cases r2; cases e2
      exact SeqAt.RcNeAt.int_none c t
    | bl c2 =>
      cases r2; cases e2
      exact SeqAt.RcNeAt.int_bool c t c2
    | int c2 =>
      cases r2; obtain ⟨t2, rfl⟩ := e2
      exact SeqAt.RcNeAt.int_int c t c2 t2
    | str c2 =>
      cases r2; obtain ⟨t2, rfl⟩ := e2
      exact SeqAt.RcNeAt.int_str c t c2 t2
    | lst qs =>
      obtain ⟨b, its2, eu2, ev2, il2, hs2, hi2⟩ := lst_items I sf r2 e2
      subst eu2
      exact SeqAt.RcNeAt.int_list c t il2 hu0
    | tup qs =>
      obtain ⟨b, its2, eu2, ev2, il2, hs2, hi2⟩ := tup_items I sf r2 e2
      subst eu2
      exact SeqAt.RcNeAt.int_tuple c t il2 hu0
    | dK _ => simp [okd] at hq
    | dT _ => simp [okd] at hq
    | ins _ _ => simp [okd] at hq
  | str c =>
    cases r1; obtain ⟨t, rfl⟩ := e1
    cases q with
    | non =>
      cases r2; cases e2
      exact SeqAt.RcNeAt.str_none c t
    | bl c2 =>
      cases r2; cases e2
      exact SeqAt.RcNeAt.str_bool c t c2
    | int c2 =>
      cases r2; obtain ⟨t2, rfl⟩ := e2
      exact SeqAt.RcNeAt.str_int c t c2 t2
    | str c2 =>
      cases r2; obtain ⟨t2, rfl⟩ := e2
      exact SeqAt.RcNeAt.str_str c t c2 t2
    | lst qs =>
      obtain ⟨b, its2, eu2, ev2, il2, hs2, hi2⟩ := lst_items I sf r2 e2
      subst eu2
      exact SeqAt.RcNeAt.str_list c t il2 hu0
    | tup qs =>
      obtain ⟨b, its2, eu2, ev2, il2, hs2, hi2⟩ := tup_items I sf r2 e2
      subst eu2
      exact SeqAt.RcNeAt.str_tuple c t il2 hu0
    | dK _ => simp [okd] at hq
    | dT _ => simp [okd] at hq
    | ins _ _ => simp [okd] at hq
  | lst ps =>
    obtain ⟨a, its, eu, ev, il, hs, hi⟩ := lst_items I sf r1 e1
    subst eu
    cases q with
    | non =>
      cases r2; cases e2
      exact SeqAt.RcNeAt.list_none il hu0
    | bl c2 =>
      cases r2; cases e2
      exact SeqAt.RcNeAt.list_bool c2 il hu0
    | int c2 =>
      cases r2; obtain ⟨t2, rfl⟩ := e2
      exact SeqAt.RcNeAt.list_int c2 t2 il hu0
    | str c2 =>
      cases r2; obtain ⟨t2, rfl⟩ := e2
      exact SeqAt.RcNeAt.list_str c2 t2 il hu0
    | lst qs =>
      obtain ⟨b, its2, eu2, ev2, il2, hs2, hi2⟩ := lst_items I sf r2 e2
      subst eu2
      have he : ∀ j (h1 : j < its.size) (h2 : j < its2.size), SeqAt.EqAt A.in1 s its[j] its2[j] (pAt ps qs j) := fun j h1 h2 => by
        obtain ⟨x, w1, hx, rx, ex⟩ := hi j h1
        obtain ⟨y, w2, hy, ry, ey⟩ := hi2 j h2
        rw [pAt_get hx hy]
        exact eqAt_P I sf k x y w1 w2 _ _ A.in1 (okd_at (by simpa only [okd] using hp) hx) (okd_at (by simpa only [okd] using hq) hy) rx ex ry ey (by show A.units + 1 + k < cLine; omega)
      rw [peq]
      by_cases hsz : its.size = its2.size
      · rw [peqA_all (by omega : ps.length = qs.length), ← hs]
        exact SeqAt.RcNeAt.lists il il2 hsz hu0 he
      · rw [peqA_len (by omega : ps.length ≠ qs.length)]
        exact SeqAt.RcNeAt.lists_lengths il il2 (by simpa using hsz) hu0
    | tup qs =>
      obtain ⟨b, its2, eu2, ev2, il2, hs2, hi2⟩ := tup_items I sf r2 e2
      subst eu2
      exact SeqAt.RcNeAt.list_tuple il il2 hu0
    | dK _ => simp [okd] at hq
    | dT _ => simp [okd] at hq
    | ins _ _ => simp [okd] at hq
  | tup ps =>
    obtain ⟨a, its, eu, ev, il, hs, hi⟩ := tup_items I sf r1 e1
    subst eu
    cases q with
    | non =>
      cases r2; cases e2
      exact SeqAt.RcNeAt.tuple_none il hu0
    | bl c2 =>
      cases r2; cases e2
      exact SeqAt.RcNeAt.tuple_bool c2 il hu0
    | int c2 =>
      cases r2; obtain ⟨t2, rfl⟩ := e2
      exact SeqAt.RcNeAt.tuple_int c2 t2 il hu0
    | str c2 =>
      cases r2; obtain ⟨t2, rfl⟩ := e2
      exact SeqAt.RcNeAt.tuple_str c2 t2 il hu0
    | lst qs =>
      obtain ⟨b, its2, eu2, ev2, il2, hs2, hi2⟩ := lst_items I sf r2 e2
      subst eu2
      exact SeqAt.RcNeAt.tuple_list il il2 hu0
    | tup qs =>
      obtain ⟨b, its2, eu2, ev2, il2, hs2, hi2⟩ := tup_items I sf r2 e2
      subst eu2
      have he : ∀ j (h1 : j < its.size) (h2 : j < its2.size), SeqAt.EqAt A.in1 s its[j] its2[j] (pAt ps qs j) := fun j h1 h2 => by
        obtain ⟨x, w1, hx, rx, ex⟩ := hi j h1
        obtain ⟨y, w2, hy, ry, ey⟩ := hi2 j h2
        rw [pAt_get hx hy]
        exact eqAt_P I sf k x y w1 w2 _ _ A.in1 (okd_at (by simpa only [okd] using hp) hx) (okd_at (by simpa only [okd] using hq) hy) rx ex ry ey (by show A.units + 1 + k < cLine; omega)
      rw [peq]
      have main := SeqAt.RcNeAt.tuples (A := A) (s := s) (e := pAt ps qs) il il2 hu0 he
      by_cases hsz : its.size = its2.size
      · rw [peqA_all (by omega : ps.length = qs.length), ← hs]
        rw [hsz, Nat.min_self, beq_self_eq_true, Bool.and_true, ← hsz] at main
        exact main
      · rw [peqA_len (by omega : ps.length ≠ qs.length)]
        have z : (its.size == its2.size) = false := beq_eq_false_iff_ne.mpr hsz
        rw [z, Bool.and_false] at main
        exact main
    | dK _ => simp [okd] at hq
    | dT _ => simp [okd] at hq
    | ins _ _ => simp [okd] at hq
  | dK _ => simp [okd] at hp
  | dT _ => simp [okd] at hp
  | ins _ _ => simp [okd] at hp
/-- what a value is as data, read where it stands -/
abbrev rdP (S : SH) (d : D) : Option P := toP 8 0 S d
@[simp] theorem rdP_p (S : SH) (x : P) : rdP S (.p x) = some x := id rfl
theorem rdP_ok {K : PySem.W.Frag} {S : SH} {B : List Nat} {F : Hp} {φ : Nat → Addr} {H : Hp} {d : D} {x : P} {v : V} (s : Sim K cl S B F φ H) (e : rdP S d = some x) (r : DR K cl F φ d v) : ∃ F', Same F F' ∧ Same F' H ∧ Rp K cl F' x v :=
  ⟨_, addF_le s 0, addF_heap s 0, toP_ok s 0 8 d x v e r⟩
/-- two at once -/
theorem rdP_ok2 {K : PySem.W.Frag} {S : SH} {B : List Nat} {F : Hp} {φ : Nat → Addr} {H : Hp} {d e : D} {x y : P} {v w : V} (s : Sim K cl S B F φ H) (e1 : rdP S d = some x) (e2 : rdP S e = some y) (r1 : DR K cl F φ d v) (r2 : DR K cl F φ e w) : ∃ F', Same F' H ∧ Rp K cl F' x v ∧ Rp K cl F' y w :=
  ⟨_, addF_heap s 0, toP_ok s 0 8 d x v e1 r1, toP_ok s 0 8 e y w e2 r2⟩
def fEq (neg : Bool) (d e : D) (S : SH) : Option (D × SH) := match rdP S d, rdP S e with
  | some x, some y => if okd 40 x = true ∧ okd 40 y = true then some (.p (.bl (if neg = true then !peq x y else peq x y)), S) else none
  | _, _ => none
def rEqP (K : PySem.W.Frag) (cl : Nat → Addr) (neg : Bool) : R2 := fun v w H Q => ∃ F x y, Same F H ∧ Rp K cl F x v ∧ Rp K cl F y w ∧ okd 40 x = true ∧ okd 40 y = true ∧ Q (.bl (if neg = true then !peq x y else peq x y)) H
theorem o_eq (hu : X.A.units + 64 < cLine) : OpR X (compareOp .Eq) (rEqP X.K cl false) := by
  intro pins s σ H x y v u Q I rx ry h
  obtain ⟨F, p, q, sf, r1, r2, h1, h2, k⟩ := h
  exact rcAt_P I sf 39 p q x y v u X.A h1 h2 r1 rx r2 ry (by omega) X.prog X.w X.xe _ ⟨.bl _, H, I, rfl, k⟩
theorem o_ne (hu : X.A.units + 64 < cLine) : OpR X (compareOp .NotEq) (rEqP X.K cl true) := by
  intro pins s σ H x y v u Q I rx ry h
  obtain ⟨F, p, q, sf, r1, r2, h1, h2, k⟩ := h
  exact rcNe_P I sf 39 p q x y v u X.A h1 h2 r1 rx r2 ry (by omega) X.prog X.w X.xe _ ⟨.bl _, H, I, rfl, k⟩
theorem d_eq {K : PySem.W.Frag} {neg : Bool} : OpD K cl (fEq neg) (rEqP K cl neg) := by
  intro S B F φ H d1 d2 x y Q s r1 r2 l1 l2 o
  unfold fEq at o
  cases e1 : rdP S d1 with
  | none => rw [e1] at o; obtain ⟨_, _, z, _⟩ := o; cases z
  | some p =>
    cases e2 : rdP S d2 with
    | none => rw [e1, e2] at o; obtain ⟨_, _, z, _⟩ := o; cases z
    | some q =>
      rw [e1, e2] at o
      dsimp only at o
      by_cases h : okd 40 p = true ∧ okd 40 q = true
      · rw [if_pos h] at o
        obtain ⟨F', sf, ra, rb⟩ := rdP_ok2 s e1 e2 r1 r2
        exact ⟨F', p, q, sf, ra, rb, h.1, h.2, o.fin0 rfl s (Rp.bl _) trivial⟩
      · rw [if_neg h] at o; obtain ⟨_, _, z, _⟩ := o; cases z
/-! ### in -/
def fIn (neg : Bool) (d e : D) (S : SH) : Option (D × SH) := match rdP S d, rdP S e with
  | some x, some (.lst ys) => if okd 40 x = true ∧ ys.all (okd 40) = true then some (.p (.bl (if neg = true then !ys.any (fun y => peq y x) else ys.any fun y => peq y x)), S) else none
  | some x, some (.tup ys) => if okd 40 x = true ∧ ys.all (okd 40) = true then some (.p (.bl (if neg = true then !ys.any (fun y => peq y x) else ys.any fun y => peq y x)), S) else none
  | _, _ => none
def rInP (K : PySem.W.Frag) (cl : Nat → Addr) (neg : Bool) : R2 := fun v w H Q => ∃ F x ys, Same F H ∧ Rp K cl F x v ∧ (Rp K cl F (.lst ys) w ∨ Rp K cl F (.tup ys) w) ∧ okd 40 x = true ∧ ys.all (okd 40) = true ∧ Q (.bl (if neg = true then !ys.any (fun y => peq y x) else ys.any fun y => peq y x)) H
theorem in_core {neg : Bool} {op : CmpOp} (hu : X.A.units + 65 < cLine)
    (hl : ∀ (s : Shared) (l : Addr) (items : Array Value) (x : Value) (e : Value → Bool) (Q : Value → Shared → Prop), s.heap.IsList l items → (∀ y, y ∈ items → SeqAt.EqAt X.A.in1 s y x (e y)) → Q (.bool (if neg = true then !items.any e else items.any e)) s → wpAny (model X.prog X.w) X.A (compareOp op x (.ref l)) Q X.xe s)
    (ht : ∀ (s : Shared) (l : Addr) (items : Array Value) (x : Value) (e : Value → Bool) (Q : Value → Shared → Prop), s.heap.IsTuple l items → (∀ y, y ∈ items → SeqAt.EqAt X.A.in1 s y x (e y)) → Q (.bool (if neg = true then !items.any e else items.any e)) s → wpAny (model X.prog X.w) X.A (compareOp op x (.ref l)) Q X.xe s) : OpR X (compareOp op) (rInP X.K cl neg) := by
  intro pins s σ H x y v u Q I rx ry h
  obtain ⟨F, p, ys, sf, r1, r2, h1, h2, k⟩ := h
  -- the items' answers, by the value
  classical
  have go : ∀ (its : Array Value), its.size = ys.length → (∀ j (hj : j < its.size), ∃ q w, ys[j]? = some q ∧ Rp X.K cl F q w ∧ RelV w its[j]) →
      ∃ e : Value → Bool, (∀ z, z ∈ its → SeqAt.EqAt X.A.in1 s z v (e z)) ∧ its.any e = ys.any fun q => peq q p := fun its hs hi => by
    have key : ∀ z, z ∈ its → ∃ b, (∀ j (hj : j < its.size), its[j] = z → ∀ q, ys[j]? = some q → peq q p = b) ∧ SeqAt.EqAt X.A.in1 s z v b := fun z hz => by
      obtain ⟨j, hj, ej⟩ := Array.mem_iff_getElem.mp hz
      obtain ⟨q, w, hq, rq, rw'⟩ := hi j hj
      refine ⟨peq q p, fun j2 hj2 e2 q2 hq2 => ?_, ?_⟩
      · obtain ⟨q', w', hq', rq', rw''⟩ := hi j2 hj2
        rw [hq'] at hq2; cases hq2
        rw [e2] at rw''
        rw [ej] at rw'
        have : w' = w := rw''.inj rw'
        subst this
        rw [Rp.uniq I sf 40 _ _ _ (okd_at h2 hq') (okd_at h2 hq) rq' rq]
      · rw [← ej]
        exact eqAt_P I sf 40 q p w x _ _ X.A.in1 (okd_at h2 hq) h1 rq rw' r1 rx (by show X.A.units + 1 + 40 < cLine; omega)
    refine ⟨fun z => if hz : z ∈ its then (key z hz).choose else false, fun z hz => ?_, ?_⟩
    · show SeqAt.EqAt X.A.in1 s z v (if hz : z ∈ its then (key z hz).choose else false)
      rw [dif_pos hz]; exact (key z hz).choose_spec.2
    · rw [Bool.eq_iff_iff]
      simp only [Array.any_eq_true, List.any_eq_true]
      constructor
      · rintro ⟨j, hj, e⟩
        obtain ⟨q, w, hq, _, _⟩ := hi j hj
        have hm : its[j] ∈ its := Array.getElem_mem hj
        rw [dif_pos hm] at e
        exact ⟨q, List.mem_of_getElem? hq, ((key _ hm).choose_spec.1 j hj rfl q hq).trans e⟩
      · rintro ⟨q, hq, e⟩
        obtain ⟨j, hj⟩ := List.getElem?_of_mem hq
        have hjl : j < its.size := by rw [hs]; exact (List.getElem?_eq_some_iff.mp hj).1
        have hm : its[j] ∈ its := Array.getElem_mem hjl
        refine ⟨j, hjl, ?_⟩
        rw [dif_pos hm]
        exact ((key _ hm).choose_spec.1 j hjl rfl q hj).symm.trans e
  rcases r2 with r2 | r2
  · obtain ⟨a, its, eu, ev, il, hs, hi⟩ := lst_items I sf r2 ry
    subst eu
    obtain ⟨e, he, hany⟩ := go its hs hi
    exact hl s a its v e _ il he ⟨.bl (if neg = true then !its.any e else its.any e), H, I, rfl, by rw [hany]; exact k⟩
  · obtain ⟨a, its, eu, ev, il, hs, hi⟩ := tup_items I sf r2 ry
    subst eu
    obtain ⟨e, he, hany⟩ := go its hs hi
    exact ht s a its v e _ il he ⟨.bl (if neg = true then !its.any e else its.any e), H, I, rfl, by rw [hany]; exact k⟩
theorem o_in (hu : X.A.units + 65 < cLine) : OpR X (compareOp .In) (rInP X.K cl false) :=
  in_core hu (fun s l items x e Q h he q => SeqAt.in_listAt e h he (by simpa using q)) (fun s l items x e Q h he q => SeqAt.in_tupleAt e h he (by simpa using q))
theorem o_notin (hu : X.A.units + 65 < cLine) : OpR X (compareOp .NotIn) (rInP X.K cl true) :=
  in_core hu (fun s l items x e Q h he q => SeqAt.notIn_listAt e h he (by simpa using q)) (fun s l items x e Q h he q => SeqAt.notIn_tupleAt e h he (by simpa using q))
theorem d_in {K : PySem.W.Frag} {neg : Bool} : OpD K cl (fIn neg) (rInP K cl neg) := by
  intro S B F φ H d1 d2 x y Q s r1 r2 l1 l2 o
  unfold fIn at o
  split at o
  · rename_i p ys e1 e2
    split at o
    · rename_i h
      obtain ⟨F', sf, ra, rb⟩ := rdP_ok2 s e1 e2 r1 r2
      exact ⟨F', p, ys, sf, ra, .inl rb, h.1, h.2, o.fin0 rfl s (Rp.bl _) trivial⟩
    · obtain ⟨_, _, z, _⟩ := o; cases z
  · rename_i p ys e1 e2
    split at o
    · rename_i h
      obtain ⟨F', sf, ra, rb⟩ := rdP_ok2 s e1 e2 r1 r2
      exact ⟨F', p, ys, sf, ra, .inr rb, h.1, h.2, o.fin0 rfl s (Rp.bl _) trivial⟩
    · obtain ⟨_, _, z, _⟩ := o; cases z
  · obtain ⟨_, _, z, _⟩ := o; cases z
end
end Pv
namespace Pv
open PySem PySem.Spec PyProof.Rows L2
section
variable {X : Cx} {K : PySem.W.Frag} {cl : Nat → Addr}
theorem OkE.no {S : SH} {B : List Nat} {F : Hp} {φ : Nat → Addr} {H : Hp} {Q : VK} {p : Prop} (h : OkE K cl S B F φ H none Q) : p := by obtain ⟨_, _, z, _⟩ := h; cases z
theorem drI {F : Hp} {φ : Nat → Addr} {i : Int} {x : V} (h : DR K cl F φ (.p (.int i)) x) : x = .int i := by cases (show Rp K cl F (.int i) x from h); rfl
theorem drS {F : Hp} {φ : Nat → Addr} {i : Str} {x : V} (h : DR K cl F φ (.p (.str i)) x) : x = .str i := by cases (show Rp K cl F (.str i) x from h); rfl
theorem drB {F : Hp} {φ : Nat → Addr} {i : Bool} {x : V} (h : DR K cl F φ (.p (.bl i)) x) : x = .bl i := by cases (show Rp K cl F (.bl i) x from h); rfl
theorem drN {F : Hp} {φ : Nat → Addr} {x : V} (h : DR K cl F φ (.p .non) x) : x = .non := by cases (show Rp K cl F .non x from h); rfl

/-! ### ints -/
/-- two ints under a test, a datum out -/
def fII (c : Int → Int → Bool) (g : Int → Int → P) (d e : D) (S : SH) : Option (D × SH) := match d, e with
  | .p (.int i), .p (.int j) => if c i j = true then some (.p (g i j), S) else none
  | _, _ => none
@[simp] theorem fII_eq (c : Int → Int → Bool) (g : Int → Int → P) (i j : Int) (S : SH) : fII c g (.p (.int i)) (.p (.int j)) S = if c i j = true then some (.p (g i j), S) else none := id rfl
theorem d_II {c : Int → Int → Bool} {C : Int → Int → Prop} {g : Int → Int → P} {g' : Int → Int → V} (hc : ∀ i j, c i j = true → C i j) (hg : ∀ F i j, Rp K cl F (g i j) (g' i j)) : OpD K cl (fII c g) (rI C g') := by
  intro S B F φ H d1 d2 x y Q s r1 r2 l1 l2 o
  unfold fII at o
  split at o
  · rename_i i j
    split at o
    · rename_i h
      exact ⟨i, j, drI r1, drI r2, hc i j h, o.fin0 rfl s (hg F i j) trivial⟩
    · exact o.no
  · exact o.no
theorem d_II0 {g : Int → Int → P} {g' : Int → Int → V} (hg : ∀ F i j, Rp K cl F (g i j) (g' i j)) : OpD K cl (fII (fun _ _ => true) g) (rI0 g') := by
  intro S B F φ H d1 d2 x y Q s r1 r2 l1 l2 o
  obtain ⟨i, j, h1, h2, _, q⟩ := d_II (C := fun _ _ => True) (fun _ _ _ => trivial) hg S B F φ H d1 d2 x y Q s r1 r2 l1 l2 o
  exact ⟨i, j, h1, h2, q⟩
abbrev fSub := fII (fun _ _ => true) fun i j => .int (i - j)
def mulOk (i j : Int) : Bool := decide (i.natAbs < 2 ^ 64) || decide (j.natAbs < 2 ^ 64) || decide (i.natAbs.log2 + j.natAbs.log2 < 1000000)
abbrev fMul := fII mulOk fun i j => .int (i * j)
def divOk (i j : Int) : Bool := decide (0 < j) && decide (j.natAbs.log2 < 9000)
abbrev fDiv := fII divOk fun i j => .int (i / j)
abbrev fMod := fII (fun _ j => decide (0 < j)) fun i j => .int (i % j)
def powOk (i j : Int) : Bool := decide (0 ≤ j) && decide (j ≤ 1000000) && decide (i.natAbs < 2 ^ 64)
abbrev fPow := fII powOk fun i j => .int (i ^ j.toNat)
abbrev fLt := fII (fun _ _ => true) fun i j => .bl (decide (i < j))
abbrev fLe := fII (fun _ _ => true) fun i j => .bl (decide (i ≤ j))
abbrev fGt := fII (fun _ _ => true) fun i j => .bl (decide (j < i))
abbrev fGe := fII (fun _ _ => true) fun i j => .bl (decide (j ≤ i))
theorem d_sub : OpD K cl fSub (rI0 fun i j => .int (i - j)) := d_II0 fun _ _ _ => .int _
theorem op_mulG : OpR X (binaryOp .Mult) (rI (fun i j => CMul i j ∨ CMulW i j) fun i j => .int (i * j)) := opI fun i j _ _ _ _ _ hc q => mul_int q (hc.elim (fun h => h.ok) fun h => h.ok)
theorem mulOk_c {i j : Int} (h : mulOk i j = true) : CMul i j ∨ CMulW i j := by
  unfold mulOk at h
  simp only [Bool.or_eq_true, decide_eq_true_eq] at h
  rcases h with (h | h) | h
  · exact .inl (.inl ⟨by omega, by omega⟩)
  · exact .inl (.inr ⟨by omega, by omega⟩)
  · exact .inr h
theorem d_mul : OpD K cl fMul (rI (fun i j => CMul i j ∨ CMulW i j) fun i j => .int (i * j)) := d_II (fun _ _ h => mulOk_c h) fun _ _ _ => .int _
theorem d_div : OpD K cl fDiv (rI CDivW fun i j => .int (i / j)) := d_II (fun _ _ h => by
  unfold divOk at h; simp only [Bool.and_eq_true, decide_eq_true_eq] at h; exact h) fun _ _ _ => .int _
theorem d_mod : OpD K cl fMod (rI (fun _ j => 0 < j) fun i j => .int (i % j)) := d_II (fun _ _ h => of_decide_eq_true h) fun _ _ _ => .int _
theorem d_pow : OpD K cl fPow (rI CPow fun i j => .int (i ^ j.toNat)) := d_II (fun _ _ h => by
  unfold powOk at h; simp only [Bool.and_eq_true, decide_eq_true_eq] at h; exact ⟨h.1.1, h.1.2, h.2⟩) fun _ _ _ => .int _
theorem d_lt : OpD K cl fLt (rI0 fun i j => .bl (decide (i < j))) := d_II0 fun _ _ _ => .bl _
theorem d_le : OpD K cl fLe (rI0 fun i j => .bl (decide (i ≤ j))) := d_II0 fun _ _ _ => .bl _
theorem d_gt : OpD K cl fGt (rI0 fun i j => .bl (decide (j < i))) := d_II0 fun _ _ _ => .bl _
theorem d_ge : OpD K cl fGe (rI0 fun i j => .bl (decide (j ≤ i))) := d_II0 fun _ _ _ => .bl _
def fNeg (d : D) (S : SH) : Option (D × SH) := match d with | .p (.int i) => some (.p (.int (-i)), S) | _ => none
theorem d_neg : UnD K cl fNeg (rU fun i => .int (-i)) := by
  intro S B F φ H d x Q s r l o
  unfold fNeg at o
  split at o
  · exact ⟨_, drI r, o.fin0 rfl s (Rp.int _) trivial⟩
  · exact o.no

/-! ### + -/
def fAdd (live : Bool) (d e : D) (S : SH) : Option (D × SH) := match d, e with
  | .p (.int i), .p (.int j) => some (.p (.int (i + j)), S)
  | .p (.str a), .p (.str b) => if a.length + b.length ≤ sizeLine then some (.p (.str (a ++ b)), S) else none
  | .p (.tup a), .p (.tup b) => if a.length + b.length ≤ sizeLine then some (.p (.tup (a ++ b)), S) else none
  | d, e => match asL d S, asL e S with
    | some a, some b => newL live (a ++ b) S
    | _, _ => none
def rCatL (K : PySem.W.Frag) : R2 := fun x y H Q => ∃ l b xs zs, x = .ref l ∧ y = .ref b ∧ SqL K H l xs ∧ SqL K H b zs ∧ xs.length + zs.length ≤ sizeLine ∧ ∀ p, H p = none → Q (.ref p) (upd H p (.lst (xs ++ zs)))
open PySem.AutoSeq1 (wpAny_loadPart') in
open PySem.MeetsSeq PySem.MeetsSeq2 PySem.MeetsSeq3 in
theorem list_add_any (l : Addr) (items : Array Value) (n : Nat) (b : Addr) (items2 : Array Value) (n2 : Nat) (dd dd2 : Option Addr) (sl sl2 : Array (Option Value)) (hz : items.size + items2.size ≤ sizeLine) :
    Meets (Builtin.«list.__add__» ⟨[.ref l, .ref b], []⟩) (fun _ R s => s.heap.get? l = some { cls := .type "list", dict := dd, data := .seq items n, slots := sl } ∧ s.heap.get? b = some { cls := .type "list", dict := dd2, data := .seq items2 n2, slots := sl2 } ∧
      R (.ok (.ret (Value.ref s.heap.objs.size))) { s with heap := s.heap.push { cls := Value.type "list", data := Data.seq (items ++ items2) }, toks := s.toks }) :=
  .of_wp fun prog w A R s h => by
    obtain ⟨hp, g, d, tk, os⟩ := s
    obtain ⟨hl, hb, h⟩ := h
    have f1 := AutoSeq1.sub_list_list
    have f2 := AutoSeq1.sub_tuple_list
    wp_walk using wpAny_loadPart' hl, wpAny_loadPart' hb
    exact ⟨_, rfl, h⟩
theorem op_catL : OpR X (binaryOp .Add) (rCatL X.K) := by
  intro pins s σ H x y v u Q I rx ry h
  obtain ⟨l, b, xs, zs, rfl, rfl, hH, hB, hz, q⟩ := h
  cases rx
  cases ry
  obtain ⟨its, r, ⟨o1, n1, e1, c1, d1, t1⟩, _⟩ := I.list hH
  obtain ⟨its2, r2, ⟨o2, n2, e2, c2, d2, t2⟩, _⟩ := I.list hB
  have hl := r.length
  have hl2 := r2.length
  obtain ⟨_, dd1, _, sl1⟩ := o1
  obtain ⟨_, dd2, _, sl2⟩ := o2
  simp only at c1 d1 t1 c2 d2 t2
  subst c1 d1 t1 c2 d2 t2
  refine PySem.concat_meets ⟨_, e1, rfl⟩ ⟨_, e2, rfl⟩ PySem.noFill_list_add PySem.seq_list_add F.slot_list_add F.entry_list_add (F.args_list_add_2 _ _) (list_add_any l its.toArray n1 b its2.toArray n2 _ _ _ _ (by rw [List.size_toArray, List.size_toArray]; omega)) ⟨e1, e2, ?_⟩
  have ea : its.toArray ++ its2.toArray = (its ++ its2).toArray := by simp
  rw [ea]
  exact ⟨.ref _, _, I.lnew (t' := s.toks) (r.append r2) (by rw [List.length_append]; omega), rfl, q _ I.fresh⟩
def rAddG (K : PySem.W.Frag) : R2 := fun x y H Q => rI0 (fun i j => .int (i + j)) x y H Q ∨ (∃ i j, x = .str i ∧ y = .str j ∧ i.length + j.length ≤ sizeLine ∧ Q (.str (i ++ j)) H) ∨ rCatA K x y H Q ∨ rCatL K x y H Q
theorem o_add : OpR X (binaryOp .Add) (rAddG X.K) := op_add.or (op_add_str.or (op_catA.or op_catL))
theorem d_add {live : Bool} : OpD K cl (fAdd live) (rAddG K) := by
  intro S B F φ H d1 d2 x y Q s r1 r2 l1 l2 o
  unfold fAdd at o
  split at o
  · exact .inl ⟨_, _, drI r1, drI r2, o.fin0 rfl s (Rp.int _) trivial⟩
  · split at o
    · rename_i h
      exact .inr (.inl ⟨_, _, drS r1, drS r2, h, o.fin0 rfl s (Rp.str _) trivial⟩)
    · exact o.no
  · rename_i a b
    split at o
    · rename_i h
      cases (show Rp K cl F (.tup a) x from r1) with
      | @tup p _ vs q1 t1 =>
        cases (show Rp K cl F (.tup b) y from r2) with
        | @tup p2 _ us q2 t2 =>
          have e1 := t1.len
          have e2 := t2.len
          have al : ∀ {ps qs : List P} {vs us : List V} {F : Hp}, RpA K cl F ps vs → RpA K cl F qs us → RpA K cl F (ps ++ qs) (vs ++ us) := by
            intro ps
            induction ps with
            | nil => intro qs vs us F a b; cases a; exact b
            | cons p ps ih => intro qs vs us F a b; cases a with | cons a a2 => exact .cons a (ih a2 b)
          refine .inr (.inr (.inl ⟨p, p2, vs, us, rfl, rfl, SqT.mono s.le q1, SqT.mono s.le q2, by omega, fun h1 => ?_, fun h1 h2 => ?_, fun h1 h2 r hr => ?_⟩))
          · subst h1
            cases t1
            exact o.fin0 rfl s (Rp.tup q2 t2) trivial
          · subst h2
            cases t2
            rw [List.append_nil] at o
            exact o.fin0 rfl s (Rp.tup q1 t1) trivial
          · obtain ⟨s1, x1⟩ := s.frz (H' := upd H r (.tup (vs ++ us))) (Same.new (Same.refl H) hr) hr upd_same
            exact o.fin rfl s1 x1 (Rp.tup (.inl (.inl upd_same)) (RpA.mono x1.fz (al t1 t2))) trivial
    · exact o.no
  · split at o
    · rename_i a b e1 e2
      obtain ⟨p, vs, rfl, q1, t1, m1⟩ := asL_ok s e1 r1 l1
      obtain ⟨p2, us, rfl, q2, t2, m2⟩ := asL_ok s e2 r2 l2
      obtain ⟨hz, k⟩ := newL_ok1 o s (DRA.append t1 t2) fun z hz => (List.mem_append.mp hz).elim (m1 z) (m2 z)
      exact .inr (.inr (.inr ⟨p, p2, vs, us, rfl, rfl, q1, q2, by rw [List.length_append] at hz; exact hz, k⟩))
    · exact o.no

/-! ### is -/
def isNon : D → Bool
  | .p .non => true
  | _ => false
def isBl (b : Bool) : D → Bool
  | .p (.bl c) => c == b
  | _ => false
def fIs (neg : Bool) (d e : D) (S : SH) : Option (D × SH) := match e with
  | .p .non => some (.p (.bl (if neg = true then !isNon d else isNon d)), S)
  | .p (.bl b) => some (.p (.bl (if neg = true then !isBl b d else isBl b d)), S)
  | _ => none
theorem RelV.bl_iff {x : V} {v : Value} (b : Bool) (r : RelV x v) : (v == Value.bool b) = decide (x = .bl b) := by
  cases x <;> first
    | (obtain ⟨t, rfl⟩ := r; rfl)
    | (cases r; rfl)
    | skip
  cases r
  rename_i c
  cases b <;> cases c <;> rfl
theorem plain_bool {x : V} {v : Value} (b : Bool) (r : RelV x v) : plainIs v (.bool b) = true := by
  cases x <;> first
    | (obtain ⟨t, rfl⟩ := r; rfl)
    | (cases r; rfl)
def rIsG (neg : Bool) : R2 := fun x y H Q => (y = .non ∧ Q (.bl (if neg = true then !decide (x = .non) else decide (x = .non))) H) ∨ ∃ b, y = .bl b ∧ Q (.bl (if neg = true then !decide (x = .bl b) else decide (x = .bl b))) H
theorem o_is : OpR X (compareOp .Is) (rIsG false) := by
  intro pins s σ H x y v u Q I rx ry h
  rcases h with ⟨rfl, q⟩ | ⟨b, rfl, q⟩
  · exact op_isN pins s σ H x .non v u Q I rx ry ⟨rfl, q⟩
  · cases (show u = Value.bool b from ry)
    exact wpAny_is_plain (plain_bool b rx) (fin_bl I (by rw [if_neg Bool.false_ne_true] at q; exact q) (RelV.bl_iff b rx).symm)
theorem o_isnot : OpR X (compareOp .IsNot) (rIsG true) := by
  intro pins s σ H x y v u Q I rx ry h
  rcases h with ⟨rfl, q⟩ | ⟨b, rfl, q⟩
  · exact op_notN pins s σ H x .non v u Q I rx ry ⟨rfl, q⟩
  · cases (show u = Value.bool b from ry)
    exact wpAny_isNot_plain (plain_bool b rx) (fin_bl I (by rw [if_pos rfl] at q; exact q) (by rw [RelV.bl_iff b rx]))
theorem isNon_ok {F : Hp} {φ : Nat → Addr} {d : D} {x : V} (r : DR K cl F φ d x) : isNon d = decide (x = .non) := by
  cases d with
  | ref n => cases (show x = .ref (φ n) from r); rfl
  | p y =>
    have r : Rp K cl F y x := r
    cases r <;> rfl
theorem isBl_ok {F : Hp} {φ : Nat → Addr} {d : D} {x : V} (b : Bool) (r : DR K cl F φ d x) : isBl b d = decide (x = .bl b) := by
  cases d with
  | ref n => cases (show x = .ref (φ n) from r); rfl
  | p y =>
    have r : Rp K cl F y x := r
    cases r <;> first | rfl | (rename_i c; cases b <;> cases c <;> rfl)
theorem d_is {neg : Bool} : OpD K cl (fIs neg) (rIsG neg) := by
  intro S B F φ H d1 d2 x y Q s r1 r2 l1 l2 o
  unfold fIs at o
  split at o
  · refine .inl ⟨drN r2, ?_⟩
    rw [← isNon_ok r1]
    exact o.fin0 rfl s (Rp.bl _) trivial
  · rename_i b
    refine .inr ⟨b, drB r2, ?_⟩
    rw [← isBl_ok b r1]
    exact o.fin0 rfl s (Rp.bl _) trivial
  · exact o.no

/-! ### built-in functions -/
theorem k_callB {x : Str} {p pos : Pos} {e : Expr} {es : List Expr} {m : MA} {id : String} {f : MF} {r : List V → Hp → VK → Prop} (hd : CallD X.K cl f r) (hc : CallR X (.builtin id) r) (hg : Gl X x) (hm : X.mg x = none) (hv : bootBuiltins x = some (.builtin id)) (ha : PA X (e :: es) (LA X.K cl m)) (hn : x ≠ "__name__" := by decide) (hdb : (x == ("__debug__" : Str)) = false := by decide)
    (he : starEach (e :: es) X.env = (false, eval e X.env) :: starEach es X.env := by rfl) (hpl : (backTo pos (starEach es X.env)).any (·.1) = false := by rfl) : PE X (.Call (.Name x p) (e :: es) [] pos) (LE X.K cl (dCall f m)) :=
  (pe_callB hc hg hm hv ha hn hdb he hpl).imp fun _ _ _ q => e_call hd q
theorem k_callT {x : Str} {p pos : Pos} {e : Expr} {es : List Expr} {m : MA} {T : String} {f : MF} {r : List V → Hp → VK → Prop} (hd : CallD X.K cl f r) (hc : CallR X (.type T) r) (hg : Gl X x) (hm : X.mg x = none) (hv : bootBuiltins x = some (.type T)) (ha : PA X (e :: es) (LA X.K cl m)) (hn : x ≠ "__name__" := by decide) (hdb : (x == ("__debug__" : Str)) = false := by decide)
    (he : starEach (e :: es) X.env = (false, eval e X.env) :: starEach es X.env := by rfl) (hpl : (backTo pos (starEach es X.env)).any (·.1) = false := by rfl) : PE X (.Call (.Name x p) (e :: es) [] pos) (LE X.K cl (dCall f m)) :=
  (pe_callTy hc hg hm hv ha hn hdb he hpl).imp fun _ _ _ q => e_call hd q
theorem dra1 {F : Hp} {φ : Nat → Addr} {d : D} {xs : List V} (r : DRA K cl F φ [d] xs) : ∃ x, xs = [x] ∧ DR K cl F φ d x := by
  cases r with | cons a b => cases b; exact ⟨_, rfl, a⟩
theorem dra2 {F : Hp} {φ : Nat → Addr} {d e : D} {xs : List V} (r : DRA K cl F φ [d, e] xs) : ∃ x y, xs = [x, y] ∧ DR K cl F φ d x ∧ DR K cl F φ e y := by
  cases r with | cons a b => cases b with | cons b c => cases c; exact ⟨_, _, rfl, a, b⟩
def fLen : MF := fun ds S => match ds with
  | [.p (.str z)] => if z.length ≤ sizeLine then some (.p (.int z.length), S) else none
  | [d] => match asQ d S with | some xs => some (.p (.int xs.length), S) | none => none
  | _ => none
def rLenG (K : PySem.W.Frag) : List V → Hp → VK → Prop := fun xs H Q => (∃ z, xs = [.str z] ∧ z.length ≤ sizeLine ∧ Q (.int z.length) H) ∨ ∃ p ys, xs = [.ref p] ∧ (SqL K H p ys ∨ SqT K H p ys) ∧ Q (.int ys.length) H
theorem c_len : CallR X (.builtin "len") (rLenG X.K) := call_len_str.or call_len_seq
theorem d_len : CallD K cl fLen (rLenG K) := by
  intro S B F φ H ds xs Q s r l o
  unfold fLen at o
  split at o
  · split at o
    · rename_i z h
      obtain ⟨x, rfl, rx⟩ := dra1 r
      exact .inl ⟨z, by rw [drS rx], h, o.fin0 rfl s (Rp.int _) trivial⟩
    · exact o.no
  · split at o
    · rename_i d hd ys e
      obtain ⟨x, rfl, rx⟩ := dra1 r
      obtain ⟨a, vs, rfl, q, t, _⟩ := asQ_ok s e rx (l _ List.mem_cons_self)
      exact .inr ⟨a, vs, rfl, q, by rw [← t.length]; exact o.fin0 rfl s (Rp.int _) trivial⟩
    · exact o.no
  · exact o.no
def fList (live : Bool) : MF := fun ds S => match ds with
  | [d] => match asQ d S with | some xs => newL live xs S | none => none
  | _ => none
def rListG (K : PySem.W.Frag) : List V → Hp → VK → Prop := fun xs H Q => ∃ p ys, xs = [.ref p] ∧ (SqL K H p ys ∨ SqT K H p ys) ∧ ∀ l, H l = none → Q (.ref l) (upd H l (.lst ys))
theorem c_list : CallR X (.type "list") (rListG X.K) := call_list_of
theorem d_list {live : Bool} : CallD K cl (fList live) (rListG K) := by
  intro S B F φ H ds xs Q s r l o
  unfold fList at o
  split at o
  · split at o
    · rename_i d ys e
      obtain ⟨x, rfl, rx⟩ := dra1 r
      obtain ⟨a, vs, rfl, q, t, m⟩ := asQ_ok s e rx (l _ List.mem_cons_self)
      exact ⟨a, vs, rfl, q, (newL_ok1 o s t m).2⟩
    · exact o.no
  · exact o.no
def fTuple : MF := fun ds S => match ds with
  | [.p (.tup ps)] => some (.p (.tup ps), S)
  | [d] => match asL d S with | some xs => newT xs S | none => none
  | _ => none
def rTupG (K : PySem.W.Frag) : List V → Hp → VK → Prop := fun xs H Q => ∃ p ys, xs = [.ref p] ∧ ((SqL K H p ys ∧ ∀ l, H l = none → Q (.ref l) (upd H l (.tup ys))) ∨ (SqT K H p ys ∧ Q (.ref p) H))
theorem c_tuple : CallR X (.type "tuple") (rTupG X.K) := call_tuple_of
theorem d_tuple : CallD K cl fTuple (rTupG K) := by
  intro S B F φ H ds xs Q s r l o
  unfold fTuple at o
  split at o
  · rename_i ps
    obtain ⟨x, rfl, rx⟩ := dra1 r
    cases (show Rp K cl F (.tup ps) x from rx) with
    | tup q t => exact ⟨_, _, rfl, .inr ⟨SqT.mono s.le q, o.fin0 rfl s (Rp.tup q t) trivial⟩⟩
  · split at o
    · rename_i d hd ys e
      obtain ⟨x, rfl, rx⟩ := dra1 r
      obtain ⟨a, vs, rfl, q, t, m⟩ := asL_ok s e rx (l _ List.mem_cons_self)
      exact ⟨a, vs, rfl, .inl ⟨q, (newT_ok o s t).2⟩⟩
    · exact o.no
  · exact o.no
def fInt : MF := fun ds S => match ds with
  | [.p (.int i)] => some (.p (.int i), S)
  | [.p (.bl b)] => some (.p (.int (if b = true then 1 else 0)), S)
  | _ => none
def rIntG : List V → Hp → VK → Prop := fun xs H Q => (∃ i, xs = [.int i] ∧ Q (.int i) H) ∨ ∃ k, xs = [.bl k] ∧ Q (.int (if k then 1 else 0)) H
theorem c_int : CallR X (.type "int") rIntG := call_int1
theorem d_int : CallD K cl fInt rIntG := by
  intro S B F φ H ds xs Q s r l o
  unfold fInt at o
  split at o
  · obtain ⟨x, rfl, rx⟩ := dra1 r
    exact .inl ⟨_, by rw [drI rx], o.fin0 rfl s (Rp.int _) trivial⟩
  · obtain ⟨x, rfl, rx⟩ := dra1 r
    exact .inr ⟨_, by rw [drB rx], o.fin0 rfl s (Rp.int _) trivial⟩
  · exact o.no
def fAbs : MF := fun ds S => match ds with
  | [.p (.int i)] => some (.p (.int (if i < 0 then -i else i)), S)
  | _ => none
def rAbsG : List V → Hp → VK → Prop := fun xs H Q => ∃ i, xs = [.int i] ∧ Q (.int (if i < 0 then -i else i)) H
theorem c_abs : CallR X (.builtin "abs") rAbsG := call_abs
theorem d_abs : CallD K cl fAbs rAbsG := by
  intro S B F φ H ds xs Q s r l o
  unfold fAbs at o
  split at o
  · obtain ⟨x, rfl, rx⟩ := dra1 r
    exact ⟨_, by rw [drI rx], o.fin0 rfl s (Rp.int _) trivial⟩
  · exact o.no
/-- max(i, j), min(i, j) -/
def fMax : MF := fun ds S => match ds with
  | [.p (.int i), .p (.int j)] => some (.p (.int (if j > i then j else i)), S)
  | _ => none
def fMin : MF := fun ds S => match ds with
  | [.p (.int i), .p (.int j)] => some (.p (.int (if j < i then j else i)), S)
  | _ => none
def rMaxG : List V → Hp → VK → Prop := fun xs H Q => ∃ i j, xs = [.int i, .int j] ∧ Q (.int (if j > i then j else i)) H
def rMinG : List V → Hp → VK → Prop := fun xs H Q => ∃ i j, xs = [.int i, .int j] ∧ Q (.int (if j < i then j else i)) H
theorem c_max (hc : X.calm = true) : CallR X (.builtin "max") rMaxG := call_max2 hc
theorem c_min (hc : X.calm = true) : CallR X (.builtin "min") rMinG := call_min2 hc
theorem d_max : CallD K cl fMax rMaxG := by
  intro S B F φ H ds xs Q s r l o
  unfold fMax at o
  split at o
  · obtain ⟨x, y, rfl, rx, ry⟩ := dra2 r
    exact ⟨_, _, by rw [drI rx, drI ry], o.fin0 rfl s (Rp.int _) trivial⟩
  · exact o.no
theorem d_min : CallD K cl fMin rMinG := by
  intro S B F φ H ds xs Q s r l o
  unfold fMin at o
  split at o
  · obtain ⟨x, y, rfl, rx, ry⟩ := dra2 r
    exact ⟨_, _, by rw [drI rx, drI ry], o.fin0 rfl s (Rp.int _) trivial⟩
  · exact o.no
def fStr : MF := fun ds S => match ds with
  | [.p (.int i)] => if i.natAbs.log2 < 1920 then some (.p (.str (toString i)), S) else none
  | _ => none
def rStrG : List V → Hp → VK → Prop := fun xs H Q => ∃ i, xs = [.int i] ∧ i.natAbs.log2 < 1920 ∧ Q (.str (toString i)) H
theorem c_str : CallR X (.type "str") rStrG := call_str_int
theorem d_str : CallD K cl fStr rStrG := by
  intro S B F φ H ds xs Q s r l o
  unfold fStr at o
  split at o
  · split at o
    · rename_i i h
      obtain ⟨x, rfl, rx⟩ := dra1 r
      exact ⟨i, by rw [drI rx], h, o.fin0 rfl s (Rp.str _) trivial⟩
    · exact o.no
  · exact o.no
/-- ints out of a list of data -/
def intsOf : List D → Option (List Int)
  | [] => some []
  | .p (.int i) :: r => (intsOf r).map (i :: ·)
  | _ => none
@[simp] theorem intsOf_map (ns : List Int) : intsOf (ns.map fun n => D.p (.int n)) = some ns := by
  induction ns with
  | nil => rfl
  | cons x r ih => simp [intsOf, ih]
theorem intsOf_of : ∀ {ds : List D} {ns : List Int} {F : Hp} {φ : Nat → Addr} {vs : List V}, intsOf ds = some ns → DRA K cl F φ ds vs → vs = ns.map V.int
  | [], ns, F, φ, vs, h, r => by cases h; cases r; rfl
  | .p (.int i) :: r, ns, F, φ, vs, h, q => by
    unfold intsOf at h
    cases e : intsOf r with
    | none => rw [e] at h; cases h
    | some ms =>
      rw [e] at h; cases h
      cases q with
      | cons a b => rw [List.map_cons, ← intsOf_of e b, drI a]
  | .ref n :: r, _, _, _, _, h, _ => by cases h
  | .p .non :: r, _, _, _, _, h, _ => by cases h
  | .p (.bl _) :: r, _, _, _, _, h, _ => by cases h
  | .p (.str _) :: r, _, _, _, _, h, _ => by cases h
  | .p (.tup _) :: r, _, _, _, _, h, _ => by cases h
  | .p (.lst _) :: r, _, _, _, _, h, _ => by cases h
  | .p (.dK _) :: r, _, _, _, _, h, _ => by cases h
  | .p (.dT _) :: r, _, _, _, _, h, _ => by cases h
  | .p (.ins _ _) :: r, _, _, _, _, h, _ => by cases h
def fSum : MF := fun ds S => match ds with
  | [d] => match asQ d S with | some xs => (match intsOf xs with | some ns => some (.p (.int ns.sum), S) | none => none) | none => none
  | _ => none
def rSumG (K : PySem.W.Frag) : List V → Hp → VK → Prop := fun vs H Q => ∃ (a : Addr) (ns : List Int), vs = [V.ref a] ∧ (SqL K H a (ns.map V.int) ∨ SqT K H a (ns.map V.int)) ∧ Q (.int ns.sum) H
theorem c_sum (hc : X.calm = true) : CallR X (.builtin "sum") (rSumG X.K) := by
  intro pins s σ H vs us Q I r h
  obtain ⟨a, ns, rfl, hs | hs, q⟩ := h
  · exact cr_sum hc pins s σ H _ us Q I r ⟨a, ns, rfl, hs, q⟩
  · obtain ⟨its, rv, ht, _⟩ := I.tuple hs
    rw [Vals.ref1 r]
    obtain ⟨xs, e⟩ := rv.ints.allInts.items
    have hn : numsOf (intItems xs).toList = ns := by rw [← e]; exact rv.ints.numsOf
    rw [nums_intItems] at hn
    have ht2 : s.heap.IsTuple a (intItems xs) := by rw [← e]; exact ht
    refine PySem.W.ktm_sumG (I.ok.hd hc) ht2 fun h' tk t' hk => ⟨.int ns.sum, H, I.kept hk, ⟨t', ?_⟩, q⟩
    rw [preSum_eq, List.take_of_length_le (by simp), hn]
theorem d_sum : CallD K cl fSum (rSumG K) := by
  intro S B F φ H ds xs Q s r l o
  unfold fSum at o
  split at o
  · split at o
    · rename_i d ys e
      split at o
      · rename_i ns e2
        obtain ⟨x, rfl, rx⟩ := dra1 r
        obtain ⟨a, vs, rfl, q, t, m⟩ := asQ_ok s e rx (l _ List.mem_cons_self)
        have := intsOf_of e2 t
        subst this
        exact ⟨a, ns, rfl, q, o.fin0 rfl s (Rp.int _) trivial⟩
      · exact o.no
    · exact o.no
  · exact o.no
end
end Pv
namespace Pv
open PySem PySem.Spec PyProof.Rows L2
section
variable {X : Cx} {K : PySem.W.Frag} {cl : Nat → Addr}
/-! ### o[i], o[i:j] -/
def fIx (d e : D) (S : SH) : Option (D × SH) := match d, e with
  | .p (.str z), .p (.int i) => if z.length ≤ sizeLine then (match atI z.cps.toList i with | some c => some (.p (.str ⟨#[c]⟩), S) | none => none) else none
  | d, .p (.int i) => match asQ d S with
    | some xs => (match atI xs i with | some x => some (x, S) | none => none)
    | none => none
  | _, _ => none
theorem atI_dra {F : Hp} {φ : Nat → Addr} {ds : List D} {vs : List V} {i : Int} {d : D} (r : DRA K cl F φ ds vs) (e : atI ds i = some d) : ∃ v, atI vs i = some v ∧ DR K cl F φ d v ∧ d ∈ ds := by
  unfold atI at e ⊢
  rw [← r.length]
  cases h : ixN ds.length i with
  | none => rw [h] at e; cases e
  | some j =>
    rw [h] at e
    obtain ⟨v, hv, rv⟩ := r.get e
    exact ⟨v, hv, rv, List.mem_of_getElem? e⟩
theorem o_ix : IxR X (rIx X.K) := ix_seq
theorem d_ix : OpD K cl fIx (rIx K) := by
  intro S B F φ H d1 d2 x y Q s r1 r2 l1 l2 o
  unfold fIx at o
  split at o
  · rename_i z i
    split at o
    · rename_i hz
      split at o
      · rename_i c e
        exact .inr (.inr ⟨z, i, c, drS r1, drI r2, hz, e, o.fin0 rfl s (Rp.str _) trivial⟩)
      · exact o.no
    · exact o.no
  · rename_i i _
    split at o
    · rename_i xs e
      split at o
      · rename_i d e2
        obtain ⟨a, vs, rfl, q, t, m⟩ := asQ_ok s e r1 l1
        obtain ⟨v, hv, rv, hm⟩ := atI_dra t e2
        have fin := o.fin0 rfl s rv (m d hm)
        rcases q with q | q
        · exact .inl ⟨a, vs, i, v, rfl, drI r2, q, hv, fin⟩
        · exact .inr (.inl ⟨a, vs, i, v, rfl, drI r2, q, hv, fin⟩)
      · exact o.no
    · exact o.no
  · exact o.no
theorem k_ix {a b : Expr} {ma mb : ME} {pos : Pos} (ha : PE X a (LE X.K cl ma)) (hb : PE X b (LE X.K cl mb)) (hs : PlainIx b := by exact fun _ _ => rfl) : PE X (.Subscript a b pos) (LE X.K cl (dOp fIx ma mb)) :=
  (pe_ix o_ix ha hb hs).imp fun _ _ _ q => e_op d_ix q
/-- the items between two places -/
def cutD {α : Type} (xs : List α) (lo hi : Option Int) : List α := (xs.drop (HT.sIx xs.length 0 lo)).take (HT.sIx xs.length xs.length hi - HT.sIx xs.length 0 lo)
def optI : Option D → Option (Option Int)
  | none => some none
  | some (.p (.int i)) => some (some i)
  | _ => none
def fSl (live : Bool) (d : D) (lo hi : Option Int) (S : SH) : Option (D × SH) := match d with
  | .p (.str z) => if z.length ≤ sizeLine then some (.p (.str (L2.cutS z lo hi)), S) else none
  | .p (.tup ps) => some (.p (.tup (cutD ps lo hi)), S)
  | d => match asL d S with
    | some xs => newL live (cutD xs lo hi) S
    | none => none
def dSl (live : Bool) (a : ME) (lo hi : Option ME) : ME := fun σ S => bnd (a σ S) fun d S1 =>
  bnd (match lo with | some m => bnd (m σ S1) fun x S2 => (match x with | .p (.int i) => some (some i, S2) | _ => none) | none => some (none, S1)) fun l S2 =>
  bnd (match hi with | some m => bnd (m σ S2) fun x S3 => (match x with | .p (.int i) => some (some i, S3) | _ => none) | none => some (none, S2)) fun h S3 => fSl live d l h S3
/-- a part of a slice -/
def LO (K : PySem.W.Frag) (cl : Nat → Addr) : Option ME → TO
  | some m => tPart (LE K cl m)
  | none => tNoPart
theorem o_none : PO X none (LO X.K cl none) := po_none
theorem o_some {e : Expr} {m : ME} (h : PE X e (LE X.K cl m)) : PO X (some e) (LO X.K cl (some m)) := po_some h
def rSlG (K : PySem.W.Frag) : V → Option Int → Option Int → Hp → VK → Prop := fun x lo hi H Q => rSlL K x lo hi H Q ∨ rSlA K x lo hi H Q ∨ rSlS x lo hi H Q
theorem o_sl : SlR X (rSlG X.K) := sl_list.or (sl_tupA.or sl_str)
theorem cut_dra {F : Hp} {φ : Nat → Addr} {ds : List D} {vs : List V} (r : DRA K cl F φ ds vs) (lo hi : Option Int) : DRA K cl F φ (cutD ds lo hi) (cutV vs lo hi) := by
  have td : ∀ {ds : List D} {vs : List V} (n : Nat), DRA K cl F φ ds vs → DRA K cl F φ (ds.drop n) (vs.drop n) := by
    intro ds vs n r
    induction n generalizing ds vs with
    | zero => exact r
    | succ n ih => cases r with | nil => exact .nil | cons a b => exact ih b
  have tt : ∀ {ds : List D} {vs : List V} (n : Nat), DRA K cl F φ ds vs → DRA K cl F φ (ds.take n) (vs.take n) := by
    intro ds vs n r
    induction n generalizing ds vs with
    | zero => exact .nil
    | succ n ih => cases r with | nil => exact .nil | cons a b => exact .cons a (ih b)
  unfold cutD cutV
  rw [r.length]
  exact tt _ (td _ r)
theorem cut_mem {α : Type} {xs : List α} {lo hi : Option Int} {x : α} (h : x ∈ cutD xs lo hi) : x ∈ xs := List.mem_of_mem_drop (List.mem_of_mem_take h)
theorem cut_map {α β : Type} (f : α → β) (xs : List α) (lo hi : Option Int) : cutD (xs.map f) lo hi = (cutD xs lo hi).map f := by
  unfold cutD
  rw [List.length_map, List.map_take, List.map_drop]
theorem d_sl {live : Bool} {S : SH} {B : List Nat} {F : Hp} {φ : Nat → Addr} {H : Hp} {d : D} {x : V} {lo hi : Option Int} {Q : VK} (s : Sim K cl S B F φ H) (r : DR K cl F φ d x) (l : d.lt S.len) (o : OkE K cl S B F φ H (fSl live d lo hi S) Q) : rSlG K x lo hi H Q := by
  unfold fSl at o
  split at o
  · split at o
    · rename_i z hz
      exact .inr (.inr ⟨z, drS r, hz, o.fin0 rfl s (Rp.str _) trivial⟩)
    · exact o.no
  · rename_i ps
    cases (show Rp K cl F (.tup ps) x from r) with
    | @tup a _ vs q t =>
      have tr : DRA K cl F φ (ps.map D.p) vs := t.dra
      have hl := t.len
      refine .inr (.inl ⟨a, vs, rfl, SqT.mono s.le q, fun h => ?_, fun h p hp => ?_⟩)
      · have e : cutD ps lo hi = ps := by
          unfold cutD
          rw [hl, h.1, h.2, List.drop_zero, List.take_of_length_le (by omega)]
        rw [e] at o
        exact o.fin0 rfl s (Rp.tup q t) trivial
      · obtain ⟨s1, x1⟩ := s.frz (H' := upd H p (.tup (cutV vs lo hi))) (Same.new (Same.refl H) hp) hp upd_same
        have := cut_dra tr lo hi
        rw [cut_map] at this
        exact o.fin rfl s1 x1 (Rp.tup (.inl (.inl upd_same)) (RpA.mono x1.fz this.rpa)) trivial
  · split at o
    · rename_i xs e
      obtain ⟨a, vs, rfl, q, t, m⟩ := asL_ok s e r l
      exact .inl ⟨a, vs, rfl, q, (newL_ok1 o s (cut_dra t lo hi) fun z hz => m z (cut_mem hz)).2⟩
    · exact o.no
theorem k_sl {live : Bool} {e : Expr} {lo hi : Option Expr} {me : ME} {ml mh : Option ME} {pos p2 : Pos} (he : PE X e (LE X.K cl me)) (hl : PO X lo (LO X.K cl ml)) (hh : PO X hi (LO X.K cl mh)) : PE X (.Subscript e (.Slice lo hi none p2) pos) (LE X.K cl (dSl live me ml mh)) := by
  refine (pe_slice o_sl he hl hh).imp fun σ H Q q => ?_
  obtain ⟨σd, S, B, F, φ, s, rs, o⟩ := q
  obtain ⟨d, S1, e1, o1⟩ := okE_bnd o
  obtain ⟨l, S2, e2, o2⟩ := okE_bnd o1
  obtain ⟨h, S3, e3, o3⟩ := okE_bnd o2
  refine LE.then_ s rs e1 fun F1 φ1 H1 x s1 x1 rs1 dr1 l1 => ?_
  have part : ∀ (m : Option ME) (S4 S5 : SH) (B : List Nat) (F4 : Hp) (φ4 : Nat → Addr) (H4 : Hp) (k : Option Int) (R : Option Int → Hp → Prop), Sim X.K cl S4 B F4 φ4 H4 → RS X.K cl F4 φ4 S4.len σd σ →
      (match m with | some m => bnd (m σd S4) fun x S2 => (match x with | .p (.int i) => some (some i, S2) | _ => none) | none => some (none, S4)) = some (k, S5) →
      (∀ F5 φ5 H5, Sim X.K cl S5 B F5 φ5 H5 → Ext S4 F4 φ4 H4 S5 F5 φ5 H5 → RS X.K cl F5 φ5 S5.len σd σ → R k H5) → LO X.K cl m σ H4 R := by
    intro m S4 S5 B F4 φ4 H4 k R s4 rs4 e kk
    cases m with
    | none => cases e; exact kk F4 φ4 H4 s4 (.refl s4) rs4
    | some m =>
      obtain ⟨y, S6, e6, e7⟩ := bnd_of e
      refine LE.then_ s4 rs4 e6 fun F6 φ6 H6 u s6 x6 rs6 dr6 l6 => ?_
      split at e7
      · cases e7
        exact ⟨_, drI dr6, kk F6 φ6 H6 s6 x6 rs6⟩
      · cases e7
  refine part ml S1 S2 B F1 φ1 H1 l _ s1 rs1 e2 fun F2 φ2 H2 s2 x2 rs2 => ?_
  refine part mh S2 S3 B F2 φ2 H2 h _ s2 rs2 e3 fun F3 φ3 H3 s3 x3 rs3 => ?_
  have x23 := x2.trans x3
  exact d_sl s3 (x23.dr l1 dr1) (x23.lt l1) (o3.ext (x1.trans x23))

/-! ### methods of lists -/
def MtD (K : PySem.W.Frag) (cl : Nat → Addr) (f : MF) (T : String) (r : V → List V → Hp → VK → Prop) : Prop :=
  ∀ S B F φ H d ds x xs Q, Sim K cl S B F φ H → DR K cl F φ d x → d.lt S.len → DRA K cl F φ ds xs → (∀ y ∈ ds, y.lt S.len) → OkE K cl S B F φ H (f (d :: ds) S) Q → r x xs H Q
def isTy (T : String) (d : D) (S : SH) : Bool := match d with
  | .p (.str _) => T == "str"
  | .p (.lst _) => T == "list"
  | .p (.dK _) => T == "dict"
  | .p (.dT _) => T == "dict"
  | .ref n => match S.os[n]? with
    | some (.lst _) => T == "list"
    | some (.dK _) => T == "dict"
    | some (.dT _) => T == "dict"
    | _ => false
  | _ => false
theorem isTy_ok {S : SH} {B : List Nat} {F : Hp} {φ : Nat → Addr} {H : Hp} {T : String} {d : D} {x : V} (s : Sim K cl S B F φ H) (e : isTy T d S = true) (r : DR K cl F φ d x) : tyV K T x H := by
  cases d with
  | p y =>
    have r : Rp K cl F y x := r
    cases r with
    | str z => exact (beq_iff_eq.mp e)
    | lst q t => exact .inl ⟨beq_iff_eq.mp e, _, SqL.mono s.le q⟩
    | dK q t => exact .inr (.inr (.inl ⟨beq_iff_eq.mp e, .inl ⟨_, s.le _ _ q⟩⟩))
    | dT q t => exact .inr (.inr (.inl ⟨beq_iff_eq.mp e, .inr ⟨_, s.le _ _ q⟩⟩))
    | _ => cases e
  | ref n =>
    unfold isTy at e
    dsimp only at e
    have r : x = .ref (φ n) := r
    subst r
    cases q : S.os[n]? with
    | none => rw [q] at e; cases e
    | some o =>
      rw [q] at e
      have ob := (s.ob n _ q).2
      cases o with
      | lst ds => obtain ⟨vs, ev, _⟩ := ob; exact .inl ⟨beq_iff_eq.mp e, _, .inl (.inl ev)⟩
      | dK ds => obtain ⟨vs, ev, _⟩ := ob; exact .inr (.inr (.inl ⟨beq_iff_eq.mp e, .inl ⟨_, ev⟩⟩))
      | dT ds => obtain ⟨vs, ev, _⟩ := ob; exact .inr (.inr (.inl ⟨beq_iff_eq.mp e, .inr ⟨_, ev⟩⟩))
      | ins _ _ => cases e
def dBM (T : String) (f : MF) (o : ME) (a : MA) : ME := fun σ S => bnd (o σ S) fun d S1 => if isTy T d S1 = true then bnd (a σ S1) fun ds S2 => f (d :: ds) S2 else none
theorem e_bm {T : String} {f : MF} {r : V → List V → Hp → VK → Prop} {mo : ME} {ma : MA} {σ : L2.St} {H : Hp} {Q : VK} (hd : MtD K cl f T r) (q : LE K cl (dBM T f mo ma) σ H Q) : tBM K T r (LE K cl mo) (LA K cl ma) σ H Q := by
  obtain ⟨σd, S, B, F, φ, s, rs, o⟩ := q
  obtain ⟨d, S1, e1, o1⟩ := okE_bnd o
  refine LE.then_ s rs e1 fun F1 φ1 H1 x s1 x1 rs1 dr1 l1 => ?_
  split at o1
  · rename_i ht
    obtain ⟨ds, S2, e2, o2⟩ := okE_bnd o1
    refine ⟨isTy_ok s1 ht dr1, LA.then_ s1 rs1 e2 fun F2 φ2 H2 vs s2 x2 rs2 dr2 l2 => ?_⟩
    exact hd S2 B F2 φ2 H2 d ds x vs Q s2 (x2.dr l1 dr1) (x2.lt l1) dr2 l2 (o2.ext (x1.trans x2))
  · exact o1.no
theorem k_bm {o e : Expr} {es : List Expr} {name : Str} {apos cpos : Pos} {T id : String} {f : MF} {r : V → List V → Hp → VK → Prop} {mo : ME} {ma : MA} (hd : MtD X.K cl f T r) (pa : PlainAttrs T) (slot : Slot T name id) (hty : typeOf (.builtin id) = pure (.type "method_descriptor")) (hm : MtR X id r) (ho : PE X o (LE X.K cl mo)) (ha : PA X (e :: es) (LA X.K cl ma))
    (hbase : attributeBase o name X.env (eval o X.env) = eval o X.env := by rfl)
    (hfew : ((backTo cpos (starEach (e :: es) X.env)).all (fun x => !x.1) && (backToKw cpos (keywordEach [] X.env)).all (fun x => x.1.isSome)
      && decide ((e :: es).length + ([] : List Keyword).length + (if ([] : List Keyword).isEmpty then 0 else 1) < 30)) = true := by rfl)
    (hline : (apos.endLine == cpos.line) = true := by rfl) (hs : starEach (e :: es) X.env = (false, eval e X.env) :: starEach es X.env := by rfl) (hplain : (backTo cpos (starEach es X.env)).any (·.1) = false := by rfl) :
    PE X (.Call (.Attribute o name apos) (e :: es) [] cpos) (LE X.K cl (dBM T f mo ma)) :=
  (pe_bm pa slot hty hm ho ha hbase hfew hline hs hplain).imp fun _ _ _ q => e_bm hd q
theorem k_bm0 {o : Expr} {name : Str} {apos cpos : Pos} {T id : String} {f : MF} {r : V → List V → Hp → VK → Prop} {mo : ME} (hd : MtD X.K cl f T r) (pa : PlainAttrs T) (slot : Slot T name id) (hty : typeOf (.builtin id) = pure (.type "method_descriptor")) (hm : MtR X id r) (ho : PE X o (LE X.K cl mo))
    (hbase : attributeBase o name X.env (eval o X.env) = eval o X.env := by rfl) (hline : (apos.endLine == cpos.line) = true := by rfl) : PE X (.Call (.Attribute o name apos) [] [] cpos) (LE X.K cl (dBM T f mo dNil)) := by
  refine (pe_bm0 pa slot hty hm ho hbase hline).imp fun σ H Q q => ?_
  have z := e_bm hd q
  unfold tBM at z
  obtain ⟨σd, S, B, F, φ, s, rs, d, S1, e, k⟩ := z
  refine ⟨σd, S, B, F, φ, s, rs, d, S1, e, fun F1 φ1 H1 u s1 x1 dr l => ?_⟩
  obtain ⟨h1, h2⟩ := k F1 φ1 H1 u s1 x1 dr l
  obtain ⟨σd', S', B', F', φ', s', rs', d', S1', e', k'⟩ := h2
  cases e'
  exact ⟨h1, k' F' φ' H1 [] s' (.refl s') .nil fun _ z => absurd z (by simp)⟩
/-- xs.append(v) -/
def fApp : MF := fun ds S => match ds with
  | [.ref n, v] => match S.os[n]? with
    | some (.lst xs) => if xs.length < sizeLine ∧ okRef S n v = true then some (.p .non, S.put n (.lst (xs ++ [v]))) else none
    | _ => none
  | _ => none
theorem d_app : MtD K cl fApp "list" rAppend := by
  intro S B F φ H d ds x xs Q s r l rs ls o
  unfold fApp at o
  split at o
  · rename_i n v e0
    split at o
    · rename_i ys q
      split at o
      · rename_i h
        injection e0 with e1 e2
        subst e1 e2
        obtain ⟨y, rfl, ry⟩ := dra1 rs
        obtain ⟨vs, ev, rv⟩ := (s.ob n _ q).2
        have hl := rv.length
        obtain ⟨s2, x2⟩ := putOk (o := .lst (ys ++ [v])) (x := .lst (vs ++ [y])) s q h.2 (ls v List.mem_cons_self) (fun z hz => by
          rcases List.mem_append.mp hz with hz | hz
          · exact .inr hz
          · exact .inl (List.mem_singleton.mp hz)) ⟨_, rfl, DRA.append rv (.cons ry .nil)⟩
        exact ⟨φ n, vs, y, r, rfl, ev, by omega, o.fin rfl s2 x2 .non trivial⟩
      · exact o.no
    · exact o.no
  · exact o.no
/-- xs.extend(ys) of a list or a tuple -/
def fExt : MF := fun ds S => match ds with
  | [.ref n, v] => match S.os[n]?, asQ v S with
    | some (.lst xs), some ys => match toPs ys with
      | some ps => if xs.length + ps.length ≤ sizeLine then some (.p .non, S.put n (.lst (xs ++ ps.map D.p))) else none
      | none => none
    | _, _ => none
  | _ => none
open PySem.AutoSeq1 (wpAny_loadPart') in
open PySem.MeetsSeq PySem.MeetsSeq2 PySem.MeetsSeq3 in
theorem ext_tup (l : Addr) (xs : Array Value) (n : Nat) (b : Addr) (ys : Array Value) (m : Nat) (dd : Option Addr) (sl : Array (Option Value)) (h0 : ¬(!xs.isEmpty && Builtin.List.listTooLong (xs.size + ys.size)) = true) (h1 : xs.size ≤ sizeLine) (h2 : xs.size + ys.size ≤ sizeLine + 1) :
    Meets (Builtin.«list.extend» ⟨[.ref l, .ref b], []⟩) (fun _ R s => s.heap.get? l = some { cls := .type "list", dict := none, data := .seq xs n, slots := #[] } ∧ s.heap.get? b = some { cls := .type "tuple", dict := dd, data := .seq ys m, slots := sl } ∧
      R (.ok (.ret Value.none)) { s with heap := s.heap.update l (Obj.mapSeq fun x => x ++ ys), toks := s.toks }) :=
  .of_wp fun prog w A R s h => by
    obtain ⟨hp, g, d, tk, os⟩ := s; obtain ⟨hl, hb, h⟩ := h
    have e1 := AutoSeq1.sub_tuple_tuple
    have e2 := AutoSeq1.sub_list_list
    have e3 := AutoSeq1.sub_tuple_list
    have e4 := AutoSeq1.sub_list_tuple
    have hz' : (xs ++ ys).size ≤ sizeLine + 1 := by rw [Array.size_append]; exact h2
    wp_walk using (wpAny_updateSeq hl rfl (hz := h1) (_hz' := hz')), wpAny_loadPart' hl, wpAny_loadPart' hb
    exact ⟨_, rfl, h⟩
open PySem.AutoSeq1 (wpAny_loadPart') in
open PySem.MeetsSeq PySem.MeetsSeq2 PySem.MeetsSeq3 in
theorem ext_lst (l : Addr) (xs : Array Value) (n : Nat) (b : Addr) (ys : Array Value) (m : Nat) (dd : Option Addr) (sl : Array (Option Value)) (h0 : ¬(!xs.isEmpty && Builtin.List.listTooLong (xs.size + ys.size)) = true) (h1 : xs.size ≤ sizeLine) (h2 : xs.size + ys.size ≤ sizeLine + 1) :
    Meets (Builtin.«list.extend» ⟨[.ref l, .ref b], []⟩) (fun _ R s => s.heap.get? l = some { cls := .type "list", dict := none, data := .seq xs n, slots := #[] } ∧ s.heap.get? b = some { cls := .type "list", dict := dd, data := .seq ys m, slots := sl } ∧
      R (.ok (.ret Value.none)) { s with heap := s.heap.update l (Obj.mapSeq fun x => x ++ ys), toks := s.toks }) :=
  .of_wp fun prog w A R s h => by
    obtain ⟨hp, g, d, tk, os⟩ := s; obtain ⟨hl, hb, h⟩ := h
    have e1 := AutoSeq1.sub_tuple_tuple
    have e2 := AutoSeq1.sub_list_list
    have e3 := AutoSeq1.sub_tuple_list
    have e4 := AutoSeq1.sub_list_tuple
    have hz' : (xs ++ ys).size ≤ sizeLine + 1 := by rw [Array.size_append]; exact h2
    wp_walk using (wpAny_updateSeq hl rfl (hz := h1) (_hz' := hz')), wpAny_loadPart' hl, wpAny_loadPart' hb
    exact ⟨_, rfl, h⟩
def rExtG (K : PySem.W.Frag) : V → List V → Hp → VK → Prop := fun x vs H Q => ∃ l b xs zs, x = .ref l ∧ vs = [.ref b] ∧ H l = some (.lst xs) ∧ (SqL K H b zs ∨ SqT K H b zs) ∧ xs.length + zs.length ≤ sizeLine ∧ Q .non (upd H l (.lst (xs ++ zs)))
theorem mt_extG : MtM X "list.extend" (rExtG X.K) := by
  intro pins s σ H x vs v us Q I rx rv h
  obtain ⟨l, b, xs, zs, rfl, rfl, hH, hB, hz, q⟩ := h
  cases rx
  obtain ⟨u, rfl, ru⟩ := rv.one
  cases ru
  obtain ⟨z, its, n, r, hl, e⟩ := I.lstM hH
  have l1 := r.length
  have fin : ∀ its2 : List Value, Vals zs its2 → EP X pins σ Q .none { s with heap := s.heap.update l (Obj.mapSeq fun x => x ++ its2.toArray), toks := s.toks } := fun its2 r2 => by
    refine ⟨.non, _, I.lset (its' := its ++ its2) hH e (by simp) (r.append r2) ?_, rfl, q⟩
    rw [List.length_append]
    omega
  have small : ∀ its2 : List Value, Vals zs its2 → its.toArray.size + its2.toArray.size ≤ sizeLine := fun its2 r2 => by
    have l2 := r2.length
    rw [List.size_toArray, List.size_toArray]; omega
  have long : ∀ its2 : List Value, Vals zs its2 → ¬ (!its.toArray.isEmpty && Builtin.List.listTooLong (its.toArray.size + its2.toArray.size)) = true := fun its2 r2 => by
    rw [notLongL (small its2 r2), Bool.and_false]
    exact Bool.false_ne_true
  rcases hB with hB | hB
  · obtain ⟨its2, r2, ⟨⟨_, dd, _, sl⟩, m, e2, c2, d2, t2⟩, _⟩ := I.list hB
    simp only at c2 d2 t2
    subst c2 d2 t2
    have sm := small its2 r2
    exact call_meets F.slot_list_extend ⟨_, e, rfl⟩ F.entry_list_extend (F.args_list_extend_2 _ _)
      (ext_lst l its.toArray n b its2.toArray m _ sl (long its2 r2) (by rw [List.size_toArray]; omega) (by omega)) ⟨e, e2, fin its2 r2⟩
  · obtain ⟨its2, r2, pT, _⟩ := I.tuple hB
    obtain ⟨⟨_, dd, _, sl⟩, e2, hc, m, hd⟩ := pT
    simp only at hc hd
    subst hc hd
    have sm := small its2 r2
    exact call_meets F.slot_list_extend ⟨_, e, rfl⟩ F.entry_list_extend (F.args_list_extend_2 _ _)
      (ext_tup l its.toArray n b its2.toArray m dd sl (long its2 r2) (by rw [List.size_toArray]; omega) (by omega)) ⟨e, e2, fin its2 r2⟩
theorem d_ext : MtD K cl fExt "list" (rExtG K) := by
  intro S B F φ H d ds x xs Q s r l rs ls o
  unfold fExt at o
  split at o
  · rename_i n v e0
    split at o
    · rename_i ys zs q e1
      split at o
      · rename_i ps ep
        split at o
        · rename_i hz
          injection e0 with e2 e3
          subst e2 e3
          obtain ⟨y, rfl, ry⟩ := dra1 rs
          obtain ⟨a, ws, rfl, qw, tw, mw⟩ := asQ_ok s e1 ry (ls v List.mem_cons_self)
          obtain ⟨vs, ev, rv⟩ := (s.ob n _ q).2
          have hzs := toPs_of ep
          subst hzs
          have hl := rv.length
          have hl2 := tw.length
          rw [List.length_map] at hl2
          obtain ⟨s2, x2⟩ := putGen (o := .lst (ys ++ ps.map D.p)) (x := .lst (vs ++ ws)) s q (fun z hz => by
            rcases List.mem_append.mp hz with hz | hz
            · exact .inr (.inl hz)
            · exact .inl fun k => lt_map z hz) ⟨_, rfl, DRA.append rv tw⟩
          exact ⟨φ n, a, vs, ws, r, rfl, ev, qw, by omega, o.fin rfl s2 x2 .non trivial⟩
        · exact o.no
      · exact o.no
    · exact o.no
  · exact o.no
end
end Pv
namespace Pv
open PySem PySem.Spec PyProof.Rows L2
section
variable {X : Cx} {K : PySem.W.Frag} {cl : Nat → Addr}
/-! ### isinstance of built-in types -/
def tyName (d : D) (S : SH) : Option String := match d with
  | .p .non => some "NoneType"
  | .p (.bl _) => some "bool"
  | .p (.int _) => some "int"
  | .p (.str _) => some "str"
  | .p (.tup _) => some "tuple"
  | .p (.lst _) => some "list"
  | .p (.dK _) => some "dict"
  | .p (.dT _) => some "dict"
  | .p (.ins _ _) => none
  | .ref n => match S.os[n]? with
    | some (.lst _) => some "list"
    | some (.dK _) => some "dict"
    | some (.dT _) => some "dict"
    | _ => none
def isSub (a b : String) : Bool := a == b || (a == "bool" && b == "int")
def tyOk (b : String) : Bool := ["bool", "int", "str", "tuple", "list", "dict"].contains b
theorem kit_tab : ∀ a ∈ ["NoneType", "bool", "int", "str", "tuple", "list", "dict"], ∀ b ∈ ["bool", "int", "str", "tuple", "list", "dict"], kitB a b = some (isSub a b) := by decide +kernel
theorem tyName_mem {d : D} {S : SH} {t : String} (h : tyName d S = some t) : t ∈ ["NoneType", "bool", "int", "str", "tuple", "list", "dict"] := by
  unfold tyName at h
  split at h <;> first | (cases h; decide) | (cases h; done) | skip
  split at h <;> first | (cases h; decide) | (cases h; done)
theorem tyName_ok {S : SH} {B : List Nat} {F : Hp} {φ : Nat → Addr} {H : Hp} {d : D} {x : V} {t : String} (s : Sim K cl S B F φ H) (h : tyName d S = some t) (r : DR K cl F φ d x) : TyX K H x (.type t) := by
  cases d with
  | p y =>
    have r : Rp K cl F y x := r
    cases r with
    | non => cases h; exact .base .non
    | bl b => cases h; exact .base (.bl b)
    | int i => cases h; exact .base (.int i)
    | str z => cases h; exact .base (.str z)
    | tup q t =>
      cases h
      rcases SqT.mono s.le q with (q | ⟨o, q⟩) | ⟨o, its, n, hk, hc, _⟩
      · exact .base (.tup q)
      · exact .fTuple q
      · exact .kTuple hk hc
    | lst q t =>
      cases h
      rcases SqL.mono s.le q with (q | ⟨o, q⟩) | ⟨o, its, n, hk, hc, _⟩
      · exact .base (.lst q)
      · exact .base (.frz q)
      · exact .kList hk hc
    | dK q t => cases h; exact .base (.dK (s.le _ _ q))
    | dT q t => cases h; exact .base (.dT (s.le _ _ q))
    | ins q t => cases h
  | ref n =>
    have r : x = .ref (φ n) := r
    subst r
    unfold tyName at h
    dsimp only at h
    cases q : S.os[n]? with
    | none => rw [q] at h; cases h
    | some o =>
      rw [q] at h
      have ob := (s.ob n _ q).2
      cases o with
      | lst ds => cases h; obtain ⟨vs, ev, _⟩ := ob; exact .base (.lst ev)
      | dK ds => cases h; obtain ⟨vs, ev, _⟩ := ob; exact .base (.dK ev)
      | dT ds => cases h; obtain ⟨vs, ev, _⟩ := ob; exact .base (.dT ev)
      | ins _ _ => cases h
def fIsi (bs : List String) (d : D) (S : SH) : Option (D × SH) := match tyName d S with
  | some t => if bs.all tyOk = true then some (.p (.bl (bs.any (isSub t))), S) else none
  | none => none
theorem k_isi {e : Expr} {me : ME} {T : Str} {Tn : String} {p p2 pos : Pos} (he : PE X e (LE X.K cl me)) (hg : Gl X "isinstance") (hm : X.mg "isinstance" = none) (hT : Gl X T) (hmT : X.mg T = none) (hvT : bootBuiltins T = some (.type Tn)) (hn : T ≠ "__name__" := by decide) (hd : (T == ("__debug__" : Str)) = false := by decide)
    (h1 : starEach [e, .Name T p2] X.env = (false, eval e X.env) :: starEach [.Name T p2] X.env := by rfl) (h2 : starEach [Expr.Name T p2] X.env = (false, eval (.Name T p2) X.env) :: starEach [] X.env := by rfl) (hpl : (backTo pos (starEach [Expr.Name T p2] X.env)).any (·.1) = false := by rfl) :
    PE X (.Call (.Name "isinstance" p) [e, .Name T p2] [] pos) (LE X.K cl (dUn (fIsi [Tn]) me)) := by
  refine (pe_callB call_isi hg hm (by decide +kernel : bootBuiltins "isinstance" = some (.builtin "isinstance")) (pa_cons he (pa_cons (pe_bltn hT hmT hvT (show RelV (.ty Tn) _ from rfl) hn hd) pa_nil h2) h1) (by decide) (by decide) h1 hpl).imp fun σ H Q q => ?_
  obtain ⟨σd, S, B, F, φ, s, rs, o⟩ := q
  obtain ⟨d, S1, e1, o1⟩ := okE_bnd o
  refine LE.then_ s rs e1 fun F1 φ1 H1 x s1 x1 rs1 dr1 l1 => ?_
  have o1 := o1.ext x1
  unfold fIsi at o1
  split at o1
  · rename_i t ht
    split at o1
    · rename_i hb
      have hb1 : tyOk Tn = true := by simpa using hb
      refine ⟨x, .ty Tn, _, _, isSub t Tn, rfl, .ty Tn, tyName_ok s1 ht dr1, kit_ty (kit_tab t (tyName_mem ht) Tn (by simpa [tyOk] using hb1)), ?_⟩
      have := o1.fin0 rfl s1 (Rp.bl _) trivial
      simpa using this
    · exact o1.no
  · exact o1.no
theorem k_isi2 {e : Expr} {me : ME} {T U : Str} {Tn Un : String} {p p2 p3 p4 pos : Pos} {kk : Nat} (he : PE X e (LE X.K cl me)) (hg : Gl X "isinstance") (hm : X.mg "isinstance" = none) (hT : Gl X T) (hmT : X.mg T = none) (hvT : bootBuiltins T = some (.type Tn)) (hU : Gl X U) (hmU : X.mg U = none) (hvU : bootBuiltins U = some (.type Un))
    (hn : T ≠ "__name__" := by decide) (hd : (T == ("__debug__" : Str)) = false := by decide) (hnU : U ≠ "__name__" := by decide) (hdU : (U == ("__debug__" : Str)) = false := by decide)
    (h1 : starEach [e, .Tuple [.Name T p2, .Name U p3] kk p4] X.env = (false, eval e X.env) :: starEach [.Tuple [.Name T p2, .Name U p3] kk p4] X.env := by rfl) (h2 : starEach [Expr.Tuple [.Name T p2, .Name U p3] kk p4] X.env = (false, eval (.Tuple [.Name T p2, .Name U p3] kk p4) X.env) :: starEach [] X.env := by rfl)
    (h3 : starEach [Expr.Name T p2, .Name U p3] X.env = (false, eval (.Name T p2) X.env) :: starEach [.Name U p3] X.env := by rfl) (h4 : starEach [Expr.Name U p3] X.env = (false, eval (.Name U p3) X.env) :: starEach [] X.env := by rfl) (hpl : (backTo pos (starEach [Expr.Tuple [.Name T p2, .Name U p3] kk p4] X.env)).any (·.1) = false := by rfl) :
    PE X (.Call (.Name "isinstance" p) [e, .Tuple [.Name T p2, .Name U p3] kk p4] [] pos) (LE X.K cl (dUn (fIsi [Tn, Un]) me)) := by
  refine (pe_callB call_isiT hg hm (by decide +kernel : bootBuiltins "isinstance" = some (.builtin "isinstance")) (pa_cons he (pa_cons (pe_tup (pa_cons (pe_bltn hT hmT hvT (show RelV (.ty Tn) _ from rfl) hn hd) (pa_cons (pe_bltn hU hmU hvU (show RelV (.ty Un) _ from rfl) hnU hdU) pa_nil h4) h3)) pa_nil h2) h1) (by decide) (by decide) h1 hpl).imp fun σ H Q q => ?_
  obtain ⟨σd, S, B, F, φ, s, rs, o⟩ := q
  obtain ⟨d, S1, e1, o1⟩ := okE_bnd o
  refine LE.then_ s rs e1 fun F1 φ1 H1 x s1 x1 rs1 dr1 l1 => ?_
  refine ⟨by show 2 ≤ sizeLine; decide, fun tp htp => ?_⟩
  have o1 := o1.ext x1
  unfold fIsi at o1
  split at o1
  · rename_i t ht
    split at o1
    · rename_i hb
      obtain ⟨hb1, hb2⟩ : tyOk Tn = true ∧ tyOk Un = true := by simpa using hb
      have sm : Same H1 (upd H1 tp (.tup [.ty Tn, .ty Un])) := Same.new (Same.refl _) htp
      have s2 := s1.keep sm
      have fin := o1.fin rfl s2 (Ext.ofSame s1 sm) (Rp.bl _) trivial
      have k1 := kit_tab t (tyName_mem ht) Tn (by simpa [tyOk] using hb1)
      have k2 := kit_tab t (tyName_mem ht) Un (by simpa [tyOk] using hb2)
      refine ⟨x, tp, [.ty Tn, .ty Un], _, [.type Tn, .type Un], isSub t Tn || isSub t Un, rfl, upd_same, .cons (.ty Tn) (.cons (.ty Un) .nil), tyName_ok s2 ht dr1, ?_, by simpa using fin⟩
      refine kitAny_cons (kit_ty k1) (fun h => ?_) (fun h => by rw [h, Bool.true_or])
      rw [h, Bool.false_or]
      exact kitAny_cons (kit_ty k2) (fun h => by rw [h]; exact kitAny_nil) (fun h => h)
    · exact o1.no
  · exact o1.no
/-! ### a module's constant -/
theorem k_glob {x : Str} {v : V} {u : Value} {q : P} {pos : Pos} (hg : Gl X x) (hm : X.mg x = some u) (r : RelV v u) (hq : ∀ F, Rp X.K cl F q v) (hd : (x == ("__debug__" : Str)) = false := by decide) : PE X (.Name x pos) (LE X.K cl (dC q)) :=
  (pe_glob hg hm r hd).imp fun _ _ _ h => e_c h hq
/-! ### truth -/
def truD (d : D) (S : SH) : Option (Bool × SH) := match d with
  | .p .non => some (false, S)
  | .p (.bl b) => some (b, S)
  | .p (.int i) => some (i != 0, S)
  | .p (.str z) => if z.length ≤ sizeLine then some ((z.length : Int) != 0, S) else none
  | d => match asQ d S with | some xs => some (!xs.isEmpty, S) | none => none
def dTru (a : ME) : MT := fun σ S => bnd (a σ S) truD
theorem truD_ok {S S1 : SH} {B : List Nat} {F : Hp} {φ : Nat → Addr} {H : Hp} {d : D} {x : V} {b : Bool} (s : Sim K cl S B F φ H) (e : truD d S = some (b, S1)) (r : DR K cl F φ d x) (l : d.lt S.len) : S1 = S ∧ TruV K x H b := by
  unfold truD at e
  split at e
  · cases e; exact ⟨rfl, by rw [drN r]; rfl⟩
  · cases e; exact ⟨rfl, by rw [drB r]; rfl⟩
  · cases e; exact ⟨rfl, by rw [drI r]; rfl⟩
  · split at e
    · rename_i z hz
      cases e
      exact ⟨rfl, by rw [drS r]; exact ⟨hz, rfl⟩⟩
    · cases e
  · split at e
    · rename_i xs h
      cases e
      obtain ⟨a, vs, rfl, q, t, m⟩ := asQ_ok s h r l
      refine ⟨rfl, ?_⟩
      have he : xs.isEmpty = vs.isEmpty := by cases t <;> rfl
      rcases q with q | q
      · exact .inl ⟨vs, q, by rw [he]⟩
      · exact .inr (.inl ⟨vs, q, by rw [he]⟩)
    · cases e
theorem t_tru {a : Expr} {ma : ME} (ha : PE X a (LE X.K cl ma)) (he : ∀ whole, isTrue a X.env whole = (do let v ← whole; standAt a.pos; holding [v] (truthy v)) := by intro _; rfl) : PT X a (LT X.K cl (dTru ma)) := by
  refine (pt_truth ha he).imp fun σ H Q q => ?_
  obtain ⟨σd, S, B, F, φ, s, rs, o⟩ := q
  obtain ⟨d, S1, e1, b, S2, e2, k⟩ := okT_bnd o
  refine LE.then_ s rs e1 fun F1 φ1 H1 x s1 x1 rs1 dr1 l1 => ?_
  obtain ⟨rfl, h⟩ := truD_ok s1 e2 dr1 l1
  exact ⟨b, h, k F1 φ1 H1 s1 x1⟩
/-- x or y, x and y by truth -/
def dOrT (a b : ME) : ME := fun σ S => bnd (a σ S) fun d S1 => bnd (truD d S1) fun t S2 => if t = true then some (d, S2) else b σ S2
def dAndT (a b : ME) : ME := fun σ S => bnd (a σ S) fun d S1 => bnd (truD d S1) fun t S2 => if t = true then b σ S2 else some (d, S2)
theorem k_orT {a b : Expr} {rest : List Expr} {ma mb : ME} {pos : Pos} (ha : PE X a (LE X.K cl ma)) (hb : PE X (.BoolOp .Or (b :: rest) pos) (LE X.K cl mb)) : PE X (.BoolOp .Or (a :: b :: rest) pos) (LE X.K cl (dOrT ma mb)) := by
  refine (pe_orT ha hb).imp fun σ H Q q => ?_
  obtain ⟨σd, S, B, F, φ, s, rs, o⟩ := q
  obtain ⟨d, S1, e1, o1⟩ := okE_bnd o
  obtain ⟨t, S2, e2, o2⟩ := okE_bnd o1
  refine LE.then_ s rs e1 fun F1 φ1 H1 x s1 x1 rs1 dr1 l1 => ?_
  obtain ⟨rfl, h⟩ := truD_ok s1 e2 dr1 l1
  refine ⟨t, h, ?_⟩
  split
  · rename_i ht; rw [if_pos ht] at o2; exact o2.fin rfl s1 x1 dr1 l1
  · rename_i ht; rw [if_neg ht] at o2; exact ⟨σd, S2, B, F1, φ1, s1, rs1, o2.ext x1⟩
theorem k_andT {a b : Expr} {rest : List Expr} {ma mb : ME} {pos : Pos} (ha : PE X a (LE X.K cl ma)) (hb : PE X (.BoolOp .And (b :: rest) pos) (LE X.K cl mb)) : PE X (.BoolOp .And (a :: b :: rest) pos) (LE X.K cl (dAndT ma mb)) := by
  refine (pe_andT ha hb).imp fun σ H Q q => ?_
  obtain ⟨σd, S, B, F, φ, s, rs, o⟩ := q
  obtain ⟨d, S1, e1, o1⟩ := okE_bnd o
  obtain ⟨t, S2, e2, o2⟩ := okE_bnd o1
  refine LE.then_ s rs e1 fun F1 φ1 H1 x s1 x1 rs1 dr1 l1 => ?_
  obtain ⟨rfl, h⟩ := truD_ok s1 e2 dr1 l1
  refine ⟨t, h, ?_⟩
  split
  · rename_i ht; rw [if_pos ht] at o2; exact ⟨σd, S2, B, F1, φ1, s1, rs1, o2.ext x1⟩
  · rename_i ht; rw [if_neg ht] at o2; exact o2.fin rfl s1 x1 dr1 l1
/-! ### chains of comparisons -/
def dChain (f g : D → D → SH → Option (D × SH)) (a b c : ME) : ME := fun σ S => bnd (a σ S) fun x S1 => bnd (b σ S1) fun y S2 => bnd (f x y S2) fun z S3 => bnd (toB z S3) fun t S4 => if t = true then bnd (c σ S4) fun w S5 => g y w S5 else some (.p (.bl false), S4)
theorem e_chain {f g : D → D → SH → Option (D × SH)} {r r' : R2} {ma mb mc : ME} {σ : L2.St} {H : Hp} {Q : VK} (h1 : OpD K cl f r) (h2 : OpD K cl g r') (q : LE K cl (dChain f g ma mb mc) σ H Q) :
    tChain r r' (LE K cl ma) (LE K cl mb) (LE K cl mc) σ H Q := by
  obtain ⟨σd, S, B, F, φ, s, rs, o⟩ := q
  obtain ⟨d1, S1, e1, o1⟩ := okE_bnd o
  obtain ⟨d2, S2, e2, o2⟩ := okE_bnd o1
  obtain ⟨d3, S3, e3, o3⟩ := okE_bnd o2
  obtain ⟨t, S4, e4, o4⟩ := okE_bnd o3
  obtain ⟨ed, es⟩ := toB_of e4
  subst ed es
  refine LE.then_ s rs e1 fun F1 φ1 H1 x s1 x1 rs1 dr1 l1 => LE.then_ s1 rs1 e2 fun F2 φ2 H2 y s2 x2 rs2 dr2 l2 => ?_
  refine h1 S2 B F2 φ2 H2 d1 d2 x y _ s2 (x2.dr l1 dr1) dr2 (x2.lt l1) l2 ⟨_, _, e3, fun F3 φ3 H3 z s3 x3 dr3 l3 => ⟨t, drB dr3, ?_⟩⟩
  have x123 := (x1.trans x2).trans x3
  split
  · rename_i ht; rw [if_pos ht] at o4
    obtain ⟨d5, S5, e5, o5⟩ := okE_bnd (o4.ext x123)
    refine LE.then_ s3 (x3.rs rs2) e5 fun F5 φ5 H5 w s5 x5 rs5 dr5 l5 => ?_
    have x35 := x3.trans x5
    exact h2 S5 B F5 φ5 H5 d2 d5 y w Q s5 (x35.dr l2 dr2) dr5 (x35.lt l2) l5 (o5.ext x5)
  · rename_i ht; rw [if_neg ht] at o4
    exact o4.fin rfl s3 x123 (Rp.bl _) trivial
theorem k_chain {op op' : CmpOp} {r r' : R2} {f g : D → D → SH → Option (D × SH)} {a b c : Expr} {ma mb mc : ME} {pos : Pos} (h1 : OpD X.K cl f r) (h2 : OpD X.K cl g r') (ho : OpR X (compareOp op) r) (ho' : OpR X (compareOp op') r') (ha : PE X a (LE X.K cl ma)) (hb : PE X b (LE X.K cl mb)) (hc : PE X c (LE X.K cl mc))
    (hm : lastMarks [op, op'] [b, c] = false := by with_unfolding_all rfl) : PE X (.Compare a [op, op'] [b, c] pos) (LE X.K cl (dChain f g ma mb mc)) :=
  (pe_chain ho ho' ha hb hc hm).imp fun _ _ _ q => e_chain h1 h2 q
theorem t_chain {op op' : CmpOp} {r r' : R2} {f g : D → D → SH → Option (D × SH)} {a b c : Expr} {ma mb mc : ME} {pos : Pos} (h1 : OpD X.K cl f r) (h2 : OpD X.K cl g r') (ho : OpR X (compareOp op) r) (ho' : OpR X (compareOp op') r') (ha : PE X a (LE X.K cl ma)) (hb : PE X b (LE X.K cl mb)) (hc : PE X c (LE X.K cl mc))
    (hm : lastMarks [op, op'] [b, c] = false := by with_unfolding_all rfl) : PT X (.Compare a [op, op'] [b, c] pos) (LT X.K cl (dTest (dChain f g ma mb mc))) :=
  (pt_chain ho ho' ha hb hc hm).imp fun _ _ _ q => e_chain h1 h2 (e_test q)
/-! ### name op= e, o[i] op= e -/
def dAug (i : Nat) (f : D → D → SH → Option (D × SH)) (e : ME) : MS := fun σ S => match σ[i]? with
  | some (some d) => bnd (e σ S) fun y S1 => bnd (f d y S1) fun z S2 => some (.nx (σ.set i (some z)), S2)
  | _ => none
theorem PIp.of {op : Operator} {r : R2} (h : OpR X (inplaceOp op) r) : PIp X op r := fun pins s σ H x y v u Q I rx ry q => h pins s σ H x y v u Q I rx ry q
theorem s_aug {i : Nat} {x : Str} {e : Expr} {me : ME} {op : Operator} {f : D → D → SH → Option (D × SH)} {r : R2} {pos pos' : Pos} (hd : OpD X.K cl f r) (ho : OpR X (inplaceOp op) r) (hN : X.N.Nodup) (hi : X.N[i]? = some x) (hx : Loc X.env.scope x) (he : PE X e (LE X.K cl me)) (hf : X.fn x = true ∨ X.env.scope.names.lookup x = some .local := by first | exact .inl rfl | exact .inr rfl | assumption) :
    PS X (.AugAssign (.Name x pos') op e pos) (LS X.K cl (dAug i f me)) := by
  refine (ps_aug hN hi hx he (PIp.of ho) hf).imp fun Z σ H q => ?_
  obtain ⟨σd, S, B, F, φ, s, rs, o⟩ := q
  unfold dAug at o
  split at o
  · rename_i d hd'
    obtain ⟨y, S1, e1, o1⟩ := okS_bnd o
    obtain ⟨z, S2, e2, o2⟩ := okS_bnd o1
    obtain ⟨_, _, ez, k⟩ := o2
    cases ez
    obtain ⟨l, v, hv, dr⟩ := rs.2 i d hd'
    refine ⟨v, hv, LE.then_ s rs e1 fun F1 φ1 H1 u s1 x1 rs1 dr1 l1 => ?_⟩
    exact hd S1 B F1 φ1 H1 d y v u _ s1 (x1.dr l dr) dr1 (x1.lt l) l1 ⟨z, S2, e2, fun F2 φ2 H2 w s2 x2 dr2 l2 => k F2 φ2 H2 _ s2 (x1.trans x2) ((x2.rs rs1).set i dr2 l2)⟩
  · obtain ⟨_, _, z, _⟩ := o; cases z
theorem i_add {live : Bool} : True := trivial
def ixL (o i : D) (S : SH) : Option D := match o, i with
  | .ref n, .p (.int k) => (match S.os[n]? with | some (.lst ds) => atI ds k | _ => none)
  | _, _ => none
theorem ixL_ok {S : SH} {B : List Nat} {F : Hp} {φ : Nat → Addr} {H : Hp} {o i d : D} {x y : V} (s : Sim K cl S B F φ H) (e : ixL o i S = some d) (r1 : DR K cl F φ o x) (r2 : DR K cl F φ i y) : ∃ a vs k v, x = .ref a ∧ y = .int k ∧ SqL K H a vs ∧ atI vs k = some v ∧ DR K cl F φ d v ∧ d.lt S.len := by
  unfold ixL at e
  split at e
  · rename_i n k
    split at e
    · rename_i ds q
      obtain ⟨vs, ev, rv⟩ := (s.ob n _ q).2
      obtain ⟨v, hv, rv', hm⟩ := atI_dra rv e
      exact ⟨φ n, vs, k, v, r1, drI r2, .inl (.inl ev), hv, rv', s.wf n _ q d hm⟩
    · cases e
  · cases e
def dAugS (o i e : ME) (f : D → D → SH → Option (D × SH)) : MS := fun σ S => bnd (o σ S) fun x S1 => bnd (i σ S1) fun y S2 => match ixL x y S2 with
  | some old => bnd (e σ S2) fun v S4 => bnd (f old v S4) fun z S5 => match setIx x y z S5 with | some S6 => some (.nx σ, S6) | none => none
  | none => none
theorem get_seqL : PGet X (rIxL X.K) := by
  intro pins s σ H x y v u Q I rx ry h
  obtain ⟨p, xs, i, z, rfl, rfl, hq, he, q⟩ := h
  cases rx
  obtain ⟨t, rfl⟩ := ry
  obtain ⟨its, r, pl, hz⟩ := I.list hq
  obtain ⟨j, h1, h2, h3, h4, h5⟩ := atI_get he
  obtain ⟨w, ew, rw'⟩ := r.get h2
  have hl := r.length
  have hn := line63
  have fin : EP X pins σ Q w s := ⟨z, H, I, rw', q⟩
  by_cases h0 : 0 ≤ i
  · have hj : i.toNat = j := by
      rw [seqIndex_of h0 h5] at h1
      exact Option.some.inj h1
    exact getItem_listL pl.isList h0 (by omega) (by rw [hj]; exact ew) fin
  · have hj : (i + (its.toArray.size : Int)).toNat = j := by
      rw [seqIndex_neg (by omega) h4] at h1
      rw [List.size_toArray, ← hl]
      exact Option.some.inj h1
    exact wpAny_getItem_list_neg pl.isList (by omega) (by rw [List.size_toArray] <;> omega) (by omega) (by rw [hj]; simpa using ew) fin
theorem s_augS {o i e : Expr} {mo mi me : ME} {op : Operator} {f : D → D → SH → Option (D × SH)} {r : R2} {pos tpos : Pos} (hd : OpD X.K cl f r) (hop : OpR X (inplaceOp op) r) (ho : PE X o (LE X.K cl mo)) (hi : PE X i (LE X.K cl mi)) (he : PE X e (LE X.K cl me))
    (ha : ∀ ov iv new, augStore i ov iv new = (do holding [new, ov, iv] (setItem ov iv new); release [new, ov, iv] []; pure .next) := by intros; rfl) : PS X (.AugAssign (.Subscript o i tpos) op e pos) (LS X.K cl (dAugS mo mi me f)) := by
  refine (ps_augS ho hi get_seqL he (PIp.of hop) set_list ha).imp fun Z σ H q => ?_
  obtain ⟨σd, S, B, F, φ, s, rs, o0⟩ := q
  obtain ⟨x, S1, e1, o1⟩ := okS_bnd o0
  obtain ⟨y, S2, e2, o2⟩ := okS_bnd o1
  split at o2
  · rename_i old e3
    obtain ⟨v, S4, e4, o4⟩ := okS_bnd o2
    obtain ⟨z, S5, e5, o5⟩ := okS_bnd o4
    refine LE.then_ s rs e1 fun F1 φ1 H1 u s1 x1 rs1 dr1 l1 => LE.then_ s1 rs1 e2 fun F2 φ2 H2 w s2 x2 rs2 dr2 l2 => ?_
    cases e6 : setIx x y z S5 with
    | none => rw [e6] at o5; obtain ⟨_, _, z, _⟩ := o5; cases z
    | some S6 =>
      rw [e6] at o5
      obtain ⟨_, _, ez, k⟩ := o5
      cases ez
      obtain ⟨a, vs, i0, v0, eu, ew, q, hv0, rv0, l0⟩ := ixL_ok s2 e3 (x2.dr l1 dr1) dr2
      refine ⟨a, vs, i0, v0, eu, ew, q, hv0, ?_⟩
      refine LE.then_ s2 rs2 e4 fun F4 φ4 H4 y' s4 x4 rs4 dr4 l4 => ?_
      refine hd S4 B F4 φ4 H4 old v v0 y' _ s4 (x4.dr l0 rv0) dr4 (x4.lt l0) l4 ⟨z, S5, e5, fun F5 φ5 H5 z' s5 x5 dr5 l5 => ?_⟩
      have x45 := x4.trans x5
      obtain ⟨p, xs, k0, j, h1, h2, h3, h4, s6, x6⟩ := setIx_ok e6 s5 ((x2.trans x45).dr l1 dr1) (x45.dr l2 dr2) dr5 l5
      exact ⟨p, xs, k0, j, h1, h2, h3, h4, k _ _ _ σ s6 (((x1.trans x2).trans x45).trans x6) ((x5.trans x6).rs rs4)⟩
  · obtain ⟨_, _, z, _⟩ := o2; cases z
/-! ### the in-place operators -/
theorem iop_mulG : OpR X (inplaceOp .Mult) (rI (fun i j => CMul i j ∨ CMulW i j) fun i j => .int (i * j)) := opI fun i j _ _ _ _ _ hc q => imul_int q (hc.elim (fun h => h.ok) fun h => h.ok)
theorem iop_fdivW : OpR X (inplaceOp .FloorDiv) (rI CDivW fun i j => .int (i / j)) := opI fun i j _ _ _ _ _ hc q => by
  have h1 : (0 : Int) < j := hc.1
  exact ifloordiv_int (by omega) (by rw [Int.fdiv_eq_ediv_of_nonneg i (by omega)]; exact q) (.inl (PyProof.noPylong_of_log2 hc.2))
/-- int += int, text += text (a list's += changes the list: not here) -/
def fAug (d e : D) (S : SH) : Option (D × SH) := match d, e with
  | .p (.int i), .p (.int j) => some (.p (.int (i + j)), S)
  | .p (.str a), .p (.str b) => if a.length + b.length ≤ sizeLine then some (.p (.str (a ++ b)), S) else none
  | _, _ => none
def rAugG : R2 := fun x y H Q => rI0 (fun i j => .int (i + j)) x y H Q ∨ (∃ i j, x = .str i ∧ y = .str j ∧ i.length + j.length ≤ sizeLine ∧ Q (.str (i ++ j)) H)
theorem io_add : OpR X (inplaceOp .Add) rAugG := iop_add.or iop_add_str
theorem d_aug : OpD K cl fAug rAugG := by
  intro S B F φ H d1 d2 x y Q s r1 r2 l1 l2 o
  unfold fAug at o
  split at o
  · exact .inl ⟨_, _, drI r1, drI r2, o.fin0 rfl s (Rp.int _) trivial⟩
  · split at o
    · rename_i h
      exact .inr ⟨_, _, drS r1, drS r2, h, o.fin0 rfl s (Rp.str _) trivial⟩
    · exact o.no
  · exact o.no
/-! ### signs -/
def fOrd : MF := fun ds S => match ds with
  | [.p (.str z)] => if z.length = 1 then some (.p (.int (z.cps.getD 0 0 : Nat)), S) else none
  | _ => none
def rOrdG : List V → Hp → VK → Prop := fun xs H Q => ∃ x, xs = [.str x] ∧ x.length = 1 ∧ Q (.int (x.cps.getD 0 0 : Nat)) H
theorem c_ord : CallR X (.builtin "ord") rOrdG := call_ord
theorem d_ord : CallD K cl fOrd rOrdG := by
  intro S B F φ H ds xs Q s r l o
  unfold fOrd at o
  split at o
  · split at o
    · rename_i z h
      obtain ⟨x, rfl, rx⟩ := dra1 r
      exact ⟨z, by rw [drS rx], h, o.fin0 rfl s (Rp.int _) trivial⟩
    · exact o.no
  · exact o.no
def fChr : MF := fun ds S => match ds with
  | [.p (.int i)] => if 0 ≤ i ∧ i ≤ 1114111 then some (.p (.str ⟨#[i.toNat]⟩), S) else none
  | _ => none
def rChrG : List V → Hp → VK → Prop := fun xs H Q => ∃ i, xs = [.int i] ∧ 0 ≤ i ∧ i ≤ 1114111 ∧ Q (.str ⟨#[i.toNat]⟩) H
theorem c_chr : CallR X (.builtin "chr") rChrG := call_chr
theorem d_chr : CallD K cl fChr rChrG := by
  intro S B F φ H ds xs Q s r l o
  unfold fChr at o
  split at o
  · split at o
    · rename_i i h
      obtain ⟨x, rfl, rx⟩ := dra1 r
      exact ⟨i, by rw [drI rx], h.1, h.2, o.fin0 rfl s (Rp.str _) trivial⟩
    · exact o.no
  · exact o.no
/-- one sign in a text -/
def fInS (neg : Bool) (d e : D) (S : SH) : Option (D × SH) := match d, e with
  | .p (.str y), .p (.str z) => if y.cps.size = 1 then some (.p (.bl (if neg = true then !decide (y.cps.getD 0 0 ∈ z.cps.toList) else decide (y.cps.getD 0 0 ∈ z.cps.toList))), S) else none
  | _, _ => none
def rInSG (neg : Bool) : R2 := fun x y H Q => ∃ (c : Nat) (z : Str), x = .str ⟨#[c]⟩ ∧ y = .str z ∧ Q (.bl (if neg = true then !decide (c ∈ z.cps.toList) else decide (c ∈ z.cps.toList))) H
theorem o_inS : OpR X (compareOp .In) (rInSG false) := by
  intro pins s σ H x y v u Q I rx ry h
  obtain ⟨c, z, h1, h2, q⟩ := h
  exact op_in_sign pins s σ H x y v u Q I rx ry ⟨c, z, h1, h2, by simpa using q⟩
theorem o_notinS : OpR X (compareOp .NotIn) (rInSG true) := by
  intro pins s σ H x y v u Q I rx ry h
  obtain ⟨c, z, h1, h2, q⟩ := h
  exact op_notIn_sign pins s σ H x y v u Q I rx ry ⟨c, z, h1, h2, by simpa using q⟩
theorem d_inS {neg : Bool} : OpD K cl (fInS neg) (rInSG neg) := by
  intro S B F φ H d1 d2 x y Q s r1 r2 l1 l2 o
  unfold fInS at o
  split at o
  · rename_i w z
    split at o
    · rename_i hs
      refine ⟨w.cps.getD 0 0, z, ?_, drS r2, o.fin0 rfl s (Rp.bl _) trivial⟩
      rw [drS r1]
      obtain ⟨cs⟩ := w
      have hs : cs.size = 1 := hs
      congr 2
      apply Array.ext
      · simpa using hs
      · intro i h1 h2
        have : i = 0 := by simp at h2; omega
        subst this
        simp [Array.getD, hs]
    · exact o.no
  · exact o.no
/-- sep.join(texts) -/
def strsOf : List D → Option (List Str)
  | [] => some []
  | .p (.str i) :: r => (strsOf r).map (i :: ·)
  | _ => none
@[simp] theorem strsOf_map (ns : List Str) : strsOf (ns.map fun n => D.p (.str n)) = some ns := by
  induction ns with
  | nil => rfl
  | cons x r ih => simp [strsOf, ih]
theorem strsOf_of : ∀ {ds : List D} {ns : List Str} {F : Hp} {φ : Nat → Addr} {vs : List V}, strsOf ds = some ns → DRA K cl F φ ds vs → vs = ns.map V.str
  | [], ns, F, φ, vs, h, r => by cases h; cases r; rfl
  | .p (.str i) :: r, ns, F, φ, vs, h, q => by
    unfold strsOf at h
    cases e : strsOf r with
    | none => rw [e] at h; cases h
    | some ms =>
      rw [e] at h; cases h
      cases q with
      | cons a b => rw [List.map_cons, ← strsOf_of e b, drS a]
  | .ref n :: r, _, _, _, _, h, _ => by cases h
  | .p .non :: r, _, _, _, _, h, _ => by cases h
  | .p (.bl _) :: r, _, _, _, _, h, _ => by cases h
  | .p (.int _) :: r, _, _, _, _, h, _ => by cases h
  | .p (.tup _) :: r, _, _, _, _, h, _ => by cases h
  | .p (.lst _) :: r, _, _, _, _, h, _ => by cases h
  | .p (.dK _) :: r, _, _, _, _, h, _ => by cases h
  | .p (.dT _) :: r, _, _, _, _, h, _ => by cases h
  | .p (.ins _ _) :: r, _, _, _, _, h, _ => by cases h
def fJoin (d e : D) (S : SH) : Option (D × SH) := match d with
  | .p (.str a) => (match asQ e S with
    | some xs => (match strsOf xs with
      | some ys => if (ys.map (·.length)).sum + ys.length * a.length ≤ 16777216 then some (.p (.str (Txt.join a ys)), S) else none
      | none => none)
    | none => none)
  | _ => none
theorem k_join {o e : Expr} {mo me : ME} {apos pos : Pos} (ho : PE X o (LE X.K cl mo)) (he : PE X e (LE X.K cl me)) (hs : starEach [e] X.env = [(false, eval e X.env)] := by rfl) (hbase : attributeBase o "join" X.env (eval o X.env) = eval o X.env := by rfl) (hline : (apos.endLine == pos.line) = true := by rfl) :
    PE X (.Call (.Attribute o "join" apos) [e] [] pos) (LE X.K cl (dOp fJoin mo me)) := by
  refine (pe_join ho he hs hbase hline).imp fun σ H Q q => ?_
  obtain ⟨σd, S, B, F, φ, s, rs, o⟩ := q
  obtain ⟨d, S1, e1, o1⟩ := okE_bnd o
  obtain ⟨y, S2, e2, o2⟩ := okE_bnd o1
  refine LE.then_ s rs e1 fun F1 φ1 H1 x s1 x1 rs1 dr1 l1 => ?_
  unfold fJoin at o2
  split at o2
  · rename_i a
    refine ⟨⟨a, drS dr1⟩, LE.then_ s1 rs1 e2 fun F2 φ2 H2 v s2 x2 rs2 dr2 l2 => ?_⟩
    split at o2
    · rename_i xs ex
      split at o2
      · rename_i ys ey
        split at o2
        · rename_i hz
          obtain ⟨p, vs, rfl, q, t, m⟩ := asQ_ok s2 ex dr2 l2
          have := strsOf_of ey t
          subst this
          exact ⟨a, p, ys, drS dr1, rfl, q, hz, o2.fin rfl s2 (x1.trans x2) (Rp.str _) trivial⟩
        · exact o2.no
      · exact o2.no
    · exact o2.no
  · exact o2.no
end
end Pv
namespace Pv
open PySem PySem.Spec PyProof.Rows L2
theorem cs_nil {p : Nat → Prop} : ∀ c ∈ ([] : List Nat), p c := fun _ h => absurd h (by simp)
theorem cs_cons {p : Nat → Prop} {a : Nat} {l : List Nat} (h : p a) (t : ∀ c ∈ l, p c) : ∀ c ∈ a :: l, p c := fun c hc => by
  rcases List.mem_cons.mp hc with rfl | hc
  · exact h
  · exact t c hc
abbrev wFuel : Nat := 1000000
theorem u65 {k : Nat} {A : Around} (hr : Room k A) : A.units + 65 < cLine := by have := hr.un; omega
theorem fn_no {P : Program} {w : World} {K : PySem.W.Frag} {mg : Str → Option Value} {base : Heap} {k : Nat} {f : Addr} {fd : FuncData} {ps : List Str} {cl : Nat → Addr} : FnOk P w K mg base CX0 k f fd ps (spOf K cl fun _ _ => none) :=
  ⟨fun vs H Q E h => (by
    obtain ⟨_, _, _, _, _, _, _, _, _, _, z, _⟩ := h; cases z), fun A outer s H args us vs Q E _ _ _ _ h => (by
    obtain ⟨_, _, _, _, _, _, _, _, _, _, z, _⟩ := h; cases z)⟩
section
variable {X : Cx} {K : PySem.W.Frag} {cl : Nat → Addr}
/-- in: a sign in a text, or a datum in a list or tuple -/
def fInG (neg : Bool) (d e : D) (S : SH) : Option (D × SH) := match d, e with
  | .p (.str y), .p (.str z) => fInS neg (.p (.str y)) (.p (.str z)) S
  | d, e => fIn neg d e S
def rInG (K : PySem.W.Frag) (cl : Nat → Addr) (neg : Bool) : R2 := fun x y H Q => rInSG neg x y H Q ∨ rInP K cl neg x y H Q
theorem o_inG (hu : X.A.units + 65 < cLine) : OpR X (compareOp .In) (rInG X.K cl false) := o_inS.or (o_in hu)
theorem o_notinG (hu : X.A.units + 65 < cLine) : OpR X (compareOp .NotIn) (rInG X.K cl true) := o_notinS.or (o_notin hu)
theorem d_inG {neg : Bool} : OpD K cl (fInG neg) (rInG K cl neg) := by
  intro S B F φ H d1 d2 x y Q s r1 r2 l1 l2 o
  unfold fInG at o
  split at o
  · exact .inl (d_inS S B F φ H _ _ x y Q s r1 r2 l1 l2 o)
  · exact .inr (d_in S B F φ H _ _ x y Q s r1 r2 l1 l2 o)
theorem d_addI : OpD K cl (fII (fun _ _ => true) fun i j => .int (i + j)) rAdd := by
  intro S B F φ H d1 d2 x y Q s r1 r2 l1 l2 o
  obtain ⟨i, j, h1, h2, q⟩ := d_II0 (g' := fun i j => .int (i + j)) (fun _ _ _ => .int _) S B F φ H d1 d2 x y Q s r1 r2 l1 l2 o
  exact ⟨i, j, h1, h2, q⟩
theorem d_subI : OpD K cl fSub rSub := by
  intro S B F φ H d1 d2 x y Q s r1 r2 l1 l2 o
  obtain ⟨i, j, h1, h2, q⟩ := d_sub S B F φ H d1 d2 x y Q s r1 r2 l1 l2 o
  exact ⟨i, j, h1, h2, q⟩
end
/-! ### the end -/
def intsP (ns : List Int) : List P := ns.map P.int
theorem rpA_ints {K : PySem.W.Frag} {cl : Nat → Addr} {F : Hp} : ∀ ns : List Int, RpA K cl F (intsP ns) (ns.map V.int)
  | [] => .nil
  | n :: r => .cons (.int n) (rpA_ints r)
open Classical in
/-- the law's promise, from what its computation gives -/
theorem law_of {K : PySem.W.Frag} {cl : Nat → Addr} {m : MF} {a : Addr} {ns : List Int} {H : Hp} {Q : VK} {E : XK} (hs : SqL K H a (ns.map V.int)) (h : m [.p (.lst (intsP ns))] ⟨0, []⟩ = some (.p (.bl true), ⟨0, []⟩)) (q : ∀ H', Q (.bl true) H') : spOf K cl m [.ref a] H Q E := by
  refine ⟨[.p (.lst (intsP ns))], ⟨0, []⟩, [], H, fun _ => 0, ⟨Same.refl _, fun n o e => by simp at e, fun n m h => absurd h (Nat.not_lt_zero _), fun n o e => by simp at e, fun b hb => absurd hb (by simp), Nat.le_refl _⟩, .cons (Rp.lst hs (rpA_ints ns)) .nil, fun d hd => ?_, .p (.bl true), ⟨0, []⟩, h, fun F1 φ1 H1 u s x r l => ?_⟩
  · rw [List.mem_singleton.mp hd]; trivial
  · rw [drB r]; exact q H1
theorem rel_ref {a : Addr} : RelV (.ref a) (.ref a) := rfl
end Pv
/-! sorted(list, key=a def) -/
namespace Pv
open PySem PySem.Spec PyProof.Rows L2
def allSome {α : Type} : List (Option α) → Option (List α)
  | [] => some []
  | some a :: r => (allSome r).map (a :: ·)
  | none :: _ => none
/-- atoms and tuples of these, as the kit's data -/
def pyOf : Nat → P → Option PyData
  | _, .non => some .none
  | _, .bl b => some (.bool b)
  | _, .int i => some (.int i)
  | _, .str x => some (.str x)
  | k + 1, .tup ps => (allSome (ps.map (pyOf k))).map .tuple
  | _, _ => none
def isTup1 : PyData → Bool
  | .tuple (_ :: _) => true
  | _ => false
def noTup : PyData → Bool
  | .tuple _ => false
  | .none => false
  | _ => true
def okKeys (ks : List PyData) : Bool := ks.all (fun a => ks.all (PySem.W.alike a)) && (ks.all isTup1 || ks.all noTup) && ks.all fun a => decide (a.depth ≤ 60)
theorem okKeys_of {ks : List PyData} (h : okKeys ks = true) : PySem.W.AllAlike ks ∧ PySem.W.Sortable ks ∧ ∀ d ∈ ks, d.depth ≤ 60 := by
  unfold okKeys at h
  simp only [Bool.and_eq_true, Bool.or_eq_true, List.all_eq_true, decide_eq_true_eq] at h
  obtain ⟨⟨h1, h2⟩, h3⟩ := h
  refine ⟨h1, ?_, h3⟩
  rcases h2 with h2 | h2
  · refine .inl fun d hd => ?_
    have q := h2 d hd
    unfold isTup1 at q
    split at q
    · exact ⟨_, _, rfl⟩
    · cases q
  · refine .inr fun d hd => ?_
    have q := h2 d hd
    unfold noTup at q
    split at q
    · cases q
    · cases q
    · rename_i n1 n2
      exact ⟨n2, fun xs z => n1 xs z⟩
def keysL (m : MF) : List P → SH → Option (List (P × PyData) × SH)
  | [], S => some ([], S)
  | p :: r, S => bnd (m [.p p] S) fun k S1 => match k with
    | .p q => match pyOf 60 q with
      | some d => bnd (keysL m r S1) fun l S2 => some ((p, d) :: l, S2)
      | none => none
    | _ => none
def sortK (live : Bool) (m : MF) (d : D) (S : SH) : Option (D × SH) := match asL d S with
  | some ds => match toPs ds with
    | some ps => bnd (keysL m ps S) fun l S1 => if okKeys (l.map (·.2)) = true then newL live ((l.mergeSort (PySem.W.dataLe false (·.2))).map fun x => D.p x.1) S1 else none
    | none => none
  | none => none
def dSortK (live : Bool) (m : MF) (me : ME) : ME := fun σ S => bnd (me σ S) (sortK live m)
section
variable {X : Cx} {cl : Nat → Addr} {pins : List (Addr × Obj)} {σ : L2.St} {F H : Hp} {s : Shared}
theorem rdAll (I : L2.Inv X pins σ H s) (sf : Same F H) {k : Nat} (ih : ∀ (p : P) (d : PyData) (v : V) (u : Value), pyOf k p = some d → Rp X.K cl F p v → RelV v u → Reads s.heap u d []) :
    ∀ (ps : List P) (ds : List PyData) (vs : List V) (us : List Value), allSome (ps.map (pyOf k)) = some ds → RpA X.K cl F ps vs → Vals vs us → ReadsAll s.heap us ds [] := by
  intro ps
  induction ps with
  | nil =>
    intro ds vs us e r q
    cases r; cases q
    have e' : ([] : List PyData) = ds := Option.some.inj e
    subst e'
    exact .nil
  | cons p ps hi =>
    intro ds vs us e r q
    cases r with
    | cons r1 r2 =>
      cases q with
      | cons q1 q2 =>
        rw [List.map_cons] at e
        cases e1 : pyOf k p with
        | none => rw [e1] at e; cases e
        | some d =>
          rw [e1] at e
          cases e2 : allSome (ps.map (pyOf k)) with
          | none => rw [allSome, e2] at e; cases e
          | some ds' =>
            rw [allSome, e2] at e
            have e' : d :: ds' = ds := Option.some.inj e
            subst e'
            have q := ReadsAll.cons (ih _ _ _ _ e1 r1 q1) (hi _ _ _ e2 r2 q2)
            exact q
theorem rdR (I : L2.Inv X pins σ H s) (sf : Same F H) : ∀ (k : Nat) (p : P) (d : PyData) (v : V) (u : Value), pyOf k p = some d → Rp X.K cl F p v → RelV v u → Reads s.heap u d [] := by
  intro k
  induction k with
  | zero =>
    intro p d v u e r q
    cases r <;> first | (cases e; done) | skip
    · cases e; cases q; exact .none
    · cases e; cases q; exact .bool _
    · cases e; obtain ⟨t, rfl⟩ := q; exact .int _ t
    · cases e; obtain ⟨t, rfl⟩ := q; exact .str _ t
  | succ k ih =>
    intro p d v u e r q
    cases r <;> first | (cases e; done) | skip
    · cases e; cases q; exact .none
    · cases e; cases q; exact .bool _
    · cases e; obtain ⟨t, rfl⟩ := q; exact .int _ t
    · cases e; obtain ⟨t, rfl⟩ := q; exact .str _ t
    · rename_i a ps vs st ra
      cases q
      rw [pyOf] at e
      cases e1 : allSome (ps.map (pyOf k)) with
      | none => rw [e1] at e; cases e
      | some ds =>
        rw [e1] at e
        have e' : PyData.tuple ds = d := Option.some.inj e
        subst e'
        obtain ⟨its, rv, ⟨o, n, h1, h2, h3⟩, _⟩ := I.tuple (SqT.mono sf st)
        exact .tuple ‹_› ‹_› ‹_› (rdAll I sf ih ps ds vs its e1 ra rv)
theorem map_fst_of {α β : Type} {l : List (α × β)} : ∀ {ps : List α}, l.map (·.1) = ps → l.length = ps.length := fun h => by rw [← h, List.length_map]
theorem keysL_fst {m : MF} : ∀ {ps : List P} {S S1 : SH} {l : List (P × PyData)}, keysL m ps S = some (l, S1) → l.map (·.1) = ps
  | [], S, S1, l, h => by cases h; rfl
  | p :: r, S, S1, l, h => by
    unfold keysL at h
    obtain ⟨k, S2, e1, h⟩ := bnd_of h
    cases k with
    | ref n => cases h
    | p q =>
      dsimp only at h
      cases e2 : pyOf 60 q with
      | none => rw [e2] at h; cases h
      | some d =>
        rw [e2] at h
        obtain ⟨l', S3, e3, h⟩ := bnd_of h
        cases h
        rw [List.map_cons, keysL_fst e3]

theorem vals_at : ∀ {xs : List V} {us : List Value} {i : Nat} {u : Value}, Vals xs us → us[i]? = some u → ∃ x, xs[i]? = some x ∧ RelV x u
  | _, _, _, _, .nil, e => by simp at e
  | _, _, 0, _, .cons r _, e => by simp at e; subst e; exact ⟨_, rfl, r⟩
  | _, _, i + 1, u, .cons _ t, e => by
    obtain ⟨x, h1, h2⟩ := vals_at (i := i) (u := u) t (by simpa using e)
    exact ⟨x, by simpa using h1, h2⟩
theorem rpa_snoc {K : PySem.W.Frag} {p : P} {v : V} (r : Rp K cl F p v) : ∀ {ps : List P} {vs : List V}, RpA K cl F ps vs → RpA K cl F (ps ++ [p]) (vs ++ [v])
  | _, _, .nil => .cons r .nil
  | _, _, .cons a b => .cons a (rpa_snoc r b)
theorem upd_none {h : Heap} {a b : Addr} {o : Obj} (e : h.get? b = some o) (n : b ≠ a) {f : Obj → Obj} : (h.update a f).get? b = some o := (Heap.get?_update_ne _ _ _ _ n).trans e
/-- a heap without the object at a -/
def lessH (h : Heap) (a : Addr) : Heap := h.update a fun o => { o with data := .freed }
theorem lessH_at (h : Heap) (a : Addr) : (lessH h a).get? a = none := by
  unfold lessH Heap.get?
  rw [Heap.objs_update_self]
  cases h.objs[a]? <;> rfl
theorem rp_each {K : PySem.W.Frag} : ∀ {l : List (P × PyData)} {vs : List V} {us : List Value}, RpA K cl F (l.map (·.1)) vs → Vals vs us → PySem.W.EachIs (fun (u : Value) (x : P × PyData) => ∃ v, RelV v u ∧ Rp K cl F x.1 v) us l
  | [], _, _, r, q => by
    cases r; cases q; exact .nil
  | x :: l, _, _, r, q => by
    rw [List.map_cons] at r
    cases r with
    | cons r1 r2 =>
      cases q with
      | cons q1 q2 => exact .cons ⟨_, q1, r1⟩ (rp_each r2 q2)
theorem each_rp {K : PySem.W.Frag} : ∀ {l : List (P × PyData)} {us : List Value}, PySem.W.EachIs (fun (u : Value) (x : P × PyData) => ∃ v, RelV v u ∧ Rp K cl F x.1 v) us l → ∃ vs : List V, Vals vs us ∧ RpA K cl F (l.map (·.1)) vs
  | _, _, .nil => ⟨[], .nil, .nil⟩
  | _, _, .cons ⟨v, q1, r1⟩ e => by
    obtain ⟨vs, q2, r2⟩ := each_rp e
    exact ⟨v :: vs, .cons q1 q2, .cons r1 r2⟩
theorem key_each (I : L2.Inv X pins σ H s) (sf : Same F H) : ∀ {l : List (P × PyData)} {kps : List P} {kv : List V} {us : List Value}, kps.map (pyOf 60) = l.map (fun x => some x.2) → RpA X.K cl F kps kv → Vals kv us → PySem.W.EachIs (fun v d => ∃ as, Reads s.heap v d as) us (l.map (·.2))
  | [], [], _, _, _, r, q => by
    cases r; cases q; exact .nil
  | [], _ :: _, _, _, e, _, _ => by cases e
  | _ :: _, [], _, _, e, _, _ => by cases e
  | x :: l, p :: kps, _, _, e, r, q => by
    rw [List.map_cons, List.map_cons] at e
    injection e with e1 e2
    cases r with
    | cons r1 r2 =>
      cases q with
      | cons q1 q2 => exact .cons ⟨[], rdR I sf 60 _ _ _ _ e1 r1 q1⟩ (key_each I sf e2 r2 q2)
def rSortK (K : PySem.W.Frag) (cl : Nat → Addr) (live : Bool) (m : MF) (f : Addr) : List V → List V → Hp → VK → Prop := fun vs zs H Q => zs = [V.ref f] ∧ ∃ d v S B F φ, vs = [v] ∧ Sim K cl S B F φ H ∧ DR K cl F φ d v ∧ d.lt S.len ∧ OkE K cl S B F φ H (sortK live m d S) Q
theorem fpAt {H' : Hp} {b : Addr} (f : FpOk X pins H b) (n : H' b = none) : FpOk X pins H' b := ⟨n, f.2⟩
theorem pins2 {a b : Addr} {oa ob : Obj} (I : L2.Inv X pins σ H s) (fa : FpOk X pins H a) (fb : FpOk X pins H b) (ha : s.heap.get? a = some oa) (hb : s.heap.get? b = some ob) (ca : ∀ v, oa.data ≠ .cell v) (cb : ∀ v, ob.data ≠ .cell v) : L2.Inv X (pins ++ [(a, oa), (b, ob)]) σ H s := by
  refine I.pins_of fun p hp => ?_
  rcases List.mem_append.mp hp with hp | hp
  · exact I.pin p (List.mem_append_right _ hp)
  · rcases List.mem_cons.mp hp with rfl | hp
    · exact ⟨ha, fa.1, fa.2.1, fa.2.2.1, ca⟩
    · rw [List.mem_singleton.mp hp]
      exact ⟨hb, fb.1, fb.2.1, fb.2.2.1, cb⟩
theorem sortK_run {k : Nat} {f : Addr} {fd : FuncData} {ps0 : List Str} {m : MF} {live : Bool} (FN : FnOk X.prog X.w X.K X.mg X.base CX0 k f fd ps0 (spOf X.K cl m)) (hr : Room (k + 2) X.A) (hb : Binds X.K fd ps0 []) : CallRK X (.builtin "sorted") [Str.ofString "key"] (rSortK X.K cl live m f) := by
  intro pins s σ H vs zs us ws Q I rv rz h
  obtain ⟨rfl, d, v, S, B, F0, φ, rfl, sim, dr, l, o⟩ := h
  obtain rfl := Vals.ref1 rz
  unfold sortK at o
  cases e1 : asL d S with
  | none => rw [e1] at o; obtain ⟨_, _, z, _⟩ := o; cases z
  | some ds =>
  rw [e1] at o
  dsimp only at o
  cases e2 : toPs ds with
  | none => rw [e2] at o; obtain ⟨_, _, z, _⟩ := o; cases z
  | some ps =>
  rw [e2] at o
  dsimp only at o
  obtain ⟨la, xs, rfl, hs, ra, lx⟩ := asL_ok sim e1 dr l
  obtain rfl := toPs_of e2
  obtain ⟨l0, S1, ek, o⟩ := okE_bnd o
  by_cases hok : okKeys (l0.map (·.2)) = true
  case neg => rw [if_neg hok] at o; obtain ⟨_, _, z, _⟩ := o; cases z
  rw [if_pos hok] at o
  obtain ⟨hal, hsk, hdp⟩ := okKeys_of hok
  obtain ⟨its, rvi, hl, hz⟩ := I.list hs
  obtain rfl := Vals.ref1 rv
  have ra0 : RpA X.K cl F0 ps xs := ra.rpa
  have hil : its.length = xs.length := rvi.length.symm
  have hpl : ps.length = xs.length := ra0.len
  have hl0 : l0.map (·.1) = ps := keysL_fst ek
  have hll : l0.length = ps.length := map_fst_of hl0
  refine PySem.W.sorted_of_sort hl.isList (by omega) (ksk_s1 _ _) (fun _ => ksk_l1 _ _) fun E' => ?_
  show wpAny (model X.prog X.w) X.A.in1.in1 (ksk_tree (s.heap.objs.size + 1) (.ref f) false) _ E' _
  have n1 := PySem.W.copyHeap_at s.heap its
  generalize hG : PySem.W.copyHeap s.heap its = G at n1
  have kG : ∀ b u, s.heap.get? b = some u → G.get? b = some u := fun b u e => by rw [← hG]; exact PySem.W.copyHeap_old e
  have zG : s.heap.objs.size + 1 < G.objs.size := Heap.lt_size n1
  generalize hA : s.heap.objs.size + 1 = A1 at n1 zG
  have nA : ∀ b u, s.heap.get? b = some u → b ≠ A1 := fun b u e z => absurd (Heap.lt_size e) (by rw [z, ← hA]; exact Nat.not_lt.mpr (Nat.le_succ _))
  obtain ⟨e1', n2⟩ : ∃ q, (G.update A1 (Obj.mapSeq fun _ => (#[] : Array Value))).get? A1 = some (seqObj "list" #[] q) := ⟨_, get?_update_seq n1 fun _ => #[]⟩
  unfold ksk_tree
  refine wpAny_bind (listItems_at n1 rfl ?_)
  refine wpAny_bind (listUpdate_at n1 rfl ?_ (by rw [List.size_toArray]; omega) (Nat.zero_le _))
  refine wpAny_bind (seqEpoch_at n2 rfl ?_)
  refine wpAny_bind (wpAny_newTuple ?_ (by show its.length ≤ _; omega))
  refine wpAny_bind (wpAny_newList ?_ (Nat.zero_le _))
  refine wpAny_holding ?_
  have n3 := Heap.get?_push_size (((G.update A1 (Obj.mapSeq fun _ => (#[] : Array Value))).push (seqObj "tuple" its.toArray 0))) (o := seqObj "list" #[] 0) rfl
  have zU : (G.update A1 (Obj.mapSeq fun _ => (#[] : Array Value))).objs.size = G.objs.size := Heap.size_update _ _ _
  have zP : ((G.update A1 (Obj.mapSeq fun _ => (#[] : Array Value))).push (seqObj "tuple" its.toArray 0)).objs.size = G.objs.size + 1 := by rw [size_push', zU]
  have n4 : (((G.update A1 (Obj.mapSeq fun _ => (#[] : Array Value))).push (seqObj "tuple" its.toArray 0)).push (seqObj "list" #[] 0)).get? A1 = some (seqObj "list" #[] e1') := Heap.get?_push_of_some _ (Heap.get?_push_of_some _ n2)
  have kT : ∀ b u, s.heap.get? b = some u → (((G.update A1 (Obj.mapSeq fun _ => (#[] : Array Value))).push (seqObj "tuple" its.toArray 0)).push (seqObj "list" #[] 0)).get? b = some u := fun b u e =>
    Heap.get?_push_of_some _ (Heap.get?_push_of_some _ (upd_none (kG b u e) (nA b u e)))
  show wpAny _ _ (ksk_rest A1 (.ref f) false its.toArray e1' (.ref ((G.update A1 (Obj.mapSeq fun _ => (#[] : Array Value))).push (seqObj "tuple" its.toArray 0)).objs.size)) _ _ { s with heap := ((G.update A1 (Obj.mapSeq fun _ => (#[] : Array Value))).push (seqObj "tuple" its.toArray 0)).push (seqObj "list" #[] 0) }
  rw [zP] at n3 ⊢
  generalize (((G.update A1 (Obj.mapSeq fun _ => (#[] : Array Value))).push (seqObj "tuple" its.toArray 0)).push (seqObj "list" #[] 0)) = T at n3 n4 kT ⊢
  have hne : A1 ≠ G.objs.size + 1 := by omega
  generalize hK : G.objs.size + 1 = KS at n3 hne ⊢
  have fA : FpOk X pins H A1 := I.fpOk (by omega) (I.hok.fresh (by omega))
  have fK : FpOk X pins H KS := I.fpOk (by omega) (I.hok.fresh (by omega))
  have I0 := I.kept (t' := s.toks) kT
  have nc : ∀ (xs : Array Value) (n : Nat) (v : Option Value), (seqObj "list" xs n).data ≠ .cell v := fun xs n v z => by cases z
  unfold ksk_rest
  refine wpAny_bind (wpAny_rule ?_)
  first
    | rw [List.forIn_toArray]
    | (rw [← Array.forIn_toList]; simp only [List.toList_toArray])
  refine wpAny_bind (ksk_fold (fun i s' => ∃ S2 F2 φ2 H2 kA e l1 l2 kps kv, L2.Inv X (pins ++ [(A1, seqObj "list" #[] e1'), (KS, seqObj "list" kA e)]) σ H2 s' ∧ Sim X.K cl S2 B F2 φ2 H2 ∧ Ext S F0 φ H S2 F2 φ2 H2 ∧ keysL m (ps.drop i) S2 = some (l2, S1) ∧ l0 = l1 ++ l2 ∧ l1.length = i ∧ Vals kv kA.toList ∧ RpA X.K cl F2 kps kv ∧ kps.map (pyOf 60) = l1.map (fun x => some x.2)) its 0 _
    ⟨S, F0, φ, H, #[], 0, [], l0, [], [], pins2 I0 fA fK n4 n3 (nc _ _) (nc _ _), sim, .refl sim, ek, rfl, rfl, .nil, .nil, rfl⟩ ?step ?done)
  case step =>
    rintro j x s' hx ⟨S2, F2, φ2, H2, kA, e, l1, l2, kps, kv, I2, sm, ex, ek2, hla, hlb, rk, rpk, hkp⟩
    simp only [Nat.zero_add] at ek2 hlb ⊢
    have hj : j < its.length := (List.getElem?_eq_some_iff.mp hx).1
    obtain ⟨y, hy, ry⟩ := vals_at rvi hx
    obtain ⟨p, hp, rp⟩ := ra0.get hy
    have hd : ps.drop j = p :: ps.drop (j + 1) := by
      obtain ⟨hp1, hp2⟩ := List.getElem?_eq_some_iff.mp hp
      rw [List.drop_eq_getElem_cons hp1, hp2]
    rw [hd] at ek2
    unfold keysL at ek2
    obtain ⟨kd, S3, em, ek2⟩ := bnd_of ek2
    cases kd with
    | ref n => cases ek2
    | p q =>
    dsimp only at ek2
    cases e3 : pyOf 60 q with
    | none => rw [e3] at ek2; cases ek2
    | some dk =>
    rw [e3] at ek2
    obtain ⟨l3, S4, e4, ek2⟩ := bnd_of ek2
    cases ek2
    have hsp : spOf X.K cl m [y] H2 (fun w H3 => ∃ F3 φ3, Sim X.K cl S3 B F3 φ3 H3 ∧ Ext S2 F2 φ2 H2 S3 F3 φ3 H3 ∧ Rp X.K cl F3 q w) (fun _ _ _ => False) :=
      ⟨[.p p], S2, B, F2, φ2, sm, .cons (Rp.mono ex.fz rp) .nil, fun z hz => by rw [List.mem_singleton.mp hz]; trivial, .p q, S3, em, fun F3 φ3 H3 u s3 x3 r3 l3 => ⟨F3, φ3, s3, x3, r3⟩⟩
    have hlen : [x].length = ps0.length := FN.len _ _ _ _ hsp
    have pA := I2.pin (A1, seqObj "list" #[] e1') (by simp)
    refine wpAny_bind (wpAny_attempt (wpAny_mono (Q := EP X (pins ++ [(A1, seqObj "list" #[] e1'), (KS, seqObj "list" kA e)]) σ (fun w H3 => ∃ F3 φ3, Sim X.K cl S3 B F3 φ3 H3 ∧ Ext S2 F2 φ2 H2 S3 F3 φ3 H3 ∧ Rp X.K cl F3 q w)) (E := fun _ _ => False) (wpAny_call (codeAny_mono (FN.run X.A.in1.in1 X.stack s' H2 ⟨[x], []⟩ [x] [y] _ _ hr.in1.in1 I2.env0.in1.in1 (by
      have bb := hb s' [x] I2.kIn (by rw [List.append_nil]; exact hlen)
      rw [List.append_nil] at bb
      exact bb) (.cons ry .nil) hsp) fun r s'' hq => ?_)) (fun u s'' he => ?_) fun _ _ hF => hF.elim))
    · cases r with
      | error e => exact hq.elim
      | ok fl =>
        cases fl with
        | ret u => exact I2.after hq
        | next => exact False.elim hq
        | brk => exact False.elim hq
        | cont => exact False.elim hq
    · obtain ⟨w, H3, I3, rw', F3, φ3, sm3, ex3, rq⟩ := he
      dsimp only
      have qA := I3.pin (A1, seqObj "list" #[] e1') (by simp)
      have qK := I3.pin (KS, seqObj "list" kA e) (by simp)
      have nk2 : s''.heap.get? KS = some (seqObj "list" kA e) := qK.1
      have na2 : s''.heap.get? A1 = some (seqObj "list" #[] e1') := qA.1
      have hks : kA.size = j := by
        have t1 : kv.length = kA.size := rk.length
        have t2 : kps.length = kv.length := rpk.len
        have t3 := congrArg List.length hkp
        rw [List.length_map, List.length_map] at t3
        rw [← t1, ← t2, t3, hlb]
      obtain ⟨c2, hc2⟩ : ∃ c2, (s''.heap.update KS (Obj.mapSeq (·.push u))).get? KS = some (seqObj "list" (kA.push u) c2) := ⟨_, get?_update_seq nk2 (·.push u)⟩
      refine wpAny_bind (listUpdate_at nk2 rfl ?_ (by omega) (by rw [Array.size_push]; omega))
      refine wpAny_pure ⟨rfl, S3, F3, φ3, H3, kA.push u, c2, l1 ++ [(p, dk)], l3, kps ++ [q], kv ++ [w], ?_, sm3, ex.trans ex3, e4, by rw [hla, List.append_assoc]; rfl, by rw [List.length_append, hlb]; rfl, ?_, ?_, by rw [List.map_append, List.map_append, hkp]; simp [e3]⟩
      · have I4 : L2.Inv X pins σ H3 s'' := I3.pins_of fun p hp => I3.pin p (by simp [hp])
        have fK3 : FpOk X pins H3 KS := fpAt fK qK.2.1
        have I5 := I4.turned (t' := s''.toks) (h' := s''.heap.update KS (Obj.mapSeq (·.push u))) (it := KS) (fun b o hb e => upd_none e hb) qK.2.1 fK3.2.1 fK3.2.2.2.1 fK3.2.2.2.2.1 fK3.2.2.2.2.2
        exact pins2 I5 (fpAt fA qA.2.1) fK3 (upd_none na2 hne) hc2 (nc _ _) (nc _ _)
      · rw [Array.toList_push]
        exact rk.append (.cons rw' .nil)
      · exact rpa_snoc rq (RpA.mono ex3.fz rpk)
  case done =>
    rintro s' ⟨S2, F2, φ2, H2, kA, e, l1, l2, kps, kv, I2, sm, ex, ek2, hla, hlb, rk, rpk, hkp⟩
    have hdn : ps.drop (0 + its.length) = [] := List.drop_eq_nil_of_le (by omega)
    rw [hdn] at ek2
    cases ek2
    rw [List.append_nil] at hla
    subst hla
    have qA := I2.pin (A1, seqObj "list" #[] e1') (by simp)
    have qK := I2.pin (KS, seqObj "list" kA e) (by simp)
    have nk : s'.heap.get? KS = some (seqObj "list" kA e) := qK.1
    have na : s'.heap.get? A1 = some (seqObj "list" #[] e1') := qA.1
    have hea := key_each I2 sm.le hkp rpk rk
    have hsz : kA.size = its.length := by
      have t1 := hea.length
      rw [Array.length_toList, List.length_map] at t1
      omega
    have kp : PySem.W.KeepsBut A1 (lessH s'.heap KS) s'.heap := fun b o hb q => by
      by_cases hbk : b = KS
      · rw [hbk, lessH_at] at q; cases q
      · rw [← q]; exact (Heap.get?_update_ne _ _ _ _ hbk).symm
    refine wpAny_bind (listItems_at nk rfl ?_)
    have un : X.A.in1.in1.units = X.A.units + 2 := rfl
    refine PySem.W.keyH_end (κ := PySem.W.dataKind s'.heap (l0.map (·.2))) (h₁ := lessH s'.heap KS) kp (lessH_at _ _) nk na hne.symm (PySem.W.SortsAt.data (s := s') hea hal hsk fun d hd => by
      have t1 := hdp d hd
      have t2 := hr.un
      omega) hsz (by omega) fun h' tk c k' n' => ?_
    have keep : ∀ b o, b ∉ [A1, KS] → s'.heap.get? b = some o → h'.get? b = some o := fun b o hb q => by
      rw [List.mem_cons, List.mem_singleton, not_or] at hb
      exact k' b o hb.1 (upd_none q hb.2)
    have ko : PySem.W.KeyedOut false (l0.map (·.2)) its (PySem.W.sortVals (PySem.W.dataKind s'.heap (l0.map (·.2))) false kA.toList its) := ⟨s'.heap, kA.toList, hal, rfl, hea⟩
    have ra2 : RpA X.K cl F2 (l0.map (·.1)) xs := by rw [hl0]; exact RpA.mono ex.fz ra0
    obtain ⟨vs', rv', rp'⟩ := each_rp (PySem.W.keyedOut_each (fun x : P × PyData => x.2) ko (rp_each ra2 rvi))
    have I4 : L2.Inv X pins σ H2 s' := I2.pins_of fun p hp => I2.pin p (by simp [hp])
    have fA2 : FpOk X pins H2 A1 := fpAt fA qA.2.1
    have I5 := I4.turnedL (t' := tk) (h' := h') keep fun b hb => by
      rcases List.mem_cons.mp hb with rfl | hb
      · exact fA2
      · rw [List.mem_singleton.mp hb]; exact fpAt fK qK.2.1
    have dr' : DRA X.K cl F2 φ2 ((l0.mergeSort (PySem.W.dataLe false (·.2))).map fun x => D.p x.1) vs' := by
      have q := rp'.dra (φ := φ2)
      rw [List.map_map] at q
      exact q
    have o' := OkE.ext ex o
    obtain ⟨hz', w'⟩ := newL_ok1 o' sm dr' (fun z hz => by
      obtain ⟨y, _, rfl⟩ := List.mem_map.mp hz
      trivial)
    refine ⟨rfl, .ref A1, upd H2 A1 (.lst vs'), ?_, rfl, w' A1 qA.2.1⟩
    exact I5.take (fun _ _ _ q => q) fA2 ⟨hz', _, c, rv', n'⟩

theorem k_sortK {k : Nat} {f : Addr} {fd : FuncData} {ps0 : List Str} {m : MF} {live : Bool} {x y : Str} {p q kpos pos : Pos} {e : Expr} {me : ME} (FN : FnOk X.prog X.w X.K X.mg X.base CX0 k f fd ps0 (spOf X.K cl m)) (hr : Room (k + 2) X.A)
    (hg : Gl X x) (hm : X.mg x = none) (hv : bootBuiltins x = some (.builtin "sorted")) (hg2 : Gl X y) (hm2 : X.mg y = some (.ref f)) (hb : Binds X.K fd ps0 []) (he : PE X e (LE X.K cl me))
    (hn : x ≠ "__name__" := by decide) (hdb : (x == ("__debug__" : Str)) = false := by decide) (hdb2 : (y == ("__debug__" : Str)) = false := by decide)
    (hs : starEach [e] X.env = (false, eval e X.env) :: starEach [] X.env := by rfl) (he1 : backTo pos (starEach [e] X.env) = (false, eval e X.env) :: backTo pos (starEach [] X.env) := by rfl) (hpl : (backTo pos (starEach [e] X.env)).any (·.1) = false := by rfl)
    (hall : (backToKw pos (keywordEach [⟨some (Str.ofString "key"), .Name y q, kpos⟩] X.env)).all (·.1.isSome) = true := by rfl) (hnone : (backToKw pos (keywordEach [⟨some (Str.ofString "key"), .Name y q, kpos⟩] X.env)).any (·.1.isNone) = false := by rfl) (hks : (backToKw pos (keywordEach [⟨some (Str.ofString "key"), .Name y q, kpos⟩] X.env)).filterMap (·.1) = [Str.ofString "key"] := by rfl) :
    PE X (.Call (.Name x p) [e] [⟨some (Str.ofString "key"), .Name y q, kpos⟩] pos) (LE X.K cl (dSortK live m me)) := by
  refine (pe_callBK (sortK_run (live := live) FN hr hb) hg hm hv (pa_cons he pa_nil hs) (pk_cons (pe_glob hg2 hm2 (v := V.ref f) rfl hdb2) pk_nil) hn hdb he1 hpl hall hnone hks).imp fun σ H Q h => ?_
  obtain ⟨σd, S, B, F, φ, s, rs, o⟩ := h
  obtain ⟨d, S1, e1, o⟩ := okE_bnd o
  exact LE.then_ s rs e1 fun F1 φ1 H1 v s1 x1 rs1 dr l => ⟨rfl, d, v, S1, B, F1, φ1, rfl, s1, dr, l, OkE.ext x1 o⟩
end
end Pv
/-! reading the computations by simp -/
namespace Pv
open PySem PySem.Spec PyProof.Rows L2
section
variable {f g : D → D → SH → Option (D × SH)} {u : D → SH → Option (D × SH)} {a b c : ME} {t t1 t2 : MT} {r : MA} {m : MF} {s1 s2 : MS} {σ : En} {S S' : SH}
@[simp] theorem at_dC (x : P) : dC x σ S = some (.p x, S) := id rfl
@[simp] theorem at_dVar (i : Nat) : dVar i σ S = match σ[i]? with | some (some d) => some (d, S) | _ => none := id rfl
@[simp] theorem at_dOp : dOp f a b σ S = bnd (a σ S) fun x S1 => bnd (b σ S1) fun y S2 => f x y S2 := id rfl
@[simp] theorem at_dUn : dUn u a σ S = bnd (a σ S) fun x S1 => u x S1 := id rfl
@[simp] theorem at_dTest : dTest a σ S = bnd (a σ S) toB := id rfl
@[simp] theorem at_dAnd : dAnd t1 t2 σ S = bnd (t1 σ S) fun t S1 => if t = true then t2 σ S1 else some (false, S1) := id rfl
@[simp] theorem at_dOr : dOr t1 t2 σ S = bnd (t1 σ S) fun t S1 => if t = true then some (true, S1) else t2 σ S1 := id rfl
@[simp] theorem at_dNot : dNot t σ S = bnd (t σ S) fun x S1 => some (!x, S1) := id rfl
@[simp] theorem at_dNotV : dNotV a σ S = bnd (a σ S) fun d S1 => bnd (toB d S1) fun t S2 => some (.p (.bl (!t)), S2) := id rfl
@[simp] theorem at_dAndV : dAndV a b σ S = bnd (a σ S) fun d S1 => bnd (toB d S1) fun t S2 => if t = true then b σ S2 else some (.p (.bl false), S2) := id rfl
@[simp] theorem at_dOrV : dOrV a b σ S = bnd (a σ S) fun d S1 => bnd (toB d S1) fun t S2 => if t = true then some (.p (.bl true), S2) else b σ S2 := id rfl
@[simp] theorem at_dIfE : dIfE t a b σ S = bnd (t σ S) fun t S1 => if t = true then a σ S1 else b σ S1 := id rfl
@[simp] theorem at_dNil : dNil σ S = some ([], S) := id rfl
@[simp] theorem at_dCons : dCons a r σ S = bnd (a σ S) fun x S1 => bnd (r σ S1) fun xs S2 => some (x :: xs, S2) := id rfl
@[simp] theorem at_dCall : dCall m r σ S = bnd (r σ S) fun xs S1 => m xs S1 := id rfl
@[simp] theorem at_dNx : dNx σ S = some (.nx σ, S) := id rfl
def seqK (b : MS) : Fl → SH → Option (Fl × SH)
  | .nx σ1, S1 => b σ1 S1
  | r, S1 => some (r, S1)
@[simp] theorem seqK_nx (σ1 : En) : seqK s2 (.nx σ1) S = s2 σ1 S := id rfl
@[simp] theorem seqK_ret (d : D) : seqK s2 (.ret d) S = some (.ret d, S) := id rfl
@[simp] theorem seqK_brk (σ1 : En) : seqK s2 (.brk σ1) S = some (.brk σ1, S) := id rfl
@[simp] theorem seqK_ct (σ1 : En) : seqK s2 (.ct σ1) S = some (.ct σ1, S) := id rfl
@[simp] theorem at_dSeq : dSeq s1 s2 σ S = bnd (s1 σ S) (seqK s2) := by
  unfold dSeq
  congr 1
  funext f S1
  cases f <;> rfl
@[simp] theorem at_dBrk : dBrk σ S = some (.brk σ, S) := id rfl
@[simp] theorem at_dCt : dCt σ S = some (.ct σ, S) := id rfl
@[simp] theorem at_dDrop : dDrop a σ S = bnd (a σ S) fun _ S1 => some (.nx σ, S1) := id rfl
@[simp] theorem at_dRet : dRet a σ S = bnd (a σ S) fun d S1 => some (.ret d, S1) := id rfl
@[simp] theorem at_dRetN : dRetN σ S = some (.ret (.p .non), S) := id rfl
@[simp] theorem at_dIf : dIf t s1 s2 σ S = bnd (t σ S) fun t S1 => if t = true then s1 σ S1 else s2 σ S1 := id rfl
@[simp] theorem at_dSet (i : Nat) : dSet i a σ S = bnd (a σ S) fun d S1 => some (.nx (σ.set i (some d)), S1) := id rfl
@[simp] theorem at_dTup : dTup r σ S = bnd (r σ S) fun ds S1 => newT ds S1 := id rfl
@[simp] theorem at_dLst (live : Bool) : dLst live r σ S = bnd (r σ S) fun ds S1 => newL live ds S1 := id rfl
@[simp] theorem at_dYes : dYes σ S = some (true, S) := id rfl
@[simp] theorem at_dTru : dTru a σ S = bnd (a σ S) truD := id rfl
@[simp] theorem at_dChain : dChain f g a b c σ S = bnd (a σ S) fun x S1 => bnd (b σ S1) fun y S2 => bnd (f x y S2) fun z S3 => bnd (toB z S3) fun t S4 => if t = true then bnd (c σ S4) fun w S5 => g y w S5 else some (.p (.bl false), S4) := id rfl
@[simp] theorem at_dMeth (k : Nat) (nm : Str) : dMeth k nm m a r σ S = bnd (a σ S) fun d S1 => match fldsOf d S1 with
  | some (c', fs) => if c' = k ∧ fs.lookup nm = none then bnd (r σ S1) fun xs S2 => m (d :: xs) S2 else none
  | none => none := id rfl
@[simp] theorem at_dBM (T : String) : dBM T m a r σ S = bnd (a σ S) fun d S1 => if isTy T d S1 = true then bnd (r σ S1) fun ds S2 => m (d :: ds) S2 else none := id rfl
@[simp] theorem at_gNm (i : Nat) (d : D) : gNm i d σ S = some (σ.set i (some d), S) := id rfl
@[simp] theorem at_dAsg {gg : MG} : dAsg a gg σ S = bnd (a σ S) fun d S1 => bnd (gg d σ S1) fun σ2 S2 => some (.nx σ2, S2) := id rfl
@[simp] theorem at_gSb (d : D) : gSb a b d σ S = bnd (a σ S) fun x S1 => bnd (b σ S1) fun y S2 => match setIx x y d S2 with | some S3 => some (σ, S3) | none => none := id rfl
@[simp] theorem at_gNl : gNl [] σ S = some (σ, S) := id rfl
@[simp] theorem at_gCn {g1 : MG} {g2 : MGs} (d : D) (ds : List D) : gCn g1 g2 (d :: ds) σ S = bnd (g1 d σ S) fun σ1 S1 => g2 ds σ1 S1 := id rfl
@[simp] theorem at_gTp (n : Nat) {g2 : MGs} (ps : List P) : gTp n g2 (.p (.tup ps)) σ S = if ps.length = n then g2 (ps.map .p) σ S else none := id rfl
@[simp] theorem at_dFor (ws : List Nat) {mi : MI} {gg : MG} : dFor ws mi gg s1 σ S = bnd (mi σ S) fun src S1 => forL ws src.fin gg s1 src.items (wipeD ws σ) S1 := id rfl
@[simp] theorem at_dComp (live : Bool) {mi : MI} {gg : MG} (vs : List Nat) : dComp live mi gg t a vs σ S = bnd (mi σ S) fun src S1 => bnd (compL src.fin gg t a (wipeD vs σ) src.items [] S1) fun ds S2 => newL live ds S2 := id rfl
@[simp] theorem at_dIt : dIt a σ S = bnd (a σ S) srcOf := id rfl
@[simp] theorem at_dRng1 : dRng1 r σ S = bnd (r σ S) rng1 := id rfl
@[simp] theorem at_dRng2 : dRng2 r σ S = bnd (r σ S) rng2 := id rfl
@[simp] theorem at_fn (k n : Nat) (ds : List D) : dFn k n s1 ds S = if ds.length = k then frameF S (s1 (startD n ds) ⟨S.os.length, S.os⟩) else none := id rfl
@[simp] theorem at_fnL (k n : Nat) (ds : List D) : dFnL k n s1 ds S = if ds.length = k then liveF (s1 (startD n ds) S) else none := id rfl
theorem fn_at {k n : Nat} {ds : List D} (h : ds.length = k) : dFn k n s1 ds S = frameF S (s1 (startD n ds) ⟨S.os.length, S.os⟩) := if_pos h
theorem fnL_at {k n : Nat} {ds : List D} (h : ds.length = k) : dFnL k n s1 ds S = liveF (s1 (startD n ds) S) := if_pos h
@[simp] theorem live_ret (d : D) : liveF (some (.ret d, S)) = some (d, S) := id rfl
@[simp] theorem live_nx (σ : En) : liveF (some (.nx σ, S)) = some (.p .non, S) := id rfl
@[simp] theorem frame_p (x : P) (S1 : SH) : frameF S (some (.ret (.p x), S1)) = some (.p x, cutS S S1) := id rfl
@[simp] theorem frame_nx (σ : En) (S1 : SH) : frameF S (some (.nx σ, S1)) = some (.p .non, cutS S S1) := id rfl
@[simp] theorem cut_self (k : Nat) : cutS S ⟨k, S.os⟩ = S := by
  unfold cutS SH.len
  rw [List.take_length]
@[simp] theorem cut_app (k : Nat) (l : List Ob) : cutS S ⟨k, S.os ++ l⟩ = S := by
  unfold cutS SH.len
  simp
/-- a new list comes back as data -/
theorem frame_ref {n : Nat} {S1 : SH} {ps : List P} (hn : S.os.length ≤ n) (e : S1.os[n]? = some (.lst (ps.map D.p))) : frameF S (some (.ret (.ref n), S1)) = some (.p (.lst ps), cutS S S1) := by
  have h : ∀ (k : Nat), (ps.map D.p).mapM (toP k S.len S1) = some ps := fun k => by
    induction ps with
    | nil => rfl
    | cons p ps ih =>
      have q : (ps.map D.p).mapM (toP k S.len S1) = some ps := by
        clear e ih
        induction ps with
        | nil => rfl
        | cons p ps ih => rw [List.map_cons, List.mapM_cons, ih]; cases k <;> rfl
      rw [List.map_cons, List.mapM_cons, q]; cases k <;> rfl
  have h2 : outD S.len S1 (.ref n) = some (.p (.lst ps)) := by
    unfold outD
    dsimp only
    rw [if_neg (by unfold SH.len; omega)]
    unfold toP
    rw [if_neg (by unfold SH.len; omega), e]
    dsimp only
    rw [h]
    rfl
  show (match outD S.len S1 (.ref n) with | some d' => some (d', cutS S S1) | none => none) = _
  rw [h2]
@[simp] theorem newT_p (ps : List P) (h : ps.length ≤ sizeLine) : newT (ps.map D.p) S = some (.p (.tup ps), S) := by
  unfold newT
  rw [toPs_map]
  exact if_pos h
theorem newL_f (ps : List P) (h : ps.length ≤ sizeLine) : newL false (ps.map D.p) S = some (.p (.lst ps), S) := by
  unfold newL
  rw [List.length_map, if_pos h, if_neg Bool.false_ne_true, toPs_map]
theorem newL_t (ds : List D) (h : ds.length ≤ sizeLine) : newL true ds S = some (.ref S.os.length, ⟨S.b, S.os ++ [.lst ds]⟩) := by
  unfold newL
  rw [if_pos h, if_pos rfl]
end
theorem line_ge : 1000000 ≤ sizeLine := by unfold sizeLine; decide
/-! loops and comprehensions -/
section
variable {body : MS} {t : MT} {elt : ME} {ws : List Nat} {fin : SH → Bool} {g : MG}
/-- a loop whose turns all go on -/
theorem forL_all (st : Nat → En) (Ss : Nat → SH) : ∀ (items : List (SH → Option D)) (k : Nat), fin (Ss (k + items.length)) = true →
    (∀ i it, items[i]? = some it → ∃ d σ1 S1, it (Ss (k + i)) = some d ∧ g d (st (k + i)) (Ss (k + i)) = some (σ1, S1) ∧ ∃ σ2, (body σ1 S1 = some (.nx σ2, Ss (k + i + 1)) ∨ body σ1 S1 = some (.ct σ2, Ss (k + i + 1))) ∧ wipeD ws σ2 = st (k + i + 1)) →
    forL ws fin g body items (st k) (Ss k) = some (.nx (st (k + items.length)), Ss (k + items.length))
  | [], k, hf, _ => by
    have hf' : fin (Ss k) = true := hf
    rw [forL, if_pos hf']; rfl
  | it :: items, k, hf, h => by
    obtain ⟨d, σ1, S1, h1, h2, σ2, h3, h4⟩ := h 0 it rfl
    rw [Nat.add_zero] at h1 h2 h3 h4
    have e : k + (it :: items).length = (k + 1) + items.length := by rw [List.length_cons]; omega
    have ih := forL_all st Ss items (k + 1) (by rw [← e]; exact hf) fun i it' hi => by
      have q := h (i + 1) it' (by simpa using hi)
      have e2 : k + (i + 1) = k + 1 + i := by omega
      rw [e2] at q
      exact q
    rw [forL, h1]
    dsimp only
    rw [h2, bnd_some]
    rw [e]
    rcases h3 with h3 | h3
    · rw [h3, bnd_some]; dsimp only; rw [h4]; exact ih
    · rw [h3, bnd_some]; dsimp only; rw [h4]; exact ih
/-- .. over a range -/
theorem for_rng {j : Nat} (st : Nat → En) (Ss : Nat → SH) (lo : Int) (n : Nat)
    (h : ∀ i, i < n → ∃ σ2, (body ((st i).set j (some (.p (.int (lo + (i : Int)))))) (Ss i) = some (.nx σ2, Ss (i + 1)) ∨ body ((st i).set j (some (.p (.int (lo + (i : Int)))))) (Ss i) = some (.ct σ2, Ss (i + 1))) ∧ wipeD ws σ2 = st (i + 1)) :
    forL ws (srcN lo n).fin (gNm j) body (srcN lo n).items (st 0) (Ss 0) = some (.nx (st n), Ss n) := by
  have hl : (srcN lo n).items.length = n := by simp [srcN]
  have q := forL_all (body := body) (ws := ws) (g := gNm j) (fin := (srcN lo n).fin) st Ss (srcN lo n).items 0 rfl fun i it hi => by
    simp only [srcN, List.getElem?_map] at hi
    cases e : (List.range n)[i]? with
    | none => rw [e] at hi; cases hi
    | some i' =>
      rw [e] at hi
      cases hi
      obtain ⟨h1, h2⟩ := List.getElem?_eq_some_iff.mp e
      rw [List.getElem_range] at h2
      subst h2
      rw [List.length_range] at h1
      rw [Nat.zero_add]
      obtain ⟨σ2, a, b⟩ := h i h1
      exact ⟨_, _, _, rfl, rfl, σ2, a, b⟩
  rw [hl, Nat.zero_add] at q
  exact q
/-- .. over data -/
theorem for_p {j : Nat} (st : Nat → En) (Ss : Nat → SH) (ps : List P)
    (h : ∀ i p, ps[i]? = some p → ∃ σ2, (body ((st i).set j (some (.p p))) (Ss i) = some (.nx σ2, Ss (i + 1)) ∨ body ((st i).set j (some (.p p))) (Ss i) = some (.ct σ2, Ss (i + 1))) ∧ wipeD ws σ2 = st (i + 1)) :
    forL ws (srcP ps).fin (gNm j) body (srcP ps).items (st 0) (Ss 0) = some (.nx (st ps.length), Ss ps.length) := by
  have hl : (srcP ps).items.length = ps.length := by simp [srcP]
  have q := forL_all (body := body) (ws := ws) (g := gNm j) (fin := (srcP ps).fin) st Ss (srcP ps).items 0 rfl fun i it hi => by
    simp only [srcP, List.getElem?_map] at hi
    cases e : ps[i]? with
    | none => rw [e] at hi; cases hi
    | some p =>
      rw [e] at hi
      cases hi
      rw [Nat.zero_add]
      obtain ⟨σ2, a, b⟩ := h i p e
      exact ⟨_, _, _, rfl, rfl, σ2, a, b⟩
  rw [hl, Nat.zero_add] at q
  exact q
/-- a loop by an invariant -/
theorem forL_inv (J : Nat → En → SH → Prop) : ∀ (items : List (SH → Option D)) (k : Nat) (σ : En) (S : SH), J k σ S → (∀ σ S, J (k + items.length) σ S → fin S = true) →
    (∀ i it σ S, items[i]? = some it → J (k + i) σ S → ∃ d σ1 S1, it S = some d ∧ g d σ S = some (σ1, S1) ∧ ∃ σ2 S2, (body σ1 S1 = some (.nx σ2, S2) ∨ body σ1 S1 = some (.ct σ2, S2)) ∧ J (k + i + 1) (wipeD ws σ2) S2) →
    ∃ σ' S', forL ws fin g body items σ S = some (.nx σ', S') ∧ J (k + items.length) σ' S'
  | [], k, σ, S, hj, hf, _ => ⟨σ, S, by rw [forL, if_pos (hf σ S hj)], hj⟩
  | it :: items, k, σ, S, hj, hf, h => by
    obtain ⟨d, σ1, S1, h1, h2, σ2, S2, h3, h4⟩ := h 0 it σ S rfl hj
    have e : k + (it :: items).length = (k + 1) + items.length := by rw [List.length_cons]; omega
    rw [e] at hf ⊢
    obtain ⟨σ', S', r1, r2⟩ := forL_inv J items (k + 1) _ S2 h4 hf fun i it' σ S hi hj => by
      have e2 : k + 1 + i = k + (i + 1) := by omega
      rw [e2] at hj ⊢
      exact h (i + 1) it' σ S (by simpa using hi) hj
    refine ⟨σ', S', ?_, r2⟩
    rw [forL, h1]
    dsimp only
    rw [h2, bnd_some]
    rcases h3 with h3 | h3 <;> (rw [h3, bnd_some]; exact r1)
theorem rng_inv {j : Nat} (J : Nat → En → SH → Prop) (lo : Int) (n : Nat) {σ : En} {S : SH} (h0 : J 0 σ S)
    (h : ∀ i σ S, i < n → J i σ S → ∃ σ2 S2, (body (σ.set j (some (.p (.int (lo + (i : Int)))))) S = some (.nx σ2, S2) ∨ body (σ.set j (some (.p (.int (lo + (i : Int)))))) S = some (.ct σ2, S2)) ∧ J (i + 1) (wipeD ws σ2) S2) :
    ∃ σ' S', forL ws (srcN lo n).fin (gNm j) body (srcN lo n).items σ S = some (.nx σ', S') ∧ J n σ' S' := by
  have hl : (srcN lo n).items.length = n := by simp [srcN]
  have q := forL_inv (body := body) (ws := ws) (g := gNm j) (fin := (srcN lo n).fin) J (srcN lo n).items 0 σ S h0 (fun _ _ _ => rfl) fun i it σ S hi hj => by
    simp only [srcN, List.getElem?_map] at hi
    cases e : (List.range n)[i]? with
    | none => rw [e] at hi; cases hi
    | some i' =>
      rw [e] at hi
      cases hi
      obtain ⟨h1, h2⟩ := List.getElem?_eq_some_iff.mp e
      rw [List.getElem_range] at h2
      subst h2
      rw [List.length_range] at h1
      rw [Nat.zero_add] at hj ⊢
      obtain ⟨σ2, S2, a, b⟩ := h i σ S h1 hj
      exact ⟨_, _, _, rfl, rfl, σ2, S2, a, b⟩
  rw [hl, Nat.zero_add] at q
  exact q
theorem rng0_inv {j : Nat} (J : Nat → En → SH → Prop) (n : Nat) {σ : En} {S : SH} (h0 : J 0 σ S)
    (h : ∀ i σ S, i < n → J i σ S → ∃ σ2 S2, (body (σ.set j (some (.p (.int (i : Int))))) S = some (.nx σ2, S2) ∨ body (σ.set j (some (.p (.int (i : Int))))) S = some (.ct σ2, S2)) ∧ J (i + 1) (wipeD ws σ2) S2) :
    ∃ σ' S', forL ws (srcN 0 n).fin (gNm j) body (srcN 0 n).items σ S = some (.nx σ', S') ∧ J n σ' S' :=
  rng_inv J 0 n h0 fun i σ S hi hj => by
    rw [Int.zero_add]
    exact h i σ S hi hj
theorem p_inv {j : Nat} (J : Nat → En → SH → Prop) (ps : List P) {σ : En} {S : SH} (h0 : J 0 σ S)
    (h : ∀ i p σ S, ps[i]? = some p → J i σ S → ∃ σ2 S2, (body (σ.set j (some (.p p))) S = some (.nx σ2, S2) ∨ body (σ.set j (some (.p p))) S = some (.ct σ2, S2)) ∧ J (i + 1) (wipeD ws σ2) S2) :
    ∃ σ' S', forL ws (srcP ps).fin (gNm j) body (srcP ps).items σ S = some (.nx σ', S') ∧ J ps.length σ' S' := by
  have hl : (srcP ps).items.length = ps.length := by simp [srcP]
  have q := forL_inv (body := body) (ws := ws) (g := gNm j) (fin := (srcP ps).fin) J (srcP ps).items 0 σ S h0 (fun _ _ _ => rfl) fun i it σ S hi hj => by
    simp only [srcP, List.getElem?_map] at hi
    cases e : ps[i]? with
    | none => rw [e] at hi; cases hi
    | some p =>
      rw [e] at hi
      cases hi
      rw [Nat.zero_add] at hj ⊢
      obtain ⟨σ2, S2, a, b⟩ := h i p σ S e hj
      exact ⟨_, _, _, rfl, rfl, σ2, S2, a, b⟩
  rw [hl, Nat.zero_add] at q
  exact q
theorem put_last (b : Nat) (os : List Ob) (x y : Ob) : SH.put ⟨b, os ++ [x]⟩ os.length y = ⟨b, os ++ [y]⟩ := by
  unfold SH.put
  simp
theorem at_last (b : Nat) (os : List Ob) (x : Ob) : (SH.mk b (os ++ [x])).os[os.length]? = some x := by simp
/-- a comprehension whose element changes nothing: its items as a filter and a map -/
theorem comp_all {S : SH} {σ : En} {α : Type} (fs : α → Bool) (fv : α → D) (it : α → SH → Option D) (hf : fin S = true) : ∀ (xs : List α) (acc : List D), acc.length + xs.length ≤ sizeLine →
    (∀ x ∈ xs, ∃ d σ1, it x S = some d ∧ g d σ S = some (σ1, S) ∧ t σ1 S = some (fs x, S) ∧ (fs x = true → elt σ1 S = some (fv x, S))) →
    compL fin g t elt σ (xs.map it) acc S = some (acc ++ (xs.filter fs).map fv, S)
  | [], acc, _, _ => by
    rw [List.map_nil, compL, if_pos hf]; simp
  | x :: xs, acc, hl, h => by
    obtain ⟨d, σ1, h1, h2, h3, h4⟩ := h x (by simp)
    rw [List.length_cons] at hl
    rw [List.map_cons, compL, h1]
    dsimp only
    rw [h2, bnd_some, h3, bnd_some]
    have ih := fun acc' (q : acc'.length + xs.length ≤ sizeLine) => comp_all (S := S) (σ := σ) fs fv it hf xs acc' q fun y hy => h y (by simp [hy])
    by_cases c : fs x = true
    · rw [if_pos c, if_pos (by omega), h4 c, bnd_some, ih _ (by rw [List.length_append, List.length_singleton]; omega), List.filter_cons_of_pos c, List.map_cons, List.append_assoc]; rfl
    · rw [if_neg c, ih _ (by omega), List.filter_cons_of_neg c]
end
end Pv
/-! what the built-ins give on data -/
namespace Pv
open PySem PySem.Spec PyProof.Rows L2
section
variable {S : SH} {ps qs : List P} {ds : List D}
theorem mulOk_r {i j : Int} (h : j.natAbs < 2 ^ 64) : mulOk i j = true := by
  unfold mulOk
  simp [h]
theorem mulOk_l {i j : Int} (h : i.natAbs < 2 ^ 64) : mulOk i j = true := by
  unfold mulOk
  simp [h]
theorem divOk_c {i j : Int} (h : 0 < j) (h2 : j < 2 ^ 64) : divOk i j = true := by
  unfold divOk
  have a : j.natAbs ≠ 0 := by omega
  have b : j.natAbs.log2 < 64 := (Nat.log2_lt a).mpr (by omega)
  simp only [Bool.and_eq_true, decide_eq_true_eq]
  omega
@[simp] theorem asL_l : asL (.p (.lst ps)) S = some (ps.map .p) := id rfl
@[simp] theorem asQ_l : asQ (.p (.lst ps)) S = some (ps.map .p) := id rfl
@[simp] theorem asQ_t : asQ (.p (.tup ps)) S = some (ps.map .p) := id rfl
@[simp] theorem fLen_l : fLen [.p (.lst ps)] S = some (.p (.int ps.length), S) := by simp [fLen]
@[simp] theorem fLen_t : fLen [.p (.tup ps)] S = some (.p (.int ps.length), S) := by simp [fLen]
@[simp] theorem fTuple_t : fTuple [.p (.tup ps)] S = some (.p (.tup ps), S) := id rfl
theorem fTuple_l (h : ps.length ≤ sizeLine) : fTuple [.p (.lst ps)] S = some (.p (.tup ps), S) := by
  show newT (ps.map D.p) S = _
  rw [newT_p ps h]
theorem fList_l (h : ps.length ≤ sizeLine) : fList false [.p (.lst ps)] S = some (.p (.lst ps), S) := by
  show newL false (ps.map D.p) S = _
  rw [newL_f ps h]
@[simp] theorem fInt_i (i : Int) : fInt [.p (.int i)] S = some (.p (.int i), S) := id rfl
@[simp] theorem fMin_i (i j : Int) : fMin [.p (.int i), .p (.int j)] S = some (.p (.int (if j < i then j else i)), S) := id rfl
@[simp] theorem fMax_i (i j : Int) : fMax [.p (.int i), .p (.int j)] S = some (.p (.int (if j > i then j else i)), S) := id rfl
@[simp] theorem fAdd_i (l : Bool) (i j : Int) : fAdd l (.p (.int i)) (.p (.int j)) S = some (.p (.int (i + j)), S) := id rfl
@[simp] theorem fNeg_i (i : Int) : fNeg (.p (.int i)) S = some (.p (.int (-i)), S) := id rfl
@[simp] theorem fSum_l (ns : List Int) : fSum [.p (.lst (intsP ns))] S = some (.p (.int ns.sum), S) := by
  have h : ∀ l : List Int, intsOf ((intsP l).map D.p) = some l := by
    intro l
    induction l with
    | nil => rfl
    | cons a l ih =>
      show (intsOf (D.p (.int a) :: (intsP l).map D.p)) = _
      simp [intsOf, ih]
  unfold fSum
  simp [h]
theorem atI_nat {α : Type} {l : List α} {n : Nat} {x : α} (h : l[n]? = some x) : atI l (n : Int) = some x := by
  obtain ⟨h1, h2⟩ := List.getElem?_eq_some_iff.mp h
  unfold atI
  have e : ixN l.length (n : Int) = some n := by
    unfold ixN
    simp
    omega
  rw [e]
  exact h
theorem fIx_l {n : Nat} {x : P} (h : ps[n]? = some x) : fIx (.p (.lst ps)) (.p (.int (n : Int))) S = some (.p x, S) := by
  have q := atI_nat (l := ps.map D.p) (n := n) (x := D.p x) (by rw [List.getElem?_map, h]; rfl)
  show (match asQ (.p (.lst ps)) S with
    | some xs => (match atI xs (n : Int) with | some x => some (x, S) | none => none)
    | none => none) = _
  simp only [asQ_l, q]
theorem fIx_t {n : Nat} {x : P} (h : ps[n]? = some x) : fIx (.p (.tup ps)) (.p (.int (n : Int))) S = some (.p x, S) := by
  have q := atI_nat (l := ps.map D.p) (n := n) (x := D.p x) (by rw [List.getElem?_map, h]; rfl)
  show (match asQ (.p (.tup ps)) S with
    | some xs => (match atI xs (n : Int) with | some x => some (x, S) | none => none)
    | none => none) = _
  simp only [asQ_t, q]
/-- by a plain int -/
theorem fIx_li {i : Int} {x : P} (h0 : 0 ≤ i) (h : ps[i.toNat]? = some x) : fIx (.p (.lst ps)) (.p (.int i)) S = some (.p x, S) := by
  have e : i = (i.toNat : Int) := by omega
  rw [e]
  exact fIx_l h
theorem fIx_ti {i : Int} {x : P} (h0 : 0 ≤ i) (h : ps[i.toNat]? = some x) : fIx (.p (.tup ps)) (.p (.int i)) S = some (.p x, S) := by
  have e : i = (i.toNat : Int) := by omega
  rw [e]
  exact fIx_t h
theorem fIx_ri {m : Nat} {i : Int} {d : D} (hm : S.os[m]? = some (.lst ds)) (h0 : 0 ≤ i) (h : ds[i.toNat]? = some d) : fIx (.ref m) (.p (.int i)) S = some (d, S) := by
  have e : i = (i.toNat : Int) := by omega
  have q := atI_nat (l := ds) h
  rw [← e] at q
  show (match asQ (.ref m) S with
    | some xs => (match atI xs i with | some x => some (x, S) | none => none)
    | none => none) = _
  have e2 : asQ (.ref m) S = some ds := by unfold asQ; dsimp only; rw [hm]
  simp only [e2, q]
theorem fApp_p {n : Nat} {x : P} (h : S.os[n]? = some (.lst ds)) (hl : ds.length < sizeLine) : fApp [.ref n, .p x] S = some (.p .non, S.put n (.lst (ds ++ [.p x]))) := by
  unfold fApp
  dsimp only
  rw [h]
  dsimp only
  rw [if_pos ⟨hl, rfl⟩]
theorem isTy_ref {n : Nat} (h : S.os[n]? = some (.lst ds)) : isTy "list" (.ref n) S = true := by
  unfold isTy
  dsimp only
  rw [h]
  rfl
theorem intsP_len (ns : List Int) : (intsP ns).length = ns.length := List.length_map _
theorem intsP_at {ns : List Int} {n : Nat} {i : Int} (h : ns[n]? = some i) : (intsP ns)[n]? = some (.int i) := by
  unfold intsP
  rw [List.getElem?_map, h]
  rfl
theorem srt_rng (n : Nat) (h : (n : Int) < 2 ^ 62) : rng1 [.p (.int n)] S = some (srcN 0 n, S) := by
  unfold rng1
  dsimp only
  rw [if_pos ⟨by omega, h⟩]
  rfl

/-- a field of the newest object is set -/
theorem setF_last {cs : List Nat} {c b : Nat} {os : List Ob} {f : Str} {v : P} {fs : List (Str × D)} (hc : cs.contains c = true) (hl : fs.length < 1000) : setFld cs f (.ref os.length) (.p v) ⟨b, os ++ [.ins c fs]⟩ = some ⟨b, os ++ [.ins c (putFD f (.p v) fs)]⟩ := by
  unfold setFld
  dsimp only
  rw [at_last b]
  dsimp only
  rw [if_pos ⟨hc, hl, rfl⟩, put_last]
theorem mapM_flds {k : Nat} {b : Nat} {S1 : SH} : ∀ (gs : List (Str × P)), (gs.map fun p => (p.1, D.p p.2)).mapM (fun p => (toP k b S1 p.2).map fun x => (p.1, x)) = some gs
  | [] => rfl
  | (f, x) :: gs => by
    rw [List.map_cons, List.mapM_cons, mapM_flds gs]
    cases k <;> rfl
/-- a new object of data comes back as data -/
theorem out_ins {k c n : Nat} {S1 : SH} {gs : List (Str × P)} (hn : k ≤ n) (e : S1.os[n]? = some (.ins c (gs.map fun p => (p.1, D.p p.2)))) : outD k S1 (.ref n) = some (.p (.ins c gs)) := by
  unfold outD
  dsimp only
  rw [if_neg (by omega)]
  unfold toP
  rw [if_neg (by omega), e]
  dsimp only
  rw [mapM_flds]
  rfl
theorem at_dSetF {cs : List Nat} {f : Str} {o v : ME} {σ : En} : dSetF cs f o v σ S = bnd (v σ S) fun y S1 => bnd (o σ S1) fun x S2 => match setFld cs f x y S2 with | some S3 => some (.nx σ, S3) | none => none := id rfl
@[simp] theorem fldsOf_p (c : Nat) (gs : List (Str × P)) : fldsOf (.p (.ins c gs)) S = some (c, gs.map fun p => (p.1, .p p.2)) := id rfl
theorem at_dMakeF {c : Nat} {init : MF} {a : MA} {σ : En} : dMake false c init a σ S = bnd (a σ S) fun xs S1 => bnd (init (.ref S1.os.length :: xs) ⟨S1.os.length, S1.os ++ [.ins c []]⟩) fun d S2 => match d with
    | .p .non => match outD S1.os.length S2 (.ref S1.os.length) with | some d' => some (d', cutS S1 S2) | none => none
    | _ => none := by
  unfold dMake
  rfl
theorem itP (ps : List P) {p : P} (h : p = .lst ps ∨ p = .tup ps) : srcOf (.p p) S = some (srcP ps, S) := by
  rcases h with rfl | rfl <;> rfl
/-- a comprehension over data -/
theorem comp_p {j : Nat} {t : MT} {elt : ME} {σ : En} (fs : P → Bool) (fv : P → D) (ps : List P) (hl : ps.length ≤ sizeLine)
    (h : ∀ p ∈ ps, t (σ.set j (some (.p p))) S = some (fs p, S) ∧ (fs p = true → elt (σ.set j (some (.p p))) S = some (fv p, S))) :
    compL (srcP ps).fin (gNm j) t elt σ (srcP ps).items [] S = some ((ps.filter fs).map fv, S) := by
  have q := comp_all (t := t) (elt := elt) (g := gNm j) (fin := (srcP ps).fin) (S := S) (σ := σ) fs fv (fun p _ => some (D.p p)) rfl ps [] (by simpa using hl) fun p hp => ⟨_, _, rfl, rfl, h p hp⟩
  rw [List.nil_append] at q
  exact q
/-- .. over a range from 0 -/
theorem comp_rng {j : Nat} {t : MT} {elt : ME} {σ : En} (fs : Nat → Bool) (fv : Nat → D) (n : Nat) (hl : n ≤ sizeLine)
    (h : ∀ i, i < n → t (σ.set j (some (.p (.int (i : Int))))) S = some (fs i, S) ∧ (fs i = true → elt (σ.set j (some (.p (.int (i : Int))))) S = some (fv i, S))) :
    compL (srcN 0 n).fin (gNm j) t elt σ (srcN 0 n).items [] S = some (((List.range n).filter fs).map fv, S) := by
  have q := comp_all (t := t) (elt := elt) (g := gNm j) (fin := (srcN 0 n).fin) (S := S) (σ := σ) fs fv (fun (i : Nat) _ => some (.p (.int (0 + (i : Int))))) rfl (List.range n) [] (by simpa using hl) fun i hi => ⟨_, _, rfl, rfl, by
    rw [Int.zero_add]
    exact h i (List.mem_range.mp hi)⟩
  rw [List.nil_append] at q
  exact q
end
end Pv
namespace Pv
open PySem PySem.Spec PyProof.Rows L2
section
variable {S : SH} {ps qs : List P} {ds : List D}
theorem setIx_ri {m : Nat} {i : Int} {v : P} (hm : S.os[m]? = some (.lst ds)) (h0 : 0 ≤ i) (h : i.toNat < ds.length) : setIx (.ref m) (.p (.int i)) (.p v) S = some (S.put m (.lst (ds.set i.toNat (.p v)))) := by
  have e : ixN ds.length i = some i.toNat := by
    unfold ixN
    rw [if_pos h0, if_pos (by omega)]
  unfold setIx
  dsimp only
  rw [hm]
  dsimp only
  rw [e]
  dsimp only
  rw [if_pos (okRef_p S m v)]
theorem sl_hi {live : Bool} {a m : ME} {σ : En} {d : D} {i : Int} (ha : a σ S = some (d, S)) (hm : m σ S = some (.p (.int i), S)) : dSl live a none (some m) σ S = fSl live d none (some i) S := by
  unfold dSl
  rw [ha, bnd_some, bnd_some]
  dsimp only
  rw [hm, bnd_some, bnd_some]
theorem two_0 (b : Nat) (os : List Ob) (x y : Ob) : (SH.mk b (os ++ [x, y])).os[os.length]? = some x := by simp
theorem two_1 (b : Nat) (os : List Ob) (x y : Ob) : (SH.mk b (os ++ [x, y])).os[os.length + 1]? = some y := by simp
theorem put_0 (b : Nat) (os : List Ob) (x y z : Ob) : SH.put ⟨b, os ++ [x, y]⟩ os.length z = ⟨b, os ++ [z, y]⟩ := by
  unfold SH.put
  simp
theorem put_1 (b : Nat) (os : List Ob) (x y z : Ob) : SH.put ⟨b, os ++ [x, y]⟩ (os.length + 1) z = ⟨b, os ++ [x, z]⟩ := by
  unfold SH.put
  simp
end
end Pv
namespace Kb
open PySem PySem.Spec PyProof.Rows L2 Pv

def m_as_tuple : MF := dFn 1 1
    (dSeq (dIf (dTest (dOp (fIs false) (dVar 0) (dC .non)))
      (dRet (dC .non))
      dNx)
    (dRet (dCall fTuple (dCons (dVar 0) dNil))))
def m_Change_init : MF := dFnL 7 8
    (dSeq (dSetF [0] "author" (dVar 0) (dVar 1))
    (dSeq (dSetF [0] "number" (dVar 0) (dVar 2))
    (dSeq (dSetF [0] "heard" (dVar 0) (dCall fTuple (dCons (dVar 3) dNil)))
    (dSeq (dSetF [0] "capability" (dVar 0) (dVar 4))
    (dSeq (dSetF [0] "publics" (dVar 0) (dCall fTuple (dCons (dVar 5) dNil)))
    (dSetF [0] "parts" (dVar 0) (dCall fTuple (dCons (dComp false (dIt (dVar 6)) (gNm 7) dYes (dCall m_as_tuple (dCons (dVar 7) dNil)) [7]) dNil))))))))
def m_Change_name : MF := dFn 1 1
    (dRet (dTup (dCons (dUn (dFld [0] "author") (dVar 0)) (dCons (dUn (dFld [0] "number") (dVar 0)) dNil))))
def m_Change_header : MF := dFn 1 1
    (dRet (dTup (dCons (dUn (dFld [0] "author") (dVar 0)) (dCons (dUn (dFld [0] "number") (dVar 0)) (dCons (dUn (dFld [0] "heard") (dVar 0)) (dCons (dUn (dFld [0] "capability") (dVar 0)) (dCons (dUn (dFld [0] "publics") (dVar 0)) dNil)))))))
def m_Change_with_parts : MF := dFn 2 2
    (dRet (dMake false 0 m_Change_init (dCons (dUn (dFld [0] "author") (dVar 0)) (dCons (dUn (dFld [0] "number") (dVar 0)) (dCons (dUn (dFld [0] "heard") (dVar 0)) (dCons (dUn (dFld [0] "capability") (dVar 0)) (dCons (dUn (dFld [0] "publics") (dVar 0)) (dCons (dVar 1) dNil))))))))
def m_in_past : MF := dFn 2 4
    (dSeq (dAsg (dVar 0) (gTp 2 (gCn (gNm 2) (gCn (gNm 3) gNl))))
    (dRet (dAndV (dChain fLe fLt (dC (.int 0)) (dVar 2) (dCall fLen (dCons (dUn (dFld [0] "heard") (dVar 1)) dNil))) (dChain fLe fLe (dC (.int 1)) (dVar 3) (dOp fIx (dUn (dFld [0] "heard") (dVar 1)) (dVar 2))))))
def m_order_key : MF := dFn 1 1
    (dRet (dTup (dCons (dCall fSum (dCons (dUn (dFld [0] "heard") (dVar 0)) dNil)) (dCons (dUn (dFld [0] "author") (dVar 0)) (dCons (dUn (dFld [0] "number") (dVar 0)) dNil)))))
def m_in_order : MF := dFnL 1 1
    (dRet (dSortK true m_order_key (dVar 0)))
def m_mix : MF := dFn 2 3
    (dSeq (dSet 2 (dOp fMod (dCall fInt (dCons (dOp (fAdd false) (dOp (fAdd false) (dOp fMul (dCall fInt (dCons (dVar 0) dNil)) (dC (.int 48271))) (dOp fMul (dVar 1) (dC (.int 69621)))) (dC (.int 12345))) dNil)) (dC (.int 2147483647))))
    (dSeq (dSet 2 (dOp fMod (dCall fInt (dCons (dOp (fAdd false) (dOp (fAdd false) (dOp fMul (dVar 2) (dVar 2)) (dOp fMul (dVar 1) (dC (.int 40692)))) (dC (.int 1))) dNil)) (dC (.int 2147483399))))
    (dRet (dOp fMod (dOp fDiv (dVar 2) (dC (.int 5))) (dC (.int 9973))))))
def m_draws : MF := dFn 1 5
    (dSeq (dSet 1 (dLst true dNil))
    (dSeq (dFor [2, 3, 4] (dRng1 (dCons (dCall fMin (dCons (dC (.int 63)) (dCons (dCall fLen (dCons (dVar 0) dNil)) dNil))) dNil)) (gNm 2)
      (dSeq (dSet 3 (dCall fInt (dCons (dOp fIx (dVar 0) (dVar 2)) dNil)))
    (dIf (dTest (dOp fLt (dVar 3) (dOp fPow (dC (.int 10)) (dC (.int 18)))))
      (dDrop (dBM "list" fApp (dVar 1) (dCons (dCall m_mix (dCons (dVar 3) (dCons (dVar 2) dNil))) dNil)))
      (dFor [2, 4] (dRng1 (dCons (dC (.int 60)) dNil)) (gNm 4)
      (dIf (dTest (dOp fGt (dVar 3) (dC (.int 0))))
      (dSeq (dDrop (dBM "list" fApp (dVar 1) (dCons (dOp fMod (dCall fInt (dCons (dVar 3) dNil)) (dC (.int 9973))) dNil)))
    (dSet 3 (dOp fDiv (dVar 3) (dC (.int 9973)))))
      dNx)))))
    (dRet (dVar 1))))
def m_at : MF := dFn 2 2
    (dSeq (dIf (dTest (dOp fLt (dVar 1) (dCall fLen (dCons (dVar 0) dNil))))
      (dRet (dOp fIx (dVar 0) (dVar 1)))
      dNx)
    (dSeq (dIf (dTest (dOp (fEq false) (dCall fLen (dCons (dVar 0) dNil)) (dC (.int 0))))
      (dRet (dCall m_mix (dCons (dVar 1) (dCons (dC (.int 77)) dNil))))
      dNx)
    (dRet (dCall m_mix (dCons (dOp (fAdd false) (dOp fIx (dVar 0) (dOp fMod (dCall fInt (dCons (dVar 1) dNil)) (dCall fLen (dCons (dVar 0) dNil)))) (dOp fMul (dVar 1) (dC (.int 131)))) (dCons (dVar 1) dNil))))))
def m_is_integer : MF := dFn 1 1
    (dRet (dAndV (dUn (fIsi ["int"]) (dVar 0)) (dNotV (dUn (fIsi ["bool"]) (dVar 0)))))
def m_same : Nat → MF
  | 0 => fun _ _ => none
  | n + 1 => dFn 2 3
    (dSeq (dIf (dTest (dUn (fIsi ["list", "tuple"]) (dVar 1)))
      (dSeq (dIf (dOr (dTest (dOp (fEq true) (dUn (fIsi ["list"]) (dVar 1)) (dUn (fIsi ["list"]) (dVar 0)))) (dTest (dOp (fEq true) (dUn (fIsi ["tuple"]) (dVar 1)) (dUn (fIsi ["tuple"]) (dVar 0)))))
      (dRet (dC (.bl false)))
      dNx)
    (dSeq (dIf (dTest (dOp (fEq true) (dCall fLen (dCons (dVar 0) dNil)) (dCall fLen (dCons (dVar 1) dNil))))
      (dRet (dC (.bl false)))
      dNx)
    (dSeq (dFor [2] (dRng1 (dCons (dCall fLen (dCons (dVar 1) dNil)) dNil)) (gNm 2)
      (dIf (dNot (dTest (dCall (m_same n) (dCons (dOp fIx (dVar 0) (dVar 2)) (dCons (dOp fIx (dVar 1) (dVar 2)) dNil)))))
      (dRet (dC (.bl false)))
      dNx))
    (dRet (dC (.bl true))))))
      dNx)
    (dSeq (dIf (dTest (dOp (fIs false) (dVar 1) (dC .non)))
      (dRet (dOp (fIs false) (dVar 0) (dC .non)))
      dNx)
    (dSeq (dIf (dTest (dUn (fIsi ["bool"]) (dVar 1)))
      (dRet (dAndV (dUn (fIsi ["bool"]) (dVar 0)) (dOp (fEq false) (dVar 0) (dVar 1))))
      dNx)
    (dSeq (dIf (dTest (dUn (fIsi ["int"]) (dVar 1)))
      (dRet (dAndV (dCall m_is_integer (dCons (dVar 0) dNil)) (dOp (fEq false) (dVar 0) (dVar 1))))
      dNx)
    (dRet (dAndV (dUn (fIsi ["str"]) (dVar 0)) (dOp (fEq false) (dVar 0) (dVar 1))))))))
def m_rows : MF := dFn 1 12
    (dSeq (dSet 1 (dOp fMod (dCall m_at (dCons (dVar 0) (dCons (dC (.int 0)) dNil))) (dC (.int 13))))
    (dSeq (dIf (dTest (dOp (fEq false) (dOp fMod (dCall m_at (dCons (dVar 0) (dCons (dC (.int 1)) dNil))) (dC (.int 6))) (dC (.int 5))))
      (dSet 1 (dC (.int 60)))
      dNx)
    (dSeq (dSet 2 (dOp (fAdd false) (dC (.int 1)) (dOp fMod (dCall m_at (dCons (dVar 0) (dCons (dC (.int 2)) dNil))) (dC (.int 6)))))
    (dSeq (dSet 3 (dOp fIx (dLst false (dCons (dC (.int 4)) (dCons (dC (.int 2)) (dCons (dC (.int 9973)) dNil)))) (dOp fMod (dCall m_at (dCons (dVar 0) (dCons (dC (.int 3)) dNil))) (dC (.int 3)))))
    (dSeq (dSet 4 (dLst true dNil))
    (dSeq (dSet 5 (dLst true (dCons (dC (.int 0)) (dCons (dC (.int 0)) (dCons (dC (.int 0)) (dCons (dC (.int 0)) (dCons (dC (.int 0)) (dCons (dC (.int 0)) dNil))))))))
    (dSeq (dFor [1, 6, 7, 8, 9, 10] (dRng1 (dCons (dVar 1) dNil)) (gNm 6)
      (dSeq (dSet 7 (dOp fMod (dCall m_at (dCons (dVar 0) (dCons (dOp (fAdd false) (dC (.int 10)) (dOp fMul (dC (.int 9)) (dVar 6))) dNil))) (dVar 2)))
    (dSeq (dAsg (dOp (fAdd false) (dOp (fAdd false) (dOp fIx (dVar 5) (dVar 7)) (dC (.int 1))) (dOp fDiv (dCall m_at (dCons (dVar 0) (dCons (dOp (fAdd false) (dC (.int 11)) (dOp fMul (dC (.int 9)) (dVar 6))) dNil))) (dC (.int 997)))) (gSb (dVar 5) (dVar 7)))
    (dSeq (dSet 8 (dComp false (dRng1 (dCons (dVar 2) dNil)) (gNm 11) dYes (dOp fMod (dCall m_at (dCons (dVar 0) (dCons (dOp (fAdd false) (dOp (fAdd false) (dC (.int 12)) (dOp fMul (dC (.int 9)) (dVar 6))) (dVar 11)) dNil))) (dVar 3)) [11]))
    (dSeq (dSet 9 (dOp fIx (dLst false (dCons (dC .non) (dCons (dTup (dCons (dC (.int 0)) (dCons (dOp (fAdd false) (dC (.int 1)) (dOp fMod (dCall m_at (dCons (dVar 0) (dCons (dOp (fAdd false) (dC (.int 18)) (dOp fMul (dC (.int 9)) (dVar 6))) dNil))) (dC (.int 5)))) (dCons (dC (.int 0)) dNil)))) dNil))) (dOp fMod (dOp fDiv (dCall m_at (dCons (dVar 0) (dCons (dOp (fAdd false) (dC (.int 18)) (dOp fMul (dC (.int 9)) (dVar 6))) dNil))) (dC (.int 5))) (dC (.int 2)))))
    (dSeq (dSet 10 (dSl false (dLst false (dCons (dTup (dCons (dC (.str "seal")) dNil)) (dCons (dTup (dCons (dC (.str "revoke")) (dCons (dTup (dCons (dC (.int 0)) (dCons (dC (.int 1)) (dCons (dVar 6) dNil)))) dNil))) (dCons (dTup (dCons (dC (.str "revoke")) (dCons (dC .non) dNil))) dNil)))) none (some (dOp fMod (dOp fDiv (dCall m_at (dCons (dVar 0) (dCons (dOp (fAdd false) (dC (.int 18)) (dOp fMul (dC (.int 9)) (dVar 6))) dNil))) (dC (.int 10))) (dC (.int 4))))))
    (dDrop (dBM "list" fApp (dVar 4) (dCons (dLst false (dCons (dVar 7) (dCons (dOp fIx (dVar 5) (dVar 7)) (dCons (dVar 8) (dCons (dVar 9) (dCons (dVar 10) (dCons (dLst false (dCons (dC .non) (dCons (dTup dNil) (dCons (dTup (dCons (dTup (dCons (dC (.str "table")) (dCons (dC (.str "t")) dNil))) dNil)) (dCons (dTup dNil) dNil))))) dNil))))))) dNil)))))))))
    (dRet (dVar 4)))))))))
def m_change : MF := dFn 2 2
    (dSeq (dIf (dTru (dVar 1))
      (dRet (dMake false 0 m_Change_init (dCons (dOp fIx (dVar 0) (dC (.int 0))) (dCons (dOp fIx (dVar 0) (dC (.int 1))) (dCons (dCall (fList false) (dCons (dOp fIx (dVar 0) (dC (.int 2))) dNil)) (dCons (dOp fIx (dVar 0) (dC (.int 3))) (dCons (dCall (fList false) (dCons (dOp fIx (dVar 0) (dC (.int 4))) dNil)) (dCons (dCall (fList false) (dCons (dOp fIx (dVar 0) (dC (.int 5))) dNil)) dNil))))))))
      dNx)
    (dRet (dMake false 0 m_Change_init (dCons (dOp fIx (dVar 0) (dC (.int 0))) (dCons (dOp fIx (dVar 0) (dC (.int 1))) (dCons (dCall fTuple (dCons (dOp fIx (dVar 0) (dC (.int 2))) dNil)) (dCons (dOp fIx (dVar 0) (dC (.int 3))) (dCons (dCall fTuple (dCons (dOp fIx (dVar 0) (dC (.int 4))) dNil)) (dCons (dCall fTuple (dCons (dOp fIx (dVar 0) (dC (.int 5))) dNil)) dNil)))))))))
def m_is_kept : MF := dFn 2 4
    (dSeq (dSet 2 (dTup (dCons (dOp fIx (dVar 1) (dC (.int 0))) (dCons (dOp fIx (dVar 1) (dC (.int 1))) (dCons (dCall fTuple (dCons (dOp fIx (dVar 1) (dC (.int 2))) dNil)) (dCons (dOp fIx (dVar 1) (dC (.int 3))) (dCons (dCall fTuple (dCons (dOp fIx (dVar 1) (dC (.int 4))) dNil)) dNil)))))))
    (dSeq (dIf (dOr (dNot (dTest (dCall (m_same 40) (dCons (dMeth 0 "header" m_Change_header (dVar 0) dNil) (dCons (dVar 2) dNil))))) (dNot (dTest (dCall (m_same 40) (dCons (dMeth 0 "name" m_Change_name (dVar 0) dNil) (dCons (dTup (dCons (dOp fIx (dVar 1) (dC (.int 0))) (dCons (dOp fIx (dVar 1) (dC (.int 1))) dNil))) dNil))))))
      (dRet (dC (.bl false)))
      dNx)
    (dSeq (dIf (dOr (dNot (dTest (dCall (m_same 40) (dCons (dUn (dFld [0] "heard") (dVar 0)) (dCons (dOp fIx (dVar 2) (dC (.int 2))) dNil))))) (dNot (dTest (dCall (m_same 40) (dCons (dUn (dFld [0] "publics") (dVar 0)) (dCons (dOp fIx (dVar 2) (dC (.int 4))) dNil))))))
      (dRet (dC (.bl false)))
      dNx)
    (dSeq (dIf (dOr (dNot (dTest (dCall (m_same 40) (dCons (dUn (dFld [0] "parts") (dVar 0)) (dCons (dCall fTuple (dCons (dOp fIx (dVar 1) (dC (.int 5))) dNil)) dNil))))) (dNot (dTest (dCall (m_same 40) (dCons (dUn (dFld [0] "capability") (dVar 0)) (dCons (dOp fIx (dVar 1) (dC (.int 3))) dNil))))))
      (dRet (dC (.bl false)))
      dNx)
    (dSeq (dSet 3 (dMeth 0 "with_parts" m_Change_with_parts (dVar 0) (dCons (dLst false (dCons (dTup dNil) (dCons (dC .non) (dCons (dC .non) (dCons (dTup (dCons (dTup (dCons (dC (.str "table")) (dCons (dC (.str "u")) dNil))) dNil)) dNil))))) dNil)))
    (dSeq (dIf (dOr (dNot (dTest (dCall (m_same 40) (dCons (dMeth 0 "header" m_Change_header (dVar 3) dNil) (dCons (dVar 2) dNil))))) (dNot (dTest (dCall (m_same 40) (dCons (dUn (dFld [0] "parts") (dVar 3)) (dCons (dTup (dCons (dTup dNil) (dCons (dC .non) (dCons (dC .non) (dCons (dTup (dCons (dTup (dCons (dC (.str "table")) (dCons (dC (.str "u")) dNil))) dNil)) dNil))))) dNil))))))
      (dRet (dC (.bl false)))
      dNx)
    (dSeq (dIf (dOr (dNot (dTest (dCall (m_same 40) (dCons (dUn (dFld [0] "parts") (dVar 0)) (dCons (dCall fTuple (dCons (dOp fIx (dVar 1) (dC (.int 5))) dNil)) dNil))))) (dNot (dTest (dCall (m_same 40) (dCons (dUn (dFld [0] "author") (dVar 0)) (dCons (dOp fIx (dVar 1) (dC (.int 0))) dNil))))))
      (dRet (dC (.bl false)))
      dNx)
    (dRet (dAndV (dCall (m_same 40) (dCons (dUn (dFld [0] "number") (dVar 0)) (dCons (dOp fIx (dVar 1) (dC (.int 1))) dNil))) (dCall (m_same 40) (dCons (dCall m_order_key (dCons (dVar 0) dNil)) (dCons (dTup (dCons (dCall fSum (dCons (dOp fIx (dVar 1) (dC (.int 2))) dNil)) (dCons (dOp fIx (dVar 1) (dC (.int 0))) (dCons (dOp fIx (dVar 1) (dC (.int 1))) dNil)))) dNil))))))))))))
def m_comes_first : MF := dFn 2 2
    (dSeq (dIf (dTest (dOp (fEq true) (dCall fSum (dCons (dOp fIx (dVar 0) (dC (.int 2))) dNil)) (dCall fSum (dCons (dOp fIx (dVar 1) (dC (.int 2))) dNil))))
      (dRet (dOp fLt (dCall fSum (dCons (dOp fIx (dVar 0) (dC (.int 2))) dNil)) (dCall fSum (dCons (dOp fIx (dVar 1) (dC (.int 2))) dNil))))
      dNx)
    (dSeq (dIf (dTest (dOp (fEq true) (dOp fIx (dVar 0) (dC (.int 0))) (dOp fIx (dVar 1) (dC (.int 0)))))
      (dRet (dOp fLt (dOp fIx (dVar 0) (dC (.int 0))) (dOp fIx (dVar 1) (dC (.int 0)))))
      dNx)
    (dRet (dOp fLt (dOp fIx (dVar 0) (dC (.int 1))) (dOp fIx (dVar 1) (dC (.int 1)))))))
def m_is_past : MF := dFn 2 2
    (dRet (dAndV (dOp fLe (dC (.int 0)) (dOp fIx (dVar 0) (dC (.int 0)))) (dAndV (dOp fLt (dOp fIx (dVar 0) (dC (.int 0))) (dCall fLen (dCons (dOp fIx (dVar 1) (dC (.int 2))) dNil))) (dAndV (dOp fLe (dC (.int 1)) (dOp fIx (dVar 0) (dC (.int 1)))) (dOp fLe (dOp fIx (dVar 0) (dC (.int 1))) (dOp fIx (dOp fIx (dVar 1) (dC (.int 2))) (dOp fIx (dVar 0) (dC (.int 0)))))))))
def m_asks_past : MF := dFn 3 7
    (dSeq (dFor [3, 4, 5, 6] (dRng1 (dCons (dCall fLen (dCons (dVar 1) dNil)) dNil)) (gNm 3)
      (dFor [4, 5, 6] (dRng2 (dCons (dUn fNeg (dC (.int 2))) (dCons (dC (.int 8)) dNil))) (gNm 4)
      (dSeq (dSet 5 (dOp (fAdd false) (dC (.int 1)) (dOp fMod (dCall m_at (dCons (dVar 0) (dCons (dOp (fAdd false) (dOp (fAdd false) (dC (.int 700)) (dOp fMul (dC (.int 10)) (dVar 3))) (dVar 4)) dNil))) (dOp fIx (dLst false (dCons (dC (.int 4)) (dCons (dC (.int 3)) (dCons (dC (.int 9973)) dNil)))) (dOp fMod (dCall m_at (dCons (dVar 0) (dCons (dC (.int 4)) dNil))) (dC (.int 3)))))))
    (dSeq (dIf (dAnd (dTest (dOp fLe (dC (.int 0)) (dVar 4))) (dAnd (dTest (dOp fLt (dVar 4) (dCall fLen (dCons (dOp fIx (dOp fIx (dVar 1) (dVar 3)) (dC (.int 2))) dNil)))) (dTest (dOp (fEq false) (dOp fMod (dCall m_at (dCons (dVar 0) (dCons (dOp (fAdd false) (dC (.int 5)) (dVar 3)) dNil))) (dC (.int 2))) (dC (.int 0))))))
      (dSet 5 (dCall fMax (dCons (dC (.int 1)) (dCons (dOp (fAdd false) (dOp fIx (dOp fIx (dOp fIx (dVar 1) (dVar 3)) (dC (.int 2))) (dVar 4)) (dOp fMod (dCall m_at (dCons (dVar 0) (dCons (dOp (fAdd false) (dOp (fAdd false) (dC (.int 6)) (dVar 3)) (dVar 4)) dNil))) (dC (.int 2)))) dNil))))
      dNx)
    (dSeq (dIf (dTest (dOp (fEq false) (dOp fMod (dCall m_at (dCons (dVar 0) (dCons (dOp (fAdd false) (dOp (fAdd false) (dC (.int 8)) (dVar 3)) (dVar 4)) dNil))) (dC (.int 4))) (dC (.int 3))))
      (dSet 5 (dOp fSub (dOp fMod (dCall m_at (dCons (dVar 0) (dCons (dOp (fAdd false) (dC (.int 9)) (dVar 3)) dNil))) (dC (.int 3))) (dC (.int 1))))
      dNx)
    (dSeq (dSet 6 (dCall m_in_past (dCons (dTup (dCons (dVar 4) (dCons (dVar 5) dNil))) (dCons (dOp fIx (dVar 2) (dVar 3)) dNil))))
    (dIf (dOr (dNot (dTest (dUn (fIsi ["bool"]) (dVar 6)))) (dTest (dOp (fEq true) (dVar 6) (dCall m_is_past (dCons (dTup (dCons (dVar 4) (dCons (dVar 5) dNil))) (dCons (dOp fIx (dVar 1) (dVar 3)) dNil))))))
      (dRet (dC (.bl false)))
      dNx)))))))
    (dRet (dC (.bl true))))
def m_law : MF := dFn 1 13
    (dSeq (dSet 1 (dCall m_draws (dCons (dVar 0) dNil)))
    (dSeq (dSet 2 (dCall m_rows (dCons (dVar 1) dNil)))
    (dSeq (dSet 4 (dComp false (dRng1 (dCons (dCall fLen (dCons (dVar 2) dNil)) dNil)) (gNm 3) dYes (dCall m_change (dCons (dOp fIx (dVar 2) (dVar 3)) (dCons (dOp (fEq false) (dOp fMod (dCall m_at (dCons (dVar 1) (dCons (dOp (fAdd false) (dC (.int 40)) (dVar 3)) dNil))) (dC (.int 2))) (dC (.int 1))) dNil))) [3]))
    (dSeq (dFor [0, 5, 6, 7, 8, 9, 10] (dRng1 (dCons (dCall fLen (dCons (dVar 2) dNil)) dNil)) (gNm 3)
      (dIf (dNot (dTest (dCall m_is_kept (dCons (dOp fIx (dVar 4) (dVar 3)) (dCons (dOp fIx (dVar 2) (dVar 3)) dNil)))))
      (dRet (dC (.bl false)))
      dNx))
    (dSeq (dSet 5 (dCall (fList false) (dCons (dVar 4) dNil)))
    (dSeq (dSet 6 (dCall m_in_order (dCons (dVar 5) dNil)))
    (dSeq (dIf (dOr (dNot (dTest (dUn (fIsi ["list"]) (dVar 6)))) (dTest (dOp (fEq true) (dCall fLen (dCons (dVar 6) dNil)) (dCall fLen (dCons (dVar 2) dNil)))))
      (dRet (dC (.bl false)))
      dNx)
    (dSeq (dSet 7 (dComp false (dIt (dVar 6)) (gNm 11) dYes (dMeth 0 "name" m_Change_name (dVar 11) dNil) [11]))
    (dSeq (dSet 8 (dLst true dNil))
    (dSeq (dFor [0, 9, 10] (dIt (dVar 7)) (gNm 9)
      (dSeq (dSet 10 (dComp false (dRng1 (dCons (dCall fLen (dCons (dVar 2) dNil)) dNil)) (gNm 3) (dTest (dOp (fEq false) (dTup (dCons (dOp fIx (dOp fIx (dVar 2) (dVar 3)) (dC (.int 0))) (dCons (dOp fIx (dOp fIx (dVar 2) (dVar 3)) (dC (.int 1))) dNil))) (dVar 9))) (dVar 3) [3]))
    (dSeq (dIf (dOr (dTest (dOp (fEq true) (dCall fLen (dCons (dVar 10) dNil)) (dC (.int 1)))) (dTest (dOp (fInG false) (dOp fIx (dVar 10) (dC (.int 0))) (dVar 8))))
      (dRet (dC (.bl false)))
      dNx)
    (dDrop (dBM "list" fApp (dVar 8) (dCons (dOp fIx (dVar 10) (dC (.int 0))) dNil))))))
    (dSeq (dFor [0, 3, 9, 10] (dRng1 (dCons (dCall fLen (dCons (dVar 8) dNil)) dNil)) (gNm 3)
      (dSeq (dIf (dNot (dTest (dCall m_is_kept (dCons (dOp fIx (dVar 6) (dVar 3)) (dCons (dOp fIx (dVar 2) (dOp fIx (dVar 8) (dVar 3))) dNil)))))
      (dRet (dC (.bl false)))
      dNx)
    (dIf (dAnd (dTest (dOp fGt (dVar 3) (dC (.int 0)))) (dNot (dTest (dCall m_comes_first (dCons (dOp fIx (dVar 2) (dOp fIx (dVar 8) (dOp fSub (dVar 3) (dC (.int 1))))) (dCons (dOp fIx (dVar 2) (dOp fIx (dVar 8) (dVar 3))) dNil))))))
      (dRet (dC (.bl false)))
      dNx)))
    (dSeq (dDrop (dBM "list" fApp (dVar 6) (dCons (dC .non) dNil)))
    (dSeq (dIf (dTest (dOp (fEq true) (dComp false (dIt (dVar 5)) (gNm 11) dYes (dMeth 0 "name" m_Change_name (dVar 11) dNil) [11]) (dComp false (dIt (dVar 2)) (gNm 12) dYes (dTup (dCons (dOp fIx (dVar 12) (dC (.int 0))) (dCons (dOp fIx (dVar 12) (dC (.int 1))) dNil))) [12])))
      (dRet (dC (.bl false)))
      dNx)
    (dSeq (dIf (dTest (dOp (fEq true) (dComp false (dIt (dCall m_in_order (dCons (dVar 5) dNil))) (gNm 11) dYes (dMeth 0 "name" m_Change_name (dVar 11) dNil) [11]) (dVar 7)))
      (dRet (dC (.bl false)))
      dNx)
    (dRet (dCall m_asks_past (dCons (dVar 1) (dCons (dVar 2) (dCons (dVar 4) dNil)))))))))))))))))))
end Kb
namespace Kb
open PySem PySem.Spec PyProof.Rows L2 Pv
def mixI (c k : Int) : Int :=
  let v := (c * 48271 + k * 69621 + 12345) % 2147483647
  (v * v + k * 40692 + 1) % 2147483399 / 5 % 9973
theorem mixI_r (c k : Int) : 0 ≤ mixI c k ∧ mixI c k < 9973 := by
  unfold mixI
  exact ⟨Int.emod_nonneg _ (by decide), Int.emod_lt_of_pos _ (by decide)⟩
theorem mix_eq (c k : Int) (S : SH) : m_mix [.p (.int c), .p (.int k)] S = some (.p (.int (mixI c k)), S) := by
  have h1 := mulOk_r (i := c) (j := 48271) (by decide)
  have h2 := mulOk_r (i := k) (j := 69621) (by decide)
  have h3 := mulOk_r (i := k) (j := 40692) (by decide)
  have h4 : mulOk ((c * 48271 + k * 69621 + 12345) % 2147483647) ((c * 48271 + k * 69621 + 12345) % 2147483647) = true := mulOk_r (by
    have a := Int.emod_nonneg (c * 48271 + k * 69621 + 12345) (b := 2147483647) (by decide)
    have b := Int.emod_lt_of_pos (c * 48271 + k * 69621 + 12345) (b := 2147483647) (by decide)
    omega)
  have h5 : ∀ i, divOk i 5 = true := fun i => divOk_c (by decide) (by decide)
  simp [m_mix, startD, h1, h2, h3, h4, h5]
  rfl
def atD (ds : List Int) (i : Int) : Int := if i < ds.length then ds.getD i.toNat 0 else if ds.length = 0 then mixI i 77 else mixI (ds.getD (i % ds.length).toNat 0 + i * 131) i
theorem atD_r {ds : List Int} (h : ∀ d ∈ ds, 0 ≤ d ∧ d < 9973) {i : Int} (h0 : 0 ≤ i) : 0 ≤ atD ds i ∧ atD ds i < 9973 := by
  unfold atD
  split
  · rename_i q
    have hl : i.toNat < ds.length := by omega
    rw [List.getD_eq_getElem?_getD, List.getElem?_eq_getElem hl]
    exact h _ (List.getElem_mem hl)
  · split <;> exact mixI_r _ _
theorem getD_at {ds : List Int} {n : Nat} (h : n < ds.length) : ds[n]? = some (ds.getD n 0) := by
  rw [List.getD_eq_getElem?_getD, List.getElem?_eq_getElem h]; rfl
theorem at_eq (ds : List Int) (i : Int) (h0 : 0 ≤ i) (S : SH) : m_at [.p (.lst (intsP ds)), .p (.int i)] S = some (.p (.int (atD ds i)), S) := by
  unfold atD
  by_cases h1 : i < ds.length
  · have h2 : i.toNat < ds.length := by omega
    have q := fIx_li (S := ⟨S.os.length, S.os⟩) h0 (intsP_at (getD_at h2))
    simp [m_at, startD, intsP_len, h1, q]
  · by_cases h2 : ds.length = 0
    · have h3 : ¬ i < 0 := by omega
      simp [m_at, startD, intsP_len, h1, h2, h3, fEq, okd, peq, mix_eq]
    · have h3 : 0 < (ds.length : Int) := by omega
      have h4 : (i % (ds.length : Int)).toNat < ds.length := by
        have := Int.emod_nonneg i (b := (ds.length : Int)) (by omega)
        have := Int.emod_lt_of_pos i h3
        omega
      have q := fIx_li (S := ⟨S.os.length, S.os⟩) (Int.emod_nonneg i (b := (ds.length : Int)) (by omega)) (intsP_at (getD_at h4))
      have h5 := mulOk_r (i := i) (j := 131) (by decide)
      have h6 : ¬ ds = [] := fun z => h2 (by rw [z]; rfl)
      have h7 : 0 < ds.length := by omega
      simp [m_at, startD, intsP_len, h1, h2, h3, h5, h6, h7, q, fEq, okd, peq, mix_eq]
def drJ (S : SH) (sc : D) (K : Nat) (S' : SH) : Prop := ∃ ds : List Int, S' = ⟨S.os.length, S.os ++ [.lst ((intsP ds).map D.p)]⟩ ∧ (∀ d ∈ ds, 0 ≤ d ∧ d < 9973) ∧ ds.length ≤ K
theorem drJ_app {S : SH} {sc : D} {K : Nat} {S' : SH} {d : Int} (h : drJ S sc K S') (hd : 0 ≤ d ∧ d < 9973) (hk : K < 100000) : isTy "list" (.ref S.os.length) S' = true ∧ ∃ S2, fApp [.ref S.os.length, .p (.int d)] S' = some (.p .non, S2) ∧ drJ S sc (K + 1) S2 := by
  obtain ⟨ds, rfl, h1, h2⟩ := h
  have e := at_last S.os.length S.os (.lst ((intsP ds).map D.p))
  refine ⟨isTy_ref e, _, fApp_p e (by rw [List.length_map, intsP_len]; have := line_ge; omega), ds ++ [d], ?_, fun x hx => ?_, by rw [List.length_append, List.length_singleton]; omega⟩
  · rw [put_last]
    unfold intsP
    simp
  · rcases List.mem_append.mp hx with hx | hx
    · exact h1 x hx
    · rw [List.mem_singleton.mp hx]; exact hd
theorem drJ_mono {S : SH} {sc : D} {K K' : Nat} {S' : SH} (h : drJ S sc K S') (hk : K ≤ K') : drJ S sc K' S' := by
  obtain ⟨ds, h0, h1, h2⟩ := h
  exact ⟨ds, h0, h1, by omega⟩
abbrev inB : MS := dIf (dTest (dOp fGt (dVar 3) (dC (.int 0))))
      (dSeq (dDrop (dBM "list" fApp (dVar 1) (dCons (dOp fMod (dCall fInt (dCons (dVar 3) dNil)) (dC (.int 9973))) dNil)))
    (dSet 3 (dOp fDiv (dVar 3) (dC (.int 9973)))))
      dNx
theorem in_ok (S : SH) (x : D) (K : Nat) (hK : K < 5000) (c : Int) (S1 : SH) (hj : drJ S (.p .non) K S1) : ∃ c2 S2, forL [2, 4] (srcN 0 60).fin (gNm 4) inB (srcN 0 60).items [some x, some (.ref S.os.length), none, some (.p (.int c)), none] S1 = some (.nx [some x, some (.ref S.os.length), none, some (.p (.int c2)), none], S2) ∧ drJ S (.p .non) (K + 60) S2 := by
  obtain ⟨σ2, S2, hr, ⟨c2, rfl⟩, hj2⟩ := rng0_inv (body := inB) (ws := [2, 4]) (j := 4) (fun i' σ S' => (∃ c, σ = [some x, some (.ref S.os.length), none, some (.p (.int c)), none]) ∧ drJ S (.p .non) (K + i') S') 60 (σ := [some x, some (.ref S.os.length), none, some (.p (.int c)), none]) (S := S1) ⟨⟨c, rfl⟩, hj⟩ (by
        rintro i' σ S3 hi' ⟨⟨c, rfl⟩, hj⟩
        by_cases hc : 0 < c
        · obtain ⟨t, S4, ha, hj4⟩ := drJ_app hj (d := c % 9973) ⟨Int.emod_nonneg _ (by decide), Int.emod_lt_of_pos _ (by decide)⟩ (by omega)
          refine ⟨[some x, some (.ref S.os.length), none, some (.p (.int (c / 9973))), some (.p (.int (i' : Int)))], S4, .inl ?_, ⟨_, rfl⟩, hj4⟩
          have hdv : divOk c 9973 = true := divOk_c (by decide) (by decide)
          simp [hc, t, ha, hdv]
        · refine ⟨[some x, some (.ref S.os.length), none, some (.p (.int c)), some (.p (.int (i' : Int)))], S3, .inl ?_, ⟨_, rfl⟩, drJ_mono hj (by omega)⟩
          simp [hc])
  exact ⟨c2, S2, hr, hj2⟩

abbrev outB : MS := (dSeq (dSet 3 (dCall fInt (dCons (dOp fIx (dVar 0) (dVar 2)) dNil)))
    (dIf (dTest (dOp fLt (dVar 3) (dOp fPow (dC (.int 10)) (dC (.int 18)))))
      (dDrop (dBM "list" fApp (dVar 1) (dCons (dCall m_mix (dCons (dVar 3) (dCons (dVar 2) dNil))) dNil)))
      (dFor [2, 4] (dRng1 (dCons (dC (.int 60)) dNil)) (gNm 4) inB)))
theorem r60 (S1 : SH) : rng1 [.p (.int 60)] S1 = some (srcN 0 60, S1) := srt_rng 60 (by omega)
theorem lt18 {c : Int} : (powOk 10 18 = true) := by simp [powOk]
theorem out_ok (S : SH) (ns : List Int) (i : Nat) (hi : i < ns.length) (hn : ns.length ≤ 63) (S1 : SH) (hj : drJ S (.p .non) (60 * i) S1) : ∃ σ2 S2, outB ([some (.p (.lst (intsP ns))), some (.ref S.os.length), some (.p (.int (i : Int))), none, none]) S1 = some (.nx σ2, S2) ∧ wipeD [2, 3, 4] σ2 = [some (.p (.lst (intsP ns))), some (.ref S.os.length), none, none, none] ∧ drJ S (.p .non) (60 * (i + 1)) S2 := by
  have q := fIx_li (S := S1) (i := (i : Int)) (by omega) (intsP_at (getD_at (ds := ns) (n := (i : Int).toNat) (by omega)))
  generalize ns.getD (i : Int).toNat 0 = c at q
  by_cases hc : c < 1000000000000000000
  · obtain ⟨t, S2, ha, hj2⟩ := drJ_app hj (mixI_r c i) (by omega)
    refine ⟨[some (.p (.lst (intsP ns))), some (.ref S.os.length), some (.p (.int (i : Int))), some (.p (.int c)), none], S2, ?_, rfl, drJ_mono hj2 (by omega)⟩
    have hp : powOk 10 18 = true := lt18 (c := 0)
    simp [outB, q, hp, hc, t, mix_eq, ha]
  · obtain ⟨c2, S2, hr, hj2⟩ := in_ok S (.p (.lst (intsP ns))) (60 * i) (by omega) c S1 hj
    refine ⟨[some (.p (.lst (intsP ns))), some (.ref S.os.length), none, some (.p (.int c2)), none], S2, ?_, rfl, drJ_mono hj2 (by omega)⟩
    have hp : powOk 10 18 = true := lt18 (c := 0)
    simp [outB, q, hp, hc, r60, wipeD, hr]


theorem dr1 (ns : List Int) (hn : ns.length ≤ 63) (S : SH) : ∃ ds S', forL [2, 3, 4] (srcN 0 ns.length).fin (gNm 2) outB (srcN 0 ns.length).items [some (.p (.lst (intsP ns))), some (.ref S.os.length), none, none, none] ⟨S.os.length, S.os ++ [.lst []]⟩ = some (.nx [some (.p (.lst (intsP ns))), some (.ref S.os.length), none, none, none], S') ∧ S' = ⟨S.os.length, S.os ++ [.lst ((intsP ds).map D.p)]⟩ ∧ ∀ d ∈ ds, 0 ≤ d ∧ d < 9973 := by
  obtain ⟨σ', S', hr, rfl, ds, rfl, hd, _⟩ := rng0_inv (body := outB) (ws := [2, 3, 4]) (j := 2)
    (fun i σ S' => σ = [some (.p (.lst (intsP ns))), some (.ref S.os.length), none, none, none] ∧ drJ S (.p .non) (60 * i) S') ns.length (σ := [some (.p (.lst (intsP ns))), some (.ref S.os.length), none, none, none]) (S := ⟨S.os.length, S.os ++ [.lst []]⟩) ⟨rfl, [], rfl, fun d h => absurd h (by simp), by simp⟩ (by
      rintro i σ S1 hi ⟨rfl, hj⟩
      obtain ⟨σ2, S2, h1, h2, h3⟩ := out_ok S ns i hi hn S1 hj
      exact ⟨σ2, S2, .inl h1, h2, h3⟩)
  exact ⟨ds, _, hr, rfl, hd⟩

theorem dr2 (ns : List Int) (hn : ns.length ≤ 63) (S : SH) : rng1 [.p (.int ns.length)] S = some (srcN 0 ns.length, S) := srt_rng _ (by omega)
theorem dr3 (S : SH) : newL true [] S = some (.ref S.os.length, ⟨S.b, S.os ++ [.lst []]⟩) := newL_t [] (Nat.zero_le _)
theorem dr4 (n : Nat) (hn : n ≤ 63) : (if (n : Int) < 63 then (n : Int) else 63) = n := by
    split
    · rfl
    · omega

theorem draws_eq (ns : List Int) (hn : ns.length ≤ 63) (S : SH) : ∃ ds : List Int, m_draws [.p (.lst (intsP ns))] S = some (.p (.lst (intsP ds)), S) ∧ ∀ d ∈ ds, 0 ≤ d ∧ d < 9973 := by
  obtain ⟨ds, S', hr, hS, hd⟩ := dr1 ns hn S
  refine ⟨ds, ?_, hd⟩
  have e6 := frame_ref (S := S) (n := S.os.length) (S1 := S') (ps := intsP ds) (Nat.le_refl _) (by rw [hS]; exact at_last _ _ _)
  have e7 : Pv.cutS S S' = S := by rw [hS]; exact cut_app _ _
  rw [e7] at e6
  have e8 : dRng1 (dCons (dCall fMin (dCons (dC (.int 63)) (dCons (dCall fLen (dCons (dVar 0) dNil)) dNil))) dNil) [some (.p (.lst (intsP ns))), some (.ref S.os.length), none, none, none] ⟨S.os.length, S.os ++ [.lst []]⟩ = some (srcN 0 ns.length, ⟨S.os.length, S.os ++ [.lst []]⟩) := by
    simp only [at_dRng1, at_dCons, at_dCall, at_dC, at_dVar, at_dNil, fLen_l, fMin_i, intsP_len, bnd_some, List.getElem?_cons_zero]
    rw [dr4 _ hn, dr2 ns hn]
  have e9 : startD 5 [.p (.lst (intsP ns))] = [some (.p (.lst (intsP ns))), none, none, none, none] := rfl
  have e10 : ([some (.p (.lst (intsP ns))), none, none, none, none] : En).set 1 (some (.ref S.os.length)) = [some (.p (.lst (intsP ns))), some (.ref S.os.length), none, none, none] := rfl
  have e11 : wipeD [2, 3, 4] [some (D.p (.lst (intsP ns))), some (.ref S.os.length), none, none, none] = [some (D.p (.lst (intsP ns))), some (.ref S.os.length), none, none, none] := rfl
  simp only [m_draws, at_fn, List.length_singleton, if_true, at_dSeq, at_dSet, at_dLst, at_dNil, bnd_some, dr3, seqK_nx, e9, e10, at_dFor, e8, e11, hr, at_dRet, at_dVar, List.getElem?_cons_succ, List.getElem?_cons_zero, e6]
end Kb
namespace Kb
open PySem PySem.Spec PyProof.Rows L2 Pv
theorem is_int (i : Int) (S : SH) : m_is_integer [.p (.int i)] S = some (.p (.bl true), S) := by
  simp [m_is_integer, startD, fIsi, tyName, tyOk, isSub]
theorem fIx_seq {ps : List P} {p : P} (hp : p = .lst ps ∨ p = .tup ps) {n : Nat} {x : P} {S : SH} (h : ps[n]? = some x) : fIx (.p p) (.p (.int (n : Int))) S = some (.p x, S) := by
  rcases hp with rfl | rfl
  · exact fIx_l h
  · exact fIx_t h
theorem fLen_seq {ps : List P} {p : P} (hp : p = .lst ps ∨ p = .tup ps) {S : SH} : fLen [.p p] S = some (.p (.int ps.length), S) := by
  rcases hp with rfl | rfl
  · exact fLen_l
  · exact fLen_t
/-- data of nested lists and tuples, so deep and long at most -/
def okz : Nat → P → Bool
  | _, .non => true
  | _, .bl _ => true
  | _, .int _ => true
  | _, .str _ => true
  | k + 1, .lst ps => decide (ps.length ≤ 1000000) && ps.all (okz k)
  | k + 1, .tup ps => decide (ps.length ≤ 1000000) && ps.all (okz k)
  | _, _ => false
theorem okz_okd : ∀ (k : Nat) (p : P), okz k p = true → okd k p = true := by
  intro k
  induction k with
  | zero => intro p h; cases p <;> first | rfl | exact h
  | succ k ih =>
    intro p h
    cases p <;> first | rfl | exact h | skip
    · simp only [okz, okd, Bool.and_eq_true, List.all_eq_true] at h ⊢
      exact fun x hx => ih x (h.2 x hx)
    · simp only [okz, okd, Bool.and_eq_true, List.all_eq_true] at h ⊢
      exact fun x hx => ih x (h.2 x hx)
theorem okz_mono : ∀ (k : Nat) (p : P), okz k p = true → okz (k + 1) p = true := by
  intro k
  induction k with
  | zero => intro p h; cases p <;> first | rfl | cases h
  | succ k ih =>
    intro p h
    cases p <;> first | rfl | exact h | skip
    · rw [okz] at h ⊢
      simp only [Bool.and_eq_true, List.all_eq_true] at h ⊢
      exact ⟨h.1, fun x hx => ih x (h.2 x hx)⟩
    · rw [okz] at h ⊢
      simp only [Bool.and_eq_true, List.all_eq_true] at h ⊢
      exact ⟨h.1, fun x hx => ih x (h.2 x hx)⟩
theorem okz_up {k : Nat} {p : P} (h : okz k p = true) : ∀ n, okz (k + n) p = true
  | 0 => h
  | n + 1 => okz_mono _ _ (okz_up h n)
theorem same_seq (k : Nat) (ps : List P) (ih : ∀ (p : P) (S : SH), p ∈ ps → m_same k [.p p, .p p] S = some (.p (.bl true), S)) (hz : ps.length ≤ 1000000) (p : P) (hp : p = .lst ps ∨ p = .tup ps) (S : SH) : m_same (k + 1) [.p p, .p p] S = some (.p (.bl true), S) := by
  have hl : forL [2] (srcN 0 ps.length).fin (gNm 2) (dIf (dNot (dTest (dCall (m_same k) (dCons (dOp fIx (dVar 0) (dVar 2)) (dCons (dOp fIx (dVar 1) (dVar 2)) dNil)))))
      (dRet (dC (.bl false)))
      dNx) (srcN 0 ps.length).items [some (.p p), some (.p p), none] ⟨S.os.length, S.os⟩ = some (.nx [some (.p p), some (.p p), none], ⟨S.os.length, S.os⟩) := by
    obtain ⟨σ', S', hr, rfl, rfl⟩ := rng0_inv (body := (dIf (dNot (dTest (dCall (m_same k) (dCons (dOp fIx (dVar 0) (dVar 2)) (dCons (dOp fIx (dVar 1) (dVar 2)) dNil)))))
      (dRet (dC (.bl false)))
      dNx)) (ws := [2]) (j := 2) (fun i σ S' => σ = [some (.p p), some (.p p), none] ∧ S' = ⟨S.os.length, S.os⟩) ps.length (σ := [some (.p p), some (.p p), none]) (S := ⟨S.os.length, S.os⟩) ⟨rfl, rfl⟩ (by
        rintro i σ S1 hi ⟨rfl, rfl⟩
        have hx : ps[i]? = some ps[i] := List.getElem?_eq_getElem hi
        have q := fIx_seq (S := ⟨S.os.length, S.os⟩) hp hx
        refine ⟨[some (.p p), some (.p p), some (.p (.int (i : Int)))], _, .inl ?_, rfl, rfl⟩
        simp [q, ih _ _ (List.getElem_mem hi)])
    exact hr
  have e1 := fun S => srt_rng (S := S) ps.length (by omega)
  rcases hp with rfl | rfl
  · simp [m_same, startD, fIsi, tyName, tyOk, isSub, fEq, okd, peq, e1, wipeD, hl]
  · simp [m_same, startD, fIsi, tyName, tyOk, isSub, fEq, okd, peq, e1, wipeD, hl]
theorem same_refl : ∀ (k : Nat) (p : P) (S : SH), okz k p = true → m_same (k + 1) [.p p, .p p] S = some (.p (.bl true), S) := by
  intro k
  induction k with
  | zero =>
    intro p S h
    cases p <;> first | (cases h; done) | (simp [m_same, startD, fIsi, tyName, tyOk, isSub, fEq, okd, peq, fIs, isNon, is_int])
  | succ k ih =>
    intro p S h
    cases p <;> first | (cases h; done) | (simp [m_same, startD, fIsi, tyName, tyOk, isSub, fEq, okd, peq, fIs, isNon, is_int]; done) | skip
    · rename_i ps
      simp only [okz, Bool.and_eq_true, List.all_eq_true, decide_eq_true_eq] at h
      first | exact same_seq (k + 1) ps (fun x S hx => ih x S (h.2 x hx)) h.1 _ (.inl rfl) S | exact same_seq (k + 1) ps (fun x S hx => ih x S (h.2 x hx)) h.1 _ (.inr rfl) S
    · rename_i ps
      simp only [okz, Bool.and_eq_true, List.all_eq_true, decide_eq_true_eq] at h
      first | exact same_seq (k + 1) ps (fun x S hx => ih x S (h.2 x hx)) h.1 _ (.inl rfl) S | exact same_seq (k + 1) ps (fun x S hx => ih x S (h.2 x hx)) h.1 _ (.inr rfl) S
theorem same40 (p : P) (S : SH) (h : okz 39 p = true) : m_same 40 [.p p, .p p] S = some (.p (.bl true), S) := same_refl 39 p S h
end Kb
namespace Kb
open PySem PySem.Spec PyProof.Rows L2 Pv
def insG (au nu cap : P) (hd pb pt : List P) : List (Str × P) := [("author", au), ("number", nu), ("heard", .tup hd), ("capability", cap), ("publics", .tup pb), ("parts", .tup pt)]
def insP (au nu cap : P) (hd pb pt : List P) : P := .ins 0 (insG au nu cap hd pb pt)
def partOk : P → Bool
  | .non => true
  | .tup _ => true
  | _ => false
theorem as_tuple_eq {p : P} (h : partOk p = true) (S : SH) : m_as_tuple [.p p] S = some (.p p, S) := by
  cases p <;> first | (cases h; done) | skip
  · simp [m_as_tuple, startD, fIs, isNon]
  · simp [m_as_tuple, startD, fIs, isNon]
theorem fTuple_s {ps : List P} {p : P} (h : p = .lst ps ∨ p = .tup ps) (hl : ps.length ≤ sizeLine) {S : SH} : fTuple [.p p] S = some (.p (.tup ps), S) := by
  rcases h with rfl | rfl
  · exact fTuple_l hl
  · exact fTuple_t
theorem init_eq (S : SH) (au nu cap : P) {hd pb pt : List P} {hp pp qp : P} (h1 : hp = .lst hd ∨ hp = .tup hd) (h2 : pp = .lst pb ∨ pp = .tup pb) (h3 : qp = .lst pt ∨ qp = .tup pt) (l1 : hd.length ≤ sizeLine) (l2 : pb.length ≤ sizeLine) (l3 : pt.length ≤ sizeLine) (ho : ∀ p ∈ pt, partOk p = true) :
    m_Change_init [.ref S.os.length, .p au, .p nu, .p hp, .p cap, .p pp, .p qp] ⟨S.os.length, S.os ++ [.ins 0 []]⟩ = some (.p .non, ⟨S.os.length, S.os ++ [.ins 0 ((insG au nu cap hd pb pt).map fun p => (p.1, .p p.2))]⟩) := by
  have c0 : ([0] : List Nat).contains 0 = true := by decide
  have ev : startD 8 [.ref S.os.length, .p au, .p nu, .p hp, .p cap, .p pp, .p qp] = [some (.ref S.os.length), some (.p au), some (.p nu), some (.p hp), some (.p cap), some (.p pp), some (.p qp), none] := rfl
  have e1 := fun S => fTuple_s (S := S) h1 l1
  have e2 := fun S => fTuple_s (S := S) h2 l2
  have e3 := fun S => itP (S := S) pt h3
  have e4 := fun (T : SH) => comp_p (S := T) (j := 7) (t := dYes) (elt := dCall m_as_tuple (dCons (dVar 7) dNil)) (σ := [some (.ref S.os.length), some (.p au), some (.p nu), some (.p hp), some (.p cap), some (.p pp), some (.p qp), none]) (fun _ => true) (fun p => D.p p) pt l3 fun p hp => ⟨rfl, fun _ => by simp [as_tuple_eq (ho p hp)]⟩
  unfold m_Change_init
  simp only [at_fnL, ev, at_dSeq, at_dSetF, at_dCall, at_dCons, at_dNil, at_dVar, at_dComp, at_dIt, bnd_some, seqK_nx, List.length_cons, List.length_nil, if_true, List.getElem?_cons_succ, List.getElem?_cons_zero, e1, e2, e3]
  have q1 : putFD "author" (.p au) ([] : List (Str × D)) = ([("author", .p au)] : List (Str × D)) := rfl
  have q2 : putFD "number" (.p nu) ([("author", .p au)] : List (Str × D)) = ([("author", .p au), ("number", .p nu)] : List (Str × D)) := rfl
  have q3 : putFD "heard" (.p (.tup hd)) ([("author", .p au), ("number", .p nu)] : List (Str × D)) = ([("author", .p au), ("number", .p nu), ("heard", .p (.tup hd))] : List (Str × D)) := rfl
  have q4 : putFD "capability" (.p cap) ([("author", .p au), ("number", .p nu), ("heard", .p (.tup hd))] : List (Str × D)) = ([("author", .p au), ("number", .p nu), ("heard", .p (.tup hd)), ("capability", .p cap)] : List (Str × D)) := rfl
  have q5 : putFD "publics" (.p (.tup pb)) ([("author", .p au), ("number", .p nu), ("heard", .p (.tup hd)), ("capability", .p cap)] : List (Str × D)) = ([("author", .p au), ("number", .p nu), ("heard", .p (.tup hd)), ("capability", .p cap), ("publics", .p (.tup pb))] : List (Str × D)) := rfl
  have q6 : putFD "parts" (.p (.tup pt)) ([("author", .p au), ("number", .p nu), ("heard", .p (.tup hd)), ("capability", .p cap), ("publics", .p (.tup pb))] : List (Str × D)) = ([("author", .p au), ("number", .p nu), ("heard", .p (.tup hd)), ("capability", .p cap), ("publics", .p (.tup pb)), ("parts", .p (.tup pt))] : List (Str × D)) := rfl
  have sl : ∀ {f : Str} {v : P} {fs : List (Str × D)}, fs.length < 1000 → setFld [0] f (.ref S.os.length) (.p v) ⟨S.os.length, S.os ++ [.ins 0 fs]⟩ = some ⟨S.os.length, S.os ++ [.ins 0 (putFD f (.p v) fs)]⟩ := fun hl => setF_last c0 hl
  rw [sl (by simp only [List.length_cons, List.length_nil]; omega), q1]
  simp only [bnd_some, seqK_nx, at_dSeq, at_dSetF, at_dCall, at_dCons, at_dNil, at_dVar, at_dComp, at_dIt, List.getElem?_cons_succ, List.getElem?_cons_zero]
  rw [sl (by simp only [List.length_cons, List.length_nil]; omega), q2]
  simp only [bnd_some, seqK_nx, at_dSeq, at_dSetF, at_dCall, at_dCons, at_dNil, at_dVar, at_dComp, at_dIt, List.getElem?_cons_succ, List.getElem?_cons_zero, e1]
  rw [sl (by simp only [List.length_cons, List.length_nil]; omega), q3]
  simp only [bnd_some, seqK_nx, at_dSeq, at_dSetF, at_dCall, at_dCons, at_dNil, at_dVar, at_dComp, at_dIt, List.getElem?_cons_succ, List.getElem?_cons_zero]
  rw [sl (by simp only [List.length_cons, List.length_nil]; omega), q4]
  simp only [bnd_some, seqK_nx, at_dSeq, at_dSetF, at_dCall, at_dCons, at_dNil, at_dVar, at_dComp, at_dIt, List.getElem?_cons_succ, List.getElem?_cons_zero, e2]
  rw [sl (by simp only [List.length_cons, List.length_nil]; omega), q5]
  have hw : wipeD [7] [some (.ref S.os.length), some (.p au), some (.p nu), some (.p hp), some (.p cap), some (.p pp), some (.p qp), none] = [some (.ref S.os.length), some (.p au), some (.p nu), some (.p hp), some (.p cap), some (.p pp), some (.p qp), none] := rfl
  have ef : pt.filter (fun _ => true) = pt := List.filter_eq_self.mpr fun _ _ => rfl
  simp only [bnd_some, seqK_nx, at_dSeq, at_dSetF, at_dCall, at_dCons, at_dNil, at_dVar, at_dComp, at_dIt, List.getElem?_cons_succ, List.getElem?_cons_zero, e3, hw]
  rw [e4, ef, bnd_some, newL_f pt l3]
  simp only [bnd_some, fTuple_l l3]
  rw [sl (by simp only [List.length_cons, List.length_nil]; omega), q6]
  rfl
theorem mk_eq (S : SH) {a : MA} {σ : En} (au nu cap : P) {hd pb pt : List P} {hp pp qp : P} (ha : a σ S = some ([.p au, .p nu, .p hp, .p cap, .p pp, .p qp], S)) (h1 : hp = .lst hd ∨ hp = .tup hd) (h2 : pp = .lst pb ∨ pp = .tup pb) (h3 : qp = .lst pt ∨ qp = .tup pt) (l1 : hd.length ≤ sizeLine) (l2 : pb.length ≤ sizeLine) (l3 : pt.length ≤ sizeLine) (ho : ∀ p ∈ pt, partOk p = true) :
    dMake false 0 m_Change_init a σ S = some (.p (insP au nu cap hd pb pt), S) := by
  rw [at_dMakeF, ha, bnd_some, init_eq S au nu cap h1 h2 h3 l1 l2 l3 ho, bnd_some]
  have e := out_ins (k := S.os.length) (c := 0) (n := S.os.length) (S1 := ⟨S.os.length, S.os ++ [.ins 0 ((insG au nu cap hd pb pt).map fun p => (p.1, .p p.2))]⟩) (gs := insG au nu cap hd pb pt) (Nat.le_refl _) (at_last _ _ _)
  dsimp only
  rw [e]
  dsimp only
  rw [cut_app]
  rfl
section
variable (au nu cap : P) (hd pb pt : List P) (S : SH)
theorem f_author : dFld [0] "author" (.p (insP au nu cap hd pb pt)) S = some (.p au, S) := rfl
theorem f_number : dFld [0] "number" (.p (insP au nu cap hd pb pt)) S = some (.p nu, S) := rfl
theorem f_heard : dFld [0] "heard" (.p (insP au nu cap hd pb pt)) S = some (.p (.tup hd), S) := rfl
theorem f_capability : dFld [0] "capability" (.p (insP au nu cap hd pb pt)) S = some (.p cap, S) := rfl
theorem f_publics : dFld [0] "publics" (.p (insP au nu cap hd pb pt)) S = some (.p (.tup pb), S) := rfl
theorem f_parts : dFld [0] "parts" (.p (insP au nu cap hd pb pt)) S = some (.p (.tup pt), S) := rfl
theorem nT (ps : List P) (h : ps.length ≤ 100) (ds : List D) (e : ds = ps.map D.p) : newT ds S = some (.p (.tup ps), S) := by
  rw [e]
  exact newT_p ps (by have := line_ge; omega)
theorem name_eq : m_Change_name [.p (insP au nu cap hd pb pt)] S = some (.p (.tup [au, nu]), S) := by
  have e := nT ⟨S.os.length, S.os⟩ [au, nu] (by simp) [.p au, .p nu] rfl
  simp [m_Change_name, startD, f_author, f_number, e]
theorem header_eq : m_Change_header [.p (insP au nu cap hd pb pt)] S = some (.p (.tup [au, nu, .tup hd, cap, .tup pb]), S) := by
  have e := nT ⟨S.os.length, S.os⟩ [au, nu, .tup hd, cap, .tup pb] (by simp) [.p au, .p nu, .p (.tup hd), .p cap, .p (.tup pb)] rfl
  simp [m_Change_header, startD, f_author, f_number, f_heard, f_capability, f_publics, e]
theorem with_eq (ps : List P) (l1 : hd.length ≤ sizeLine) (l2 : pb.length ≤ sizeLine) (l3 : ps.length ≤ sizeLine) (ho : ∀ p ∈ ps, partOk p = true) : m_Change_with_parts [.p (insP au nu cap hd pb pt), .p (.lst ps)] S = some (.p (insP au nu cap hd pb ps), S) := by
  have e := mk_eq ⟨S.os.length, S.os⟩ (a := dCons (dUn (dFld [0] "author") (dVar 0)) (dCons (dUn (dFld [0] "number") (dVar 0)) (dCons (dUn (dFld [0] "heard") (dVar 0)) (dCons (dUn (dFld [0] "capability") (dVar 0)) (dCons (dUn (dFld [0] "publics") (dVar 0)) (dCons (dVar 1) dNil))))))
    (σ := [some (.p (insP au nu cap hd pb pt)), some (.p (.lst ps))]) au nu cap (hd := hd) (pb := pb) (pt := ps) (by simp [f_author, f_number, f_heard, f_capability, f_publics]) (.inr rfl) (.inr rfl) (.inl rfl) l1 l2 l3 ho
  simp [m_Change_with_parts, startD, e]
end
theorem sum_t (ns : List Int) (S : SH) : fSum [.p (.tup (intsP ns))] S = some (.p (.int ns.sum), S) := by
  have q := fSum_l (S := S) ns
  unfold fSum at q ⊢
  exact q
theorem key_eq (a n : Int) (cap : P) (h : List Int) (pb pt : List P) (S : SH) : m_order_key [.p (insP (.int a) (.int n) cap (intsP h) pb pt)] S = some (.p (.tup [.int h.sum, .int a, .int n]), S) := by
  have e := nT ⟨S.os.length, S.os⟩ [.int h.sum, .int a, .int n] (by simp) [.p (.int h.sum), .p (.int a), .p (.int n)] rfl
  simp [m_order_key, startD, f_author, f_number, f_heard, sum_t, e]
end Kb
namespace Kb
open PySem PySem.Spec PyProof.Rows L2 Pv
structure Row where
  a : Int
  n : Int
  h : List Int
  cap : P
  pb : List P
def partsL : List P := [.non, .tup [], .tup [.tup [.str "table", .str "t"]], .tup []]
def otherL : List P := [.tup [], .non, .non, .tup [.tup [.str "table", .str "u"]]]
def rowL (r : Row) : List P := [.int r.a, .int r.n, .lst (intsP r.h), r.cap, .lst r.pb, .lst partsL]
def rowP (r : Row) : P := .lst (rowL r)
def chP (r : Row) : P := insP (.int r.a) (.int r.n) r.cap (intsP r.h) r.pb partsL
structure RowOk (r : Row) : Prop where
  h : r.h.length ≤ 6
  pb : r.pb.length ≤ 6
  cap : okz 30 r.cap = true
  pbs : ∀ p ∈ r.pb, okz 30 p = true
section
variable (r : Row) (S : SH)
theorem ix0 : fIx (.p (rowP r)) (.p (.int 0)) S = some (.p (.int r.a), S) := fIx_li (by decide) rfl
theorem ix1 : fIx (.p (rowP r)) (.p (.int 1)) S = some (.p (.int r.n), S) := fIx_li (by decide) rfl
theorem ix2 : fIx (.p (rowP r)) (.p (.int 2)) S = some (.p (.lst (intsP r.h)), S) := fIx_li (by decide) rfl
theorem ix3 : fIx (.p (rowP r)) (.p (.int 3)) S = some (.p r.cap, S) := fIx_li (by decide) rfl
theorem ix4 : fIx (.p (rowP r)) (.p (.int 4)) S = some (.p (.lst r.pb), S) := fIx_li (by decide) rfl
theorem ix5 : fIx (.p (rowP r)) (.p (.int 5)) S = some (.p (.lst partsL), S) := fIx_li (by decide) rfl
end
theorem parts_ok : ∀ p ∈ partsL, partOk p = true := by decide
theorem other_ok : ∀ p ∈ otherL, partOk p = true := by decide
theorem small {n : Nat} (h : n ≤ 1000) : n ≤ sizeLine := by have := line_ge; omega
section
variable {r : Row} (ok : RowOk r) (S : SH)
include ok
theorem change_eq (b : Bool) : m_change [.p (rowP r), .p (.bl b)] S = some (.p (chP r), S) := by
  have lh : (intsP r.h).length ≤ sizeLine := small (by rw [intsP_len]; have := ok.h; omega)
  have lp : r.pb.length ≤ sizeLine := small (by have := ok.pb; omega)
  have lq : partsL.length ≤ sizeLine := small (by decide)
  have t1 := fun S => fTuple_l (S := S) lh
  have t2 := fun S => fTuple_l (S := S) lp
  have t3 := fun S => fTuple_l (S := S) lq
  have u1 := fun S => fList_l (S := S) lh
  have u2 := fun S => fList_l (S := S) lp
  have u3 := fun S => fList_l (S := S) lq
  have e1 := mk_eq ⟨S.os.length, S.os⟩ (a := (dCons (dOp fIx (dVar 0) (dC (.int 0))) (dCons (dOp fIx (dVar 0) (dC (.int 1))) (dCons (dCall (fList false) (dCons (dOp fIx (dVar 0) (dC (.int 2))) dNil)) (dCons (dOp fIx (dVar 0) (dC (.int 3))) (dCons (dCall (fList false) (dCons (dOp fIx (dVar 0) (dC (.int 4))) dNil)) (dCons (dCall (fList false) (dCons (dOp fIx (dVar 0) (dC (.int 5))) dNil)) dNil)))))))
    (σ := [some (.p (rowP r)), some (.p (.bl true))]) (.int r.a) (.int r.n) r.cap (hd := intsP r.h) (pb := r.pb) (pt := partsL) (by simp [ix0, ix1, ix2, ix3, ix4, ix5, u1, u2, u3]) (.inl rfl) (.inl rfl) (.inl rfl) lh lp lq parts_ok
  have e2 := mk_eq ⟨S.os.length, S.os⟩ (a := (dCons (dOp fIx (dVar 0) (dC (.int 0))) (dCons (dOp fIx (dVar 0) (dC (.int 1))) (dCons (dCall fTuple (dCons (dOp fIx (dVar 0) (dC (.int 2))) dNil)) (dCons (dOp fIx (dVar 0) (dC (.int 3))) (dCons (dCall fTuple (dCons (dOp fIx (dVar 0) (dC (.int 4))) dNil)) (dCons (dCall fTuple (dCons (dOp fIx (dVar 0) (dC (.int 5))) dNil)) dNil)))))))
    (σ := [some (.p (rowP r)), some (.p (.bl false))]) (.int r.a) (.int r.n) r.cap (hd := intsP r.h) (pb := r.pb) (pt := partsL) (by simp [ix0, ix1, ix2, ix3, ix4, ix5, t1, t2, t3]) (.inr rfl) (.inr rfl) (.inr rfl) lh lp lq parts_ok
  cases b
  · simp [m_change, startD, truD, e2]
    rfl
  · simp [m_change, startD, truD, e1]
    rfl
theorem hdr_z : okz 39 (.tup [.int r.a, .int r.n, .tup (intsP r.h), r.cap, .tup r.pb]) = true := by
  have h1 : okz 38 r.cap = true := okz_up ok.cap 8
  have h2 : ∀ p ∈ r.pb, okz 37 p = true := fun p hp => okz_up (ok.pbs p hp) 7
  have h3 : ∀ p ∈ intsP r.h, okz 37 p = true := fun p hp => by
    obtain ⟨i, _, rfl⟩ := List.mem_map.mp hp
    rfl
  have h4 := ok.h
  have h5 := ok.pb
  have h6 := intsP_len r.h
  simp only [okz, List.length_cons, List.length_nil, List.all_cons, List.all_nil, Bool.and_eq_true, Bool.and_true, Bool.true_and, decide_eq_true_eq, List.all_eq_true, h1, and_true, true_and]
  exact ⟨by omega, ⟨by omega, h3⟩, by omega, h2⟩
theorem tup_h_z : okz 39 (.tup (intsP r.h)) = true := by
  have h3 : ∀ p ∈ intsP r.h, okz 38 p = true := fun p hp => by
    obtain ⟨i, _, rfl⟩ := List.mem_map.mp hp
    rfl
  have h4 := ok.h
  have h6 := intsP_len r.h
  simp only [okz, Bool.and_eq_true, decide_eq_true_eq, List.all_eq_true]
  exact ⟨by omega, h3⟩
theorem tup_p_z : okz 39 (.tup r.pb) = true := by
  have h2 : ∀ p ∈ r.pb, okz 38 p = true := fun p hp => okz_up (ok.pbs p hp) 8
  have h5 := ok.pb
  simp only [okz, Bool.and_eq_true, decide_eq_true_eq, List.all_eq_true]
  exact ⟨by omega, h2⟩
end
theorem meth_at {nm : Str} {m : MF} {a : ME} {r : MA} {σ : En} {S : SH} {gs : List (Str × P)} (ha : a σ S = some (.p (.ins 0 gs), S)) (hn : (gs.map fun p => (p.1, D.p p.2)).lookup nm = none) : dMeth 0 nm m a r σ S = bnd (r σ S) fun xs S2 => m (.p (.ins 0 gs) :: xs) S2 := by
  rw [at_dMeth, ha, bnd_some, fldsOf_p]
  dsimp only
  rw [if_pos ⟨rfl, hn⟩]
section
variable {r : Row} (S : SH)
theorem chP_header (σ : En) (i : Nat) (h : σ[i]? = some (some (.p (chP r)))) : dMeth 0 "header" m_Change_header (dVar i) dNil σ S = some (.p (.tup [.int r.a, .int r.n, .tup (intsP r.h), r.cap, .tup r.pb]), S) := by
  rw [meth_at (gs := insG (.int r.a) (.int r.n) r.cap (intsP r.h) r.pb partsL) (by rw [at_dVar, h]; rfl) rfl]
  exact header_eq _ _ _ _ _ _ S
theorem chP_name (σ : En) (i : Nat) (h : σ[i]? = some (some (.p (chP r)))) : dMeth 0 "name" m_Change_name (dVar i) dNil σ S = some (.p (.tup [.int r.a, .int r.n]), S) := by
  rw [meth_at (gs := insG (.int r.a) (.int r.n) r.cap (intsP r.h) r.pb partsL) (by rw [at_dVar, h]; rfl) rfl]
  exact name_eq _ _ _ _ _ _ S
theorem kept_eq (ok : RowOk r) : m_is_kept [.p (chP r), .p (rowP r)] S = some (.p (.bl true), S) := by
  have lh : (intsP r.h).length ≤ sizeLine := small (by rw [intsP_len]; have := ok.h; omega)
  have lp : r.pb.length ≤ sizeLine := small (by have := ok.pb; omega)
  have lq : partsL.length ≤ sizeLine := small (by decide)
  have lo : otherL.length ≤ sizeLine := small (by decide)
  have t1 := fun S => fTuple_l (S := S) lh
  have t2 := fun S => fTuple_l (S := S) lp
  have t3 := fun S => fTuple_l (S := S) lq
  have n1 := fun S => nT S [.int r.a, .int r.n, .tup (intsP r.h), r.cap, .tup r.pb] (by simp) [.p (.int r.a), .p (.int r.n), .p (.tup (intsP r.h)), .p r.cap, .p (.tup r.pb)] rfl
  have n2 := fun S => nT S [.int r.a, .int r.n] (by simp) [.p (.int r.a), .p (.int r.n)] rfl
  have n3 := fun S => nT S [.int r.h.sum, .int r.a, .int r.n] (by simp) [.p (.int r.h.sum), .p (.int r.a), .p (.int r.n)] rfl
  have n4 := fun S => nT S [] (by simp) [] rfl
  have n5 := fun S => nT S [.str "table", .str "u"] (by simp) [.p (.str "table"), .p (.str "u")] rfl
  have n6 := fun S => nT S [.tup [.str "table", .str "u"]] (by simp) [.p (.tup [.str "table", .str "u"])] rfl
  have n7 := fun S => nT S otherL (by decide) [.p (.tup []), .p .non, .p .non, .p (.tup [.tup [.str "table", .str "u"]])] rfl
  have n8 : ∀ S, newL false [.p (.tup []), .p .non, .p .non, .p (.tup [.tup [.str "table", .str "u"]])] S = some (.p (.lst otherL), S) := fun S => newL_f (S := S) otherL lo
  have s1 := fun S => same40 _ S (hdr_z ok)
  have s2 := fun S => same40 (.tup [.int r.a, .int r.n]) S rfl
  have s3 := fun S => same40 _ S (tup_h_z ok)
  have s4 := fun S => same40 _ S (tup_p_z ok)
  have s5 := fun S => same40 (.tup partsL) S (by decide)
  have s6 := fun S => same40 r.cap S (okz_up ok.cap 9)
  have s7 := fun S => same40 (.tup otherL) S (by decide)
  have s8 := fun S => same40 (.int r.a) S rfl
  have s9 := fun S => same40 (.int r.n) S rfl
  have s10 := fun S => same40 (.tup [.int r.h.sum, .int r.a, .int r.n]) S rfl
  have w := with_eq (.int r.a) (.int r.n) r.cap (intsP r.h) r.pb partsL ⟨S.os.length, S.os⟩ otherL lh lp lo other_ok
  have g1 : ∀ (S : SH), dFld [0] "heard" (.p (chP r)) S = some (.p (.tup (intsP r.h)), S) := fun S => f_heard _ _ _ _ _ _ S
  have g2 : ∀ (S : SH), dFld [0] "publics" (.p (chP r)) S = some (.p (.tup r.pb), S) := fun S => f_publics _ _ _ _ _ _ S
  have g3 : ∀ (S : SH), dFld [0] "parts" (.p (chP r)) S = some (.p (.tup partsL), S) := fun S => f_parts _ _ _ _ _ _ S
  have g4 : ∀ (S : SH), dFld [0] "capability" (.p (chP r)) S = some (.p r.cap, S) := fun S => f_capability _ _ _ _ _ _ S
  have g5 : ∀ (S : SH), dFld [0] "author" (.p (chP r)) S = some (.p (.int r.a), S) := fun S => f_author _ _ _ _ _ _ S
  have g6 : ∀ (S : SH), dFld [0] "number" (.p (chP r)) S = some (.p (.int r.n), S) := fun S => f_number _ _ _ _ _ _ S
  have g7 : ∀ (S : SH), dFld [0] "parts" (.p (insP (.int r.a) (.int r.n) r.cap (intsP r.h) r.pb otherL)) S = some (.p (.tup otherL), S) := fun S => f_parts _ _ _ _ _ _ S
  have k1 : ∀ (S : SH), m_order_key [.p (chP r)] S = some (.p (.tup [.int r.h.sum, .int r.a, .int r.n]), S) := fun S => key_eq r.a r.n r.cap r.h r.pb partsL S
  have y1 : ∀ (S : SH), fIx (.p (.tup [.int r.a, .int r.n, .tup (intsP r.h), r.cap, .tup r.pb])) (.p (.int 2)) S = some (.p (.tup (intsP r.h)), S) := fun S => fIx_ti (by decide) rfl
  have y2 : ∀ (S : SH), fIx (.p (.tup [.int r.a, .int r.n, .tup (intsP r.h), r.cap, .tup r.pb])) (.p (.int 4)) S = some (.p (.tup r.pb), S) := fun S => fIx_ti (by decide) rfl
  have m1 : ∀ (σ : En) (S : SH), σ[0]? = some (some (.p (chP r))) → dMeth 0 "header" m_Change_header (dVar 0) dNil σ S = _ := fun σ S h => chP_header S σ 0 h
  have m2 : ∀ (σ : En) (S : SH), σ[0]? = some (some (.p (chP r))) → dMeth 0 "name" m_Change_name (dVar 0) dNil σ S = _ := fun σ S h => chP_name S σ 0 h
  have m3 : ∀ (σ : En) (S : SH), σ[3]? = some (some (.p (insP (.int r.a) (.int r.n) r.cap (intsP r.h) r.pb otherL))) → dMeth 0 "header" m_Change_header (dVar 3) dNil σ S = some (.p (.tup [.int r.a, .int r.n, .tup (intsP r.h), r.cap, .tup r.pb]), S) := fun σ S h => by
    rw [meth_at (gs := insG (.int r.a) (.int r.n) r.cap (intsP r.h) r.pb otherL) (by rw [at_dVar, h]; rfl) rfl]
    exact header_eq _ _ _ _ _ _ S
  have m4 : ∀ (σ : En) (a : MA), σ[0]? = some (some (.p (chP r))) → a σ ⟨S.os.length, S.os⟩ = some ([.p (.lst otherL)], ⟨S.os.length, S.os⟩) → dMeth 0 "with_parts" m_Change_with_parts (dVar 0) a σ ⟨S.os.length, S.os⟩ = some (.p (insP (.int r.a) (.int r.n) r.cap (intsP r.h) r.pb otherL), ⟨S.os.length, S.os⟩) := fun σ a h ha => by
    rw [meth_at (gs := insG (.int r.a) (.int r.n) r.cap (intsP r.h) r.pb partsL) (by rw [at_dVar, h]; rfl) rfl, ha]
    exact w
  have ev : startD 4 [.p (chP r), .p (rowP r)] = [some (.p (chP r)), some (.p (rowP r)), none, none] := rfl
  simp [m_is_kept, ev, ix0, ix1, ix2, ix3, ix4, ix5, t1, t2, t3, n1, n2, n3, n4, n5, n6, n7, n8, s1, s2, s3, s4, s5, s6, s7, s8, s9, s10, g1, g2, g3, g4, g5, g6, g7, k1, y1, y2, m1, m2, m3, m4, fSum_l, -at_dMeth]
end
end Kb
namespace Kb
open PySem PySem.Spec PyProof.Rows L2 Pv
def rowLt (r q : Row) : Bool := if r.h.sum = q.h.sum then (if r.a = q.a then decide (r.n < q.n) else decide (r.a < q.a)) else decide (r.h.sum < q.h.sum)
theorem fEqI (neg : Bool) (i j : Int) (S : SH) : fEq neg (.p (.int i)) (.p (.int j)) S = some (.p (.bl (if neg = true then !(i == j) else i == j)), S) := by
  simp [fEq, okd, peq]
theorem first_eq (r q : Row) (S : SH) : m_comes_first [.p (rowP r), .p (rowP q)] S = some (.p (.bl (rowLt r q)), S) := by
  have s1 := fun S => fSum_l (S := S) r.h
  have s2 := fun S => fSum_l (S := S) q.h
  unfold rowLt
  by_cases h1 : r.h.sum = q.h.sum
  · by_cases h2 : r.a = q.a
    · simp [m_comes_first, startD, ix0, ix1, ix2, s1, s2, fEqI, h1, h2]
    · simp [m_comes_first, startD, ix0, ix1, ix2, s1, s2, fEqI, h1, h2]
  · simp [m_comes_first, startD, ix0, ix1, ix2, s1, s2, fEqI, h1]
def pastB (u v : Int) (h : List Int) : Bool := decide (0 ≤ u) && (decide (u < h.length) && (decide (1 ≤ v) && decide (v ≤ h.getD u.toNat 0)))
theorem tix0 (u v : P) (S : SH) : fIx (.p (.tup [u, v])) (.p (.int 0)) S = some (.p u, S) := fIx_ti (by decide) rfl
theorem tix1 (u v : P) (S : SH) : fIx (.p (.tup [u, v])) (.p (.int 1)) S = some (.p v, S) := fIx_ti (by decide) rfl
theorem isPast_eq (u v : Int) (r : Row) (S : SH) : m_is_past [.p (.tup [.int u, .int v]), .p (rowP r)] S = some (.p (.bl (pastB u v r.h)), S) := by
  unfold pastB
  by_cases h0 : 0 ≤ u
  · by_cases h1 : u < r.h.length
    · have q := fun S => fIx_li (S := S) h0 (intsP_at (getD_at (ds := r.h) (n := u.toNat) (by omega)))
      by_cases h2 : 1 ≤ v
      · simp [m_is_past, startD, tix0, tix1, ix2, intsP_len, h0, h1, h2, q]
      · simp [m_is_past, startD, tix0, tix1, ix2, intsP_len, h0, h1, h2]
    · simp [m_is_past, startD, tix0, tix1, ix2, intsP_len, h0, h1]
  · simp [m_is_past, startD, tix0, tix1, h0]
theorem inPast_eq (u v : Int) (r : Row) (S : SH) : m_in_past [.p (.tup [.int u, .int v]), .p (chP r)] S = some (.p (.bl (pastB u v r.h)), S) := by
  have g1 : ∀ (S : SH), dFld [0] "heard" (.p (chP r)) S = some (.p (.tup (intsP r.h)), S) := fun S => f_heard _ _ _ _ _ _ S
  unfold pastB
  by_cases h0 : 0 ≤ u
  · by_cases h1 : u < r.h.length
    · have q := fun S => fIx_ti (S := S) h0 (intsP_at (getD_at (ds := r.h) (n := u.toNat) (by omega)))
      by_cases h2 : 1 ≤ v
      · simp [m_in_past, startD, g1, intsP_len, h0, h1, h2, q]
      · simp [m_in_past, startD, g1, intsP_len, h0, h1, h2, q]
    · simp [m_in_past, startD, g1, intsP_len, h0, h1]
  · simp [m_in_past, startD, g1, h0]
/-! asks_past -/
abbrev apB : MS := (dSeq (dSet 5 (dOp (fAdd false) (dC (.int 1)) (dOp fMod (dCall m_at (dCons (dVar 0) (dCons (dOp (fAdd false) (dOp (fAdd false) (dC (.int 700)) (dOp fMul (dC (.int 10)) (dVar 3))) (dVar 4)) dNil))) (dOp fIx (dLst false (dCons (dC (.int 4)) (dCons (dC (.int 3)) (dCons (dC (.int 9973)) dNil)))) (dOp fMod (dCall m_at (dCons (dVar 0) (dCons (dC (.int 4)) dNil))) (dC (.int 3)))))))
    (dSeq (dIf (dAnd (dTest (dOp fLe (dC (.int 0)) (dVar 4))) (dAnd (dTest (dOp fLt (dVar 4) (dCall fLen (dCons (dOp fIx (dOp fIx (dVar 1) (dVar 3)) (dC (.int 2))) dNil)))) (dTest (dOp (fEq false) (dOp fMod (dCall m_at (dCons (dVar 0) (dCons (dOp (fAdd false) (dC (.int 5)) (dVar 3)) dNil))) (dC (.int 2))) (dC (.int 0))))))
      (dSet 5 (dCall fMax (dCons (dC (.int 1)) (dCons (dOp (fAdd false) (dOp fIx (dOp fIx (dOp fIx (dVar 1) (dVar 3)) (dC (.int 2))) (dVar 4)) (dOp fMod (dCall m_at (dCons (dVar 0) (dCons (dOp (fAdd false) (dOp (fAdd false) (dC (.int 6)) (dVar 3)) (dVar 4)) dNil))) (dC (.int 2)))) dNil))))
      dNx)
    (dSeq (dIf (dTest (dOp (fEq false) (dOp fMod (dCall m_at (dCons (dVar 0) (dCons (dOp (fAdd false) (dOp (fAdd false) (dC (.int 8)) (dVar 3)) (dVar 4)) dNil))) (dC (.int 4))) (dC (.int 3))))
      (dSet 5 (dOp fSub (dOp fMod (dCall m_at (dCons (dVar 0) (dCons (dOp (fAdd false) (dC (.int 9)) (dVar 3)) dNil))) (dC (.int 3))) (dC (.int 1))))
      dNx)
    (dSeq (dSet 6 (dCall m_in_past (dCons (dTup (dCons (dVar 4) (dCons (dVar 5) dNil))) (dCons (dOp fIx (dVar 2) (dVar 3)) dNil))))
    (dIf (dOr (dNot (dTest (dUn (fIsi ["bool"]) (dVar 6)))) (dTest (dOp (fEq true) (dVar 6) (dCall m_is_past (dCons (dTup (dCons (dVar 4) (dCons (dVar 5) dNil))) (dCons (dOp fIx (dVar 1) (dVar 3)) dNil))))))
      (dRet (dC (.bl false)))
      dNx)))))
theorem pick3 (i : Int) (S : SH) : ∃ x : Int, 0 < x ∧ fIx (.p (.lst [.int 4, .int 3, .int 9973])) (.p (.int (i % 3))) S = some (.p (.int x), S) := by
  have a := Int.emod_nonneg i (b := 3) (by decide)
  have b := Int.emod_lt_of_pos i (b := 3) (by decide)
  have c : i % 3 = 0 ∨ i % 3 = 1 ∨ i % 3 = 2 := by omega
  rcases c with c | c | c <;> rw [c]
  · exact ⟨4, by decide, fIx_li (by decide) rfl⟩
  · exact ⟨3, by decide, fIx_li (by decide) rfl⟩
  · exact ⟨9973, by decide, fIx_li (by decide) rfl⟩
section
variable (ds : List Int) (rs : List Row)
theorem ap_step (k : Nat) (r : Row) (hr : rs[k]? = some r) (u : Int) (hu : -2 ≤ u) (S : SH) :
    ∃ σ2, apB [some (.p (.lst (intsP ds))), some (.p (.lst (rs.map rowP))), some (.p (.lst (rs.map chP))), some (.p (.int (k : Int))), some (.p (.int u)), none, none] S = some (.nx σ2, S) ∧
      wipeD [4, 5, 6] σ2 = [some (.p (.lst (intsP ds))), some (.p (.lst (rs.map rowP))), some (.p (.lst (rs.map chP))), some (.p (.int (k : Int))), none, none, none] := by
  have i1 : ∀ S, fIx (.p (.lst (rs.map rowP))) (.p (.int (k : Int))) S = some (.p (rowP r), S) := fun S => fIx_l (by rw [List.getElem?_map, hr]; rfl)
  have i2 : ∀ S, fIx (.p (.lst (rs.map chP))) (.p (.int (k : Int))) S = some (.p (chP r), S) := fun S => fIx_l (by rw [List.getElem?_map, hr]; rfl)
  have a1 := at_eq ds (700 + 10 * k + u) (by omega)
  have a2 := at_eq ds 4 (by decide)
  have a3 := at_eq ds (5 + k) (by omega)
  have a4 := at_eq ds (6 + k + u) (by omega)
  have a5 := at_eq ds (8 + k + u) (by omega)
  have a6 := at_eq ds (9 + k) (by omega)
  have m1 : mulOk 10 (k : Int) = true := mulOk_l (by decide)
  have nl : ∀ S, newL false [.p (.int 4), .p (.int 3), .p (.int 9973)] S = some (.p (.lst [.int 4, .int 3, .int 9973]), S) := fun S => newL_f (S := S) [.int 4, .int 3, .int 9973] (small (by decide))
  obtain ⟨x, hx, px⟩ := pick3 (atD ds 4) S
  have nt : ∀ (u v : Int) S, newT [.p (.int u), .p (.int v)] S = some (.p (.tup [.int u, .int v]), S) := fun u v S => nT S [.int u, .int v] (by simp) [.p (.int u), .p (.int v)] rfl
  -- the middle test
  have t2 : ∀ σ : En, σ[0]? = some (some (.p (.lst (intsP ds)))) → σ[1]? = some (some (.p (.lst (rs.map rowP)))) → σ[3]? = some (some (.p (.int (k : Int)))) → σ[4]? = some (some (.p (.int u))) → ∃ b : Bool, (b = true → 0 ≤ u ∧ u < r.h.length) ∧ (dAnd (dTest (dOp fLe (dC (.int 0)) (dVar 4))) (dAnd (dTest (dOp fLt (dVar 4) (dCall fLen (dCons (dOp fIx (dOp fIx (dVar 1) (dVar 3)) (dC (.int 2))) dNil)))) (dTest (dOp (fEq false) (dOp fMod (dCall m_at (dCons (dVar 0) (dCons (dOp (fAdd false) (dC (.int 5)) (dVar 3)) dNil))) (dC (.int 2))) (dC (.int 0)))))) σ S = some (b, S) := by
    intro σ h0 h1 h3 h4
    by_cases c0 : 0 ≤ u
    · by_cases c1 : u < r.h.length
      · exact ⟨atD ds (5 + k) % 2 == 0, fun _ => ⟨c0, c1⟩, by simp [h0, h1, h3, h4, i1, ix2, intsP_len, c0, c1, a3, fEqI]⟩
      · exact ⟨false, fun z => (by cases z), by simp [h0, h1, h3, h4, i1, ix2, intsP_len, c0, c1]⟩
    · exact ⟨false, fun z => (by cases z), by simp [h4, c0]⟩
  obtain ⟨b, hb, t2⟩ := t2 [some (.p (.lst (intsP ds))), some (.p (.lst (rs.map rowP))), some (.p (.lst (rs.map chP))), some (.p (.int (k : Int))), some (.p (.int u)), some (.p (.int (1 + atD ds (700 + 10 * k + u) % x))), none] rfl rfl rfl rfl
  have fin : ∀ v : Int, ∃ σ2, (dSeq (dSet 6 (dCall m_in_past (dCons (dTup (dCons (dVar 4) (dCons (dVar 5) dNil))) (dCons (dOp fIx (dVar 2) (dVar 3)) dNil))))
    (dIf (dOr (dNot (dTest (dUn (fIsi ["bool"]) (dVar 6)))) (dTest (dOp (fEq true) (dVar 6) (dCall m_is_past (dCons (dTup (dCons (dVar 4) (dCons (dVar 5) dNil))) (dCons (dOp fIx (dVar 1) (dVar 3)) dNil))))))
      (dRet (dC (.bl false)))
      dNx)) [some (.p (.lst (intsP ds))), some (.p (.lst (rs.map rowP))), some (.p (.lst (rs.map chP))), some (.p (.int (k : Int))), some (.p (.int u)), some (.p (.int v)), none] S = some (.nx σ2, S) ∧
      wipeD [4, 5, 6] σ2 = [some (.p (.lst (intsP ds))), some (.p (.lst (rs.map rowP))), some (.p (.lst (rs.map chP))), some (.p (.int (k : Int))), none, none, none] := by
    intro v
    refine ⟨[some (.p (.lst (intsP ds))), some (.p (.lst (rs.map rowP))), some (.p (.lst (rs.map chP))), some (.p (.int (k : Int))), some (.p (.int u)), some (.p (.int v)), some (.p (.bl (pastB u v r.h)))], ?_, rfl⟩
    simp [nt, i1, i2, inPast_eq, isPast_eq, fIsi, tyName, tyOk, isSub, fEq, okd, peq]
  have third : ∀ v : Int, ∃ σ2, (dSeq (dIf (dTest (dOp (fEq false) (dOp fMod (dCall m_at (dCons (dVar 0) (dCons (dOp (fAdd false) (dOp (fAdd false) (dC (.int 8)) (dVar 3)) (dVar 4)) dNil))) (dC (.int 4))) (dC (.int 3))))
      (dSet 5 (dOp fSub (dOp fMod (dCall m_at (dCons (dVar 0) (dCons (dOp (fAdd false) (dC (.int 9)) (dVar 3)) dNil))) (dC (.int 3))) (dC (.int 1))))
      dNx)
    (dSeq (dSet 6 (dCall m_in_past (dCons (dTup (dCons (dVar 4) (dCons (dVar 5) dNil))) (dCons (dOp fIx (dVar 2) (dVar 3)) dNil))))
    (dIf (dOr (dNot (dTest (dUn (fIsi ["bool"]) (dVar 6)))) (dTest (dOp (fEq true) (dVar 6) (dCall m_is_past (dCons (dTup (dCons (dVar 4) (dCons (dVar 5) dNil))) (dCons (dOp fIx (dVar 1) (dVar 3)) dNil))))))
      (dRet (dC (.bl false)))
      dNx))) [some (.p (.lst (intsP ds))), some (.p (.lst (rs.map rowP))), some (.p (.lst (rs.map chP))), some (.p (.int (k : Int))), some (.p (.int u)), some (.p (.int v)), none] S = some (.nx σ2, S) ∧
      wipeD [4, 5, 6] σ2 = [some (.p (.lst (intsP ds))), some (.p (.lst (rs.map rowP))), some (.p (.lst (rs.map chP))), some (.p (.int (k : Int))), none, none, none] := by
    intro v
    by_cases c : atD ds (8 + k + u) % 4 = 3
    · obtain ⟨σ2, h1, h2⟩ := fin (atD ds (9 + k) % 3 - 1)
      refine ⟨σ2, ?_, h2⟩
      rw [at_dSeq]
      have q : (dIf (dTest (dOp (fEq false) (dOp fMod (dCall m_at (dCons (dVar 0) (dCons (dOp (fAdd false) (dOp (fAdd false) (dC (.int 8)) (dVar 3)) (dVar 4)) dNil))) (dC (.int 4))) (dC (.int 3))))
      (dSet 5 (dOp fSub (dOp fMod (dCall m_at (dCons (dVar 0) (dCons (dOp (fAdd false) (dC (.int 9)) (dVar 3)) dNil))) (dC (.int 3))) (dC (.int 1))))
      dNx) [some (.p (.lst (intsP ds))), some (.p (.lst (rs.map rowP))), some (.p (.lst (rs.map chP))), some (.p (.int (k : Int))), some (.p (.int u)), some (.p (.int v)), none] S = some (.nx [some (.p (.lst (intsP ds))), some (.p (.lst (rs.map rowP))), some (.p (.lst (rs.map chP))), some (.p (.int (k : Int))), some (.p (.int u)), some (.p (.int (atD ds (9 + k) % 3 - 1))), none], S) := by
        simp [a5, a6, fEqI, c]
      rw [q, bnd_some, seqK_nx]
      exact h1
    · obtain ⟨σ2, h1, h2⟩ := fin v
      refine ⟨σ2, ?_, h2⟩
      rw [at_dSeq]
      have q : (dIf (dTest (dOp (fEq false) (dOp fMod (dCall m_at (dCons (dVar 0) (dCons (dOp (fAdd false) (dOp (fAdd false) (dC (.int 8)) (dVar 3)) (dVar 4)) dNil))) (dC (.int 4))) (dC (.int 3))))
      (dSet 5 (dOp fSub (dOp fMod (dCall m_at (dCons (dVar 0) (dCons (dOp (fAdd false) (dC (.int 9)) (dVar 3)) dNil))) (dC (.int 3))) (dC (.int 1))))
      dNx) [some (.p (.lst (intsP ds))), some (.p (.lst (rs.map rowP))), some (.p (.lst (rs.map chP))), some (.p (.int (k : Int))), some (.p (.int u)), some (.p (.int v)), none] S = some (.nx [some (.p (.lst (intsP ds))), some (.p (.lst (rs.map rowP))), some (.p (.lst (rs.map chP))), some (.p (.int (k : Int))), some (.p (.int u)), some (.p (.int v)), none], S) := by
        simp [a5, fEqI, c]
      rw [q, bnd_some, seqK_nx]
      exact h1
  have first : (dSet 5 (dOp (fAdd false) (dC (.int 1)) (dOp fMod (dCall m_at (dCons (dVar 0) (dCons (dOp (fAdd false) (dOp (fAdd false) (dC (.int 700)) (dOp fMul (dC (.int 10)) (dVar 3))) (dVar 4)) dNil))) (dOp fIx (dLst false (dCons (dC (.int 4)) (dCons (dC (.int 3)) (dCons (dC (.int 9973)) dNil)))) (dOp fMod (dCall m_at (dCons (dVar 0) (dCons (dC (.int 4)) dNil))) (dC (.int 3))))))) [some (.p (.lst (intsP ds))), some (.p (.lst (rs.map rowP))), some (.p (.lst (rs.map chP))), some (.p (.int (k : Int))), some (.p (.int u)), none, none] S = some (.nx [some (.p (.lst (intsP ds))), some (.p (.lst (rs.map rowP))), some (.p (.lst (rs.map chP))), some (.p (.int (k : Int))), some (.p (.int u)), some (.p (.int (1 + atD ds (700 + 10 * k + u) % x))), none], S) := by
    simp [m1, a1, a2, nl, px, hx]
  unfold apB
  rw [at_dSeq, first, bnd_some, seqK_nx, at_dSeq, at_dIf, t2, bnd_some]
  cases b with
  | false =>
    rw [if_neg (by decide), at_dNx, bnd_some, seqK_nx]
    exact third _
  | true =>
    obtain ⟨c0, c1⟩ := hb rfl
    have q := fun S => fIx_li (S := S) c0 (intsP_at (getD_at (ds := r.h) (n := u.toNat) (by omega)))
    obtain ⟨σ2, h1, h2⟩ := third (if r.h.getD u.toNat 0 + atD ds (6 + k + u) % 2 > 1 then r.h.getD u.toNat 0 + atD ds (6 + k + u) % 2 else 1)
    refine ⟨σ2, ?_, h2⟩
    have e : (dSet 5 (dCall fMax (dCons (dC (.int 1)) (dCons (dOp (fAdd false) (dOp fIx (dOp fIx (dOp fIx (dVar 1) (dVar 3)) (dC (.int 2))) (dVar 4)) (dOp fMod (dCall m_at (dCons (dVar 0) (dCons (dOp (fAdd false) (dOp (fAdd false) (dC (.int 6)) (dVar 3)) (dVar 4)) dNil))) (dC (.int 2)))) dNil)))) [some (.p (.lst (intsP ds))), some (.p (.lst (rs.map rowP))), some (.p (.lst (rs.map chP))), some (.p (.int (k : Int))), some (.p (.int u)), some (.p (.int (1 + atD ds (700 + 10 * k + u) % x))), none] S = some (.nx [some (.p (.lst (intsP ds))), some (.p (.lst (rs.map rowP))), some (.p (.lst (rs.map chP))), some (.p (.int (k : Int))), some (.p (.int u)), some (.p (.int (if r.h.getD u.toNat 0 + atD ds (6 + k + u) % 2 > 1 then r.h.getD u.toNat 0 + atD ds (6 + k + u) % 2 else 1))), none], S) := by
      simp only [at_dSet, at_dCall, at_dCons, at_dC, at_dNil, at_dOp, at_dVar, bnd_some, List.getElem?_cons_succ, List.getElem?_cons_zero, i1, ix2, q, fAdd_i, a4, fII_eq, fMax_i]
      rfl
    rw [if_pos rfl, e, bnd_some, seqK_nx]
    exact h1
end
end Kb
namespace Kb
open PySem PySem.Spec PyProof.Rows L2 Pv
theorem rng2_eq (i j : Int) (n : Nat) (h : (n : Int) = j - i) (hi : -1000 ≤ i) (hj : j ≤ 1000) (h0 : i ≤ j) (S : SH) : rng2 [.p (.int i), .p (.int j)] S = some (srcN i n, S) := by
  unfold rng2
  dsimp only
  rw [if_pos ⟨by omega, by omega, by omega, by omega⟩, ← h]
  rfl
theorem asks_eq (ds : List Int) (rs : List Row) (hl : rs.length ≤ 1000) (S : SH) : m_asks_past [.p (.lst (intsP ds)), .p (.lst (rs.map rowP)), .p (.lst (rs.map chP))] S = some (.p (.bl true), S) := by
  let σ0 : En := [some (.p (.lst (intsP ds))), some (.p (.lst (rs.map rowP))), some (.p (.lst (rs.map chP))), none, none, none, none]
  have outer : ∃ σ' S', forL [3, 4, 5, 6] (srcN 0 rs.length).fin (gNm 3) (dFor [4, 5, 6] (dRng2 (dCons (dUn fNeg (dC (.int 2))) (dCons (dC (.int 8)) dNil))) (gNm 4) apB) (srcN 0 rs.length).items σ0 ⟨S.os.length, S.os⟩ = some (.nx σ', S') ∧ σ' = σ0 ∧ S' = ⟨S.os.length, S.os⟩ := by
    refine rng0_inv (fun _ σ S' => σ = σ0 ∧ S' = ⟨S.os.length, S.os⟩) rs.length ⟨rfl, rfl⟩ ?_
    rintro k σ S1 hk ⟨rfl, rfl⟩
    have hr : rs[k]? = some rs[k] := List.getElem?_eq_getElem hk
    let σ1 : En := [some (.p (.lst (intsP ds))), some (.p (.lst (rs.map rowP))), some (.p (.lst (rs.map chP))), some (.p (.int (k : Int))), none, none, none]
    obtain ⟨σ2, S2, h1, rfl, rfl⟩ := rng_inv (body := apB) (ws := [4, 5, 6]) (j := 4) (fun _ σ S' => σ = σ1 ∧ S' = ⟨S.os.length, S.os⟩) (-2) 10 (σ := σ1) (S := ⟨S.os.length, S.os⟩) ⟨rfl, rfl⟩ (by
      rintro i σ S1 hi ⟨rfl, rfl⟩
      obtain ⟨σ2, h1, h2⟩ := ap_step ds rs k rs[k] hr (-2 + (i : Int)) (by omega) ⟨S.os.length, S.os⟩
      exact ⟨σ2, _, .inl h1, h2, rfl⟩)
    refine ⟨σ1, _, .inl ?_, rfl, rfl⟩
    have e2 := rng2_eq (-2) 8 10 (by omega) (by omega) (by omega) (by omega) ⟨S.os.length, S.os⟩
    show dFor _ _ _ _ σ1 _ = _
    have e3 : dRng2 (dCons (dUn fNeg (dC (.int 2))) (dCons (dC (.int 8)) dNil)) σ1 ⟨S.os.length, S.os⟩ = some (srcN (-2) 10, ⟨S.os.length, S.os⟩) := by
      simp only [at_dRng2, at_dCons, at_dUn, at_dC, at_dNil, bnd_some, fNeg_i]
      exact e2
    rw [at_dFor, e3, bnd_some]
    exact h1
  obtain ⟨σ', S', h1, rfl, rfl⟩ := outer
  have e1 : dRng1 (dCons (dCall fLen (dCons (dVar 1) dNil)) dNil) σ0 ⟨S.os.length, S.os⟩ = some (srcN 0 rs.length, ⟨S.os.length, S.os⟩) := by
    have q := srt_rng (S := ⟨S.os.length, S.os⟩) rs.length (by omega)
    simp only [at_dRng1, at_dCons, at_dCall, at_dVar, at_dNil, bnd_some, σ0, List.getElem?_cons_succ, List.getElem?_cons_zero, fLen_l, List.length_map]
    exact q
  have ev : startD 7 [.p (.lst (intsP ds)), .p (.lst (rs.map rowP)), .p (.lst (rs.map chP))] = σ0 := rfl
  have ew : wipeD [3, 4, 5, 6] σ0 = σ0 := rfl
  unfold m_asks_past
  rw [fn_at (k := 3) rfl, ev, at_dSeq, at_dFor, e1, bnd_some, ew, h1, bnd_some, seqK_nx]
  simp
end Kb
namespace Kb
open PySem PySem.Spec PyProof.Rows L2 Pv
theorem pickL (i : Int) (S : SH) : ∃ x : Int, 0 < x ∧ fIx (.p (.lst [.int 4, .int 2, .int 9973])) (.p (.int (i % 3))) S = some (.p (.int x), S) := by
  have a := Int.emod_nonneg i (b := 3) (by decide)
  have b := Int.emod_lt_of_pos i (b := 3) (by decide)
  have c : i % 3 = 0 ∨ i % 3 = 1 ∨ i % 3 = 2 := by omega
  rcases c with c | c | c <;> rw [c]
  · exact ⟨4, by decide, fIx_li (by decide) rfl⟩
  · exact ⟨2, by decide, fIx_li (by decide) rfl⟩
  · exact ⟨9973, by decide, fIx_li (by decide) rfl⟩
theorem pickC (i : Int) (p : P) (hp : okz 30 p = true) (S : SH) : ∃ c : P, okz 30 c = true ∧ fIx (.p (.lst [.non, p])) (.p (.int (i % 2))) S = some (.p c, S) := by
  have a := Int.emod_nonneg i (b := 2) (by decide)
  have b := Int.emod_lt_of_pos i (b := 2) (by decide)
  have c : i % 2 = 0 ∨ i % 2 = 1 := by omega
  rcases c with c | c <;> rw [c]
  · exact ⟨.non, rfl, fIx_li (by decide) rfl⟩
  · exact ⟨p, hp, fIx_li (by decide) rfl⟩
theorem fSl_l {ps : List P} {lo hi : Option Int} {S : SH} {qs : List P} (e : cutD (ps.map D.p) lo hi = qs.map D.p) (h : qs.length ≤ sizeLine) : fSl false (.p (.lst ps)) lo hi S = some (.p (.lst qs), S) := by
  show newL false (cutD (ps.map D.p) lo hi) S = _
  rw [e, newL_f qs h]
theorem pickP (i k : Int) (S : SH) : ∃ qs : List P, qs.length ≤ 6 ∧ (∀ p ∈ qs, okz 30 p = true) ∧ fSl false (.p (.lst [.tup [.str "seal"], .tup [.str "revoke", .tup [.int 0, .int 1, .int k]], .tup [.str "revoke", .non]])) none (some (i % 4)) S = some (.p (.lst qs), S) := by
  have a := Int.emod_nonneg i (b := 4) (by decide)
  have b := Int.emod_lt_of_pos i (b := 4) (by decide)
  have c : i % 4 = 0 ∨ i % 4 = 1 ∨ i % 4 = 2 ∨ i % 4 = 3 := by omega
  have z1 : okz 30 (.tup [.str "seal"]) = true := by decide
  have z2 : okz 30 (.tup [.str "revoke", .tup [.int 0, .int 1, .int k]]) = true := by simp [okz]
  have z3 : okz 30 (.tup [.str "revoke", .non]) = true := by decide
  rcases c with c | c | c | c <;> rw [c]
  · exact ⟨[], by simp, by simp, fSl_l rfl (small (by simp))⟩
  · exact ⟨[.tup [.str "seal"]], by simp, by simp [z1], fSl_l rfl (small (by simp))⟩
  · exact ⟨[.tup [.str "seal"], .tup [.str "revoke", .tup [.int 0, .int 1, .int k]]], by simp, by simp [z1, z2], fSl_l rfl (small (by simp))⟩
  · exact ⟨[.tup [.str "seal"], .tup [.str "revoke", .tup [.int 0, .int 1, .int k]], .tup [.str "revoke", .non]], by simp, by simp [z1, z2, z3], fSl_l rfl (small (by simp))⟩
structure RowsOk (z : Int) (rs : List Row) (nums : List Int) : Prop where
  ok : ∀ r ∈ rs, RowOk r ∧ 0 ≤ r.a ∧ r.a < z ∧ r.n ≤ nums.getD r.a.toNat 0
  pw : rs.Pairwise fun r q => r.a = q.a → r.n < q.n
  len : nums.length = 6
theorem RowsOk.snoc {z : Int} {rs : List Row} {nums : List Int} (h : RowsOk z rs nums) (hz : z ≤ 6) {r : Row} (ro : RowOk r) (h0 : 0 ≤ r.a) (h1 : r.a < z) (h2 : nums.getD r.a.toNat 0 < r.n) : RowsOk z (rs ++ [r]) (nums.set r.a.toNat r.n) := by
  have hl := h.len
  have e1 : (nums.set r.a.toNat r.n).getD r.a.toNat 0 = r.n := by
    rw [List.getD_eq_getElem?_getD, List.getElem?_set_self (by omega)]; rfl
  have e2 : ∀ q ∈ rs, q.n ≤ (nums.set r.a.toNat r.n).getD q.a.toNat 0 := fun q hq => by
    obtain ⟨_, a0, a1, a2⟩ := h.ok q hq
    by_cases e : q.a = r.a
    · rw [e, e1]
      rw [e] at a2
      omega
    · have : r.a.toNat ≠ q.a.toNat := by omega
      rw [List.getD_eq_getElem?_getD, List.getElem?_set_ne this, ← List.getD_eq_getElem?_getD]
      exact a2
  refine ⟨fun q hq => ?_, ?_, by rw [List.length_set]; exact hl⟩
  · rcases List.mem_append.mp hq with hq | hq
    · obtain ⟨b, a0, a1, a2⟩ := h.ok q hq
      exact ⟨b, a0, a1, e2 q hq⟩
    · rw [List.mem_singleton.mp hq]
      exact ⟨ro, h0, h1, by rw [e1]; exact Int.le_refl _⟩
  · refine List.pairwise_append.mpr ⟨h.pw, List.pairwise_singleton _ _, fun q hq q' hq' e => ?_⟩
    rw [List.mem_singleton.mp hq'] at e ⊢
    obtain ⟨_, _, _, a2⟩ := h.ok q hq
    rw [e] at a2
    omega
abbrev rwB : MS := (dSeq (dSet 7 (dOp fMod (dCall m_at (dCons (dVar 0) (dCons (dOp (fAdd false) (dC (.int 10)) (dOp fMul (dC (.int 9)) (dVar 6))) dNil))) (dVar 2)))
    (dSeq (dAsg (dOp (fAdd false) (dOp (fAdd false) (dOp fIx (dVar 5) (dVar 7)) (dC (.int 1))) (dOp fDiv (dCall m_at (dCons (dVar 0) (dCons (dOp (fAdd false) (dC (.int 11)) (dOp fMul (dC (.int 9)) (dVar 6))) dNil))) (dC (.int 997)))) (gSb (dVar 5) (dVar 7)))
    (dSeq (dSet 8 (dComp false (dRng1 (dCons (dVar 2) dNil)) (gNm 11) dYes (dOp fMod (dCall m_at (dCons (dVar 0) (dCons (dOp (fAdd false) (dOp (fAdd false) (dC (.int 12)) (dOp fMul (dC (.int 9)) (dVar 6))) (dVar 11)) dNil))) (dVar 3)) [11]))
    (dSeq (dSet 9 (dOp fIx (dLst false (dCons (dC .non) (dCons (dTup (dCons (dC (.int 0)) (dCons (dOp (fAdd false) (dC (.int 1)) (dOp fMod (dCall m_at (dCons (dVar 0) (dCons (dOp (fAdd false) (dC (.int 18)) (dOp fMul (dC (.int 9)) (dVar 6))) dNil))) (dC (.int 5)))) (dCons (dC (.int 0)) dNil)))) dNil))) (dOp fMod (dOp fDiv (dCall m_at (dCons (dVar 0) (dCons (dOp (fAdd false) (dC (.int 18)) (dOp fMul (dC (.int 9)) (dVar 6))) dNil))) (dC (.int 5))) (dC (.int 2)))))
    (dSeq (dSet 10 (dSl false (dLst false (dCons (dTup (dCons (dC (.str "seal")) dNil)) (dCons (dTup (dCons (dC (.str "revoke")) (dCons (dTup (dCons (dC (.int 0)) (dCons (dC (.int 1)) (dCons (dVar 6) dNil)))) dNil))) (dCons (dTup (dCons (dC (.str "revoke")) (dCons (dC .non) dNil))) dNil)))) none (some (dOp fMod (dOp fDiv (dCall m_at (dCons (dVar 0) (dCons (dOp (fAdd false) (dC (.int 18)) (dOp fMul (dC (.int 9)) (dVar 6))) dNil))) (dC (.int 10))) (dC (.int 4))))))
    (dDrop (dBM "list" fApp (dVar 4) (dCons (dLst false (dCons (dVar 7) (dCons (dOp fIx (dVar 5) (dVar 7)) (dCons (dVar 8) (dCons (dVar 9) (dCons (dVar 10) (dCons (dLst false (dCons (dC .non) (dCons (dTup dNil) (dCons (dTup (dCons (dTup (dCons (dC (.str "table")) (dCons (dC (.str "t")) dNil))) dNil)) (dCons (dTup dNil) dNil))))) dNil))))))) dNil))))))))
theorem intsP_set (nums : List Int) (j : Nat) (v : Int) : ((intsP nums).map D.p).set j (.p (.int v)) = (intsP (nums.set j v)).map D.p := by
  unfold intsP
  rw [List.map_set, List.map_set]
section
variable (ds : List Int) (hd : ∀ d ∈ ds, 0 ≤ d ∧ d < 9973) (z lim : Int) (hz : 1 ≤ z ∧ z ≤ 6) (hlim : 0 < lim)
include hd hz hlim
theorem rw_step (S : SH) (k : Nat) (hk : k < 1000) (rs : List Row) (nums : List Int) (hrs : RowsOk z rs nums) (hkl : rs.length = k) :
    ∃ σ2 r nums', rwB [some (.p (.lst (intsP ds))), none, some (.p (.int z)), some (.p (.int lim)), some (.ref S.os.length), some (.ref (S.os.length + 1)), some (.p (.int (k : Int))), none, none, none, none, none] ⟨S.os.length, S.os ++ [.lst ((rs.map rowP).map D.p), .lst ((intsP nums).map D.p)]⟩ = some (.nx σ2, ⟨S.os.length, S.os ++ [.lst (((rs ++ [r]).map rowP).map D.p), .lst ((intsP nums').map D.p)]⟩) ∧ RowsOk z (rs ++ [r]) nums' ∧
      wipeD [1, 6, 7, 8, 9, 10] σ2 = [some (.p (.lst (intsP ds))), none, some (.p (.int z)), some (.p (.int lim)), some (.ref S.os.length), some (.ref (S.os.length + 1)), none, none, none, none, none, none] := by
  have a1 := at_eq ds (10 + 9 * k) (by omega)
  have a2 := at_eq ds (11 + 9 * k) (by omega)
  have a3 := at_eq ds (18 + 9 * k) (by omega)
  have r2 := atD_r hd (i := 11 + 9 * k) (by omega)
  have m1 : mulOk 9 (k : Int) = true := mulOk_l (by decide)
  have dv1 : ∀ i, divOk i 997 = true := fun i => divOk_c (by decide) (by decide)
  have dv2 : ∀ i, divOk i 5 = true := fun i => divOk_c (by decide) (by decide)
  have dv3 : ∀ i, divOk i 10 = true := fun i => divOk_c (by decide) (by decide)
  -- the author
  generalize hA : atD ds (10 + 9 * k) % z = A
  have hA0 : 0 ≤ A := by rw [← hA]; exact Int.emod_nonneg _ (by omega)
  have hA1 : A < z := by rw [← hA]; exact Int.emod_lt_of_pos _ (by omega)
  have hl := hrs.len
  -- its number
  generalize hV : nums.getD A.toNat 0 + 1 + atD ds (11 + 9 * k) / 997 = V
  have hV1 : nums.getD A.toNat 0 < V := by
    have : 0 ≤ atD ds (11 + 9 * k) / 997 := Int.ediv_nonneg r2.1 (by decide)
    omega
  let hh : List Int := (List.range z.toNat).map fun (j : Nat) => atD ds (12 + 9 * k + (j : Int)) % lim
  have ezn : (z.toNat : Int) = z := by omega
  obtain ⟨c, hc, pc⟩ := pickC (atD ds (18 + 9 * k) / 5) (.tup [.int 0, .int (1 + atD ds (18 + 9 * k) % 5), .int 0]) (by simp [okz]) ⟨S.os.length, S.os ++ [.lst ((rs.map rowP).map D.p), .lst ((intsP (nums.set A.toNat V)).map D.p)]⟩
  obtain ⟨qs, hq1, hq2, pq⟩ := pickP (atD ds (18 + 9 * k) / 10) k ⟨S.os.length, S.os ++ [.lst ((rs.map rowP).map D.p), .lst ((intsP (nums.set A.toNat V)).map D.p)]⟩
  let r : Row := ⟨A, V, hh, c, qs⟩
  have hhl : hh.length ≤ 6 := by simp only [hh, List.length_map, List.length_range]; omega
  refine ⟨[some (.p (.lst (intsP ds))), none, some (.p (.int z)), some (.p (.int lim)), some (.ref S.os.length), some (.ref (S.os.length + 1)), some (.p (.int (k : Int))), some (.p (.int A)), some (.p (.lst (intsP hh))), some (.p c), some (.p (.lst qs)), none], r, nums.set A.toNat V, ?_, hrs.snoc hz.2 (r := r) ⟨hhl, hq1, hc, hq2⟩ hA0 hA1 hV1, rfl⟩
  -- the states
  generalize hS1 : (⟨S.os.length, S.os ++ [.lst ((rs.map rowP).map D.p), .lst ((intsP nums).map D.p)]⟩ : SH) = S1
  have at1 : S1.os[S.os.length + 1]? = some (.lst ((intsP nums).map D.p)) := by rw [← hS1]; exact two_1 S.os.length _ _ _
  generalize hS2 : (⟨S.os.length, S.os ++ [.lst ((rs.map rowP).map D.p), .lst ((intsP (nums.set A.toNat V)).map D.p)]⟩ : SH) = S2 at pc pq
  have at2 : S2.os[S.os.length + 1]? = some (.lst ((intsP (nums.set A.toNat V)).map D.p)) := by rw [← hS2]; exact two_1 S.os.length _ _ _
  have at3 : S2.os[S.os.length]? = some (.lst ((rs.map rowP).map D.p)) := by rw [← hS2]; exact two_0 S.os.length _ _ _
  have put1 : S1.put (S.os.length + 1) (.lst (((intsP nums).map D.p).set A.toNat (.p (.int V)))) = S2 := by rw [← hS1, put_1, intsP_set, hS2]
  have x1 : fIx (.ref (S.os.length + 1)) (.p (.int A)) S1 = some (.p (.int (nums.getD A.toNat 0)), S1) := fIx_ri at1 hA0 (by rw [List.getElem?_map, intsP_at (getD_at (by omega))]; rfl)
  have x2 : fIx (.ref (S.os.length + 1)) (.p (.int A)) S2 = some (.p (.int V), S2) := fIx_ri at2 hA0 (by rw [List.getElem?_map, intsP_at (List.getElem?_set_self (by omega))]; rfl)
  have x3 : setIx (.ref (S.os.length + 1)) (.p (.int A)) (.p (.int V)) S1 = some S2 := by
    rw [setIx_ri at1 hA0 (by rw [List.length_map, intsP_len]; omega), put1]
  have cp : compL (srcN 0 z.toNat).fin (gNm 11) dYes (dOp fMod (dCall m_at (dCons (dVar 0) (dCons (dOp (fAdd false) (dOp (fAdd false) (dC (.int 12)) (dOp fMul (dC (.int 9)) (dVar 6))) (dVar 11)) dNil))) (dVar 3)) [some (.p (.lst (intsP ds))), none, some (.p (.int z)), some (.p (.int lim)), some (.ref S.os.length), some (.ref (S.os.length + 1)), some (.p (.int (k : Int))), some (.p (.int A)), none, none, none, none] (srcN 0 z.toNat).items [] S2 = some ((intsP hh).map D.p, S2) := by
    have q := comp_rng (S := S2) (j := 11) (t := dYes) (elt := dOp fMod (dCall m_at (dCons (dVar 0) (dCons (dOp (fAdd false) (dOp (fAdd false) (dC (.int 12)) (dOp fMul (dC (.int 9)) (dVar 6))) (dVar 11)) dNil))) (dVar 3)) (σ := [some (.p (.lst (intsP ds))), none, some (.p (.int z)), some (.p (.int lim)), some (.ref S.os.length), some (.ref (S.os.length + 1)), some (.p (.int (k : Int))), some (.p (.int A)), none, none, none, none]) (fun _ => true) (fun j => D.p (.int (atD ds (12 + 9 * k + (j : Int)) % lim))) z.toNat (small (by omega)) fun i hi => ⟨rfl, fun _ => by
      have q := at_eq ds (12 + 9 * k + (i : Int)) (by omega)
      simp [m1, q, hlim]⟩
    rw [q, List.filter_eq_self.mpr fun _ _ => rfl]
    simp only [hh, intsP, List.map_map]
    rfl
  have nh : newL false ((intsP hh).map D.p) S2 = some (.p (.lst (intsP hh)), S2) := newL_f _ (small (by rw [intsP_len]; omega))
  have rz := srt_rng (S := S2) z.toNat (by omega)
  rw [ezn] at rz
  have n1 := fun S => nT S [.int 0, .int (1 + atD ds (18 + 9 * k) % 5), .int 0] (by simp) [.p (.int 0), .p (.int (1 + atD ds (18 + 9 * k) % 5)), .p (.int 0)] rfl
  have n2 : ∀ S, newL false [.p .non, .p (.tup [.int 0, .int (1 + atD ds (18 + 9 * k) % 5), .int 0])] S = some (.p (.lst [.non, .tup [.int 0, .int (1 + atD ds (18 + 9 * k) % 5), .int 0]]), S) := fun S => newL_f (S := S) [.non, .tup [.int 0, .int (1 + atD ds (18 + 9 * k) % 5), .int 0]] (small (by simp))
  have n3 := fun S => nT S [.str "seal"] (by simp) [.p (.str "seal")] rfl
  have n4 := fun S => nT S [.int 0, .int 1, .int k] (by simp) [.p (.int 0), .p (.int 1), .p (.int k)] rfl
  have n5 := fun S => nT S [.str "revoke", .tup [.int 0, .int 1, .int k]] (by simp) [.p (.str "revoke"), .p (.tup [.int 0, .int 1, .int k])] rfl
  have n6 := fun S => nT S [.str "revoke", .non] (by simp) [.p (.str "revoke"), .p .non] rfl
  have n7 : ∀ S, newL false [.p (.tup [.str "seal"]), .p (.tup [.str "revoke", .tup [.int 0, .int 1, .int k]]), .p (.tup [.str "revoke", .non])] S = some (.p (.lst [.tup [.str "seal"], .tup [.str "revoke", .tup [.int 0, .int 1, .int k]], .tup [.str "revoke", .non]]), S) := fun S => newL_f (S := S) [.tup [.str "seal"], .tup [.str "revoke", .tup [.int 0, .int 1, .int k]], .tup [.str "revoke", .non]] (small (by simp))
  have n8 := fun S => nT S [] (by simp) [] rfl
  have n9 := fun S => nT S [.str "table", .str "t"] (by simp) [.p (.str "table"), .p (.str "t")] rfl
  have n10 := fun S => nT S [.tup [.str "table", .str "t"]] (by simp) [.p (.tup [.str "table", .str "t"])] rfl
  have n11 : ∀ S, newL false [.p .non, .p (.tup []), .p (.tup [.tup [.str "table", .str "t"]]), .p (.tup [])] S = some (.p (.lst partsL), S) := fun S => newL_f (S := S) partsL (small (by decide))
  have n12 : ∀ S, newL false [.p (.int A), .p (.int V), .p (.lst (intsP hh)), .p c, .p (.lst qs), .p (.lst partsL)] S = some (.p (rowP r), S) := fun S => newL_f (S := S) (rowL r) (small (by simp [rowL]))
  have ap : fApp [.ref S.os.length, .p (rowP r)] S2 = some (.p .non, ⟨S.os.length, S.os ++ [.lst (((rs ++ [r]).map rowP).map D.p), .lst ((intsP (nums.set A.toNat V)).map D.p)]⟩) := by
    rw [fApp_p at3 (by rw [List.length_map, List.length_map, hkl]; exact Nat.lt_of_lt_of_le hk (small (Nat.le_refl _))), ← hS2, put_0]
    simp
  have ty : isTy "list" (.ref S.os.length) S2 = true := isTy_ref at3
  have fm : ∀ S, fMod (.p (.int (atD ds (10 + 9 * k)))) (.p (.int z)) S = some (.p (.int A), S) := fun S => (fII_eq _ _ _ _ S).trans (by rw [if_pos (decide_eq_true (show 0 < z by omega)), hA])
  unfold rwB
  simp only [at_dSeq, at_dSet, at_dOp, at_dCall, at_dCons, at_dNil, at_dC, at_dVar, at_dAsg, at_gSb, at_dComp, at_dRng1, at_dLst, at_dTup, at_dDrop, at_dBM, bnd_some, seqK_nx, List.getElem?_cons_succ, List.getElem?_cons_zero, fII_eq, fAdd_i, m1, if_true, a1, a2, a3, fm, x1, dv1, dv2, dv3, hV, x3, List.set_cons_zero, List.set_cons_succ, rz]
  simp only [wipeD, List.set_cons_zero, List.set_cons_succ]
  rw [cp]
  simp only [bnd_some, nh, seqK_nx, at_dSeq, at_dSet, at_dOp, at_dCall, at_dCons, at_dNil, at_dC, at_dVar, at_dLst, at_dTup, at_dDrop, at_dBM, List.set_cons_zero, List.set_cons_succ, List.getElem?_cons_succ, List.getElem?_cons_zero, fII_eq, fAdd_i, m1, if_true, a3, dv2, dv3, decide_eq_true_eq, Int.reduceLT, n1, n2, pc]
  have sl := sl_hi (live := false) (S := S2) (σ := [some (.p (.lst (intsP ds))), none, some (.p (.int z)), some (.p (.int lim)), some (.ref S.os.length), some (.ref (S.os.length + 1)), some (.p (.int (k : Int))), some (.p (.int A)), some (.p (.lst (intsP hh))), some (.p c), none, none]) (a := dLst false (dCons (dTup (dCons (dC (.str "seal")) dNil)) (dCons (dTup (dCons (dC (.str "revoke")) (dCons (dTup (dCons (dC (.int 0)) (dCons (dC (.int 1)) (dCons (dVar 6) dNil)))) dNil))) (dCons (dTup (dCons (dC (.str "revoke")) (dCons (dC .non) dNil))) dNil))))
    (m := dOp fMod (dOp fDiv (dCall m_at (dCons (dVar 0) (dCons (dOp (fAdd false) (dC (.int 18)) (dOp fMul (dC (.int 9)) (dVar 6))) dNil))) (dC (.int 10))) (dC (.int 4))) (i := atD ds (18 + 9 * k) / 10 % 4) (d := .p (.lst [.tup [.str "seal"], .tup [.str "revoke", .tup [.int 0, .int 1, .int k]], .tup [.str "revoke", .non]]))
    (by simp [n3, n4, n5, n6, n7]) (by simp [m1, a3, dv3])
  rw [sl, pq]
  simp only [bnd_some, seqK_nx, List.set_cons_zero, List.set_cons_succ, List.getElem?_cons_succ, List.getElem?_cons_zero, at_dDrop, at_dBM, at_dCons, at_dLst, at_dTup, at_dVar, at_dOp, at_dC, at_dNil, x2, n8, n9, n10, n11, n12, ty, if_true, ap]
end
end Kb
namespace Kb
open PySem PySem.Spec PyProof.Rows L2 Pv
section
variable (ds : List Int) (hd : ∀ d ∈ ds, 0 ≤ d ∧ d < 9973)
include hd
theorem rows_loop (z lim : Int) (hz : 1 ≤ z ∧ z ≤ 6) (hlim : 0 < lim) (n : Nat) (hn : n ≤ 60) (S : SH) : ∃ rs nums, RowsOk z rs nums ∧ rs.length = n ∧
    forL [1, 6, 7, 8, 9, 10] (srcN 0 n).fin (gNm 6) rwB (srcN 0 n).items [some (.p (.lst (intsP ds))), none, some (.p (.int z)), some (.p (.int lim)), some (.ref S.os.length), some (.ref (S.os.length + 1)), none, none, none, none, none, none] ⟨S.os.length, S.os ++ [.lst [], .lst ((intsP [0, 0, 0, 0, 0, 0]).map D.p)]⟩ =
      some (.nx [some (.p (.lst (intsP ds))), none, some (.p (.int z)), some (.p (.int lim)), some (.ref S.os.length), some (.ref (S.os.length + 1)), none, none, none, none, none, none], ⟨S.os.length, S.os ++ [.lst ((rs.map rowP).map D.p), .lst ((intsP nums).map D.p)]⟩) := by
  obtain ⟨σ', S', h1, rfl, rs, nums, rfl, h2, h3⟩ := rng0_inv (body := rwB) (ws := [1, 6, 7, 8, 9, 10]) (j := 6)
    (fun k σ S' => σ = [some (.p (.lst (intsP ds))), none, some (.p (.int z)), some (.p (.int lim)), some (.ref S.os.length), some (.ref (S.os.length + 1)), none, none, none, none, none, none] ∧ ∃ rs nums, S' = ⟨S.os.length, S.os ++ [.lst ((rs.map rowP).map D.p), .lst ((intsP nums).map D.p)]⟩ ∧ RowsOk z rs nums ∧ rs.length = k) n
    (σ := [some (.p (.lst (intsP ds))), none, some (.p (.int z)), some (.p (.int lim)), some (.ref S.os.length), some (.ref (S.os.length + 1)), none, none, none, none, none, none]) (S := ⟨S.os.length, S.os ++ [.lst [], .lst ((intsP [0, 0, 0, 0, 0, 0]).map D.p)]⟩)
    ⟨rfl, [], [0, 0, 0, 0, 0, 0], rfl, ⟨fun r hr => absurd hr (by simp), List.Pairwise.nil, rfl⟩, rfl⟩ (by
      rintro k σ S1 hk ⟨rfl, rs, nums, rfl, h1, h2⟩
      obtain ⟨σ2, r, nums', e1, e2, e3⟩ := rw_step ds hd z lim hz hlim S k (by omega) rs nums h1 h2
      exact ⟨σ2, _, .inl e1, e3, rs ++ [r], nums', rfl, e2, by rw [List.length_append, h2]; rfl⟩)
  exact ⟨rs, nums, h2, h3, h1⟩
theorem rows_eq (S : SH) : ∃ (z : Int) (rs : List Row) (nums : List Int), RowsOk z rs nums ∧ rs.length ≤ 60 ∧ m_rows [.p (.lst (intsP ds))] S = some (.p (.lst (rs.map rowP)), S) := by
  have a0 := at_eq ds 0 (by decide)
  have a1 := at_eq ds 1 (by decide)
  have a2 := at_eq ds 2 (by decide)
  have a3 := at_eq ds 3 (by decide)
  obtain ⟨lim, hlim, pl⟩ := pickL (atD ds 3) ⟨S.os.length, S.os⟩
  generalize hz : 1 + atD ds 2 % 6 = z
  have hz1 : 1 ≤ z ∧ z ≤ 6 := by
    have := Int.emod_nonneg (atD ds 2) (b := 6) (by decide)
    have := Int.emod_lt_of_pos (atD ds 2) (b := 6) (by decide)
    omega
  -- the count
  have hc : ∃ n : Nat, n ≤ 60 ∧ bnd ((dSet 1 (dOp fMod (dCall m_at (dCons (dVar 0) (dCons (dC (.int 0)) dNil))) (dC (.int 13)))) [some (.p (.lst (intsP ds))), none, none, none, none, none, none, none, none, none, none, none] ⟨S.os.length, S.os⟩) (seqK (dIf (dTest (dOp (fEq false) (dOp fMod (dCall m_at (dCons (dVar 0) (dCons (dC (.int 1)) dNil))) (dC (.int 6))) (dC (.int 5))))
      (dSet 1 (dC (.int 60)))
      dNx)) = some (.nx [some (.p (.lst (intsP ds))), some (.p (.int (n : Int))), none, none, none, none, none, none, none, none, none, none], ⟨S.os.length, S.os⟩) := by
    have q1 := Int.emod_nonneg (atD ds 0) (b := 13) (by decide)
    have q2 := Int.emod_lt_of_pos (atD ds 0) (b := 13) (by decide)
    by_cases c : atD ds 1 % 6 = 5
    · exact ⟨60, Nat.le_refl _, by simp [a0, a1, fEqI, c]⟩
    · refine ⟨(atD ds 0 % 13).toNat, by omega, ?_⟩
      have e : ((atD ds 0 % 13).toNat : Int) = atD ds 0 % 13 := by omega
      rw [e]
      simp [a0, a1, fEqI, c]
  obtain ⟨n, hn, hc⟩ := hc
  obtain ⟨rs, nums, hr, hrl, hloop⟩ := rows_loop ds hd z lim hz1 hlim n hn S
  refine ⟨z, rs, nums, hr, by omega, ?_⟩
  have rz := srt_rng (S := ⟨S.os.length, S.os ++ [.lst [], .lst ((intsP [0, 0, 0, 0, 0, 0]).map D.p)]⟩) n (by omega)
  have l0 : newL false [.p (.int 4), .p (.int 2), .p (.int 9973)] ⟨S.os.length, S.os⟩ = some (.p (.lst [.int 4, .int 2, .int 9973]), ⟨S.os.length, S.os⟩) := newL_f [.int 4, .int 2, .int 9973] (small (by simp))
  have l1 : newL true [] ⟨S.os.length, S.os⟩ = some (.ref S.os.length, ⟨S.os.length, S.os ++ [.lst []]⟩) := newL_t [] (Nat.zero_le _)
  have l2 : newL true [.p (.int 0), .p (.int 0), .p (.int 0), .p (.int 0), .p (.int 0), .p (.int 0)] ⟨S.os.length, S.os ++ [.lst []]⟩ = some (.ref (S.os.length + 1), ⟨S.os.length, S.os ++ [.lst [], .lst ((intsP [0, 0, 0, 0, 0, 0]).map D.p)]⟩) := by
    rw [newL_t _ (small (by simp))]
    simp [intsP]
  have e6 := frame_ref (S := S) (n := S.os.length) (S1 := ⟨S.os.length, S.os ++ [.lst ((rs.map rowP).map D.p), .lst ((intsP nums).map D.p)]⟩) (ps := rs.map rowP) (Nat.le_refl _) (two_0 _ _ _ _)
  have e7 := cut_app (S := S) S.os.length [.lst ((rs.map rowP).map D.p), .lst ((intsP nums).map D.p)]
  rw [e7] at e6
  have ev : startD 12 [.p (.lst (intsP ds))] = [some (.p (.lst (intsP ds))), none, none, none, none, none, none, none, none, none, none, none] := rfl
  unfold m_rows
  rw [fn_at (k := 1) rfl, ev, at_dSeq]
  have assoc : ∀ (a b c : MS) (σ : En) (S : SH), bnd (a σ S) (seqK (dSeq b c)) = bnd (bnd (a σ S) (seqK b)) (seqK c) := fun a b c σ S => by
    cases q : a σ S with
    | none => rfl
    | some p =>
      obtain ⟨f, S1⟩ := p
      rw [bnd_some, bnd_some]
      cases f <;> first | rfl | (rw [seqK_nx, seqK_nx, at_dSeq])
  rw [assoc, hc, bnd_some, seqK_nx]
  simp only [at_dSeq, at_dSet, at_dOp, at_dCall, at_dCons, at_dNil, at_dC, at_dVar, at_dLst, at_dFor, at_dRng1, at_dRet, bnd_some, seqK_nx, List.getElem?_cons_succ, List.getElem?_cons_zero, List.set_cons_zero, List.set_cons_succ, fII_eq, fAdd_i, a2, a3, if_true, decide_eq_true_eq, Int.reduceLT, hz, l0, pl, l1, l2, rz, wipeD, hloop, e6]
end
end Kb
namespace Kb
open PySem PySem.Spec PyProof.Rows L2 Pv
def keyD (r : Row) : PyData := .tuple [.int r.h.sum, .int r.a, .int r.n]
theorem rowLt_iff {r q : Row} : rowLt r q = true ↔ r.h.sum < q.h.sum ∨ (r.h.sum = q.h.sum ∧ (r.a < q.a ∨ (r.a = q.a ∧ r.n < q.n))) := by
  unfold rowLt
  split
  · split
    · rw [decide_eq_true_eq]; omega
    · rw [decide_eq_true_eq]; omega
  · rw [decide_eq_true_eq]; omega
theorem bool_ext {a b : Bool} (h : a = true ↔ b = true) : a = b := by
  cases a <;> cases b <;> simp_all
theorem keyLt (r q : Row) : PySem.W.dataLt (keyD r) (keyD q) = rowLt r q := by
  have e : PySem.W.dataLt (keyD r) (keyD q) = PySem.W.rowLt ([r.h.sum, r.a, r.n].map .int) ([q.h.sum, q.a, q.n].map .int) := PySem.W.dataLt_tuple _ _
  rw [e, PySem.W.dataLt_ints]
  refine bool_ext ?_
  rw [decide_eq_true_eq, rowLt_iff]
  simp [List.cons_lt_cons_iff]
def leR (r q : Row) : Bool := !rowLt q r
theorem leR_iff {r q : Row} : leR r q = true ↔ ¬ (q.h.sum < r.h.sum ∨ (q.h.sum = r.h.sum ∧ (q.a < r.a ∨ (q.a = r.a ∧ q.n < r.n)))) := by
  unfold leR
  rw [← rowLt_iff]
  simp
theorem keyLe (r q : Row) : PySem.W.dataLe false (fun x : P × PyData => x.2) (chP r, keyD r) (chP q, keyD q) = leR r q := by
  rw [PySem.W.dataLe_eq]
  show (!PySem.W.dataLt (keyD q) (keyD r)) = _
  rw [keyLt]
  rfl
theorem key_al (r q : Row) : PySem.W.alike (keyD r) (keyD q) = true := by
  simp [keyD, PySem.W.alike, PySem.W.alikeAll]
theorem keys_ok (rs : List Row) : okKeys ((rs.map fun r => (chP r, keyD r)).map (·.2)) = true := by
  unfold okKeys
  simp only [List.map_map, Bool.and_eq_true, Bool.or_eq_true, List.all_eq_true, List.mem_map, decide_eq_true_eq]
  refine ⟨⟨?_, .inl ?_⟩, ?_⟩
  · rintro x ⟨r, _, rfl⟩ y ⟨q, _, rfl⟩
    exact key_al r q
  · rintro x ⟨r, _, rfl⟩
    rfl
  · rintro x ⟨r, _, rfl⟩
    show (keyD r).depth ≤ 60
    simp [keyD, PyData.depth, PyData.depthAll]
theorem keysL_eq (S : SH) : ∀ rs : List Row, keysL m_order_key (rs.map chP) S = some (rs.map fun r => (chP r, keyD r), S)
  | [] => rfl
  | r :: rs => by
    have k1 : m_order_key [.p (chP r)] S = some (.p (.tup [.int r.h.sum, .int r.a, .int r.n]), S) := key_eq r.a r.n r.cap r.h r.pb partsL S
    have k2 : pyOf 60 (.tup [.int r.h.sum, .int r.a, .int r.n]) = some (keyD r) := rfl
    rw [List.map_cons, keysL, k1, bnd_some]
    dsimp only
    rw [k2]
    dsimp only
    rw [keysL_eq S rs, bnd_some]
    rfl
def srt (rs : List Row) : List Row := rs.mergeSort leR
theorem order_eq (rs : List Row) (hl : rs.length ≤ 1000) (S : SH) : m_in_order [.p (.lst (rs.map chP))] S = some (.ref S.os.length, ⟨S.b, S.os ++ [.lst (((srt rs).map chP).map D.p)]⟩) := by
  have e1 : sortK true m_order_key (.p (.lst (rs.map chP))) S = some (.ref S.os.length, ⟨S.b, S.os ++ [.lst (((srt rs).map chP).map D.p)]⟩) := by
    unfold sortK
    rw [asL_l]
    dsimp only
    rw [toPs_map]
    dsimp only
    rw [keysL_eq, bnd_some, if_pos (keys_ok rs)]
    have em : (rs.map fun r => (chP r, keyD r)).mergeSort (PySem.W.dataLe false (fun x : P × PyData => x.2)) = (srt rs).map fun r => (chP r, keyD r) := by
      unfold srt
      exact (List.map_mergeSort fun a _ b _ => (keyLe a b).symm).symm
    rw [em, List.map_map, List.map_map]
    rw [newL_t]
    · rfl
    · rw [List.length_map]
      unfold srt
      rw [List.length_mergeSort]
      exact small hl
  unfold m_in_order
  rw [fnL_at (k := 1) rfl]
  show liveF (dRet (dSortK true m_order_key (dVar 0)) [some (.p (.lst (rs.map chP)))] S) = _
  rw [at_dRet]
  unfold dSortK
  rw [at_dVar]
  dsimp only [List.getElem?_cons_zero]
  rw [bnd_some, e1, bnd_some, live_ret]
/-! the sorted rows -/
theorem srt_perm (rs : List Row) : (srt rs).Perm rs := List.mergeSort_perm rs leR
theorem srt_len (rs : List Row) : (srt rs).length = rs.length := (srt_perm rs).length_eq
theorem srt_pw (rs : List Row) : (srt rs).Pairwise fun r q => leR r q = true := by
  refine List.pairwise_mergeSort (fun a b c h1 h2 => ?_) (fun a b => ?_) rs
  · rw [leR_iff] at h1 h2 ⊢
    omega
  · rw [Bool.or_eq_true, leR_iff, leR_iff]
    omega
def nmR (r : Row) : Int × Int := (r.a, r.n)
theorem nm_nodup {z : Int} {rs : List Row} {nums : List Int} (h : RowsOk z rs nums) : (rs.map nmR).Nodup := by
  refine List.pairwise_map.mpr (h.pw.imp fun {r q} hrq e => ?_)
  have e1 : r.a = q.a := congrArg Prod.fst e
  have e2 : r.n = q.n := congrArg Prod.snd e
  have := hrq e1
  omega
theorem srt_nodup {z : Int} {rs : List Row} {nums : List Int} (h : RowsOk z rs nums) : ((srt rs).map nmR).Nodup := ((srt_perm rs).map nmR).nodup_iff.mpr (nm_nodup h)
theorem srt_lt {z : Int} {rs : List Row} {nums : List Int} (h : RowsOk z rs nums) {i j : Nat} (hij : i < j) (hj : j < (srt rs).length) : rowLt (srt rs)[i] (srt rs)[j] = true := by
  have p := List.pairwise_iff_getElem.mp (srt_pw rs) i j (by omega) hj hij
  have n := List.pairwise_iff_getElem.mp (srt_nodup h) i j (by rw [List.length_map]; omega) (by rw [List.length_map]; exact hj) hij
  rw [List.getElem_map, List.getElem_map] at n
  rw [leR_iff] at p
  rw [rowLt_iff]
  have n' : ¬ ((srt rs)[i].a = (srt rs)[j].a ∧ (srt rs)[i].n = (srt rs)[j].n) := fun e => n (by unfold nmR; rw [e.1, e.2])
  omega
theorem filter_one {α : Type} [DecidableEq α] {a : α} : ∀ {l : List α}, l.Nodup → a ∈ l → l.filter (fun x => decide (x = a)) = [a]
  | [], _, h => absurd h (by simp)
  | b :: l, hn, h => by
    obtain ⟨h1, h2⟩ := List.nodup_cons.mp hn
    by_cases e : b = a
    · subst e
      rw [List.filter_cons_of_pos (by simp)]
      rw [List.filter_eq_nil_iff.mpr fun x hx q => h1 (by rw [← of_decide_eq_true q]; exact hx)]
    · rw [List.filter_cons_of_neg (by simpa using e)]
      exact filter_one h2 (by
        rcases List.mem_cons.mp h with q | q
        · exact absurd q.symm e
        · exact q)
/-- the one place of a row -/
theorem place {z : Int} {rs : List Row} {nums : List Int} (h : RowsOk z rs nums) {r : Row} (hr : r ∈ rs) : ∃ i, ∃ hi : i < rs.length, rs[i] = r ∧ (List.range rs.length).filter (fun k => decide ((rs.getD k r).a = r.a ∧ (rs.getD k r).n = r.n)) = [i] := by
  obtain ⟨i, hi, e⟩ := List.getElem_of_mem hr
  refine ⟨i, hi, e, ?_⟩
  have q : (List.range rs.length).filter (fun k => decide ((rs.getD k r).a = r.a ∧ (rs.getD k r).n = r.n)) = (List.range rs.length).filter (fun k => decide (k = i)) := by
    refine List.filter_congr fun k hk => ?_
    have hk' := List.mem_range.mp hk
    have ek : rs.getD k r = rs[k] := by rw [List.getD_eq_getElem?_getD, List.getElem?_eq_getElem hk']; rfl
    rw [ek]
    refine decide_eq_decide.mpr ⟨fun c => ?_, fun c => ?_⟩
    · have hn := nm_nodup h
      have e1 : (rs.map nmR)[k]'(by rw [List.length_map]; exact hk') = (rs.map nmR)[i]'(by rw [List.length_map]; exact hi) := by
        rw [List.getElem_map, List.getElem_map, e]
        unfold nmR
        rw [c.1, c.2]
      exact (List.getElem_inj hn).mp e1
    · subst c
      rw [e]
      exact ⟨rfl, rfl⟩
  rw [q]
  exact filter_one List.nodup_range (List.mem_range.mpr hi)
end Kb
namespace Kb
open PySem PySem.Spec PyProof.Rows L2 Pv
def nameP (r : Row) : P := .tup [.int r.a, .int r.n]
theorem nameP_ok (k : Nat) (r : Row) : okd (k + 1) (nameP r) = true := by simp [nameP, okd]
theorem peq_name (r q : Row) : peq (nameP r) (nameP q) = decide (r.a = q.a ∧ r.n = q.n) := by
  refine bool_ext ?_
  simp [nameP, peq, peqA]
theorem fEq_name (r q : Row) (S : SH) : fEq false (.p (nameP r)) (.p (nameP q)) S = some (.p (.bl (decide (r.a = q.a ∧ r.n = q.n))), S) := by
  unfold fEq
  rw [rdP_p, rdP_p]
  dsimp only
  rw [if_pos ⟨nameP_ok _ _, nameP_ok _ _⟩, if_neg Bool.false_ne_true, peq_name]
theorem names_ne (rs : List Row) (S : SH) : fEq true (.p (.lst (rs.map nameP))) (.p (.lst (rs.map nameP))) S = some (.p (.bl false), S) := by
  have h : okd 40 (.lst (rs.map nameP)) = true := by
    simp only [okd, List.all_eq_true, List.mem_map]
    rintro p ⟨r, _, rfl⟩
    exact nameP_ok _ _
  unfold fEq
  rw [rdP_p]
  dsimp only
  rw [if_pos ⟨h, h⟩, if_pos rfl, peq_refl 40 _ h]
  rfl
/-- a live list read as data -/
theorem rd_live {m : Nat} {S : SH} {ps : List P} (h : S.os[m]? = some (.lst (ps.map D.p))) : rdP S (.ref m) = some (.lst ps) := by
  have h1 : ∀ k, (ps.map D.p).mapM (toP k 0 S) = some ps := fun k => by
    clear h
    induction ps with
    | nil => rfl
    | cons p ps ih => rw [List.map_cons, List.mapM_cons, ih]; cases k <;> rfl
  show toP 8 0 S (.ref m) = _
  unfold toP
  rw [if_neg (Nat.not_lt_zero _), h]
  dsimp only
  rw [h1]
  rfl
theorem in_live {m : Nat} {S : SH} {ns : List Int} {i : Int} (h : S.os[m]? = some (.lst ((intsP ns).map D.p))) (hi : i ∉ ns) : fInG false (.p (.int i)) (.ref m) S = some (.p (.bl false), S) := by
  have h2 : (intsP ns).all (okd 40) = true := by
    simp only [intsP, List.all_eq_true, List.mem_map]
    rintro p ⟨r, _, rfl⟩
    rfl
  have h3 : (intsP ns).any (fun y => peq y (.int i)) = false := by
    rw [List.any_eq_false]
    rintro p hp
    obtain ⟨j, hj, rfl⟩ := List.mem_map.mp hp
    simp only [peq, beq_iff_eq]
    intro e
    exact hi (e ▸ hj)
  show fIn false (.p (.int i)) (.ref m) S = _
  unfold fIn
  rw [rd_live h, rdP_p]
  dsimp only
  rw [if_pos ⟨rfl, h2⟩, if_neg Bool.false_ne_true, h3]
section
variable {z : Int} {rs : List Row} {nums : List Int} (hrs : RowsOk z rs nums) (hl : rs.length ≤ 60) (S : SH)
theorem ixr {k : Nat} {r : Row} (h : rs[k]? = some r) : fIx (.p (.lst (rs.map rowP))) (.p (.int (k : Int))) S = some (.p (rowP r), S) := fIx_l (by rw [List.getElem?_map, h]; rfl)
theorem ixc {k : Nat} {r : Row} (h : rs[k]? = some r) : fIx (.p (.lst (rs.map chP))) (.p (.int (k : Int))) S = some (.p (chP r), S) := fIx_l (by rw [List.getElem?_map, h]; rfl)
abbrev b1 : MS := (dIf (dNot (dTest (dCall m_is_kept (dCons (dOp fIx (dVar 4) (dVar 3)) (dCons (dOp fIx (dVar 2) (dVar 3)) dNil)))))
      (dRet (dC (.bl false)))
      dNx)
abbrev b2 : MS := (dSeq (dSet 10 (dComp false (dRng1 (dCons (dCall fLen (dCons (dVar 2) dNil)) dNil)) (gNm 3) (dTest (dOp (fEq false) (dTup (dCons (dOp fIx (dOp fIx (dVar 2) (dVar 3)) (dC (.int 0))) (dCons (dOp fIx (dOp fIx (dVar 2) (dVar 3)) (dC (.int 1))) dNil))) (dVar 9))) (dVar 3) [3]))
    (dSeq (dIf (dOr (dTest (dOp (fEq true) (dCall fLen (dCons (dVar 10) dNil)) (dC (.int 1)))) (dTest (dOp (fInG false) (dOp fIx (dVar 10) (dC (.int 0))) (dVar 8))))
      (dRet (dC (.bl false)))
      dNx)
    (dDrop (dBM "list" fApp (dVar 8) (dCons (dOp fIx (dVar 10) (dC (.int 0))) dNil)))))
abbrev b3 : MS := (dSeq (dIf (dNot (dTest (dCall m_is_kept (dCons (dOp fIx (dVar 6) (dVar 3)) (dCons (dOp fIx (dVar 2) (dOp fIx (dVar 8) (dVar 3))) dNil)))))
      (dRet (dC (.bl false)))
      dNx)
    (dIf (dAnd (dTest (dOp fGt (dVar 3) (dC (.int 0)))) (dNot (dTest (dCall m_comes_first (dCons (dOp fIx (dVar 2) (dOp fIx (dVar 8) (dOp fSub (dVar 3) (dC (.int 1))))) (dCons (dOp fIx (dVar 2) (dOp fIx (dVar 8) (dVar 3))) dNil))))))
      (dRet (dC (.bl false)))
      dNx))
include hrs hl
theorem loop1 (dp : P) (x : Option D) (T : SH) : ∃ x', forL [0, 5, 6, 7, 8, 9, 10] (srcN 0 rs.length).fin (gNm 3) b1 (srcN 0 rs.length).items [none, some (.p dp), some (.p (.lst (rs.map rowP))), x, some (.p (.lst (rs.map chP))), none, none, none, none, none, none, none, none] T =
    some (.nx [none, some (.p dp), some (.p (.lst (rs.map rowP))), x', some (.p (.lst (rs.map chP))), none, none, none, none, none, none, none, none], T) := by
  obtain ⟨σ', S', h1, ⟨x', rfl⟩, rfl⟩ := rng0_inv (body := b1) (ws := [0, 5, 6, 7, 8, 9, 10]) (j := 3) (fun _ σ S' => (∃ x, σ = [none, some (.p dp), some (.p (.lst (rs.map rowP))), x, some (.p (.lst (rs.map chP))), none, none, none, none, none, none, none, none]) ∧ S' = T) rs.length
    (σ := [none, some (.p dp), some (.p (.lst (rs.map rowP))), x, some (.p (.lst (rs.map chP))), none, none, none, none, none, none, none, none]) (S := T) ⟨⟨x, rfl⟩, rfl⟩ (by
      rintro k σ S1 hk ⟨⟨x, rfl⟩, rfl⟩
      have hr : rs[k]? = some rs[k] := List.getElem?_eq_getElem hk
      have ok := (hrs.ok _ (List.getElem_mem hk)).1
      refine ⟨[none, some (.p dp), some (.p (.lst (rs.map rowP))), some (.p (.int (k : Int))), some (.p (.lst (rs.map chP))), none, none, none, none, none, none, none, none], S1, .inl ?_, ⟨_, rfl⟩, rfl⟩
      simp [ixr _ hr, ixc _ hr, kept_eq _ ok])
  exact ⟨x', h1⟩
def IdxOk (rs : List Row) (ids : List Nat) (k : Nat) : Prop := ids.length = k ∧ ∀ (i : Nat) (r : Row), (srt rs)[i]? = some r → ∀ j : Nat, ids[i]? = some j → rs[j]? = some r
def idP (ids : List Nat) : List Int := ids.map fun (i : Nat) => (i : Int)
theorem loop2 (dp : P) (x : Option D) (A : List D) : ∃ ids, IdxOk rs ids rs.length ∧
    forL [0, 9, 10] (srcP ((srt rs).map nameP)).fin (gNm 9) b2 (srcP ((srt rs).map nameP)).items [none, some (.p dp), some (.p (.lst (rs.map rowP))), x, some (.p (.lst (rs.map chP))), some (.p (.lst (rs.map chP))), some (.ref 0), some (.p (.lst ((srt rs).map nameP))), some (.ref 1), none, none, none, none] ⟨0, [.lst A, .lst []]⟩ =
    some (.nx [none, some (.p dp), some (.p (.lst (rs.map rowP))), x, some (.p (.lst (rs.map chP))), some (.p (.lst (rs.map chP))), some (.ref 0), some (.p (.lst ((srt rs).map nameP))), some (.ref 1), none, none, none, none], ⟨0, [.lst A, .lst ((intsP (idP ids)).map D.p)]⟩) := by
  have hlen : ((srt rs).map nameP).length = rs.length := by rw [List.length_map, srt_len]
  obtain ⟨σ', S', h1, rfl, ids, rfl, h2⟩ := p_inv (body := b2) (ws := [0, 9, 10]) (j := 9) (fun k σ S' => σ = [none, some (.p dp), some (.p (.lst (rs.map rowP))), x, some (.p (.lst (rs.map chP))), some (.p (.lst (rs.map chP))), some (.ref 0), some (.p (.lst ((srt rs).map nameP))), some (.ref 1), none, none, none, none] ∧ ∃ ids, S' = ⟨0, [.lst A, .lst ((intsP (idP ids)).map D.p)]⟩ ∧ IdxOk rs ids k) ((srt rs).map nameP)
    (σ := [none, some (.p dp), some (.p (.lst (rs.map rowP))), x, some (.p (.lst (rs.map chP))), some (.p (.lst (rs.map chP))), some (.ref 0), some (.p (.lst ((srt rs).map nameP))), some (.ref 1), none, none, none, none]) (S := ⟨0, [.lst A, .lst []]⟩) ⟨rfl, [], rfl, rfl, fun i r _ j hj => by simp at hj⟩ (by
      rintro k p σ S1 hp ⟨rfl, ids, rfl, hid, hix⟩
      rw [List.getElem?_map] at hp
      cases er : (srt rs)[k]? with
      | none => rw [er] at hp; cases hp
      | some r =>
      rw [er] at hp
      have hp' : nameP r = p := Option.some.inj hp
      subst hp'
      obtain ⟨hk, hkr⟩ := List.getElem?_eq_some_iff.mp er
      have hmem : r ∈ rs := (srt_perm rs).mem_iff.mp (by rw [← hkr]; exact List.getElem_mem hk)
      obtain ⟨i, hi, hir, hf⟩ := place hrs hmem
      -- it is new
      have hnew : (i : Int) ∉ idP ids := fun hm => by
        obtain ⟨i', hi', e⟩ := List.mem_map.mp hm
        have e' : i' = i := by omega
        subst e'
        obtain ⟨q, hq, eq⟩ := List.getElem_of_mem hi'
        have hq' : q < (srt rs).length := by omega
        have w := hix q (srt rs)[q] (List.getElem?_eq_getElem hq') i' (by rw [List.getElem?_eq_getElem hq, eq])
        rw [List.getElem?_eq_getElem hi, hir] at w
        have nd := srt_nodup hrs
        have e1 : ((srt rs).map nmR)[q]'(by rw [List.length_map]; exact hq') = ((srt rs).map nmR)[k]'(by rw [List.length_map]; exact hk) := by
          rw [List.getElem_map, List.getElem_map, hkr, ← Option.some.inj w]
        have := (List.getElem_inj nd).mp e1
        omega
      have hidl : (idP ids).length = k := by rw [← hid]; exact List.length_map _
      let T : SH := ⟨0, [.lst A, .lst ((intsP (idP ids)).map D.p)]⟩
      have at1 : T.os[1]? = some (.lst ((intsP (idP ids)).map D.p)) := rfl
      have cp : compL (srcN 0 rs.length).fin (gNm 3) (dTest (dOp (fEq false) (dTup (dCons (dOp fIx (dOp fIx (dVar 2) (dVar 3)) (dC (.int 0))) (dCons (dOp fIx (dOp fIx (dVar 2) (dVar 3)) (dC (.int 1))) dNil))) (dVar 9))) (dVar 3) [none, some (.p dp), some (.p (.lst (rs.map rowP))), none, some (.p (.lst (rs.map chP))), some (.p (.lst (rs.map chP))), some (.ref 0), some (.p (.lst ((srt rs).map nameP))), some (.ref 1), some (.p (nameP r)), none, none, none] (srcN 0 rs.length).items [] T = some ([.p (.int (i : Int))], T) := by
        have q := comp_rng (S := T) (j := 3) (t := (dTest (dOp (fEq false) (dTup (dCons (dOp fIx (dOp fIx (dVar 2) (dVar 3)) (dC (.int 0))) (dCons (dOp fIx (dOp fIx (dVar 2) (dVar 3)) (dC (.int 1))) dNil))) (dVar 9)))) (elt := dVar 3) (σ := [none, some (.p dp), some (.p (.lst (rs.map rowP))), none, some (.p (.lst (rs.map chP))), some (.p (.lst (rs.map chP))), some (.ref 0), some (.p (.lst ((srt rs).map nameP))), some (.ref 1), some (.p (nameP r)), none, none, none]) (fun k => decide ((rs.getD k r).a = r.a ∧ (rs.getD k r).n = r.n)) (fun i => D.p (.int (i : Int))) rs.length (small (by omega)) (fun i' hi' => by
          have hr' : rs[i']? = some (rs.getD i' r) := by rw [List.getD_eq_getElem?_getD, List.getElem?_eq_getElem hi']; rfl
          have nt : newT [.p (.int (rs.getD i' r).a), .p (.int (rs.getD i' r).n)] T = some (.p (nameP (rs.getD i' r)), T) := nT T [.int (rs.getD i' r).a, .int (rs.getD i' r).n] (by simp) [.p (.int (rs.getD i' r).a), .p (.int (rs.getD i' r).n)] rfl
          refine ⟨?_, fun _ => rfl⟩
          simp only [at_dTest, at_dOp, at_dTup, at_dCons, at_dVar, at_dC, at_dNil, bnd_some, List.set_cons_zero, List.set_cons_succ, List.getElem?_cons_succ, List.getElem?_cons_zero, ixr _ hr', ix0, ix1, nt, fEq_name, toB_p])
        rw [hf] at q
        exact q
      have rz := srt_rng (S := T) rs.length (by omega)
      have n1 : newL false [.p (.int (i : Int))] T = some (.p (.lst [.int (i : Int)]), T) := newL_f [.int (i : Int)] (small (by simp))
      have x0 : fIx (.p (.lst [.int (i : Int)])) (.p (.int 0)) T = some (.p (.int (i : Int)), T) := fIx_li (by decide) rfl
      have i1 := in_live at1 hnew
      have ty : isTy "list" (.ref 1) T = true := isTy_ref at1
      have ap : fApp [.ref 1, .p (.int (i : Int))] T = some (.p .non, ⟨0, [.lst A, .lst ((intsP (idP (ids ++ [i]))).map D.p)]⟩) := by
        rw [fApp_p at1 (by rw [List.length_map, intsP_len]; have := line_ge; have := srt_len rs; omega)]
        simp [T, SH.put, intsP, idP]
      have fl : fLen [.p (.lst (rs.map rowP))] T = some (.p (.int rs.length), T) := by rw [fLen_l, List.length_map]
      have f1 : fLen [.p (.lst [.int (i : Int)])] T = some (.p (.int 1), T) := rfl
      have f2 : fEq true (.p (.int 1)) (.p (.int 1)) T = some (.p (.bl false), T) := rfl
      refine ⟨[none, some (.p dp), some (.p (.lst (rs.map rowP))), x, some (.p (.lst (rs.map chP))), some (.p (.lst (rs.map chP))), some (.ref 0), some (.p (.lst ((srt rs).map nameP))), some (.ref 1), some (.p (nameP r)), some (.p (.lst [.int (i : Int)])), none, none], _, .inl ?_, rfl, ids ++ [i], rfl, by rw [List.length_append, hid]; rfl, fun a ra ha j hj => ?_⟩
      · show b2 _ T = _
        unfold b2
        simp only [at_dSeq, at_dSet, at_dComp, at_dRng1, at_dCons, at_dCall, at_dVar, at_dNil, bnd_some, List.set_cons_zero, List.set_cons_succ, List.getElem?_cons_succ, List.getElem?_cons_zero, fl, rz, wipeD, cp, n1, seqK_nx, at_dIf, at_dOr, at_dTest, at_dOp, at_dC, f1, f2, toB_p, Bool.false_eq_true, if_false, x0, i1, at_dNx, at_dDrop, at_dBM, ty, if_true, ap]
      · by_cases c : a < k
        · rw [List.getElem?_append_left (by omega)] at hj
          exact hix a ra ha j hj
        · have ha' := (List.getElem?_eq_some_iff.mp hj).1
          rw [List.length_append, List.length_singleton, hid] at ha'
          have e : a = k := by omega
          subst e
          rw [er] at ha
          cases ha
          rw [List.getElem?_append_right (by omega), hid, Nat.sub_self] at hj
          cases hj
          rw [List.getElem?_eq_getElem hi, hir])
  rw [hlen] at h2
  exact ⟨ids, h2, h1⟩
end
end Kb
namespace Kb
open PySem PySem.Spec PyProof.Rows L2 Pv
section
variable {z : Int} {rs : List Row} {nums : List Int} (hrs : RowsOk z rs nums) (hl : rs.length ≤ 60) (S : SH)
theorem fIx_rn {m n : Nat} {S : SH} {ds : List D} {d : D} (hm : S.os[m]? = some (.lst ds)) (h : ds[n]? = some d) : fIx (.ref m) (.p (.int (n : Int))) S = some (d, S) := fIx_ri hm (by omega) (by simpa using h)
include hrs hl
theorem loop3 (dp : P) (x : Option D) (ids : List Nat) (hid : IdxOk rs ids rs.length) (T : SH) (hT : T = ⟨0, [.lst (((srt rs).map chP).map D.p), .lst ((intsP (idP ids)).map D.p)]⟩) :
    forL [0, 3, 9, 10] (srcN 0 rs.length).fin (gNm 3) b3 (srcN 0 rs.length).items [none, some (.p dp), some (.p (.lst (rs.map rowP))), none, some (.p (.lst (rs.map chP))), some (.p (.lst (rs.map chP))), some (.ref 0), some (.p (.lst ((srt rs).map nameP))), some (.ref 1), none, none, none, none] T =
    some (.nx [none, some (.p dp), some (.p (.lst (rs.map rowP))), none, some (.p (.lst (rs.map chP))), some (.p (.lst (rs.map chP))), some (.ref 0), some (.p (.lst ((srt rs).map nameP))), some (.ref 1), none, none, none, none], T) := by
  obtain ⟨hi1, hi2⟩ := hid
  have hsl := srt_len rs
  have o0 : T.os[0]? = some (.lst (((srt rs).map chP).map D.p)) := by rw [hT]; rfl
  have o1 : T.os[1]? = some (.lst ((intsP (idP ids)).map D.p)) := by rw [hT]; rfl
  -- what stands where
  have at0 : ∀ k (hk : k < rs.length), fIx (.ref 0) (.p (.int (k : Int))) T = some (.p (chP ((srt rs)[k]'(by omega))), T) := fun k hk =>
    fIx_rn o0 (by rw [List.getElem?_map, List.getElem?_map, List.getElem?_eq_getElem (by omega)]; rfl)
  have at1 : ∀ k (hk : k < rs.length), ∃ i, fIx (.ref 1) (.p (.int (k : Int))) T = some (.p (.int ((i : Nat) : Int)), T) ∧ rs[i]? = some ((srt rs)[k]'(by omega)) := fun k hk => by
    have hk' : k < ids.length := by omega
    refine ⟨ids[k], fIx_rn o1 ?_, hi2 k _ (List.getElem?_eq_getElem (by omega)) _ (List.getElem?_eq_getElem hk')⟩
    rw [List.getElem?_map, intsP_at (i := (ids[k] : Int)) (by unfold idP; rw [List.getElem?_map, List.getElem?_eq_getElem hk']; rfl)]
    rfl
  obtain ⟨σ', S', h1, rfl, rfl⟩ := rng0_inv (body := b3) (ws := [0, 3, 9, 10]) (j := 3) (fun _ σ S' => σ = [none, some (.p dp), some (.p (.lst (rs.map rowP))), none, some (.p (.lst (rs.map chP))), some (.p (.lst (rs.map chP))), some (.ref 0), some (.p (.lst ((srt rs).map nameP))), some (.ref 1), none, none, none, none] ∧ S' = T) rs.length
    (σ := [none, some (.p dp), some (.p (.lst (rs.map rowP))), none, some (.p (.lst (rs.map chP))), some (.p (.lst (rs.map chP))), some (.ref 0), some (.p (.lst ((srt rs).map nameP))), some (.ref 1), none, none, none, none]) (S := T) ⟨rfl, rfl⟩ (by
      rintro k σ S1 hk ⟨rfl, rfl⟩
      obtain ⟨i, p1, p2⟩ := at1 k hk
      have q := at0 k hk
      have ok := (hrs.ok _ ((srt_perm rs).mem_iff.mp (List.getElem_mem (by omega : k < (srt rs).length)))).1
      have ki := kept_eq S1 ok
      refine ⟨[none, some (.p dp), some (.p (.lst (rs.map rowP))), some (.p (.int (k : Int))), some (.p (.lst (rs.map chP))), some (.p (.lst (rs.map chP))), some (.ref 0), some (.p (.lst ((srt rs).map nameP))), some (.ref 1), none, none, none, none], S1, .inl ?_, rfl, rfl⟩
      have g := ixr S1 p2
      cases k with
      | zero =>
        have hz : ¬ ((0 : Nat) : Int) > 0 := by omega
        unfold b3
        simp [p1, q, g, ki]
        simp at p1 q
        simp [p1, q, g, ki]
      | succ k =>
        have hk0 : k < rs.length := by omega
        obtain ⟨i', p1', p2'⟩ := at1 k hk0
        have g' := ixr S1 p2'
        have lt := srt_lt hrs (i := k) (j := k + 1) (by omega) (by omega)
        have fe := first_eq ((srt rs)[k]'(by omega)) ((srt rs)[k + 1]'(by omega)) S1
        rw [lt] at fe
        have es : ∀ S, fSub (.p (.int ((k + 1 : Nat) : Int))) (.p (.int 1)) S = some (.p (.int (k : Int)), S) := fun S => (fII_eq _ _ _ _ S).trans (by
          rw [if_pos rfl]
          have : ((k + 1 : Nat) : Int) - 1 = (k : Int) := by omega
          rw [this])
        have eg : ∀ S, fGt (.p (.int ((k + 1 : Nat) : Int))) (.p (.int 0)) S = some (.p (.bl true), S) := fun S => (fII_eq _ _ _ _ S).trans (by
          rw [if_pos rfl, decide_eq_true (by omega)])
        unfold b3
        simp only [at_dSeq, at_dIf, at_dNot, at_dTest, at_dCall, at_dCons, at_dOp, at_dVar, at_dC, at_dNil, at_dAnd, at_dNx, bnd_some, seqK_nx, List.set_cons_zero, List.set_cons_succ, List.getElem?_cons_succ, List.getElem?_cons_zero, p1, q, g, ki, toB_p, Bool.not_true, Bool.false_eq_true, if_false, if_true, es, eg, p1', g', fe])
  exact h1
end
end Kb
namespace Kb
open PySem PySem.Spec PyProof.Rows L2 Pv
theorem law_true (ns : List Int) (hn : ns.length ≤ 63) : m_law [.p (.lst (intsP ns))] ⟨0, []⟩ = some (.p (.bl true), ⟨0, []⟩) := by
  obtain ⟨ds, hdr, hd⟩ := draws_eq ns hn ⟨0, []⟩
  obtain ⟨z, rs, nums, hrs, hl, hrw⟩ := rows_eq ds hd ⟨0, []⟩
  have hsl := srt_len rs
  have lr : ∀ {S}, fLen [.p (.lst (rs.map rowP))] S = some (.p (.int rs.length), S) := fun {S} => by rw [fLen_l, List.length_map]
  have rz : ∀ S, rng1 [.p (.int rs.length)] S = some (srcN 0 rs.length, S) := fun S => srt_rng rs.length (by omega)
  have big : ∀ n : Nat, n ≤ 60 → n ≤ sizeLine := fun n h => small (by omega)
  -- the changes
  have c1 : compL (srcN 0 rs.length).fin (gNm 3) dYes (dCall m_change (dCons (dOp fIx (dVar 2) (dVar 3)) (dCons (dOp (fEq false) (dOp fMod (dCall m_at (dCons (dVar 1) (dCons (dOp (fAdd false) (dC (.int 40)) (dVar 3)) dNil))) (dC (.int 2))) (dC (.int 1))) dNil))) [some (.p (.lst (intsP ns))), some (.p (.lst (intsP ds))), some (.p (.lst (rs.map rowP))), none, none, none, none, none, none, none, none, none, none] (srcN 0 rs.length).items [] ⟨0, []⟩ = some ((rs.map chP).map D.p, ⟨0, []⟩) := by
    have q := comp_rng (S := ⟨0, []⟩) (j := 3) (t := dYes) (elt := (dCall m_change (dCons (dOp fIx (dVar 2) (dVar 3)) (dCons (dOp (fEq false) (dOp fMod (dCall m_at (dCons (dVar 1) (dCons (dOp (fAdd false) (dC (.int 40)) (dVar 3)) dNil))) (dC (.int 2))) (dC (.int 1))) dNil)))) (σ := [some (.p (.lst (intsP ns))), some (.p (.lst (intsP ds))), some (.p (.lst (rs.map rowP))), none, none, none, none, none, none, none, none, none, none]) (fun _ => true) (fun k => ((rs.map chP).map D.p).getD k (.p .non)) rs.length (big _ hl) (fun k hk => ⟨rfl, fun _ => by
      have hr : rs[k]? = some rs[k] := List.getElem?_eq_getElem hk
      have a := at_eq ds (40 + k) (by omega)
      have ch := fun b S => change_eq (hrs.ok _ (List.getElem_mem hk)).1 S b
      simp [ixr _ hr, a, fEqI, ch, hk]⟩)
    rw [q, List.filter_eq_self.mpr fun _ _ => rfl]
    congr 2
    refine List.ext_getElem (by simp) fun i h1 h2 => ?_
    rw [List.length_map, List.length_map] at h2
    simp [h2]
  have n1 : newL false ((rs.map chP).map D.p) ⟨0, []⟩ = some (.p (.lst (rs.map chP)), ⟨0, []⟩) := newL_f _ (by rw [List.length_map]; exact big _ hl)
  have pl : fList false [.p (.lst (rs.map chP))] ⟨0, []⟩ = some (.p (.lst (rs.map chP)), ⟨0, []⟩) := fList_l (by rw [List.length_map]; exact big _ hl)
  obtain ⟨x1, w1⟩ := loop1 hrs hl (.lst (intsP ds)) none ⟨0, []⟩
  -- in order
  let A : List D := ((srt rs).map chP).map D.p
  have hA : A.length = rs.length := by simp only [A, List.length_map, hsl]
  have o1 : m_in_order [.p (.lst (rs.map chP))] ⟨0, []⟩ = some (.ref 0, ⟨0, [.lst A]⟩) := order_eq rs (by omega) ⟨0, []⟩
  have ti : fIsi ["list"] (.ref 0) ⟨0, [.lst A]⟩ = some (.p (.bl true), ⟨0, [.lst A]⟩) := by simp [fIsi, tyName, tyOk, isSub]
  have la : fLen [.ref 0] ⟨0, [.lst A]⟩ = some (.p (.int rs.length), ⟨0, [.lst A]⟩) := by
    simp [fLen, asQ, hA]
  have ne : fEq true (.p (.int rs.length)) (.p (.int rs.length)) ⟨0, [.lst A]⟩ = some (.p (.bl false), ⟨0, [.lst A]⟩) := by rw [fEqI]; simp
  -- names of a live list
  have names : ∀ (σ : En) (T : SH) (n : Nat), σ.length = 13 → T.os[n]? = some (.lst A) → compL (srcR n rs.length).fin (gNm 11) dYes (dMeth 0 "name" m_Change_name (dVar 11) dNil) σ (srcR n rs.length).items [] T = some (((srt rs).map nameP).map D.p, T) := by
    intro σ T n hσ hT
    have q := comp_all (t := dYes) (elt := (dMeth 0 "name" m_Change_name (dVar 11) dNil)) (g := gNm 11) (fin := (srcR n rs.length).fin) (S := T) (σ := σ) (fun _ => true) (fun k => (((srt rs).map nameP).map D.p).getD k (.p .non)) (itemR n rs.length) (by
      show finR n rs.length T = true
      unfold finR
      rw [hT]
      dsimp only
      rw [hA]
      simp) (List.range rs.length) [] (by simpa using big _ hl) (fun k hk => by
        have hk := List.mem_range.mp hk
        have hk' : k < (srt rs).length := by omega
        refine ⟨.p (chP (srt rs)[k]), σ.set 11 (some (.p (chP (srt rs)[k]))), ?_, rfl, rfl, fun _ => ?_⟩
        · unfold itemR
          rw [hT]
          dsimp only
          rw [hA, if_pos rfl]
          simp only [A, List.getElem?_map, List.getElem?_eq_getElem hk']
          rfl
        · rw [chP_name (r := (srt rs)[k]) T _ 11 (by rw [List.getElem?_set_self (by omega)])]
          simp [hk', nameP])
    have e : (srcR n rs.length).items = (List.range rs.length).map (itemR n rs.length) := rfl
    rw [e, q, List.filter_eq_self.mpr fun _ _ => rfl, List.nil_append]
    congr 2
    refine List.ext_getElem (by simp [hsl]) fun i h1 h2 => ?_
    rw [List.length_map, List.length_map] at h2
    simp [h2]
  have nf : ∀ T, newL false (((srt rs).map nameP).map D.p) T = some (.p (.lst ((srt rs).map nameP)), T) := fun T => newL_f _ (by rw [List.length_map, hsl]; exact big _ hl)
  have sr : ∀ (T : SH) (n : Nat), T.os[n]? = some (.lst A) → srcOf (.ref n) T = some (srcR n rs.length, T) := fun T n h => by
    unfold srcOf
    dsimp only
    rw [h]
    dsimp only
    rw [hA]
  have l2 : newL true [] ⟨0, [.lst A]⟩ = some (.ref 1, ⟨0, [.lst A, .lst []]⟩) := newL_t [] (Nat.zero_le _)
  obtain ⟨ids, hid, w2⟩ := loop2 hrs hl (.lst (intsP ds)) x1 A
  have hB : ((intsP (idP ids)).map D.p).length = rs.length := by simp only [List.length_map, intsP_len, idP, hid.1]
  have lb : fLen [.ref 1] (⟨0, [.lst A, .lst ((intsP (idP ids)).map D.p)]⟩ : SH) = some (.p (.int rs.length), (⟨0, [.lst A, .lst ((intsP (idP ids)).map D.p)]⟩ : SH)) := by
    unfold fLen asQ
    simp only [List.getElem?_cons_succ, List.getElem?_cons_zero, hB]
  have w3 := loop3 hrs hl (.lst (intsP ds)) none ids hid (⟨0, [.lst A, .lst ((intsP (idP ids)).map D.p)]⟩ : SH) rfl
  have ty : isTy "list" (.ref 0) (⟨0, [.lst A, .lst ((intsP (idP ids)).map D.p)]⟩ : SH) = true := isTy_ref (ds := A) rfl
  have ap : fApp [.ref 0, .p .non] (⟨0, [.lst A, .lst ((intsP (idP ids)).map D.p)]⟩ : SH) = some (.p .non, (⟨0, [.lst (A ++ [.p .non]), .lst ((intsP (idP ids)).map D.p)]⟩ : SH)) := fApp_p (ds := A) rfl (by rw [hA]; have := line_ge; omega)
  -- the names of the rows
  have c2 : ∀ (σ : En) (T : SH), σ.length = 13 → compL (srcP (rs.map chP)).fin (gNm 11) dYes (dMeth 0 "name" m_Change_name (dVar 11) dNil) σ (srcP (rs.map chP)).items [] T = some ((rs.map nameP).map D.p, T) := by
    intro σ T hσ
    have q := comp_all (t := dYes) (elt := (dMeth 0 "name" m_Change_name (dVar 11) dNil)) (g := gNm 11) (fin := (srcP (rs.map chP)).fin) (S := T) (σ := σ) (fun _ => true) (fun r => D.p (nameP r)) (fun (r : Row) (_ : SH) => some (D.p (chP r))) rfl rs [] (by simpa using big _ hl) (fun r hr => ⟨_, σ.set 11 (some (.p (chP r))), rfl, rfl, rfl, fun _ => chP_name (r := r) T _ 11 (by rw [List.getElem?_set_self (by omega)])⟩)
    have e : (srcP (rs.map chP)).items = rs.map fun (r : Row) (_ : SH) => some (D.p (chP r)) := by simp [srcP]
    rw [e, q, List.filter_eq_self.mpr fun _ _ => rfl, List.nil_append, List.map_map]
    rfl
  have c3 : ∀ (σ : En) (T : SH), σ.length = 13 → compL (srcP (rs.map rowP)).fin (gNm 12) dYes (dTup (dCons (dOp fIx (dVar 12) (dC (.int 0))) (dCons (dOp fIx (dVar 12) (dC (.int 1))) dNil))) σ (srcP (rs.map rowP)).items [] T = some ((rs.map nameP).map D.p, T) := by
    intro σ T hσ
    have q := comp_all (t := dYes) (elt := (dTup (dCons (dOp fIx (dVar 12) (dC (.int 0))) (dCons (dOp fIx (dVar 12) (dC (.int 1))) dNil)))) (g := gNm 12) (fin := (srcP (rs.map rowP)).fin) (S := T) (σ := σ) (fun _ => true) (fun r => D.p (nameP r)) (fun (r : Row) (_ : SH) => some (D.p (rowP r))) rfl rs [] (by simpa using big _ hl) (fun r hr => ⟨_, σ.set 12 (some (.p (rowP r))), rfl, rfl, rfl, fun _ => by
      have nt := nT T [.int r.a, .int r.n] (by simp) [.p (.int r.a), .p (.int r.n)] rfl
      have g : (σ.set 12 (some (.p (rowP r))))[12]? = some (some (.p (rowP r))) := List.getElem?_set_self (by omega)
      simp only [at_dTup, at_dCons, at_dOp, at_dVar, at_dC, at_dNil, g, bnd_some, ix0, ix1, nt]
      rfl⟩)
    have e : (srcP (rs.map rowP)).items = rs.map fun (r : Row) (_ : SH) => some (D.p (rowP r)) := by simp [srcP]
    rw [e, q, List.filter_eq_self.mpr fun _ _ => rfl, List.nil_append, List.map_map]
    rfl
  have nr : ∀ T, newL false ((rs.map nameP).map D.p) T = some (.p (.lst (rs.map nameP)), T) := fun T => newL_f _ (by rw [List.length_map]; exact big _ hl)
  have o2 : m_in_order [.p (.lst (rs.map chP))] (⟨0, [.lst (A ++ [.p .non]), .lst ((intsP (idP ids)).map D.p)]⟩ : SH) = some (.ref 2, (⟨0, [.lst (A ++ [.p .non]), .lst ((intsP (idP ids)).map D.p), .lst A]⟩ : SH)) := order_eq rs (by omega) (⟨0, [.lst (A ++ [.p .non]), .lst ((intsP (idP ids)).map D.p)]⟩ : SH)
  have ask := asks_eq ds rs (by omega) (⟨0, [.lst (A ++ [.p .non]), .lst ((intsP (idP ids)).map D.p), .lst A]⟩ : SH)
  have ev : startD 13 [.p (.lst (intsP ns))] = [some (.p (.lst (intsP ns))), none, none, none, none, none, none, none, none, none, none, none, none] := rfl
  have sp1 : ∀ T, srcOf (.p (.lst (rs.map chP))) T = some (srcP (rs.map chP), T) := fun T => rfl
  have sp2 : ∀ T, srcOf (.p (.lst (rs.map rowP))) T = some (srcP (rs.map rowP), T) := fun T => rfl
  have sp3 : ∀ T, srcOf (.p (.lst ((srt rs).map nameP))) T = some (srcP ((srt rs).map nameP), T) := fun T => rfl
  unfold m_law
  rw [fn_at (k := 1) rfl, ev]
  simp only [List.length_nil, at_dSeq, at_dSet, at_dCall, at_dCons, at_dVar, at_dNil, bnd_some, List.getElem?_cons_succ, List.getElem?_cons_zero, List.set_cons_zero, List.set_cons_succ, seqK_nx, hdr, hrw, at_dComp, at_dRng1, lr, rz, wipeD, c1, n1, at_dFor, w1, pl, o1, at_dIf, at_dOr, at_dNot, at_dTest, at_dUn, at_dOp, ti, toB_p, Bool.not_true, Bool.false_eq_true, if_false, la, ne, at_dNx, at_dIt]
  rw [sr ⟨0, [.lst A]⟩ 0 rfl, bnd_some, names _ ⟨0, [.lst A]⟩ 0 rfl rfl, bnd_some, nf]
  simp only [bnd_some, seqK_nx, at_dSeq, at_dSet, at_dLst, at_dNil, List.set_cons_zero, List.set_cons_succ, List.getElem?_cons_succ, List.getElem?_cons_zero, l2, at_dFor, at_dIt, at_dVar, sp3, wipeD, w2]
  simp only [at_dRng1, at_dCons, at_dCall, at_dVar, at_dNil, bnd_some, List.getElem?_cons_succ, List.getElem?_cons_zero, lb, rz, w3, seqK_nx, at_dSeq, at_dDrop, at_dBM, ty, if_true, at_dC, ap, at_dIf, at_dTest, at_dOp, at_dComp, at_dIt, sp1, sp2, wipeD, List.set_cons_zero, List.set_cons_succ]
  rw [c2 _ _ rfl, bnd_some, nr, bnd_some, c3 _ _ rfl, bnd_some, nr, bnd_some, names_ne]
  simp only [bnd_some, toB_p, Bool.false_eq_true, if_false, at_dNx, seqK_nx, at_dSeq, at_dIf, at_dTest, at_dOp, at_dComp, at_dIt, at_dCall, at_dCons, at_dVar, at_dNil, List.getElem?_cons_succ, List.getElem?_cons_zero, o2, wipeD, List.set_cons_zero, List.set_cons_succ]
  rw [sr _ 2 rfl, bnd_some, names _ _ 2 rfl rfl, bnd_some, nf, bnd_some]
  have ne2 : ∀ T, fEq true (.p (.lst ((srt rs).map nameP))) (.p (.lst ((srt rs).map nameP))) T = some (.p (.bl false), T) := fun T => names_ne (srt rs) T
  simp only [bnd_some, ne2, toB_p, Bool.false_eq_true, if_false, at_dNx, seqK_nx, at_dRet, at_dCall, at_dCons, at_dVar, at_dNil, List.getElem?_cons_succ, List.getElem?_cons_zero, ask]
  rfl
end Kb
namespace Kb
open PySem PySem.Spec PyProof.Rows L2 Pv
def spLaw (K : PySem.W.Frag) : Sp := fun vs H Q _ => ∃ (a : Addr) (ns : List Int), vs = [V.ref a] ∧ SqL K H a (ns.map V.int) ∧ ns.length ≤ 63 ∧ ∀ H', Q (.bl true) H'
theorem law_sp {K : PySem.W.Frag} {cl : Nat → Addr} {vs : List V} {H : Hp} {Q : VK} {E : XK} (h : spLaw K vs H Q E) : spOf K cl m_law vs H Q E := by
  obtain ⟨a, ns, rfl, hs, hl, q⟩ := h
  exact law_of hs (law_true ns hl) q
end Kb
namespace Kb
open PySem PySem.Spec PyProof.Rows L2 Pv
def topS (i : Nat) : Stmt := PySem.Challenge.pw_kithbase_k02_order_of_changes.main.body.getD i (.Pass ⟨0, 0, 0, 0⟩)
abbrev s_as_tuple : Stmt := (topS 1)
theorem sc_as_tuple : FnScope ["part"] ["part"] (defScope s_as_tuple) := ⟨rfl, rfl, rfl, by decide +kernel, rfl, by decide +kernel, by decide +kernel⟩
abbrev s_Change_init : Stmt := (inClass (topS 2) 0)
theorem sc_Change_init : FnScope ["self", "author", "number", "heard", "capability", "publics", "parts", "part"] ["self", "author", "number", "heard", "capability", "publics", "parts"] (defScope s_Change_init) := ⟨rfl, rfl, rfl, by decide +kernel, rfl, by decide +kernel, by decide +kernel⟩
abbrev s_Change_name : Stmt := (inClass (topS 2) 1)
theorem sc_Change_name : FnScope ["self"] ["self"] (defScope s_Change_name) := ⟨rfl, rfl, rfl, by decide +kernel, rfl, by decide +kernel, by decide +kernel⟩
abbrev s_Change_header : Stmt := (inClass (topS 2) 2)
theorem sc_Change_header : FnScope ["self"] ["self"] (defScope s_Change_header) := ⟨rfl, rfl, rfl, by decide +kernel, rfl, by decide +kernel, by decide +kernel⟩
abbrev s_Change_with_parts : Stmt := (inClass (topS 2) 3)
theorem sc_Change_with_parts : FnScope ["self", "parts"] ["self", "parts"] (defScope s_Change_with_parts) := ⟨rfl, rfl, rfl, by decide +kernel, rfl, by decide +kernel, by decide +kernel⟩
abbrev s_in_past : Stmt := (topS 3)
theorem sc_in_past : FnScope ["name", "change", "author", "number"] ["name", "change"] (defScope s_in_past) := ⟨rfl, rfl, rfl, by decide +kernel, rfl, by decide +kernel, by decide +kernel⟩
abbrev s_order_key : Stmt := (topS 4)
theorem sc_order_key : FnScope ["change"] ["change"] (defScope s_order_key) := ⟨rfl, rfl, rfl, by decide +kernel, rfl, by decide +kernel, by decide +kernel⟩
abbrev s_in_order : Stmt := (topS 5)
theorem sc_in_order : FnScope ["changes"] ["changes"] (defScope s_in_order) := ⟨rfl, rfl, rfl, by decide +kernel, rfl, by decide +kernel, by decide +kernel⟩
abbrev s_mix : Stmt := (topS 7)
theorem sc_mix : FnScope ["_law_cell", "_law_k", "_law_value"] ["_law_cell", "_law_k"] (defScope s_mix) := ⟨rfl, rfl, rfl, by decide +kernel, rfl, by decide +kernel, by decide +kernel⟩
abbrev s_draws : Stmt := (topS 8)
theorem sc_draws : FnScope ["_law_script", "_law_draws_here", "_law_k", "_law_cell", "_law_place"] ["_law_script"] (defScope s_draws) := ⟨rfl, rfl, rfl, by decide +kernel, rfl, by decide +kernel, by decide +kernel⟩
abbrev s_at : Stmt := (topS 9)
theorem sc_at : FnScope ["_law_draws_here", "_law_index"] ["_law_draws_here", "_law_index"] (defScope s_at) := ⟨rfl, rfl, rfl, by decide +kernel, rfl, by decide +kernel, by decide +kernel⟩
abbrev s_is_integer : Stmt := (topS 10)
theorem sc_is_integer : FnScope ["_law_actual"] ["_law_actual"] (defScope s_is_integer) := ⟨rfl, rfl, rfl, by decide +kernel, rfl, by decide +kernel, by decide +kernel⟩
abbrev s_same : Stmt := (topS 11)
theorem sc_same : FnScope ["_law_actual", "_law_expected", "_law_k"] ["_law_actual", "_law_expected"] (defScope s_same) := ⟨rfl, rfl, rfl, by decide +kernel, rfl, by decide +kernel, by decide +kernel⟩
abbrev s_rows : Stmt := (topS 12)
theorem sc_rows : FnScope ["_law_draws_here", "_law_count", "_law_size", "_law_limit", "_law_rows_here", "_law_numbers", "_law_k", "_law_author", "_law_heard", "_law_capability", "_law_publics", "_law_j"] ["_law_draws_here"] (defScope s_rows) := ⟨rfl, rfl, rfl, by decide +kernel, rfl, by decide +kernel, by decide +kernel⟩
abbrev s_change : Stmt := (topS 13)
theorem sc_change : FnScope ["_law_row", "_law_as_lists"] ["_law_row", "_law_as_lists"] (defScope s_change) := ⟨rfl, rfl, rfl, by decide +kernel, rfl, by decide +kernel, by decide +kernel⟩
abbrev s_is_kept : Stmt := (topS 14)
theorem sc_is_kept : FnScope ["_law_change_here", "_law_row", "_law_header", "_law_other"] ["_law_change_here", "_law_row"] (defScope s_is_kept) := ⟨rfl, rfl, rfl, by decide +kernel, rfl, by decide +kernel, by decide +kernel⟩
abbrev s_comes_first : Stmt := (topS 15)
theorem sc_comes_first : FnScope ["_law_row", "_law_other"] ["_law_row", "_law_other"] (defScope s_comes_first) := ⟨rfl, rfl, rfl, by decide +kernel, rfl, by decide +kernel, by decide +kernel⟩
abbrev s_is_past : Stmt := (topS 16)
theorem sc_is_past : FnScope ["_law_name", "_law_row"] ["_law_name", "_law_row"] (defScope s_is_past) := ⟨rfl, rfl, rfl, by decide +kernel, rfl, by decide +kernel, by decide +kernel⟩
abbrev s_asks_past : Stmt := (topS 17)
theorem sc_asks_past : FnScope ["_law_draws_here", "_law_rows_here", "_law_changes", "_law_k", "_law_author", "_law_number", "_law_actual"] ["_law_draws_here", "_law_rows_here", "_law_changes"] (defScope s_asks_past) := ⟨rfl, rfl, rfl, by decide +kernel, rfl, by decide +kernel, by decide +kernel⟩
abbrev s_law : Stmt := (topS 18)
theorem sc_law : FnScope ["_law_script", "_law_draws_here", "_law_rows_here", "_law_k", "_law_changes", "_law_passed", "_law_actual", "_law_names", "_law_places", "_law_name", "_law_found", "_law_change_here", "_law_row"] ["_law_script"] (defScope s_law) := ⟨rfl, rfl, rfl, by decide +kernel, rfl, by decide +kernel, by decide +kernel⟩
theorem bt_bool : bootBuiltins "bool" = some (.type "bool") := by decide +kernel
theorem bt_int : bootBuiltins "int" = some (.type "int") := by decide +kernel
theorem bt_isinstance : bootBuiltins "isinstance" = some (.builtin "isinstance") := by decide +kernel
theorem bt_len : bootBuiltins "len" = some (.builtin "len") := by decide +kernel
theorem bt_list : bootBuiltins "list" = some (.type "list") := by decide +kernel
theorem bt_max : bootBuiltins "max" = some (.builtin "max") := by decide +kernel
theorem bt_min : bootBuiltins "min" = some (.builtin "min") := by decide +kernel
theorem bt_range : bootBuiltins "range" = some (.type "range") := by decide +kernel
theorem bt_sorted : bootBuiltins "sorted" = some (.builtin "sorted") := by decide +kernel
theorem bt_str : bootBuiltins "str" = some (.type "str") := by decide +kernel
theorem bt_sum : bootBuiltins "sum" = some (.builtin "sum") := by decide +kernel
theorem bt_tuple : bootBuiltins "tuple" = some (.type "tuple") := by decide +kernel
structure Txt (K : PySem.W.Frag) (mg : Str → Option Value) where
  c_Change : Addr
  cl_Change : Cls K c_Change
  g_Change : mg "Change" = some (.ref c_Change)
  n_Change_author : NoAttr K c_Change "author"
  n_Change_capability : NoAttr K c_Change "capability"
  n_Change_heard : NoAttr K c_Change "heard"
  n_Change_number : NoAttr K c_Change "number"
  n_Change_parts : NoAttr K c_Change "parts"
  n_Change_publics : NoAttr K c_Change "publics"
  a_as_tuple : Addr
  d_as_tuple : FuncData
  F_as_tuple : Fun K "_as_tuple" "_as_tuple" s_as_tuple a_as_tuple d_as_tuple
  b_as_tuple : Binds K d_as_tuple ["part"] []
  g_as_tuple : mg "_as_tuple" = some (.ref a_as_tuple)
  a_Change_init : Addr
  d_Change_init : FuncData
  F_Change_init : Fun K "__init__" "Change.__init__" s_Change_init a_Change_init d_Change_init
  b_Change_init : Binds K d_Change_init ["self", "author", "number", "heard", "capability", "publics", "parts"] []
  M_Change : Mk K c_Change a_Change_init
  a_Change_name : Addr
  d_Change_name : FuncData
  F_Change_name : Fun K "name" "Change.name" s_Change_name a_Change_name d_Change_name
  b_Change_name : Binds K d_Change_name ["self"] []
  m_Change_name : Meth K c_Change "name" a_Change_name
  a_Change_header : Addr
  d_Change_header : FuncData
  F_Change_header : Fun K "header" "Change.header" s_Change_header a_Change_header d_Change_header
  b_Change_header : Binds K d_Change_header ["self"] []
  m_Change_header : Meth K c_Change "header" a_Change_header
  a_Change_with_parts : Addr
  d_Change_with_parts : FuncData
  F_Change_with_parts : Fun K "with_parts" "Change.with_parts" s_Change_with_parts a_Change_with_parts d_Change_with_parts
  b_Change_with_parts : Binds K d_Change_with_parts ["self", "parts"] []
  m_Change_with_parts : Meth K c_Change "with_parts" a_Change_with_parts
  a_in_past : Addr
  d_in_past : FuncData
  F_in_past : Fun K "in_past" "in_past" s_in_past a_in_past d_in_past
  b_in_past : Binds K d_in_past ["name", "change"] []
  g_in_past : mg "in_past" = some (.ref a_in_past)
  a_order_key : Addr
  d_order_key : FuncData
  F_order_key : Fun K "order_key" "order_key" s_order_key a_order_key d_order_key
  b_order_key : Binds K d_order_key ["change"] []
  g_order_key : mg "order_key" = some (.ref a_order_key)
  a_in_order : Addr
  d_in_order : FuncData
  F_in_order : Fun K "in_order" "in_order" s_in_order a_in_order d_in_order
  b_in_order : Binds K d_in_order ["changes"] []
  g_in_order : mg "in_order" = some (.ref a_in_order)
  a_mix : Addr
  d_mix : FuncData
  F_mix : Fun K "_law_mix" "_law_mix" s_mix a_mix d_mix
  b_mix : Binds K d_mix ["_law_cell", "_law_k"] []
  g_mix : mg "_law_mix" = some (.ref a_mix)
  a_draws : Addr
  d_draws : FuncData
  F_draws : Fun K "_law_draws" "_law_draws" s_draws a_draws d_draws
  b_draws : Binds K d_draws ["_law_script"] []
  g_draws : mg "_law_draws" = some (.ref a_draws)
  a_at : Addr
  d_at : FuncData
  F_at : Fun K "_law_at" "_law_at" s_at a_at d_at
  b_at : Binds K d_at ["_law_draws_here", "_law_index"] []
  g_at : mg "_law_at" = some (.ref a_at)
  a_is_integer : Addr
  d_is_integer : FuncData
  F_is_integer : Fun K "_law_is_integer" "_law_is_integer" s_is_integer a_is_integer d_is_integer
  b_is_integer : Binds K d_is_integer ["_law_actual"] []
  g_is_integer : mg "_law_is_integer" = some (.ref a_is_integer)
  a_same : Addr
  d_same : FuncData
  F_same : Fun K "_law_same" "_law_same" s_same a_same d_same
  b_same : Binds K d_same ["_law_actual", "_law_expected"] []
  g_same : mg "_law_same" = some (.ref a_same)
  a_rows : Addr
  d_rows : FuncData
  F_rows : Fun K "_law_rows" "_law_rows" s_rows a_rows d_rows
  b_rows : Binds K d_rows ["_law_draws_here"] []
  g_rows : mg "_law_rows" = some (.ref a_rows)
  a_change : Addr
  d_change : FuncData
  F_change : Fun K "_law_change" "_law_change" s_change a_change d_change
  b_change : Binds K d_change ["_law_row", "_law_as_lists"] []
  g_change : mg "_law_change" = some (.ref a_change)
  a_is_kept : Addr
  d_is_kept : FuncData
  F_is_kept : Fun K "_law_is_kept" "_law_is_kept" s_is_kept a_is_kept d_is_kept
  b_is_kept : Binds K d_is_kept ["_law_change_here", "_law_row"] []
  g_is_kept : mg "_law_is_kept" = some (.ref a_is_kept)
  a_comes_first : Addr
  d_comes_first : FuncData
  F_comes_first : Fun K "_law_comes_first" "_law_comes_first" s_comes_first a_comes_first d_comes_first
  b_comes_first : Binds K d_comes_first ["_law_row", "_law_other"] []
  g_comes_first : mg "_law_comes_first" = some (.ref a_comes_first)
  a_is_past : Addr
  d_is_past : FuncData
  F_is_past : Fun K "_law_is_past" "_law_is_past" s_is_past a_is_past d_is_past
  b_is_past : Binds K d_is_past ["_law_name", "_law_row"] []
  g_is_past : mg "_law_is_past" = some (.ref a_is_past)
  a_asks_past : Addr
  d_asks_past : FuncData
  F_asks_past : Fun K "_law_asks_past" "_law_asks_past" s_asks_past a_asks_past d_asks_past
  b_asks_past : Binds K d_asks_past ["_law_draws_here", "_law_rows_here", "_law_changes"] []
  g_asks_past : mg "_law_asks_past" = some (.ref a_asks_past)
  a_law : Addr
  d_law : FuncData
  F_law : Fun K "law" "law" s_law a_law d_law
  b_law : Binds K d_law ["_law_script"] []
  g_law : mg "law" = some (.ref a_law)
  z_bool : mg "bool" = none
  z_int : mg "int" = none
  z_isinstance : mg "isinstance" = none
  z_len : mg "len" = none
  z_list : mg "list" = none
  z_max : mg "max" = none
  z_min : mg "min" = none
  z_range : mg "range" = none
  z_sorted : mg "sorted" = none
  z_str : mg "str" = none
  z_sum : mg "sum" = none
  z_tuple : mg "tuple" = none
def Txt.cl {K : PySem.W.Frag} {mg : Str → Option Value} (T : Txt K mg) : Nat → Addr
  | 0 => T.c_Change
  | _ => 0
section
variable {P : Program} {w : World} {K : PySem.W.Frag} {mg : Str → Option Value} {base : Heap}
theorem ok_as_tuple (T : Txt K mg) : FnOk P w K mg base CX0 1 T.a_as_tuple T.d_as_tuple ["part"] (spOf K T.cl m_as_tuple) :=
  fn_ok T.F_as_tuple sc_as_tuple fun cdv A outer s H E hr => (s_cons (s_if (t_cmp d_is o_is (k_var 0) k_non (nomark _))
      (s_one (s_ret k_non))
      s_nil)
    (s_one (s_ret (k_callT d_tuple c_tuple (by rfl) T.z_tuple bt_tuple (a_cons (k_var 0) a_nil)))))
theorem ok_Change_init (T : Txt K mg) : FnOk P w K mg base CX0 2 T.a_Change_init T.d_Change_init ["self", "author", "number", "heard", "capability", "publics", "parts"] (spOf K T.cl m_Change_init) :=
  fnL_ok T.F_Change_init sc_Change_init fun cdv A outer s H E hr => (s_cons (s_fld (cs_cons ⟨T.cl_Change, T.n_Change_author⟩ cs_nil) (k_var 0) (k_var 1))
    (s_cons (s_fld (cs_cons ⟨T.cl_Change, T.n_Change_number⟩ cs_nil) (k_var 0) (k_var 2))
    (s_cons (s_fld (cs_cons ⟨T.cl_Change, T.n_Change_heard⟩ cs_nil) (k_var 0) (k_callT d_tuple c_tuple (by rfl) T.z_tuple bt_tuple (a_cons (k_var 3) a_nil)))
    (s_cons (s_fld (cs_cons ⟨T.cl_Change, T.n_Change_capability⟩ cs_nil) (k_var 0) (k_var 4))
    (s_cons (s_fld (cs_cons ⟨T.cl_Change, T.n_Change_publics⟩ cs_nil) (k_var 0) (k_callT d_tuple c_tuple (by rfl) T.z_tuple bt_tuple (a_cons (k_var 5) a_nil)))
    (s_one (s_fld (cs_cons ⟨T.cl_Change, T.n_Change_parts⟩ cs_nil) (k_var 0) (k_callT d_tuple c_tuple (by rfl) T.z_tuple bt_tuple (a_cons (k_comp (own := [("part", 7)]) (live := false) rfl sc_Change_init.nd (pi_any (k_var 6)) (blkOk_by (own := [("part", 7)]) (N := ["self", "author", "number", "heard", "capability", "publics", "parts", "part"]) (sc := defScope s_Change_init) (by decide +kernel)) (fun _ _ _ _ _ => (g_name (i := 7) sc_Change_init.nd rfl (.inl rfl))) (fun _ _ _ _ _ => ts_nil) (fun _ _ _ _ _ => (k_call (ok_as_tuple T) (hr.mono (by first | decide | omega)) (by rfl) T.g_as_tuple T.F_as_tuple.kp T.b_as_tuple pass0 (a_cons (k_var 7) a_nil)))) a_nil)))))))))
theorem ok_Change_name (T : Txt K mg) : FnOk P w K mg base CX0 1 T.a_Change_name T.d_Change_name ["self"] (spOf K T.cl m_Change_name) :=
  fn_ok T.F_Change_name sc_Change_name fun cdv A outer s H E hr => (s_one (s_ret (k_tup (a_cons (k_fld (cs_cons ⟨T.cl_Change, T.n_Change_author⟩ cs_nil) (k_var 0)) (a_cons (k_fld (cs_cons ⟨T.cl_Change, T.n_Change_number⟩ cs_nil) (k_var 0)) a_nil)))))
theorem ok_Change_header (T : Txt K mg) : FnOk P w K mg base CX0 1 T.a_Change_header T.d_Change_header ["self"] (spOf K T.cl m_Change_header) :=
  fn_ok T.F_Change_header sc_Change_header fun cdv A outer s H E hr => (s_one (s_ret (k_tup (a_cons (k_fld (cs_cons ⟨T.cl_Change, T.n_Change_author⟩ cs_nil) (k_var 0)) (a_cons (k_fld (cs_cons ⟨T.cl_Change, T.n_Change_number⟩ cs_nil) (k_var 0)) (a_cons (k_fld (cs_cons ⟨T.cl_Change, T.n_Change_heard⟩ cs_nil) (k_var 0)) (a_cons (k_fld (cs_cons ⟨T.cl_Change, T.n_Change_capability⟩ cs_nil) (k_var 0)) (a_cons (k_fld (cs_cons ⟨T.cl_Change, T.n_Change_publics⟩ cs_nil) (k_var 0)) a_nil))))))))
theorem ok_Change_with_parts (T : Txt K mg) : FnOk P w K mg base CX0 5 T.a_Change_with_parts T.d_Change_with_parts ["self", "parts"] (spOf K T.cl m_Change_with_parts) :=
  fn_ok T.F_Change_with_parts sc_Change_with_parts fun cdv A outer s H E hr => (s_one (s_ret (k_make (live := false) (c := 0) T.M_Change (ok_Change_init T) (hr.mono (by first | decide | omega)) (by rfl) T.g_Change T.b_Change_init pass0 (a_cons (k_fld (cs_cons ⟨T.cl_Change, T.n_Change_author⟩ cs_nil) (k_var 0)) (a_cons (k_fld (cs_cons ⟨T.cl_Change, T.n_Change_number⟩ cs_nil) (k_var 0)) (a_cons (k_fld (cs_cons ⟨T.cl_Change, T.n_Change_heard⟩ cs_nil) (k_var 0)) (a_cons (k_fld (cs_cons ⟨T.cl_Change, T.n_Change_capability⟩ cs_nil) (k_var 0)) (a_cons (k_fld (cs_cons ⟨T.cl_Change, T.n_Change_publics⟩ cs_nil) (k_var 0)) (a_cons (k_var 1) a_nil)))))))))
theorem ok_in_past (T : Txt K mg) : FnOk P w K mg base CX0 1 T.a_in_past T.d_in_past ["name", "change"] (spOf K T.cl m_in_past) :=
  fn_ok T.F_in_past sc_in_past fun cdv A outer s H E hr => (s_cons (s_asg (k_var 0) (g_tup rfl (gs_cons (g_name (i := 2) sc_in_past.nd rfl (.inl rfl)) (gs_cons (g_name (i := 3) sc_in_past.nd rfl (.inl rfl)) gs_nil))))
    (s_one (s_ret (k_and (k_chain d_le d_lt op_le op_lt k_int (k_var 2) (k_callB d_len c_len (by rfl) T.z_len bt_len (a_cons (k_fld (cs_cons ⟨T.cl_Change, T.n_Change_heard⟩ cs_nil) (k_var 1)) a_nil))) (k_one (k_chain d_le d_le op_le op_le k_int (k_var 3) (k_ix (k_fld (cs_cons ⟨T.cl_Change, T.n_Change_heard⟩ cs_nil) (k_var 1)) (k_var 2))))))))
theorem ok_order_key (T : Txt K mg) : FnOk P w K mg base CX0 1 T.a_order_key T.d_order_key ["change"] (spOf K T.cl m_order_key) :=
  fn_ok T.F_order_key sc_order_key fun cdv A outer s H E hr => (s_one (s_ret (k_tup (a_cons (k_callB d_sum (c_sum rfl) (by rfl) T.z_sum bt_sum (a_cons (k_fld (cs_cons ⟨T.cl_Change, T.n_Change_heard⟩ cs_nil) (k_var 0)) a_nil)) (a_cons (k_fld (cs_cons ⟨T.cl_Change, T.n_Change_author⟩ cs_nil) (k_var 0)) (a_cons (k_fld (cs_cons ⟨T.cl_Change, T.n_Change_number⟩ cs_nil) (k_var 0)) a_nil))))))
theorem ok_in_order (T : Txt K mg) : FnOk P w K mg base CX0 4 T.a_in_order T.d_in_order ["changes"] (spOf K T.cl m_in_order) :=
  fnL_ok T.F_in_order sc_in_order fun cdv A outer s H E hr => (s_one (s_ret (k_sortK (live := true) (ok_order_key T) (hr.mono (by first | decide | omega)) (by rfl) T.z_sorted bt_sorted (by rfl) T.g_order_key T.b_order_key (k_var 0))))
theorem ok_mix (T : Txt K mg) : FnOk P w K mg base CX0 1 T.a_mix T.d_mix ["_law_cell", "_law_k"] (spOf K T.cl m_mix) :=
  fn_ok T.F_mix sc_mix fun cdv A outer s H E hr => (s_cons (s_set (i := 2) sc_mix.nd rfl (.inl rfl) (k_op d_mod op_mod (k_callT d_int c_int (by rfl) T.z_int bt_int (a_cons (k_op d_add o_add (k_op d_add o_add (k_op d_mul op_mulG (k_callT d_int c_int (by rfl) T.z_int bt_int (a_cons (k_var 0) a_nil)) k_int) (k_op d_mul op_mulG (k_var 1) k_int)) k_int) a_nil)) k_int))
    (s_cons (s_set (i := 2) sc_mix.nd rfl (.inl rfl) (k_op d_mod op_mod (k_callT d_int c_int (by rfl) T.z_int bt_int (a_cons (k_op d_add o_add (k_op d_add o_add (k_op d_mul op_mulG (k_var 2) (k_var 2)) (k_op d_mul op_mulG (k_var 1) k_int)) k_int) a_nil)) k_int))
    (s_one (s_ret (k_op d_mod op_mod (k_op d_div op_fdivW (k_var 2) k_int) k_int)))))
theorem ok_draws (T : Txt K mg) : FnOk P w K mg base CX0 2 T.a_draws T.d_draws ["_law_script"] (spOf K T.cl m_draws) :=
  fn_ok T.F_draws sc_draws fun cdv A outer s H E hr => (s_cons (s_set (i := 1) sc_draws.nd rfl (.inl rfl) (k_lst (live := true) a_nil))
    (s_cons (s_for PassesOwn.never rfl (pi_rng1 (by rfl) T.z_range (a_cons (k_callB d_min (c_min rfl) (by rfl) T.z_min bt_min (a_cons k_int (a_cons (k_callB d_len c_len (by rfl) T.z_len bt_len (a_cons (k_var 0) a_nil)) a_nil))) a_nil)) (g_name (i := 2) sc_draws.nd rfl (.inl rfl))
      (s_cons (s_set (i := 3) sc_draws.nd rfl (.inl rfl) (k_callT d_int c_int (by rfl) T.z_int bt_int (a_cons (k_ix (k_var 0) (k_var 2)) a_nil)))
    (s_one (s_if (t_cmp d_lt op_lt (k_var 3) (k_op d_pow op_pow k_int k_int) (nomark _))
      (s_one (s_drop (k_bm d_app PySem.F.plainAttrs_list PySem.F.slot_list_append PySem.F.type_list_append mt_append (k_var 1) (a_cons (k_call (ok_mix T) (hr.mono (by first | decide | omega)) (by rfl) T.g_mix T.F_mix.kp T.b_mix pass0 (a_cons (k_var 3) (a_cons (k_var 2) a_nil))) a_nil))))
      (s_one (s_for PassesOwn.never rfl (pi_rng1 (by rfl) T.z_range (a_cons k_int a_nil)) (g_name (i := 4) sc_draws.nd rfl (.inl rfl))
      (s_one (s_if (t_cmp d_gt op_gt (k_var 3) k_int (nomark _))
      (s_cons (s_drop (k_bm d_app PySem.F.plainAttrs_list PySem.F.slot_list_append PySem.F.type_list_append mt_append (k_var 1) (a_cons (k_op d_mod op_mod (k_callT d_int c_int (by rfl) T.z_int bt_int (a_cons (k_var 3) a_nil)) k_int) a_nil)))
    (s_one (s_set (i := 3) sc_draws.nd rfl (.inl rfl) (k_op d_div op_fdivW (k_var 3) k_int))))
      s_nil))))))))
    (s_one (s_ret (k_var 1)))))
theorem ok_at (T : Txt K mg) : FnOk P w K mg base CX0 2 T.a_at T.d_at ["_law_draws_here", "_law_index"] (spOf K T.cl m_at) :=
  fn_ok T.F_at sc_at fun cdv A outer s H E hr => (s_cons (s_if (t_cmp d_lt op_lt (k_var 1) (k_callB d_len c_len (by rfl) T.z_len bt_len (a_cons (k_var 0) a_nil)) (nomark _))
      (s_one (s_ret (k_ix (k_var 0) (k_var 1))))
      s_nil)
    (s_cons (s_if (t_cmp d_eq (o_eq hr.units) (k_callB d_len c_len (by rfl) T.z_len bt_len (a_cons (k_var 0) a_nil)) k_int (nomark _))
      (s_one (s_ret (k_call (ok_mix T) (hr.mono (by first | decide | omega)) (by rfl) T.g_mix T.F_mix.kp T.b_mix pass0 (a_cons (k_var 1) (a_cons k_int a_nil)))))
      s_nil)
    (s_one (s_ret (k_call (ok_mix T) (hr.mono (by first | decide | omega)) (by rfl) T.g_mix T.F_mix.kp T.b_mix pass0 (a_cons (k_op d_add o_add (k_ix (k_var 0) (k_op d_mod op_mod (k_callT d_int c_int (by rfl) T.z_int bt_int (a_cons (k_var 1) a_nil)) (k_callB d_len c_len (by rfl) T.z_len bt_len (a_cons (k_var 0) a_nil)))) (k_op d_mul op_mulG (k_var 1) k_int)) (a_cons (k_var 1) a_nil)))))))
theorem ok_is_integer (T : Txt K mg) : FnOk P w K mg base CX0 1 T.a_is_integer T.d_is_integer ["_law_actual"] (spOf K T.cl m_is_integer) :=
  fn_ok T.F_is_integer sc_is_integer fun cdv A outer s H E hr => (s_one (s_ret (k_and (k_isi (k_var 0) (by rfl) T.z_isinstance (by rfl) T.z_int bt_int) (k_one (k_not (k_isi (k_var 0) (by rfl) T.z_isinstance (by rfl) T.z_bool bt_bool))))))
theorem ok_same (T : Txt K mg) : ∀ n : Nat, FnOk P w K mg base CX0 (1 + n) T.a_same T.d_same ["_law_actual", "_law_expected"] (spOf K T.cl (m_same n))
  | 0 => fn_no
  | n + 1 => by
    have G_same := ok_same T n
    exact fn_ok (k := 1 + n) T.F_same sc_same fun cdv A outer s H E hr => (s_cons (s_if (t_val (k_isi2 (k_var 1) (by rfl) T.z_isinstance (by rfl) T.z_list bt_list (by rfl) T.z_tuple bt_tuple))
      (s_cons (s_if (PW.pt (w_or (t_cmp d_eq (o_ne hr.units) (k_isi (k_var 1) (by rfl) T.z_isinstance (by rfl) T.z_list bt_list) (k_isi (k_var 0) (by rfl) T.z_isinstance (by rfl) T.z_list bt_list) (nomark _)) (w_or1 (t_cmp d_eq (o_ne hr.units) (k_isi (k_var 1) (by rfl) T.z_isinstance (by rfl) T.z_tuple bt_tuple) (k_isi (k_var 0) (by rfl) T.z_isinstance (by rfl) T.z_tuple bt_tuple) (nomark _)))))
      (s_one (s_ret k_bl))
      s_nil)
    (s_cons (s_if (t_cmp d_eq (o_ne hr.units) (k_callB d_len c_len (by rfl) T.z_len bt_len (a_cons (k_var 0) a_nil)) (k_callB d_len c_len (by rfl) T.z_len bt_len (a_cons (k_var 1) a_nil)) (nomark _))
      (s_one (s_ret k_bl))
      s_nil)
    (s_cons (s_for PassesOwn.never rfl (pi_rng1 (by rfl) T.z_range (a_cons (k_callB d_len c_len (by rfl) T.z_len bt_len (a_cons (k_var 1) a_nil)) a_nil)) (g_name (i := 2) sc_same.nd rfl (.inl rfl))
      (s_one (s_if (t_not (t_val (k_call G_same (hr.mono (by first | decide | omega)) (by rfl) T.g_same T.F_same.kp T.b_same pass0 (a_cons (k_ix (k_var 0) (k_var 2)) (a_cons (k_ix (k_var 1) (k_var 2)) a_nil)))))
      (s_one (s_ret k_bl))
      s_nil)))
    (s_one (s_ret k_bl)))))
      s_nil)
    (s_cons (s_if (t_cmp d_is o_is (k_var 1) k_non (nomark _))
      (s_one (s_ret (k_cmp d_is o_is (k_var 0) k_non (nomark _))))
      s_nil)
    (s_cons (s_if (t_val (k_isi (k_var 1) (by rfl) T.z_isinstance (by rfl) T.z_bool bt_bool))
      (s_one (s_ret (k_and (k_isi (k_var 0) (by rfl) T.z_isinstance (by rfl) T.z_bool bt_bool) (k_one (k_cmp d_eq (o_eq hr.units) (k_var 0) (k_var 1) (nomark _))))))
      s_nil)
    (s_cons (s_if (t_val (k_isi (k_var 1) (by rfl) T.z_isinstance (by rfl) T.z_int bt_int))
      (s_one (s_ret (k_and (k_call (ok_is_integer T) (hr.mono (by first | decide | omega)) (by rfl) T.g_is_integer T.F_is_integer.kp T.b_is_integer pass0 (a_cons (k_var 0) a_nil)) (k_one (k_cmp d_eq (o_eq hr.units) (k_var 0) (k_var 1) (nomark _))))))
      s_nil)
    (s_one (s_ret (k_and (k_isi (k_var 0) (by rfl) T.z_isinstance (by rfl) T.z_str bt_str) (k_one (k_cmp d_eq (o_eq hr.units) (k_var 0) (k_var 1) (nomark _))))))))))
theorem ok_rows (T : Txt K mg) : FnOk P w K mg base CX0 3 T.a_rows T.d_rows ["_law_draws_here"] (spOf K T.cl m_rows) :=
  fn_ok T.F_rows sc_rows fun cdv A outer s H E hr => (s_cons (s_set (i := 1) sc_rows.nd rfl (.inl rfl) (k_op d_mod op_mod (k_call (ok_at T) (hr.mono (by first | decide | omega)) (by rfl) T.g_at T.F_at.kp T.b_at pass0 (a_cons (k_var 0) (a_cons k_int a_nil))) k_int))
    (s_cons (s_if (t_cmp d_eq (o_eq hr.units) (k_op d_mod op_mod (k_call (ok_at T) (hr.mono (by first | decide | omega)) (by rfl) T.g_at T.F_at.kp T.b_at pass0 (a_cons (k_var 0) (a_cons k_int a_nil))) k_int) k_int (nomark _))
      (s_one (s_set (i := 1) sc_rows.nd rfl (.inl rfl) k_int))
      s_nil)
    (s_cons (s_set (i := 2) sc_rows.nd rfl (.inl rfl) (k_op d_add o_add k_int (k_op d_mod op_mod (k_call (ok_at T) (hr.mono (by first | decide | omega)) (by rfl) T.g_at T.F_at.kp T.b_at pass0 (a_cons (k_var 0) (a_cons k_int a_nil))) k_int)))
    (s_cons (s_set (i := 3) sc_rows.nd rfl (.inr rfl) (k_ix (k_lst (live := false) (a_cons k_int (a_cons k_int (a_cons k_int a_nil)))) (k_op d_mod op_mod (k_call (ok_at T) (hr.mono (by first | decide | omega)) (by rfl) T.g_at T.F_at.kp T.b_at pass0 (a_cons (k_var 0) (a_cons k_int a_nil))) k_int)))
    (s_cons (s_set (i := 4) sc_rows.nd rfl (.inl rfl) (k_lst (live := true) a_nil))
    (s_cons (s_set (i := 5) sc_rows.nd rfl (.inl rfl) (k_lst (live := true) (a_cons k_int (a_cons k_int (a_cons k_int (a_cons k_int (a_cons k_int (a_cons k_int a_nil))))))))
    (s_cons (s_for PassesOwn.never rfl (pi_rng1 (by rfl) T.z_range (a_cons (k_var 1) a_nil)) (g_name (i := 6) sc_rows.nd rfl (.inr rfl))
      (s_cons (s_set (i := 7) sc_rows.nd rfl (.inl rfl) (k_op d_mod op_mod (k_call (ok_at T) (hr.mono (by first | decide | omega)) (by rfl) T.g_at T.F_at.kp T.b_at pass0 (a_cons (k_var 0) (a_cons (k_op d_add o_add k_int (k_op d_mul op_mulG k_int (k_var 6))) a_nil))) (k_var 2)))
    (s_cons (s_asg (k_op d_add o_add (k_op d_add o_add (k_ix (k_var 5) (k_var 7)) k_int) (k_op d_div op_fdivW (k_call (ok_at T) (hr.mono (by first | decide | omega)) (by rfl) T.g_at T.F_at.kp T.b_at pass0 (a_cons (k_var 0) (a_cons (k_op d_add o_add k_int (k_op d_mul op_mulG k_int (k_var 6))) a_nil))) k_int)) (g_sub (k_var 5) (k_var 7)))
    (s_cons (s_setComp (i := 8) (own := [("_law_j", 11)]) (live := false) rfl sc_rows.nd rfl rfl (sw_true rfl rfl rfl (by decide +kernel)) (pi_rng1 (by rfl) T.z_range (a_cons (k_var 2) a_nil)) (blkOk_by (own := [("_law_j", 11)]) (N := ["_law_draws_here", "_law_count", "_law_size", "_law_limit", "_law_rows_here", "_law_numbers", "_law_k", "_law_author", "_law_heard", "_law_capability", "_law_publics", "_law_j"]) (sc := defScope s_rows) (by decide +kernel)) (fun _ _ _ _ _ => (g_name (i := 11) sc_rows.nd rfl (.inl rfl))) (fun _ _ _ _ _ => ts_nil) (fun _ _ _ _ _ => (k_op d_mod op_mod (k_call (ok_at T) (hr.mono (by first | decide | omega)) (by rfl) T.g_at T.F_at.kp T.b_at pass0 (a_cons (k_var 0) (a_cons (k_op d_add o_add (k_op d_add o_add k_int (k_op d_mul op_mulG k_int (k_var 6))) (k_var 11)) a_nil))) (k_var 3))))
    (s_cons (s_set (i := 9) sc_rows.nd rfl (.inl rfl) (k_ix (k_lst (live := false) (a_cons k_non (a_cons (k_tup (a_cons k_int (a_cons (k_op d_add o_add k_int (k_op d_mod op_mod (k_call (ok_at T) (hr.mono (by first | decide | omega)) (by rfl) T.g_at T.F_at.kp T.b_at pass0 (a_cons (k_var 0) (a_cons (k_op d_add o_add k_int (k_op d_mul op_mulG k_int (k_var 6))) a_nil))) k_int)) (a_cons k_int a_nil)))) a_nil))) (k_op d_mod op_mod (k_op d_div op_fdivW (k_call (ok_at T) (hr.mono (by first | decide | omega)) (by rfl) T.g_at T.F_at.kp T.b_at pass0 (a_cons (k_var 0) (a_cons (k_op d_add o_add k_int (k_op d_mul op_mulG k_int (k_var 6))) a_nil))) k_int) k_int)))
    (s_cons (s_set (i := 10) sc_rows.nd rfl (.inl rfl) (k_sl (live := false) (k_lst (live := false) (a_cons (k_tup (a_cons k_str a_nil)) (a_cons (k_tup (a_cons k_str (a_cons (k_tup (a_cons k_int (a_cons k_int (a_cons (k_var 6) a_nil)))) a_nil))) (a_cons (k_tup (a_cons k_str (a_cons k_non a_nil))) a_nil)))) o_none (o_some (k_op d_mod op_mod (k_op d_div op_fdivW (k_call (ok_at T) (hr.mono (by first | decide | omega)) (by rfl) T.g_at T.F_at.kp T.b_at pass0 (a_cons (k_var 0) (a_cons (k_op d_add o_add k_int (k_op d_mul op_mulG k_int (k_var 6))) a_nil))) k_int) k_int))))
    (s_one (s_drop (k_bm d_app PySem.F.plainAttrs_list PySem.F.slot_list_append PySem.F.type_list_append mt_append (k_var 4) (a_cons (k_lst (live := false) (a_cons (k_var 7) (a_cons (k_ix (k_var 5) (k_var 7)) (a_cons (k_var 8) (a_cons (k_var 9) (a_cons (k_var 10) (a_cons (k_lst (live := false) (a_cons k_non (a_cons (k_tup a_nil) (a_cons (k_tup (a_cons (k_tup (a_cons k_str (a_cons k_str a_nil))) a_nil)) (a_cons (k_tup a_nil) a_nil))))) a_nil))))))) a_nil))))))))))
    (s_one (s_ret (k_var 4))))))))))
theorem ok_change (T : Txt K mg) : FnOk P w K mg base CX0 5 T.a_change T.d_change ["_law_row", "_law_as_lists"] (spOf K T.cl m_change) :=
  fn_ok T.F_change sc_change fun cdv A outer s H E hr => (s_cons (s_if (t_tru (k_var 1))
      (s_one (s_ret (k_make (live := false) (c := 0) T.M_Change (ok_Change_init T) (hr.mono (by first | decide | omega)) (by rfl) T.g_Change T.b_Change_init pass0 (a_cons (k_ix (k_var 0) k_int) (a_cons (k_ix (k_var 0) k_int) (a_cons (k_callT (d_list (live := false)) c_list (by rfl) T.z_list bt_list (a_cons (k_ix (k_var 0) k_int) a_nil)) (a_cons (k_ix (k_var 0) k_int) (a_cons (k_callT (d_list (live := false)) c_list (by rfl) T.z_list bt_list (a_cons (k_ix (k_var 0) k_int) a_nil)) (a_cons (k_callT (d_list (live := false)) c_list (by rfl) T.z_list bt_list (a_cons (k_ix (k_var 0) k_int) a_nil)) a_nil)))))))))
      s_nil)
    (s_one (s_ret (k_make (live := false) (c := 0) T.M_Change (ok_Change_init T) (hr.mono (by first | decide | omega)) (by rfl) T.g_Change T.b_Change_init pass0 (a_cons (k_ix (k_var 0) k_int) (a_cons (k_ix (k_var 0) k_int) (a_cons (k_callT d_tuple c_tuple (by rfl) T.z_tuple bt_tuple (a_cons (k_ix (k_var 0) k_int) a_nil)) (a_cons (k_ix (k_var 0) k_int) (a_cons (k_callT d_tuple c_tuple (by rfl) T.z_tuple bt_tuple (a_cons (k_ix (k_var 0) k_int) a_nil)) (a_cons (k_callT d_tuple c_tuple (by rfl) T.z_tuple bt_tuple (a_cons (k_ix (k_var 0) k_int) a_nil)) a_nil))))))))))
theorem ok_is_kept (T : Txt K mg) : FnOk P w K mg base CX0 42 T.a_is_kept T.d_is_kept ["_law_change_here", "_law_row"] (spOf K T.cl m_is_kept) :=
  fn_ok T.F_is_kept sc_is_kept fun cdv A outer s H E hr => (s_cons (s_set (i := 2) sc_is_kept.nd rfl (.inl rfl) (k_tup (a_cons (k_ix (k_var 1) k_int) (a_cons (k_ix (k_var 1) k_int) (a_cons (k_callT d_tuple c_tuple (by rfl) T.z_tuple bt_tuple (a_cons (k_ix (k_var 1) k_int) a_nil)) (a_cons (k_ix (k_var 1) k_int) (a_cons (k_callT d_tuple c_tuple (by rfl) T.z_tuple bt_tuple (a_cons (k_ix (k_var 1) k_int) a_nil)) a_nil)))))))
    (s_cons (s_if (PW.pt (w_or (t_not (t_val (k_call (ok_same T 40) (hr.mono (by first | decide | omega)) (by rfl) T.g_same T.F_same.kp T.b_same pass0 (a_cons (k_meth0 (c := 0) (k_var 0) T.cl_Change T.m_Change_header (ok_Change_header T) (hr.mono (by first | decide | omega)) T.b_Change_header pass0) (a_cons (k_var 2) a_nil))))) (w_or1 (t_not (t_val (k_call (ok_same T 40) (hr.mono (by first | decide | omega)) (by rfl) T.g_same T.F_same.kp T.b_same pass0 (a_cons (k_meth0 (c := 0) (k_var 0) T.cl_Change T.m_Change_name (ok_Change_name T) (hr.mono (by first | decide | omega)) T.b_Change_name pass0) (a_cons (k_tup (a_cons (k_ix (k_var 1) k_int) (a_cons (k_ix (k_var 1) k_int) a_nil))) a_nil))))))))
      (s_one (s_ret k_bl))
      s_nil)
    (s_cons (s_if (PW.pt (w_or (t_not (t_val (k_call (ok_same T 40) (hr.mono (by first | decide | omega)) (by rfl) T.g_same T.F_same.kp T.b_same pass0 (a_cons (k_fld (cs_cons ⟨T.cl_Change, T.n_Change_heard⟩ cs_nil) (k_var 0)) (a_cons (k_ix (k_var 2) k_int) a_nil))))) (w_or1 (t_not (t_val (k_call (ok_same T 40) (hr.mono (by first | decide | omega)) (by rfl) T.g_same T.F_same.kp T.b_same pass0 (a_cons (k_fld (cs_cons ⟨T.cl_Change, T.n_Change_publics⟩ cs_nil) (k_var 0)) (a_cons (k_ix (k_var 2) k_int) a_nil))))))))
      (s_one (s_ret k_bl))
      s_nil)
    (s_cons (s_if (PW.pt (w_or (t_not (t_val (k_call (ok_same T 40) (hr.mono (by first | decide | omega)) (by rfl) T.g_same T.F_same.kp T.b_same pass0 (a_cons (k_fld (cs_cons ⟨T.cl_Change, T.n_Change_parts⟩ cs_nil) (k_var 0)) (a_cons (k_callT d_tuple c_tuple (by rfl) T.z_tuple bt_tuple (a_cons (k_ix (k_var 1) k_int) a_nil)) a_nil))))) (w_or1 (t_not (t_val (k_call (ok_same T 40) (hr.mono (by first | decide | omega)) (by rfl) T.g_same T.F_same.kp T.b_same pass0 (a_cons (k_fld (cs_cons ⟨T.cl_Change, T.n_Change_capability⟩ cs_nil) (k_var 0)) (a_cons (k_ix (k_var 1) k_int) a_nil))))))))
      (s_one (s_ret k_bl))
      s_nil)
    (s_cons (s_set (i := 3) sc_is_kept.nd rfl (.inl rfl) (k_meth (c := 0) (k_var 0) T.cl_Change T.m_Change_with_parts (ok_Change_with_parts T) (hr.mono (by first | decide | omega)) T.b_Change_with_parts pass0 (a_cons (k_lst (live := false) (a_cons (k_tup a_nil) (a_cons k_non (a_cons k_non (a_cons (k_tup (a_cons (k_tup (a_cons k_str (a_cons k_str a_nil))) a_nil)) a_nil))))) a_nil)))
    (s_cons (s_if (PW.pt (w_or (t_not (t_val (k_call (ok_same T 40) (hr.mono (by first | decide | omega)) (by rfl) T.g_same T.F_same.kp T.b_same pass0 (a_cons (k_meth0 (c := 0) (k_var 3) T.cl_Change T.m_Change_header (ok_Change_header T) (hr.mono (by first | decide | omega)) T.b_Change_header pass0) (a_cons (k_var 2) a_nil))))) (w_or1 (t_not (t_val (k_call (ok_same T 40) (hr.mono (by first | decide | omega)) (by rfl) T.g_same T.F_same.kp T.b_same pass0 (a_cons (k_fld (cs_cons ⟨T.cl_Change, T.n_Change_parts⟩ cs_nil) (k_var 3)) (a_cons (k_tup (a_cons (k_tup a_nil) (a_cons k_non (a_cons k_non (a_cons (k_tup (a_cons (k_tup (a_cons k_str (a_cons k_str a_nil))) a_nil)) a_nil))))) a_nil))))))))
      (s_one (s_ret k_bl))
      s_nil)
    (s_cons (s_if (PW.pt (w_or (t_not (t_val (k_call (ok_same T 40) (hr.mono (by first | decide | omega)) (by rfl) T.g_same T.F_same.kp T.b_same pass0 (a_cons (k_fld (cs_cons ⟨T.cl_Change, T.n_Change_parts⟩ cs_nil) (k_var 0)) (a_cons (k_callT d_tuple c_tuple (by rfl) T.z_tuple bt_tuple (a_cons (k_ix (k_var 1) k_int) a_nil)) a_nil))))) (w_or1 (t_not (t_val (k_call (ok_same T 40) (hr.mono (by first | decide | omega)) (by rfl) T.g_same T.F_same.kp T.b_same pass0 (a_cons (k_fld (cs_cons ⟨T.cl_Change, T.n_Change_author⟩ cs_nil) (k_var 0)) (a_cons (k_ix (k_var 1) k_int) a_nil))))))))
      (s_one (s_ret k_bl))
      s_nil)
    (s_one (s_ret (k_and (k_call (ok_same T 40) (hr.mono (by first | decide | omega)) (by rfl) T.g_same T.F_same.kp T.b_same pass0 (a_cons (k_fld (cs_cons ⟨T.cl_Change, T.n_Change_number⟩ cs_nil) (k_var 0)) (a_cons (k_ix (k_var 1) k_int) a_nil))) (k_one (k_call (ok_same T 40) (hr.mono (by first | decide | omega)) (by rfl) T.g_same T.F_same.kp T.b_same pass0 (a_cons (k_call (ok_order_key T) (hr.mono (by first | decide | omega)) (by rfl) T.g_order_key T.F_order_key.kp T.b_order_key pass0 (a_cons (k_var 0) a_nil)) (a_cons (k_tup (a_cons (k_callB d_sum (c_sum rfl) (by rfl) T.z_sum bt_sum (a_cons (k_ix (k_var 1) k_int) a_nil)) (a_cons (k_ix (k_var 1) k_int) (a_cons (k_ix (k_var 1) k_int) a_nil)))) a_nil))))))))))))))
theorem ok_comes_first (T : Txt K mg) : FnOk P w K mg base CX0 1 T.a_comes_first T.d_comes_first ["_law_row", "_law_other"] (spOf K T.cl m_comes_first) :=
  fn_ok T.F_comes_first sc_comes_first fun cdv A outer s H E hr => (s_cons (s_if (t_cmp d_eq (o_ne hr.units) (k_callB d_sum (c_sum rfl) (by rfl) T.z_sum bt_sum (a_cons (k_ix (k_var 0) k_int) a_nil)) (k_callB d_sum (c_sum rfl) (by rfl) T.z_sum bt_sum (a_cons (k_ix (k_var 1) k_int) a_nil)) (nomark _))
      (s_one (s_ret (k_cmp d_lt op_lt (k_callB d_sum (c_sum rfl) (by rfl) T.z_sum bt_sum (a_cons (k_ix (k_var 0) k_int) a_nil)) (k_callB d_sum (c_sum rfl) (by rfl) T.z_sum bt_sum (a_cons (k_ix (k_var 1) k_int) a_nil)) (nomark _))))
      s_nil)
    (s_cons (s_if (t_cmp d_eq (o_ne hr.units) (k_ix (k_var 0) k_int) (k_ix (k_var 1) k_int) (nomark _))
      (s_one (s_ret (k_cmp d_lt op_lt (k_ix (k_var 0) k_int) (k_ix (k_var 1) k_int) (nomark _))))
      s_nil)
    (s_one (s_ret (k_cmp d_lt op_lt (k_ix (k_var 0) k_int) (k_ix (k_var 1) k_int) (nomark _))))))
theorem ok_is_past (T : Txt K mg) : FnOk P w K mg base CX0 1 T.a_is_past T.d_is_past ["_law_name", "_law_row"] (spOf K T.cl m_is_past) :=
  fn_ok T.F_is_past sc_is_past fun cdv A outer s H E hr => (s_one (s_ret (k_and (k_cmp d_le op_le k_int (k_ix (k_var 0) k_int) (nomark _)) (k_and (k_cmp d_lt op_lt (k_ix (k_var 0) k_int) (k_callB d_len c_len (by rfl) T.z_len bt_len (a_cons (k_ix (k_var 1) k_int) a_nil)) (nomark _)) (k_and (k_cmp d_le op_le k_int (k_ix (k_var 0) k_int) (nomark _)) (k_one (k_cmp d_le op_le (k_ix (k_var 0) k_int) (k_ix (k_ix (k_var 1) k_int) (k_ix (k_var 0) k_int)) (nomark _))))))))
theorem ok_asks_past (T : Txt K mg) : FnOk P w K mg base CX0 3 T.a_asks_past T.d_asks_past ["_law_draws_here", "_law_rows_here", "_law_changes"] (spOf K T.cl m_asks_past) :=
  fn_ok T.F_asks_past sc_asks_past fun cdv A outer s H E hr => (s_cons (s_for PassesOwn.never rfl (pi_rng1 (by rfl) T.z_range (a_cons (k_callB d_len c_len (by rfl) T.z_len bt_len (a_cons (k_var 1) a_nil)) a_nil)) (g_name (i := 3) sc_asks_past.nd rfl (.inl rfl))
      (s_one (s_for PassesOwn.never rfl (pi_rng2 (by rfl) T.z_range (a_cons (k_un d_neg un_neg k_int) (a_cons k_int a_nil))) (g_name (i := 4) sc_asks_past.nd rfl (.inl rfl))
      (s_cons (s_set (i := 5) sc_asks_past.nd rfl (.inl rfl) (k_op d_add o_add k_int (k_op d_mod op_mod (k_call (ok_at T) (hr.mono (by first | decide | omega)) (by rfl) T.g_at T.F_at.kp T.b_at pass0 (a_cons (k_var 0) (a_cons (k_op d_add o_add (k_op d_add o_add k_int (k_op d_mul op_mulG k_int (k_var 3))) (k_var 4)) a_nil))) (k_ix (k_lst (live := false) (a_cons k_int (a_cons k_int (a_cons k_int a_nil)))) (k_op d_mod op_mod (k_call (ok_at T) (hr.mono (by first | decide | omega)) (by rfl) T.g_at T.F_at.kp T.b_at pass0 (a_cons (k_var 0) (a_cons k_int a_nil))) k_int)))))
    (s_cons (s_if (PW.pt (w_and (t_cmp d_le op_le k_int (k_var 4) (nomark _)) (w_and (t_cmp d_lt op_lt (k_var 4) (k_callB d_len c_len (by rfl) T.z_len bt_len (a_cons (k_ix (k_ix (k_var 1) (k_var 3)) k_int) a_nil)) (nomark _)) (w_and1 (t_cmp d_eq (o_eq hr.units) (k_op d_mod op_mod (k_call (ok_at T) (hr.mono (by first | decide | omega)) (by rfl) T.g_at T.F_at.kp T.b_at pass0 (a_cons (k_var 0) (a_cons (k_op d_add o_add k_int (k_var 3)) a_nil))) k_int) k_int (nomark _))))))
      (s_one (s_set (i := 5) sc_asks_past.nd rfl (.inl rfl) (k_callB d_max (c_max rfl) (by rfl) T.z_max bt_max (a_cons k_int (a_cons (k_op d_add o_add (k_ix (k_ix (k_ix (k_var 1) (k_var 3)) k_int) (k_var 4)) (k_op d_mod op_mod (k_call (ok_at T) (hr.mono (by first | decide | omega)) (by rfl) T.g_at T.F_at.kp T.b_at pass0 (a_cons (k_var 0) (a_cons (k_op d_add o_add (k_op d_add o_add k_int (k_var 3)) (k_var 4)) a_nil))) k_int)) a_nil)))))
      s_nil)
    (s_cons (s_if (t_cmp d_eq (o_eq hr.units) (k_op d_mod op_mod (k_call (ok_at T) (hr.mono (by first | decide | omega)) (by rfl) T.g_at T.F_at.kp T.b_at pass0 (a_cons (k_var 0) (a_cons (k_op d_add o_add (k_op d_add o_add k_int (k_var 3)) (k_var 4)) a_nil))) k_int) k_int (nomark _))
      (s_one (s_set (i := 5) sc_asks_past.nd rfl (.inl rfl) (k_op d_sub op_sub (k_op d_mod op_mod (k_call (ok_at T) (hr.mono (by first | decide | omega)) (by rfl) T.g_at T.F_at.kp T.b_at pass0 (a_cons (k_var 0) (a_cons (k_op d_add o_add k_int (k_var 3)) a_nil))) k_int) k_int)))
      s_nil)
    (s_cons (s_set (i := 6) sc_asks_past.nd rfl (.inl rfl) (k_call (ok_in_past T) (hr.mono (by first | decide | omega)) (by rfl) T.g_in_past T.F_in_past.kp T.b_in_past pass0 (a_cons (k_tup (a_cons (k_var 4) (a_cons (k_var 5) a_nil))) (a_cons (k_ix (k_var 2) (k_var 3)) a_nil))))
    (s_one (s_if (PW.pt (w_or (t_not (t_val (k_isi (k_var 6) (by rfl) T.z_isinstance (by rfl) T.z_bool bt_bool))) (w_or1 (t_cmp d_eq (o_ne hr.units) (k_var 6) (k_call (ok_is_past T) (hr.mono (by first | decide | omega)) (by rfl) T.g_is_past T.F_is_past.kp T.b_is_past pass0 (a_cons (k_tup (a_cons (k_var 4) (a_cons (k_var 5) a_nil))) (a_cons (k_ix (k_var 1) (k_var 3)) a_nil))) (nomark _)))))
      (s_one (s_ret k_bl))
      s_nil)))))))))
    (s_one (s_ret k_bl)))
theorem ok_law (T : Txt K mg) : FnOk P w K mg base CX0 43 T.a_law T.d_law ["_law_script"] (spOf K T.cl m_law) :=
  fn_ok T.F_law sc_law fun cdv A outer s H E hr => (s_cons (s_set (i := 1) sc_law.nd rfl (.inr rfl) (k_call (ok_draws T) (hr.mono (by first | decide | omega)) (by rfl) T.g_draws T.F_draws.kp T.b_draws pass0 (a_cons (k_var 0) a_nil)))
    (s_cons (s_set (i := 2) sc_law.nd rfl (.inr rfl) (k_call (ok_rows T) (hr.mono (by first | decide | omega)) (by rfl) T.g_rows T.F_rows.kp T.b_rows pass0 (a_cons (k_var 1) a_nil)))
    (s_cons (s_setComp (i := 4) (own := [("_law_k", 3)]) (live := false) rfl sc_law.nd rfl rfl (sw_true rfl rfl rfl (by decide +kernel)) (pi_rng1 (by rfl) T.z_range (a_cons (k_callB d_len c_len (by rfl) T.z_len bt_len (a_cons (k_var 2) a_nil)) a_nil)) (blkOk_by (own := [("_law_k", 3)]) (N := ["_law_script", "_law_draws_here", "_law_rows_here", "_law_k", "_law_changes", "_law_passed", "_law_actual", "_law_names", "_law_places", "_law_name", "_law_found", "_law_change_here", "_law_row"]) (sc := defScope s_law) (by decide +kernel)) (fun _ _ _ _ _ => (g_name (i := 3) sc_law.nd rfl (.inl rfl))) (fun _ _ _ _ _ => ts_nil) (fun _ _ _ _ _ => (k_call (ok_change T) (hr.mono (by first | decide | omega)) (by rfl) T.g_change T.F_change.kp T.b_change pass0 (a_cons (k_ix (k_var 2) (k_var 3)) (a_cons (k_cmp d_eq (o_eq hr.units) (k_op d_mod op_mod (k_call (ok_at T) (hr.mono (by first | decide | omega)) (by rfl) T.g_at T.F_at.kp T.b_at pass0 (a_cons (k_var 1) (a_cons (k_op d_add o_add k_int (k_var 3)) a_nil))) k_int) k_int (nomark _)) a_nil)))))
    (s_cons (s_for PassesOwn.never rfl (pi_rng1 (by rfl) T.z_range (a_cons (k_callB d_len c_len (by rfl) T.z_len bt_len (a_cons (k_var 2) a_nil)) a_nil)) (g_name (i := 3) sc_law.nd rfl (.inl rfl))
      (s_one (s_if (t_not (t_val (k_call (ok_is_kept T) (hr.mono (by first | decide | omega)) (by rfl) T.g_is_kept T.F_is_kept.kp T.b_is_kept pass0 (a_cons (k_ix (k_var 4) (k_var 3)) (a_cons (k_ix (k_var 2) (k_var 3)) a_nil)))))
      (s_one (s_ret k_bl))
      s_nil)))
    (s_cons (s_set (i := 5) sc_law.nd rfl (.inl rfl) (k_callT (d_list (live := false)) c_list (by rfl) T.z_list bt_list (a_cons (k_var 4) a_nil)))
    (s_cons (s_set (i := 6) sc_law.nd rfl (.inl rfl) (k_call (ok_in_order T) (hr.mono (by first | decide | omega)) (by rfl) T.g_in_order T.F_in_order.kp T.b_in_order pass0 (a_cons (k_var 5) a_nil)))
    (s_cons (s_if (PW.pt (w_or (t_not (t_val (k_isi (k_var 6) (by rfl) T.z_isinstance (by rfl) T.z_list bt_list))) (w_or1 (t_cmp d_eq (o_ne hr.units) (k_callB d_len c_len (by rfl) T.z_len bt_len (a_cons (k_var 6) a_nil)) (k_callB d_len c_len (by rfl) T.z_len bt_len (a_cons (k_var 2) a_nil)) (nomark _)))))
      (s_one (s_ret k_bl))
      s_nil)
    (s_cons (s_setComp (i := 7) (own := [("_law_change_here", 11)]) (live := false) rfl sc_law.nd rfl rfl (sw_true rfl rfl rfl (by decide +kernel)) (pi_any (k_var 6)) (blkOk_by (own := [("_law_change_here", 11)]) (N := ["_law_script", "_law_draws_here", "_law_rows_here", "_law_k", "_law_changes", "_law_passed", "_law_actual", "_law_names", "_law_places", "_law_name", "_law_found", "_law_change_here", "_law_row"]) (sc := defScope s_law) (by decide +kernel)) (fun _ _ _ _ _ => (g_name (i := 11) sc_law.nd rfl (.inl rfl))) (fun _ _ _ _ _ => ts_nil) (fun _ _ _ _ _ => (k_meth0 (c := 0) (k_var 11) T.cl_Change T.m_Change_name (ok_Change_name T) (hr.mono (by first | decide | omega)) T.b_Change_name pass0)))
    (s_cons (s_set (i := 8) sc_law.nd rfl (.inl rfl) (k_lst (live := true) a_nil))
    (s_cons (s_for PassesOwn.never rfl (pi_any (k_var 7)) (g_name (i := 9) sc_law.nd rfl (.inr rfl))
      (s_cons (s_setComp (i := 10) (own := [("_law_k", 3)]) (live := false) rfl sc_law.nd rfl rfl (sw_true rfl rfl rfl (by decide +kernel)) (pi_rng1 (by rfl) T.z_range (a_cons (k_callB d_len c_len (by rfl) T.z_len bt_len (a_cons (k_var 2) a_nil)) a_nil)) (blkOk_by (own := [("_law_k", 3)]) (N := ["_law_script", "_law_draws_here", "_law_rows_here", "_law_k", "_law_changes", "_law_passed", "_law_actual", "_law_names", "_law_places", "_law_name", "_law_found", "_law_change_here", "_law_row"]) (sc := defScope s_law) (by decide +kernel)) (fun _ _ _ _ _ => (g_name (i := 3) sc_law.nd rfl (.inl rfl))) (fun _ _ _ _ _ => (ts_one (t_cmp d_eq (o_eq hr.units) (k_tup (a_cons (k_ix (k_ix (k_var 2) (k_var 3)) k_int) (a_cons (k_ix (k_ix (k_var 2) (k_var 3)) k_int) a_nil))) (k_var 9) (nomark _)))) (fun _ _ _ _ _ => (k_var 3)))
    (s_cons (s_if (PW.pt (w_or (t_cmp d_eq (o_ne hr.units) (k_callB d_len c_len (by rfl) T.z_len bt_len (a_cons (k_var 10) a_nil)) k_int (nomark _)) (w_or1 (t_cmp d_inG (o_inG (u65 hr)) (k_ix (k_var 10) k_int) (k_var 8) (by rfl)))))
      (s_one (s_ret k_bl))
      s_nil)
    (s_one (s_drop (k_bm d_app PySem.F.plainAttrs_list PySem.F.slot_list_append PySem.F.type_list_append mt_append (k_var 8) (a_cons (k_ix (k_var 10) k_int) a_nil)))))))
    (s_cons (s_for PassesOwn.never rfl (pi_rng1 (by rfl) T.z_range (a_cons (k_callB d_len c_len (by rfl) T.z_len bt_len (a_cons (k_var 8) a_nil)) a_nil)) (g_name (i := 3) sc_law.nd rfl (.inl rfl))
      (s_cons (s_if (t_not (t_val (k_call (ok_is_kept T) (hr.mono (by first | decide | omega)) (by rfl) T.g_is_kept T.F_is_kept.kp T.b_is_kept pass0 (a_cons (k_ix (k_var 6) (k_var 3)) (a_cons (k_ix (k_var 2) (k_ix (k_var 8) (k_var 3))) a_nil)))))
      (s_one (s_ret k_bl))
      s_nil)
    (s_one (s_if (PW.pt (w_and (t_cmp d_gt op_gt (k_var 3) k_int (nomark _)) (w_and1 (t_not (t_val (k_call (ok_comes_first T) (hr.mono (by first | decide | omega)) (by rfl) T.g_comes_first T.F_comes_first.kp T.b_comes_first pass0 (a_cons (k_ix (k_var 2) (k_ix (k_var 8) (k_op d_sub op_sub (k_var 3) k_int))) (a_cons (k_ix (k_var 2) (k_ix (k_var 8) (k_var 3))) a_nil))))))))
      (s_one (s_ret k_bl))
      s_nil))))
    (s_cons (s_drop (k_bm d_app PySem.F.plainAttrs_list PySem.F.slot_list_append PySem.F.type_list_append mt_append (k_var 6) (a_cons k_non a_nil)))
    (s_cons (s_if (t_cmp d_eq (o_ne hr.units) (k_comp (own := [("_law_change_here", 11)]) (live := false) rfl sc_law.nd (pi_any (k_var 5)) (blkOk_by (own := [("_law_change_here", 11)]) (N := ["_law_script", "_law_draws_here", "_law_rows_here", "_law_k", "_law_changes", "_law_passed", "_law_actual", "_law_names", "_law_places", "_law_name", "_law_found", "_law_change_here", "_law_row"]) (sc := defScope s_law) (by decide +kernel)) (fun _ _ _ _ _ => (g_name (i := 11) sc_law.nd rfl (.inl rfl))) (fun _ _ _ _ _ => ts_nil) (fun _ _ _ _ _ => (k_meth0 (c := 0) (k_var 11) T.cl_Change T.m_Change_name (ok_Change_name T) (hr.mono (by first | decide | omega)) T.b_Change_name pass0))) (k_comp (own := [("_law_row", 12)]) (live := false) rfl sc_law.nd (pi_any (k_var 2)) (blkOk_by (own := [("_law_row", 12)]) (N := ["_law_script", "_law_draws_here", "_law_rows_here", "_law_k", "_law_changes", "_law_passed", "_law_actual", "_law_names", "_law_places", "_law_name", "_law_found", "_law_change_here", "_law_row"]) (sc := defScope s_law) (by decide +kernel)) (fun _ _ _ _ _ => (g_name (i := 12) sc_law.nd rfl (.inl rfl))) (fun _ _ _ _ _ => ts_nil) (fun _ _ _ _ _ => (k_tup (a_cons (k_ix (k_var 12) k_int) (a_cons (k_ix (k_var 12) k_int) a_nil))))) (nomark _))
      (s_one (s_ret k_bl))
      s_nil)
    (s_cons (s_if (t_cmp d_eq (o_ne hr.units) (k_comp (own := [("_law_change_here", 11)]) (live := false) rfl sc_law.nd (pi_any (k_call (ok_in_order T) (hr.mono (by first | decide | omega)) (by rfl) T.g_in_order T.F_in_order.kp T.b_in_order pass0 (a_cons (k_var 5) a_nil))) (blkOk_by (own := [("_law_change_here", 11)]) (N := ["_law_script", "_law_draws_here", "_law_rows_here", "_law_k", "_law_changes", "_law_passed", "_law_actual", "_law_names", "_law_places", "_law_name", "_law_found", "_law_change_here", "_law_row"]) (sc := defScope s_law) (by decide +kernel)) (fun _ _ _ _ _ => (g_name (i := 11) sc_law.nd rfl (.inl rfl))) (fun _ _ _ _ _ => ts_nil) (fun _ _ _ _ _ => (k_meth0 (c := 0) (k_var 11) T.cl_Change T.m_Change_name (ok_Change_name T) (hr.mono (by first | decide | omega)) T.b_Change_name pass0))) (k_var 7) (nomark _))
      (s_one (s_ret k_bl))
      s_nil)
    (s_one (s_ret (k_call (ok_asks_past T) (hr.mono (by first | decide | omega)) (by rfl) T.g_asks_past T.F_asks_past.kp T.b_asks_past pass0 (a_cons (k_var 1) (a_cons (k_var 2) (a_cons (k_var 4) a_nil))))))))))))))))))))
end
theorem all_mk {l : PySem.W.OpenLaw} {w : World} {K : PySem.W.Frag} {h : Heap} {mg : Str → Option Value} {fa C_Change f_as_tuple f_Change_init f_Change_name f_Change_header f_Change_with_parts f_in_past f_order_key f_in_order f_mix f_draws f_at f_is_integer f_same f_rows f_change f_is_kept f_comes_first f_is_past f_asks_past f_law : Addr} (X : K.In h) (G : h.Ns mainGlobals mg) (hfa : mg "law" = some (.ref fa))
    {od_as_tuple an_as_tuple : Option Addr} {sl_as_tuple : Array (Option Value)} {oc_as_tuple kV_as_tuple dc_as_tuple pm_as_tuple cd_as_tuple ct_as_tuple : Value}
    {od_Change_init an_Change_init : Option Addr} {sl_Change_init : Array (Option Value)} {oc_Change_init kV_Change_init dc_Change_init pm_Change_init cd_Change_init ct_Change_init : Value}
    {od_Change_name an_Change_name : Option Addr} {sl_Change_name : Array (Option Value)} {oc_Change_name kV_Change_name dc_Change_name pm_Change_name cd_Change_name ct_Change_name : Value}
    {od_Change_header an_Change_header : Option Addr} {sl_Change_header : Array (Option Value)} {oc_Change_header kV_Change_header dc_Change_header pm_Change_header cd_Change_header ct_Change_header : Value}
    {od_Change_with_parts an_Change_with_parts : Option Addr} {sl_Change_with_parts : Array (Option Value)} {oc_Change_with_parts kV_Change_with_parts dc_Change_with_parts pm_Change_with_parts cd_Change_with_parts ct_Change_with_parts : Value}
    {od_in_past an_in_past : Option Addr} {sl_in_past : Array (Option Value)} {oc_in_past kV_in_past dc_in_past pm_in_past cd_in_past ct_in_past : Value}
    {od_order_key an_order_key : Option Addr} {sl_order_key : Array (Option Value)} {oc_order_key kV_order_key dc_order_key pm_order_key cd_order_key ct_order_key : Value}
    {od_in_order an_in_order : Option Addr} {sl_in_order : Array (Option Value)} {oc_in_order kV_in_order dc_in_order pm_in_order cd_in_order ct_in_order : Value}
    {od_mix an_mix : Option Addr} {sl_mix : Array (Option Value)} {oc_mix kV_mix dc_mix pm_mix cd_mix ct_mix : Value}
    {od_draws an_draws : Option Addr} {sl_draws : Array (Option Value)} {oc_draws kV_draws dc_draws pm_draws cd_draws ct_draws : Value}
    {od_at an_at : Option Addr} {sl_at : Array (Option Value)} {oc_at kV_at dc_at pm_at cd_at ct_at : Value}
    {od_is_integer an_is_integer : Option Addr} {sl_is_integer : Array (Option Value)} {oc_is_integer kV_is_integer dc_is_integer pm_is_integer cd_is_integer ct_is_integer : Value}
    {od_same an_same : Option Addr} {sl_same : Array (Option Value)} {oc_same kV_same dc_same pm_same cd_same ct_same : Value}
    {od_rows an_rows : Option Addr} {sl_rows : Array (Option Value)} {oc_rows kV_rows dc_rows pm_rows cd_rows ct_rows : Value}
    {od_change an_change : Option Addr} {sl_change : Array (Option Value)} {oc_change kV_change dc_change pm_change cd_change ct_change : Value}
    {od_is_kept an_is_kept : Option Addr} {sl_is_kept : Array (Option Value)} {oc_is_kept kV_is_kept dc_is_kept pm_is_kept cd_is_kept ct_is_kept : Value}
    {od_comes_first an_comes_first : Option Addr} {sl_comes_first : Array (Option Value)} {oc_comes_first kV_comes_first dc_comes_first pm_comes_first cd_comes_first ct_comes_first : Value}
    {od_is_past an_is_past : Option Addr} {sl_is_past : Array (Option Value)} {oc_is_past kV_is_past dc_is_past pm_is_past cd_is_past ct_is_past : Value}
    {od_asks_past an_asks_past : Option Addr} {sl_asks_past : Array (Option Value)} {oc_asks_past kV_asks_past dc_asks_past pm_asks_past cd_asks_past ct_asks_past : Value}
    {od_law an_law : Option Addr} {sl_law : Array (Option Value)} {oc_law kV_law dc_law pm_law cd_law ct_law : Value}
    (aC_Change : PySem.W.nsIn K mainGlobals "Change" = some (some (.ref C_Change)))
    (pg_Change : PySem.W.plainGet K C_Change Str.empty = true)
    (hd_Change : PySem.W.hasDictIn K C_Change = true)
    (po_Change : PySem.W.plainOver K C_Change = true)
    (sa_Change : PySem.W.findIn K (.ref C_Change) "__setattr__" = some (some (.builtin "object.__setattr__")))
    (mk_Change : PySem.W.makesIn K C_Change = true)
    (kc_Change : PySem.W.keepIn K (.ref C_Change) = true)
    (n_Change_author : PySem.W.findIn K (.ref C_Change) "author" = some none)
    (n_Change_capability : PySem.W.findIn K (.ref C_Change) "capability" = some none)
    (n_Change_heard : PySem.W.findIn K (.ref C_Change) "heard" = some none)
    (n_Change_number : PySem.W.findIn K (.ref C_Change) "number" = some none)
    (n_Change_parts : PySem.W.findIn K (.ref C_Change) "parts" = some none)
    (n_Change_publics : PySem.W.findIn K (.ref C_Change) "publics" = some none)
    (a_as_tuple : PySem.W.nsIn K mainGlobals "_as_tuple" = some (some (.ref f_as_tuple)))
    (l_as_tuple : K.lookup f_as_tuple = some ⟨oc_as_tuple, od_as_tuple, .func (PySem.W.fnOf "_as_tuple" "_as_tuple" (defArgs s_as_tuple) (defBody s_as_tuple) (defScope s_as_tuple) .none kV_as_tuple dc_as_tuple pm_as_tuple an_as_tuple cd_as_tuple ct_as_tuple), sl_as_tuple⟩)
    (c_as_tuple : PySem.W.codeIn K cd_as_tuple "_as_tuple" = true)
    (k_as_tuple : PySem.W.keepIn K (.ref f_as_tuple) = true)
    (a_Change_init : PySem.W.findIn K (.ref C_Change) "__init__" = some (some (.ref f_Change_init)))
    (i_Change_init : PySem.W.isFn K (.ref f_Change_init) = true)
    (l_Change_init : K.lookup f_Change_init = some ⟨oc_Change_init, od_Change_init, .func (PySem.W.fnOf "__init__" "Change.__init__" (defArgs s_Change_init) (defBody s_Change_init) (defScope s_Change_init) .none kV_Change_init dc_Change_init pm_Change_init an_Change_init cd_Change_init ct_Change_init), sl_Change_init⟩)
    (c_Change_init : PySem.W.codeIn K cd_Change_init "Change.__init__" = true)
    (k_Change_init : PySem.W.keepIn K (.ref f_Change_init) = true)
    (a_Change_name : PySem.W.findIn K (.ref C_Change) "name" = some (some (.ref f_Change_name)))
    (i_Change_name : PySem.W.isFn K (.ref f_Change_name) = true)
    (l_Change_name : K.lookup f_Change_name = some ⟨oc_Change_name, od_Change_name, .func (PySem.W.fnOf "name" "Change.name" (defArgs s_Change_name) (defBody s_Change_name) (defScope s_Change_name) .none kV_Change_name dc_Change_name pm_Change_name an_Change_name cd_Change_name ct_Change_name), sl_Change_name⟩)
    (c_Change_name : PySem.W.codeIn K cd_Change_name "Change.name" = true)
    (k_Change_name : PySem.W.keepIn K (.ref f_Change_name) = true)
    (a_Change_header : PySem.W.findIn K (.ref C_Change) "header" = some (some (.ref f_Change_header)))
    (i_Change_header : PySem.W.isFn K (.ref f_Change_header) = true)
    (l_Change_header : K.lookup f_Change_header = some ⟨oc_Change_header, od_Change_header, .func (PySem.W.fnOf "header" "Change.header" (defArgs s_Change_header) (defBody s_Change_header) (defScope s_Change_header) .none kV_Change_header dc_Change_header pm_Change_header an_Change_header cd_Change_header ct_Change_header), sl_Change_header⟩)
    (c_Change_header : PySem.W.codeIn K cd_Change_header "Change.header" = true)
    (k_Change_header : PySem.W.keepIn K (.ref f_Change_header) = true)
    (a_Change_with_parts : PySem.W.findIn K (.ref C_Change) "with_parts" = some (some (.ref f_Change_with_parts)))
    (i_Change_with_parts : PySem.W.isFn K (.ref f_Change_with_parts) = true)
    (l_Change_with_parts : K.lookup f_Change_with_parts = some ⟨oc_Change_with_parts, od_Change_with_parts, .func (PySem.W.fnOf "with_parts" "Change.with_parts" (defArgs s_Change_with_parts) (defBody s_Change_with_parts) (defScope s_Change_with_parts) .none kV_Change_with_parts dc_Change_with_parts pm_Change_with_parts an_Change_with_parts cd_Change_with_parts ct_Change_with_parts), sl_Change_with_parts⟩)
    (c_Change_with_parts : PySem.W.codeIn K cd_Change_with_parts "Change.with_parts" = true)
    (k_Change_with_parts : PySem.W.keepIn K (.ref f_Change_with_parts) = true)
    (a_in_past : PySem.W.nsIn K mainGlobals "in_past" = some (some (.ref f_in_past)))
    (l_in_past : K.lookup f_in_past = some ⟨oc_in_past, od_in_past, .func (PySem.W.fnOf "in_past" "in_past" (defArgs s_in_past) (defBody s_in_past) (defScope s_in_past) .none kV_in_past dc_in_past pm_in_past an_in_past cd_in_past ct_in_past), sl_in_past⟩)
    (c_in_past : PySem.W.codeIn K cd_in_past "in_past" = true)
    (k_in_past : PySem.W.keepIn K (.ref f_in_past) = true)
    (a_order_key : PySem.W.nsIn K mainGlobals "order_key" = some (some (.ref f_order_key)))
    (l_order_key : K.lookup f_order_key = some ⟨oc_order_key, od_order_key, .func (PySem.W.fnOf "order_key" "order_key" (defArgs s_order_key) (defBody s_order_key) (defScope s_order_key) .none kV_order_key dc_order_key pm_order_key an_order_key cd_order_key ct_order_key), sl_order_key⟩)
    (c_order_key : PySem.W.codeIn K cd_order_key "order_key" = true)
    (k_order_key : PySem.W.keepIn K (.ref f_order_key) = true)
    (a_in_order : PySem.W.nsIn K mainGlobals "in_order" = some (some (.ref f_in_order)))
    (l_in_order : K.lookup f_in_order = some ⟨oc_in_order, od_in_order, .func (PySem.W.fnOf "in_order" "in_order" (defArgs s_in_order) (defBody s_in_order) (defScope s_in_order) .none kV_in_order dc_in_order pm_in_order an_in_order cd_in_order ct_in_order), sl_in_order⟩)
    (c_in_order : PySem.W.codeIn K cd_in_order "in_order" = true)
    (k_in_order : PySem.W.keepIn K (.ref f_in_order) = true)
    (a_mix : PySem.W.nsIn K mainGlobals "_law_mix" = some (some (.ref f_mix)))
    (l_mix : K.lookup f_mix = some ⟨oc_mix, od_mix, .func (PySem.W.fnOf "_law_mix" "_law_mix" (defArgs s_mix) (defBody s_mix) (defScope s_mix) .none kV_mix dc_mix pm_mix an_mix cd_mix ct_mix), sl_mix⟩)
    (c_mix : PySem.W.codeIn K cd_mix "_law_mix" = true)
    (k_mix : PySem.W.keepIn K (.ref f_mix) = true)
    (a_draws : PySem.W.nsIn K mainGlobals "_law_draws" = some (some (.ref f_draws)))
    (l_draws : K.lookup f_draws = some ⟨oc_draws, od_draws, .func (PySem.W.fnOf "_law_draws" "_law_draws" (defArgs s_draws) (defBody s_draws) (defScope s_draws) .none kV_draws dc_draws pm_draws an_draws cd_draws ct_draws), sl_draws⟩)
    (c_draws : PySem.W.codeIn K cd_draws "_law_draws" = true)
    (k_draws : PySem.W.keepIn K (.ref f_draws) = true)
    (a_at : PySem.W.nsIn K mainGlobals "_law_at" = some (some (.ref f_at)))
    (l_at : K.lookup f_at = some ⟨oc_at, od_at, .func (PySem.W.fnOf "_law_at" "_law_at" (defArgs s_at) (defBody s_at) (defScope s_at) .none kV_at dc_at pm_at an_at cd_at ct_at), sl_at⟩)
    (c_at : PySem.W.codeIn K cd_at "_law_at" = true)
    (k_at : PySem.W.keepIn K (.ref f_at) = true)
    (a_is_integer : PySem.W.nsIn K mainGlobals "_law_is_integer" = some (some (.ref f_is_integer)))
    (l_is_integer : K.lookup f_is_integer = some ⟨oc_is_integer, od_is_integer, .func (PySem.W.fnOf "_law_is_integer" "_law_is_integer" (defArgs s_is_integer) (defBody s_is_integer) (defScope s_is_integer) .none kV_is_integer dc_is_integer pm_is_integer an_is_integer cd_is_integer ct_is_integer), sl_is_integer⟩)
    (c_is_integer : PySem.W.codeIn K cd_is_integer "_law_is_integer" = true)
    (k_is_integer : PySem.W.keepIn K (.ref f_is_integer) = true)
    (a_same : PySem.W.nsIn K mainGlobals "_law_same" = some (some (.ref f_same)))
    (l_same : K.lookup f_same = some ⟨oc_same, od_same, .func (PySem.W.fnOf "_law_same" "_law_same" (defArgs s_same) (defBody s_same) (defScope s_same) .none kV_same dc_same pm_same an_same cd_same ct_same), sl_same⟩)
    (c_same : PySem.W.codeIn K cd_same "_law_same" = true)
    (k_same : PySem.W.keepIn K (.ref f_same) = true)
    (a_rows : PySem.W.nsIn K mainGlobals "_law_rows" = some (some (.ref f_rows)))
    (l_rows : K.lookup f_rows = some ⟨oc_rows, od_rows, .func (PySem.W.fnOf "_law_rows" "_law_rows" (defArgs s_rows) (defBody s_rows) (defScope s_rows) .none kV_rows dc_rows pm_rows an_rows cd_rows ct_rows), sl_rows⟩)
    (c_rows : PySem.W.codeIn K cd_rows "_law_rows" = true)
    (k_rows : PySem.W.keepIn K (.ref f_rows) = true)
    (a_change : PySem.W.nsIn K mainGlobals "_law_change" = some (some (.ref f_change)))
    (l_change : K.lookup f_change = some ⟨oc_change, od_change, .func (PySem.W.fnOf "_law_change" "_law_change" (defArgs s_change) (defBody s_change) (defScope s_change) .none kV_change dc_change pm_change an_change cd_change ct_change), sl_change⟩)
    (c_change : PySem.W.codeIn K cd_change "_law_change" = true)
    (k_change : PySem.W.keepIn K (.ref f_change) = true)
    (a_is_kept : PySem.W.nsIn K mainGlobals "_law_is_kept" = some (some (.ref f_is_kept)))
    (l_is_kept : K.lookup f_is_kept = some ⟨oc_is_kept, od_is_kept, .func (PySem.W.fnOf "_law_is_kept" "_law_is_kept" (defArgs s_is_kept) (defBody s_is_kept) (defScope s_is_kept) .none kV_is_kept dc_is_kept pm_is_kept an_is_kept cd_is_kept ct_is_kept), sl_is_kept⟩)
    (c_is_kept : PySem.W.codeIn K cd_is_kept "_law_is_kept" = true)
    (k_is_kept : PySem.W.keepIn K (.ref f_is_kept) = true)
    (a_comes_first : PySem.W.nsIn K mainGlobals "_law_comes_first" = some (some (.ref f_comes_first)))
    (l_comes_first : K.lookup f_comes_first = some ⟨oc_comes_first, od_comes_first, .func (PySem.W.fnOf "_law_comes_first" "_law_comes_first" (defArgs s_comes_first) (defBody s_comes_first) (defScope s_comes_first) .none kV_comes_first dc_comes_first pm_comes_first an_comes_first cd_comes_first ct_comes_first), sl_comes_first⟩)
    (c_comes_first : PySem.W.codeIn K cd_comes_first "_law_comes_first" = true)
    (k_comes_first : PySem.W.keepIn K (.ref f_comes_first) = true)
    (a_is_past : PySem.W.nsIn K mainGlobals "_law_is_past" = some (some (.ref f_is_past)))
    (l_is_past : K.lookup f_is_past = some ⟨oc_is_past, od_is_past, .func (PySem.W.fnOf "_law_is_past" "_law_is_past" (defArgs s_is_past) (defBody s_is_past) (defScope s_is_past) .none kV_is_past dc_is_past pm_is_past an_is_past cd_is_past ct_is_past), sl_is_past⟩)
    (c_is_past : PySem.W.codeIn K cd_is_past "_law_is_past" = true)
    (k_is_past : PySem.W.keepIn K (.ref f_is_past) = true)
    (a_asks_past : PySem.W.nsIn K mainGlobals "_law_asks_past" = some (some (.ref f_asks_past)))
    (l_asks_past : K.lookup f_asks_past = some ⟨oc_asks_past, od_asks_past, .func (PySem.W.fnOf "_law_asks_past" "_law_asks_past" (defArgs s_asks_past) (defBody s_asks_past) (defScope s_asks_past) .none kV_asks_past dc_asks_past pm_asks_past an_asks_past cd_asks_past ct_asks_past), sl_asks_past⟩)
    (c_asks_past : PySem.W.codeIn K cd_asks_past "_law_asks_past" = true)
    (k_asks_past : PySem.W.keepIn K (.ref f_asks_past) = true)
    (a_law : PySem.W.nsIn K mainGlobals "law" = some (some (.ref f_law)))
    (l_law : K.lookup f_law = some ⟨oc_law, od_law, .func (PySem.W.fnOf "law" "law" (defArgs s_law) (defBody s_law) (defScope s_law) .none kV_law dc_law pm_law an_law cd_law ct_law), sl_law⟩)
    (c_law : PySem.W.codeIn K cd_law "law" = true)
    (k_law : PySem.W.keepIn K (.ref f_law) = true)
    (z_bool : PySem.W.nsIn K mainGlobals "bool" = some none)
    (z_int : PySem.W.nsIn K mainGlobals "int" = some none)
    (z_isinstance : PySem.W.nsIn K mainGlobals "isinstance" = some none)
    (z_len : PySem.W.nsIn K mainGlobals "len" = some none)
    (z_list : PySem.W.nsIn K mainGlobals "list" = some none)
    (z_max : PySem.W.nsIn K mainGlobals "max" = some none)
    (z_min : PySem.W.nsIn K mainGlobals "min" = some none)
    (z_range : PySem.W.nsIn K mainGlobals "range" = some none)
    (z_sorted : PySem.W.nsIn K mainGlobals "sorted" = some none)
    (z_str : PySem.W.nsIn K mainGlobals "str" = some none)
    (z_sum : PySem.W.nsIn K mainGlobals "sum" = some none)
    (z_tuple : PySem.W.nsIn K mainGlobals "tuple" = some none)
    : ∃ fd : FuncData, (∀ (s : Shared) (v : Value), BindsTo s fd ⟨[v], []⟩ [("_law_script", v)]) ∧ ∀ base : Heap, K.In base → base.Ns mainGlobals mg → FnOk l.prog w K mg base CX0 43 fa fd ["_law_script"] (spLaw K) := by
  have e := hfa.symm.trans (PySem.W.mg_of X G a_law)
  have e2 : fa = f_law := by cases e; rfl
  rw [e2]
  exact ⟨PySem.W.fnOf "law" "law" (defArgs s_law) (defBody s_law) (defScope s_law) .none kV_law dc_law pm_law an_law cd_law ct_law, fun s v => .of_eq rfl, fun base _ _ =>
    (ok_law { 
      c_Change := C_Change
      cl_Change := ⟨pg_Change, hd_Change, po_Change, sa_Change⟩
      g_Change := PySem.W.mg_of X G aC_Change
      n_Change_author := n_Change_author
      n_Change_capability := n_Change_capability
      n_Change_heard := n_Change_heard
      n_Change_number := n_Change_number
      n_Change_parts := n_Change_parts
      n_Change_publics := n_Change_publics
      a_as_tuple := f_as_tuple
      d_as_tuple := PySem.W.fnOf "_as_tuple" "_as_tuple" (defArgs s_as_tuple) (defBody s_as_tuple) (defScope s_as_tuple) .none kV_as_tuple dc_as_tuple pm_as_tuple an_as_tuple cd_as_tuple ct_as_tuple
      F_as_tuple := fun_mk (st := s_as_tuple) l_as_tuple c_as_tuple k_as_tuple
      b_as_tuple := (fun_mk (st := s_as_tuple) l_as_tuple c_as_tuple k_as_tuple).binds (ps := ["part"]) fun _ _ _ _ _ _ us hl => match us, hl with | [_], _ => rfl
      g_as_tuple := PySem.W.mg_of X G a_as_tuple
      a_Change_init := f_Change_init
      d_Change_init := PySem.W.fnOf "__init__" "Change.__init__" (defArgs s_Change_init) (defBody s_Change_init) (defScope s_Change_init) .none kV_Change_init dc_Change_init pm_Change_init an_Change_init cd_Change_init ct_Change_init
      F_Change_init := fun_mk (st := s_Change_init) l_Change_init c_Change_init k_Change_init
      b_Change_init := (fun_mk (st := s_Change_init) l_Change_init c_Change_init k_Change_init).binds (ps := ["self", "author", "number", "heard", "capability", "publics", "parts"]) fun _ _ _ _ _ _ us hl => match us, hl with | [_, _, _, _, _, _, _], _ => rfl
      M_Change := ⟨mk_Change, a_Change_init, i_Change_init, kc_Change⟩
      a_Change_name := f_Change_name
      d_Change_name := PySem.W.fnOf "name" "Change.name" (defArgs s_Change_name) (defBody s_Change_name) (defScope s_Change_name) .none kV_Change_name dc_Change_name pm_Change_name an_Change_name cd_Change_name ct_Change_name
      F_Change_name := fun_mk (st := s_Change_name) l_Change_name c_Change_name k_Change_name
      b_Change_name := (fun_mk (st := s_Change_name) l_Change_name c_Change_name k_Change_name).binds (ps := ["self"]) fun _ _ _ _ _ _ us hl => match us, hl with | [_], _ => rfl
      m_Change_name := ⟨a_Change_name, i_Change_name, k_Change_name⟩
      a_Change_header := f_Change_header
      d_Change_header := PySem.W.fnOf "header" "Change.header" (defArgs s_Change_header) (defBody s_Change_header) (defScope s_Change_header) .none kV_Change_header dc_Change_header pm_Change_header an_Change_header cd_Change_header ct_Change_header
      F_Change_header := fun_mk (st := s_Change_header) l_Change_header c_Change_header k_Change_header
      b_Change_header := (fun_mk (st := s_Change_header) l_Change_header c_Change_header k_Change_header).binds (ps := ["self"]) fun _ _ _ _ _ _ us hl => match us, hl with | [_], _ => rfl
      m_Change_header := ⟨a_Change_header, i_Change_header, k_Change_header⟩
      a_Change_with_parts := f_Change_with_parts
      d_Change_with_parts := PySem.W.fnOf "with_parts" "Change.with_parts" (defArgs s_Change_with_parts) (defBody s_Change_with_parts) (defScope s_Change_with_parts) .none kV_Change_with_parts dc_Change_with_parts pm_Change_with_parts an_Change_with_parts cd_Change_with_parts ct_Change_with_parts
      F_Change_with_parts := fun_mk (st := s_Change_with_parts) l_Change_with_parts c_Change_with_parts k_Change_with_parts
      b_Change_with_parts := (fun_mk (st := s_Change_with_parts) l_Change_with_parts c_Change_with_parts k_Change_with_parts).binds (ps := ["self", "parts"]) fun _ _ _ _ _ _ us hl => match us, hl with | [_, _], _ => rfl
      m_Change_with_parts := ⟨a_Change_with_parts, i_Change_with_parts, k_Change_with_parts⟩
      a_in_past := f_in_past
      d_in_past := PySem.W.fnOf "in_past" "in_past" (defArgs s_in_past) (defBody s_in_past) (defScope s_in_past) .none kV_in_past dc_in_past pm_in_past an_in_past cd_in_past ct_in_past
      F_in_past := fun_mk (st := s_in_past) l_in_past c_in_past k_in_past
      b_in_past := (fun_mk (st := s_in_past) l_in_past c_in_past k_in_past).binds (ps := ["name", "change"]) fun _ _ _ _ _ _ us hl => match us, hl with | [_, _], _ => rfl
      g_in_past := PySem.W.mg_of X G a_in_past
      a_order_key := f_order_key
      d_order_key := PySem.W.fnOf "order_key" "order_key" (defArgs s_order_key) (defBody s_order_key) (defScope s_order_key) .none kV_order_key dc_order_key pm_order_key an_order_key cd_order_key ct_order_key
      F_order_key := fun_mk (st := s_order_key) l_order_key c_order_key k_order_key
      b_order_key := (fun_mk (st := s_order_key) l_order_key c_order_key k_order_key).binds (ps := ["change"]) fun _ _ _ _ _ _ us hl => match us, hl with | [_], _ => rfl
      g_order_key := PySem.W.mg_of X G a_order_key
      a_in_order := f_in_order
      d_in_order := PySem.W.fnOf "in_order" "in_order" (defArgs s_in_order) (defBody s_in_order) (defScope s_in_order) .none kV_in_order dc_in_order pm_in_order an_in_order cd_in_order ct_in_order
      F_in_order := fun_mk (st := s_in_order) l_in_order c_in_order k_in_order
      b_in_order := (fun_mk (st := s_in_order) l_in_order c_in_order k_in_order).binds (ps := ["changes"]) fun _ _ _ _ _ _ us hl => match us, hl with | [_], _ => rfl
      g_in_order := PySem.W.mg_of X G a_in_order
      a_mix := f_mix
      d_mix := PySem.W.fnOf "_law_mix" "_law_mix" (defArgs s_mix) (defBody s_mix) (defScope s_mix) .none kV_mix dc_mix pm_mix an_mix cd_mix ct_mix
      F_mix := fun_mk (st := s_mix) l_mix c_mix k_mix
      b_mix := (fun_mk (st := s_mix) l_mix c_mix k_mix).binds (ps := ["_law_cell", "_law_k"]) fun _ _ _ _ _ _ us hl => match us, hl with | [_, _], _ => rfl
      g_mix := PySem.W.mg_of X G a_mix
      a_draws := f_draws
      d_draws := PySem.W.fnOf "_law_draws" "_law_draws" (defArgs s_draws) (defBody s_draws) (defScope s_draws) .none kV_draws dc_draws pm_draws an_draws cd_draws ct_draws
      F_draws := fun_mk (st := s_draws) l_draws c_draws k_draws
      b_draws := (fun_mk (st := s_draws) l_draws c_draws k_draws).binds (ps := ["_law_script"]) fun _ _ _ _ _ _ us hl => match us, hl with | [_], _ => rfl
      g_draws := PySem.W.mg_of X G a_draws
      a_at := f_at
      d_at := PySem.W.fnOf "_law_at" "_law_at" (defArgs s_at) (defBody s_at) (defScope s_at) .none kV_at dc_at pm_at an_at cd_at ct_at
      F_at := fun_mk (st := s_at) l_at c_at k_at
      b_at := (fun_mk (st := s_at) l_at c_at k_at).binds (ps := ["_law_draws_here", "_law_index"]) fun _ _ _ _ _ _ us hl => match us, hl with | [_, _], _ => rfl
      g_at := PySem.W.mg_of X G a_at
      a_is_integer := f_is_integer
      d_is_integer := PySem.W.fnOf "_law_is_integer" "_law_is_integer" (defArgs s_is_integer) (defBody s_is_integer) (defScope s_is_integer) .none kV_is_integer dc_is_integer pm_is_integer an_is_integer cd_is_integer ct_is_integer
      F_is_integer := fun_mk (st := s_is_integer) l_is_integer c_is_integer k_is_integer
      b_is_integer := (fun_mk (st := s_is_integer) l_is_integer c_is_integer k_is_integer).binds (ps := ["_law_actual"]) fun _ _ _ _ _ _ us hl => match us, hl with | [_], _ => rfl
      g_is_integer := PySem.W.mg_of X G a_is_integer
      a_same := f_same
      d_same := PySem.W.fnOf "_law_same" "_law_same" (defArgs s_same) (defBody s_same) (defScope s_same) .none kV_same dc_same pm_same an_same cd_same ct_same
      F_same := fun_mk (st := s_same) l_same c_same k_same
      b_same := (fun_mk (st := s_same) l_same c_same k_same).binds (ps := ["_law_actual", "_law_expected"]) fun _ _ _ _ _ _ us hl => match us, hl with | [_, _], _ => rfl
      g_same := PySem.W.mg_of X G a_same
      a_rows := f_rows
      d_rows := PySem.W.fnOf "_law_rows" "_law_rows" (defArgs s_rows) (defBody s_rows) (defScope s_rows) .none kV_rows dc_rows pm_rows an_rows cd_rows ct_rows
      F_rows := fun_mk (st := s_rows) l_rows c_rows k_rows
      b_rows := (fun_mk (st := s_rows) l_rows c_rows k_rows).binds (ps := ["_law_draws_here"]) fun _ _ _ _ _ _ us hl => match us, hl with | [_], _ => rfl
      g_rows := PySem.W.mg_of X G a_rows
      a_change := f_change
      d_change := PySem.W.fnOf "_law_change" "_law_change" (defArgs s_change) (defBody s_change) (defScope s_change) .none kV_change dc_change pm_change an_change cd_change ct_change
      F_change := fun_mk (st := s_change) l_change c_change k_change
      b_change := (fun_mk (st := s_change) l_change c_change k_change).binds (ps := ["_law_row", "_law_as_lists"]) fun _ _ _ _ _ _ us hl => match us, hl with | [_, _], _ => rfl
      g_change := PySem.W.mg_of X G a_change
      a_is_kept := f_is_kept
      d_is_kept := PySem.W.fnOf "_law_is_kept" "_law_is_kept" (defArgs s_is_kept) (defBody s_is_kept) (defScope s_is_kept) .none kV_is_kept dc_is_kept pm_is_kept an_is_kept cd_is_kept ct_is_kept
      F_is_kept := fun_mk (st := s_is_kept) l_is_kept c_is_kept k_is_kept
      b_is_kept := (fun_mk (st := s_is_kept) l_is_kept c_is_kept k_is_kept).binds (ps := ["_law_change_here", "_law_row"]) fun _ _ _ _ _ _ us hl => match us, hl with | [_, _], _ => rfl
      g_is_kept := PySem.W.mg_of X G a_is_kept
      a_comes_first := f_comes_first
      d_comes_first := PySem.W.fnOf "_law_comes_first" "_law_comes_first" (defArgs s_comes_first) (defBody s_comes_first) (defScope s_comes_first) .none kV_comes_first dc_comes_first pm_comes_first an_comes_first cd_comes_first ct_comes_first
      F_comes_first := fun_mk (st := s_comes_first) l_comes_first c_comes_first k_comes_first
      b_comes_first := (fun_mk (st := s_comes_first) l_comes_first c_comes_first k_comes_first).binds (ps := ["_law_row", "_law_other"]) fun _ _ _ _ _ _ us hl => match us, hl with | [_, _], _ => rfl
      g_comes_first := PySem.W.mg_of X G a_comes_first
      a_is_past := f_is_past
      d_is_past := PySem.W.fnOf "_law_is_past" "_law_is_past" (defArgs s_is_past) (defBody s_is_past) (defScope s_is_past) .none kV_is_past dc_is_past pm_is_past an_is_past cd_is_past ct_is_past
      F_is_past := fun_mk (st := s_is_past) l_is_past c_is_past k_is_past
      b_is_past := (fun_mk (st := s_is_past) l_is_past c_is_past k_is_past).binds (ps := ["_law_name", "_law_row"]) fun _ _ _ _ _ _ us hl => match us, hl with | [_, _], _ => rfl
      g_is_past := PySem.W.mg_of X G a_is_past
      a_asks_past := f_asks_past
      d_asks_past := PySem.W.fnOf "_law_asks_past" "_law_asks_past" (defArgs s_asks_past) (defBody s_asks_past) (defScope s_asks_past) .none kV_asks_past dc_asks_past pm_asks_past an_asks_past cd_asks_past ct_asks_past
      F_asks_past := fun_mk (st := s_asks_past) l_asks_past c_asks_past k_asks_past
      b_asks_past := (fun_mk (st := s_asks_past) l_asks_past c_asks_past k_asks_past).binds (ps := ["_law_draws_here", "_law_rows_here", "_law_changes"]) fun _ _ _ _ _ _ us hl => match us, hl with | [_, _, _], _ => rfl
      g_asks_past := PySem.W.mg_of X G a_asks_past
      a_law := f_law
      d_law := PySem.W.fnOf "law" "law" (defArgs s_law) (defBody s_law) (defScope s_law) .none kV_law dc_law pm_law an_law cd_law ct_law
      F_law := fun_mk (st := s_law) l_law c_law k_law
      b_law := (fun_mk (st := s_law) l_law c_law k_law).binds (ps := ["_law_script"]) fun _ _ _ _ _ _ us hl => match us, hl with | [_], _ => rfl
      g_law := PySem.W.mg_of X G a_law
      z_bool := PySem.W.mg_none_of X G z_bool
      z_int := PySem.W.mg_none_of X G z_int
      z_isinstance := PySem.W.mg_none_of X G z_isinstance
      z_len := PySem.W.mg_none_of X G z_len
      z_list := PySem.W.mg_none_of X G z_list
      z_max := PySem.W.mg_none_of X G z_max
      z_min := PySem.W.mg_none_of X G z_min
      z_range := PySem.W.mg_none_of X G z_range
      z_sorted := PySem.W.mg_none_of X G z_sorted
      z_str := PySem.W.mg_none_of X G z_str
      z_sum := PySem.W.mg_none_of X G z_sum
      z_tuple := PySem.W.mg_none_of X G z_tuple }).imp (fun vs H Q E q => law_sp q)⟩
end Kb
open PySem PySem.W PyProof.Rows
set_option maxRecDepth 100000 in
set_option maxHeartbeats 0 in
theorem PySem.Challenge.cw_kithbase_k02_order_of_changes_holds : PySem.Challenge.rw_kithbase_k02_order_of_changes.Holds := by
  w_on; o_law; k_head; (case hw => w_witness2)
  k_fill
  refine L2.walk_of (l := PySem.Challenge.rw_kithbase_k02_order_of_changes) (n := 63) (k := 43) (x := "_law_script") (CX := fun _ => L2.CX0) (sp := fun w => Kb.spLaw _) rfl (by decide) rfl ⟨rfl, by decide, by decide⟩ (fun w h Y => PySem.W.kIn_of Y) ?F (fun _ _ a ns hl _ hS => ⟨a, ns, rfl, hS, hl, fun _ => rfl⟩) (fun _ _ _ _ _ h => h)
  case F =>
    intro w mg fa h KX G hmg
    refine' Kb.all_mk KX G hmg ?aC_Change ?pg_Change ?hd_Change ?po_Change ?sa_Change ?mk_Change ?kc_Change ?n_Change_author ?n_Change_capability ?n_Change_heard ?n_Change_number ?n_Change_parts ?n_Change_publics ?a_as_tuple ?l_as_tuple ?c_as_tuple ?k_as_tuple ?a_Change_init ?i_Change_init ?l_Change_init ?c_Change_init ?k_Change_init ?a_Change_name ?i_Change_name ?l_Change_name ?c_Change_name ?k_Change_name ?a_Change_header ?i_Change_header ?l_Change_header ?c_Change_header ?k_Change_header ?a_Change_with_parts ?i_Change_with_parts ?l_Change_with_parts ?c_Change_with_parts ?k_Change_with_parts ?a_in_past ?l_in_past ?c_in_past ?k_in_past ?a_order_key ?l_order_key ?c_order_key ?k_order_key ?a_in_order ?l_in_order ?c_in_order ?k_in_order ?a_mix ?l_mix ?c_mix ?k_mix ?a_draws ?l_draws ?c_draws ?k_draws ?a_at ?l_at ?c_at ?k_at ?a_is_integer ?l_is_integer ?c_is_integer ?k_is_integer ?a_same ?l_same ?c_same ?k_same ?a_rows ?l_rows ?c_rows ?k_rows ?a_change ?l_change ?c_change ?k_change ?a_is_kept ?l_is_kept ?c_is_kept ?k_is_kept ?a_comes_first ?l_comes_first ?c_comes_first ?k_comes_first ?a_is_past ?l_is_past ?c_is_past ?k_is_past ?a_asks_past ?l_asks_past ?c_asks_past ?k_asks_past ?a_law ?l_law ?c_law ?k_law ?z_bool ?z_int ?z_isinstance ?z_len ?z_list ?z_max ?z_min ?z_range ?z_sorted ?z_str ?z_sum ?z_tuple
    (case aC_Change => k_is)
    (case pg_Change => k_is)
    (case hd_Change => k_is)
    (case po_Change => k_is)
    (case sa_Change => k_is)
    (case mk_Change => k_is)
    (case kc_Change => k_is)
    (case n_Change_author => k_is)
    (case n_Change_capability => k_is)
    (case n_Change_heard => k_is)
    (case n_Change_number => k_is)
    (case n_Change_parts => k_is)
    (case n_Change_publics => k_is)
    (case a_as_tuple => k_is)
    (case l_as_tuple => k_is)
    (case c_as_tuple => k_is)
    (case k_as_tuple => k_is)
    (case a_Change_init => k_is)
    (case i_Change_init => k_is)
    (case l_Change_init => k_is)
    (case c_Change_init => k_is)
    (case k_Change_init => k_is)
    (case a_Change_name => k_is)
    (case i_Change_name => k_is)
    (case l_Change_name => k_is)
    (case c_Change_name => k_is)
    (case k_Change_name => k_is)
    (case a_Change_header => k_is)
    (case i_Change_header => k_is)
    (case l_Change_header => k_is)
    (case c_Change_header => k_is)
    (case k_Change_header => k_is)
    (case a_Change_with_parts => k_is)
    (case i_Change_with_parts => k_is)
    (case l_Change_with_parts => k_is)
    (case c_Change_with_parts => k_is)
    (case k_Change_with_parts => k_is)
    (case a_in_past => k_is)
    (case l_in_past => k_is)
    (case c_in_past => k_is)
    (case k_in_past => k_is)
    (case a_order_key => k_is)
    (case l_order_key => k_is)
    (case c_order_key => k_is)
    (case k_order_key => k_is)
    (case a_in_order => k_is)
    (case l_in_order => k_is)
    (case c_in_order => k_is)
    (case k_in_order => k_is)
    (case a_mix => k_is)
    (case l_mix => k_is)
    (case c_mix => k_is)
    (case k_mix => k_is)
    (case a_draws => k_is)
    (case l_draws => k_is)
    (case c_draws => k_is)
    (case k_draws => k_is)
    (case a_at => k_is)
    (case l_at => k_is)
    (case c_at => k_is)
    (case k_at => k_is)
    (case a_is_integer => k_is)
    (case l_is_integer => k_is)
    (case c_is_integer => k_is)
    (case k_is_integer => k_is)
    (case a_same => k_is)
    (case l_same => k_is)
    (case c_same => k_is)
    (case k_same => k_is)
    (case a_rows => k_is)
    (case l_rows => k_is)
    (case c_rows => k_is)
    (case k_rows => k_is)
    (case a_change => k_is)
    (case l_change => k_is)
    (case c_change => k_is)
    (case k_change => k_is)
    (case a_is_kept => k_is)
    (case l_is_kept => k_is)
    (case c_is_kept => k_is)
    (case k_is_kept => k_is)
    (case a_comes_first => k_is)
    (case l_comes_first => k_is)
    (case c_comes_first => k_is)
    (case k_comes_first => k_is)
    (case a_is_past => k_is)
    (case l_is_past => k_is)
    (case c_is_past => k_is)
    (case k_is_past => k_is)
    (case a_asks_past => k_is)
    (case l_asks_past => k_is)
    (case c_asks_past => k_is)
    (case k_asks_past => k_is)
    (case a_law => k_is)
    (case l_law => k_is)
    (case c_law => k_is)
    (case k_law => k_is)
    (case z_bool => k_is)
    (case z_int => k_is)
    (case z_isinstance => k_is)
    (case z_len => k_is)
    (case z_list => k_is)
    (case z_max => k_is)
    (case z_min => k_is)
    (case z_range => k_is)
    (case z_sorted => k_is)
    (case z_str => k_is)
    (case z_sum => k_is)
    (case z_tuple => k_is)

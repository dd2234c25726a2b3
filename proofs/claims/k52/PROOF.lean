import PyProof.Rows.All
import Wide.All
import OpenK.AllK
import Wide.FinOn
import HandS.ForMost
import HandS.IsInst
import HandS.Wide
import HandS.TupAny
import HandS.Flow
import HandS.Text
import HandS.Codes
import KE.KTupSum
import KE.SortKeyHeap
import HandS.SortKw
import HandS.Keys
import HandS.Strs
import HandS.ExcOwn
import HandS.TryOnly
import HandS.WordsExc
import PySem.Challenge.RW_kithbase_k52_records_read_back
set_option Elab.async false
set_option linter.all false
set_option maxRecDepth 100000
set_option maxHeartbeats 4000000
/-! values without a heap, over HandS -/
namespace Pv
open PySem PySem.Spec PyProof.Rows L2

/-- data, by value -/
inductive P where
  | non | bl (b : Bool) | int (i : Int) | str (x : Str)
  | tup (ps : List P) | lst (ps : List P)
  | dK (kvs : List (Key × P)) | dT (kvs : List (List Key × P))
  | ins (c : Nat) (fs : List (Str × P))
/-- a value of a name: data, or the place of an object that may change -/
inductive D where
  | p (x : P) | ref (n : Nat)
/-- an object that may change -/
inductive Ob where
  | lst (ds : List D) | dK (kvs : List (Key × D)) | dT (kvs : List (List Key × D)) | ins (c : Nat) (fs : List (Str × D))
/-- all objects that may change; those from b on were made by the def that runs -/
structure SH where
  b : Nat
  os : List Ob
abbrev SH.len (S : SH) : Nat := S.os.length
abbrev En := List (Option D)
def D.lt (k : Nat) : D → Prop | .p _ => True | .ref n => n < k
def Ob.ds : Ob → List D | .lst ds => ds | .dK kvs => kvs.map (·.2) | .dT kvs => kvs.map (·.2) | .ins _ fs => fs.map (·.2)
def Ob.lt (k : Nat) (o : Ob) : Prop := ∀ d ∈ o.ds, d.lt k
theorem D.lt.mono {j k : Nat} {d : D} (h : d.lt j) (l : j ≤ k) : d.lt k := by
  cases d with
  | p x => trivial
  | ref n => exact Nat.lt_of_lt_of_le h l

section
variable (K : PySem.W.Frag) (cl : Nat → Addr)
mutual
inductive Rp (F : Hp) : P → V → Prop
  | non : Rp F .non .non
  | bl (b : Bool) : Rp F (.bl b) (.bl b)
  | int (i : Int) : Rp F (.int i) (.int i)
  | str (x : Str) : Rp F (.str x) (.str x)
  | tup {a : Addr} {ps : List P} {vs : List V} : SqT K F a vs → RpA F ps vs → Rp F (.tup ps) (.ref a)
  | lst {a : Addr} {ps : List P} {vs : List V} : SqL K F a vs → RpA F ps vs → Rp F (.lst ps) (.ref a)
  | dK {a : Addr} {kvs : List (Key × P)} {vs : List (Key × V)} : F a = some (.dK vs) → RpK F kvs vs → Rp F (.dK kvs) (.ref a)
  | dT {a : Addr} {kvs : List (List Key × P)} {vs : List (List Key × V)} : F a = some (.dT vs) → RpT F kvs vs → Rp F (.dT kvs) (.ref a)
  | ins {a dx : Addr} {c : Nat} {fs : List (Str × P)} {gs : List (Str × V)} : F a = some (.ins (cl c) dx gs) → RpF F fs gs → Rp F (.ins c fs) (.ref a)
inductive RpA (F : Hp) : List P → List V → Prop
  | nil : RpA F [] []
  | cons {x : P} {xs : List P} {v : V} {vs : List V} : Rp F x v → RpA F xs vs → RpA F (x :: xs) (v :: vs)
inductive RpK (F : Hp) : List (Key × P) → List (Key × V) → Prop
  | nil : RpK F [] []
  | cons {k : Key} {x : P} {xs : List (Key × P)} {v : V} {vs : List (Key × V)} : Rp F x v → RpK F xs vs → RpK F ((k, x) :: xs) ((k, v) :: vs)
inductive RpT (F : Hp) : List (List Key × P) → List (List Key × V) → Prop
  | nil : RpT F [] []
  | cons {k : List Key} {x : P} {xs : List (List Key × P)} {v : V} {vs : List (List Key × V)} : Rp F x v → RpT F xs vs → RpT F ((k, x) :: xs) ((k, v) :: vs)
inductive RpF (F : Hp) : List (Str × P) → List (Str × V) → Prop
  | nil : RpF F [] []
  | cons {k : Str} {x : P} {xs : List (Str × P)} {v : V} {vs : List (Str × V)} : Rp F x v → RpF F xs vs → RpF F ((k, x) :: xs) ((k, v) :: vs)
end
/-- a value of a name -/
def DR (F : Hp) (φ : Nat → Addr) : D → V → Prop
  | .p x, v => Rp K cl F x v
  | .ref n, v => v = .ref (φ n)
abbrev DRA (F : Hp) (φ : Nat → Addr) : List D → List V → Prop := Paired (DR K cl F φ)
abbrev DRK {κ : Type} (F : Hp) (φ : Nat → Addr) : List (κ × D) → List (κ × V) → Prop := Paired fun p q => p.1 = q.1 ∧ DR K cl F φ p.2 q.2
def OR (F : Hp) (φ : Nat → Addr) (x : Option HO) : Ob → Prop
  | .lst ds => ∃ vs, x = some (.lst vs) ∧ DRA K cl F φ ds vs
  | .dK kvs => ∃ vs, x = some (.dK vs) ∧ DRK K cl F φ kvs vs
  | .dT kvs => ∃ vs, x = some (.dT vs) ∧ DRK K cl F φ kvs vs
  | .ins c fs => ∃ dx gs, x = some (.ins (cl c) dx gs) ∧ DRK K cl F φ fs gs
/-- the objects by place, the data, and the heap -/
structure Sim (S : SH) (B : List Nat) (F : Hp) (φ : Nat → Addr) (H : Hp) : Prop where
  le : Same F H
  ob : ∀ (n : Nat) (o : Ob), S.os[n]? = some o → F (φ n) = none ∧ OR K cl F φ (H (φ n)) o
  inj : ∀ n m, n < S.len → m < S.len → φ n = φ m → n = m
  wf : ∀ (n : Nat) (o : Ob), S.os[n]? = some o → o.lt S.len
  bs : ∀ b ∈ B, b ≤ S.b ∧ ∀ (n : Nat) (o : Ob), S.os[n]? = some o → n < b → o.lt b
  bl : S.b ≤ S.len
/-- what a step may have done -/
structure Ext (S : SH) (F : Hp) (φ : Nat → Addr) (H : Hp) (S' : SH) (F' : Hp) (φ' : Nat → Addr) (H' : Hp) : Prop where
  fz : Same F F'
  len : S.len ≤ S'.len
  b : S'.b = S.b
  phi : ∀ n, n < S.len → φ' n = φ n
  new : ∀ n, S.len ≤ n → n < S'.len → H (φ' n) = none
  keep : ∀ a o, H a = some o → (∀ n, n < S.len → φ n ≠ a) → H' a = some o
  tr : ∀ n, n < S.len → H' (φ n) ≠ none
  fr : ∀ a o, H a = some o → F a = none → (∀ n, n < S.len → φ n ≠ a) → F' a = none
/-- the names -/
def RS (F : Hp) (φ : Nat → Addr) (k : Nat) (σd : En) (σ : L2.St) : Prop :=
  σd.length = σ.length ∧ ∀ (i : Nat) (d : D), σd[i]? = some (some d) → d.lt k ∧ ∃ v : V, σ[i]? = some (some v) ∧ DR K cl F φ d v
end

section
variable {K : PySem.W.Frag} {cl : Nat → Addr} {S S' S1 S2 : SH} {B : List Nat} {F F' F1 F2 H H' H1 H2 : Hp} {φ φ' φ1 φ2 : Nat → Addr}
theorem SqL.mono (h : Same F F') {a : Addr} {xs : List V} (q : SqL K F a xs) : SqL K F' a xs := h.seq q
theorem SqT.mono (e : Same F F') {a : Addr} {xs : List V} (h : SqT K F a xs) : SqT K F' a xs := by
  rcases h with (h | ⟨o, h⟩) | h
  · exact .inl (.inl (e _ _ h))
  · exact .inl (.inr ⟨o, e _ _ h⟩)
  · exact .inr h
mutual
theorem Rp.mono (h : Same F F') {x : P} {v : V} : Rp K cl F x v → Rp K cl F' x v
  | .non => .non
  | .bl b => .bl b
  | .int i => .int i
  | .str x => .str x
  | .tup q r => .tup (SqT.mono h q) (RpA.mono h r)
  | .lst q r => .lst (SqL.mono h q) (RpA.mono h r)
  | .dK q r => .dK (h _ _ q) (RpK.mono h r)
  | .dT q r => .dT (h _ _ q) (RpT.mono h r)
  | .ins q r => .ins (h _ _ q) (RpF.mono h r)
theorem RpA.mono (h : Same F F') {x : List P} {v : List V} : RpA K cl F x v → RpA K cl F' x v
  | .nil => .nil
  | .cons a b => .cons (Rp.mono h a) (RpA.mono h b)
theorem RpK.mono (h : Same F F') {x : List (Key × P)} {v : List (Key × V)} : RpK K cl F x v → RpK K cl F' x v
  | .nil => .nil
  | .cons a b => .cons (Rp.mono h a) (RpK.mono h b)
theorem RpT.mono (h : Same F F') {x : List (List Key × P)} {v : List (List Key × V)} : RpT K cl F x v → RpT K cl F' x v
  | .nil => .nil
  | .cons a b => .cons (Rp.mono h a) (RpT.mono h b)
theorem RpF.mono (h : Same F F') {x : List (Str × P)} {v : List (Str × V)} : RpF K cl F x v → RpF K cl F' x v
  | .nil => .nil
  | .cons a b => .cons (Rp.mono h a) (RpF.mono h b)
end
theorem DR.mono (h : Same F F') {k : Nat} (p : ∀ n, n < k → φ' n = φ n) {d : D} {v : V} (l : d.lt k) (r : DR K cl F φ d v) : DR K cl F' φ' d v := by
  cases d with
  | p x => exact Rp.mono h r
  | ref n => exact r.trans (congrArg V.ref (p n l).symm)
theorem DRA.mono (h : Same F F') {k : Nat} (p : ∀ n, n < k → φ' n = φ n) : ∀ {ds : List D} {vs : List V}, (∀ d ∈ ds, d.lt k) → DRA K cl F φ ds vs → DRA K cl F' φ' ds vs
  | _, _, _, .nil => .nil
  | _, _, l, .cons a b => .cons (DR.mono h p (l _ List.mem_cons_self) a) (DRA.mono h p (fun d q => l d (List.mem_cons_of_mem _ q)) b)
theorem DRK.mono {κ : Type} (h : Same F F') {k : Nat} (p : ∀ n, n < k → φ' n = φ n) : ∀ {ds : List (κ × D)} {vs : List (κ × V)}, (∀ d ∈ ds.map (·.2), d.lt k) → DRK K cl F φ ds vs → DRK K cl F' φ' ds vs
  | _, _, _, .nil => .nil
  | _, _, l, .cons a b => .cons ⟨a.1, DR.mono h p (l _ List.mem_cons_self) a.2⟩ (DRK.mono h p (fun d q => l d (List.mem_cons_of_mem _ q)) b)
theorem OR.mono (h : Same F F') {k : Nat} (p : ∀ n, n < k → φ' n = φ n) {x : Option HO} {o : Ob} (l : o.lt k) (r : OR K cl F φ x o) : OR K cl F' φ' x o := by
  cases o with
  | lst ds => obtain ⟨vs, e, r⟩ := r; exact ⟨vs, e, DRA.mono h p l r⟩
  | dK ds => obtain ⟨vs, e, r⟩ := r; exact ⟨vs, e, DRK.mono h p l r⟩
  | dT ds => obtain ⟨vs, e, r⟩ := r; exact ⟨vs, e, DRK.mono h p l r⟩
  | ins c ds => obtain ⟨dx, vs, e, r⟩ := r; exact ⟨dx, vs, e, DRK.mono h p l r⟩
theorem OR.ne0 {x : Option HO} {o : Ob} (r : OR K cl F φ x o) : x ≠ none := by
  cases o with
  | lst ds => obtain ⟨vs, e, r⟩ := r; rw [e]; simp
  | dK ds => obtain ⟨vs, e, r⟩ := r; rw [e]; simp
  | dT ds => obtain ⟨vs, e, r⟩ := r; rw [e]; simp
  | ins c ds => obtain ⟨dx, vs, e, r⟩ := r; rw [e]; simp
theorem Sim.ne0 (s : Sim K cl S B F φ H) {n : Nat} (h : n < S.len) : H (φ n) ≠ none := (s.ob n _ (List.getElem?_eq_getElem h)).2.ne0
theorem Ext.refl (s : Sim K cl S B F φ H) : Ext S F φ H S F φ H := ⟨Same.refl _, Nat.le_refl _, rfl, fun _ _ => rfl, fun n h1 h2 => absurd h1 (Nat.not_le_of_lt h2), fun _ _ h _ => h, fun _ h => s.ne0 h, fun _ _ _ h _ => h⟩
theorem Ext.trans (a : Ext S F φ H S1 F1 φ1 H1) (b : Ext S1 F1 φ1 H1 S2 F2 φ2 H2) : Ext S F φ H S2 F2 φ2 H2 where
  fz := a.fz.trans b.fz
  len := Nat.le_trans a.len b.len
  b := b.b.trans a.b
  phi := fun n h => (b.phi n (Nat.lt_of_lt_of_le h a.len)).trans (a.phi n h)
  new := fun n h1 h2 => by
    by_cases h3 : n < S1.len
    · rw [b.phi n h3]
      exact a.new n h1 h3
    · cases e : H (φ2 n) with
      | none => rfl
      | some o =>
        have z := b.new n (Nat.le_of_not_lt h3) h2
        by_cases q : ∃ m, m < S.len ∧ φ m = φ2 n
        · obtain ⟨m, hm, ee⟩ := q
          exact absurd (by rw [ee]; exact z) (a.tr m hm)
        · rw [a.keep _ o e fun m hm ee => q ⟨m, hm, ee⟩] at z; cases z
  keep := fun c o h n => b.keep c o (a.keep c o h n) fun m hm e => by
    by_cases h3 : m < S.len
    · exact n m h3 (by rw [← a.phi m h3]; exact e)
    · have z := a.new m (Nat.le_of_not_lt h3) hm
      rw [e, h] at z; cases z
  tr := fun n h => by
    rw [← a.phi n h]
    exact b.tr n (Nat.lt_of_lt_of_le h a.len)
  fr := fun c o h f n => b.fr c o (a.keep c o h n) (a.fr c o h f n) fun m hm e => by
    by_cases h3 : m < S.len
    · exact n m h3 (by rw [← a.phi m h3]; exact e)
    · have z := a.new m (Nat.le_of_not_lt h3) hm
      rw [e, h] at z; cases z
theorem RS.mono (h : Same F F') {k k' : Nat} (l : k ≤ k') (p : ∀ n, n < k → φ' n = φ n) {σd : En} {σ : L2.St} (r : RS K cl F φ k σd σ) : RS K cl F' φ' k' σd σ :=
  ⟨r.1, fun i d e => let ⟨a, v, b, c⟩ := r.2 i d e; ⟨a.mono l, v, b, DR.mono h p a c⟩⟩
end
end Pv
namespace Pv
open PySem PySem.Spec PyProof.Rows L2

abbrev ME := En → SH → Option (D × SH)
abbrev MT := En → SH → Option (Bool × SH)
abbrev MA := En → SH → Option (List D × SH)
inductive Fl where
  | nx (σ : En) | ret (d : D) | brk (σ : En) | ct (σ : En)
abbrev MS := En → SH → Option (Fl × SH)
abbrev MF := List D → SH → Option (D × SH)

section
variable (K : PySem.W.Frag) (cl : Nat → Addr)
/-- an end as wished: a value, a truth, values -/
def OkE (S : SH) (B : List Nat) (F : Hp) (φ : Nat → Addr) (H : Hp) (r : Option (D × SH)) (Q : VK) : Prop :=
  ∃ d S1, r = some (d, S1) ∧ ∀ F1 φ1 H1 u, Sim K cl S1 B F1 φ1 H1 → Ext S F φ H S1 F1 φ1 H1 → DR K cl F1 φ1 d u → d.lt S1.len → Q u H1
def OkT (S : SH) (B : List Nat) (F : Hp) (φ : Nat → Addr) (H : Hp) (r : Option (Bool × SH)) (Q : Bool → Hp → Prop) : Prop :=
  ∃ d S1, r = some (d, S1) ∧ ∀ F1 φ1 H1, Sim K cl S1 B F1 φ1 H1 → Ext S F φ H S1 F1 φ1 H1 → Q d H1
def OkA (S : SH) (B : List Nat) (F : Hp) (φ : Nat → Addr) (H : Hp) (r : Option (List D × SH)) (Q : List V → Hp → Prop) : Prop :=
  ∃ ds S1, r = some (ds, S1) ∧ ∀ F1 φ1 H1 us, Sim K cl S1 B F1 φ1 H1 → Ext S F φ H S1 F1 φ1 H1 → DRA K cl F1 φ1 ds us → (∀ d ∈ ds, d.lt S1.len) → Q us H1
def OkF (S : SH) (B : List Nat) (F : Hp) (φ : Nat → Addr) (H : Hp) (Z : Ends) (S1 : SH) : Fl → Prop
  | .nx σd => ∀ F1 φ1 H1 σ, Sim K cl S1 B F1 φ1 H1 → Ext S F φ H S1 F1 φ1 H1 → RS K cl F1 φ1 S1.len σd σ → Z.nx σ H1
  | .ret d => ∀ F1 φ1 H1 u, Sim K cl S1 B F1 φ1 H1 → Ext S F φ H S1 F1 φ1 H1 → DR K cl F1 φ1 d u → d.lt S1.len → Z.rt u H1
  | .brk σd => ∀ F1 φ1 H1 σ, Sim K cl S1 B F1 φ1 H1 → Ext S F φ H S1 F1 φ1 H1 → RS K cl F1 φ1 S1.len σd σ → Z.bk σ H1
  | .ct σd => ∀ F1 φ1 H1 σ, Sim K cl S1 B F1 φ1 H1 → Ext S F φ H S1 F1 φ1 H1 → RS K cl F1 φ1 S1.len σd σ → Z.ct σ H1
def OkS (S : SH) (B : List Nat) (F : Hp) (φ : Nat → Addr) (H : Hp) (r : Option (Fl × SH)) (Z : Ends) : Prop :=
  ∃ f S1, r = some (f, S1) ∧ OkF K cl S B F φ H Z S1 f
/-- readings out of computations by value -/
def LE (m : ME) : TE := fun σ H Q => ∃ σd S B F φ, Sim K cl S B F φ H ∧ RS K cl F φ S.len σd σ ∧ OkE K cl S B F φ H (m σd S) Q
def LT (m : MT) : TT := fun σ H Q => ∃ σd S B F φ, Sim K cl S B F φ H ∧ RS K cl F φ S.len σd σ ∧ OkT K cl S B F φ H (m σd S) Q
def LA (m : MA) : TA := fun σ H Q => ∃ σd S B F φ, Sim K cl S B F φ H ∧ RS K cl F φ S.len σd σ ∧ OkA K cl S B F φ H (m σd S) Q
def LS (m : MS) : TS := fun Z σ H => ∃ σd S B F φ, Sim K cl S B F φ H ∧ RS K cl F φ S.len σd σ ∧ OkS K cl S B F φ H (m σd S) Z
end

/-! the combinators -/
def bnd {α β : Type} (r : Option (α × SH)) (f : α → SH → Option (β × SH)) : Option (β × SH) := match r with
  | some (a, S) => f a S
  | none => none
@[simp] theorem bnd_some {α β : Type} (a : α) (S : SH) (f : α → SH → Option (β × SH)) : bnd (some (a, S)) f = f a S := id rfl
@[simp] theorem bnd_none {α β : Type} (f : α → SH → Option (β × SH)) : bnd none f = none := id rfl
theorem bnd_of {α β : Type} {r : Option (α × SH)} {f : α → SH → Option (β × SH)} {x : β × SH} (h : bnd r f = some x) : ∃ a S, r = some (a, S) ∧ f a S = some x := by
  cases r with
  | none => cases h
  | some p => exact ⟨p.1, p.2, rfl, h⟩
def isB : D → Option Bool
  | .p (.bl b) => some b
  | _ => none
theorem isB_of {d : D} {b : Bool} (h : isB d = some b) : d = .p (.bl b) := by
  cases d with
  | ref n => cases h
  | p x => cases x <;> cases h <;> rfl
def dVar (i : Nat) : ME := fun σ S => match σ[i]? with | some (some d) => some (d, S) | _ => none
def dC (x : P) : ME := fun _ S => some (.p x, S)
def dOp (f : D → D → SH → Option (D × SH)) (a b : ME) : ME := fun σ S => bnd (a σ S) fun x S1 => bnd (b σ S1) fun y S2 => f x y S2
def dUn (f : D → SH → Option (D × SH)) (a : ME) : ME := fun σ S => bnd (a σ S) fun x S1 => f x S1
def toB (d : D) (S : SH) : Option (Bool × SH) := match isB d with | some b => some (b, S) | none => none
@[simp] theorem toB_p (b : Bool) (S : SH) : toB (.p (.bl b)) S = some (b, S) := id rfl
def dTest (a : ME) : MT := fun σ S => bnd (a σ S) toB
def dAnd (a b : MT) : MT := fun σ S => bnd (a σ S) fun t S1 => if t = true then b σ S1 else some (false, S1)
def dOr (a b : MT) : MT := fun σ S => bnd (a σ S) fun t S1 => if t = true then some (true, S1) else b σ S1
def dNot (a : MT) : MT := fun σ S => bnd (a σ S) fun t S1 => some (!t, S1)
def dNotV (a : ME) : ME := fun σ S => bnd (a σ S) fun d S1 => bnd (toB d S1) fun t S2 => some (.p (.bl (!t)), S2)
def dAndV (a b : ME) : ME := fun σ S => bnd (a σ S) fun d S1 => bnd (toB d S1) fun t S2 => if t = true then b σ S2 else some (.p (.bl false), S2)
def dOrV (a b : ME) : ME := fun σ S => bnd (a σ S) fun d S1 => bnd (toB d S1) fun t S2 => if t = true then some (.p (.bl true), S2) else b σ S2
def dIfE (t : MT) (a b : ME) : ME := fun σ S => bnd (t σ S) fun t S1 => if t = true then a σ S1 else b σ S1
def dNil : MA := fun _ S => some ([], S)
def dCons (a : ME) (r : MA) : MA := fun σ S => bnd (a σ S) fun x S1 => bnd (r σ S1) fun xs S2 => some (x :: xs, S2)
def dCall (f : MF) (a : MA) : ME := fun σ S => bnd (a σ S) fun xs S1 => f xs S1
def dNx : MS := fun σ S => some (.nx σ, S)
def dSeq (a b : MS) : MS := fun σ S => bnd (a σ S) fun f S1 => match f with | .nx σ1 => b σ1 S1 | r => some (r, S1)
def dBrk : MS := fun σ S => some (.brk σ, S)
def dCt : MS := fun σ S => some (.ct σ, S)
def dDrop (a : ME) : MS := fun σ S => bnd (a σ S) fun _ S1 => some (.nx σ, S1)
def dRet (a : ME) : MS := fun σ S => bnd (a σ S) fun d S1 => some (.ret d, S1)
def dRetN : MS := fun _ S => some (.ret (.p .non), S)
def dIf (t : MT) (a b : MS) : MS := fun σ S => bnd (t σ S) fun t S1 => if t = true then a σ S1 else b σ S1
def dNever : MS := fun _ _ => none
def dSet (i : Nat) (a : ME) : MS := fun σ S => bnd (a σ S) fun d S1 => some (.nx (σ.set i (some d)), S1)
/-- forget what some names hold -/
def wipeD : List Nat → En → En
  | [], σ => σ
  | i :: r, σ => wipeD r (σ.set i none)
def dWipe (vs : List Nat) (a : MS) : MS := fun σ S => a (wipeD vs σ) S

section
variable {K : PySem.W.Frag} {cl : Nat → Addr} {S S' S1 S2 : SH} {B : List Nat} {F F' F1 F2 H H' H1 H2 : Hp} {φ φ' φ1 φ2 : Nat → Addr}
theorem Ext.rs (e : Ext S F φ H S1 F1 φ1 H1) {σd : En} {σ : L2.St} (r : RS K cl F φ S.len σd σ) : RS K cl F1 φ1 S1.len σd σ := r.mono e.fz e.len e.phi
theorem Ext.dr (e : Ext S F φ H S1 F1 φ1 H1) {d : D} {v : V} (l : d.lt S.len) (r : DR K cl F φ d v) : DR K cl F1 φ1 d v := DR.mono e.fz e.phi l r
theorem Ext.lt (e : Ext S F φ H S1 F1 φ1 H1) {d : D} (l : d.lt S.len) : d.lt S1.len := l.mono e.len
theorem Ext.dra (e : Ext S F φ H S1 F1 φ1 H1) {d : List D} {v : List V} (l : ∀ x ∈ d, x.lt S.len) (r : DRA K cl F φ d v) : DRA K cl F1 φ1 d v := DRA.mono e.fz e.phi l r
theorem OkE.ext (e : Ext S F φ H S1 F1 φ1 H1) {r : Option (D × SH)} {Q : VK} (h : OkE K cl S B F φ H r Q) : OkE K cl S1 B F1 φ1 H1 r Q := by
  obtain ⟨d, S2, er, k⟩ := h
  exact ⟨d, S2, er, fun F2 φ2 H2 u s x => k F2 φ2 H2 u s (e.trans x)⟩
theorem OkT.ext (e : Ext S F φ H S1 F1 φ1 H1) {r : Option (Bool × SH)} {Q : Bool → Hp → Prop} (h : OkT K cl S B F φ H r Q) : OkT K cl S1 B F1 φ1 H1 r Q := by
  obtain ⟨d, S2, er, k⟩ := h
  exact ⟨d, S2, er, fun F2 φ2 H2 s x => k F2 φ2 H2 s (e.trans x)⟩
theorem OkA.ext (e : Ext S F φ H S1 F1 φ1 H1) {r : Option (List D × SH)} {Q : List V → Hp → Prop} (h : OkA K cl S B F φ H r Q) : OkA K cl S1 B F1 φ1 H1 r Q := by
  obtain ⟨d, S2, er, k⟩ := h
  exact ⟨d, S2, er, fun F2 φ2 H2 u s x => k F2 φ2 H2 u s (e.trans x)⟩
theorem OkF.ext (e : Ext S F φ H S1 F1 φ1 H1) {f : Fl} {Z : Ends} (h : OkF K cl S B F φ H Z S2 f) : OkF K cl S1 B F1 φ1 H1 Z S2 f := by
  cases f with
  | nx σ => exact fun F2 φ2 H2 u s x => h F2 φ2 H2 u s (e.trans x)
  | ret d => exact fun F2 φ2 H2 u s x => h F2 φ2 H2 u s (e.trans x)
  | brk σ => exact fun F2 φ2 H2 u s x => h F2 φ2 H2 u s (e.trans x)
  | ct σ => exact fun F2 φ2 H2 u s x => h F2 φ2 H2 u s (e.trans x)
theorem OkS.ext (e : Ext S F φ H S1 F1 φ1 H1) {r : Option (Fl × SH)} {Z : Ends} (h : OkS K cl S B F φ H r Z) : OkS K cl S1 B F1 φ1 H1 r Z := by
  obtain ⟨f, S2, er, k⟩ := h
  exact ⟨f, S2, er, k.ext e⟩
/-- one after the other: what the first one leaves -/
theorem LE.then_ {m : ME} {σ : L2.St} {σd : En} {Q : VK} {d : D} (s : Sim K cl S B F φ H) (r : RS K cl F φ S.len σd σ) (e : m σd S = some (d, S1))
    (k : ∀ F1 φ1 H1 u, Sim K cl S1 B F1 φ1 H1 → Ext S F φ H S1 F1 φ1 H1 → RS K cl F1 φ1 S1.len σd σ → DR K cl F1 φ1 d u → d.lt S1.len → Q u H1) : LE K cl m σ H Q :=
  ⟨σd, S, B, F, φ, s, r, d, S1, e, fun F1 φ1 H1 u s1 x dr l => k F1 φ1 H1 u s1 x (x.rs r) dr l⟩
theorem LT.then_ {m : MT} {σ : L2.St} {σd : En} {Q : Bool → Hp → Prop} {d : Bool} (s : Sim K cl S B F φ H) (r : RS K cl F φ S.len σd σ) (e : m σd S = some (d, S1))
    (k : ∀ F1 φ1 H1, Sim K cl S1 B F1 φ1 H1 → Ext S F φ H S1 F1 φ1 H1 → RS K cl F1 φ1 S1.len σd σ → Q d H1) : LT K cl m σ H Q :=
  ⟨σd, S, B, F, φ, s, r, d, S1, e, fun F1 φ1 H1 s1 x => k F1 φ1 H1 s1 x (x.rs r)⟩
theorem LA.then_ {m : MA} {σ : L2.St} {σd : En} {Q : List V → Hp → Prop} {d : List D} (s : Sim K cl S B F φ H) (r : RS K cl F φ S.len σd σ) (e : m σd S = some (d, S1))
    (k : ∀ F1 φ1 H1 u, Sim K cl S1 B F1 φ1 H1 → Ext S F φ H S1 F1 φ1 H1 → RS K cl F1 φ1 S1.len σd σ → DRA K cl F1 φ1 d u → (∀ x ∈ d, x.lt S1.len) → Q u H1) : LA K cl m σ H Q :=
  ⟨σd, S, B, F, φ, s, r, d, S1, e, fun F1 φ1 H1 u s1 x dr l => k F1 φ1 H1 u s1 x (x.rs r) dr l⟩
theorem LS.then_ {m : MS} {σ : L2.St} {σd : En} {Z : Ends} {f : Fl} (s : Sim K cl S B F φ H) (r : RS K cl F φ S.len σd σ) (e : m σd S = some (f, S1))
    (k : OkF K cl S B F φ H Z S1 f) : LS K cl m Z σ H := ⟨σd, S, B, F, φ, s, r, f, S1, e, k⟩
/-- the end as it is -/
theorem OkE.fin {r : Option (D × SH)} {Q : VK} {d : D} {u : V} (h : OkE K cl S B F φ H r Q) (e : r = some (d, S1)) (s : Sim K cl S1 B F1 φ1 H1) (x : Ext S F φ H S1 F1 φ1 H1) (dr : DR K cl F1 φ1 d u) (l : d.lt S1.len) : Q u H1 := by
  obtain ⟨d', S', e', k⟩ := h
  rw [e] at e'; cases e'
  exact k F1 φ1 H1 u s x dr l
theorem OkE.fin0 {r : Option (D × SH)} {Q : VK} {d : D} {u : V} (h : OkE K cl S B F φ H r Q) (e : r = some (d, S)) (s : Sim K cl S B F φ H) (dr : DR K cl F φ d u) (l : d.lt S.len) : Q u H := h.fin e s (.refl s) dr l
end

theorem _root_.L2.PE.imp {X : Cx} {e : Expr} {t t' : TE} (h : PE X e t) (i : ∀ σ H Q, t' σ H Q → t σ H Q) : PE X e t' := ⟨fun pins s σ H Q I q => h.run pins s σ H Q I (i σ H Q q)⟩
theorem _root_.L2.PT.imp {X : Cx} {e : Expr} {t t' : TT} (h : PT X e t) (i : ∀ σ H Q, t' σ H Q → t σ H Q) : PT X e t' := ⟨fun pins s σ H Q I q => h.run pins s σ H Q I (i σ H Q q)⟩
theorem _root_.L2.PW.imp {X : Cx} {e : Expr} {t t' : TT} (h : PW X e t) (i : ∀ σ H Q, t' σ H Q → t σ H Q) : PW X e t' := ⟨fun w pins s σ H Q I q => h.run w pins s σ H Q I (i σ H Q q)⟩
theorem _root_.L2.PA.imp {X : Cx} {e : List Expr} {t t' : TA} (h : PA X e t) (i : ∀ σ H Q, t' σ H Q → t σ H Q) : PA X e t' := ⟨fun p pins s σ H Q I q => h.run p pins s σ H Q I (i σ H Q q)⟩
theorem _root_.L2.PS.imp {X : Cx} {e : Stmt} {t t' : TS} (h : PS X e t) (i : ∀ Z σ H, t' Z σ H → t Z σ H) : PS X e t' := ⟨fun pins s σ H Z I q => h.run pins s σ H Z I (i Z σ H q)⟩
theorem _root_.L2.PSs.imp {X : Cx} {e : List Stmt} {t t' : TS} (h : PSs X e t) (i : ∀ Z σ H, t' Z σ H → t Z σ H) : PSs X e t' := ⟨fun pins s σ H Z I q => h.run pins s σ H Z I (i Z σ H q)⟩

/-! the rules -/
section
variable {X : Cx} {cl : Nat → Addr}
/-- an operation by values: its reading follows from its computation -/
def OpD (K : PySem.W.Frag) (cl : Nat → Addr) (f : D → D → SH → Option (D × SH)) (r : R2) : Prop :=
  ∀ S B F φ H d1 d2 x y Q, Sim K cl S B F φ H → DR K cl F φ d1 x → DR K cl F φ d2 y → d1.lt S.len → d2.lt S.len → OkE K cl S B F φ H (f d1 d2 S) Q → r x y H Q
def UnD (K : PySem.W.Frag) (cl : Nat → Addr) (f : D → SH → Option (D × SH)) (r : V → Hp → VK → Prop) : Prop :=
  ∀ S B F φ H d x Q, Sim K cl S B F φ H → DR K cl F φ d x → d.lt S.len → OkE K cl S B F φ H (f d S) Q → r x H Q
def CallD (K : PySem.W.Frag) (cl : Nat → Addr) (f : MF) (r : List V → Hp → VK → Prop) : Prop :=
  ∀ S B F φ H ds xs Q, Sim K cl S B F φ H → DRA K cl F φ ds xs → (∀ d ∈ ds, d.lt S.len) → OkE K cl S B F φ H (f ds S) Q → r xs H Q

theorem okE_bnd {K : PySem.W.Frag} {α : Type} {S : SH} {B : List Nat} {F : Hp} {φ : Nat → Addr} {H : Hp} {r : Option (α × SH)} {f : α → SH → Option (D × SH)} {Q : VK} (h : OkE K cl S B F φ H (bnd r f) Q) : ∃ a S1, r = some (a, S1) ∧ OkE K cl S B F φ H (f a S1) Q := by
  cases r with
  | none => obtain ⟨_, _, z, _⟩ := h; cases z
  | some p => exact ⟨p.1, p.2, rfl, h⟩
theorem okT_bnd {K : PySem.W.Frag} {α : Type} {S : SH} {B : List Nat} {F : Hp} {φ : Nat → Addr} {H : Hp} {r : Option (α × SH)} {f : α → SH → Option (Bool × SH)} {Q : Bool → Hp → Prop} (h : OkT K cl S B F φ H (bnd r f) Q) : ∃ a S1, r = some (a, S1) ∧ OkT K cl S B F φ H (f a S1) Q := by
  cases r with
  | none => obtain ⟨_, _, z, _⟩ := h; cases z
  | some p => exact ⟨p.1, p.2, rfl, h⟩
theorem okA_bnd {K : PySem.W.Frag} {α : Type} {S : SH} {B : List Nat} {F : Hp} {φ : Nat → Addr} {H : Hp} {r : Option (α × SH)} {f : α → SH → Option (List D × SH)} {Q : List V → Hp → Prop} (h : OkA K cl S B F φ H (bnd r f) Q) : ∃ a S1, r = some (a, S1) ∧ OkA K cl S B F φ H (f a S1) Q := by
  cases r with
  | none => obtain ⟨_, _, z, _⟩ := h; cases z
  | some p => exact ⟨p.1, p.2, rfl, h⟩
theorem okS_bnd {K : PySem.W.Frag} {α : Type} {S : SH} {B : List Nat} {F : Hp} {φ : Nat → Addr} {H : Hp} {r : Option (α × SH)} {f : α → SH → Option (Fl × SH)} {Q : Ends} (h : OkS K cl S B F φ H (bnd r f) Q) : ∃ a S1, r = some (a, S1) ∧ OkS K cl S B F φ H (f a S1) Q := by
  cases r with
  | none => obtain ⟨_, _, z, _⟩ := h; cases z
  | some p => exact ⟨p.1, p.2, rfl, h⟩
theorem toB_of {d : D} {S S' : SH} {b : Bool} (h : toB d S = some (b, S')) : d = .p (.bl b) ∧ S' = S := by
  unfold toB at h
  cases e : isB d with
  | none => rw [e] at h; cases h
  | some c => rw [e] at h; cases h; exact ⟨isB_of e, rfl⟩
theorem rp_bl {K : PySem.W.Frag} {F : Hp} {φ : Nat → Addr} {b : Bool} {x : V} (h : DR K cl F φ (.p (.bl b)) x) : x = .bl b := by
  cases (show Rp K cl F (.bl b) x from h); rfl
theorem e_op {K : PySem.W.Frag} {f : D → D → SH → Option (D × SH)} {r : R2} (h : OpD K cl f r) {ma mb : ME} {σ : L2.St} {H : Hp} {Q : VK} (q : LE K cl (dOp f ma mb) σ H Q) : tOp r (LE K cl ma) (LE K cl mb) σ H Q := by
  obtain ⟨σd, S, B, F, φ, s, rs, o⟩ := q
  obtain ⟨d1, S1, ea, o⟩ := okE_bnd o
  obtain ⟨d2, S2, eb, o⟩ := okE_bnd o
  refine LE.then_ s rs ea fun F1 φ1 H1 x s1 x1 rs1 dr1 l1 => ?_
  refine LE.then_ s1 rs1 eb fun F2 φ2 H2 y s2 x2 rs2 dr2 l2 => ?_
  exact h S2 B F2 φ2 H2 d1 d2 x y Q s2 (x2.dr l1 dr1) dr2 (x2.lt l1) l2 (o.ext (x1.trans x2))
theorem e_un {K : PySem.W.Frag} {f : D → SH → Option (D × SH)} {r : V → Hp → VK → Prop} (h : UnD K cl f r) {ma : ME} {σ : L2.St} {H : Hp} {Q : VK} (q : LE K cl (dUn f ma) σ H Q) : tUn r (LE K cl ma) σ H Q := by
  obtain ⟨σd, S, B, F, φ, s, rs, o⟩ := q
  obtain ⟨d1, S1, ea, o⟩ := okE_bnd o
  exact LE.then_ s rs ea fun F1 φ1 H1 x s1 x1 rs1 dr1 l1 => h S1 B F1 φ1 H1 d1 x Q s1 dr1 l1 (o.ext x1)
theorem k_var (i : Nat) {x : Str} {pos : Pos} (hN : X.N[i]? = some x := by rfl) (hv : Vis X.env.scope x := by first | exact Or.inl rfl | exact Or.inr (Or.inl rfl) | exact Or.inr (Or.inr rfl)) (hd : (x == ("__debug__" : Str)) = false := by decide)
    (hcd : (x == ("__classdict__" : Str)) = false := by decide) : PE X (.Name x pos) (LE X.K cl (dVar i)) := by
  refine (pe_var hN hv hd hcd).imp fun σ H Q q => ?_
  obtain ⟨σd, S, B, F, φ, s, rs, d, S1, e, k⟩ := q
  unfold dVar at e
  split at e
  · rename_i d' h
    cases e
    obtain ⟨l, v, hv, dr⟩ := rs.2 i _ h
    exact ⟨v, hv, k F φ H v s (.refl s) dr l⟩
  · cases e
theorem e_c {K : PySem.W.Frag} {p : P} {v : V} {σ : L2.St} {H : Hp} {Q : VK} (q : LE K cl (dC p) σ H Q) (h : ∀ F, Rp K cl F p v) : Q v H := by
  obtain ⟨σd, S, B, F, φ, s, rs, o⟩ := q
  exact o.fin0 rfl s (h F) trivial
theorem k_int {i j pos} : PE X (.Constant (.int i) j pos) (LE X.K cl (dC (.int i))) := pe_int.imp fun _ _ _ q => e_c q fun _ => .int _
theorem k_bl {i j pos} : PE X (.Constant (.bool i) j pos) (LE X.K cl (dC (.bl i))) := pe_bl.imp fun _ _ _ q => e_c q fun _ => .bl _
theorem k_str {i j pos} : PE X (.Constant (.str i) j pos) (LE X.K cl (dC (.str i))) := pe_str.imp fun _ _ _ q => e_c q fun _ => .str _
theorem k_non {j pos} : PE X (.Constant .none j pos) (LE X.K cl (dC .non)) := pe_non.imp fun _ _ _ q => e_c q fun _ => .non
variable {a b c : Expr} {ma mb mc : ME} {ta tb : MT} {pos : Pos}
theorem k_op {op : Operator} {f : D → D → SH → Option (D × SH)} {r : R2} (hd : OpD X.K cl f r) (ho : OpR X (binaryOp op) r) (ha : PE X a (LE X.K cl ma)) (hb : PE X b (LE X.K cl mb)) : PE X (.BinOp a op b pos) (LE X.K cl (dOp f ma mb)) :=
  (pe_op ho ha hb).imp fun _ _ _ q => e_op hd q
theorem k_un {op : UnaryOp} {f : D → SH → Option (D × SH)} {r : V → Hp → VK → Prop} (hd : UnD X.K cl f r) (ho : UnR X (unaryOp op) r) (ha : PE X a (LE X.K cl ma)) : PE X (.UnaryOp op a pos) (LE X.K cl (dUn f ma)) :=
  (pe_un ho ha).imp fun _ _ _ q => e_un hd q
theorem k_cmp {op : CmpOp} {f : D → D → SH → Option (D × SH)} {r : R2} (hd : OpD X.K cl f r) (ho : OpR X (compareOp op) r) (ha : PE X a (LE X.K cl ma)) (hb : PE X b (LE X.K cl mb)) (hm : behindInMarks op b = false) : PE X (.Compare a [op] [b] pos) (LE X.K cl (dOp f ma mb)) :=
  (pe_cmpR ho ha hb hm).imp fun _ _ _ q => e_op hd q
theorem e_test {K : PySem.W.Frag} {ma : ME} {σ : L2.St} {H : Hp} {Q : Bool → Hp → Prop} (q : LT K cl (dTest ma) σ H Q) : LE K cl ma σ H fun x H' => ∃ k, x = .bl k ∧ Q k H' := by
  obtain ⟨σd, S, B, F, φ, s, rs, o⟩ := q
  obtain ⟨d, S1, e, o⟩ := okT_bnd o
  obtain ⟨b, S2, e2, k⟩ := o
  obtain ⟨rfl, rfl⟩ := toB_of e2
  exact LE.then_ s rs e fun F1 φ1 H1 x s1 x1 rs1 dr1 l1 => ⟨b, rp_bl dr1, k F1 φ1 H1 s1 x1⟩
theorem e_test2 {K : PySem.W.Frag} {f : D → D → SH → Option (D × SH)} {r : R2} (h : OpD K cl f r) {ma mb : ME} {σ : L2.St} {H : Hp} {Q : Bool → Hp → Prop} (q : LT K cl (dTest (dOp f ma mb)) σ H Q) : tTest (tOp r (LE K cl ma) (LE K cl mb)) σ H Q := by
  refine e_op h ?_
  exact e_test q
theorem t_cmp {op : CmpOp} {f : D → D → SH → Option (D × SH)} {r : R2} (hd : OpD X.K cl f r) (ho : OpR X (compareOp op) r) (ha : PE X a (LE X.K cl ma)) (hb : PE X b (LE X.K cl mb)) (hm : behindInMarks op b = false) : PT X (.Compare a [op] [b] pos) (LT X.K cl (dTest (dOp f ma mb))) :=
  (pt_cmpR ho ha hb hm).imp fun _ _ _ q => e_test2 hd q
theorem t_val {e : Expr} {m : ME} (h : PE X e (LE X.K cl m)) (he : ∀ whole, isTrue e X.env whole = (do let v ← whole; standAt e.pos; holding [v] (truthy v)) := by intro _; rfl) : PT X e (LT X.K cl (dTest m)) :=
  (pt_val h he).imp fun σ H Q q => e_test q
theorem w_and1 (ha : PT X a (LT X.K cl ta)) : PW X (.BoolOp .And [a] pos) (LT X.K cl ta) := pw_and1 ha
theorem w_or1 (ha : PT X a (LT X.K cl ta)) : PW X (.BoolOp .Or [a] pos) (LT X.K cl ta) := pw_or1 ha
variable {rest : List Expr}
theorem w_and (ha : PT X a (LT X.K cl ta)) (hb : PW X (.BoolOp .And (b :: rest) pos) (LT X.K cl tb)) : PW X (.BoolOp .And (a :: b :: rest) pos) (LT X.K cl (dAnd ta tb)) := by
  refine (pw_and ha hb).imp fun σ H Q q => ?_
  obtain ⟨σd, S, B, F, φ, s, rs, o⟩ := q
  obtain ⟨t, S1, e, o⟩ := okT_bnd o
  refine LT.then_ s rs e fun F1 φ1 H1 s1 x1 rs1 => ?_
  split
  · rename_i ht; rw [if_pos ht] at o; exact ⟨σd, S1, B, F1, φ1, s1, rs1, o.ext x1⟩
  · rename_i ht; rw [if_neg ht] at o
    obtain ⟨_, _, z, k⟩ := o
    cases z
    exact k F1 φ1 H1 s1 x1
theorem w_or (ha : PT X a (LT X.K cl ta)) (hb : PW X (.BoolOp .Or (b :: rest) pos) (LT X.K cl tb)) : PW X (.BoolOp .Or (a :: b :: rest) pos) (LT X.K cl (dOr ta tb)) := by
  refine (pw_or ha hb).imp fun σ H Q q => ?_
  obtain ⟨σd, S, B, F, φ, s, rs, o⟩ := q
  obtain ⟨t, S1, e, o⟩ := okT_bnd o
  refine LT.then_ s rs e fun F1 φ1 H1 s1 x1 rs1 => ?_
  split
  · rename_i ht; rw [if_pos ht] at o
    obtain ⟨_, _, z, k⟩ := o
    cases z
    exact k F1 φ1 H1 s1 x1
  · rename_i ht; rw [if_neg ht] at o; exact ⟨σd, S1, B, F1, φ1, s1, rs1, o.ext x1⟩
theorem t_not (ha : PT X a (LT X.K cl ta)) : PT X (.UnaryOp .Not a pos) (LT X.K cl (dNot ta)) := by
  refine (pt_not ha).imp fun σ H Q q => ?_
  obtain ⟨σd, S, B, F, φ, s, rs, o⟩ := q
  obtain ⟨t, S1, e, o⟩ := okT_bnd o
  refine LT.then_ s rs e fun F1 φ1 H1 s1 x1 rs1 => ?_
  obtain ⟨_, _, z, k⟩ := o
  cases z
  exact k F1 φ1 H1 s1 x1
theorem k_not (ha : PE X a (LE X.K cl ma)) : PE X (.UnaryOp .Not a pos) (LE X.K cl (dNotV ma)) := by
  refine (pe_not ha).imp fun σ H Q q => ?_
  obtain ⟨σd, S, B, F, φ, s, rs, o⟩ := q
  obtain ⟨d, S1, e, o⟩ := okE_bnd o
  obtain ⟨b, S2, e2, o2⟩ := okE_bnd o
  clear o
  obtain ⟨rfl, rfl⟩ := toB_of e2
  have o := o2
  clear o2
  exact LE.then_ s rs e fun F1 φ1 H1 x s1 x1 rs1 dr1 l1 => ⟨b, rp_bl dr1, o.fin rfl s1 x1 (Rp.bl _) trivial⟩
theorem k_one {op} (h : PE X a (LE X.K cl ma)) : PE X (.BoolOp op [a] pos) (LE X.K cl ma) := pe_one h
theorem k_and (ha : PE X a (LE X.K cl ma)) (hb : PE X (.BoolOp .And (b :: rest) pos) (LE X.K cl mb)) : PE X (.BoolOp .And (a :: b :: rest) pos) (LE X.K cl (dAndV ma mb)) := by
  refine (pe_and ha hb).imp fun σ H Q q => ?_
  obtain ⟨σd, S, B, F, φ, s, rs, o⟩ := q
  obtain ⟨d, S1, e, o⟩ := okE_bnd o
  obtain ⟨b, S2, e2, o2⟩ := okE_bnd o
  clear o
  obtain ⟨rfl, rfl⟩ := toB_of e2
  have o := o2
  clear o2
  refine LE.then_ s rs e fun F1 φ1 H1 x s1 x1 rs1 dr1 l1 => ⟨b, rp_bl dr1, ?_⟩
  split
  · rename_i ht; rw [if_pos ht] at o; exact ⟨σd, S2, B, F1, φ1, s1, rs1, o.ext x1⟩
  · rename_i ht; rw [if_neg ht] at o; exact o.fin rfl s1 x1 (Rp.bl _) trivial
theorem k_or (ha : PE X a (LE X.K cl ma)) (hb : PE X (.BoolOp .Or (b :: rest) pos) (LE X.K cl mb)) : PE X (.BoolOp .Or (a :: b :: rest) pos) (LE X.K cl (dOrV ma mb)) := by
  refine (pe_or ha hb).imp fun σ H Q q => ?_
  obtain ⟨σd, S, B, F, φ, s, rs, o⟩ := q
  obtain ⟨d, S1, e, o⟩ := okE_bnd o
  obtain ⟨b, S2, e2, o2⟩ := okE_bnd o
  clear o
  obtain ⟨rfl, rfl⟩ := toB_of e2
  have o := o2
  clear o2
  refine LE.then_ s rs e fun F1 φ1 H1 x s1 x1 rs1 dr1 l1 => ⟨b, rp_bl dr1, ?_⟩
  split
  · rename_i ht; rw [if_pos ht] at o; exact o.fin rfl s1 x1 (Rp.bl _) trivial
  · rename_i ht; rw [if_neg ht] at o; exact ⟨σd, S2, B, F1, φ1, s1, rs1, o.ext x1⟩
theorem k_if {t : Expr} (ht : PT X t (LT X.K cl ta)) (ha : PE X a (LE X.K cl ma)) (hb : PE X b (LE X.K cl mb)) : PE X (.IfExp t a b pos) (LE X.K cl (dIfE ta ma mb)) := by
  refine (pe_ifExp ht ha hb).imp fun σ H Q q => ?_
  obtain ⟨σd, S, B, F, φ, s, rs, o⟩ := q
  obtain ⟨t, S1, e, o⟩ := okE_bnd o
  refine LT.then_ s rs e fun F1 φ1 H1 s1 x1 rs1 => ?_
  split
  · rename_i ht; rw [if_pos ht] at o; exact ⟨σd, S1, B, F1, φ1, s1, rs1, o.ext x1⟩
  · rename_i ht; rw [if_neg ht] at o; exact ⟨σd, S1, B, F1, φ1, s1, rs1, o.ext x1⟩
variable {e : Expr} {es : List Expr} {mr : MA}
theorem a_nil : PA X [] (LA X.K cl dNil) := pa_nil.imp fun σ H Q q => by
  obtain ⟨σd, S, B, F, φ, s, rs, d, S1, e, k⟩ := q
  cases e
  exact k F φ H [] s (.refl s) .nil (fun _ z => absurd z (by simp))
theorem a_cons (he : PE X e (LE X.K cl ma)) (hr : PA X es (LA X.K cl mr)) (hs : starEach (e :: es) X.env = (false, eval e X.env) :: starEach es X.env := by rfl) : PA X (e :: es) (LA X.K cl (dCons ma mr)) := by
  refine (pa_cons he hr hs).imp fun σ H Q q => ?_
  obtain ⟨σd, S, B, F, φ, s, rs, o⟩ := q
  obtain ⟨d1, S1, ea, o⟩ := okA_bnd o
  obtain ⟨d2, S2, eb, o⟩ := okA_bnd o
  refine LE.then_ s rs ea fun F1 φ1 H1 x s1 x1 rs1 dr1 l1 => ?_
  refine LA.then_ s1 rs1 eb fun F2 φ2 H2 y s2 x2 rs2 dr2 l2 => ?_
  obtain ⟨_, _, z, k⟩ := o
  cases z
  exact k F2 φ2 H2 (x :: y) s2 (x1.trans x2) (.cons (x2.dr l1 dr1) dr2) fun d hd => by
    rcases List.mem_cons.mp hd with rfl | hd
    · exact x2.lt l1
    · exact l2 d hd
theorem e_call {K : PySem.W.Frag} {f : MF} {r : List V → Hp → VK → Prop} (h : CallD K cl f r) {m : MA} {σ : L2.St} {H : Hp} {Q : VK} (q : LE K cl (dCall f m) σ H Q) : LA K cl m σ H fun vs H1 => r vs H1 Q := by
  obtain ⟨σd, S, B, F, φ, s, rs, o⟩ := q
  obtain ⟨d1, S1, ea, o⟩ := okE_bnd o
  exact LA.then_ s rs ea fun F1 φ1 H1 x s1 x1 rs1 dr1 l1 => h S1 B F1 φ1 H1 d1 x Q s1 dr1 l1 (o.ext x1)
end
end Pv
namespace Pv
open PySem PySem.Spec PyProof.Rows L2

/-! ### what a def leaves behind: the objects that it made are data from then on -/
def toP : Nat → Nat → SH → D → Option P
  | _, _, _, .p x => some x
  | 0, _, _, .ref _ => none
  | k + 1, b, S, .ref n => if n < b then none else match S.os[n]? with
    | some (.lst ds) => (ds.mapM (toP k b S)).map .lst
    | some (.dK kvs) => (kvs.mapM fun p => (toP k b S p.2).map fun x => (p.1, x)).map .dK
    | some (.dT kvs) => (kvs.mapM fun p => (toP k b S p.2).map fun x => (p.1, x)).map .dT
    | some (.ins c fs) => (fs.mapM fun p => (toP k b S p.2).map fun x => (p.1, x)).map (.ins c)
    | none => none
/-- a value as it is behind the end of a def that began at b -/
def outD (b : Nat) (S : SH) (d : D) : Option D := match d with
  | .p x => some (.p x)
  | .ref n => if n < b then some (.ref n) else (toP 8 b S (.ref n)).map .p
def cutS (S0 S1 : SH) : SH := ⟨S0.b, S1.os.take S0.len⟩
/-- a def's call: what it made becomes data, or goes -/
def frameF (S : SH) (r : Option (Fl × SH)) : Option (D × SH) := bnd r fun f S1 => match f with
  | .ret d => match outD S.len S1 d with | some d' => some (d', cutS S S1) | none => none
  | .nx _ => some (.p .non, cutS S S1)
  | _ => none
/-- a def's call where what it made stays -/
def liveF (r : Option (Fl × SH)) : Option (D × SH) := bnd r fun f S1 => match f with
  | .ret d => some (d, S1)
  | .nx _ => some (.p .non, S1)
  | _ => none
/-- a block whose new objects become data at its end; a name that can't be data is forgotten -/
def outO (b : Nat) (S : SH) : Option D → Option D
  | some d => outD b S d
  | none => none
def outE (b : Nat) (S : SH) (σ : En) : En := σ.map (outO b S)
def dBlock (m : MS) : MS := fun σ S => bnd (m σ ⟨S.len, S.os⟩) fun f S1 => match f with
  | .nx σ1 => some (.nx (outE S.len S1 σ1), cutS S S1)
  | .ct σ1 => some (.ct (outE S.len S1 σ1), cutS S S1)
  | .brk σ1 => some (.brk (outE S.len S1 σ1), cutS S S1)
  | .ret d => match outD S.len S1 d with | some d' => some (.ret d', cutS S S1) | none => none

section
variable {K : PySem.W.Frag} {cl : Nat → Addr} {S S' S1 S2 : SH} {B : List Nat} {F F' F0 F1 F2 H H' H0 H1 H2 : Hp} {φ φ' φ0 φ1 φ2 : Nat → Addr}
open Classical in
/-- the heap of data with the objects from b on -/
noncomputable def addF (b k : Nat) (F H : Hp) (φ : Nat → Addr) : Hp := fun a => if ∃ n, b ≤ n ∧ n < k ∧ φ n = a then H a else F a
theorem addF_in {b k n : Nat} (h1 : b ≤ n) (h2 : n < k) : addF b k F H φ (φ n) = H (φ n) := by unfold addF; rw [if_pos ⟨n, h1, h2, rfl⟩]
theorem addF_out {b k : Nat} {a : Addr} (h : ∀ n, b ≤ n → n < k → φ n ≠ a) : addF b k F H φ a = F a := by
  unfold addF; rw [if_neg]; rintro ⟨n, h1, h2, e⟩; exact h n h1 h2 e
theorem addF_le (s : Sim K cl S B F φ H) (b : Nat) : Same F (addF b S.len F H φ) := fun a o e => by
  rw [addF_out]
  · exact e
  · intro n h1 h2 q
    have z := (s.ob n _ (List.getElem?_eq_getElem h2)).1
    rw [q, e] at z; cases z
theorem addF_heap (s : Sim K cl S B F φ H) (b : Nat) : Same (addF b S.len F H φ) H := fun a o e => by
  by_cases h : ∃ n, b ≤ n ∧ n < S.len ∧ φ n = a
  · obtain ⟨n, h1, h2, rfl⟩ := h
    rw [addF_in h1 h2] at e; exact e
  · rw [addF_out fun n h1 h2 q => h ⟨n, h1, h2, q⟩] at e
    exact s.le _ _ e
theorem mapM_rp {α : Type} {g : α → Option P} {R : α → V → Prop} {F : Hp} (hR : ∀ a x v, g a = some x → R a v → Rp K cl F x v) : ∀ {l : List α} {xs : List P} {vs : List V}, l.mapM g = some xs → Paired R l vs → RpA K cl F xs vs
  | [], xs, vs, e, r => by
    cases r
    simp at e
    subst e
    exact .nil
  | a :: l, xs, vs, e, r => by
    cases r with
    | cons r1 r2 =>
      rw [List.mapM_cons] at e
      cases e1 : g a with
      | none => rw [e1] at e; cases e
      | some x =>
        rw [e1] at e
        cases e2 : l.mapM g with
        | none => rw [e2] at e; cases e
        | some ys =>
          rw [e2] at e
          cases e
          exact .cons (hR a x _ e1 r1) (mapM_rp hR e2 r2)
theorem mapM_rpk {κ : Type} {g : D → Option P} {R : D → V → Prop} {F : Hp} {Z : List (κ × P) → List (κ × V) → Prop} (z0 : Z [] []) (z1 : ∀ k x v xs vs, Rp K cl F x v → Z xs vs → Z ((k, x) :: xs) ((k, v) :: vs))
    (hR : ∀ a x v, g a = some x → R a v → Rp K cl F x v) : ∀ {l : List (κ × D)} {xs : List (κ × P)} {vs : List (κ × V)}, l.mapM (fun p => (g p.2).map fun x => (p.1, x)) = some xs → Paired (fun p q => p.1 = q.1 ∧ R p.2 q.2) l vs → Z xs vs
  | [], xs, vs, e, r => by
    cases r
    simp at e
    subst e
    exact z0
  | (k, a) :: l, xs, vs, e, r => by
    cases r with
    | cons r1 r2 =>
      rename_i q vs'
      obtain ⟨k', v⟩ := q
      obtain ⟨rfl, r1⟩ := r1
      rw [List.mapM_cons] at e
      cases e1 : g a with
      | none => rw [e1] at e; cases e
      | some x =>
        rw [e1] at e
        cases e2 : l.mapM (fun p => (g p.2).map fun x => (p.1, x)) with
        | none =>
          simp only [Option.map_some] at e
          rw [e2] at e; cases e
        | some ys =>
          simp only [Option.map_some] at e
          rw [e2] at e
          cases e
          exact z1 _ _ _ _ _ (hR a x _ e1 r1) (mapM_rpk z0 z1 hR e2 r2)
theorem toP_ok (s : Sim K cl S B F φ H) (b : Nat) : ∀ (k : Nat) (d : D) (x : P) (v : V), toP k b S d = some x → DR K cl F φ d v → Rp K cl (addF b S.len F H φ) x v
  | k, .p y, x, v, e, r => by
    have e : y = x := by cases k <;> (simp [toP] at e; exact e)
    subst e
    exact Rp.mono (addF_le s b) r
  | 0, .ref n, x, v, e, r => by simp [toP] at e
  | k + 1, .ref n, x, v, e, r => by
    have r' : v = .ref (φ n) := r
    subst r'
    unfold toP at e
    by_cases hb : n < b
    · rw [if_pos hb] at e; cases e
    · rw [if_neg hb] at e
      have ih : ∀ (a : D) (x : P) (v : V), toP k b S a = some x → DR K cl F φ a v → Rp K cl (addF b S.len F H φ) x v := toP_ok s b k
      cases ho : S.os[n]? with
      | none => rw [ho] at e; cases e
      | some o =>
        rw [ho] at e
        have hn : n < S.len := (List.getElem?_eq_some_iff.mp ho).1
        have hF : addF b S.len F H φ (φ n) = H (φ n) := addF_in (Nat.le_of_not_lt hb) hn
        have ob := (s.ob n o ho).2
        cases o with
        | lst ds =>
          obtain ⟨vs, ev, rv⟩ := ob
          dsimp only at e
          cases e2 : ds.mapM (toP k b S) with
          | none => rw [e2] at e; cases e
          | some xs =>
            rw [e2] at e
            cases e
            exact .lst (.inl (.inl (hF.trans ev))) (mapM_rp ih e2 rv)
        | dK kvs =>
          obtain ⟨vs, ev, rv⟩ := ob
          dsimp only at e
          cases e2 : kvs.mapM fun p => (toP k b S p.2).map fun x => (p.1, x) with
          | none => rw [e2] at e; cases e
          | some xs =>
            rw [e2] at e
            cases e
            exact .dK (hF.trans ev) (mapM_rpk (Z := RpK K cl _) .nil (fun _ _ _ _ _ h1 h2 => .cons h1 h2) ih e2 rv)
        | dT kvs =>
          obtain ⟨vs, ev, rv⟩ := ob
          dsimp only at e
          cases e2 : kvs.mapM fun p => (toP k b S p.2).map fun x => (p.1, x) with
          | none => rw [e2] at e; cases e
          | some xs =>
            rw [e2] at e
            cases e
            exact .dT (hF.trans ev) (mapM_rpk (Z := RpT K cl _) .nil (fun _ _ _ _ _ h1 h2 => .cons h1 h2) ih e2 rv)
        | ins c fs =>
          obtain ⟨dx, vs, ev, rv⟩ := ob
          dsimp only at e
          cases e2 : fs.mapM fun p => (toP k b S p.2).map fun x => (p.1, x) with
          | none => rw [e2] at e; cases e
          | some xs =>
            rw [e2] at e
            cases e
            exact .ins (hF.trans ev) (mapM_rpk (Z := RpF K cl _) .nil (fun _ _ _ _ _ h1 h2 => .cons h1 h2) ih e2 rv)
/-- a block, a def's body begins -/
theorem Sim.begin (s : Sim K cl S B F φ H) : Sim K cl ⟨S.len, S.os⟩ (S.len :: B) F φ H := by
  refine ⟨s.le, s.ob, s.inj, s.wf, fun b hb => ?_, Nat.le_refl _⟩
  rcases List.mem_cons.mp hb with rfl | hb
  · exact ⟨Nat.le_refl _, fun n o e _ => s.wf n o e⟩
  · exact ⟨Nat.le_trans (s.bs b hb).1 s.bl, (s.bs b hb).2⟩
theorem cutS_len (h : S.len ≤ S1.len) : (cutS S S1).len = S.len := by
  show (S1.os.take S.len).length = _
  rw [List.length_take]
  exact Nat.min_eq_left h
theorem cutS_get {n : Nat} {o : Ob} (e : (cutS S S1).os[n]? = some o) : n < S.len ∧ S1.os[n]? = some o := by
  have e : (S1.os.take S.len)[n]? = some o := e
  rw [List.getElem?_take] at e
  split at e
  · rename_i h; exact ⟨h, e⟩
  · cases e
/-- .. and ends -/
theorem Sim.end_ (s0 : Sim K cl S B F0 φ0 H0) (s : Sim K cl S1 (S.len :: B) F φ H) (h : S.len ≤ S1.len) : Sim K cl (cutS S S1) B (addF S.len S1.len F H φ) φ H := by
  have hl := cutS_len h
  refine ⟨addF_heap s _, fun n o e => ?_, fun n m h1 h2 => ?_, fun n o e => ?_, fun b hb => ⟨(s0.bs b hb).1, fun n o e hn => ?_⟩, ?_⟩
  · obtain ⟨hn, e⟩ := cutS_get e
    refine ⟨?_, ?_⟩
    · rw [addF_out fun m h1 h2 q => ?_]
      · exact (s.ob n o e).1
      · have := s.inj m n h2 (Nat.lt_of_lt_of_le hn h) q
        omega
    · exact OR.mono (addF_le s _) (fun _ _ => rfl) (s.wf n o e) (s.ob n o e).2
  · exact s.inj n m (by omega) (by omega)
  · obtain ⟨hn, e⟩ := cutS_get e
    rw [hl]
    exact (s.bs S.len List.mem_cons_self).2 n o e hn
  · obtain ⟨_, e⟩ := cutS_get e
    exact (s.bs b (List.mem_cons_of_mem _ hb)).2 n o e hn
  · rw [hl]; exact s0.bl
theorem Ext.end_ (s : Sim K cl S1 (S.len :: B) F φ H) (x : Ext ⟨S.len, S.os⟩ F0 φ0 H0 S1 F φ H) : Ext S F0 φ0 H0 (cutS S S1) (addF S.len S1.len F H φ) φ H := by
  have hl := cutS_len (S := S) (S1 := S1) x.len
  refine ⟨x.fz.trans (addF_le s _), Nat.le_of_eq hl.symm, rfl, x.phi, fun n h1 h2 => by omega, x.keep, x.tr, fun a o h f n => ?_⟩
  rw [addF_out fun m h1 h2 q => ?_]
  · exact x.fr a o h f n
  · have := x.new m h1 h2
    rw [q, h] at this; cases this
theorem outD_ok (s : Sim K cl S1 (S.len :: B) F φ H) (h : S.len ≤ S1.len) {d d' : D} {v : V} (e : outD S.len S1 d = some d') (r : DR K cl F φ d v) (l : d.lt S1.len) : DR K cl (addF S.len S1.len F H φ) φ d' v ∧ d'.lt (cutS S S1).len := by
  rw [cutS_len h]
  cases d with
  | p x => cases e; exact ⟨Rp.mono (addF_le s _) r, trivial⟩
  | ref n =>
    unfold outD at e
    dsimp only at e
    by_cases hn : n < S.len
    · rw [if_pos hn] at e; cases e; exact ⟨r, hn⟩
    · rw [if_neg hn] at e
      cases e2 : toP 8 S.len S1 (.ref n) with
      | none => rw [e2] at e; cases e
      | some x => rw [e2] at e; cases e; exact ⟨toP_ok s _ _ _ _ _ e2 r, trivial⟩
theorem outE_ok (s : Sim K cl S1 (S.len :: B) F φ H) (h : S.len ≤ S1.len) {σd : En} {σ : L2.St} (r : RS K cl F φ S1.len σd σ) : RS K cl (addF S.len S1.len F H φ) φ (cutS S S1).len (outE S.len S1 σd) σ := by
  refine ⟨by unfold outE; rw [List.length_map]; exact r.1, fun i d e => ?_⟩
  unfold outE at e
  rw [List.getElem?_map] at e
  cases e1 : σd[i]? with
  | none => rw [e1] at e; cases e
  | some o =>
    rw [e1] at e
    cases o with
    | none => cases e
    | some d0 =>
      have e : outD S.len S1 d0 = some d := Option.some.inj e
      obtain ⟨l, v, ev, rv⟩ := r.2 i d0 e1
      obtain ⟨a, b⟩ := outD_ok s h e rv l
      exact ⟨b, v, ev, a⟩
end
section
variable {X : Cx} {cl : Nat → Addr} {st : Stmt} {rest : List Stmt} {m n : MS} {me : ME} {mt : MT} {e : Expr} {pos : Pos}
theorem s_nil : PSs X [] (LS X.K cl dNx) := pss_nil.imp fun Z σ H q => by
  obtain ⟨σd, S, B, F, φ, s, rs, f, S1, e, k⟩ := q
  cases e
  exact k F φ H σ s (.refl s) rs
theorem s_pass : PS X (.Pass pos) (LS X.K cl dNx) := ps_pass.imp fun Z σ H q => by
  obtain ⟨σd, S, B, F, φ, s, rs, f, S1, e, k⟩ := q
  cases e
  exact k F φ H σ s (.refl s) rs
theorem s_brk : PS X (.Break pos) (LS X.K cl dBrk) := ps_break.imp fun Z σ H q => by
  obtain ⟨σd, S, B, F, φ, s, rs, f, S1, e, k⟩ := q
  cases e
  exact k F φ H σ s (.refl s) rs
theorem s_ct : PS X (.Continue pos) (LS X.K cl dCt) := ps_continue.imp fun Z σ H q => by
  obtain ⟨σd, S, B, F, φ, s, rs, f, S1, e, k⟩ := q
  cases e
  exact k F φ H σ s (.refl s) rs
theorem s_doc {x j pos'} : PS X (.Expr (.Constant (.str x) j pos) pos') (LS X.K cl dNx) := ps_doc.imp fun Z σ H q => by
  obtain ⟨σd, S, B, F, φ, s, rs, f, S1, e, k⟩ := q
  cases e
  exact k F φ H σ s (.refl s) rs
theorem s_one (h : PS X st (LS X.K cl m)) : PSs X [st] (LS X.K cl m) := pss_one h
theorem s_cons (h1 : PS X st (LS X.K cl m)) (h2 : PSs X rest (LS X.K cl n)) : PSs X (st :: rest) (LS X.K cl (dSeq m n)) := by
  refine (pss_cons h1 h2).imp fun Z σ H q => ?_
  obtain ⟨σd, S, B, F, φ, s, rs, o⟩ := q
  obtain ⟨f, S1, e, o⟩ := okS_bnd o
  refine LS.then_ s rs e ?_
  cases f with
  | nx σ1 => exact fun F1 φ1 H1 σ' s1 x1 rs1 => ⟨σ1, S1, B, F1, φ1, s1, rs1, o.ext x1⟩
  | ret d => obtain ⟨_, _, z, k⟩ := o; cases z; exact k
  | brk d => obtain ⟨_, _, z, k⟩ := o; cases z; exact k
  | ct d => obtain ⟨_, _, z, k⟩ := o; cases z; exact k
theorem s_never : PS X st (LS X.K cl dNever) := ps_never.imp fun Z σ H q => by
  obtain ⟨σd, S, B, F, φ, s, rs, f, S1, e, k⟩ := q
  cases e
theorem ss_never {sts : List Stmt} : PSs X sts (LS X.K cl dNever) := pss_never.imp fun Z σ H q => by
  obtain ⟨σd, S, B, F, φ, s, rs, f, S1, e, k⟩ := q
  cases e
theorem s_if {c : Expr} {a b : List Stmt} (hc : PT X c (LT X.K cl mt)) (ha : PSs X a (LS X.K cl m)) (hb : PSs X b (LS X.K cl n)) : PS X (.If c a b pos) (LS X.K cl (dIf mt m n)) := by
  refine (ps_if hc ha hb).imp fun Z σ H q => ?_
  obtain ⟨σd, S, B, F, φ, s, rs, o⟩ := q
  obtain ⟨t, S1, e, o⟩ := okS_bnd o
  refine LT.then_ s rs e fun F1 φ1 H1 s1 x1 rs1 => ?_
  split
  · rename_i ht; rw [if_pos ht] at o; exact ⟨σd, S1, B, F1, φ1, s1, rs1, o.ext x1⟩
  · rename_i ht; rw [if_neg ht] at o; exact ⟨σd, S1, B, F1, φ1, s1, rs1, o.ext x1⟩
theorem s_ret (he : PE X e (LE X.K cl me)) : PS X (.Return (some e) pos) (LS X.K cl (dRet me)) := by
  refine (ps_ret he).imp fun Z σ H q => ?_
  obtain ⟨σd, S, B, F, φ, s, rs, o⟩ := q
  obtain ⟨d, S1, e, o⟩ := okS_bnd o
  obtain ⟨_, _, z, k⟩ := o
  cases z
  exact LE.then_ s rs e fun F1 φ1 H1 u s1 x1 _ dr l => k F1 φ1 H1 u s1 x1 dr l
theorem s_retN : PS X (.Return none pos) (LS X.K cl dRetN) := ps_retN.imp fun Z σ H q => by
  obtain ⟨σd, S, B, F, φ, s, rs, f, S1, e, k⟩ := q
  cases e
  exact k F φ H .non s (.refl s) .non trivial
theorem s_drop (he : PE X e (LE X.K cl me)) (hs : swapsWith e none pos.line X.env = pure false := by rfl) : PS X (.Expr e pos) (LS X.K cl (dDrop me)) := by
  refine (ps_expr he hs).imp fun Z σ H q => ?_
  obtain ⟨σd, S, B, F, φ, s, rs, o⟩ := q
  obtain ⟨d, S1, e, o⟩ := okS_bnd o
  obtain ⟨_, _, z, k⟩ := o
  cases z
  exact LE.then_ s rs e fun F1 φ1 H1 u s1 x1 rs1 dr l => k F1 φ1 H1 σ s1 x1 rs1
theorem RS.set {K : PySem.W.Frag} {F : Hp} {φ : Nat → Addr} {k : Nat} {σd : En} {σ : L2.St} (r : RS K cl F φ k σd σ) (i : Nat) {d : D} {v : V} (dr : DR K cl F φ d v) (l : d.lt k) : RS K cl F φ k (σd.set i (some d)) (σ.set i (some v)) := by
  refine ⟨by rw [List.length_set, List.length_set]; exact r.1, fun j d' e => ?_⟩
  by_cases h : i = j
  · subst h
    rw [List.getElem?_set] at e
    rw [if_pos rfl] at e
    by_cases hi : i < σd.length
    · rw [if_pos hi] at e
      cases e
      exact ⟨l, v, by rw [List.getElem?_set_self (by rw [← r.1]; exact hi)], dr⟩
    · rw [if_neg hi] at e; cases e
  · rw [List.getElem?_set_ne h] at e
    obtain ⟨a, v', b, c⟩ := r.2 j d' e
    exact ⟨a, v', by rw [List.getElem?_set_ne h]; exact b, c⟩
theorem RS.unset {K : PySem.W.Frag} {F : Hp} {φ : Nat → Addr} {k : Nat} {σd : En} {σ : L2.St} (r : RS K cl F φ k σd σ) (i : Nat) : RS K cl F φ k (σd.set i none) σ := by
  refine ⟨by rw [List.length_set]; exact r.1, fun j d' e => ?_⟩
  by_cases h : i = j
  · subst h
    rw [List.getElem?_set, if_pos rfl] at e
    split at e <;> cases e
  · rw [List.getElem?_set_ne h] at e
    exact r.2 j d' e
theorem RS.wipe {K : PySem.W.Frag} {F : Hp} {φ : Nat → Addr} {k : Nat} {σ : L2.St} : ∀ (vs : List Nat) {σd : En}, RS K cl F φ k σd σ → RS K cl F φ k (wipeD vs σd) σ
  | [], _, r => r
  | i :: vs, _, r => RS.wipe vs (r.unset i)
theorem s_set {i : Nat} {x : Str} {pos' : Pos} (hN : X.N.Nodup) (hi : X.N[i]? = some x) (hx : Loc X.env.scope x) (he : PE X e (LE X.K cl me)) (hs : swapsWith e (some (.Name x pos')) pos.line X.env = pure false := by rfl) (hf : X.fn x = true ∨ X.env.scope.names.lookup x = some .local := by first | exact .inl rfl | exact .inr rfl | assumption) :
    PS X (.Assign [.Name x pos'] e pos) (LS X.K cl (dSet i me)) := by
  refine (ps_set hN hi hx he hs hf).imp fun Z σ H q => ?_
  obtain ⟨σd, S, B, F, φ, s, rs, o⟩ := q
  obtain ⟨d, S1, e, o⟩ := okS_bnd o
  obtain ⟨_, _, z, k⟩ := o
  cases z
  exact LE.then_ s rs e fun F1 φ1 H1 u s1 x1 rs1 dr l => k F1 φ1 H1 _ s1 x1 (rs1.set i dr l)
theorem s_wipe {vs : List Nat} (h : PS X st (LS X.K cl m)) : PS X st (LS X.K cl (dWipe vs m)) := h.imp fun Z σ H q => by
  obtain ⟨σd, S, B, F, φ, s, rs, o⟩ := q
  exact ⟨_, S, B, F, φ, s, rs.wipe vs, o⟩
theorem ss_wipe {vs : List Nat} (h : PSs X rest (LS X.K cl m)) : PSs X rest (LS X.K cl (dWipe vs m)) := h.imp fun Z σ H q => by
  obtain ⟨σd, S, B, F, φ, s, rs, o⟩ := q
  exact ⟨_, S, B, F, φ, s, rs.wipe vs, o⟩
theorem ss_block (h : PSs X rest (LS X.K cl m)) : PSs X rest (LS X.K cl (dBlock m)) := h.imp fun Z σ H q => by
  obtain ⟨σd, S, B, F, φ, s, rs, o⟩ := q
  obtain ⟨f, S1, e, o⟩ := okS_bnd o
  refine ⟨σd, ⟨S.len, S.os⟩, S.len :: B, F, φ, s.begin, rs, f, S1, e, ?_⟩
  cases f with
  | nx σ1 =>
    obtain ⟨_, _, z, k⟩ := o; cases z
    exact fun F1 φ1 H1 σ' s1 x1 rs1 => k _ _ _ _ (Sim.end_ s s1 x1.len) (Ext.end_ s1 x1) (outE_ok s1 x1.len rs1)
  | ct σ1 =>
    obtain ⟨_, _, z, k⟩ := o; cases z
    exact fun F1 φ1 H1 σ' s1 x1 rs1 => k _ _ _ _ (Sim.end_ s s1 x1.len) (Ext.end_ s1 x1) (outE_ok s1 x1.len rs1)
  | brk σ1 =>
    obtain ⟨_, _, z, k⟩ := o; cases z
    exact fun F1 φ1 H1 σ' s1 x1 rs1 => k _ _ _ _ (Sim.end_ s s1 x1.len) (Ext.end_ s1 x1) (outE_ok s1 x1.len rs1)
  | ret d =>
    dsimp only at o
    cases ed : outD S.len S1 d with
    | none => rw [ed] at o; obtain ⟨_, _, z, _⟩ := o; cases z
    | some d' =>
      rw [ed] at o
      obtain ⟨_, _, z, k⟩ := o; cases z
      intro F1 φ1 H1 u s1 x1 dr l
      obtain ⟨a, b⟩ := outD_ok s1 x1.len ed dr l
      exact k _ _ _ _ (Sim.end_ s s1 x1.len) (Ext.end_ s1 x1) a b

/-! ### defs -/
def startD (n : Nat) (ds : List D) : En := ds.map some ++ List.replicate (n - ds.length) none
theorem DRA.length {K : PySem.W.Frag} {F : Hp} {φ : Nat → Addr} {ds : List D} {vs : List V} (h : DRA K cl F φ ds vs) : ds.length = vs.length := Paired.length h
theorem DRA.get {K : PySem.W.Frag} {F : Hp} {φ : Nat → Addr} : ∀ {ds : List D} {vs : List V} {i : Nat} {d : D}, DRA K cl F φ ds vs → ds[i]? = some d → ∃ v, vs[i]? = some v ∧ DR K cl F φ d v
  | _, _, _, _, .nil, e => by simp at e
  | _, _, 0, _, .cons r _, e => by simp at e; subst e; exact ⟨_, rfl, r⟩
  | _, _, i + 1, d, .cons _ t, e => by
    obtain ⟨u, h1, h2⟩ := DRA.get (i := i) (d := d) t (by simpa using e)
    exact ⟨u, by simpa using h1, h2⟩
theorem rs_start {K : PySem.W.Frag} {F : Hp} {φ : Nat → Addr} {k : Nat} {N : List Str} {ds : List D} {vs : List V} (r : DRA K cl F φ ds vs) (l : ∀ d ∈ ds, d.lt k) : RS K cl F φ k (startD N.length ds) (L2.start N vs) := by
  have hl := r.length
  refine ⟨by unfold startD L2.start; simp [hl], fun i d e => ?_⟩
  unfold startD at e
  by_cases hi : i < ds.length
  · rw [List.getElem?_append_left (by simpa using hi), List.getElem?_map] at e
    cases e1 : ds[i]? with
    | none => rw [e1] at e; cases e
    | some d0 =>
      rw [e1] at e; cases e
      obtain ⟨v, ev, dr⟩ := r.get e1
      refine ⟨l d (List.mem_of_getElem? e1), v, ?_, dr⟩
      unfold L2.start
      rw [List.getElem?_append_left (by simpa [← hl] using hi), List.getElem?_map, ev]
      rfl
  · rw [List.getElem?_append_right (by simpa using hi), List.getElem?_replicate] at e
    split at e <;> cases e
/-- what a def promises, by its computation -/
def spOf (K : PySem.W.Frag) (cl : Nat → Addr) (m : MF) : Sp := fun vs H Q _ => ∃ ds S B F φ, Sim K cl S B F φ H ∧ DRA K cl F φ ds vs ∧ (∀ d ∈ ds, d.lt S.len) ∧ OkE K cl S B F φ H (m ds S) Q
/-- a def by its body: what it made becomes data -/
def dFn (k n : Nat) (body : MS) : MF := fun ds S => if ds.length = k then frameF S (body (startD n ds) ⟨S.len, S.os⟩) else none
def dFnL (k n : Nat) (body : MS) : MF := fun ds S => if ds.length = k then liveF (body (startD n ds) S) else none
theorem fn_len {K : PySem.W.Frag} {S : SH} {B : List Nat} {F : Hp} {φ : Nat → Addr} {H : Hp} {Q : VK} {ds : List D} {k : Nat} {r : Option (D × SH)} (h : OkE K cl S B F φ H (if ds.length = k then r else none) Q) : ds.length = k ∧ OkE K cl S B F φ H r Q := by
  by_cases e : ds.length = k
  · rw [if_pos e] at h; exact ⟨e, h⟩
  · rw [if_neg e] at h; obtain ⟨_, _, z, _⟩ := h; cases z
theorem sp_len {K : PySem.W.Frag} {k n : Nat} {m : MS} {vs : List V} {H : Hp} {Q : VK} {E : XK} (h : spOf K cl (dFn k n m) vs H Q E) : vs.length = k := by
  obtain ⟨ds, S, B, F, φ, s, dr, l, o⟩ := h
  rw [← dr.length]
  exact (fn_len o).1
theorem spL_len {K : PySem.W.Frag} {k n : Nat} {m : MS} {vs : List V} {H : Hp} {Q : VK} {E : XK} (h : spOf K cl (dFnL k n m) vs H Q E) : vs.length = k := by
  obtain ⟨ds, S, B, F, φ, s, dr, l, o⟩ := h
  rw [← dr.length]
  exact (fn_len o).1
theorem fn_body {K : PySem.W.Frag} {N : List Str} {k : Nat} {m : MS} {vs : List V} {H : Hp} {Q : VK} {E : XK} (h : spOf K cl (dFn k N.length m) vs H Q E) : LS K cl m { nx := fun _ H' => Q .non H', rt := Q } (L2.start N vs) H := by
  obtain ⟨ds, S, B, F, φ, s, dr, l, o⟩ := h
  have o := (fn_len o).2
  obtain ⟨f, S1, e, o⟩ := okE_bnd o
  refine ⟨_, ⟨S.len, S.os⟩, S.len :: B, F, φ, s.begin, rs_start dr l, f, S1, e, ?_⟩
  cases f with
  | nx σ1 =>
    obtain ⟨_, _, z, k⟩ := o; cases z
    exact fun F1 φ1 H1 σ' s1 x1 rs1 => k _ _ _ _ (Sim.end_ s s1 x1.len) (Ext.end_ s1 x1) .non trivial
  | ret d =>
    dsimp only at o
    cases ed : outD S.len S1 d with
    | none => rw [ed] at o; obtain ⟨_, _, z, _⟩ := o; cases z
    | some d' =>
      rw [ed] at o
      obtain ⟨_, _, z, k⟩ := o; cases z
      intro F1 φ1 H1 u s1 x1 dr l
      obtain ⟨a, b⟩ := outD_ok s1 x1.len ed dr l
      exact k _ _ _ _ (Sim.end_ s s1 x1.len) (Ext.end_ s1 x1) a b
  | brk _ => obtain ⟨_, _, z, _⟩ := o; cases z
  | ct _ => obtain ⟨_, _, z, _⟩ := o; cases z
theorem fnL_body {K : PySem.W.Frag} {N : List Str} {k : Nat} {m : MS} {vs : List V} {H : Hp} {Q : VK} {E : XK} (h : spOf K cl (dFnL k N.length m) vs H Q E) : LS K cl m { nx := fun _ H' => Q .non H', rt := Q } (L2.start N vs) H := by
  obtain ⟨ds, S, B, F, φ, s, dr, l, o⟩ := h
  have o := (fn_len o).2
  obtain ⟨f, S1, e, o⟩ := okE_bnd o
  refine ⟨_, S, B, F, φ, s, rs_start dr l, f, S1, e, ?_⟩
  cases f with
  | nx σ1 =>
    obtain ⟨_, _, z, k⟩ := o; cases z
    exact fun F1 φ1 H1 σ' s1 x1 rs1 => k _ _ _ _ s1 x1 .non trivial
  | ret d => obtain ⟨_, _, z, k⟩ := o; cases z; exact k
  | brk _ => obtain ⟨_, _, z, _⟩ := o; cases z
  | ct _ => obtain ⟨_, _, z, _⟩ := o; cases z
/-- THE RULE for a def -/
theorem fn_ok {P : Program} {w : World} {K : PySem.W.Frag} {mg : Str → Option Value} {base : Heap} {x qual : Str} {st : Stmt} {f : Addr} {fd : FuncData} {N ps : List Str} {k : Nat} {m : MS} (F : Fun K x qual st f fd) (S : FnScope N ps (defScope st))
    (h : ∀ (cdv : Value) (A : Around) (outer : List Env) (s : Shared) (H : Hp) (E : XK), Room k (A.deeper (envOfC qual (defScope st) s.heap.objs.size f cdv)) →
      PSs (cxOf CX0 P w K mg base N qual (defScope st) f cdv A outer s H E).nox (defBody st) (LS K cl m)) : FnOk P w K mg base CX0 (k + 1) f fd ps (spOf K cl (dFn ps.length N.length m)) :=
  F.ok S (fun vs H Q E q => sp_len q) fun cdv A outer s H vs Q E hr q => ⟨_, h cdv A outer s H E hr, fn_body q⟩
theorem fnL_ok {P : Program} {w : World} {K : PySem.W.Frag} {mg : Str → Option Value} {base : Heap} {x qual : Str} {st : Stmt} {f : Addr} {fd : FuncData} {N ps : List Str} {k : Nat} {m : MS} (F : Fun K x qual st f fd) (S : FnScope N ps (defScope st))
    (h : ∀ (cdv : Value) (A : Around) (outer : List Env) (s : Shared) (H : Hp) (E : XK), Room k (A.deeper (envOfC qual (defScope st) s.heap.objs.size f cdv)) →
      PSs (cxOf CX0 P w K mg base N qual (defScope st) f cdv A outer s H E).nox (defBody st) (LS K cl m)) : FnOk P w K mg base CX0 (k + 1) f fd ps (spOf K cl (dFnL ps.length N.length m)) :=
  F.ok S (fun vs H Q E q => spL_len q) fun cdv A outer s H vs Q E hr q => ⟨_, h cdv A outer s H E hr, fnL_body q⟩
end
end Pv
namespace Pv
open PySem PySem.Spec PyProof.Rows L2

theorem _root_.L2.Same.new {H H1 : Hp} {q : Addr} {o : HO} (a : Same H H1) (h : H1 q = none) : Same H (L2.upd H1 q o) := fun c u e => by
  rw [upd_ne (ne_of_none (a c u e) h)]
  exact a c u e
/-! ### new objects -/
def isP : D → Option P
  | .p x => some x
  | .ref _ => none
def toPs : List D → Option (List P)
  | [] => some []
  | .p x :: r => (toPs r).map (x :: ·)
  | .ref _ :: _ => none
@[simp] theorem toPs_map (ps : List P) : toPs (ps.map D.p) = some ps := by
  induction ps with
  | nil => rfl
  | cons x r ih => simp [toPs, ih]
theorem toPs_of : ∀ {ds : List D} {ps : List P}, toPs ds = some ps → ds = ps.map D.p
  | [], ps, h => by cases h; rfl
  | .p x :: r, ps, h => by
    unfold toPs at h
    cases e : toPs r with
    | none => rw [e] at h; cases h
    | some qs => rw [e] at h; cases h; rw [List.map_cons, ← toPs_of e]
  | .ref n :: r, ps, h => by cases h
abbrev SH.push (S : SH) (o : Ob) : SH := ⟨S.b, S.os ++ [o]⟩
abbrev SH.put (S : SH) (n : Nat) (o : Ob) : SH := ⟨S.b, S.os.set n o⟩
def newT (ds : List D) (S : SH) : Option (D × SH) := match toPs ds with
  | some ps => if ps.length ≤ sizeLine then some (.p (.tup ps), S) else none
  | none => none
def newL (live : Bool) (ds : List D) (S : SH) : Option (D × SH) := if ds.length ≤ sizeLine then (if live = true then some (.ref S.len, S.push (.lst ds)) else match toPs ds with
  | some ps => some (.p (.lst ps), S)
  | none => none) else none
/-- the items of a list, wherever it stands -/
def asL (d : D) (S : SH) : Option (List D) := match d with
  | .p (.lst ps) => some (ps.map .p)
  | .ref n => match S.os[n]? with | some (.lst ds) => some ds | _ => none
  | _ => none
/-- .. of a list or a tuple -/
def asQ (d : D) (S : SH) : Option (List D) := match d with
  | .p (.lst ps) => some (ps.map .p)
  | .p (.tup ps) => some (ps.map .p)
  | .ref n => match S.os[n]? with | some (.lst ds) => some ds | _ => none
  | _ => none
section
variable {K : PySem.W.Frag} {cl : Nat → Addr} {S S' S1 S2 : SH} {B : List Nat} {F F' F0 F1 F2 H H' H0 H1 H2 : Hp} {φ φ' φ0 φ1 φ2 : Nat → Addr} {Q : VK}
theorem RpA.dra {ps : List P} {vs : List V} (h : RpA K cl F ps vs) : DRA K cl F φ (ps.map D.p) vs := by
  induction ps generalizing vs with
  | nil => cases h; exact .nil
  | cons x r ih => cases h with | cons a b => exact .cons a (ih b)
theorem DRA.rpa {ps : List P} {vs : List V} (h : DRA K cl F φ (ps.map D.p) vs) : RpA K cl F ps vs := by
  induction ps generalizing vs with
  | nil => cases h; exact .nil
  | cons x r ih => cases h with | cons a b => exact .cons a (ih b)
theorem lt_map {ps : List P} {k : Nat} : ∀ d ∈ ps.map D.p, d.lt k := fun d hd => by
  obtain ⟨x, _, rfl⟩ := List.mem_map.mp hd
  trivial
theorem Sim.keep (s : Sim K cl S B F φ H) (k : Same H H') : Sim K cl S B F φ H' := by
  refine ⟨s.le.trans k, fun n o e => ⟨(s.ob n o e).1, ?_⟩, s.inj, s.wf, s.bs, s.bl⟩
  have z := (s.ob n o e).2
  cases q : H (φ n) with
  | none => exact absurd q z.ne0
  | some u => rw [k _ _ q, ← q]; exact z
theorem Sim.none_p (s : Sim K cl S B F φ H) {p : Addr} (hp : H p = none) : F p = none ∧ ∀ n, n < S.len → φ n ≠ p := by
  refine ⟨?_, fun n h e => s.ne0 h (by rw [e]; exact hp)⟩
  cases q : F p with
  | none => rfl
  | some u => rw [s.le _ _ q] at hp; cases hp
theorem Ext.ofSame (s : Sim K cl S B F φ H) (k : Same H H') : Ext S F φ H S F φ H' :=
  ⟨Same.refl _, Nat.le_refl _, rfl, fun _ _ => rfl, fun n h1 h2 => absurd h1 (Nat.not_le_of_lt h2), fun a o e _ => k a o e, fun n h => (s.keep k).ne0 h, fun _ _ _ h _ => h⟩
/-- a new object that is data -/
theorem Sim.frz (s : Sim K cl S B F φ H) (k : Same H H') {p : Addr} {o : HO} (hp : H p = none) (ho : H' p = some o) : Sim K cl S B (upd F p o) φ H' ∧ Ext S F φ H S (upd F p o) φ H' := by
  obtain ⟨fp, np⟩ := s.none_p hp
  have sf : Same F (upd F p o) := fun a u e => by rw [upd_ne (ne_of_none e fp)]; exact e
  have s1 := s.keep k
  refine ⟨⟨fun a u e => ?_, fun n u e => ⟨?_, OR.mono sf (fun _ _ => rfl) (s1.wf n u e) (s1.ob n u e).2⟩, s1.inj, s1.wf, s1.bs, s1.bl⟩, ⟨sf, Nat.le_refl _, rfl, fun _ _ => rfl, fun n h1 h2 => absurd h1 (Nat.not_le_of_lt h2), fun a u e _ => k a u e, fun n h => s1.ne0 h, fun a u e f _ => ?_⟩⟩
  · by_cases h : a = p
    · subst h; rw [upd_same] at e; rw [ho, e]
    · rw [upd_ne h] at e; exact s1.le a u e
  · rw [upd_ne (np n (List.getElem?_eq_some_iff.mp e).1)]; exact (s1.ob n u e).1
  · rw [upd_ne (ne_of_none e hp)]; exact f
/-- a new object that may change -/
theorem Sim.push (s : Sim K cl S B F φ H) (k : Same H H') {p : Addr} {o : Ob} (hp : H p = none) (ho : OR K cl F φ (H' p) o) (hl : o.lt S.len) :
    Sim K cl (S.push o) B F (fun n => if n = S.len then p else φ n) H' ∧ Ext S F φ H (S.push o) F (fun n => if n = S.len then p else φ n) H' := by
  obtain ⟨fp, np⟩ := s.none_p hp
  have s1 := s.keep k
  have hlen : (S.push o).len = S.len + 1 := by show (S.os ++ [o]).length = _; simp
  have ph : ∀ n, n < S.len → (if n = S.len then p else φ n) = φ n := fun n h => if_neg (by omega)
  have get : ∀ (n : Nat) (u : Ob), (S.push o).os[n]? = some u → (n < S.len ∧ S.os[n]? = some u) ∨ (n = S.len ∧ u = o) := fun n u e => by
    have e : (S.os ++ [o])[n]? = some u := e
    by_cases h : n < S.len
    · rw [List.getElem?_append_left h] at e; exact .inl ⟨h, e⟩
    · have hz : S.os.length = S.len := rfl
      rw [List.getElem?_append_right (by omega)] at e
      right
      have h2 : n - S.os.length = 0 := by
        have := (List.getElem?_eq_some_iff.mp e).1
        simp at this; omega
      rw [h2] at e
      simp at e
      exact ⟨by have : S.os.length = S.len := rfl; omega, e.symm⟩
  refine ⟨⟨s1.le, fun n u e => ?_, fun n m h1 h2 e => ?_, fun n u e => ?_, fun b hb => ⟨(s1.bs b hb).1, fun n u e h => ?_⟩, by rw [hlen]; exact Nat.le_succ_of_le s.bl⟩, ⟨Same.refl _, by rw [hlen]; exact Nat.le_succ _, rfl, ph, fun n h1 h2 => ?_, fun a u e _ => k a u e, fun n h => s1.ne0 h, fun _ _ _ h _ => h⟩⟩
  · rcases get n u e with ⟨h, e'⟩ | ⟨h, e'⟩
    · rw [ph n h]; exact ⟨(s1.ob n u e').1, OR.mono (Same.refl _) ph (s1.wf n u e') (s1.ob n u e').2⟩
    · subst h; subst e'; rw [if_pos rfl]; exact ⟨fp, OR.mono (Same.refl _) ph hl ho⟩
  · rw [hlen] at h1 h2
    by_cases a : n = S.len
    · by_cases b : m = S.len
      · omega
      · rw [if_pos a, if_neg b] at e
        exact absurd e.symm (np m (by omega))
    · by_cases b : m = S.len
      · rw [if_neg a, if_pos b] at e
        exact absurd e (np n (by omega))
      · rw [if_neg a, if_neg b] at e
        exact s1.inj n m (by omega) (by omega) e
  · rw [hlen]
    rcases get n u e with ⟨h, e'⟩ | ⟨h, e'⟩
    · exact fun d hd => (s1.wf n u e' d hd).mono (Nat.le_succ _)
    · subst e'; exact fun d hd => (hl d hd).mono (Nat.le_succ _)
  · rcases get n u e with ⟨h1, e'⟩ | ⟨h1, e'⟩
    · exact (s1.bs b hb).2 n u e' h
    · have := (s1.bs b hb).1; have := s.bl; omega
  · rw [hlen] at h2
    have e : n = S.len := by omega
    rw [if_pos e]; exact hp
/-- an object that may change is changed -/
theorem Sim.put (s : Sim K cl S B F φ H) {n : Nat} {o : Ob} {x : HO} (hn : n < S.len) (ho : OR K cl F φ (some x) o) (hl : o.lt S.len) (hb : S.b ≤ n ∨ ∀ k, o.lt k) :
    Sim K cl (S.put n o) B F φ (upd H (φ n) x) ∧ Ext S F φ H (S.put n o) F φ (upd H (φ n) x) := by
  have hlen : (S.put n o).len = S.len := by show (S.os.set n o).length = _; simp
  have fn := (s.ob n _ (List.getElem?_eq_getElem hn)).1
  have get : ∀ (m : Nat) (u : Ob), (S.put n o).os[m]? = some u → (m ≠ n ∧ S.os[m]? = some u) ∨ (m = n ∧ u = o) := fun m u e => by
    have e : (S.os.set n o)[m]? = some u := e
    by_cases h : n = m
    · subst h
      rw [List.getElem?_set_self hn] at e
      cases e
      exact .inr ⟨rfl, rfl⟩
    · rw [List.getElem?_set_ne h] at e; exact .inl ⟨Ne.symm h, e⟩
  have ne : ∀ m, m < S.len → m ≠ n → φ m ≠ φ n := fun m hm h e => h (s.inj m n hm hn e)
  have all : Sim K cl (S.put n o) B F φ (upd H (φ n) x) := by
    refine ⟨fun a u e => ?_, fun m u e => ?_, fun a b h1 h2 => ?_, fun m u e => ?_, fun b hb' => ⟨(s.bs b hb').1, fun m u e h => ?_⟩, by rw [hlen]; exact s.bl⟩
    · rw [upd_ne (ne_of_none e fn)]; exact s.le a u e
    · rcases get m u e with ⟨h, e⟩ | ⟨rfl, rfl⟩
      · rw [upd_ne (ne m (List.getElem?_eq_some_iff.mp e).1 h)]; exact s.ob m u e
      · rw [upd_same]; exact ⟨fn, ho⟩
    · exact s.inj a b (by omega) (by omega)
    · rw [hlen]
      rcases get m u e with ⟨h, e⟩ | ⟨rfl, rfl⟩
      · exact s.wf m u e
      · exact hl
    · rcases get m u e with ⟨h1, e⟩ | ⟨rfl, rfl⟩
      · exact (s.bs b hb').2 m u e h
      · rcases hb with hb | hb
        · have := (s.bs b hb').1; omega
        · exact hb b
  refine ⟨all, ⟨Same.refl _, Nat.le_of_eq hlen.symm, rfl, fun _ _ => rfl, fun m h1 h2 => by omega, fun a u e h => ?_, fun m hm => all.ne0 (by omega), fun _ _ _ h _ => h⟩⟩
  rw [upd_ne (fun z => h n hn z.symm)]; exact e
theorem newT_ok {ds : List D} {vs : List V} (h : OkE K cl S B F φ H (newT ds S) Q) (s : Sim K cl S B F φ H) (r : DRA K cl F φ ds vs) : vs.length ≤ sizeLine ∧ ∀ p, H p = none → Q (.ref p) (upd H p (.tup vs)) := by
  unfold newT at h
  cases e : toPs ds with
  | none => rw [e] at h; obtain ⟨_, _, z, _⟩ := h; cases z
  | some ps =>
    rw [e] at h
    have ed := toPs_of e
    subst ed
    have hlen := r.length
    rw [List.length_map] at hlen
    dsimp only at h
    by_cases hz : ps.length ≤ sizeLine
    · rw [if_pos hz] at h
      refine ⟨by rw [← hlen]; exact hz, fun p hp => ?_⟩
      obtain ⟨s1, x1⟩ := s.frz (H' := upd H p (.tup vs)) (Same.new (Same.refl H) hp) hp upd_same
      exact h.fin rfl s1 x1 (Rp.tup (.inl (.inl upd_same)) (RpA.mono x1.fz r.rpa)) trivial
    · rw [if_neg hz] at h; obtain ⟨_, _, z, _⟩ := h; cases z
theorem newL_ok {live : Bool} {ds : List D} {vs : List V} (h : OkE K cl S B F φ H (newL live ds S) Q) (s : Sim K cl S B F φ H) (r : DRA K cl F φ ds vs) (l : ∀ d ∈ ds, d.lt S.len) : vs.length ≤ sizeLine ∧ ∀ p H', H p = none → Same H H' → H' p = some (.lst vs) → Q (.ref p) H' := by
  unfold newL at h
  have hlen := r.length
  by_cases hz : ds.length ≤ sizeLine
  · rw [if_pos hz] at h
    refine ⟨by rw [← hlen]; exact hz, fun p H' hp sm hv => ?_⟩
    cases live with
    | true =>
      rw [if_pos rfl] at h
      obtain ⟨s1, x1⟩ := s.push (H' := H') sm (o := .lst ds) hp ⟨vs, hv, r⟩ l
      exact h.fin rfl s1 x1 (show V.ref p = V.ref (if S.len = S.len then p else φ S.len) by rw [if_pos rfl]) (show S.len < (S.os ++ [Ob.lst ds]).length by simp)
    | false =>
      rw [if_neg Bool.false_ne_true] at h
      cases e : toPs ds with
      | none => rw [e] at h; obtain ⟨_, _, z, _⟩ := h; cases z
      | some ps =>
        rw [e] at h
        have ed := toPs_of e
        subst ed
        obtain ⟨s1, x1⟩ := s.frz (H' := H') sm hp hv
        exact h.fin rfl s1 x1 (Rp.lst (.inl (.inl upd_same)) (RpA.mono x1.fz r.rpa)) trivial
  · rw [if_neg hz] at h; obtain ⟨_, _, z, _⟩ := h; cases z
theorem newL_ok1 {live : Bool} {ds : List D} {vs : List V} (h : OkE K cl S B F φ H (newL live ds S) Q) (s : Sim K cl S B F φ H) (r : DRA K cl F φ ds vs) (l : ∀ d ∈ ds, d.lt S.len) : vs.length ≤ sizeLine ∧ ∀ p, H p = none → Q (.ref p) (upd H p (.lst vs)) := by
  obtain ⟨a, b⟩ := newL_ok h s r l
  exact ⟨a, fun p hp => b p _ hp (Same.new (Same.refl H) hp) upd_same⟩
/-- a list's items are there -/
theorem asL_ok (s : Sim K cl S B F φ H) {d : D} {ds : List D} {v : V} (e : asL d S = some ds) (r : DR K cl F φ d v) (l : d.lt S.len) : ∃ a vs, v = .ref a ∧ SqL K H a vs ∧ DRA K cl F φ ds vs ∧ ∀ x ∈ ds, x.lt S.len := by
  cases d with
  | p x =>
    cases x <;> try (cases e; done)
    rename_i ps
    cases e
    cases (show Rp K cl F (.lst ps) v from r) with
    | lst q t => exact ⟨_, _, rfl, SqL.mono s.le q, t.dra, lt_map⟩
  | ref n =>
    unfold asL at e
    dsimp only at e
    cases q : S.os[n]? with
    | none => rw [q] at e; cases e
    | some o =>
      rw [q] at e
      cases o <;> try (cases e; done)
      rename_i ds'
      cases e
      obtain ⟨vs, ev, rv⟩ := (s.ob n _ q).2
      exact ⟨_, vs, r, .inl (.inl ev), rv, s.wf n _ q⟩
theorem asQ_ok (s : Sim K cl S B F φ H) {d : D} {ds : List D} {v : V} (e : asQ d S = some ds) (r : DR K cl F φ d v) (l : d.lt S.len) : ∃ a vs, v = .ref a ∧ (SqL K H a vs ∨ SqT K H a vs) ∧ DRA K cl F φ ds vs ∧ ∀ x ∈ ds, x.lt S.len := by
  cases d with
  | p x =>
    cases x <;> try (cases e; done)
    · rename_i ps
      cases e
      cases (show Rp K cl F (.tup ps) v from r) with
      | tup q t => exact ⟨_, _, rfl, .inr (SqT.mono s.le q), t.dra, lt_map⟩
    · rename_i ps
      cases e
      cases (show Rp K cl F (.lst ps) v from r) with
      | lst q t => exact ⟨_, _, rfl, .inl (SqL.mono s.le q), t.dra, lt_map⟩
  | ref n =>
    obtain ⟨a, vs, h1, h2, h3⟩ := asL_ok s (d := .ref n) e r l
    exact ⟨a, vs, h1, .inl h2, h3⟩
end

/-! ### displays, calls -/
def dTup (m : MA) : ME := fun σ S => bnd (m σ S) fun ds S1 => newT ds S1
def dLst (live : Bool) (m : MA) : ME := fun σ S => bnd (m σ S) fun ds S1 => newL live ds S1
def fldsOf (d : D) (S : SH) : Option (Nat × List (Str × D)) := match d with
  | .p (.ins c fs) => some (c, fs.map fun p => (p.1, .p p.2))
  | .ref n => match S.os[n]? with | some (.ins c fs) => some (c, fs) | _ => none
  | _ => none
def dFld (cs : List Nat) (f : Str) (d : D) (S : SH) : Option (D × SH) := match fldsOf d S with
  | some (c, fs) => if cs.contains c = true then (match fs.lookup f with | some x => some (x, S) | none => none) else none
  | none => none
def dMeth (c : Nat) (nm : Str) (f : MF) (o : ME) (a : MA) : ME := fun σ S => bnd (o σ S) fun d S1 => match fldsOf d S1 with
  | some (c', fs) => if c' = c ∧ fs.lookup nm = none then bnd (a σ S1) fun xs S2 => f (d :: xs) S2 else none
  | none => none
/-- C(..) -/
def dMake (live : Bool) (c : Nat) (init : MF) (a : MA) : ME := fun σ S => bnd (a σ S) fun xs S1 =>
  if live = true then bnd (init (.ref S1.len :: xs) (S1.push (.ins c []))) fun d S2 => match d with | .p .non => some (.ref S1.len, S2) | _ => none
  else bnd (init (.ref S1.len :: xs) ⟨S1.len, S1.os ++ [.ins c []]⟩) fun d S2 => match d with
    | .p .non => match outD S1.len S2 (.ref S1.len) with | some d' => some (d', cutS S1 S2) | none => none
    | _ => none
/-- o.f = v -/
def putFD (f : Str) (v : D) : List (Str × D) → List (Str × D)
  | [] => [(f, v)]
  | (g, x) :: r => if g = f then (g, v) :: r else (g, x) :: putFD f v r
def okRef (S : SH) (n : Nat) : D → Bool
  | .p _ => true
  | .ref _ => decide (S.b ≤ n)
@[simp] theorem okRef_p (S : SH) (n : Nat) (x : P) : okRef S n (.p x) = true := id rfl
def setFld (cs : List Nat) (f : Str) (o v : D) (S : SH) : Option SH := match o with
  | .ref n => match S.os[n]? with
    | some (.ins c fs) => if cs.contains c = true ∧ fs.length < 1000 ∧ okRef S n v = true then some (S.put n (.ins c (putFD f v fs))) else none
    | _ => none
  | _ => none
def dSetF (cs : List Nat) (f : Str) (o v : ME) : MS := fun σ S => bnd (v σ S) fun y S1 => bnd (o σ S1) fun x S2 => match setFld cs f x y S2 with | some S3 => some (.nx σ, S3) | none => none

section
variable {X : Cx} {cl : Nat → Addr} {es : List Expr} {e o value : Expr} {pos pos' : Pos} {mr : MA} {me mo mv : ME}
theorem k_tup {x1} (h : PA X es (LA X.K cl mr)) : PE X (.Tuple es x1 pos) (LE X.K cl (dTup mr)) := by
  refine (pe_tup h).imp fun σ H Q q => ?_
  obtain ⟨σd, S, B, F, φ, s, rs, o⟩ := q
  obtain ⟨ds, S1, e, o⟩ := okE_bnd o
  exact LA.then_ s rs e fun F1 φ1 H1 vs s1 x1 rs1 dr l => newT_ok (o.ext x1) s1 dr
theorem k_lst {live : Bool} (h : PA X es (LA X.K cl mr)) : PE X (.List es pos) (LE X.K cl (dLst live mr)) := by
  refine (pe_lst h).imp fun σ H Q q => ?_
  obtain ⟨σd, S, B, F, φ, s, rs, o⟩ := q
  obtain ⟨ds, S1, e, o⟩ := okE_bnd o
  exact LA.then_ s rs e fun F1 φ1 H1 vs s1 x1 rs1 dr l => newL_ok1 (o.ext x1) s1 dr l
theorem lookup_drk {K : PySem.W.Frag} {F : Hp} {φ : Nat → Addr} {f : Str} : ∀ {fs : List (Str × D)} {gs : List (Str × V)}, DRK K cl F φ fs gs → (fs.lookup f = none → gs.lookup f = none) ∧ ∀ x, fs.lookup f = some x → ∃ v, gs.lookup f = some v ∧ DR K cl F φ x v
  | _, _, .nil => ⟨fun _ => rfl, fun x h => by cases h⟩
  | (k, x) :: fs, (k', v) :: gs, .cons r t => by
    obtain ⟨rfl, r⟩ := r
    obtain ⟨i1, i2⟩ := lookup_drk (f := f) t
    rw [List.lookup_cons, List.lookup_cons]
    cases hk : f == k with
    | true => exact ⟨fun z => by simp at z, fun y hy => by simp at hy; subst hy; exact ⟨v, by simp, r⟩⟩
    | false => exact ⟨fun z => by simpa using i1 (by simpa using z), fun y hy => by simpa using i2 y (by simpa using hy)⟩
theorem RpF.drk {K : PySem.W.Frag} {F : Hp} {φ : Nat → Addr} : ∀ {fs : List (Str × P)} {gs : List (Str × V)}, RpF K cl F fs gs → DRK K cl F φ (fs.map fun p => (p.1, D.p p.2)) gs
  | _, _, .nil => .nil
  | _, _, .cons a b => .cons ⟨rfl, a⟩ (RpF.drk b)
theorem flds_ok {K : PySem.W.Frag} {S : SH} {B : List Nat} {F : Hp} {φ : Nat → Addr} {H : Hp} (s : Sim K cl S B F φ H) {d : D} {c : Nat} {fs : List (Str × D)} {v : V} (e : fldsOf d S = some (c, fs)) (r : DR K cl F φ d v) : ∃ a dx gs, v = .ref a ∧ H a = some (.ins (cl c) dx gs) ∧ DRK K cl F φ fs gs ∧ ∀ x ∈ fs.map (·.2), x.lt S.len := by
  cases d with
  | p x =>
    cases x <;> try (cases e; done)
    rename_i c' fs'
    cases e
    cases (show Rp K cl F (.ins c fs') v from r) with
    | ins q t => exact ⟨_, _, _, rfl, s.le _ _ q, t.drk, fun x hx => by
        obtain ⟨p, hp, rfl⟩ := List.mem_map.mp hx
        obtain ⟨p', hp', rfl⟩ := List.mem_map.mp hp
        trivial⟩
  | ref n =>
    unfold fldsOf at e
    dsimp only at e
    cases q : S.os[n]? with
    | none => rw [q] at e; cases e
    | some o =>
      rw [q] at e
      cases o <;> try (cases e; done)
      rename_i c' fs'
      cases e
      obtain ⟨dx, gs, ev, rv⟩ := (s.ob n _ q).2
      exact ⟨_, dx, gs, r, ev, rv, s.wf n _ q⟩
theorem k_fld {f : Str} {cs : List Nat} (hc : ∀ c ∈ cs, Cls X.K (cl c) ∧ NoAttr X.K (cl c) f) (he : PE X e (LE X.K cl me)) (hb : attributeBase e f X.env (eval e X.env) = eval e X.env := by rfl) : PE X (.Attribute e f pos) (LE X.K cl (dUn (dFld cs f) me)) := by
  refine (pe_fld he hb).imp fun σ H Q q => ?_
  obtain ⟨σd, S, B, F, φ, s, rs, o⟩ := q
  obtain ⟨d, S1, e, o⟩ := okE_bnd o
  refine LE.then_ s rs e fun F1 φ1 H1 x s1 x1 rs1 dr l => ?_
  have o := o.ext x1
  unfold dFld at o
  cases e1 : fldsOf d S1 with
  | none => rw [e1] at o; obtain ⟨_, _, z, _⟩ := o; cases z
  | some p =>
    obtain ⟨c, fs⟩ := p
    rw [e1] at o
    obtain ⟨a, dx, gs, rfl, ha, rf, lf⟩ := flds_ok s1 e1 dr
    dsimp only at o
    by_cases hm : cs.contains c = true
    · rw [if_pos hm] at o
      cases e2 : fs.lookup f with
      | none => rw [e2] at o; obtain ⟨_, _, z, _⟩ := o; cases z
      | some y =>
        rw [e2] at o
        obtain ⟨v, hv, rv⟩ := (lookup_drk rf).2 y e2
        obtain ⟨h1, h2⟩ := hc c (by simpa using hm)
        exact ⟨a, cl c, dx, gs, v, rfl, ha, h1, h2, hv, o.fin0 rfl s1 rv (lf y (by
          exact List.mem_map.mpr ⟨_, PySem.mem_of_lookup e2, rfl⟩))⟩
    · rw [if_neg hm] at o; obtain ⟨_, _, z, _⟩ := o; cases z
end
section
variable {K : PySem.W.Frag} {cl : Nat → Addr} {S S' S1 S2 : SH} {B : List Nat} {F F' F1 F2 H H' H1 H2 : Hp} {φ φ' φ1 φ2 : Nat → Addr}
theorem okRef_b {n : Nat} {d : D} (h : okRef S n d = true) : S.b ≤ n ∨ ∀ k, d.lt k := by
  cases d with
  | p x => exact .inr fun _ => trivial
  | ref m => exact .inl (of_decide_eq_true h)
/-- the object at n may hold what o holds: what it held, data, or places where it is of this def -/
theorem putGen {n : Nat} {o : Ob} {x : HO} {u0 : Ob} (s : Sim K cl S B F φ H) (q : S.os[n]? = some u0) (he : ∀ y ∈ o.ds, (∀ k, y.lt k) ∨ y ∈ u0.ds ∨ (S.b ≤ n ∧ y.lt S.len)) (ho : OR K cl F φ (some x) o) :
    Sim K cl (S.put n o) B F φ (upd H (φ n) x) ∧ Ext S F φ H (S.put n o) F φ (upd H (φ n) x) := by
  have hn : n < S.len := (List.getElem?_eq_some_iff.mp q).1
  have wf := s.wf n _ q
  have lt1 : o.lt S.len := fun y hy => by
    rcases he y hy with h | h | h
    · exact h _
    · exact wf y h
    · exact h.2
  have hlen : (S.put n o).len = S.len := by show (S.os.set n o).length = _; simp
  have fn := (s.ob n _ q).1
  have get : ∀ (m : Nat) (u : Ob), (S.put n o).os[m]? = some u → (m ≠ n ∧ S.os[m]? = some u) ∨ (m = n ∧ u = o) := fun m u e => by
    have e : (S.os.set n o)[m]? = some u := e
    by_cases h : n = m
    · subst h
      rw [List.getElem?_set_self hn] at e
      cases e
      exact .inr ⟨rfl, rfl⟩
    · rw [List.getElem?_set_ne h] at e; exact .inl ⟨Ne.symm h, e⟩
  have ne : ∀ m, m < S.len → m ≠ n → φ m ≠ φ n := fun m hm h e => h (s.inj m n hm hn e)
  have all : Sim K cl (S.put n o) B F φ (upd H (φ n) x) := by
    refine ⟨fun a u e => ?_, fun m u e => ?_, fun a b h1 h2 => ?_, fun m u e => ?_, fun b hb' => ⟨(s.bs b hb').1, fun m u e h' => ?_⟩, by rw [hlen]; exact s.bl⟩
    · rw [upd_ne (ne_of_none e fn)]; exact s.le a u e
    · rcases get m u e with ⟨h, e⟩ | ⟨rfl, rfl⟩
      · rw [upd_ne (ne m (List.getElem?_eq_some_iff.mp e).1 h)]; exact s.ob m u e
      · rw [upd_same]; exact ⟨fn, ho⟩
    · exact s.inj a b (by omega) (by omega)
    · rw [hlen]
      rcases get m u e with ⟨h, e⟩ | ⟨rfl, rfl⟩
      · exact s.wf m u e
      · exact lt1
    · rcases get m u e with ⟨h1, e⟩ | ⟨rfl, rfl⟩
      · exact (s.bs b hb').2 m u e h'
      · intro y hy
        rcases he y hy with h | h | h
        · exact h b
        · exact (s.bs b hb').2 m _ q h' y h
        · have := (s.bs b hb').1; omega
  refine ⟨all, ⟨Same.refl _, Nat.le_of_eq hlen.symm, rfl, fun _ _ => rfl, fun m h1 h2 => by omega, fun a u e h => ?_, fun m hm => all.ne0 (by omega), fun _ _ _ h _ => h⟩⟩
  rw [upd_ne (fun z => h n hn z.symm)]; exact e
end
end Pv
namespace Pv
open PySem PySem.Spec PyProof.Rows L2

section
variable {X : Cx} {cl : Nat → Addr} {CX : CXT} {es : List Expr} {e o value : Expr} {pos pos' p apos : Pos} {mr : MA} {me mo mv : ME} {k : Nat} {f C : Addr} {fd : FuncData} {ps : List Str} {m : MF} {E : XK} {x nm : Str}
theorem k_call (F : FnOk X.prog X.w X.K X.mg X.base CX k f fd ps (spOf X.K cl m)) (hr : Room k X.A) (hg : Gl X x) (hm : X.mg x = some (.ref f)) (hk : PySem.W.keepIn X.K (.ref f) = true) (hb : Binds X.K fd ps []) (hx : Passes CX X E)
    (ha : PA X (e :: es) (LA X.K cl mr)) (hdb : (x == ("__debug__" : Str)) = false := by decide) (he : starEach (e :: es) X.env = (false, eval e X.env) :: starEach es X.env := by rfl) (hpl : (backTo pos (starEach es X.env)).any (·.1) = false := by rfl) :
    PE X (.Call (.Name x p) (e :: es) [] pos) (LE X.K cl (dCall m mr)) := by
  refine (pe_call F hr hg hm hk hb .nil hx ha hdb he hpl).imp fun σ H Q q => ?_
  refine e_call (r := fun vs H1 Q => spOf X.K cl m (vs ++ []) H1 Q E) (fun S B F φ H ds xs Q s dr l o => ?_) q
  show spOf X.K cl m (xs ++ []) H Q E
  rw [List.append_nil]
  exact ⟨ds, S, B, F, φ, s, dr, l, o⟩
theorem k_call0 (F : FnOk X.prog X.w X.K X.mg X.base CX k f fd ps (spOf X.K cl m)) (hr : Room k X.A) (hg : Gl X x) (hm : X.mg x = some (.ref f)) (hk : PySem.W.keepIn X.K (.ref f) = true) (hb : Binds X.K fd ps []) (hx : Passes CX X E)
    (hdb : (x == ("__debug__" : Str)) = false := by decide) : PE X (.Call (.Name x p) [] [] pos) (LE X.K cl (dCall m dNil)) := by
  refine (pe_call0 F hr hg hm hk hb .nil hx hdb).imp fun σ H Q q => ?_
  obtain ⟨σd, S, B, F, φ, s, rs, o⟩ := q
  exact ⟨[], S, B, F, φ, s, .nil, fun _ z => absurd z (by simp), o⟩
theorem e_meth {c : Nat} {σ : L2.St} {H : Hp} {Q : VK} (hx : C = cl c) (q : LE X.K cl (dMeth c nm m mo mr) σ H Q) : tMeth C nm (spOf X.K cl m) [] E (LE X.K cl mo) (LA X.K cl mr) σ H Q := by
  obtain ⟨σd, S, B, F, φ, s, rs, o⟩ := q
  obtain ⟨d, S1, e, o⟩ := okE_bnd o
  refine LE.then_ s rs e fun F1 φ1 H1 x s1 x1 rs1 dr1 l1 => ?_
  cases e1 : fldsOf d S1 with
  | none => rw [e1] at o; obtain ⟨_, _, z, _⟩ := o; cases z
  | some p =>
    obtain ⟨c', fs⟩ := p
    rw [e1] at o
    obtain ⟨a, dx, gs, rfl, ha, rf, lf⟩ := flds_ok s1 e1 dr1
    dsimp only at o
    by_cases hc : c' = c ∧ fs.lookup nm = none
    · rw [if_pos hc] at o
      obtain ⟨hc1, hn⟩ := hc
      obtain ⟨xs, S2, em, o2⟩ := okE_bnd o
      refine ⟨a, dx, gs, rfl, by rw [hx, ← hc1]; exact ha, (lookup_drk rf).1 hn, ?_⟩
      refine LA.then_ s1 rs1 em fun F2 φ2 H2 vs s2 x2 rs2 dr2 l2 => ?_
      rw [List.append_nil]
      refine ⟨d :: xs, S2, B, F2, φ2, s2, .cons (x2.dr l1 dr1) dr2, fun y hy => ?_, o2.ext (x1.trans x2)⟩
      rcases List.mem_cons.mp hy with rfl | hy
      · exact x2.lt l1
      · exact l2 y hy
    · rw [if_neg hc] at o; obtain ⟨_, _, z, _⟩ := o; cases z
theorem k_meth {c : Nat} {pl : Sem Bool} (he : PE X o (LE X.K cl mo)) (cc : Cls X.K C) (hm : Meth X.K C nm f) (F : FnOk X.prog X.w X.K X.mg X.base CX k f fd ps (spOf X.K cl m)) (hr : Room k X.A) (hb : Binds X.K fd ps []) (hx : Passes CX X E) (ha : PA X (e :: es) (LA X.K cl mr)) (hcl : C = cl c := by rfl)
    (hst : starEach (e :: es) X.env = (false, eval e X.env) :: starEach es X.env := by rfl) (hpl : (backTo pos (starEach es X.env)).any (·.1) = false := by rfl)
    (ht : eval (.Call (.Attribute o nm apos) (e :: es) [] pos) X.env = (do
      let ov ← eval o X.env
      standAt apos.atName
      let (f, first) ← holding [ov] (getMethod ov nm pl)
      callWith pos f first (backTo pos (starEach (e :: es) X.env)) (backToKw pos (keywordEach [] X.env))) := by rfl) :
    PE X (.Call (.Attribute o nm apos) (e :: es) [] pos) (LE X.K cl (dMeth c nm m mo mr)) :=
  (pe_meth (pl := pl) he cc hm F hr hb .nil hx ha hst hpl ht).imp fun _ _ _ q => e_meth hcl q
theorem k_meth0 {c : Nat} {pl : Sem Bool} (he : PE X o (LE X.K cl mo)) (cc : Cls X.K C) (hm : Meth X.K C nm f) (F : FnOk X.prog X.w X.K X.mg X.base CX k f fd ps (spOf X.K cl m)) (hr : Room k X.A) (hb : Binds X.K fd ps []) (hx : Passes CX X E) (hcl : C = cl c := by rfl)
    (ht : eval (.Call (.Attribute o nm apos) [] [] pos) X.env = (do
      let ov ← eval o X.env
      standAt apos.atName
      let (f, first) ← holding [ov] (getMethod ov nm pl)
      callWith pos f first (backTo pos (starEach [] X.env)) (backToKw pos (keywordEach [] X.env))) := by rfl) :
    PE X (.Call (.Attribute o nm apos) [] [] pos) (LE X.K cl (dMeth c nm m mo dNil)) := by
  refine (pe_meth0 (pl := pl) he cc hm F hr hb .nil hx ht).imp fun σ H Q q => ?_
  have z := e_meth (E := E) hcl q
  unfold tMeth at z ⊢
  obtain ⟨σd, S, B, F, φ, s, rs, d, S1, e, k⟩ := z
  refine ⟨σd, S, B, F, φ, s, rs, d, S1, e, fun F1 φ1 H1 u s1 x1 dr l => ?_⟩
  obtain ⟨a, dx, fs, h1, h2, h3, h4⟩ := k F1 φ1 H1 u s1 x1 dr l
  refine ⟨a, dx, fs, h1, h2, h3, ?_⟩
  obtain ⟨σd', S', B', F', φ', s', rs', d', S1', e', k'⟩ := h4
  cases e'
  exact k' F' φ' H1 [] s' (.refl s') .nil fun _ z => absurd z (by simp)
theorem e_make {live : Bool} {c : Nat} {σ : L2.St} {H : Hp} {Q : VK} (hx : C = cl c) (q : LE X.K cl (dMake live c m mr) σ H Q) : tMake C (spOf X.K cl m) [] E (LA X.K cl mr) σ H Q := by
  obtain ⟨σd, S, B, F, φ, s, rs, o⟩ := q
  obtain ⟨ds, S1, e, o⟩ := okE_bnd o
  refine LA.then_ s rs e fun F1 φ1 H1 vs s1 x1 rs1 dr l => ?_
  intro a dx na ndx nad
  rw [List.append_nil]
  have o := o.ext x1
  have sm : Same H1 (upd (upd H1 dx (.own a)) a (.ins C dx [])) := Same.new (Same.new (Same.refl _) ndx) (by rw [upd_ne (Ne.symm nad)]; exact na)
  have none_lt : (Ob.ins c []).lt S1.len := fun d hd => by simp [Ob.ds] at hd
  have hor : OR X.K cl F1 φ1 (upd (upd H1 dx (.own a)) a (.ins C dx []) a) (.ins c []) := ⟨dx, [], by rw [upd_same, hx], .nil⟩
  cases live with
  | true =>
    rw [if_pos rfl] at o
    obtain ⟨s2, x2⟩ := s1.push sm na hor none_lt
    obtain ⟨d, S2, e2, o⟩ := okE_bnd o
    refine ⟨.ref S1.len :: ds, _, B, F1, _, s2, .cons (show V.ref a = V.ref (if S1.len = S1.len then a else φ1 S1.len) by rw [if_pos rfl]) (x2.dra l dr), fun d hd => ?_, ⟨d, S2, e2, fun F3 φ3 H3 u s3 x3 dr3 l3 => ?_⟩⟩
    · rcases List.mem_cons.mp hd with rfl | hd
      · show S1.len < (S1.os ++ [_]).length
        simp
      · exact (l d hd).mono x2.len
    · cases d with
      | ref n => obtain ⟨_, _, z, _⟩ := o; cases z
      | p y =>
        cases y <;> first | (obtain ⟨_, _, z, _⟩ := o; cases z; done) | skip
        cases (show Rp X.K cl F3 .non u from dr3)
        refine ⟨rfl, o.fin rfl s3 (x2.trans x3) ?_ (Nat.lt_of_lt_of_le (show S1.len < (S1.os ++ [_]).length by simp) x3.len)⟩
        show V.ref a = V.ref (φ3 S1.len)
        rw [x3.phi S1.len (show S1.len < (S1.os ++ [_]).length by simp)]
        show V.ref a = V.ref (if S1.len = S1.len then a else φ1 S1.len)
        rw [if_pos rfl]
  | false =>
    rw [if_neg Bool.false_ne_true] at o
    obtain ⟨s2, x2⟩ := s1.begin.push sm na hor none_lt
    obtain ⟨d, S2, e2, o⟩ := okE_bnd o
    refine ⟨.ref S1.len :: ds, _, S1.len :: B, F1, _, s2, .cons (show V.ref a = V.ref (if S1.len = S1.len then a else φ1 S1.len) by rw [if_pos rfl]) (x2.dra l dr), fun d hd => ?_, ⟨d, S2, e2, fun F3 φ3 H3 u s3 x3 dr3 l3 => ?_⟩⟩
    · rcases List.mem_cons.mp hd with rfl | hd
      · show S1.len < (S1.os ++ [_]).length
        simp
      · exact (l d hd).mono x2.len
    · cases d with
      | ref n => obtain ⟨_, _, z, _⟩ := o; cases z
      | p y =>
        cases y <;> first | (obtain ⟨_, _, z, _⟩ := o; cases z; done) | skip
        cases (show Rp X.K cl F3 .non u from dr3)
        refine ⟨rfl, ?_⟩
        dsimp only at o
        cases ed : outD S1.len S2 (.ref S1.len) with
        | none => rw [ed] at o; obtain ⟨_, _, z, _⟩ := o; cases z
        | some d' =>
          rw [ed] at o
          have x4 := x2.trans x3
          have hl : S1.len < S2.len := Nat.lt_of_lt_of_le (show S1.len < (S1.os ++ [_]).length by simp) x3.len
          obtain ⟨h1, h2⟩ := outD_ok (S := S1) s3 x4.len (v := .ref (φ3 S1.len)) ed rfl hl
          have ea : φ3 S1.len = a := by
            rw [x3.phi S1.len (show S1.len < (S1.os ++ [_]).length by simp)]
            exact if_pos rfl
          rw [ea] at h1
          exact o.fin rfl (Sim.end_ s1 s3 x4.len) (Ext.end_ s3 x4) h1 h2
theorem k_make {live : Bool} {c : Nat} (M : Mk X.K C f) (F : FnOk X.prog X.w X.K X.mg X.base CX k f fd ps (spOf X.K cl m)) (hr : Room (k + 1) X.A) (hg : Gl X x) (hm : X.mg x = some (.ref C)) (hb : Binds X.K fd ps []) (hx : Passes CX X E)
    (ha : PA X (e :: es) (LA X.K cl mr)) (hcl : C = cl c := by rfl) (hdb : (x == ("__debug__" : Str)) = false := by decide) (he : starEach (e :: es) X.env = (false, eval e X.env) :: starEach es X.env := by rfl) (hpl : (backTo pos (starEach es X.env)).any (·.1) = false := by rfl) :
    PE X (.Call (.Name x p) (e :: es) [] pos) (LE X.K cl (dMake live c m mr)) :=
  (pe_make M F hr hg hm hb .nil hx ha hdb he hpl).imp fun _ _ _ q => e_make hcl q
theorem k_make0 {live : Bool} {c : Nat} (M : Mk X.K C f) (F : FnOk X.prog X.w X.K X.mg X.base CX k f fd ps (spOf X.K cl m)) (hr : Room (k + 1) X.A) (hg : Gl X x) (hm : X.mg x = some (.ref C)) (hb : Binds X.K fd ps []) (hx : Passes CX X E)
    (hcl : C = cl c := by rfl) (hdb : (x == ("__debug__" : Str)) = false := by decide) :
    PE X (.Call (.Name x p) [] [] pos) (LE X.K cl (dMake live c m dNil)) := by
  refine (pe_make0 M F hr hg hm hb .nil hx hdb).imp fun σ H Q q => ?_
  have z := e_make (E := E) hcl q
  obtain ⟨σd', S', B', F', φ', s', rs', d', S1', e', k'⟩ := z
  cases e'
  exact k' F' φ' H [] s' (.refl s') .nil fun _ z => absurd z (by simp)
theorem putFD_drk {K : PySem.W.Frag} {F : Hp} {φ : Nat → Addr} {f : Str} {d : D} {v : V} (r : DR K cl F φ d v) : ∀ {fs : List (Str × D)} {gs : List (Str × V)}, DRK K cl F φ fs gs → DRK K cl F φ (putFD f d fs) (putF f v gs)
  | _, _, .nil => .cons ⟨rfl, r⟩ .nil
  | (k, x) :: fs, (k', u) :: gs, .cons q t => by
    obtain ⟨rfl, q⟩ := q
    unfold putFD putF
    dsimp only
    by_cases h : k = f
    · rw [if_pos h, if_pos h]; exact .cons ⟨rfl, r⟩ t
    · rw [if_neg h, if_neg h]; exact .cons ⟨rfl, q⟩ (putFD_drk r t)
theorem mem_putFD {f : Str} {d : D} : ∀ {fs : List (Str × D)} {y : D}, y ∈ (putFD f d fs).map (·.2) → y = d ∨ y ∈ fs.map (·.2)
  | [], y, h => by simp [putFD] at h; exact .inl h
  | (k, x) :: r, y, h => by
    unfold putFD at h
    by_cases hk : k = f
    · rw [if_pos hk] at h
      simp only [List.map_cons, List.mem_cons] at h ⊢
      rcases h with h | h
      · exact .inl h
      · exact .inr (.inr h)
    · rw [if_neg hk] at h
      simp only [List.map_cons, List.mem_cons] at h ⊢
      rcases h with h | h
      · exact .inr (.inl h)
      · rcases mem_putFD h with h | h
        · exact .inl h
        · exact .inr (.inr h)
theorem isP_lt {d : D} {k : Nat} (h : (isP d).isSome = true) : d.lt k := by
  cases d with
  | p x => trivial
  | ref n => cases h
theorem DRK.length {K : PySem.W.Frag} {F : Hp} {φ : Nat → Addr} {κ : Type} {fs : List (κ × D)} {gs : List (κ × V)} (h : DRK K cl F φ fs gs) : fs.length = gs.length := Paired.length h
theorem setFld_ok {K : PySem.W.Frag} {cs : List Nat} {f : Str} {d v : D} {S S' : SH} {B : List Nat} {F : Hp} {φ : Nat → Addr} {H : Hp} {x y : V} (e : setFld cs f d v S = some S') (s : Sim K cl S B F φ H) (r : DR K cl F φ d x) (rv : DR K cl F φ v y) (lv : v.lt S.len) :
    ∃ a c dx gs, x = .ref a ∧ H a = some (.ins (cl c) dx gs) ∧ c ∈ cs ∧ gs.length < 1000 ∧ Sim K cl S' B F φ (upd H a (.ins (cl c) dx (putF f y gs))) ∧ Ext S F φ H S' F φ (upd H a (.ins (cl c) dx (putF f y gs))) := by
  cases d with
  | p _ => cases e
  | ref n =>
    unfold setFld at e
    dsimp only at e
    cases q : S.os[n]? with
    | none => rw [q] at e; cases e
    | some ob =>
      rw [q] at e
      cases ob <;> try (cases e; done)
      rename_i c fs
      dsimp only at e
      obtain ⟨dx, gs, ev, rf⟩ := (s.ob n _ q).2
      have hn : n < S.len := (List.getElem?_eq_some_iff.mp q).1
      have hl := rf.length
      have hor : OR K cl F φ (some (.ins (cl c) dx (putF f y gs))) (.ins c (putFD f v fs)) := ⟨dx, _, rfl, putFD_drk rv rf⟩
      have r' : x = .ref (φ n) := r
      by_cases h1 : cs.contains c = true ∧ fs.length < 1000 ∧ okRef S n v = true
      · rw [if_pos h1] at e
        cases e
        obtain ⟨h1, h2, h3⟩ := h1
        obtain ⟨s2, x2⟩ := putGen (o := .ins c (putFD f v fs)) s q (fun z hz => by
          rcases mem_putFD hz with rfl | hz
          · rcases okRef_b h3 with h | h
            · exact .inr (.inr ⟨h, lv⟩)
            · exact .inl h
          · exact .inr (.inl hz)) hor
        exact ⟨φ n, c, dx, gs, r', ev, by simpa using h1, by omega, s2, x2⟩
      · rw [if_neg h1] at e; cases e
theorem s_fld {f : Str} {cs : List Nat} (hc : ∀ c ∈ cs, Cls X.K (cl c) ∧ NoAttr X.K (cl c) f) (ha : PE X o (LE X.K cl mo)) (hv : PE X value (LE X.K cl mv)) (hs : swapsWith value (some (.Attribute o f pos')) pos.line X.env = pure false := by rfl) :
    PS X (.Assign [.Attribute o f pos'] value pos) (LS X.K cl (dSetF cs f mo mv)) := by
  refine (ps_fld ha hv hs).imp fun Z σ H q => ?_
  obtain ⟨σd, S, B, F, φ, s, rs, o⟩ := q
  obtain ⟨y, S1, e, o⟩ := okS_bnd o
  obtain ⟨d, S2, e2, o⟩ := okS_bnd o
  refine LE.then_ s rs e fun F1 φ1 H1 u s1 x1 rs1 dr1 l1 => LE.then_ s1 rs1 e2 fun F2 φ2 H2 v s2 x2 rs2 dr2 l2 => ?_
  cases e3 : setFld cs f d y S2 with
  | none => rw [e3] at o; obtain ⟨_, _, z, _⟩ := o; cases z
  | some S3 =>
    rw [e3] at o
    obtain ⟨_, _, z, k⟩ := o
    cases z
    obtain ⟨a, c, dx, gs, rfl, ha, hm, hz, s3, x3⟩ := setFld_ok e3 s2 dr2 (x2.dr l1 dr1) (x2.lt l1)
    obtain ⟨h1, h2⟩ := hc c hm
    exact ⟨a, cl c, dx, gs, rfl, ha, h1, h2, hz, k _ _ _ σ s3 ((x1.trans x2).trans x3) (x3.rs rs2)⟩
/-- o.f op= v -/
def dAugF (cs : List Nat) (f : Str) (op : D → D → SH → Option (D × SH)) (o v : ME) : MS := fun σ S => bnd (o σ S) fun x S1 => match fldsOf x S1 with
  | some (c, fs) => if cs.contains c = true then (match fs.lookup f with
    | some old => bnd (v σ S1) fun y S3 => bnd (op old y S3) fun z S4 => match setFld [c] f x z S4 with | some S5 => some (.nx σ, S5) | none => none
    | none => none) else none
  | none => none
theorem s_augF {f : Str} {cs : List Nat} {op : Operator} {fo : D → D → SH → Option (D × SH)} {rd : V → V → Hp → VK → Prop} (hd : OpD X.K cl fo rd) (ho : InOp X op rd) (hc : ∀ c ∈ cs, Cls X.K (cl c) ∧ NoAttr X.K (cl c) f) (ha : PE X o (LE X.K cl mo)) (hv : PE X value (LE X.K cl mv)) :
    PS X (.AugAssign (.Attribute o f pos') op value pos) (LS X.K cl (dAugF cs f fo mo mv)) := by
  refine (ps_fldaug ha hv ho).imp fun Z σ H q => ?_
  obtain ⟨σd, S, B, F, φ, s, rs, o0⟩ := q
  obtain ⟨d, S1, e, o1⟩ := okS_bnd o0
  refine LE.then_ s rs e fun F1 φ1 H1 u s1 x1 rs1 dr1 l1 => ?_
  cases e5 : fldsOf d S1 with
  | none => rw [e5] at o1; obtain ⟨_, _, z, _⟩ := o1; cases z
  | some p =>
    obtain ⟨c, fs⟩ := p
    rw [e5] at o1
    obtain ⟨a, dx, gs, eu, ha, rf, lf⟩ := flds_ok s1 e5 dr1
    dsimp only at o1
    by_cases hm : cs.contains c = true
    · rw [if_pos hm] at o1
      cases e6 : fs.lookup f with
      | none => rw [e6] at o1; obtain ⟨_, _, z, _⟩ := o1; cases z
      | some old =>
        rw [e6] at o1
        dsimp only at o1
        obtain ⟨y, S3, e3, o3⟩ := okS_bnd o1
        obtain ⟨z, S4, e4, o4⟩ := okS_bnd o3
        obtain ⟨v0, hv0, rv0⟩ := (lookup_drk rf).2 _ e6
        have lold : old.lt S1.len := lf _ (List.mem_map.mpr ⟨_, PySem.mem_of_lookup e6, rfl⟩)
        obtain ⟨h1, h2⟩ := hc c (by simpa using hm)
        refine ⟨a, cl c, dx, gs, v0, eu, ha, h1, h2, hv0, ?_⟩
        refine LE.then_ s1 rs1 e3 fun F3 φ3 H3 v s3 x3 rs3 dr3 l3 => ?_
        refine hd S3 B F3 φ3 H3 old y v0 v _ s3 (x3.dr lold rv0) dr3 (x3.lt lold) l3 ⟨z, S4, e4, fun F4 φ4 H4 w s4 x4 dr4 l4 => ?_⟩
        cases e7 : setFld [c] f d z S4 with
        | none => rw [e7] at o4; obtain ⟨_, _, z, _⟩ := o4; cases z
        | some S5 =>
          rw [e7] at o4
          obtain ⟨_, _, z, k⟩ := o4
          cases z
          obtain ⟨a', c', dx', gs', ea, ha', hm', hz', s5, x5⟩ := setFld_ok e7 s4 (x4.dr (x3.lt l1) (x3.dr l1 dr1)) dr4 l4
          have ec : c' = c := by simpa using hm'
          have eaa : a = a' := by rw [eu] at ea; injection ea
          subst ec
          subst eaa
          exact ⟨dx', gs', ha', hz', k _ _ _ σ s5 (((x1.trans x3).trans x4).trans x5) (x5.rs (x4.rs rs3))⟩
    · rw [if_neg hm] at o1; obtain ⟨_, _, z, _⟩ := o1; cases z
end
end Pv
namespace Pv
open PySem PySem.Spec PyProof.Rows L2

/-! ### targets -/
abbrev MG := D → En → SH → Option (En × SH)
abbrev MGs := List D → En → SH → Option (En × SH)
section
variable (K : PySem.W.Frag) (cl : Nat → Addr)
def OkG (vs : List Nat) (σ : L2.St) (S : SH) (B : List Nat) (F : Hp) (φ : Nat → Addr) (H : Hp) (r : Option (En × SH)) (Q : L2.St → Hp → Prop) : Prop :=
  ∃ σ1 S1, r = some (σ1, S1) ∧ ∀ F1 φ1 H1 σ', Sim K cl S1 B F1 φ1 H1 → Ext S F φ H S1 F1 φ1 H1 → RS K cl F1 φ1 S1.len σ1 σ' → (σ'.length = σ.length ∧ ∀ j, j ∉ vs → σ'[j]? = σ[j]?) → Q σ' H1
def LG (vs : List Nat) (g : MG) : TG := fun v σ H Q => ∃ d σd S B F φ, Sim K cl S B F φ H ∧ RS K cl F φ S.len σd σ ∧ DR K cl F φ d v ∧ d.lt S.len ∧ OkG K cl vs σ S B F φ H (g d σd S) Q
def LGs (vs : List Nat) (g : MGs) : TGs := fun us σ H Q => ∃ ds σd S B F φ, Sim K cl S B F φ H ∧ RS K cl F φ S.len σd σ ∧ DRA K cl F φ ds us ∧ (∀ d ∈ ds, d.lt S.len) ∧ OkG K cl vs σ S B F φ H (g ds σd S) Q
end
def gNm (i : Nat) : MG := fun d σ S => some (σ.set i (some d), S)
def gNl : MGs := fun ds σ S => match ds with | [] => some (σ, S) | _ => none
def gCn (g : MG) (gs : MGs) : MGs := fun ds σ S => match ds with | d :: r => bnd (g d σ S) fun σ1 S1 => gs r σ1 S1 | [] => none
def gTp (n : Nat) (gs : MGs) : MG := fun d σ S => match d with | .p (.tup ps) => if ps.length = n then gs (ps.map .p) σ S else none | _ => none
/-- o[i] = v -/
def setIx (o i v : D) (S : SH) : Option SH := match o, i with
  | .ref n, .p (.int k) => match S.os[n]? with
    | some (.lst ds) => match ixN ds.length k with
      | some j => if okRef S n v = true then some (S.put n (.lst (ds.set j v))) else none
      | none => none
    | _ => none
  | _, _ => none
def gSb (o i : ME) : MG := fun d σ S => bnd (o σ S) fun x S1 => bnd (i σ S1) fun y S2 => match setIx x y d S2 with | some S3 => some (σ, S3) | none => none
def dAsg (e : ME) (g : MG) : MS := fun σ S => bnd (e σ S) fun d S1 => bnd (g d σ S1) fun σ2 S2 => some (.nx σ2, S2)

section
variable {K : PySem.W.Frag} {cl : Nat → Addr} {S S' S1 S2 : SH} {B : List Nat} {F F' F1 F2 H H' H1 H2 : Hp} {φ φ' φ1 φ2 : Nat → Addr}
theorem okG_bnd {vs : List Nat} {σ : L2.St} {α : Type} {r : Option (α × SH)} {f : α → SH → Option (En × SH)} {Q : L2.St → Hp → Prop} (h : OkG K cl vs σ S B F φ H (bnd r f) Q) : ∃ a S1, r = some (a, S1) ∧ OkG K cl vs σ S B F φ H (f a S1) Q := by
  cases r with
  | none => obtain ⟨_, _, z, _⟩ := h; cases z
  | some p => exact ⟨p.1, p.2, rfl, h⟩
theorem DRA.set {ds : List D} {vs : List V} {d : D} {v : V} (r : DR K cl F φ d v) : ∀ {ds : List D} {vs : List V} (j : Nat), DRA K cl F φ ds vs → DRA K cl F φ (ds.set j d) (vs.set j v)
  | _, _, _, .nil => .nil
  | _, _, 0, .cons _ t => .cons r t
  | _, _, j + 1, .cons a t => .cons a (DRA.set (ds := ds) (vs := vs) r j t)
theorem DRA.append {ds es : List D} {vs us : List V} (a : DRA K cl F φ ds vs) (b : DRA K cl F φ es us) : DRA K cl F φ (ds ++ es) (vs ++ us) := by
  induction a with
  | nil => exact b
  | cons r t ih => exact .cons r ih
theorem okB_set {n : Nat} {ds : List D} {d : D} {j : Nat} (w : (Ob.lst ds).lt S.len) (l : d.lt S.len) : (Ob.lst (ds.set j d)).lt S.len := fun y hy => by
  rcases List.mem_or_eq_of_mem_set hy with h | h
  · exact w y h
  · rw [h]; exact l
theorem putOk {n : Nat} {o : Ob} {x : HO} {ds : List D} {d : D} (s : Sim K cl S B F φ H) (q : S.os[n]? = some (.lst ds)) (hd : okRef S n d = true) (l : d.lt S.len) (he : ∀ y ∈ o.ds, y = d ∨ y ∈ ds) (ho : OR K cl F φ (some x) o) :
    Sim K cl (S.put n o) B F φ (upd H (φ n) x) ∧ Ext S F φ H (S.put n o) F φ (upd H (φ n) x) :=
  putGen s q (fun y hy => by
    rcases he y hy with rfl | h
    · rcases okRef_b hd with h | h
      · exact .inr (.inr ⟨h, l⟩)
      · exact .inl h
    · exact .inr (.inl h)) ho
theorem setIx_ok {o i v : D} {x y u : V} (e : setIx o i v S = some S') (s : Sim K cl S B F φ H) (ro : DR K cl F φ o x) (ri : DR K cl F φ i y) (rv : DR K cl F φ v u) (lv : v.lt S.len) :
    ∃ p xs k j, x = .ref p ∧ y = .int k ∧ H p = some (.lst xs) ∧ ixN xs.length k = some j ∧ Sim K cl S' B F φ (upd H p (.lst (xs.set j u))) ∧ Ext S F φ H S' F φ (upd H p (.lst (xs.set j u))) := by
  cases o with
  | p _ => cases e
  | ref n =>
    cases i with
    | ref _ => cases e
    | p z =>
      cases z <;> try (cases e; done)
      rename_i k
      unfold setIx at e
      dsimp only at e
      cases q : S.os[n]? with
      | none => rw [q] at e; cases e
      | some ob =>
        rw [q] at e
        cases ob <;> try (cases e; done)
        rename_i ds
        dsimp only at e
        cases hj : ixN ds.length k with
        | none => rw [hj] at e; cases e
        | some j =>
          rw [hj] at e
          dsimp only at e
          by_cases hr : okRef S n v = true
          · rw [if_pos hr] at e
            cases e
            obtain ⟨vs, ev, rvs⟩ := (s.ob n _ q).2
            have hl := rvs.length
            cases (show Rp K cl F (.int k) y from ri)
            obtain ⟨a, b⟩ := putOk (o := .lst (ds.set j v)) (x := .lst (vs.set j u)) s q hr lv (fun y hy => by
              rcases List.mem_or_eq_of_mem_set hy with h | h
              · exact .inr h
              · exact .inl h) ⟨_, rfl, DRA.set (ds := ds) (vs := vs) rv j rvs⟩
            exact ⟨φ n, vs, k, j, ro, rfl, ev, by rw [← hl]; exact hj, a, b⟩
          · rw [if_neg hr] at e; cases e
end
section
variable {X : Cx} {cl : Nat → Addr} {tg e o ix : Expr} {es : List Expr} {pos : Pos} {g : MG} {gs : MGs} {vs us : List Nat} {me mo mi : ME}
theorem g_name {i : Nat} {x : Str} (hN : X.N.Nodup) (hi : X.N[i]? = some x) (hx : Loc X.env.scope x) (hf : X.fn x = true ∨ X.env.scope.names.lookup x = some .local := by first | exact .inl rfl | exact .inr rfl | assumption) : PG X (.Name x pos) (LG X.K cl [i] (gNm i)) := by
  have h := pg_name (pos := pos) hN hi hx hf
  refine ⟨fun pins s σ H v u Q I r q => h.run pins s σ H v u Q I r ?_⟩
  obtain ⟨d, σd, S, B, F, φ, sm, rs, dr, l, σ1, S1, e, k⟩ := q
  cases e
  refine k F φ H _ sm (.refl sm) (rs.set i dr l) ⟨by rw [List.length_set], fun j hj => ?_⟩
  rw [List.getElem?_set_ne]
  rintro rfl
  exact hj (by simp)
theorem gs_nil : PGs X [] (LGs X.K cl [] gNl) := by
  have h := pgs_nil (X := X)
  refine ⟨fun pins s σ H v u Q I r q => h.run pins s σ H v u Q I r ?_⟩
  obtain ⟨ds, σd, S, B, F, φ, sm, rs, dr, l, σ1, S1, e, k⟩ := q
  cases dr with
  | nil => cases e; exact ⟨rfl, k F φ H σ sm (.refl sm) rs ⟨rfl, fun _ _ => rfl⟩⟩
  | cons _ _ => cases e
theorem gs_cons (h1 : PG X e (LG X.K cl vs g)) (h2 : PGs X es (LGs X.K cl us gs)) (hs : (assignEach (e :: es) X.env).map (·.2) = assign e X.env :: (assignEach es X.env).map (·.2) := by rfl) : PGs X (e :: es) (LGs X.K cl (vs ++ us) (gCn g gs)) := by
  have h := pgs_cons h1 h2 hs
  refine ⟨fun pins s σ H v u Q I r q => h.run pins s σ H v u Q I r ?_⟩
  obtain ⟨ds, σd, S, B, F, φ, sm, rs, dr, l, ok⟩ := q
  cases dr with
  | nil => obtain ⟨_, _, z, _⟩ := ok; cases z
  | @cons d v0 ds' vs' r1 r2 =>
    obtain ⟨σ1, S1, e1, ok⟩ := okG_bnd ok
    refine ⟨v0, vs', rfl, d, σd, S, B, F, φ, sm, rs, r1, l d List.mem_cons_self, σ1, S1, e1, fun F1 φ1 H1 σ' s1 x1 rs1 hk => ?_⟩
    obtain ⟨σ2, S2, e2, k2⟩ := ok
    refine ⟨ds', σ1, S1, B, F1, φ1, s1, rs1, x1.dra (fun y hy => l y (List.mem_cons_of_mem _ hy)) r2, fun y hy => x1.lt (l y (List.mem_cons_of_mem _ hy)), σ2, S2, e2, fun F2 φ2 H2 σ'' s2 x2 rs2 hk2 => ?_⟩
    refine k2 F2 φ2 H2 σ'' s2 (x1.trans x2) rs2 ⟨hk2.1.trans hk.1, fun j hj => ?_⟩
    rw [List.mem_append, not_or] at hj
    exact (hk2.2 j hj.2).trans (hk.2 j hj.1)
theorem g_tup {k n : Nat} (hc : X.calm = true) (h : PGs X es (LGs X.K cl vs gs)) (hn : (assignEach es X.env).length = n := by rfl) (hst : (assignEach es X.env).findIdx? (·.1) = none := by rfl) : PG X (.Tuple es k pos) (LG X.K cl vs (gTp n gs)) := by
  have h := pg_tup (k := k) (pos := pos) hc h hn hst
  refine ⟨fun pins s σ H v u Q I r q => h.run pins s σ H v u Q I r ?_⟩
  obtain ⟨d, σd, S, B, F, φ, sm, rs, dr, l, ok⟩ := q
  cases d with
  | ref _ => obtain ⟨_, _, z, _⟩ := ok; cases z
  | p x =>
    cases x <;> try (obtain ⟨_, _, z, _⟩ := ok; cases z; done)
    rename_i ps
    unfold gTp at ok
    dsimp only at ok
    by_cases hp : ps.length = n
    · rw [if_pos hp] at ok
      cases (show Rp X.K cl F (.tup ps) v from dr) with
      | tup q t =>
        have tr : DRA X.K cl F φ (ps.map D.p) _ := t.dra
        have hl := tr.length
        rw [List.length_map] at hl
        exact ⟨_, _, rfl, SqT.mono sm.le q, by rw [← hl]; exact hp, _, σd, S, B, F, φ, sm, rs, tr, lt_map, ok⟩
    · rw [if_neg hp] at ok; obtain ⟨_, _, z, _⟩ := ok; cases z
theorem g_sub (ho : PE X o (LE X.K cl mo)) (hi : PE X ix (LE X.K cl mi))
    (ha : ∀ v, assign (.Subscript o ix pos) X.env v = (do
      let ov ← holding [v] (eval o X.env)
      let iv ← holding [v, ov] (eval ix X.env)
      standAt pos
      holding [v, ov, iv] (setItem ov iv v)
      release [v, ov, iv] []) := by intro _; rfl) : PG X (.Subscript o ix pos) (LG X.K cl [] (gSb mo mi)) := by
  have h := pg_sub ho hi set_list ha
  refine ⟨fun pins s σ H v u Q I r q => h.run pins s σ H v u Q I r ?_⟩
  obtain ⟨d, σd, S, B, F, φ, sm, rs, dr, l, ok⟩ := q
  obtain ⟨a, S1, e1, ok1⟩ := okG_bnd ok
  obtain ⟨b, S2, e2, ok2⟩ := okG_bnd ok1
  refine LE.then_ sm rs e1 fun F1 φ1 H1 x s1 x1 rs1 dr1 l1 => LE.then_ s1 rs1 e2 fun F2 φ2 H2 y s2 x2 rs2 dr2 l2 => ?_
  cases e3 : setIx a b d S2 with
  | none => rw [e3] at ok2; obtain ⟨_, _, z, _⟩ := ok2; cases z
  | some S3 =>
    rw [e3] at ok2
    obtain ⟨_, _, z, k⟩ := ok2
    cases z
    have x12 := x1.trans x2
    obtain ⟨p, xs, k0, j, h1, h2, h3, h4, s5, x5⟩ := setIx_ok e3 s2 (x2.dr l1 dr1) dr2 (x12.dr l dr) (x12.lt l)
    exact ⟨p, xs, k0, j, h1, h2, h3, h4, k _ _ _ σ s5 (x12.trans x5) (x5.rs rs2) ⟨rfl, fun _ _ => rfl⟩⟩
theorem s_asg (he : PE X e (LE X.K cl me)) (hg : PG X tg (LG X.K cl vs g)) (hs : swapsWithSole [tg] e pos.line X.env = pure false := by rfl) (hw : swappedStores [tg] e X.env = pure none := by rfl)
    (h1 : (assignEach [tg] X.env).map (·.2) = [assign tg X.env] := by rfl) : PS X (.Assign [tg] e pos) (LS X.K cl (dAsg me g)) := by
  refine (ps_asg he hg hs hw h1).imp fun Z σ H q => ?_
  obtain ⟨σd, S, B, F, φ, s, rs, o⟩ := q
  obtain ⟨d, S1, e1, o1⟩ := okS_bnd o
  obtain ⟨σ2, S2, e2, o2⟩ := okS_bnd o1
  obtain ⟨_, _, z, k⟩ := o2
  cases z
  exact LE.then_ s rs e1 fun F1 φ1 H1 u s1 x1 rs1 dr l => ⟨d, σd, S1, B, F1, φ1, s1, rs1, dr, l, σ2, S2, e2, fun F2 φ2 H2 σ' s2 x2 rs2 _ => k F2 φ2 H2 σ' s2 (x1.trans x2) rs2⟩
end

/-! ### what is walked -/
structure Src where
  items : List (SH → Option D)
  fin : SH → Bool
abbrev MI := En → SH → Option (Src × SH)
def srcP (ps : List P) : Src := ⟨ps.map fun p _ => some (.p p), fun _ => true⟩
/-- the list at n, its length unchanged -/
def itemR (n len i : Nat) (S : SH) : Option D := match S.os[n]? with
  | some (.lst ds) => if ds.length = len then ds[i]? else none
  | _ => none
def finR (n len : Nat) (S : SH) : Bool := match S.os[n]? with
  | some (.lst ds) => decide (ds.length = len)
  | _ => false
def srcR (n len : Nat) : Src := ⟨(List.range len).map (itemR n len), finR n len⟩
def srcOf (d : D) (S : SH) : Option (Src × SH) := match d with
  | .p (.lst ps) => some (srcP ps, S)
  | .p (.tup ps) => some (srcP ps, S)
  | .ref n => match S.os[n]? with | some (.lst ds) => some (srcR n ds.length, S) | _ => none
  | _ => none
def dIt (m : ME) : MI := fun σ S => bnd (m σ S) srcOf
def srcN (lo : Int) (n : Nat) : Src := ⟨(List.range n).map fun (i : Nat) _ => some (.p (.int (lo + (i : Int)))), fun _ => true⟩
def rng1 (ds : List D) (S : SH) : Option (Src × SH) := match ds with
  | [.p (.int j)] => if -(2 ^ 62) ≤ j ∧ j < 2 ^ 62 then some (srcN 0 j.toNat, S) else none
  | _ => none
def rng2 (ds : List D) (S : SH) : Option (Src × SH) := match ds with
  | [.p (.int i), .p (.int j)] => if -(2 ^ 62) ≤ i ∧ i < 2 ^ 62 ∧ -(2 ^ 62) ≤ j ∧ j < 2 ^ 62 then some (srcN i (j - i).toNat, S) else none
  | _ => none
def dRng1 (m : MA) : MI := fun σ S => bnd (m σ S) rng1
def dRng2 (m : MA) : MI := fun σ S => bnd (m σ S) rng2

section
variable (K : PySem.W.Frag) (cl : Nat → Addr)
def ItD (S1 : SH) (F1 : Hp) (φ1 : Nat → Addr) (J : It) (src : Src) : Prop :=
  ∀ S' B' F' φ' H', Sim K cl S' B' F' φ' H' → Same F1 F' → S1.len ≤ S'.len → (∀ n, n < S1.len → φ' n = φ1 n) → ∀ i : Nat,
    (∀ t d, src.items[i]? = some t → t S' = some d → d.lt S'.len ∧ J.go i H' ∧ ∀ x H2, J.yld i H' x H2 → ∃ F2, Sim K cl S' B' F2 φ' H2 ∧ Ext S' F' φ' H' S' F2 φ' H2 ∧ DR K cl F2 φ' d x) ∧
    (src.items.length ≤ i → src.fin S' = true → J.stop i H')
def LI (m : MI) : TI := fun σ H R => ∃ σd S B F φ, Sim K cl S B F φ H ∧ RS K cl F φ S.len σd σ ∧ ∃ src S1, m σd S = some (src, S1) ∧
  ∀ F1 φ1 H1 J, Sim K cl S1 B F1 φ1 H1 → Ext S F φ H S1 F1 φ1 H1 → ItD K cl S1 F1 φ1 J src → R J H1
end
section
variable {X : Cx} {cl : Nat → Addr} {tg e l : Expr} {pos p : Pos} {me : ME} {ma : MA}
theorem itD_seq {K : PySem.W.Frag} {S : SH} {F : Hp} {φ : Nat → Addr} {ps : List P} {vs : List V} {J : It} (hr : RpA K cl F ps vs)
    (hg : ∀ H, Same F H → ∀ (i : Nat) (x : V), vs[i]? = some x → J.go i H) (hy : ∀ H, Same F H → ∀ (i : Nat) (x : V), vs[i]? = some x → ∀ y H2, J.yld i H y H2 → H2 = H ∧ y = x) (hs : ∀ H, Same F H → ∀ i : Nat, vs.length ≤ i → J.stop i H) : ItD K cl S F φ J (srcP ps) := by
  intro S' B' F' φ' H' s sf hl hp i
  have dr : DRA K cl F' φ' (ps.map D.p) vs := (RpA.mono sf hr).dra
  have hlen := dr.length
  rw [List.length_map] at hlen
  refine ⟨fun t d ht htd => ?_, fun hi _ => ?_⟩
  · have ht : (ps.map fun p (_ : SH) => some (D.p p))[i]? = some t := ht
    rw [List.getElem?_map] at ht
    cases e : ps[i]? with
    | none => rw [e] at ht; cases ht
    | some q =>
      rw [e] at ht
      cases ht
      cases htd
      obtain ⟨v, hv, rv⟩ := dr.get (i := i) (d := .p q) (by rw [List.getElem?_map, e]; rfl)
      refine ⟨trivial, hg H' (sf.trans s.le) i v hv, fun x H2 y => ?_⟩
      obtain ⟨rfl, rfl⟩ := hy H' (sf.trans s.le) i v hv x H2 y
      exact ⟨F', s, .refl s, rv⟩
  · have hi : (ps.map fun p (_ : SH) => some (D.p p)).length ≤ i := hi
    rw [List.length_map] at hi
    exact hs H' (sf.trans s.le) i (by omega)
theorem sqL_inj {P : Program} {w : World} {h : Heap} {K : PySem.W.Frag} {H : Hp} {a : Addr} {xs ys : List V} : True := trivial
/-- any list or tuple, walked -/
theorem pi_any (hl : PE X l (LE X.K cl me)) : PI X tg l (LI X.K cl (dIt me)) := by
  refine ⟨fun pins s σ H R I h => ?_⟩
  obtain ⟨σd, S, B, F, φ, sm, rs, src, S1, e, k⟩ := h
  obtain ⟨d, S2, e1, e2⟩ := bnd_of e
  have base : LE X.K cl me σ H fun x H1 => ∃ F1 φ1, Sim X.K cl S2 B F1 φ1 H1 ∧ Ext S F φ H S2 F1 φ1 H1 ∧ DR X.K cl F1 φ1 d x ∧ d.lt S2.len :=
    LE.then_ sm rs e1 fun F1 φ1 H1 x s1 x1 rs1 dr1 l1 => ⟨F1, φ1, s1, x1, dr1, l1⟩
  refine thn (hl.run pins s σ H _ I base) fun v s1 ⟨x, H1, I1, r1, F1, φ1, sm1, x1, dr1, l1⟩ => ?_
  -- a list at a
  have lst : ∀ (a : Addr) (xs : List V), x = .ref a → SqL X.K H1 a xs → R (Itl X.K a) H1 → wpAny (model X.prog X.w) X.A (pyIter v) (PIE X pins σ tg R) X.xe s1 := by
    intro a xs ex hq hR
    subst ex
    cases r1
    obtain ⟨its, rv, p, hz⟩ := I1.list hq
    refine wpAny_pyIter_list p.isList ?_
    refine ⟨s1.heap.objs.size, [s1.heap.objs.size], _, _, H1, rfl, I1.kept (t' := s1.toks) fun b o e => Heap.get?_push_of_some _ e, turn_list a _, ⟨_, Heap.get?_push_size _ rfl, rfl, rfl⟩, fun b hb => ?_, hR⟩
    have e : b = s1.heap.objs.size := by simpa using hb
    subst e
    exact I1.fpOk (Nat.le_refl _) (I1.hok.fresh (Nat.le_refl _))
  have tup : ∀ (a : Addr) (xs : List V), x = .ref a → SqT X.K H1 a xs → R (Itt X.K a) H1 → wpAny (model X.prog X.w) X.A (pyIter v) (PIE X pins σ tg R) X.xe s1 := by
    intro a xs ex hq hR
    subst ex
    cases r1
    obtain ⟨its, rv, p, hz⟩ := I1.tuple hq
    refine wpAny_pyIter_tuple (show s1.heap.IsTuple a its.toArray from p) ?_
    refine ⟨s1.heap.objs.size, [s1.heap.objs.size], _, _, H1, rfl, I1.kept (t' := s1.toks) fun b o e => Heap.get?_push_of_some _ e, turn_tuple a _, ⟨_, Heap.get?_push_size _ rfl, rfl, rfl⟩, fun b hb => ?_, hR⟩
    have e : b = s1.heap.objs.size := by simpa using hb
    subst e
    exact I1.fpOk (Nat.le_refl _) (I1.hok.fresh (Nat.le_refl _))
  cases d with
  | p y =>
    cases y with
    | tup zs =>
      simp only [srcOf, Option.some.injEq, Prod.mk.injEq] at e2
      obtain ⟨rfl, rfl⟩ := e2
      cases (show Rp X.K cl F1 (.tup zs) x from dr1) with
      | @tup a _ vs q t =>
        refine tup a vs rfl (SqT.mono sm1.le q) (k F1 φ1 H1 _ sm1 x1 (itD_seq t (fun H sf i x hx => ⟨vs, x, SqT.mono sf q, hx⟩) (fun H sf i x hx y H2 hy => ⟨hy.1, ?_⟩) fun H sf i hi => ⟨vs, SqT.mono sf q, hi⟩))
        have := hy.2 vs (SqT.mono sf q)
        rw [hx] at this
        exact (Option.some.inj this).symm
    | lst zs =>
      simp only [srcOf, Option.some.injEq, Prod.mk.injEq] at e2
      obtain ⟨rfl, rfl⟩ := e2
      cases (show Rp X.K cl F1 (.lst zs) x from dr1) with
      | @lst a _ vs q t =>
        refine lst a vs rfl (SqL.mono sm1.le q) (k F1 φ1 H1 _ sm1 x1 (itD_seq t (fun H sf i x hx => ⟨vs, x, SqL.mono sf q, hx⟩) (fun H sf i x hx y H2 hy => ⟨hy.1, ?_⟩) fun H sf i hi => ⟨vs, SqL.mono sf q, hi⟩))
        have := hy.2 vs (SqL.mono sf q)
        rw [hx] at this
        exact (Option.some.inj this).symm
    | _ => cases e2
  | ref n =>
    unfold srcOf at e2
    dsimp only at e2
    cases q : S2.os[n]? with
    | none => rw [q] at e2; cases e2
    | some ob =>
      rw [q] at e2
      cases ob <;> try (cases e2; done)
      rename_i ds
      simp only [Option.some.injEq, Prod.mk.injEq] at e2
      obtain ⟨rfl, rfl⟩ := e2
      have hn : n < S2.len := (List.getElem?_eq_some_iff.mp q).1
      obtain ⟨vs, ev, rv⟩ := (sm1.ob n _ q).2
      refine lst (φ1 n) vs dr1 (.inl (.inl ev)) (k F1 φ1 H1 _ sm1 x1 ?_)
      intro S' B' F' φ' H' s' sf hl hp i
      have at_ : ∀ ds', S'.os[n]? = some (.lst ds') → ∃ vs', SqL X.K H' (φ1 n) vs' ∧ H' (φ1 n) = some (.lst vs') ∧ DRA X.K cl F' φ' ds' vs' := fun ds' q' => by
        obtain ⟨vs', ev', rv'⟩ := (s'.ob n _ q').2
        rw [hp n hn] at ev'
        exact ⟨vs', .inl (.inl ev'), ev', rv'⟩
      refine ⟨fun t d ht htd => ?_, fun hi hf => ?_⟩
      · have ht : ((List.range ds.length).map (itemR n ds.length))[i]? = some t := ht
        rw [List.getElem?_map] at ht
        cases er : (List.range ds.length)[i]? with
        | none => rw [er] at ht; cases ht
        | some j =>
          rw [er] at ht
          cases ht
          have hj : j = i := by
            have := List.getElem?_eq_some_iff.mp er
            obtain ⟨h1, h2⟩ := this
            rw [List.getElem_range] at h2
            exact h2.symm
          subst hj
          unfold itemR at htd
          cases q' : S'.os[n]? with
          | none => rw [q'] at htd; cases htd
          | some ob' =>
            rw [q'] at htd
            cases ob' <;> try (cases htd; done)
            rename_i ds'
            dsimp only at htd
            by_cases hlen : ds'.length = ds.length
            · rw [if_pos hlen] at htd
              obtain ⟨vs', h1, h2, h3⟩ := at_ ds' q'
              obtain ⟨v', hv', rv'⟩ := h3.get htd
              refine ⟨s'.wf n _ q' d (List.mem_of_getElem? htd), ⟨vs', v', h1, hv'⟩, fun x H2 hy => ?_⟩
              obtain ⟨rfl, hy⟩ := hy
              have := hy vs' h1
              rw [hv'] at this
              cases this
              exact ⟨F', s', .refl s', rv'⟩
            · rw [if_neg hlen] at htd; cases htd
      · have hf : finR n ds.length S' = true := hf
        unfold finR at hf
        cases q' : S'.os[n]? with
        | none => rw [q'] at hf; cases hf
        | some ob' =>
          rw [q'] at hf
          cases ob' <;> try (cases hf; done)
          rename_i ds'
          have hlen : ds'.length = ds.length := of_decide_eq_true hf
          obtain ⟨vs', h1, h2, h3⟩ := at_ ds' q'
          refine ⟨vs', h1, ?_⟩
          have := h3.length
          have hi : ((List.range ds.length).map (itemR n ds.length)).length ≤ i := hi
          rw [List.length_map, List.length_range] at hi
          omega
theorem itD_rng {K : PySem.W.Frag} {S : SH} {F : Hp} {φ : Nat → Addr} {lo : Int} {n : Nat} : ItD K cl S F φ (Itr lo n) (srcN lo n) := by
  intro S' B' F' φ' H' s sf hl hp i
  refine ⟨fun t d ht htd => ?_, fun hi _ => ?_⟩
  · have ht : ((List.range n).map fun (i : Nat) (_ : SH) => some (D.p (.int (lo + (i : Int)))))[i]? = some t := ht
    rw [List.getElem?_map] at ht
    cases er : (List.range n)[i]? with
    | none => rw [er] at ht; cases ht
    | some j =>
      rw [er] at ht
      cases ht
      obtain ⟨h1, h2⟩ := List.getElem?_eq_some_iff.mp er
      rw [List.getElem_range] at h2
      rw [List.length_range] at h1
      subst h2
      cases htd
      refine ⟨trivial, h1, fun x H2 y => ?_⟩
      obtain ⟨rfl, rfl⟩ := y
      exact ⟨F', s, .refl s, Rp.int _⟩
  · have hi : ((List.range n).map fun (i : Nat) (_ : SH) => some (D.p (.int (lo + (i : Int))))).length ≤ i := hi
    rw [List.length_map, List.length_range] at hi
    exact hi
theorem drInt {K : PySem.W.Frag} {F : Hp} {φ : Nat → Addr} {i : Int} {x : V} (h : DR K cl F φ (.p (.int i)) x) : x = .int i := by
  cases (show Rp K cl F (.int i) x from h); rfl
theorem pi_rng1 {a : Expr} (hg : Gl X "range") (hm : X.mg "range" = none) (ha : PA X [a] (LA X.K cl ma)) (hs : starEach [a] X.env = [(false, eval a X.env)] := by rfl) : PI X tg (.Call (.Name "range" p) [a] [] pos) (LI X.K cl (dRng1 ma)) := by
  have h := pi_range1 (tg := tg) (p := p) (pos := pos) hg hm ha hs
  refine ⟨fun pins s σ H R I q => h.run pins s σ H R I ?_⟩
  obtain ⟨σd, S, B, F, φ, sm, rs, src, S1, e, k⟩ := q
  obtain ⟨ds, S2, e1, e2⟩ := bnd_of e
  refine LA.then_ sm rs e1 fun F1 φ1 H1 us s1 x1 rs1 dr l => ?_
  unfold rng1 at e2
  split at e2
  · rename_i j
    split at e2
    · rename_i hj
      cases e2
      cases dr with
      | cons r t =>
        cases t
        exact ⟨j, by rw [drInt r], hj.1, hj.2, k F1 φ1 H1 _ s1 x1 itD_rng⟩
    · cases e2
  · cases e2
theorem pi_rng2 {a b : Expr} (hg : Gl X "range") (hm : X.mg "range" = none) (ha : PA X [a, b] (LA X.K cl ma)) (hs : starEach [a, b] X.env = [(false, eval a X.env), (false, eval b X.env)] := by rfl) (hs2 : starEach [b] X.env = [(false, eval b X.env)] := by rfl) : PI X tg (.Call (.Name "range" p) [a, b] [] pos) (LI X.K cl (dRng2 ma)) := by
  have h := pi_range2 (tg := tg) (p := p) (pos := pos) hg hm ha hs hs2
  refine ⟨fun pins s σ H R I q => h.run pins s σ H R I ?_⟩
  obtain ⟨σd, S, B, F, φ, sm, rs, src, S1, e, k⟩ := q
  obtain ⟨ds, S2, e1, e2⟩ := bnd_of e
  refine LA.then_ sm rs e1 fun F1 φ1 H1 us s1 x1 rs1 dr l => ?_
  unfold rng2 at e2
  split at e2
  · rename_i i j
    split at e2
    · rename_i hj
      cases e2
      cases dr with
      | cons r t =>
        cases t with
        | cons r2 t =>
          cases t
          exact ⟨i, j, by rw [drInt r, drInt r2], hj, k F1 φ1 H1 _ s1 x1 itD_rng⟩
    · cases e2
  · cases e2
end

/-! ### loops -/
def forL (ws : List Nat) (fin : SH → Bool) (g : MG) (body : MS) : List (SH → Option D) → MS
  | [], σ, S => if fin S = true then some (.nx σ, S) else none
  | t :: ts, σ, S => match t S with
    | some d => bnd (g d σ S) fun σ1 S1 => bnd (body σ1 S1) fun f S2 => match f with
      | .nx σ2 => forL ws fin g body ts (wipeD ws σ2) S2
      | .ct σ2 => forL ws fin g body ts (wipeD ws σ2) S2
      | .brk σ2 => some (.nx (wipeD ws σ2), S2)
      | .ret d => some (.ret d, S2)
    | none => none
/-- ws: the names that no turn needs from the one before, nor what follows -/
def dFor (ws : List Nat) (m : MI) (g : MG) (body : MS) : MS := fun σ S => bnd (m σ S) fun src S1 => forL ws src.fin g body src.items (wipeD ws σ) S1
def whL (ws : List Nat) (t : MT) (body : MS) : Nat → MS
  | 0, _, _ => none
  | k + 1, σ, S => bnd (t σ S) fun b S1 => if b = true then bnd (body σ S1) fun f S2 => match f with
      | .nx σ2 => whL ws t body k (wipeD ws σ2) S2
      | .ct σ2 => whL ws t body k (wipeD ws σ2) S2
      | .brk σ2 => some (.nx (wipeD ws σ2), S2)
      | .ret d => some (.ret d, S2)
    else some (.nx σ, S1)
def dWhile (ws : List Nat) (fuel : Nat) (t : MT) (body : MS) : MS := fun σ S => whL ws t body fuel (wipeD ws σ) S
def compL (fin : SH → Bool) (g : MG) (c : MT) (elt : ME) (σ : En) : List (SH → Option D) → List D → SH → Option (List D × SH)
  | [], acc, S => if fin S = true then some (acc, S) else none
  | t :: ts, acc, S => match t S with
    | some d => bnd (g d σ S) fun σ1 S1 => bnd (c σ1 S1) fun b S2 => if b = true then
        (if acc.length < sizeLine then bnd (elt σ1 S2) fun y S3 => compL fin g c elt σ ts (acc ++ [y]) S3 else none)
        else compL fin g c elt σ ts acc S2
    | none => none
def dComp (live : Bool) (m : MI) (g : MG) (c : MT) (elt : ME) (vs : List Nat) : ME := fun σ S => bnd (m σ S) fun src S1 => bnd (compL src.fin g c elt (wipeD vs σ) src.items [] S1) fun ds S2 => newL live ds S2
def dYes : MT := fun _ S => some (true, S)
section
variable {X : Cx} {cl : Nat → Addr} {tg iter e : Expr} {body : List Stmt} {pos : Pos} {m : MI} {g : MG} {vs : List Nat} {mb : MS} {mt : MT} {me : ME}
theorem s_for {ws : List Nat} (hp : PassesOwn (model X.prog X.w) X.A X.env X.xe) (hc : X.calm = true) (hi : PI X tg iter (LI X.K cl m)) (hg : PG X tg (LG X.K cl vs g)) (hb : PSs X body (LS X.K cl mb))
    (hs : ∀ x, foldedSetIterable iter X.env x = pure x := by intro _; rfl) : PS X (.For tg iter body [] pos) (LS X.K cl (dFor ws m g mb)) := by
  refine (ps_for hp hc hi hg hb hs).imp fun Z σ H q => ?_
  obtain ⟨σd, S, B, F, φ, s, rs, o⟩ := q
  obtain ⟨src, S1, e1, o1⟩ := okS_bnd o
  refine ⟨σd, S, B, F, φ, s, rs, src, S1, e1, fun F1 φ1 H1 J s1 x1 it => ?_⟩
  refine ⟨fun i mm σ' H' => mm = src.items.length - i ∧ i ≤ src.items.length ∧ ∃ σd' S' F' φ', Sim X.K cl S' B F' φ' H' ∧ Ext S1 F1 φ1 H1 S' F' φ' H' ∧ RS X.K cl F' φ' S'.len σd' σ' ∧ OkS X.K cl S' B F' φ' H' (forL ws src.fin g mb (src.items.drop i) σd' S') Z,
    ⟨src.items.length, by simp, Nat.zero_le _, wipeD ws σd, S1, F1, φ1, s1, .refl s1, (x1.rs rs).wipe ws, by rw [List.drop_zero]; exact o1.ext x1⟩, ?_⟩
  rintro i mm σ' H' ⟨rfl, hi, σd', S', F', φ', s', x', rs', o'⟩
  obtain ⟨turn, stop⟩ := it S' B F' φ' H' s' x'.fz x'.len x'.phi i
  by_cases hlt : i < src.items.length
  · rw [List.drop_eq_getElem_cons hlt] at o'
    unfold forL at o'
    cases ht : src.items[i] S' with
    | none => rw [ht] at o'; obtain ⟨_, _, z, _⟩ := o'; cases z
    | some d =>
      rw [ht] at o'
      dsimp only at o'
      obtain ⟨ld, go, yld⟩ := turn _ d (List.getElem?_eq_getElem hlt) ht
      refine .inr ⟨go, fun σ3 H3 => ∃ σd3 S3 F3 φ3, Sim X.K cl S3 B F3 φ3 H3 ∧ Ext S1 F1 φ1 H1 S3 F3 φ3 H3 ∧ RS X.K cl F3 φ3 S3.len σd3 σ3 ∧ OkS X.K cl S3 B F3 φ3 H3 (forL ws src.fin g mb (src.items.drop (i + 1)) σd3 S3) Z, fun σ3 H3 h => ⟨src.items.length - (i + 1), by omega, rfl, hlt, h⟩, fun x H2 y => ?_⟩
      obtain ⟨F2, s2, x2, dr⟩ := yld x H2 y
      have o2 := o'.ext x2
      obtain ⟨σ3, S3, e3, o3⟩ := okS_bnd o2
      refine ⟨d, σd', S', B, F2, φ', s2, x2.rs rs', dr, ld, σ3, S3, e3, fun F4 φ4 H4 σ4 s4 x4 rs4 _ => ?_⟩
      obtain ⟨f, S5, e5, o5⟩ := okS_bnd (o3.ext x4)
      refine ⟨σ3, S3, B, F4, φ4, s4, rs4, f, S5, e5, ?_⟩
      cases f with
      | nx σ5 => exact fun F6 φ6 H6 σ6 s6 x6 rs6 => ⟨wipeD ws σ5, S5, F6, φ6, s6, x'.trans (x2.trans (x4.trans x6)), rs6.wipe ws, o5.ext x6⟩
      | ct σ5 => exact fun F6 φ6 H6 σ6 s6 x6 rs6 => ⟨wipeD ws σ5, S5, F6, φ6, s6, x'.trans (x2.trans (x4.trans x6)), rs6.wipe ws, o5.ext x6⟩
      | brk σ5 => obtain ⟨_, _, z, k⟩ := o5; cases z; exact fun F6 φ6 H6 σ6 s6 x6 rs6 => k F6 φ6 H6 σ6 s6 x6 (rs6.wipe ws)
      | ret d => obtain ⟨_, _, z, k⟩ := o5; cases z; exact k
  · have hd : src.items.drop i = [] := List.drop_eq_nil_iff.mpr (by omega)
    rw [hd] at o'
    unfold forL at o'
    by_cases hf : src.fin S' = true
    · rw [if_pos hf] at o'
      obtain ⟨_, _, z, k⟩ := o'
      cases z
      exact .inl ⟨stop (by omega) hf, k F' φ' H' σ' s' (.refl s') rs'⟩
    · rw [if_neg hf] at o'; obtain ⟨_, _, z, _⟩ := o'; cases z
theorem s_while {ws : List Nat} {c : Expr} {fuel : Nat} (hp : PassesOwn (model X.prog X.w) X.A X.env X.xe) (hc : PT X c (LT X.K cl mt)) (hb : PSs X body (LS X.K cl mb)) : PS X (.While c body [] pos) (LS X.K cl (dWhile ws fuel mt mb)) := by
  refine (ps_while hp hc hb).imp fun Z σ H q => ?_
  obtain ⟨σd, S, B, F, φ, s, rs, o⟩ := q
  refine ⟨fun k σ' H' => ∃ σd' S' F' φ', Sim X.K cl S' B F' φ' H' ∧ RS X.K cl F' φ' S'.len σd' σ' ∧ OkS X.K cl S' B F' φ' H' (whL ws mt mb k σd' S') Z, ⟨fuel, wipeD ws σd, S, F, φ, s, rs.wipe ws, o⟩, ?_⟩
  rintro k σ' H' ⟨σd', S', F', φ', s', rs', o'⟩
  cases k with
  | zero => obtain ⟨_, _, z, _⟩ := o'; cases z
  | succ k =>
    unfold whL at o'
    obtain ⟨b, S1, e1, o1⟩ := okS_bnd o'
    refine LT.then_ s' rs' e1 fun F1 φ1 H1 s1 x1 rs1 => ?_
    split
    · rename_i hb; rw [if_pos hb] at o1
      obtain ⟨f, S2, e2, o2⟩ := okS_bnd (o1.ext x1)
      refine ⟨fun σ3 H3 => ∃ σd3 S3 F3 φ3, Sim X.K cl S3 B F3 φ3 H3 ∧ RS X.K cl F3 φ3 S3.len σd3 σ3 ∧ OkS X.K cl S3 B F3 φ3 H3 (whL ws mt mb k σd3 S3) Z, fun σ3 H3 h => ⟨k, Nat.lt_succ_self _, h⟩, ?_⟩
      refine ⟨σd', S1, B, F1, φ1, s1, rs1, f, S2, e2, ?_⟩
      cases f with
      | nx σ5 => exact fun F6 φ6 H6 σ6 s6 x6 rs6 => ⟨wipeD ws σ5, S2, F6, φ6, s6, rs6.wipe ws, o2.ext x6⟩
      | ct σ5 => exact fun F6 φ6 H6 σ6 s6 x6 rs6 => ⟨wipeD ws σ5, S2, F6, φ6, s6, rs6.wipe ws, o2.ext x6⟩
      | brk σ5 => obtain ⟨_, _, z, k⟩ := o2; cases z; exact fun F6 φ6 H6 σ6 s6 x6 rs6 => k F6 φ6 H6 σ6 s6 x6 (rs6.wipe ws)
      | ret d => obtain ⟨_, _, z, k⟩ := o2; cases z; exact k
    · rename_i hb; rw [if_neg hb] at o1
      obtain ⟨_, _, z, k⟩ := o1
      cases z
      exact k F1 φ1 H1 σ' s1 x1 rs1
theorem wipe_get {σ : L2.St} {i : Nat} : ∀ {vs : List Nat}, i ∉ vs → (wipe σ vs)[i]? = σ[i]?
  | [], _ => rfl
  | v :: vs, h => by
    unfold wipe
    rw [List.mem_cons, not_or] at h
    rw [List.getElem?_set_ne (fun e => h.1 e.symm)]
    exact wipe_get h.2
theorem wipe_in {σ : L2.St} {i : Nat} : ∀ {vs : List Nat}, i ∈ vs → i < σ.length → (wipe σ vs)[i]? = some none
  | v :: vs, h, hl => by
    unfold wipe
    by_cases e : v = i
    · subst e
      rw [List.getElem?_set_self (by rw [wipe_length]; exact hl)]
    · rw [List.getElem?_set_ne e]
      rcases List.mem_cons.mp h with h | h
      · exact absurd h.symm e
      · exact wipe_in h hl
theorem wipe_eq {σ σ' : L2.St} {vs : List Nat} (h : σ'.length = σ.length) (k : ∀ j, j ∉ vs → σ'[j]? = σ[j]?) : wipe σ' vs = wipe σ vs := by
  apply List.ext_getElem?
  intro i
  by_cases hi : i ∈ vs
  · by_cases hl : i < σ.length
    · rw [wipe_in hi (by omega), wipe_in hi hl]
    · rw [List.getElem?_eq_none (by rw [wipe_length]; omega), List.getElem?_eq_none (by rw [wipe_length]; omega)]
  · rw [wipe_get hi, wipe_get hi]; exact k i hi
theorem wipe_wipe {σ : L2.St} {vs : List Nat} : wipe (wipe σ vs) vs = wipe σ vs := wipe_eq (wipe_length _ _) fun j h => wipe_get h
theorem wipeD_len : ∀ (vs : List Nat) (σd : En), (wipeD vs σd).length = σd.length
  | [], _ => rfl
  | i :: r, σd => by unfold wipeD; rw [wipeD_len r, List.length_set]
theorem wipeD_some : ∀ {vs : List Nat} {σd : En} {i : Nat} {d : D}, (wipeD vs σd)[i]? = some (some d) → σd[i]? = some (some d) ∧ i ∉ vs
  | [], _, _, _, h => ⟨h, by simp⟩
  | v :: vs, σd, i, d, h => by
    unfold wipeD at h
    obtain ⟨h1, h2⟩ := wipeD_some h
    by_cases e : v = i
    · subst e
      rw [List.getElem?_set, if_pos rfl] at h1
      split at h1 <;> cases h1
    · rw [List.getElem?_set_ne e] at h1
      exact ⟨h1, by rw [List.mem_cons, not_or]; exact ⟨fun z => e z.symm, h2⟩⟩
theorem RS.wipe2 {K : PySem.W.Frag} {F : Hp} {φ : Nat → Addr} {k : Nat} {σd : En} {σ : L2.St} (r : RS K cl F φ k σd σ) (vs : List Nat) : RS K cl F φ k (wipeD vs σd) (L2.wipe σ vs) := by
  refine ⟨by rw [wipeD_len, wipe_length]; exact r.1, fun i d e => ?_⟩
  obtain ⟨h1, h2⟩ := wipeD_some e
  obtain ⟨a, v, b, c⟩ := r.2 i d h1
  exact ⟨a, v, by rw [wipe_get h2]; exact b, c⟩
/-- another object, neither data nor one that may change here -/
def At (L : Addr) (us : List V) (S : SH) (F : Hp) (φ : Nat → Addr) (H : Hp) : Prop := H L = some (.lst us) ∧ F L = none ∧ ∀ n, n < S.len → φ n ≠ L
theorem At.ext {L : Addr} {us : List V} {S S' : SH} {F F' H H' : Hp} {φ φ' : Nat → Addr} (x : Ext S F φ H S' F' φ' H') (a : At L us S F φ H) : At L us S' F' φ' H' := by
  refine ⟨x.keep L _ a.1 a.2.2, x.fr L _ a.1 a.2.1 a.2.2, fun n hn e => ?_⟩
  by_cases h : n < S.len
  · exact a.2.2 n h ((x.phi n h).symm.trans e)
  · have := x.new n (Nat.le_of_not_lt h) hn
    rw [e, a.1] at this; cases this
theorem Sim.other {K : PySem.W.Frag} {S : SH} {B : List Nat} {F H : Hp} {φ : Nat → Addr} (s : Sim K cl S B F φ H) {L : Addr} (o : HO) (fL : F L = none) (np : ∀ n, n < S.len → φ n ≠ L) : Sim K cl S B F φ (upd H L o) := by
  refine ⟨fun a u e => ?_, fun n u e => ⟨(s.ob n u e).1, ?_⟩, s.inj, s.wf, s.bs, s.bl⟩
  · rw [upd_ne (ne_of_none e fL)]; exact s.le a u e
  · rw [upd_ne (np n (List.getElem?_eq_some_iff.mp e).1)]; exact (s.ob n u e).2
theorem Ext.other {S S' : SH} {F F' H H' : Hp} {φ φ' : Nat → Addr} (x : Ext S F φ H S' F' φ' H') {L : Addr} (o : HO) (h : H L = none) : Ext S F φ H S' F' φ' (upd H' L o) :=
  ⟨x.fz, x.len, x.b, x.phi, x.new, fun a u e n => by rw [upd_ne (ne_of_none e h)]; exact x.keep a u e n, fun n hn => by
    by_cases e : φ n = L
    · rw [e, upd_same]; simp
    · rw [upd_ne e]; exact x.tr n hn, x.fr⟩
theorem newL_at {K : PySem.W.Frag} {S0 S : SH} {B : List Nat} {F0 F H0 H : Hp} {φ0 φ : Nat → Addr} {Q : VK} {live : Bool} {ds : List D} {us : List V} {L : Addr} (h : OkE K cl S0 B F0 φ0 H0 (newL live ds S) Q) (s : Sim K cl S B F φ H) (x : Ext S0 F0 φ0 H0 S F φ H)
    (r : DRA K cl F φ ds us) (l : ∀ d ∈ ds, d.lt S.len) (a : At L us S F φ H) (h0 : H0 L = none) : Q (.ref L) H := by
  -- as if the object were laid just now
  obtain ⟨aL, fL, np⟩ := a
  let Hm : Hp := fun b => if b = L then none else H b
  have hm : Hm L = none := if_pos rfl
  have ne : ∀ b, b ≠ L → Hm b = H b := fun b hb => if_neg hb
  have sm : Sim K cl S B F φ Hm := ⟨fun b o e => by rw [ne b (ne_of_none e fL)]; exact s.le b o e, fun n o e => ⟨(s.ob n o e).1, by rw [ne _ (np n (List.getElem?_eq_some_iff.mp e).1)]; exact (s.ob n o e).2⟩, s.inj, s.wf, s.bs, s.bl⟩
  have xm : Ext S0 F0 φ0 H0 S F φ Hm := ⟨x.fz, x.len, x.b, x.phi, x.new, fun b o e n => by rw [ne b (ne_of_none e h0)]; exact x.keep b o e n, fun n hn e => by
      by_cases q : φ0 n = L
      · exact np n (Nat.lt_of_lt_of_le hn x.len) ((x.phi n hn).trans q)
      · rw [ne _ q] at e; exact x.tr n hn e, x.fr⟩
  have same : Same Hm H := fun b o e => by
    by_cases q : b = L
    · rw [q, hm] at e; cases e
    · rw [ne b q] at e; exact e
  exact (newL_ok (h.ext xm) sm r l).2 L H hm same aL
theorem e_comp {K : PySem.W.Frag} {live : Bool} {σ : L2.St} {H : Hp} {Q : VK} {ws : List Nat} (hw : ∀ j ∈ vs, j ∈ ws) (q : LE K cl (dComp live m g mt me ws) σ H Q) : tLc (LI K cl m) (LG K cl vs g) (LT K cl mt) (LE K cl me) ws σ H Q := by
  obtain ⟨σd, S, B, F, φ, s, rs, o⟩ := q
  obtain ⟨src, S1, e1, o1⟩ := okE_bnd o
  refine ⟨σd, S, B, F, φ, s, rs, src, S1, e1, fun F1 φ1 H1 J s1 x1 it => ?_⟩
  intro L hL
  have o1 := o1.ext x1
  have smL : Same H1 (upd H1 L (.lst [])) := Same.new (Same.refl _) hL
  obtain ⟨fL, pL⟩ := s1.none_p hL
  refine ⟨fun i mm H' => mm = src.items.length - i ∧ i ≤ src.items.length ∧ ∃ acc us S' F' φ', Sim K cl S' B F' φ' H' ∧ Ext S1 F1 φ1 H1 S' F' φ' H' ∧ At L us S' F' φ' H' ∧ DRA K cl F' φ' acc us ∧ (∀ d ∈ acc, d.lt S'.len) ∧
      OkE K cl S1 B F1 φ1 H1 (bnd (compL src.fin g mt me (wipeD ws σd) (src.items.drop i) acc S') fun ds S2 => newL live ds S2) Q,
    ⟨src.items.length, by simp, Nat.zero_le _, [], [], S1, F1, φ1, s1.keep smL, Ext.ofSame s1 smL, ⟨upd_same, fL, pL⟩, .nil, fun _ z => absurd z (by simp), by rw [List.drop_zero]; exact o1⟩, ?_⟩
  rintro i mm H' ⟨rfl, hi, acc, us, S', F', φ', s', x', at', ra, la, o'⟩
  obtain ⟨turn, stop⟩ := it S' B F' φ' H' s' x'.fz x'.len x'.phi i
  by_cases hlt : i < src.items.length
  · rw [List.drop_eq_getElem_cons hlt] at o'
    unfold compL at o'
    cases ht : src.items[i] S' with
    | none => rw [ht] at o'; obtain ⟨_, _, z, _⟩ := o'; cases z
    | some d =>
      rw [ht] at o'
      dsimp only at o'
      obtain ⟨ld, go, yld⟩ := turn _ d (List.getElem?_eq_getElem hlt) ht
      refine .inr ⟨go, fun H3 => ∃ acc us S' F' φ', Sim K cl S' B F' φ' H3 ∧ Ext S1 F1 φ1 H1 S' F' φ' H3 ∧ At L us S' F' φ' H3 ∧ DRA K cl F' φ' acc us ∧ (∀ d ∈ acc, d.lt S'.len) ∧
        OkE K cl S1 B F1 φ1 H1 (bnd (compL src.fin g mt me (wipeD ws σd) (src.items.drop (i + 1)) acc S') fun ds S2 => newL live ds S2) Q, fun H3 h => ⟨src.items.length - (i + 1), by omega, rfl, hlt, h⟩, fun x H2 y => ?_⟩
      obtain ⟨F2, s2, x2, dr⟩ := yld x H2 y
      obtain ⟨out, S9, eo, ko⟩ := okE_bnd o'
      obtain ⟨σ3, S3, e3, e4⟩ := bnd_of eo
      obtain ⟨b, S4, e5, e6⟩ := bnd_of e4
      refine ⟨d, wipeD ws σd, S', B, F2, φ', s2, (((x1.trans x').trans x2).rs rs).wipe2 ws, dr, ld, σ3, S3, e3, fun F4 φ4 H4 σ4 s4 x4 rs4 hk => ⟨?_, ?_⟩⟩
      · exact (wipe_eq hk.1 fun j hj => hk.2 j fun z => hj (hw j z)).trans wipe_wipe
      · refine LT.then_ s4 rs4 e5 fun F5 φ5 H5 s5 x5 rs5 => ?_
        have xa := (x2.trans x4).trans x5
        split
        · rename_i hb
          rw [if_pos hb] at e6
          by_cases hz : acc.length < sizeLine
          · rw [if_pos hz] at e6
            obtain ⟨y1, S6, e7, e8⟩ := bnd_of e6
            refine LE.then_ s5 rs5 e7 fun F6 φ6 H6 u s6 x6 rs6 dr6 l6 => ?_
            have xb := xa.trans x6
            have at6 := at'.ext xb
            have hlen := ra.length
            refine ⟨us, at6.1, by omega, acc ++ [y1], us ++ [u], S6, F6, φ6, s6.other _ at6.2.1 at6.2.2, (x'.trans xb).other _ hL, ⟨upd_same, at6.2⟩, ?_, fun z hz' => ?_, ?_⟩
            · exact DRA.append (xb.dra la ra) (.cons dr6 .nil)
            · rcases List.mem_append.mp hz' with h | h
              · exact xb.lt (la z h)
              · rw [List.mem_singleton.mp h]; exact l6
            · rw [e8]; exact ko
          · rw [if_neg hz] at e6; cases e6
        · rename_i hb
          rw [if_neg hb] at e6
          exact ⟨acc, us, S4, F5, φ5, s5, x'.trans xa, at'.ext xa, xa.dra la ra, fun z hz' => xa.lt (la z hz'), by rw [e6]; exact ko⟩
  · have hd : src.items.drop i = [] := List.drop_eq_nil_iff.mpr (by omega)
    rw [hd] at o'
    unfold compL at o'
    by_cases hf : src.fin S' = true
    · rw [if_pos hf] at o'
      exact .inl ⟨stop (by omega) hf, newL_at o' s' x' ra la at' hL⟩
    · rw [if_neg hf] at o'; obtain ⟨_, _, z, _⟩ := o'; cases z
theorem ts_nil : PTs X [] (LT X.K cl dYes) := by
  refine ⟨fun pins s σ H Q I h => pts_nil.run pins s σ H Q I ?_⟩
  obtain ⟨σd, S, B, F, φ, s, rs, d, S1, e, k⟩ := h
  cases e
  exact k F φ H s (.refl s)
theorem ts_one {c : Expr} (h : PT X c (LT X.K cl mt)) : PTs X [c] (LT X.K cl mt) := pts_one h
theorem k_comp {elt : Expr} {ifs : List Expr} {scope : Scope} {own : List (Str × Nat)} {live : Bool} (hc : X.calm = true) (hN : X.N.Nodup) (hi : PI X tg iter (LI X.K cl m)) (ok : BlkOk X.N X.env.scope scope own)
    (hg : ∀ (s : Shared) (H : Hp) (C : Addr) (cs : List (Str × Addr)) (fp : List Addr), PG (X.blk s H scope (compEnvC scope cs C X.env) fp) tg (LG X.K cl vs g)) (ht : ∀ (s : Shared) (H : Hp) (C : Addr) (cs : List (Str × Addr)) (fp : List Addr), PTs (X.blk s H scope (compEnvC scope cs C X.env) fp) ifs (LT X.K cl mt))
    (he : ∀ (s : Shared) (H : Hp) (C : Addr) (cs : List (Str × Addr)) (fp : List Addr), PE (X.blk s H scope (compEnvC scope cs C X.env) fp) elt (LE X.K cl me)) (hw : ∀ j ∈ vs, j ∈ own.map (·.2) := by decide) (hs : ∀ x, foldedSetIterable iter X.env x = pure x := by intro _; rfl) :
    PE X (.ListComp elt [⟨tg, iter, ifs, 0⟩] scope pos) (LE X.K cl (dComp live m g mt me (own.map (·.2)))) :=
  (pe_lc hc hN hi ok hg ht he hs).imp fun _ _ _ q => e_comp hw q
theorem s_setComp {i : Nat} {y : Str} {py spos : Pos} {elt : Expr} {ifs : List Expr} {scope : Scope} {own : List (Str × Nat)} {live : Bool} (hc : X.calm = true) (hN : X.N.Nodup) (hy : X.N[i]? = some y) (hyl : X.env.scope.names.lookup y = some .local)
    (hsw : swapsWith (.ListComp elt [⟨tg, iter, ifs, 0⟩] scope pos) (some (.Name y py)) spos.line X.env = pure true) (hi : PI X tg iter (LI X.K cl m)) (ok : BlkOk X.N X.env.scope scope own)
    (hg : ∀ (s : Shared) (H : Hp) (C : Addr) (cs : List (Str × Addr)) (fp : List Addr), PG (X.blk s H scope (compEnvC scope cs C X.env) fp) tg (LG X.K cl vs g)) (ht : ∀ (s : Shared) (H : Hp) (C : Addr) (cs : List (Str × Addr)) (fp : List Addr), PTs (X.blk s H scope (compEnvC scope cs C X.env) fp) ifs (LT X.K cl mt))
    (he : ∀ (s : Shared) (H : Hp) (C : Addr) (cs : List (Str × Addr)) (fp : List Addr), PE (X.blk s H scope (compEnvC scope cs C X.env) fp) elt (LE X.K cl me)) (hw : ∀ j ∈ vs, j ∈ own.map (·.2) := by decide) (hs : ∀ x, foldedSetIterable iter X.env x = pure x := by intro _; rfl) :
    PS X (.Assign [.Name y py] (.ListComp elt [⟨tg, iter, ifs, 0⟩] scope pos) spos) (LS X.K cl (dSet i (dComp live m g mt me (own.map (·.2))))) := by
  refine (ps_setLc hc hN hy hyl hsw hi ok hg ht he hs).imp fun Z σ H q => ?_
  obtain ⟨σd, S, B, F, φ, s, rs, o⟩ := q
  obtain ⟨d, S1, e1, o1⟩ := okS_bnd o
  obtain ⟨_, _, z, k⟩ := o1
  cases z
  exact e_comp hw ⟨σd, S, B, F, φ, s, rs, d, S1, e1, fun F1 φ1 H1 u s1 x1 dr l => k F1 φ1 H1 _ s1 x1 ((x1.rs rs).set i dr l)⟩
end
end Pv
namespace Pv
open PySem PySem.Spec PyProof.Rows L2

/-! ### == of data -/
mutual
def peq : P → P → Bool
  | .non, .non => true
  | .bl a, .bl b => a == b
  | .bl a, .int j => (if a = true then 1 else 0) == j
  | .int i, .bl b => i == (if b = true then 1 else 0)
  | .int i, .int j => i == j
  | .str x, .str y => x == y
  | .lst xs, .lst ys => peqA xs ys
  | .tup xs, .tup ys => peqA xs ys
  | _, _ => false
def peqA : List P → List P → Bool
  | [], [] => true
  | x :: xs, y :: ys => peq x y && peqA xs ys
  | _, _ => false
end
/-- data of nested lists and tuples, so deep at most -/
def okd : Nat → P → Bool
  | _, .non => true
  | _, .bl _ => true
  | _, .int _ => true
  | _, .str _ => true
  | k + 1, .lst ps => ps.all (okd k)
  | k + 1, .tup ps => ps.all (okd k)
  | _, _ => false
theorem peqA_len : ∀ {xs ys : List P}, xs.length ≠ ys.length → peqA xs ys = false
  | [], [], h => absurd rfl h
  | [], _ :: _, _ => by simp [peqA]
  | _ :: _, [], _ => by simp [peqA]
  | x :: xs, y :: ys, h => by
    rw [peqA, peqA_len (xs := xs) (ys := ys) (fun e => h (by rw [List.length_cons, List.length_cons, e])), Bool.and_false]
def pAt (xs ys : List P) (j : Nat) : Bool := peq (xs.getD j .non) (ys.getD j .non)
theorem peqA_all : ∀ {xs ys : List P}, xs.length = ys.length → peqA xs ys = (List.range xs.length).all (pAt xs ys)
  | [], [], _ => by simp [peqA]
  | [], _ :: _, h => by simp at h
  | _ :: _, [], h => by simp at h
  | x :: xs, y :: ys, h => by
    have h' : xs.length = ys.length := by simpa using h
    rw [peqA, peqA_all h', List.length_cons, List.range_succ_eq_map, List.all_cons, List.all_map]
    rfl
theorem pAt_get {xs ys : List P} {j : Nat} {x y : P} (h1 : xs[j]? = some x) (h2 : ys[j]? = some y) : pAt xs ys j = peq x y := by
  unfold pAt
  rw [List.getD_eq_getElem?_getD, List.getD_eq_getElem?_getD, h1, h2]
  rfl
section
variable {X : Cx} {cl : Nat → Addr} {pins : List (Addr × Obj)} {σ : L2.St} {H F : Hp} {s : Shared}
theorem RpA.get {K : PySem.W.Frag} : ∀ {ps : List P} {vs : List V} {i : Nat} {v : V}, RpA K cl F ps vs → vs[i]? = some v → ∃ p, ps[i]? = some p ∧ Rp K cl F p v
  | _, _, _, _, .nil, e => by simp at e
  | _, _, 0, _, .cons r _, e => by simp at e; subst e; exact ⟨_, rfl, r⟩
  | _, _, i + 1, _, .cons _ t, e => by
    obtain ⟨u, h1, h2⟩ := RpA.get (i := i) t (by simpa using e)
    exact ⟨u, by simpa using h1, h2⟩
theorem RpA.len {K : PySem.W.Frag} {ps : List P} {vs : List V} (h : RpA K cl F ps vs) : ps.length = vs.length := by
  induction ps generalizing vs with
  | nil => cases h; rfl
  | cons x r ih => cases h with | cons a b => rw [List.length_cons, List.length_cons, ih b]
/-- a list's, a tuple's items, by place -/
theorem lst_items (I : L2.Inv X pins σ H s) (sf : Same F H) {ps : List P} {v : V} {u : Value} (r : Rp X.K cl F (.lst ps) v) (ru : RelV v u) : ∃ a its, u = .ref a ∧ v = .ref a ∧ s.heap.IsList a its ∧ its.size = ps.length ∧ ∀ j (hj : j < its.size), ∃ p w, ps[j]? = some p ∧ Rp X.K cl F p w ∧ RelV w its[j] := by
  cases r with
  | @lst a _ vs q t =>
    cases ru
    obtain ⟨its, rv, pl, hz⟩ := I.list (SqL.mono sf q)
    have e1 := rv.length
    have e2 := t.len
    refine ⟨a, its.toArray, rfl, rfl, pl.isList, by rw [List.size_toArray]; omega, fun j hj => ?_⟩
    have hj2 : j < its.length := by simpa using hj
    have hv : vs[j]? = some vs[j] := List.getElem?_eq_getElem (by omega)
    obtain ⟨p, hp, rp⟩ := t.get hv
    obtain ⟨w, hw, rw'⟩ := rv.get hv
    refine ⟨p, vs[j], hp, rp, ?_⟩
    have : its[j] = w := by
      rw [List.getElem?_eq_getElem hj2] at hw
      exact Option.some.inj hw
    rw [List.getElem_toArray, this]
    exact rw'
theorem tup_items (I : L2.Inv X pins σ H s) (sf : Same F H) {ps : List P} {v : V} {u : Value} (r : Rp X.K cl F (.tup ps) v) (ru : RelV v u) : ∃ a its, u = .ref a ∧ v = .ref a ∧ s.heap.IsTuple a its ∧ its.size = ps.length ∧ ∀ j (hj : j < its.size), ∃ p w, ps[j]? = some p ∧ Rp X.K cl F p w ∧ RelV w its[j] := by
  cases r with
  | @tup a _ vs q t =>
    cases ru
    obtain ⟨its, rv, pl, hz⟩ := I.tuple (SqT.mono sf q)
    have e1 := rv.length
    have e2 := t.len
    refine ⟨a, its.toArray, rfl, rfl, pl, by rw [List.size_toArray]; omega, fun j hj => ?_⟩
    have hj2 : j < its.length := by simpa using hj
    have hv : vs[j]? = some vs[j] := List.getElem?_eq_getElem (by omega)
    obtain ⟨p, hp, rp⟩ := t.get hv
    obtain ⟨w, hw, rw'⟩ := rv.get hv
    refine ⟨p, vs[j], hp, rp, ?_⟩
    have : its[j] = w := by
      rw [List.getElem?_eq_getElem hj2] at hw
      exact Option.some.inj hw
    rw [List.getElem_toArray, this]
    exact rw'
theorem okd_at {k : Nat} {ps : List P} (h : ps.all (okd k) = true) {j : Nat} {p : P} (e : ps[j]? = some p) : okd k p = true := List.all_eq_true.mp h p (List.mem_of_getElem? e)
mutual
theorem peq_refl : ∀ (k : Nat) (p : P), okd k p = true → peq p p = true
  | _, .non, _ => rfl
  | _, .bl b, _ => by simp [peq]
  | _, .int i, _ => by simp [peq]
  | _, .str x, _ => by simp [peq]
  | 0, .lst _, h => by simp [okd] at h
  | 0, .tup _, h => by simp [okd] at h
  | k + 1, .lst ps, h => by rw [peq]; exact peqA_refl k ps (by simpa [okd] using h)
  | k + 1, .tup ps, h => by rw [peq]; exact peqA_refl k ps (by simpa [okd] using h)
  | 0, .dK _, h => by simp [okd] at h
  | _ + 1, .dK _, h => by simp [okd] at h
  | 0, .dT _, h => by simp [okd] at h
  | _ + 1, .dT _, h => by simp [okd] at h
  | 0, .ins _ _, h => by simp [okd] at h
  | _ + 1, .ins _ _, h => by simp [okd] at h
theorem peqA_refl : ∀ (k : Nat) (ps : List P), (∀ x, x ∈ ps → okd k x = true) → peqA ps ps = true
  | _, [], _ => rfl
  | k, p :: ps, h => by rw [peqA, peq_refl k p (h p List.mem_cons_self), peqA_refl k ps (fun x hx => h x (List.mem_cons_of_mem _ hx))]; rfl
end
/-- one address holds one datum -/
theorem Rp.uniq (I : L2.Inv X pins σ H s) (sf : Same F H) : ∀ (k : Nat) (p q : P) (v : V), okd k p = true → okd k q = true → Rp X.K cl F p v → Rp X.K cl F q v → p = q := by
  intro k
  induction k with
  | zero =>
    intro p q v hp hq r1 r2
    cases p <;> cases q <;> first | (simp [okd] at hp; done) | (simp [okd] at hq; done) | (cases r1; cases r2; rfl) | (cases r1; cases r2)
  | succ k ih =>
    have all : ∀ (ps qs : List P) (vs : List V), ps.all (okd k) = true → qs.all (okd k) = true → RpA X.K cl F ps vs → RpA X.K cl F qs vs → ps = qs := by
      intro ps
      induction ps with
      | nil => intro qs vs _ _ r1 r2; cases r1; cases r2; rfl
      | cons p ps ihp =>
        intro qs vs h1 h2 r1 r2
        cases r1 with
        | cons a b =>
          cases r2 with
          | cons c d =>
            simp only [List.all_cons, Bool.and_eq_true] at h1 h2
            rw [ih _ _ _ h1.1 h2.1 a c, ihp _ _ h1.2 h2.2 b d]
    intro p q v hp hq r1 r2
    have lt : ∀ {a : Addr} {xs ys : List V}, SqL X.K F a xs → SqT X.K F a ys → False := fun {a xs ys} h1 h2 => by
      obtain ⟨its, _, ⟨o, n, e, c, _⟩, _⟩ := I.list (SqL.mono sf h1)
      obtain ⟨its2, _, ⟨o2, e2, c2, _⟩, _⟩ := I.tuple (SqT.mono sf h2)
      rw [e] at e2; cases e2
      rw [c] at c2
      injection c2 with c3
      exact absurd c3 (by decide)
    cases p <;> cases q <;> first | (simp [okd] at hp; done) | (simp [okd] at hq; done) | (cases r1; cases r2; rfl) | (cases r1; cases r2; done) | skip
    · cases r1 with
      | tup q1 t1 =>
        cases r2 with
        | tup q2 t2 =>
          have e := I.tuple_inj (SqT.mono sf q1) (SqT.mono sf q2)
          subst e
          rw [all _ _ _ (by simpa [okd] using hp) (by simpa [okd] using hq) t1 t2]
    · cases r1 with
      | tup q1 t1 => cases r2 with | lst q2 t2 => exact (lt q2 q1).elim
    · cases r1 with
      | lst q1 t1 => cases r2 with | tup q2 t2 => exact (lt q1 q2).elim
    · cases r1 with
      | lst q1 t1 =>
        cases r2 with
        | lst q2 t2 =>
          have e := I.list_inj (SqL.mono sf q1) (SqL.mono sf q2)
          subst e
          rw [all _ _ _ (by simpa [okd] using hp) (by simpa [okd] using hq) t1 t2]
theorem flat_V {K : PySem.W.Frag} : ∀ {p : P} {v : V}, okd 0 p = true → Rp K cl F p v → flatV v = true ∧ ∀ {q : P} {w : V}, okd 0 q = true → Rp K cl F q w → eqV v w = peq p q
  | .non, _, _, .non => ⟨rfl, fun {q w} hq r => by cases q <;> first | (simp [okd] at hq; done) | (cases r; simp [eqV, peq])⟩
  | .bl a, _, _, .bl _ => ⟨rfl, fun {q w} hq r => by cases q <;> first | (simp [okd] at hq; done) | (cases r; simp [eqV, peq])⟩
  | .int i, _, _, .int _ => ⟨rfl, fun {q w} hq r => by cases q <;> first | (simp [okd] at hq; done) | (cases r; simp [eqV, peq])⟩
  | .str x, _, _, .str _ => ⟨rfl, fun {q w} hq r => by cases q <;> first | (simp [okd] at hq; done) | (cases r; simp [eqV, peq])⟩
theorem eqAt_flat (p q : P) (v w : V) (u z : Value) (A : Around) (hp : okd 0 p = true) (hq : okd 0 q = true) (r1 : Rp X.K cl F p v) (e1 : RelV v u) (r2 : Rp X.K cl F q w) (e2 : RelV w z) : SeqAt.EqAt A s u z (peq p q) := by
  obtain ⟨f1, h⟩ := flat_V hp r1
  rw [← h hq r2]
  exact eqAt_V e1 e2 f1 (flat_V hq r2).1
theorem eqAt_P (I : L2.Inv X pins σ H s) (sf : Same F H) : ∀ (k : Nat) (p q : P) (v w : V) (u z : Value) (A : Around), okd k p = true → okd k q = true → Rp X.K cl F p v → RelV v u → Rp X.K cl F q w → RelV w z → A.units + k < cLine → SeqAt.EqAt A s u z (peq p q) := by
  intro k
  induction k with
  | zero =>
    intro p q v w u z A hp hq r1 e1 r2 e2 hu
    exact eqAt_flat p q v w u z A hp hq r1 e1 r2 e2
  | succ k ih =>
    intro p q v w u z A hp hq r1 e1 r2 e2 hu
    have hu0 : A.units < cLine := by omega
    have flat : okd 0 p = true → okd 0 q = true → SeqAt.EqAt A s u z (peq p q) := fun h1 h2 => by
      have up : ∀ x : P, okd 0 x = true → okd k x = true := fun x h => by cases x <;> first | (simp [okd] at h; done) | (cases k <;> rfl)
      exact ih p q v w u z A (up p h1) (up q h2) r1 e1 r2 e2 (by omega)
    cases p with
    | dK _ => simp [okd] at hp
    | dT _ => simp [okd] at hp
    | ins _ _ => simp [okd] at hp
    | lst ps =>
      obtain ⟨a, its, eu, ev, il, hs, hi⟩ := lst_items I sf r1 e1
      subst eu
      cases q with
      | dK _ => simp [okd] at hq
      | dT _ => simp [okd] at hq
      | ins _ _ => simp [okd] at hq
      | non => cases r2; cases e2; exact SeqAt.EqAt.list_none il hu0
      | bl b => cases r2; cases e2; exact SeqAt.EqAt.list_bool b il hu0
      | int i => cases r2; obtain ⟨t, rfl⟩ := e2; exact SeqAt.EqAt.list_int i t il hu0
      | str i => cases r2; obtain ⟨t, rfl⟩ := e2; exact SeqAt.EqAt.list_str i t il hu0
      | tup qs =>
        obtain ⟨b, its2, eu2, ev2, il2, hs2, hi2⟩ := tup_items I sf r2 e2
        subst eu2
        exact SeqAt.EqAt.list_tuple il il2 hu0
      | lst qs =>
        obtain ⟨b, its2, eu2, ev2, il2, hs2, hi2⟩ := lst_items I sf r2 e2
        subst eu2
        by_cases hab : a = b
        · subst hab
          rw [ev] at r1
          rw [ev2] at r2
          rw [Rp.uniq I sf _ _ _ _ hp hq r1 r2, peq_refl _ _ hq]
          exact SeqAt.EqAt.same _
        · rw [peq]
          by_cases hsz : its.size = its2.size
          · rw [peqA_all (by omega : ps.length = qs.length), ← hs]
            refine SeqAt.EqAt.of_refs hab (SeqAt.RcAt.lists il il2 hsz hu0 fun j h1 h2 => ?_)
            obtain ⟨x, w1, hx, rx, ex⟩ := hi j h1
            obtain ⟨y, w2, hy, ry, ey⟩ := hi2 j h2
            rw [pAt_get hx hy]
            exact ih x y w1 w2 _ _ A.in1 (okd_at (by simpa only [okd] using hp) hx) (okd_at (by simpa only [okd] using hq) hy) rx ex ry ey (by show A.units + 1 + k < cLine; omega)
          · rw [peqA_len (by omega : ps.length ≠ qs.length)]
            exact SeqAt.EqAt.of_refs hab (SeqAt.RcAt.lists_lengths il il2 (by simpa using hsz) hu0)
    | tup ps =>
      obtain ⟨a, its, eu, ev, il, hs, hi⟩ := tup_items I sf r1 e1
      subst eu
      cases q with
      | dK _ => simp [okd] at hq
      | dT _ => simp [okd] at hq
      | ins _ _ => simp [okd] at hq
      | non => cases r2; cases e2; exact SeqAt.EqAt.tuple_none il hu0
      | bl b => cases r2; cases e2; exact SeqAt.EqAt.tuple_bool b il hu0
      | int i => cases r2; obtain ⟨t, rfl⟩ := e2; exact SeqAt.EqAt.tuple_int i t il hu0
      | str i => cases r2; obtain ⟨t, rfl⟩ := e2; exact SeqAt.EqAt.tuple_str i t il hu0
      | lst qs =>
        obtain ⟨b, its2, eu2, ev2, il2, hs2, hi2⟩ := lst_items I sf r2 e2
        subst eu2
        exact SeqAt.EqAt.tuple_list il il2 hu0
      | tup qs =>
        obtain ⟨b, its2, eu2, ev2, il2, hs2, hi2⟩ := tup_items I sf r2 e2
        subst eu2
        by_cases hab : a = b
        · subst hab
          rw [ev] at r1
          rw [ev2] at r2
          rw [Rp.uniq I sf _ _ _ _ hp hq r1 r2, peq_refl _ _ hq]
          exact SeqAt.EqAt.same _
        · rw [peq]
          have main := SeqAt.RcAt.tuples (A := A) (s := s) (e := pAt ps qs) il il2 hu0 fun j h1 h2 => by
            obtain ⟨x, w1, hx, rx, ex⟩ := hi j h1
            obtain ⟨y, w2, hy, ry, ey⟩ := hi2 j h2
            rw [pAt_get hx hy]
            exact ih x y w1 w2 _ _ A.in1 (okd_at (by simpa only [okd] using hp) hx) (okd_at (by simpa only [okd] using hq) hy) rx ex ry ey (by show A.units + 1 + k < cLine; omega)
          by_cases hsz : its.size = its2.size
          · rw [peqA_all (by omega : ps.length = qs.length), ← hs]
            rw [hsz, Nat.min_self, beq_self_eq_true, Bool.and_true, ← hsz] at main
            exact SeqAt.EqAt.of_refs hab main
          · rw [peqA_len (by omega : ps.length ≠ qs.length)]
            have : (its.size == its2.size) = false := beq_eq_false_iff_ne.mpr hsz
            rw [this, Bool.and_false] at main
            exact SeqAt.EqAt.of_refs hab main
    | non =>
      cases q with
      | lst qs => obtain ⟨b, its2, eu2, ev2, il2, hs2, hi2⟩ := lst_items I sf r2 e2; subst eu2; cases r1; cases e1; exact SeqAt.EqAt.none_list il2 hu0
      | tup qs => obtain ⟨b, its2, eu2, ev2, il2, hs2, hi2⟩ := tup_items I sf r2 e2; subst eu2; cases r1; cases e1; exact SeqAt.EqAt.none_tuple il2 hu0
      | dK _ => simp [okd] at hq
      | dT _ => simp [okd] at hq
      | ins _ _ => simp [okd] at hq
      | _ => exact flat rfl rfl
    | bl c =>
      cases q with
      | lst qs => obtain ⟨b, its2, eu2, ev2, il2, hs2, hi2⟩ := lst_items I sf r2 e2; subst eu2; cases r1; cases e1; exact SeqAt.EqAt.bool_list c il2 hu0
      | tup qs => obtain ⟨b, its2, eu2, ev2, il2, hs2, hi2⟩ := tup_items I sf r2 e2; subst eu2; cases r1; cases e1; exact SeqAt.EqAt.bool_tuple c il2 hu0
      | dK _ => simp [okd] at hq
      | dT _ => simp [okd] at hq
      | ins _ _ => simp [okd] at hq
      | _ => exact flat rfl rfl
    | int c =>
      cases q with
      | lst qs => obtain ⟨b, its2, eu2, ev2, il2, hs2, hi2⟩ := lst_items I sf r2 e2; subst eu2; cases r1; obtain ⟨t, rfl⟩ := e1; exact SeqAt.EqAt.int_list c t il2 hu0
      | tup qs => obtain ⟨b, its2, eu2, ev2, il2, hs2, hi2⟩ := tup_items I sf r2 e2; subst eu2; cases r1; obtain ⟨t, rfl⟩ := e1; exact SeqAt.EqAt.int_tuple c t il2 hu0
      | dK _ => simp [okd] at hq
      | dT _ => simp [okd] at hq
      | ins _ _ => simp [okd] at hq
      | _ => exact flat rfl rfl
    | str c =>
      cases q with
      | lst qs => obtain ⟨b, its2, eu2, ev2, il2, hs2, hi2⟩ := lst_items I sf r2 e2; subst eu2; cases r1; obtain ⟨t, rfl⟩ := e1; exact SeqAt.EqAt.str_list c t il2 hu0
      | tup qs => obtain ⟨b, its2, eu2, ev2, il2, hs2, hi2⟩ := tup_items I sf r2 e2; subst eu2; cases r1; obtain ⟨t, rfl⟩ := e1; exact SeqAt.EqAt.str_tuple c t il2 hu0
      | dK _ => simp [okd] at hq
      | dT _ => simp [okd] at hq
      | ins _ _ => simp [okd] at hq
      | _ => exact flat rfl rfl
theorem rcAt_P (I : L2.Inv X pins σ H s) (sf : Same F H) (k : Nat) (p q : P) (v w : V) (u z : Value) (A : Around) (hp : okd (k + 1) p = true) (hq : okd (k + 1) q = true) (r1 : Rp X.K cl F p v) (e1 : RelV v u) (r2 : Rp X.K cl F q w) (e2 : RelV w z) (hu : A.units + k + 1 < cLine) : SeqAt.RcAt A s u z (peq p q) := by
  have hu0 : A.units < cLine := by omega
  cases p with
  | non =>
    cases r1; cases e1
    cases q with
    | non =>
      cases r2; cases e2
      exact SeqAt.RcAt.none_none
    | bl c2 =>
      cases r2; cases e2
      exact SeqAt.RcAt.none_bool c2
    | int c2 =>
      cases r2; obtain ⟨t2, rfl⟩ := e2
      exact SeqAt.RcAt.none_int c2 t2
    | str c2 =>
      cases r2; obtain ⟨t2, rfl⟩ := e2
      exact SeqAt.RcAt.none_str c2 t2
    | lst qs =>
      obtain ⟨b, its2, eu2, ev2, il2, hs2, hi2⟩ := lst_items I sf r2 e2
      subst eu2
      exact SeqAt.RcAt.none_list il2 hu0
    | tup qs =>
      obtain ⟨b, its2, eu2, ev2, il2, hs2, hi2⟩ := tup_items I sf r2 e2
      subst eu2
      exact SeqAt.RcAt.none_tuple il2 hu0
    | dK _ => simp [okd] at hq
    | dT _ => simp [okd] at hq
    | ins _ _ => simp [okd] at hq
  | bl c =>
    cases r1; cases e1
    cases q with
    | non =>
      cases r2; cases e2
      exact SeqAt.RcAt.bool_none c
    | bl c2 =>
      cases r2; cases e2
      exact SeqAt.RcAt.bool_bool c c2
    | int c2 =>
      cases r2; obtain ⟨t2, rfl⟩ := e2
      exact SeqAt.RcAt.bool_int c c2 t2
    | str c2 =>
      cases r2; obtain ⟨t2, rfl⟩ := e2
      exact SeqAt.RcAt.bool_str c c2 t2
    | lst qs =>
      obtain ⟨b, its2, eu2, ev2, il2, hs2, hi2⟩ := lst_items I sf r2 e2
      subst eu2
      exact SeqAt.RcAt.bool_list c il2 hu0
    | tup qs =>
      obtain ⟨b, its2, eu2, ev2, il2, hs2, hi2⟩ := tup_items I sf r2 e2
      subst eu2
      exact SeqAt.RcAt.bool_tuple c il2 hu0
    | dK _ => simp [okd] at hq
    | dT _ => simp [okd] at hq
    | ins _ _ => simp [okd] at hq
  | int c =>
    cases r1; obtain ⟨t, rfl⟩ := e1
    cases q with
    | non =>
      cases r2; cases e2
      exact SeqAt.RcAt.int_none c t
    | bl c2 =>
      cases r2; cases e2
      exact SeqAt.RcAt.int_bool c t c2
    | int c2 =>
      cases r2; obtain ⟨t2, rfl⟩ := e2
      exact SeqAt.RcAt.int_int c t c2 t2
    | str c2 =>
      cases r2; obtain ⟨t2, rfl⟩ := e2
      exact SeqAt.RcAt.int_str c t c2 t2
    | lst qs =>
      obtain ⟨b, its2, eu2, ev2, il2, hs2, hi2⟩ := lst_items I sf r2 e2
      subst eu2
      exact SeqAt.RcAt.int_list c t il2 hu0
    | tup qs =>
      obtain ⟨b, its2, eu2, ev2, il2, hs2, hi2⟩ := tup_items I sf r2 e2
      subst eu2
      exact SeqAt.RcAt.int_tuple c t il2 hu0
    | dK _ => simp [okd] at hq
    | dT _ => simp [okd] at hq
    | ins _ _ => simp [okd] at hq
  | str c =>
    cases r1; obtain ⟨t, rfl⟩ := e1
    cases q with
    | non =>
      cases r2; cases e2
      exact SeqAt.RcAt.str_none c t
    | bl c2 =>
      cases r2; cases e2
      exact SeqAt.RcAt.str_bool c t c2
    | int c2 =>
      cases r2; obtain ⟨t2, rfl⟩ := e2
      exact SeqAt.RcAt.str_int c t c2 t2
    | str c2 =>
      cases r2; obtain ⟨t2, rfl⟩ := e2
      exact SeqAt.RcAt.str_str c t c2 t2
    | lst qs =>
      obtain ⟨b, its2, eu2, ev2, il2, hs2, hi2⟩ := lst_items I sf r2 e2
      subst eu2
      exact SeqAt.RcAt.str_list c t il2 hu0
    | tup qs =>
      obtain ⟨b, its2, eu2, ev2, il2, hs2, hi2⟩ := tup_items I sf r2 e2
      subst eu2
      exact SeqAt.RcAt.str_tuple c t il2 hu0
    | dK _ => simp [okd] at hq
    | dT _ => simp [okd] at hq
    | ins _ _ => simp [okd] at hq
  | lst ps =>
    obtain ⟨a, its, eu, ev, il, hs, hi⟩ := lst_items I sf r1 e1
    subst eu
    cases q with
    | non =>
      cases r2; cases e2
      exact SeqAt.RcAt.list_none il hu0
    | bl c2 =>
      cases r2; cases e2
      exact SeqAt.RcAt.list_bool c2 il hu0
    | int c2 =>
      cases r2; obtain ⟨t2, rfl⟩ := e2
      exact SeqAt.RcAt.list_int c2 t2 il hu0
    | str c2 =>
      cases r2; obtain ⟨t2, rfl⟩ := e2
      exact SeqAt.RcAt.list_str c2 t2 il hu0
    | lst qs =>
      obtain ⟨b, its2, eu2, ev2, il2, hs2, hi2⟩ := lst_items I sf r2 e2
      subst eu2
      have he : ∀ j (h1 : j < its.size) (h2 : j < its2.size), SeqAt.EqAt A.in1 s its[j] its2[j] (pAt ps qs j) := fun j h1 h2 => by
        obtain ⟨x, w1, hx, rx, ex⟩ := hi j h1
        obtain ⟨y, w2, hy, ry, ey⟩ := hi2 j h2
        rw [pAt_get hx hy]
        exact eqAt_P I sf k x y w1 w2 _ _ A.in1 (okd_at (by simpa only [okd] using hp) hx) (okd_at (by simpa only [okd] using hq) hy) rx ex ry ey (by show A.units + 1 + k < cLine; omega)
      rw [peq]
      by_cases hsz : its.size = its2.size
      · rw [peqA_all (by omega : ps.length = qs.length), ← hs]
        exact SeqAt.RcAt.lists il il2 hsz hu0 he
      · rw [peqA_len (by omega : ps.length ≠ qs.length)]
        exact SeqAt.RcAt.lists_lengths il il2 (by simpa using hsz) hu0
    | tup qs =>
      obtain ⟨b, its2, eu2, ev2, il2, hs2, hi2⟩ := tup_items I sf r2 e2
      subst eu2
      exact SeqAt.RcAt.list_tuple il il2 hu0
    | dK _ => simp [okd] at hq
    | dT _ => simp [okd] at hq
    | ins _ _ => simp [okd] at hq
  | tup ps =>
    obtain ⟨a, its, eu, ev, il, hs, hi⟩ := tup_items I sf r1 e1
    subst eu
    cases q with
    | non =>
      cases r2; cases e2
      exact SeqAt.RcAt.tuple_none il hu0
    | bl c2 =>
      cases r2; cases e2
      exact SeqAt.RcAt.tuple_bool c2 il hu0
    | int c2 =>
      cases r2; obtain ⟨t2, rfl⟩ := e2
      exact SeqAt.RcAt.tuple_int c2 t2 il hu0
    | str c2 =>
      cases r2; obtain ⟨t2, rfl⟩ := e2
      exact SeqAt.RcAt.tuple_str c2 t2 il hu0
    | lst qs =>
      obtain ⟨b, its2, eu2, ev2, il2, hs2, hi2⟩ := lst_items I sf r2 e2
      subst eu2
      exact SeqAt.RcAt.tuple_list il il2 hu0
    | tup qs =>
      obtain ⟨b, its2, eu2, ev2, il2, hs2, hi2⟩ := tup_items I sf r2 e2
      subst eu2
      have he : ∀ j (h1 : j < its.size) (h2 : j < its2.size), SeqAt.EqAt A.in1 s its[j] its2[j] (pAt ps qs j) := fun j h1 h2 => by
        obtain ⟨x, w1, hx, rx, ex⟩ := hi j h1
        obtain ⟨y, w2, hy, ry, ey⟩ := hi2 j h2
        rw [pAt_get hx hy]
        exact eqAt_P I sf k x y w1 w2 _ _ A.in1 (okd_at (by simpa only [okd] using hp) hx) (okd_at (by simpa only [okd] using hq) hy) rx ex ry ey (by show A.units + 1 + k < cLine; omega)
      rw [peq]
      have main := SeqAt.RcAt.tuples (A := A) (s := s) (e := pAt ps qs) il il2 hu0 he
      by_cases hsz : its.size = its2.size
      · rw [peqA_all (by omega : ps.length = qs.length), ← hs]
        rw [hsz, Nat.min_self, beq_self_eq_true, Bool.and_true, ← hsz] at main
        exact main
      · rw [peqA_len (by omega : ps.length ≠ qs.length)]
        have z : (its.size == its2.size) = false := beq_eq_false_iff_ne.mpr hsz
        rw [z, Bool.and_false] at main
        exact main
    | dK _ => simp [okd] at hq
    | dT _ => simp [okd] at hq
    | ins _ _ => simp [okd] at hq
  | dK _ => simp [okd] at hp
  | dT _ => simp [okd] at hp
  | ins _ _ => simp [okd] at hp
theorem rcNe_P (I : L2.Inv X pins σ H s) (sf : Same F H) (k : Nat) (p q : P) (v w : V) (u z : Value) (A : Around) (hp : okd (k + 1) p = true) (hq : okd (k + 1) q = true) (r1 : Rp X.K cl F p v) (e1 : RelV v u) (r2 : Rp X.K cl F q w) (e2 : RelV w z) (hu : A.units + k + 1 < cLine) : SeqAt.RcNeAt A s u z (!peq p q) := by
  have hu0 : A.units < cLine := by omega
  cases p with
  | non =>
    cases r1; cases e1
    cases q with
    | non =>
      cases r2; cases e2
      exact SeqAt.RcNeAt.none_none
    | bl c2 =>
      cases r2; cases e2
      exact SeqAt.RcNeAt.none_bool c2
    | int c2 =>
      cases r2; obtain ⟨t2, rfl⟩ := e2
      exact SeqAt.RcNeAt.none_int c2 t2
    | str c2 =>
      cases r2; obtain ⟨t2, rfl⟩ := e2
      exact SeqAt.RcNeAt.none_str c2 t2
    | lst qs =>
      obtain ⟨b, its2, eu2, ev2, il2, hs2, hi2⟩ := lst_items I sf r2 e2
      subst eu2
      exact SeqAt.RcNeAt.none_list il2 hu0
    | tup qs =>
      obtain ⟨b, its2, eu2, ev2, il2, hs2, hi2⟩ := tup_items I sf r2 e2
      subst eu2
      exact SeqAt.RcNeAt.none_tuple il2 hu0
    | dK _ => simp [okd] at hq
    | dT _ => simp [okd] at hq
    | ins _ _ => simp [okd] at hq
  | bl c =>
    cases r1; cases e1
    cases q with
    | non =>
      cases r2; cases e2
      exact SeqAt.RcNeAt.bool_none c
    | bl c2 =>
      cases r2; cases e2
      exact SeqAt.RcNeAt.bool_bool c c2
    | int c2 =>
      cases r2; obtain ⟨t2, rfl⟩ := e2
      exact SeqAt.RcNeAt.bool_int c c2 t2
    | str c2 =>
      cases r2; obtain ⟨t2, rfl⟩ := e2
      exact SeqAt.RcNeAt.bool_str c c2 t2
    | lst qs =>
      obtain ⟨b, its2, eu2, ev2, il2, hs2, hi2⟩ := lst_items I sf r2 e2
      subst eu2
      exact SeqAt.RcNeAt.bool_list c il2 hu0
    | tup qs =>
      obtain ⟨b, its2, eu2, ev2, il2, hs2, hi2⟩ := tup_items I sf r2 e2
      subst eu2
      exact SeqAt.RcNeAt.bool_tuple c il2 hu0
    | dK _ => simp [okd] at hq
    | dT _ => simp [okd] at hq
    | ins _ _ => simp [okd] at hq
  | int c =>
    cases r1; obtain ⟨t, rfl⟩ := e1
    cases q with
    | non =>
      cases r2; cases e2
      exact SeqAt.RcNeAt.int_none c t
    | bl c2 =>
      cases r2; cases e2
      exact SeqAt.RcNeAt.int_bool c t c2
    | int c2 =>
      cases r2; obtain ⟨t2, rfl⟩ := e2
      exact SeqAt.RcNeAt.int_int c t c2 t2
    | str c2 =>
      cases r2; obtain ⟨t2, rfl⟩ := e2
      exact SeqAt.RcNeAt.int_str c t c2 t2
    | lst qs =>
      obtain ⟨b, its2, eu2, ev2, il2, hs2, hi2⟩ := lst_items I sf r2 e2
      subst eu2
      exact SeqAt.RcNeAt.int_list c t il2 hu0
    | tup qs =>
      obtain ⟨b, its2, eu2, ev2, il2, hs2, hi2⟩ := tup_items I sf r2 e2
      subst eu2
      exact SeqAt.RcNeAt.int_tuple c t il2 hu0
    | dK _ => simp [okd] at hq
    | dT _ => simp [okd] at hq
    | ins _ _ => simp [okd] at hq
  | str c =>
    cases r1; obtain ⟨t, rfl⟩ := e1
    cases q with
    | non =>
      cases r2; cases e2
      exact SeqAt.RcNeAt.str_none c t
    | bl c2 =>
      cases r2; cases e2
      exact SeqAt.RcNeAt.str_bool c t c2
    | int c2 =>
      cases r2; obtain ⟨t2, rfl⟩ := e2
      exact SeqAt.RcNeAt.str_int c t c2 t2
    | str c2 =>
      cases r2; obtain ⟨t2, rfl⟩ := e2
      exact SeqAt.RcNeAt.str_str c t c2 t2
    | lst qs =>
      obtain ⟨b, its2, eu2, ev2, il2, hs2, hi2⟩ := lst_items I sf r2 e2
      subst eu2
      exact SeqAt.RcNeAt.str_list c t il2 hu0
    | tup qs =>
      obtain ⟨b, its2, eu2, ev2, il2, hs2, hi2⟩ := tup_items I sf r2 e2
      subst eu2
      exact SeqAt.RcNeAt.str_tuple c t il2 hu0
    | dK _ => simp [okd] at hq
    | dT _ => simp [okd] at hq
    | ins _ _ => simp [okd] at hq
  | lst ps =>
    obtain ⟨a, its, eu, ev, il, hs, hi⟩ := lst_items I sf r1 e1
    subst eu
    cases q with
    | non =>
      cases r2; cases e2
      exact SeqAt.RcNeAt.list_none il hu0
    | bl c2 =>
      cases r2; cases e2
      exact SeqAt.RcNeAt.list_bool c2 il hu0
    | int c2 =>
      cases r2; obtain ⟨t2, rfl⟩ := e2
      exact SeqAt.RcNeAt.list_int c2 t2 il hu0
    | str c2 =>
      cases r2; obtain ⟨t2, rfl⟩ := e2
      exact SeqAt.RcNeAt.list_str c2 t2 il hu0
    | lst qs =>
      obtain ⟨b, its2, eu2, ev2, il2, hs2, hi2⟩ := lst_items I sf r2 e2
      subst eu2
      have he : ∀ j (h1 : j < its.size) (h2 : j < its2.size), SeqAt.EqAt A.in1 s its[j] its2[j] (pAt ps qs j) := fun j h1 h2 => by
        obtain ⟨x, w1, hx, rx, ex⟩ := hi j h1
        obtain ⟨y, w2, hy, ry, ey⟩ := hi2 j h2
        rw [pAt_get hx hy]
        exact eqAt_P I sf k x y w1 w2 _ _ A.in1 (okd_at (by simpa only [okd] using hp) hx) (okd_at (by simpa only [okd] using hq) hy) rx ex ry ey (by show A.units + 1 + k < cLine; omega)
      rw [peq]
      by_cases hsz : its.size = its2.size
      · rw [peqA_all (by omega : ps.length = qs.length), ← hs]
        exact SeqAt.RcNeAt.lists il il2 hsz hu0 he
      · rw [peqA_len (by omega : ps.length ≠ qs.length)]
        exact SeqAt.RcNeAt.lists_lengths il il2 (by simpa using hsz) hu0
    | tup qs =>
      obtain ⟨b, its2, eu2, ev2, il2, hs2, hi2⟩ := tup_items I sf r2 e2
      subst eu2
      exact SeqAt.RcNeAt.list_tuple il il2 hu0
    | dK _ => simp [okd] at hq
    | dT _ => simp [okd] at hq
    | ins _ _ => simp [okd] at hq
  | tup ps =>
    obtain ⟨a, its, eu, ev, il, hs, hi⟩ := tup_items I sf r1 e1
    subst eu
    cases q with
    | non =>
      cases r2; cases e2
      exact SeqAt.RcNeAt.tuple_none il hu0
    | bl c2 =>
      cases r2; cases e2
      exact SeqAt.RcNeAt.tuple_bool c2 il hu0
    | int c2 =>
      cases r2; obtain ⟨t2, rfl⟩ := e2
      exact SeqAt.RcNeAt.tuple_int c2 t2 il hu0
    | str c2 =>
      cases r2; obtain ⟨t2, rfl⟩ := e2
      exact SeqAt.RcNeAt.tuple_str c2 t2 il hu0
    | lst qs =>
      obtain ⟨b, its2, eu2, ev2, il2, hs2, hi2⟩ := lst_items I sf r2 e2
      subst eu2
      exact SeqAt.RcNeAt.tuple_list il il2 hu0
    | tup qs =>
      obtain ⟨b, its2, eu2, ev2, il2, hs2, hi2⟩ := tup_items I sf r2 e2
      subst eu2
      have he : ∀ j (h1 : j < its.size) (h2 : j < its2.size), SeqAt.EqAt A.in1 s its[j] its2[j] (pAt ps qs j) := fun j h1 h2 => by
        obtain ⟨x, w1, hx, rx, ex⟩ := hi j h1
        obtain ⟨y, w2, hy, ry, ey⟩ := hi2 j h2
        rw [pAt_get hx hy]
        exact eqAt_P I sf k x y w1 w2 _ _ A.in1 (okd_at (by simpa only [okd] using hp) hx) (okd_at (by simpa only [okd] using hq) hy) rx ex ry ey (by show A.units + 1 + k < cLine; omega)
      rw [peq]
      have main := SeqAt.RcNeAt.tuples (A := A) (s := s) (e := pAt ps qs) il il2 hu0 he
      by_cases hsz : its.size = its2.size
      · rw [peqA_all (by omega : ps.length = qs.length), ← hs]
        rw [hsz, Nat.min_self, beq_self_eq_true, Bool.and_true, ← hsz] at main
        exact main
      · rw [peqA_len (by omega : ps.length ≠ qs.length)]
        have z : (its.size == its2.size) = false := beq_eq_false_iff_ne.mpr hsz
        rw [z, Bool.and_false] at main
        exact main
    | dK _ => simp [okd] at hq
    | dT _ => simp [okd] at hq
    | ins _ _ => simp [okd] at hq
  | dK _ => simp [okd] at hp
  | dT _ => simp [okd] at hp
  | ins _ _ => simp [okd] at hp
/-- what a value is as data, read where it stands -/
abbrev rdP (S : SH) (d : D) : Option P := toP 8 0 S d
@[simp] theorem rdP_p (S : SH) (x : P) : rdP S (.p x) = some x := id rfl
theorem rdP_ok {K : PySem.W.Frag} {S : SH} {B : List Nat} {F : Hp} {φ : Nat → Addr} {H : Hp} {d : D} {x : P} {v : V} (s : Sim K cl S B F φ H) (e : rdP S d = some x) (r : DR K cl F φ d v) : ∃ F', Same F F' ∧ Same F' H ∧ Rp K cl F' x v :=
  ⟨_, addF_le s 0, addF_heap s 0, toP_ok s 0 8 d x v e r⟩
/-- two at once -/
theorem rdP_ok2 {K : PySem.W.Frag} {S : SH} {B : List Nat} {F : Hp} {φ : Nat → Addr} {H : Hp} {d e : D} {x y : P} {v w : V} (s : Sim K cl S B F φ H) (e1 : rdP S d = some x) (e2 : rdP S e = some y) (r1 : DR K cl F φ d v) (r2 : DR K cl F φ e w) : ∃ F', Same F' H ∧ Rp K cl F' x v ∧ Rp K cl F' y w :=
  ⟨_, addF_heap s 0, toP_ok s 0 8 d x v e1 r1, toP_ok s 0 8 e y w e2 r2⟩
def fEq (neg : Bool) (d e : D) (S : SH) : Option (D × SH) := match rdP S d, rdP S e with
  | some x, some y => if okd 40 x = true ∧ okd 40 y = true then some (.p (.bl (if neg = true then !peq x y else peq x y)), S) else none
  | _, _ => none
def rEqP (K : PySem.W.Frag) (cl : Nat → Addr) (neg : Bool) : R2 := fun v w H Q => ∃ F x y, Same F H ∧ Rp K cl F x v ∧ Rp K cl F y w ∧ okd 40 x = true ∧ okd 40 y = true ∧ Q (.bl (if neg = true then !peq x y else peq x y)) H
theorem o_eq (hu : X.A.units + 64 < cLine) : OpR X (compareOp .Eq) (rEqP X.K cl false) := by
  intro pins s σ H x y v u Q I rx ry h
  obtain ⟨F, p, q, sf, r1, r2, h1, h2, k⟩ := h
  exact rcAt_P I sf 39 p q x y v u X.A h1 h2 r1 rx r2 ry (by omega) X.prog X.w X.xe _ ⟨.bl _, H, I, rfl, k⟩
theorem o_ne (hu : X.A.units + 64 < cLine) : OpR X (compareOp .NotEq) (rEqP X.K cl true) := by
  intro pins s σ H x y v u Q I rx ry h
  obtain ⟨F, p, q, sf, r1, r2, h1, h2, k⟩ := h
  exact rcNe_P I sf 39 p q x y v u X.A h1 h2 r1 rx r2 ry (by omega) X.prog X.w X.xe _ ⟨.bl _, H, I, rfl, k⟩
theorem d_eq {K : PySem.W.Frag} {neg : Bool} : OpD K cl (fEq neg) (rEqP K cl neg) := by
  intro S B F φ H d1 d2 x y Q s r1 r2 l1 l2 o
  unfold fEq at o
  cases e1 : rdP S d1 with
  | none => rw [e1] at o; obtain ⟨_, _, z, _⟩ := o; cases z
  | some p =>
    cases e2 : rdP S d2 with
    | none => rw [e1, e2] at o; obtain ⟨_, _, z, _⟩ := o; cases z
    | some q =>
      rw [e1, e2] at o
      dsimp only at o
      by_cases h : okd 40 p = true ∧ okd 40 q = true
      · rw [if_pos h] at o
        obtain ⟨F', sf, ra, rb⟩ := rdP_ok2 s e1 e2 r1 r2
        exact ⟨F', p, q, sf, ra, rb, h.1, h.2, o.fin0 rfl s (Rp.bl _) trivial⟩
      · rw [if_neg h] at o; obtain ⟨_, _, z, _⟩ := o; cases z
/-! ### in -/
def fIn (neg : Bool) (d e : D) (S : SH) : Option (D × SH) := match rdP S d, rdP S e with
  | some x, some (.lst ys) => if okd 40 x = true ∧ ys.all (okd 40) = true then some (.p (.bl (if neg = true then !ys.any (fun y => peq y x) else ys.any fun y => peq y x)), S) else none
  | some x, some (.tup ys) => if okd 40 x = true ∧ ys.all (okd 40) = true then some (.p (.bl (if neg = true then !ys.any (fun y => peq y x) else ys.any fun y => peq y x)), S) else none
  | _, _ => none
def rInP (K : PySem.W.Frag) (cl : Nat → Addr) (neg : Bool) : R2 := fun v w H Q => ∃ F x ys, Same F H ∧ Rp K cl F x v ∧ (Rp K cl F (.lst ys) w ∨ Rp K cl F (.tup ys) w) ∧ okd 40 x = true ∧ ys.all (okd 40) = true ∧ Q (.bl (if neg = true then !ys.any (fun y => peq y x) else ys.any fun y => peq y x)) H
theorem in_core {neg : Bool} {op : CmpOp} (hu : X.A.units + 65 < cLine)
    (hl : ∀ (s : Shared) (l : Addr) (items : Array Value) (x : Value) (e : Value → Bool) (Q : Value → Shared → Prop), s.heap.IsList l items → (∀ y, y ∈ items → SeqAt.EqAt X.A.in1 s y x (e y)) → Q (.bool (if neg = true then !items.any e else items.any e)) s → wpAny (model X.prog X.w) X.A (compareOp op x (.ref l)) Q X.xe s)
    (ht : ∀ (s : Shared) (l : Addr) (items : Array Value) (x : Value) (e : Value → Bool) (Q : Value → Shared → Prop), s.heap.IsTuple l items → (∀ y, y ∈ items → SeqAt.EqAt X.A.in1 s y x (e y)) → Q (.bool (if neg = true then !items.any e else items.any e)) s → wpAny (model X.prog X.w) X.A (compareOp op x (.ref l)) Q X.xe s) : OpR X (compareOp op) (rInP X.K cl neg) := by
  intro pins s σ H x y v u Q I rx ry h
  obtain ⟨F, p, ys, sf, r1, r2, h1, h2, k⟩ := h
  -- the items' answers, by the value
  classical
  have go : ∀ (its : Array Value), its.size = ys.length → (∀ j (hj : j < its.size), ∃ q w, ys[j]? = some q ∧ Rp X.K cl F q w ∧ RelV w its[j]) →
      ∃ e : Value → Bool, (∀ z, z ∈ its → SeqAt.EqAt X.A.in1 s z v (e z)) ∧ its.any e = ys.any fun q => peq q p := fun its hs hi => by
    have key : ∀ z, z ∈ its → ∃ b, (∀ j (hj : j < its.size), its[j] = z → ∀ q, ys[j]? = some q → peq q p = b) ∧ SeqAt.EqAt X.A.in1 s z v b := fun z hz => by
      obtain ⟨j, hj, ej⟩ := Array.mem_iff_getElem.mp hz
      obtain ⟨q, w, hq, rq, rw'⟩ := hi j hj
      refine ⟨peq q p, fun j2 hj2 e2 q2 hq2 => ?_, ?_⟩
      · obtain ⟨q', w', hq', rq', rw''⟩ := hi j2 hj2
        rw [hq'] at hq2; cases hq2
        rw [e2] at rw''
        rw [ej] at rw'
        have : w' = w := rw''.inj rw'
        subst this
        rw [Rp.uniq I sf 40 _ _ _ (okd_at h2 hq') (okd_at h2 hq) rq' rq]
      · rw [← ej]
        exact eqAt_P I sf 40 q p w x _ _ X.A.in1 (okd_at h2 hq) h1 rq rw' r1 rx (by show X.A.units + 1 + 40 < cLine; omega)
    refine ⟨fun z => if hz : z ∈ its then (key z hz).choose else false, fun z hz => ?_, ?_⟩
    · show SeqAt.EqAt X.A.in1 s z v (if hz : z ∈ its then (key z hz).choose else false)
      rw [dif_pos hz]; exact (key z hz).choose_spec.2
    · rw [Bool.eq_iff_iff]
      simp only [Array.any_eq_true, List.any_eq_true]
      constructor
      · rintro ⟨j, hj, e⟩
        obtain ⟨q, w, hq, _, _⟩ := hi j hj
        have hm : its[j] ∈ its := Array.getElem_mem hj
        rw [dif_pos hm] at e
        exact ⟨q, List.mem_of_getElem? hq, ((key _ hm).choose_spec.1 j hj rfl q hq).trans e⟩
      · rintro ⟨q, hq, e⟩
        obtain ⟨j, hj⟩ := List.getElem?_of_mem hq
        have hjl : j < its.size := by rw [hs]; exact (List.getElem?_eq_some_iff.mp hj).1
        have hm : its[j] ∈ its := Array.getElem_mem hjl
        refine ⟨j, hjl, ?_⟩
        rw [dif_pos hm]
        exact ((key _ hm).choose_spec.1 j hjl rfl q hj).symm.trans e
  rcases r2 with r2 | r2
  · obtain ⟨a, its, eu, ev, il, hs, hi⟩ := lst_items I sf r2 ry
    subst eu
    obtain ⟨e, he, hany⟩ := go its hs hi
    exact hl s a its v e _ il he ⟨.bl (if neg = true then !its.any e else its.any e), H, I, rfl, by rw [hany]; exact k⟩
  · obtain ⟨a, its, eu, ev, il, hs, hi⟩ := tup_items I sf r2 ry
    subst eu
    obtain ⟨e, he, hany⟩ := go its hs hi
    exact ht s a its v e _ il he ⟨.bl (if neg = true then !its.any e else its.any e), H, I, rfl, by rw [hany]; exact k⟩
theorem o_in (hu : X.A.units + 65 < cLine) : OpR X (compareOp .In) (rInP X.K cl false) :=
  in_core hu (fun s l items x e Q h he q => SeqAt.in_listAt e h he (by simpa using q)) (fun s l items x e Q h he q => SeqAt.in_tupleAt e h he (by simpa using q))
theorem o_notin (hu : X.A.units + 65 < cLine) : OpR X (compareOp .NotIn) (rInP X.K cl true) :=
  in_core hu (fun s l items x e Q h he q => SeqAt.notIn_listAt e h he (by simpa using q)) (fun s l items x e Q h he q => SeqAt.notIn_tupleAt e h he (by simpa using q))
theorem d_in {K : PySem.W.Frag} {neg : Bool} : OpD K cl (fIn neg) (rInP K cl neg) := by
  intro S B F φ H d1 d2 x y Q s r1 r2 l1 l2 o
  unfold fIn at o
  split at o
  · rename_i p ys e1 e2
    split at o
    · rename_i h
      obtain ⟨F', sf, ra, rb⟩ := rdP_ok2 s e1 e2 r1 r2
      exact ⟨F', p, ys, sf, ra, .inl rb, h.1, h.2, o.fin0 rfl s (Rp.bl _) trivial⟩
    · obtain ⟨_, _, z, _⟩ := o; cases z
  · rename_i p ys e1 e2
    split at o
    · rename_i h
      obtain ⟨F', sf, ra, rb⟩ := rdP_ok2 s e1 e2 r1 r2
      exact ⟨F', p, ys, sf, ra, .inr rb, h.1, h.2, o.fin0 rfl s (Rp.bl _) trivial⟩
    · obtain ⟨_, _, z, _⟩ := o; cases z
  · obtain ⟨_, _, z, _⟩ := o; cases z
end
end Pv
namespace Pv
open PySem PySem.Spec PyProof.Rows L2
section
variable {X : Cx} {K : PySem.W.Frag} {cl : Nat → Addr}
theorem OkE.no {S : SH} {B : List Nat} {F : Hp} {φ : Nat → Addr} {H : Hp} {Q : VK} {p : Prop} (h : OkE K cl S B F φ H none Q) : p := by obtain ⟨_, _, z, _⟩ := h; cases z
theorem drI {F : Hp} {φ : Nat → Addr} {i : Int} {x : V} (h : DR K cl F φ (.p (.int i)) x) : x = .int i := by cases (show Rp K cl F (.int i) x from h); rfl
theorem drS {F : Hp} {φ : Nat → Addr} {i : Str} {x : V} (h : DR K cl F φ (.p (.str i)) x) : x = .str i := by cases (show Rp K cl F (.str i) x from h); rfl
theorem drB {F : Hp} {φ : Nat → Addr} {i : Bool} {x : V} (h : DR K cl F φ (.p (.bl i)) x) : x = .bl i := by cases (show Rp K cl F (.bl i) x from h); rfl
theorem drN {F : Hp} {φ : Nat → Addr} {x : V} (h : DR K cl F φ (.p .non) x) : x = .non := by cases (show Rp K cl F .non x from h); rfl

/-! ### ints -/
/-- two ints under a test, a datum out -/
def fII (c : Int → Int → Bool) (g : Int → Int → P) (d e : D) (S : SH) : Option (D × SH) := match d, e with
  | .p (.int i), .p (.int j) => if c i j = true then some (.p (g i j), S) else none
  | _, _ => none
@[simp] theorem fII_eq (c : Int → Int → Bool) (g : Int → Int → P) (i j : Int) (S : SH) : fII c g (.p (.int i)) (.p (.int j)) S = if c i j = true then some (.p (g i j), S) else none := id rfl
theorem d_II {c : Int → Int → Bool} {C : Int → Int → Prop} {g : Int → Int → P} {g' : Int → Int → V} (hc : ∀ i j, c i j = true → C i j) (hg : ∀ F i j, Rp K cl F (g i j) (g' i j)) : OpD K cl (fII c g) (rI C g') := by
  intro S B F φ H d1 d2 x y Q s r1 r2 l1 l2 o
  unfold fII at o
  split at o
  · rename_i i j
    split at o
    · rename_i h
      exact ⟨i, j, drI r1, drI r2, hc i j h, o.fin0 rfl s (hg F i j) trivial⟩
    · exact o.no
  · exact o.no
theorem d_II0 {g : Int → Int → P} {g' : Int → Int → V} (hg : ∀ F i j, Rp K cl F (g i j) (g' i j)) : OpD K cl (fII (fun _ _ => true) g) (rI0 g') := by
  intro S B F φ H d1 d2 x y Q s r1 r2 l1 l2 o
  obtain ⟨i, j, h1, h2, _, q⟩ := d_II (C := fun _ _ => True) (fun _ _ _ => trivial) hg S B F φ H d1 d2 x y Q s r1 r2 l1 l2 o
  exact ⟨i, j, h1, h2, q⟩
abbrev fSub := fII (fun _ _ => true) fun i j => .int (i - j)
def mulOk (i j : Int) : Bool := decide (i.natAbs < 2 ^ 64) || decide (j.natAbs < 2 ^ 64) || decide (i.natAbs.log2 + j.natAbs.log2 < 1000000)
abbrev fMul := fII mulOk fun i j => .int (i * j)
def divOk (i j : Int) : Bool := decide (0 < j) && decide (j.natAbs.log2 < 9000)
abbrev fDiv := fII divOk fun i j => .int (i / j)
abbrev fMod := fII (fun _ j => decide (0 < j)) fun i j => .int (i % j)
def powOk (i j : Int) : Bool := decide (0 ≤ j) && decide (j ≤ 1000000) && decide (i.natAbs < 2 ^ 64)
abbrev fPow := fII powOk fun i j => .int (i ^ j.toNat)
abbrev fLt := fII (fun _ _ => true) fun i j => .bl (decide (i < j))
abbrev fLe := fII (fun _ _ => true) fun i j => .bl (decide (i ≤ j))
abbrev fGt := fII (fun _ _ => true) fun i j => .bl (decide (j < i))
abbrev fGe := fII (fun _ _ => true) fun i j => .bl (decide (j ≤ i))
theorem d_sub : OpD K cl fSub (rI0 fun i j => .int (i - j)) := d_II0 fun _ _ _ => .int _
theorem op_mulG : OpR X (binaryOp .Mult) (rI (fun i j => CMul i j ∨ CMulW i j) fun i j => .int (i * j)) := opI fun i j _ _ _ _ _ hc q => mul_int q (hc.elim (fun h => h.ok) fun h => h.ok)
theorem mulOk_c {i j : Int} (h : mulOk i j = true) : CMul i j ∨ CMulW i j := by
  unfold mulOk at h
  simp only [Bool.or_eq_true, decide_eq_true_eq] at h
  rcases h with (h | h) | h
  · exact .inl (.inl ⟨by omega, by omega⟩)
  · exact .inl (.inr ⟨by omega, by omega⟩)
  · exact .inr h
theorem d_mul : OpD K cl fMul (rI (fun i j => CMul i j ∨ CMulW i j) fun i j => .int (i * j)) := d_II (fun _ _ h => mulOk_c h) fun _ _ _ => .int _
theorem d_div : OpD K cl fDiv (rI CDivW fun i j => .int (i / j)) := d_II (fun _ _ h => by
  unfold divOk at h; simp only [Bool.and_eq_true, decide_eq_true_eq] at h; exact h) fun _ _ _ => .int _
theorem d_mod : OpD K cl fMod (rI (fun _ j => 0 < j) fun i j => .int (i % j)) := d_II (fun _ _ h => of_decide_eq_true h) fun _ _ _ => .int _
theorem d_pow : OpD K cl fPow (rI CPow fun i j => .int (i ^ j.toNat)) := d_II (fun _ _ h => by
  unfold powOk at h; simp only [Bool.and_eq_true, decide_eq_true_eq] at h; exact ⟨h.1.1, h.1.2, h.2⟩) fun _ _ _ => .int _
theorem d_lt : OpD K cl fLt (rI0 fun i j => .bl (decide (i < j))) := d_II0 fun _ _ _ => .bl _
theorem d_le : OpD K cl fLe (rI0 fun i j => .bl (decide (i ≤ j))) := d_II0 fun _ _ _ => .bl _
theorem d_gt : OpD K cl fGt (rI0 fun i j => .bl (decide (j < i))) := d_II0 fun _ _ _ => .bl _
theorem d_ge : OpD K cl fGe (rI0 fun i j => .bl (decide (j ≤ i))) := d_II0 fun _ _ _ => .bl _
def fNeg (d : D) (S : SH) : Option (D × SH) := match d with | .p (.int i) => some (.p (.int (-i)), S) | _ => none
theorem d_neg : UnD K cl fNeg (rU fun i => .int (-i)) := by
  intro S B F φ H d x Q s r l o
  unfold fNeg at o
  split at o
  · exact ⟨_, drI r, o.fin0 rfl s (Rp.int _) trivial⟩
  · exact o.no

/-! ### + -/
def fAdd (live : Bool) (d e : D) (S : SH) : Option (D × SH) := match d, e with
  | .p (.int i), .p (.int j) => some (.p (.int (i + j)), S)
  | .p (.str a), .p (.str b) => if a.length + b.length ≤ sizeLine then some (.p (.str (a ++ b)), S) else none
  | .p (.tup a), .p (.tup b) => if a.length + b.length ≤ sizeLine then some (.p (.tup (a ++ b)), S) else none
  | d, e => match asL d S, asL e S with
    | some a, some b => newL live (a ++ b) S
    | _, _ => none
def rCatL (K : PySem.W.Frag) : R2 := fun x y H Q => ∃ l b xs zs, x = .ref l ∧ y = .ref b ∧ SqL K H l xs ∧ SqL K H b zs ∧ xs.length + zs.length ≤ sizeLine ∧ ∀ p, H p = none → Q (.ref p) (upd H p (.lst (xs ++ zs)))
open PySem.AutoSeq1 (wpAny_loadPart') in
open PySem.MeetsSeq PySem.MeetsSeq2 PySem.MeetsSeq3 in
theorem list_add_any (l : Addr) (items : Array Value) (n : Nat) (b : Addr) (items2 : Array Value) (n2 : Nat) (dd dd2 : Option Addr) (sl sl2 : Array (Option Value)) (hz : items.size + items2.size ≤ sizeLine) :
    Meets (Builtin.«list.__add__» ⟨[.ref l, .ref b], []⟩) (fun _ R s => s.heap.get? l = some { cls := .type "list", dict := dd, data := .seq items n, slots := sl } ∧ s.heap.get? b = some { cls := .type "list", dict := dd2, data := .seq items2 n2, slots := sl2 } ∧
      R (.ok (.ret (Value.ref s.heap.objs.size))) { s with heap := s.heap.push { cls := Value.type "list", data := Data.seq (items ++ items2) }, toks := s.toks }) :=
  .of_wp fun prog w A R s h => by
    obtain ⟨hp, g, d, tk, os⟩ := s
    obtain ⟨hl, hb, h⟩ := h
    have f1 := AutoSeq1.sub_list_list
    have f2 := AutoSeq1.sub_tuple_list
    wp_walk using wpAny_loadPart' hl, wpAny_loadPart' hb
    exact ⟨_, rfl, h⟩
theorem op_catL : OpR X (binaryOp .Add) (rCatL X.K) := by
  intro pins s σ H x y v u Q I rx ry h
  obtain ⟨l, b, xs, zs, rfl, rfl, hH, hB, hz, q⟩ := h
  cases rx
  cases ry
  obtain ⟨its, r, ⟨o1, n1, e1, c1, d1, t1⟩, _⟩ := I.list hH
  obtain ⟨its2, r2, ⟨o2, n2, e2, c2, d2, t2⟩, _⟩ := I.list hB
  have hl := r.length
  have hl2 := r2.length
  obtain ⟨_, dd1, _, sl1⟩ := o1
  obtain ⟨_, dd2, _, sl2⟩ := o2
  simp only at c1 d1 t1 c2 d2 t2
  subst c1 d1 t1 c2 d2 t2
  refine PySem.concat_meets ⟨_, e1, rfl⟩ ⟨_, e2, rfl⟩ PySem.noFill_list_add PySem.seq_list_add F.slot_list_add F.entry_list_add (F.args_list_add_2 _ _) (list_add_any l its.toArray n1 b its2.toArray n2 _ _ _ _ (by rw [List.size_toArray, List.size_toArray]; omega)) ⟨e1, e2, ?_⟩
  have ea : its.toArray ++ its2.toArray = (its ++ its2).toArray := by simp
  rw [ea]
  exact ⟨.ref _, _, I.lnew (t' := s.toks) (r.append r2) (by rw [List.length_append]; omega), rfl, q _ I.fresh⟩
def rAddG (K : PySem.W.Frag) : R2 := fun x y H Q => rI0 (fun i j => .int (i + j)) x y H Q ∨ (∃ i j, x = .str i ∧ y = .str j ∧ i.length + j.length ≤ sizeLine ∧ Q (.str (i ++ j)) H) ∨ rCatA K x y H Q ∨ rCatL K x y H Q
theorem o_add : OpR X (binaryOp .Add) (rAddG X.K) := op_add.or (op_add_str.or (op_catA.or op_catL))
theorem d_add {live : Bool} : OpD K cl (fAdd live) (rAddG K) := by
  intro S B F φ H d1 d2 x y Q s r1 r2 l1 l2 o
  unfold fAdd at o
  split at o
  · exact .inl ⟨_, _, drI r1, drI r2, o.fin0 rfl s (Rp.int _) trivial⟩
  · split at o
    · rename_i h
      exact .inr (.inl ⟨_, _, drS r1, drS r2, h, o.fin0 rfl s (Rp.str _) trivial⟩)
    · exact o.no
  · rename_i a b
    split at o
    · rename_i h
      cases (show Rp K cl F (.tup a) x from r1) with
      | @tup p _ vs q1 t1 =>
        cases (show Rp K cl F (.tup b) y from r2) with
        | @tup p2 _ us q2 t2 =>
          have e1 := t1.len
          have e2 := t2.len
          have al : ∀ {ps qs : List P} {vs us : List V} {F : Hp}, RpA K cl F ps vs → RpA K cl F qs us → RpA K cl F (ps ++ qs) (vs ++ us) := by
            intro ps
            induction ps with
            | nil => intro qs vs us F a b; cases a; exact b
            | cons p ps ih => intro qs vs us F a b; cases a with | cons a a2 => exact .cons a (ih a2 b)
          refine .inr (.inr (.inl ⟨p, p2, vs, us, rfl, rfl, SqT.mono s.le q1, SqT.mono s.le q2, by omega, fun h1 => ?_, fun h1 h2 => ?_, fun h1 h2 r hr => ?_⟩))
          · subst h1
            cases t1
            exact o.fin0 rfl s (Rp.tup q2 t2) trivial
          · subst h2
            cases t2
            rw [List.append_nil] at o
            exact o.fin0 rfl s (Rp.tup q1 t1) trivial
          · obtain ⟨s1, x1⟩ := s.frz (H' := upd H r (.tup (vs ++ us))) (Same.new (Same.refl H) hr) hr upd_same
            exact o.fin rfl s1 x1 (Rp.tup (.inl (.inl upd_same)) (RpA.mono x1.fz (al t1 t2))) trivial
    · exact o.no
  · split at o
    · rename_i a b e1 e2
      obtain ⟨p, vs, rfl, q1, t1, m1⟩ := asL_ok s e1 r1 l1
      obtain ⟨p2, us, rfl, q2, t2, m2⟩ := asL_ok s e2 r2 l2
      obtain ⟨hz, k⟩ := newL_ok1 o s (DRA.append t1 t2) fun z hz => (List.mem_append.mp hz).elim (m1 z) (m2 z)
      exact .inr (.inr (.inr ⟨p, p2, vs, us, rfl, rfl, q1, q2, by rw [List.length_append] at hz; exact hz, k⟩))
    · exact o.no

/-! ### is -/
def isNon : D → Bool
  | .p .non => true
  | _ => false
def isBl (b : Bool) : D → Bool
  | .p (.bl c) => c == b
  | _ => false
def fIs (neg : Bool) (d e : D) (S : SH) : Option (D × SH) := match e with
  | .p .non => some (.p (.bl (if neg = true then !isNon d else isNon d)), S)
  | .p (.bl b) => some (.p (.bl (if neg = true then !isBl b d else isBl b d)), S)
  | _ => none
theorem RelV.bl_iff {x : V} {v : Value} (b : Bool) (r : RelV x v) : (v == Value.bool b) = decide (x = .bl b) := by
  cases x <;> first
    | (obtain ⟨t, rfl⟩ := r; rfl)
    | (cases r; rfl)
    | skip
  cases r
  rename_i c
  cases b <;> cases c <;> rfl
theorem plain_bool {x : V} {v : Value} (b : Bool) (r : RelV x v) : plainIs v (.bool b) = true := by
  cases x <;> first
    | (obtain ⟨t, rfl⟩ := r; rfl)
    | (cases r; rfl)
def rIsG (neg : Bool) : R2 := fun x y H Q => (y = .non ∧ Q (.bl (if neg = true then !decide (x = .non) else decide (x = .non))) H) ∨ ∃ b, y = .bl b ∧ Q (.bl (if neg = true then !decide (x = .bl b) else decide (x = .bl b))) H
theorem o_is : OpR X (compareOp .Is) (rIsG false) := by
  intro pins s σ H x y v u Q I rx ry h
  rcases h with ⟨rfl, q⟩ | ⟨b, rfl, q⟩
  · exact op_isN pins s σ H x .non v u Q I rx ry ⟨rfl, q⟩
  · cases (show u = Value.bool b from ry)
    exact wpAny_is_plain (plain_bool b rx) (fin_bl I (by rw [if_neg Bool.false_ne_true] at q; exact q) (RelV.bl_iff b rx).symm)
theorem o_isnot : OpR X (compareOp .IsNot) (rIsG true) := by
  intro pins s σ H x y v u Q I rx ry h
  rcases h with ⟨rfl, q⟩ | ⟨b, rfl, q⟩
  · exact op_notN pins s σ H x .non v u Q I rx ry ⟨rfl, q⟩
  · cases (show u = Value.bool b from ry)
    exact wpAny_isNot_plain (plain_bool b rx) (fin_bl I (by rw [if_pos rfl] at q; exact q) (by rw [RelV.bl_iff b rx]))
theorem isNon_ok {F : Hp} {φ : Nat → Addr} {d : D} {x : V} (r : DR K cl F φ d x) : isNon d = decide (x = .non) := by
  cases d with
  | ref n => cases (show x = .ref (φ n) from r); rfl
  | p y =>
    have r : Rp K cl F y x := r
    cases r <;> rfl
theorem isBl_ok {F : Hp} {φ : Nat → Addr} {d : D} {x : V} (b : Bool) (r : DR K cl F φ d x) : isBl b d = decide (x = .bl b) := by
  cases d with
  | ref n => cases (show x = .ref (φ n) from r); rfl
  | p y =>
    have r : Rp K cl F y x := r
    cases r <;> first | rfl | (rename_i c; cases b <;> cases c <;> rfl)
theorem d_is {neg : Bool} : OpD K cl (fIs neg) (rIsG neg) := by
  intro S B F φ H d1 d2 x y Q s r1 r2 l1 l2 o
  unfold fIs at o
  split at o
  · refine .inl ⟨drN r2, ?_⟩
    rw [← isNon_ok r1]
    exact o.fin0 rfl s (Rp.bl _) trivial
  · rename_i b
    refine .inr ⟨b, drB r2, ?_⟩
    rw [← isBl_ok b r1]
    exact o.fin0 rfl s (Rp.bl _) trivial
  · exact o.no

/-! ### built-in functions -/
theorem k_callB {x : Str} {p pos : Pos} {e : Expr} {es : List Expr} {m : MA} {id : String} {f : MF} {r : List V → Hp → VK → Prop} (hd : CallD X.K cl f r) (hc : CallR X (.builtin id) r) (hg : Gl X x) (hm : X.mg x = none) (hv : bootBuiltins x = some (.builtin id)) (ha : PA X (e :: es) (LA X.K cl m)) (hn : x ≠ "__name__" := by decide) (hdb : (x == ("__debug__" : Str)) = false := by decide)
    (he : starEach (e :: es) X.env = (false, eval e X.env) :: starEach es X.env := by rfl) (hpl : (backTo pos (starEach es X.env)).any (·.1) = false := by rfl) : PE X (.Call (.Name x p) (e :: es) [] pos) (LE X.K cl (dCall f m)) :=
  (pe_callB hc hg hm hv ha hn hdb he hpl).imp fun _ _ _ q => e_call hd q
theorem k_callT {x : Str} {p pos : Pos} {e : Expr} {es : List Expr} {m : MA} {T : String} {f : MF} {r : List V → Hp → VK → Prop} (hd : CallD X.K cl f r) (hc : CallR X (.type T) r) (hg : Gl X x) (hm : X.mg x = none) (hv : bootBuiltins x = some (.type T)) (ha : PA X (e :: es) (LA X.K cl m)) (hn : x ≠ "__name__" := by decide) (hdb : (x == ("__debug__" : Str)) = false := by decide)
    (he : starEach (e :: es) X.env = (false, eval e X.env) :: starEach es X.env := by rfl) (hpl : (backTo pos (starEach es X.env)).any (·.1) = false := by rfl) : PE X (.Call (.Name x p) (e :: es) [] pos) (LE X.K cl (dCall f m)) :=
  (pe_callTy hc hg hm hv ha hn hdb he hpl).imp fun _ _ _ q => e_call hd q
theorem dra1 {F : Hp} {φ : Nat → Addr} {d : D} {xs : List V} (r : DRA K cl F φ [d] xs) : ∃ x, xs = [x] ∧ DR K cl F φ d x := by
  cases r with | cons a b => cases b; exact ⟨_, rfl, a⟩
theorem dra2 {F : Hp} {φ : Nat → Addr} {d e : D} {xs : List V} (r : DRA K cl F φ [d, e] xs) : ∃ x y, xs = [x, y] ∧ DR K cl F φ d x ∧ DR K cl F φ e y := by
  cases r with | cons a b => cases b with | cons b c => cases c; exact ⟨_, _, rfl, a, b⟩
def fLen : MF := fun ds S => match ds with
  | [.p (.str z)] => if z.length ≤ sizeLine then some (.p (.int z.length), S) else none
  | [d] => match asQ d S with | some xs => some (.p (.int xs.length), S) | none => none
  | _ => none
def rLenG (K : PySem.W.Frag) : List V → Hp → VK → Prop := fun xs H Q => (∃ z, xs = [.str z] ∧ z.length ≤ sizeLine ∧ Q (.int z.length) H) ∨ ∃ p ys, xs = [.ref p] ∧ (SqL K H p ys ∨ SqT K H p ys) ∧ Q (.int ys.length) H
theorem c_len : CallR X (.builtin "len") (rLenG X.K) := call_len_str.or call_len_seq
theorem d_len : CallD K cl fLen (rLenG K) := by
  intro S B F φ H ds xs Q s r l o
  unfold fLen at o
  split at o
  · split at o
    · rename_i z h
      obtain ⟨x, rfl, rx⟩ := dra1 r
      exact .inl ⟨z, by rw [drS rx], h, o.fin0 rfl s (Rp.int _) trivial⟩
    · exact o.no
  · split at o
    · rename_i d hd ys e
      obtain ⟨x, rfl, rx⟩ := dra1 r
      obtain ⟨a, vs, rfl, q, t, _⟩ := asQ_ok s e rx (l _ List.mem_cons_self)
      exact .inr ⟨a, vs, rfl, q, by rw [← t.length]; exact o.fin0 rfl s (Rp.int _) trivial⟩
    · exact o.no
  · exact o.no
def fList (live : Bool) : MF := fun ds S => match ds with
  | [d] => match asQ d S with | some xs => newL live xs S | none => none
  | _ => none
def rListG (K : PySem.W.Frag) : List V → Hp → VK → Prop := fun xs H Q => ∃ p ys, xs = [.ref p] ∧ (SqL K H p ys ∨ SqT K H p ys) ∧ ∀ l, H l = none → Q (.ref l) (upd H l (.lst ys))
theorem c_list : CallR X (.type "list") (rListG X.K) := call_list_of
theorem d_list {live : Bool} : CallD K cl (fList live) (rListG K) := by
  intro S B F φ H ds xs Q s r l o
  unfold fList at o
  split at o
  · split at o
    · rename_i d ys e
      obtain ⟨x, rfl, rx⟩ := dra1 r
      obtain ⟨a, vs, rfl, q, t, m⟩ := asQ_ok s e rx (l _ List.mem_cons_self)
      exact ⟨a, vs, rfl, q, (newL_ok1 o s t m).2⟩
    · exact o.no
  · exact o.no
def fTuple : MF := fun ds S => match ds with
  | [.p (.tup ps)] => some (.p (.tup ps), S)
  | [d] => match asL d S with | some xs => newT xs S | none => none
  | _ => none
def rTupG (K : PySem.W.Frag) : List V → Hp → VK → Prop := fun xs H Q => ∃ p ys, xs = [.ref p] ∧ ((SqL K H p ys ∧ ∀ l, H l = none → Q (.ref l) (upd H l (.tup ys))) ∨ (SqT K H p ys ∧ Q (.ref p) H))
theorem c_tuple : CallR X (.type "tuple") (rTupG X.K) := call_tuple_of
theorem d_tuple : CallD K cl fTuple (rTupG K) := by
  intro S B F φ H ds xs Q s r l o
  unfold fTuple at o
  split at o
  · rename_i ps
    obtain ⟨x, rfl, rx⟩ := dra1 r
    cases (show Rp K cl F (.tup ps) x from rx) with
    | tup q t => exact ⟨_, _, rfl, .inr ⟨SqT.mono s.le q, o.fin0 rfl s (Rp.tup q t) trivial⟩⟩
  · split at o
    · rename_i d hd ys e
      obtain ⟨x, rfl, rx⟩ := dra1 r
      obtain ⟨a, vs, rfl, q, t, m⟩ := asL_ok s e rx (l _ List.mem_cons_self)
      exact ⟨a, vs, rfl, .inl ⟨q, (newT_ok o s t).2⟩⟩
    · exact o.no
  · exact o.no
def fInt : MF := fun ds S => match ds with
  | [.p (.int i)] => some (.p (.int i), S)
  | [.p (.bl b)] => some (.p (.int (if b = true then 1 else 0)), S)
  | _ => none
def rIntG : List V → Hp → VK → Prop := fun xs H Q => (∃ i, xs = [.int i] ∧ Q (.int i) H) ∨ ∃ k, xs = [.bl k] ∧ Q (.int (if k then 1 else 0)) H
theorem c_int : CallR X (.type "int") rIntG := call_int1
theorem d_int : CallD K cl fInt rIntG := by
  intro S B F φ H ds xs Q s r l o
  unfold fInt at o
  split at o
  · obtain ⟨x, rfl, rx⟩ := dra1 r
    exact .inl ⟨_, by rw [drI rx], o.fin0 rfl s (Rp.int _) trivial⟩
  · obtain ⟨x, rfl, rx⟩ := dra1 r
    exact .inr ⟨_, by rw [drB rx], o.fin0 rfl s (Rp.int _) trivial⟩
  · exact o.no
def fAbs : MF := fun ds S => match ds with
  | [.p (.int i)] => some (.p (.int (if i < 0 then -i else i)), S)
  | _ => none
def rAbsG : List V → Hp → VK → Prop := fun xs H Q => ∃ i, xs = [.int i] ∧ Q (.int (if i < 0 then -i else i)) H
theorem c_abs : CallR X (.builtin "abs") rAbsG := call_abs
theorem d_abs : CallD K cl fAbs rAbsG := by
  intro S B F φ H ds xs Q s r l o
  unfold fAbs at o
  split at o
  · obtain ⟨x, rfl, rx⟩ := dra1 r
    exact ⟨_, by rw [drI rx], o.fin0 rfl s (Rp.int _) trivial⟩
  · exact o.no
/-- max(i, j), min(i, j) -/
def fMax : MF := fun ds S => match ds with
  | [.p (.int i), .p (.int j)] => some (.p (.int (if j > i then j else i)), S)
  | _ => none
def fMin : MF := fun ds S => match ds with
  | [.p (.int i), .p (.int j)] => some (.p (.int (if j < i then j else i)), S)
  | _ => none
def rMaxG : List V → Hp → VK → Prop := fun xs H Q => ∃ i j, xs = [.int i, .int j] ∧ Q (.int (if j > i then j else i)) H
def rMinG : List V → Hp → VK → Prop := fun xs H Q => ∃ i j, xs = [.int i, .int j] ∧ Q (.int (if j < i then j else i)) H
theorem c_max (hc : X.calm = true) : CallR X (.builtin "max") rMaxG := call_max2 hc
theorem c_min (hc : X.calm = true) : CallR X (.builtin "min") rMinG := call_min2 hc
theorem d_max : CallD K cl fMax rMaxG := by
  intro S B F φ H ds xs Q s r l o
  unfold fMax at o
  split at o
  · obtain ⟨x, y, rfl, rx, ry⟩ := dra2 r
    exact ⟨_, _, by rw [drI rx, drI ry], o.fin0 rfl s (Rp.int _) trivial⟩
  · exact o.no
theorem d_min : CallD K cl fMin rMinG := by
  intro S B F φ H ds xs Q s r l o
  unfold fMin at o
  split at o
  · obtain ⟨x, y, rfl, rx, ry⟩ := dra2 r
    exact ⟨_, _, by rw [drI rx, drI ry], o.fin0 rfl s (Rp.int _) trivial⟩
  · exact o.no
def fStr : MF := fun ds S => match ds with
  | [.p (.int i)] => if i.natAbs.log2 < 1920 then some (.p (.str (toString i)), S) else none
  | _ => none
def rStrG : List V → Hp → VK → Prop := fun xs H Q => ∃ i, xs = [.int i] ∧ i.natAbs.log2 < 1920 ∧ Q (.str (toString i)) H
theorem c_str : CallR X (.type "str") rStrG := call_str_int
theorem d_str : CallD K cl fStr rStrG := by
  intro S B F φ H ds xs Q s r l o
  unfold fStr at o
  split at o
  · split at o
    · rename_i i h
      obtain ⟨x, rfl, rx⟩ := dra1 r
      exact ⟨i, by rw [drI rx], h, o.fin0 rfl s (Rp.str _) trivial⟩
    · exact o.no
  · exact o.no
/-- ints out of a list of data -/
def intsOf : List D → Option (List Int)
  | [] => some []
  | .p (.int i) :: r => (intsOf r).map (i :: ·)
  | _ => none
@[simp] theorem intsOf_map (ns : List Int) : intsOf (ns.map fun n => D.p (.int n)) = some ns := by
  induction ns with
  | nil => rfl
  | cons x r ih => simp [intsOf, ih]
theorem intsOf_of : ∀ {ds : List D} {ns : List Int} {F : Hp} {φ : Nat → Addr} {vs : List V}, intsOf ds = some ns → DRA K cl F φ ds vs → vs = ns.map V.int
  | [], ns, F, φ, vs, h, r => by cases h; cases r; rfl
  | .p (.int i) :: r, ns, F, φ, vs, h, q => by
    unfold intsOf at h
    cases e : intsOf r with
    | none => rw [e] at h; cases h
    | some ms =>
      rw [e] at h; cases h
      cases q with
      | cons a b => rw [List.map_cons, ← intsOf_of e b, drI a]
  | .ref n :: r, _, _, _, _, h, _ => by cases h
  | .p .non :: r, _, _, _, _, h, _ => by cases h
  | .p (.bl _) :: r, _, _, _, _, h, _ => by cases h
  | .p (.str _) :: r, _, _, _, _, h, _ => by cases h
  | .p (.tup _) :: r, _, _, _, _, h, _ => by cases h
  | .p (.lst _) :: r, _, _, _, _, h, _ => by cases h
  | .p (.dK _) :: r, _, _, _, _, h, _ => by cases h
  | .p (.dT _) :: r, _, _, _, _, h, _ => by cases h
  | .p (.ins _ _) :: r, _, _, _, _, h, _ => by cases h
def fSum : MF := fun ds S => match ds with
  | [d] => match asQ d S with | some xs => (match intsOf xs with | some ns => some (.p (.int ns.sum), S) | none => none) | none => none
  | _ => none
def rSumG (K : PySem.W.Frag) : List V → Hp → VK → Prop := fun vs H Q => ∃ (a : Addr) (ns : List Int), vs = [V.ref a] ∧ (SqL K H a (ns.map V.int) ∨ SqT K H a (ns.map V.int)) ∧ Q (.int ns.sum) H
theorem c_sum (hc : X.calm = true) : CallR X (.builtin "sum") (rSumG X.K) := by
  intro pins s σ H vs us Q I r h
  obtain ⟨a, ns, rfl, hs | hs, q⟩ := h
  · exact cr_sum hc pins s σ H _ us Q I r ⟨a, ns, rfl, hs, q⟩
  · obtain ⟨its, rv, ht, _⟩ := I.tuple hs
    rw [Vals.ref1 r]
    obtain ⟨xs, e⟩ := rv.ints.allInts.items
    have hn : numsOf (intItems xs).toList = ns := by rw [← e]; exact rv.ints.numsOf
    rw [nums_intItems] at hn
    have ht2 : s.heap.IsTuple a (intItems xs) := by rw [← e]; exact ht
    refine PySem.W.ktm_sumG (I.ok.hd hc) ht2 fun h' tk t' hk => ⟨.int ns.sum, H, I.kept hk, ⟨t', ?_⟩, q⟩
    rw [preSum_eq, List.take_of_length_le (by simp), hn]
theorem d_sum : CallD K cl fSum (rSumG K) := by
  intro S B F φ H ds xs Q s r l o
  unfold fSum at o
  split at o
  · split at o
    · rename_i d ys e
      split at o
      · rename_i ns e2
        obtain ⟨x, rfl, rx⟩ := dra1 r
        obtain ⟨a, vs, rfl, q, t, m⟩ := asQ_ok s e rx (l _ List.mem_cons_self)
        have := intsOf_of e2 t
        subst this
        exact ⟨a, ns, rfl, q, o.fin0 rfl s (Rp.int _) trivial⟩
      · exact o.no
    · exact o.no
  · exact o.no
end
end Pv
namespace Pv
open PySem PySem.Spec PyProof.Rows L2
section
variable {X : Cx} {K : PySem.W.Frag} {cl : Nat → Addr}
/-! ### o[i], o[i:j] -/
def fIx (d e : D) (S : SH) : Option (D × SH) := match d, e with
  | .p (.str z), .p (.int i) => if z.length ≤ sizeLine then (match atI z.cps.toList i with | some c => some (.p (.str ⟨#[c]⟩), S) | none => none) else none
  | d, .p (.int i) => match asQ d S with
    | some xs => (match atI xs i with | some x => some (x, S) | none => none)
    | none => none
  | _, _ => none
theorem atI_dra {F : Hp} {φ : Nat → Addr} {ds : List D} {vs : List V} {i : Int} {d : D} (r : DRA K cl F φ ds vs) (e : atI ds i = some d) : ∃ v, atI vs i = some v ∧ DR K cl F φ d v ∧ d ∈ ds := by
  unfold atI at e ⊢
  rw [← r.length]
  cases h : ixN ds.length i with
  | none => rw [h] at e; cases e
  | some j =>
    rw [h] at e
    obtain ⟨v, hv, rv⟩ := r.get e
    exact ⟨v, hv, rv, List.mem_of_getElem? e⟩
theorem o_ix : IxR X (rIx X.K) := ix_seq
theorem d_ix : OpD K cl fIx (rIx K) := by
  intro S B F φ H d1 d2 x y Q s r1 r2 l1 l2 o
  unfold fIx at o
  split at o
  · rename_i z i
    split at o
    · rename_i hz
      split at o
      · rename_i c e
        exact .inr (.inr ⟨z, i, c, drS r1, drI r2, hz, e, o.fin0 rfl s (Rp.str _) trivial⟩)
      · exact o.no
    · exact o.no
  · rename_i i _
    split at o
    · rename_i xs e
      split at o
      · rename_i d e2
        obtain ⟨a, vs, rfl, q, t, m⟩ := asQ_ok s e r1 l1
        obtain ⟨v, hv, rv, hm⟩ := atI_dra t e2
        have fin := o.fin0 rfl s rv (m d hm)
        rcases q with q | q
        · exact .inl ⟨a, vs, i, v, rfl, drI r2, q, hv, fin⟩
        · exact .inr (.inl ⟨a, vs, i, v, rfl, drI r2, q, hv, fin⟩)
      · exact o.no
    · exact o.no
  · exact o.no
theorem k_ix {a b : Expr} {ma mb : ME} {pos : Pos} (ha : PE X a (LE X.K cl ma)) (hb : PE X b (LE X.K cl mb)) (hs : PlainIx b := by exact fun _ _ => rfl) : PE X (.Subscript a b pos) (LE X.K cl (dOp fIx ma mb)) :=
  (pe_ix o_ix ha hb hs).imp fun _ _ _ q => e_op d_ix q
/-- the items between two places -/
def cutD {α : Type} (xs : List α) (lo hi : Option Int) : List α := (xs.drop (HT.sIx xs.length 0 lo)).take (HT.sIx xs.length xs.length hi - HT.sIx xs.length 0 lo)
def optI : Option D → Option (Option Int)
  | none => some none
  | some (.p (.int i)) => some (some i)
  | _ => none
def fSl (live : Bool) (d : D) (lo hi : Option Int) (S : SH) : Option (D × SH) := match d with
  | .p (.str z) => if z.length ≤ sizeLine then some (.p (.str (L2.cutS z lo hi)), S) else none
  | .p (.tup ps) => some (.p (.tup (cutD ps lo hi)), S)
  | d => match asL d S with
    | some xs => newL live (cutD xs lo hi) S
    | none => none
def dSl (live : Bool) (a : ME) (lo hi : Option ME) : ME := fun σ S => bnd (a σ S) fun d S1 =>
  bnd (match lo with | some m => bnd (m σ S1) fun x S2 => (match x with | .p (.int i) => some (some i, S2) | _ => none) | none => some (none, S1)) fun l S2 =>
  bnd (match hi with | some m => bnd (m σ S2) fun x S3 => (match x with | .p (.int i) => some (some i, S3) | _ => none) | none => some (none, S2)) fun h S3 => fSl live d l h S3
/-- a part of a slice -/
def LO (K : PySem.W.Frag) (cl : Nat → Addr) : Option ME → TO
  | some m => tPart (LE K cl m)
  | none => tNoPart
theorem o_none : PO X none (LO X.K cl none) := po_none
theorem o_some {e : Expr} {m : ME} (h : PE X e (LE X.K cl m)) : PO X (some e) (LO X.K cl (some m)) := po_some h
def rSlG (K : PySem.W.Frag) : V → Option Int → Option Int → Hp → VK → Prop := fun x lo hi H Q => rSlL K x lo hi H Q ∨ rSlA K x lo hi H Q ∨ rSlS x lo hi H Q
theorem o_sl : SlR X (rSlG X.K) := sl_list.or (sl_tupA.or sl_str)
theorem cut_dra {F : Hp} {φ : Nat → Addr} {ds : List D} {vs : List V} (r : DRA K cl F φ ds vs) (lo hi : Option Int) : DRA K cl F φ (cutD ds lo hi) (cutV vs lo hi) := by
  have td : ∀ {ds : List D} {vs : List V} (n : Nat), DRA K cl F φ ds vs → DRA K cl F φ (ds.drop n) (vs.drop n) := by
    intro ds vs n r
    induction n generalizing ds vs with
    | zero => exact r
    | succ n ih => cases r with | nil => exact .nil | cons a b => exact ih b
  have tt : ∀ {ds : List D} {vs : List V} (n : Nat), DRA K cl F φ ds vs → DRA K cl F φ (ds.take n) (vs.take n) := by
    intro ds vs n r
    induction n generalizing ds vs with
    | zero => exact .nil
    | succ n ih => cases r with | nil => exact .nil | cons a b => exact .cons a (ih b)
  unfold cutD cutV
  rw [r.length]
  exact tt _ (td _ r)
theorem cut_mem {α : Type} {xs : List α} {lo hi : Option Int} {x : α} (h : x ∈ cutD xs lo hi) : x ∈ xs := List.mem_of_mem_drop (List.mem_of_mem_take h)
theorem cut_map {α β : Type} (f : α → β) (xs : List α) (lo hi : Option Int) : cutD (xs.map f) lo hi = (cutD xs lo hi).map f := by
  unfold cutD
  rw [List.length_map, List.map_take, List.map_drop]
theorem d_sl {live : Bool} {S : SH} {B : List Nat} {F : Hp} {φ : Nat → Addr} {H : Hp} {d : D} {x : V} {lo hi : Option Int} {Q : VK} (s : Sim K cl S B F φ H) (r : DR K cl F φ d x) (l : d.lt S.len) (o : OkE K cl S B F φ H (fSl live d lo hi S) Q) : rSlG K x lo hi H Q := by
  unfold fSl at o
  split at o
  · split at o
    · rename_i z hz
      exact .inr (.inr ⟨z, drS r, hz, o.fin0 rfl s (Rp.str _) trivial⟩)
    · exact o.no
  · rename_i ps
    cases (show Rp K cl F (.tup ps) x from r) with
    | @tup a _ vs q t =>
      have tr : DRA K cl F φ (ps.map D.p) vs := t.dra
      have hl := t.len
      refine .inr (.inl ⟨a, vs, rfl, SqT.mono s.le q, fun h => ?_, fun h p hp => ?_⟩)
      · have e : cutD ps lo hi = ps := by
          unfold cutD
          rw [hl, h.1, h.2, List.drop_zero, List.take_of_length_le (by omega)]
        rw [e] at o
        exact o.fin0 rfl s (Rp.tup q t) trivial
      · obtain ⟨s1, x1⟩ := s.frz (H' := upd H p (.tup (cutV vs lo hi))) (Same.new (Same.refl H) hp) hp upd_same
        have := cut_dra tr lo hi
        rw [cut_map] at this
        exact o.fin rfl s1 x1 (Rp.tup (.inl (.inl upd_same)) (RpA.mono x1.fz this.rpa)) trivial
  · split at o
    · rename_i xs e
      obtain ⟨a, vs, rfl, q, t, m⟩ := asL_ok s e r l
      exact .inl ⟨a, vs, rfl, q, (newL_ok1 o s (cut_dra t lo hi) fun z hz => m z (cut_mem hz)).2⟩
    · exact o.no
theorem k_sl {live : Bool} {e : Expr} {lo hi : Option Expr} {me : ME} {ml mh : Option ME} {pos p2 : Pos} (he : PE X e (LE X.K cl me)) (hl : PO X lo (LO X.K cl ml)) (hh : PO X hi (LO X.K cl mh)) : PE X (.Subscript e (.Slice lo hi none p2) pos) (LE X.K cl (dSl live me ml mh)) := by
  refine (pe_slice o_sl he hl hh).imp fun σ H Q q => ?_
  obtain ⟨σd, S, B, F, φ, s, rs, o⟩ := q
  obtain ⟨d, S1, e1, o1⟩ := okE_bnd o
  obtain ⟨l, S2, e2, o2⟩ := okE_bnd o1
  obtain ⟨h, S3, e3, o3⟩ := okE_bnd o2
  refine LE.then_ s rs e1 fun F1 φ1 H1 x s1 x1 rs1 dr1 l1 => ?_
  have part : ∀ (m : Option ME) (S4 S5 : SH) (B : List Nat) (F4 : Hp) (φ4 : Nat → Addr) (H4 : Hp) (k : Option Int) (R : Option Int → Hp → Prop), Sim X.K cl S4 B F4 φ4 H4 → RS X.K cl F4 φ4 S4.len σd σ →
      (match m with | some m => bnd (m σd S4) fun x S2 => (match x with | .p (.int i) => some (some i, S2) | _ => none) | none => some (none, S4)) = some (k, S5) →
      (∀ F5 φ5 H5, Sim X.K cl S5 B F5 φ5 H5 → Ext S4 F4 φ4 H4 S5 F5 φ5 H5 → RS X.K cl F5 φ5 S5.len σd σ → R k H5) → LO X.K cl m σ H4 R := by
    intro m S4 S5 B F4 φ4 H4 k R s4 rs4 e kk
    cases m with
    | none => cases e; exact kk F4 φ4 H4 s4 (.refl s4) rs4
    | some m =>
      obtain ⟨y, S6, e6, e7⟩ := bnd_of e
      refine LE.then_ s4 rs4 e6 fun F6 φ6 H6 u s6 x6 rs6 dr6 l6 => ?_
      split at e7
      · cases e7
        exact ⟨_, drI dr6, kk F6 φ6 H6 s6 x6 rs6⟩
      · cases e7
  refine part ml S1 S2 B F1 φ1 H1 l _ s1 rs1 e2 fun F2 φ2 H2 s2 x2 rs2 => ?_
  refine part mh S2 S3 B F2 φ2 H2 h _ s2 rs2 e3 fun F3 φ3 H3 s3 x3 rs3 => ?_
  have x23 := x2.trans x3
  exact d_sl s3 (x23.dr l1 dr1) (x23.lt l1) (o3.ext (x1.trans x23))

/-! ### methods of lists -/
def MtD (K : PySem.W.Frag) (cl : Nat → Addr) (f : MF) (T : String) (r : V → List V → Hp → VK → Prop) : Prop :=
  ∀ S B F φ H d ds x xs Q, Sim K cl S B F φ H → DR K cl F φ d x → d.lt S.len → DRA K cl F φ ds xs → (∀ y ∈ ds, y.lt S.len) → OkE K cl S B F φ H (f (d :: ds) S) Q → r x xs H Q
def isTy (T : String) (d : D) (S : SH) : Bool := match d with
  | .p (.str _) => T == "str"
  | .p (.lst _) => T == "list"
  | .p (.dK _) => T == "dict"
  | .p (.dT _) => T == "dict"
  | .ref n => match S.os[n]? with
    | some (.lst _) => T == "list"
    | some (.dK _) => T == "dict"
    | some (.dT _) => T == "dict"
    | _ => false
  | _ => false
theorem isTy_ok {S : SH} {B : List Nat} {F : Hp} {φ : Nat → Addr} {H : Hp} {T : String} {d : D} {x : V} (s : Sim K cl S B F φ H) (e : isTy T d S = true) (r : DR K cl F φ d x) : tyV K T x H := by
  cases d with
  | p y =>
    have r : Rp K cl F y x := r
    cases r with
    | str z => exact (beq_iff_eq.mp e)
    | lst q t => exact .inl ⟨beq_iff_eq.mp e, _, SqL.mono s.le q⟩
    | dK q t => exact .inr (.inr (.inl ⟨beq_iff_eq.mp e, .inl ⟨_, s.le _ _ q⟩⟩))
    | dT q t => exact .inr (.inr (.inl ⟨beq_iff_eq.mp e, .inr ⟨_, s.le _ _ q⟩⟩))
    | _ => cases e
  | ref n =>
    unfold isTy at e
    dsimp only at e
    have r : x = .ref (φ n) := r
    subst r
    cases q : S.os[n]? with
    | none => rw [q] at e; cases e
    | some o =>
      rw [q] at e
      have ob := (s.ob n _ q).2
      cases o with
      | lst ds => obtain ⟨vs, ev, _⟩ := ob; exact .inl ⟨beq_iff_eq.mp e, _, .inl (.inl ev)⟩
      | dK ds => obtain ⟨vs, ev, _⟩ := ob; exact .inr (.inr (.inl ⟨beq_iff_eq.mp e, .inl ⟨_, ev⟩⟩))
      | dT ds => obtain ⟨vs, ev, _⟩ := ob; exact .inr (.inr (.inl ⟨beq_iff_eq.mp e, .inr ⟨_, ev⟩⟩))
      | ins _ _ => cases e
def dBM (T : String) (f : MF) (o : ME) (a : MA) : ME := fun σ S => bnd (o σ S) fun d S1 => if isTy T d S1 = true then bnd (a σ S1) fun ds S2 => f (d :: ds) S2 else none
theorem e_bm {T : String} {f : MF} {r : V → List V → Hp → VK → Prop} {mo : ME} {ma : MA} {σ : L2.St} {H : Hp} {Q : VK} (hd : MtD K cl f T r) (q : LE K cl (dBM T f mo ma) σ H Q) : tBM K T r (LE K cl mo) (LA K cl ma) σ H Q := by
  obtain ⟨σd, S, B, F, φ, s, rs, o⟩ := q
  obtain ⟨d, S1, e1, o1⟩ := okE_bnd o
  refine LE.then_ s rs e1 fun F1 φ1 H1 x s1 x1 rs1 dr1 l1 => ?_
  split at o1
  · rename_i ht
    obtain ⟨ds, S2, e2, o2⟩ := okE_bnd o1
    refine ⟨isTy_ok s1 ht dr1, LA.then_ s1 rs1 e2 fun F2 φ2 H2 vs s2 x2 rs2 dr2 l2 => ?_⟩
    exact hd S2 B F2 φ2 H2 d ds x vs Q s2 (x2.dr l1 dr1) (x2.lt l1) dr2 l2 (o2.ext (x1.trans x2))
  · exact o1.no
theorem k_bm {o e : Expr} {es : List Expr} {name : Str} {apos cpos : Pos} {T id : String} {f : MF} {r : V → List V → Hp → VK → Prop} {mo : ME} {ma : MA} (hd : MtD X.K cl f T r) (pa : PlainAttrs T) (slot : Slot T name id) (hty : typeOf (.builtin id) = pure (.type "method_descriptor")) (hm : MtR X id r) (ho : PE X o (LE X.K cl mo)) (ha : PA X (e :: es) (LA X.K cl ma))
    (hbase : attributeBase o name X.env (eval o X.env) = eval o X.env := by rfl)
    (hfew : ((backTo cpos (starEach (e :: es) X.env)).all (fun x => !x.1) && (backToKw cpos (keywordEach [] X.env)).all (fun x => x.1.isSome)
      && decide ((e :: es).length + ([] : List Keyword).length + (if ([] : List Keyword).isEmpty then 0 else 1) < 30)) = true := by rfl)
    (hline : (apos.endLine == cpos.line) = true := by rfl) (hs : starEach (e :: es) X.env = (false, eval e X.env) :: starEach es X.env := by rfl) (hplain : (backTo cpos (starEach es X.env)).any (·.1) = false := by rfl) :
    PE X (.Call (.Attribute o name apos) (e :: es) [] cpos) (LE X.K cl (dBM T f mo ma)) :=
  (pe_bm pa slot hty hm ho ha hbase hfew hline hs hplain).imp fun _ _ _ q => e_bm hd q
theorem k_bm0 {o : Expr} {name : Str} {apos cpos : Pos} {T id : String} {f : MF} {r : V → List V → Hp → VK → Prop} {mo : ME} (hd : MtD X.K cl f T r) (pa : PlainAttrs T) (slot : Slot T name id) (hty : typeOf (.builtin id) = pure (.type "method_descriptor")) (hm : MtR X id r) (ho : PE X o (LE X.K cl mo))
    (hbase : attributeBase o name X.env (eval o X.env) = eval o X.env := by rfl) (hline : (apos.endLine == cpos.line) = true := by rfl) : PE X (.Call (.Attribute o name apos) [] [] cpos) (LE X.K cl (dBM T f mo dNil)) := by
  refine (pe_bm0 pa slot hty hm ho hbase hline).imp fun σ H Q q => ?_
  have z := e_bm hd q
  unfold tBM at z
  obtain ⟨σd, S, B, F, φ, s, rs, d, S1, e, k⟩ := z
  refine ⟨σd, S, B, F, φ, s, rs, d, S1, e, fun F1 φ1 H1 u s1 x1 dr l => ?_⟩
  obtain ⟨h1, h2⟩ := k F1 φ1 H1 u s1 x1 dr l
  obtain ⟨σd', S', B', F', φ', s', rs', d', S1', e', k'⟩ := h2
  cases e'
  exact ⟨h1, k' F' φ' H1 [] s' (.refl s') .nil fun _ z => absurd z (by simp)⟩
/-- xs.append(v) -/
def fApp : MF := fun ds S => match ds with
  | [.ref n, v] => match S.os[n]? with
    | some (.lst xs) => if xs.length < sizeLine ∧ okRef S n v = true then some (.p .non, S.put n (.lst (xs ++ [v]))) else none
    | _ => none
  | _ => none
theorem d_app : MtD K cl fApp "list" rAppend := by
  intro S B F φ H d ds x xs Q s r l rs ls o
  unfold fApp at o
  split at o
  · rename_i n v e0
    split at o
    · rename_i ys q
      split at o
      · rename_i h
        injection e0 with e1 e2
        subst e1 e2
        obtain ⟨y, rfl, ry⟩ := dra1 rs
        obtain ⟨vs, ev, rv⟩ := (s.ob n _ q).2
        have hl := rv.length
        obtain ⟨s2, x2⟩ := putOk (o := .lst (ys ++ [v])) (x := .lst (vs ++ [y])) s q h.2 (ls v List.mem_cons_self) (fun z hz => by
          rcases List.mem_append.mp hz with hz | hz
          · exact .inr hz
          · exact .inl (List.mem_singleton.mp hz)) ⟨_, rfl, DRA.append rv (.cons ry .nil)⟩
        exact ⟨φ n, vs, y, r, rfl, ev, by omega, o.fin rfl s2 x2 .non trivial⟩
      · exact o.no
    · exact o.no
  · exact o.no
/-- xs.extend(ys) of a list or a tuple -/
def fExt : MF := fun ds S => match ds with
  | [.ref n, v] => match S.os[n]?, asQ v S with
    | some (.lst xs), some ys => match toPs ys with
      | some ps => if xs.length + ps.length ≤ sizeLine then some (.p .non, S.put n (.lst (xs ++ ps.map D.p))) else none
      | none => none
    | _, _ => none
  | _ => none
open PySem.AutoSeq1 (wpAny_loadPart') in
open PySem.MeetsSeq PySem.MeetsSeq2 PySem.MeetsSeq3 in
theorem ext_tup (l : Addr) (xs : Array Value) (n : Nat) (b : Addr) (ys : Array Value) (m : Nat) (dd : Option Addr) (sl : Array (Option Value)) (h0 : ¬(!xs.isEmpty && Builtin.List.listTooLong (xs.size + ys.size)) = true) (h1 : xs.size ≤ sizeLine) (h2 : xs.size + ys.size ≤ sizeLine + 1) :
    Meets (Builtin.«list.extend» ⟨[.ref l, .ref b], []⟩) (fun _ R s => s.heap.get? l = some { cls := .type "list", dict := none, data := .seq xs n, slots := #[] } ∧ s.heap.get? b = some { cls := .type "tuple", dict := dd, data := .seq ys m, slots := sl } ∧
      R (.ok (.ret Value.none)) { s with heap := s.heap.update l (Obj.mapSeq fun x => x ++ ys), toks := s.toks }) :=
  .of_wp fun prog w A R s h => by
    obtain ⟨hp, g, d, tk, os⟩ := s; obtain ⟨hl, hb, h⟩ := h
    have e1 := AutoSeq1.sub_tuple_tuple
    have e2 := AutoSeq1.sub_list_list
    have e3 := AutoSeq1.sub_tuple_list
    have e4 := AutoSeq1.sub_list_tuple
    have hz' : (xs ++ ys).size ≤ sizeLine + 1 := by rw [Array.size_append]; exact h2
    wp_walk using (wpAny_updateSeq hl rfl (hz := h1) (_hz' := hz')), wpAny_loadPart' hl, wpAny_loadPart' hb
    exact ⟨_, rfl, h⟩
open PySem.AutoSeq1 (wpAny_loadPart') in
open PySem.MeetsSeq PySem.MeetsSeq2 PySem.MeetsSeq3 in
theorem ext_lst (l : Addr) (xs : Array Value) (n : Nat) (b : Addr) (ys : Array Value) (m : Nat) (dd : Option Addr) (sl : Array (Option Value)) (h0 : ¬(!xs.isEmpty && Builtin.List.listTooLong (xs.size + ys.size)) = true) (h1 : xs.size ≤ sizeLine) (h2 : xs.size + ys.size ≤ sizeLine + 1) :
    Meets (Builtin.«list.extend» ⟨[.ref l, .ref b], []⟩) (fun _ R s => s.heap.get? l = some { cls := .type "list", dict := none, data := .seq xs n, slots := #[] } ∧ s.heap.get? b = some { cls := .type "list", dict := dd, data := .seq ys m, slots := sl } ∧
      R (.ok (.ret Value.none)) { s with heap := s.heap.update l (Obj.mapSeq fun x => x ++ ys), toks := s.toks }) :=
  .of_wp fun prog w A R s h => by
    obtain ⟨hp, g, d, tk, os⟩ := s; obtain ⟨hl, hb, h⟩ := h
    have e1 := AutoSeq1.sub_tuple_tuple
    have e2 := AutoSeq1.sub_list_list
    have e3 := AutoSeq1.sub_tuple_list
    have e4 := AutoSeq1.sub_list_tuple
    have hz' : (xs ++ ys).size ≤ sizeLine + 1 := by rw [Array.size_append]; exact h2
    wp_walk using (wpAny_updateSeq hl rfl (hz := h1) (_hz' := hz')), wpAny_loadPart' hl, wpAny_loadPart' hb
    exact ⟨_, rfl, h⟩
def rExtG (K : PySem.W.Frag) : V → List V → Hp → VK → Prop := fun x vs H Q => ∃ l b xs zs, x = .ref l ∧ vs = [.ref b] ∧ H l = some (.lst xs) ∧ (SqL K H b zs ∨ SqT K H b zs) ∧ xs.length + zs.length ≤ sizeLine ∧ Q .non (upd H l (.lst (xs ++ zs)))
theorem mt_extG : MtM X "list.extend" (rExtG X.K) := by
  intro pins s σ H x vs v us Q I rx rv h
  obtain ⟨l, b, xs, zs, rfl, rfl, hH, hB, hz, q⟩ := h
  cases rx
  obtain ⟨u, rfl, ru⟩ := rv.one
  cases ru
  obtain ⟨z, its, n, r, hl, e⟩ := I.lstM hH
  have l1 := r.length
  have fin : ∀ its2 : List Value, Vals zs its2 → EP X pins σ Q .none { s with heap := s.heap.update l (Obj.mapSeq fun x => x ++ its2.toArray), toks := s.toks } := fun its2 r2 => by
    refine ⟨.non, _, I.lset (its' := its ++ its2) hH e (by simp) (r.append r2) ?_, rfl, q⟩
    rw [List.length_append]
    omega
  have small : ∀ its2 : List Value, Vals zs its2 → its.toArray.size + its2.toArray.size ≤ sizeLine := fun its2 r2 => by
    have l2 := r2.length
    rw [List.size_toArray, List.size_toArray]; omega
  have long : ∀ its2 : List Value, Vals zs its2 → ¬ (!its.toArray.isEmpty && Builtin.List.listTooLong (its.toArray.size + its2.toArray.size)) = true := fun its2 r2 => by
    rw [notLongL (small its2 r2), Bool.and_false]
    exact Bool.false_ne_true
  rcases hB with hB | hB
  · obtain ⟨its2, r2, ⟨⟨_, dd, _, sl⟩, m, e2, c2, d2, t2⟩, _⟩ := I.list hB
    simp only at c2 d2 t2
    subst c2 d2 t2
    have sm := small its2 r2
    exact call_meets F.slot_list_extend ⟨_, e, rfl⟩ F.entry_list_extend (F.args_list_extend_2 _ _)
      (ext_lst l its.toArray n b its2.toArray m _ sl (long its2 r2) (by rw [List.size_toArray]; omega) (by omega)) ⟨e, e2, fin its2 r2⟩
  · obtain ⟨its2, r2, pT, _⟩ := I.tuple hB
    obtain ⟨⟨_, dd, _, sl⟩, e2, hc, m, hd⟩ := pT
    simp only at hc hd
    subst hc hd
    have sm := small its2 r2
    exact call_meets F.slot_list_extend ⟨_, e, rfl⟩ F.entry_list_extend (F.args_list_extend_2 _ _)
      (ext_tup l its.toArray n b its2.toArray m dd sl (long its2 r2) (by rw [List.size_toArray]; omega) (by omega)) ⟨e, e2, fin its2 r2⟩
theorem d_ext : MtD K cl fExt "list" (rExtG K) := by
  intro S B F φ H d ds x xs Q s r l rs ls o
  unfold fExt at o
  split at o
  · rename_i n v e0
    split at o
    · rename_i ys zs q e1
      split at o
      · rename_i ps ep
        split at o
        · rename_i hz
          injection e0 with e2 e3
          subst e2 e3
          obtain ⟨y, rfl, ry⟩ := dra1 rs
          obtain ⟨a, ws, rfl, qw, tw, mw⟩ := asQ_ok s e1 ry (ls v List.mem_cons_self)
          obtain ⟨vs, ev, rv⟩ := (s.ob n _ q).2
          have hzs := toPs_of ep
          subst hzs
          have hl := rv.length
          have hl2 := tw.length
          rw [List.length_map] at hl2
          obtain ⟨s2, x2⟩ := putGen (o := .lst (ys ++ ps.map D.p)) (x := .lst (vs ++ ws)) s q (fun z hz => by
            rcases List.mem_append.mp hz with hz | hz
            · exact .inr (.inl hz)
            · exact .inl fun k => lt_map z hz) ⟨_, rfl, DRA.append rv tw⟩
          exact ⟨φ n, a, vs, ws, r, rfl, ev, qw, by omega, o.fin rfl s2 x2 .non trivial⟩
        · exact o.no
      · exact o.no
    · exact o.no
  · exact o.no
end
end Pv
namespace Pv
open PySem PySem.Spec PyProof.Rows L2
section
variable {X : Cx} {K : PySem.W.Frag} {cl : Nat → Addr}
/-! ### isinstance of built-in types -/
def tyName (d : D) (S : SH) : Option String := match d with
  | .p .non => some "NoneType"
  | .p (.bl _) => some "bool"
  | .p (.int _) => some "int"
  | .p (.str _) => some "str"
  | .p (.tup _) => some "tuple"
  | .p (.lst _) => some "list"
  | .p (.dK _) => some "dict"
  | .p (.dT _) => some "dict"
  | .p (.ins _ _) => none
  | .ref n => match S.os[n]? with
    | some (.lst _) => some "list"
    | some (.dK _) => some "dict"
    | some (.dT _) => some "dict"
    | _ => none
def isSub (a b : String) : Bool := a == b || (a == "bool" && b == "int")
def tyOk (b : String) : Bool := ["bool", "int", "str", "tuple", "list", "dict"].contains b
theorem kit_tab : ∀ a ∈ ["NoneType", "bool", "int", "str", "tuple", "list", "dict"], ∀ b ∈ ["bool", "int", "str", "tuple", "list", "dict"], kitB a b = some (isSub a b) := by decide +kernel
theorem tyName_mem {d : D} {S : SH} {t : String} (h : tyName d S = some t) : t ∈ ["NoneType", "bool", "int", "str", "tuple", "list", "dict"] := by
  unfold tyName at h
  split at h <;> first | (cases h; decide) | (cases h; done) | skip
  split at h <;> first | (cases h; decide) | (cases h; done)
theorem tyName_ok {S : SH} {B : List Nat} {F : Hp} {φ : Nat → Addr} {H : Hp} {d : D} {x : V} {t : String} (s : Sim K cl S B F φ H) (h : tyName d S = some t) (r : DR K cl F φ d x) : TyX K H x (.type t) := by
  cases d with
  | p y =>
    have r : Rp K cl F y x := r
    cases r with
    | non => cases h; exact .base .non
    | bl b => cases h; exact .base (.bl b)
    | int i => cases h; exact .base (.int i)
    | str z => cases h; exact .base (.str z)
    | tup q t =>
      cases h
      rcases SqT.mono s.le q with (q | ⟨o, q⟩) | ⟨o, its, n, hk, hc, _⟩
      · exact .base (.tup q)
      · exact .fTuple q
      · exact .kTuple hk hc
    | lst q t =>
      cases h
      rcases SqL.mono s.le q with (q | ⟨o, q⟩) | ⟨o, its, n, hk, hc, _⟩
      · exact .base (.lst q)
      · exact .base (.frz q)
      · exact .kList hk hc
    | dK q t => cases h; exact .base (.dK (s.le _ _ q))
    | dT q t => cases h; exact .base (.dT (s.le _ _ q))
    | ins q t => cases h
  | ref n =>
    have r : x = .ref (φ n) := r
    subst r
    unfold tyName at h
    dsimp only at h
    cases q : S.os[n]? with
    | none => rw [q] at h; cases h
    | some o =>
      rw [q] at h
      have ob := (s.ob n _ q).2
      cases o with
      | lst ds => cases h; obtain ⟨vs, ev, _⟩ := ob; exact .base (.lst ev)
      | dK ds => cases h; obtain ⟨vs, ev, _⟩ := ob; exact .base (.dK ev)
      | dT ds => cases h; obtain ⟨vs, ev, _⟩ := ob; exact .base (.dT ev)
      | ins _ _ => cases h
def fIsi (bs : List String) (d : D) (S : SH) : Option (D × SH) := match tyName d S with
  | some t => if bs.all tyOk = true then some (.p (.bl (bs.any (isSub t))), S) else none
  | none => none
theorem k_isi {e : Expr} {me : ME} {T : Str} {Tn : String} {p p2 pos : Pos} (he : PE X e (LE X.K cl me)) (hg : Gl X "isinstance") (hm : X.mg "isinstance" = none) (hT : Gl X T) (hmT : X.mg T = none) (hvT : bootBuiltins T = some (.type Tn)) (hn : T ≠ "__name__" := by decide) (hd : (T == ("__debug__" : Str)) = false := by decide)
    (h1 : starEach [e, .Name T p2] X.env = (false, eval e X.env) :: starEach [.Name T p2] X.env := by rfl) (h2 : starEach [Expr.Name T p2] X.env = (false, eval (.Name T p2) X.env) :: starEach [] X.env := by rfl) (hpl : (backTo pos (starEach [Expr.Name T p2] X.env)).any (·.1) = false := by rfl) :
    PE X (.Call (.Name "isinstance" p) [e, .Name T p2] [] pos) (LE X.K cl (dUn (fIsi [Tn]) me)) := by
  refine (pe_callB call_isi hg hm (by decide +kernel : bootBuiltins "isinstance" = some (.builtin "isinstance")) (pa_cons he (pa_cons (pe_bltn hT hmT hvT (show RelV (.ty Tn) _ from rfl) hn hd) pa_nil h2) h1) (by decide) (by decide) h1 hpl).imp fun σ H Q q => ?_
  obtain ⟨σd, S, B, F, φ, s, rs, o⟩ := q
  obtain ⟨d, S1, e1, o1⟩ := okE_bnd o
  refine LE.then_ s rs e1 fun F1 φ1 H1 x s1 x1 rs1 dr1 l1 => ?_
  have o1 := o1.ext x1
  unfold fIsi at o1
  split at o1
  · rename_i t ht
    split at o1
    · rename_i hb
      have hb1 : tyOk Tn = true := by simpa using hb
      refine ⟨x, .ty Tn, _, _, isSub t Tn, rfl, .ty Tn, tyName_ok s1 ht dr1, kit_ty (kit_tab t (tyName_mem ht) Tn (by simpa [tyOk] using hb1)), ?_⟩
      have := o1.fin0 rfl s1 (Rp.bl _) trivial
      simpa using this
    · exact o1.no
  · exact o1.no
theorem k_isi2 {e : Expr} {me : ME} {T U : Str} {Tn Un : String} {p p2 p3 p4 pos : Pos} {kk : Nat} (he : PE X e (LE X.K cl me)) (hg : Gl X "isinstance") (hm : X.mg "isinstance" = none) (hT : Gl X T) (hmT : X.mg T = none) (hvT : bootBuiltins T = some (.type Tn)) (hU : Gl X U) (hmU : X.mg U = none) (hvU : bootBuiltins U = some (.type Un))
    (hn : T ≠ "__name__" := by decide) (hd : (T == ("__debug__" : Str)) = false := by decide) (hnU : U ≠ "__name__" := by decide) (hdU : (U == ("__debug__" : Str)) = false := by decide)
    (h1 : starEach [e, .Tuple [.Name T p2, .Name U p3] kk p4] X.env = (false, eval e X.env) :: starEach [.Tuple [.Name T p2, .Name U p3] kk p4] X.env := by rfl) (h2 : starEach [Expr.Tuple [.Name T p2, .Name U p3] kk p4] X.env = (false, eval (.Tuple [.Name T p2, .Name U p3] kk p4) X.env) :: starEach [] X.env := by rfl)
    (h3 : starEach [Expr.Name T p2, .Name U p3] X.env = (false, eval (.Name T p2) X.env) :: starEach [.Name U p3] X.env := by rfl) (h4 : starEach [Expr.Name U p3] X.env = (false, eval (.Name U p3) X.env) :: starEach [] X.env := by rfl) (hpl : (backTo pos (starEach [Expr.Tuple [.Name T p2, .Name U p3] kk p4] X.env)).any (·.1) = false := by rfl) :
    PE X (.Call (.Name "isinstance" p) [e, .Tuple [.Name T p2, .Name U p3] kk p4] [] pos) (LE X.K cl (dUn (fIsi [Tn, Un]) me)) := by
  refine (pe_callB call_isiT hg hm (by decide +kernel : bootBuiltins "isinstance" = some (.builtin "isinstance")) (pa_cons he (pa_cons (pe_tup (pa_cons (pe_bltn hT hmT hvT (show RelV (.ty Tn) _ from rfl) hn hd) (pa_cons (pe_bltn hU hmU hvU (show RelV (.ty Un) _ from rfl) hnU hdU) pa_nil h4) h3)) pa_nil h2) h1) (by decide) (by decide) h1 hpl).imp fun σ H Q q => ?_
  obtain ⟨σd, S, B, F, φ, s, rs, o⟩ := q
  obtain ⟨d, S1, e1, o1⟩ := okE_bnd o
  refine LE.then_ s rs e1 fun F1 φ1 H1 x s1 x1 rs1 dr1 l1 => ?_
  refine ⟨by show 2 ≤ sizeLine; decide, fun tp htp => ?_⟩
  have o1 := o1.ext x1
  unfold fIsi at o1
  split at o1
  · rename_i t ht
    split at o1
    · rename_i hb
      obtain ⟨hb1, hb2⟩ : tyOk Tn = true ∧ tyOk Un = true := by simpa using hb
      have sm : Same H1 (upd H1 tp (.tup [.ty Tn, .ty Un])) := Same.new (Same.refl _) htp
      have s2 := s1.keep sm
      have fin := o1.fin rfl s2 (Ext.ofSame s1 sm) (Rp.bl _) trivial
      have k1 := kit_tab t (tyName_mem ht) Tn (by simpa [tyOk] using hb1)
      have k2 := kit_tab t (tyName_mem ht) Un (by simpa [tyOk] using hb2)
      refine ⟨x, tp, [.ty Tn, .ty Un], _, [.type Tn, .type Un], isSub t Tn || isSub t Un, rfl, upd_same, .cons (.ty Tn) (.cons (.ty Un) .nil), tyName_ok s2 ht dr1, ?_, by simpa using fin⟩
      refine kitAny_cons (kit_ty k1) (fun h => ?_) (fun h => by rw [h, Bool.true_or])
      rw [h, Bool.false_or]
      exact kitAny_cons (kit_ty k2) (fun h => by rw [h]; exact kitAny_nil) (fun h => h)
    · exact o1.no
  · exact o1.no
/-! ### a module's constant -/
theorem k_glob {x : Str} {v : V} {u : Value} {q : P} {pos : Pos} (hg : Gl X x) (hm : X.mg x = some u) (r : RelV v u) (hq : ∀ F, Rp X.K cl F q v) (hd : (x == ("__debug__" : Str)) = false := by decide) : PE X (.Name x pos) (LE X.K cl (dC q)) :=
  (pe_glob hg hm r hd).imp fun _ _ _ h => e_c h hq
/-! ### truth -/
def truD (d : D) (S : SH) : Option (Bool × SH) := match d with
  | .p .non => some (false, S)
  | .p (.bl b) => some (b, S)
  | .p (.int i) => some (i != 0, S)
  | .p (.str z) => if z.length ≤ sizeLine then some ((z.length : Int) != 0, S) else none
  | d => match asQ d S with | some xs => some (!xs.isEmpty, S) | none => none
def dTru (a : ME) : MT := fun σ S => bnd (a σ S) truD
theorem truD_ok {S S1 : SH} {B : List Nat} {F : Hp} {φ : Nat → Addr} {H : Hp} {d : D} {x : V} {b : Bool} (s : Sim K cl S B F φ H) (e : truD d S = some (b, S1)) (r : DR K cl F φ d x) (l : d.lt S.len) : S1 = S ∧ TruV K x H b := by
  unfold truD at e
  split at e
  · cases e; exact ⟨rfl, by rw [drN r]; rfl⟩
  · cases e; exact ⟨rfl, by rw [drB r]; rfl⟩
  · cases e; exact ⟨rfl, by rw [drI r]; rfl⟩
  · split at e
    · rename_i z hz
      cases e
      exact ⟨rfl, by rw [drS r]; exact ⟨hz, rfl⟩⟩
    · cases e
  · split at e
    · rename_i xs h
      cases e
      obtain ⟨a, vs, rfl, q, t, m⟩ := asQ_ok s h r l
      refine ⟨rfl, ?_⟩
      have he : xs.isEmpty = vs.isEmpty := by cases t <;> rfl
      rcases q with q | q
      · exact .inl ⟨vs, q, by rw [he]⟩
      · exact .inr (.inl ⟨vs, q, by rw [he]⟩)
    · cases e
theorem t_tru {a : Expr} {ma : ME} (ha : PE X a (LE X.K cl ma)) (he : ∀ whole, isTrue a X.env whole = (do let v ← whole; standAt a.pos; holding [v] (truthy v)) := by intro _; rfl) : PT X a (LT X.K cl (dTru ma)) := by
  refine (pt_truth ha he).imp fun σ H Q q => ?_
  obtain ⟨σd, S, B, F, φ, s, rs, o⟩ := q
  obtain ⟨d, S1, e1, b, S2, e2, k⟩ := okT_bnd o
  refine LE.then_ s rs e1 fun F1 φ1 H1 x s1 x1 rs1 dr1 l1 => ?_
  obtain ⟨rfl, h⟩ := truD_ok s1 e2 dr1 l1
  exact ⟨b, h, k F1 φ1 H1 s1 x1⟩
/-- x or y, x and y by truth -/
def dOrT (a b : ME) : ME := fun σ S => bnd (a σ S) fun d S1 => bnd (truD d S1) fun t S2 => if t = true then some (d, S2) else b σ S2
def dAndT (a b : ME) : ME := fun σ S => bnd (a σ S) fun d S1 => bnd (truD d S1) fun t S2 => if t = true then b σ S2 else some (d, S2)
theorem k_orT {a b : Expr} {rest : List Expr} {ma mb : ME} {pos : Pos} (ha : PE X a (LE X.K cl ma)) (hb : PE X (.BoolOp .Or (b :: rest) pos) (LE X.K cl mb)) : PE X (.BoolOp .Or (a :: b :: rest) pos) (LE X.K cl (dOrT ma mb)) := by
  refine (pe_orT ha hb).imp fun σ H Q q => ?_
  obtain ⟨σd, S, B, F, φ, s, rs, o⟩ := q
  obtain ⟨d, S1, e1, o1⟩ := okE_bnd o
  obtain ⟨t, S2, e2, o2⟩ := okE_bnd o1
  refine LE.then_ s rs e1 fun F1 φ1 H1 x s1 x1 rs1 dr1 l1 => ?_
  obtain ⟨rfl, h⟩ := truD_ok s1 e2 dr1 l1
  refine ⟨t, h, ?_⟩
  split
  · rename_i ht; rw [if_pos ht] at o2; exact o2.fin rfl s1 x1 dr1 l1
  · rename_i ht; rw [if_neg ht] at o2; exact ⟨σd, S2, B, F1, φ1, s1, rs1, o2.ext x1⟩
theorem k_andT {a b : Expr} {rest : List Expr} {ma mb : ME} {pos : Pos} (ha : PE X a (LE X.K cl ma)) (hb : PE X (.BoolOp .And (b :: rest) pos) (LE X.K cl mb)) : PE X (.BoolOp .And (a :: b :: rest) pos) (LE X.K cl (dAndT ma mb)) := by
  refine (pe_andT ha hb).imp fun σ H Q q => ?_
  obtain ⟨σd, S, B, F, φ, s, rs, o⟩ := q
  obtain ⟨d, S1, e1, o1⟩ := okE_bnd o
  obtain ⟨t, S2, e2, o2⟩ := okE_bnd o1
  refine LE.then_ s rs e1 fun F1 φ1 H1 x s1 x1 rs1 dr1 l1 => ?_
  obtain ⟨rfl, h⟩ := truD_ok s1 e2 dr1 l1
  refine ⟨t, h, ?_⟩
  split
  · rename_i ht; rw [if_pos ht] at o2; exact ⟨σd, S2, B, F1, φ1, s1, rs1, o2.ext x1⟩
  · rename_i ht; rw [if_neg ht] at o2; exact o2.fin rfl s1 x1 dr1 l1
/-! ### chains of comparisons -/
def dChain (f g : D → D → SH → Option (D × SH)) (a b c : ME) : ME := fun σ S => bnd (a σ S) fun x S1 => bnd (b σ S1) fun y S2 => bnd (f x y S2) fun z S3 => bnd (toB z S3) fun t S4 => if t = true then bnd (c σ S4) fun w S5 => g y w S5 else some (.p (.bl false), S4)
theorem e_chain {f g : D → D → SH → Option (D × SH)} {r r' : R2} {ma mb mc : ME} {σ : L2.St} {H : Hp} {Q : VK} (h1 : OpD K cl f r) (h2 : OpD K cl g r') (q : LE K cl (dChain f g ma mb mc) σ H Q) :
    tChain r r' (LE K cl ma) (LE K cl mb) (LE K cl mc) σ H Q := by
  obtain ⟨σd, S, B, F, φ, s, rs, o⟩ := q
  obtain ⟨d1, S1, e1, o1⟩ := okE_bnd o
  obtain ⟨d2, S2, e2, o2⟩ := okE_bnd o1
  obtain ⟨d3, S3, e3, o3⟩ := okE_bnd o2
  obtain ⟨t, S4, e4, o4⟩ := okE_bnd o3
  obtain ⟨ed, es⟩ := toB_of e4
  subst ed es
  refine LE.then_ s rs e1 fun F1 φ1 H1 x s1 x1 rs1 dr1 l1 => LE.then_ s1 rs1 e2 fun F2 φ2 H2 y s2 x2 rs2 dr2 l2 => ?_
  refine h1 S2 B F2 φ2 H2 d1 d2 x y _ s2 (x2.dr l1 dr1) dr2 (x2.lt l1) l2 ⟨_, _, e3, fun F3 φ3 H3 z s3 x3 dr3 l3 => ⟨t, drB dr3, ?_⟩⟩
  have x123 := (x1.trans x2).trans x3
  split
  · rename_i ht; rw [if_pos ht] at o4
    obtain ⟨d5, S5, e5, o5⟩ := okE_bnd (o4.ext x123)
    refine LE.then_ s3 (x3.rs rs2) e5 fun F5 φ5 H5 w s5 x5 rs5 dr5 l5 => ?_
    have x35 := x3.trans x5
    exact h2 S5 B F5 φ5 H5 d2 d5 y w Q s5 (x35.dr l2 dr2) dr5 (x35.lt l2) l5 (o5.ext x5)
  · rename_i ht; rw [if_neg ht] at o4
    exact o4.fin rfl s3 x123 (Rp.bl _) trivial
theorem k_chain {op op' : CmpOp} {r r' : R2} {f g : D → D → SH → Option (D × SH)} {a b c : Expr} {ma mb mc : ME} {pos : Pos} (h1 : OpD X.K cl f r) (h2 : OpD X.K cl g r') (ho : OpR X (compareOp op) r) (ho' : OpR X (compareOp op') r') (ha : PE X a (LE X.K cl ma)) (hb : PE X b (LE X.K cl mb)) (hc : PE X c (LE X.K cl mc))
    (hm : lastMarks [op, op'] [b, c] = false := by with_unfolding_all rfl) : PE X (.Compare a [op, op'] [b, c] pos) (LE X.K cl (dChain f g ma mb mc)) :=
  (pe_chain ho ho' ha hb hc hm).imp fun _ _ _ q => e_chain h1 h2 q
theorem t_chain {op op' : CmpOp} {r r' : R2} {f g : D → D → SH → Option (D × SH)} {a b c : Expr} {ma mb mc : ME} {pos : Pos} (h1 : OpD X.K cl f r) (h2 : OpD X.K cl g r') (ho : OpR X (compareOp op) r) (ho' : OpR X (compareOp op') r') (ha : PE X a (LE X.K cl ma)) (hb : PE X b (LE X.K cl mb)) (hc : PE X c (LE X.K cl mc))
    (hm : lastMarks [op, op'] [b, c] = false := by with_unfolding_all rfl) : PT X (.Compare a [op, op'] [b, c] pos) (LT X.K cl (dTest (dChain f g ma mb mc))) :=
  (pt_chain ho ho' ha hb hc hm).imp fun _ _ _ q => e_chain h1 h2 (e_test q)
/-! ### name op= e, o[i] op= e -/
def dAug (i : Nat) (f : D → D → SH → Option (D × SH)) (e : ME) : MS := fun σ S => match σ[i]? with
  | some (some d) => bnd (e σ S) fun y S1 => bnd (f d y S1) fun z S2 => some (.nx (σ.set i (some z)), S2)
  | _ => none
theorem PIp.of {op : Operator} {r : R2} (h : OpR X (inplaceOp op) r) : PIp X op r := fun pins s σ H x y v u Q I rx ry q => h pins s σ H x y v u Q I rx ry q
theorem s_aug {i : Nat} {x : Str} {e : Expr} {me : ME} {op : Operator} {f : D → D → SH → Option (D × SH)} {r : R2} {pos pos' : Pos} (hd : OpD X.K cl f r) (ho : OpR X (inplaceOp op) r) (hN : X.N.Nodup) (hi : X.N[i]? = some x) (hx : Loc X.env.scope x) (he : PE X e (LE X.K cl me)) (hf : X.fn x = true ∨ X.env.scope.names.lookup x = some .local := by first | exact .inl rfl | exact .inr rfl | assumption) :
    PS X (.AugAssign (.Name x pos') op e pos) (LS X.K cl (dAug i f me)) := by
  refine (ps_aug hN hi hx he (PIp.of ho) hf).imp fun Z σ H q => ?_
  obtain ⟨σd, S, B, F, φ, s, rs, o⟩ := q
  unfold dAug at o
  split at o
  · rename_i d hd'
    obtain ⟨y, S1, e1, o1⟩ := okS_bnd o
    obtain ⟨z, S2, e2, o2⟩ := okS_bnd o1
    obtain ⟨_, _, ez, k⟩ := o2
    cases ez
    obtain ⟨l, v, hv, dr⟩ := rs.2 i d hd'
    refine ⟨v, hv, LE.then_ s rs e1 fun F1 φ1 H1 u s1 x1 rs1 dr1 l1 => ?_⟩
    exact hd S1 B F1 φ1 H1 d y v u _ s1 (x1.dr l dr) dr1 (x1.lt l) l1 ⟨z, S2, e2, fun F2 φ2 H2 w s2 x2 dr2 l2 => k F2 φ2 H2 _ s2 (x1.trans x2) ((x2.rs rs1).set i dr2 l2)⟩
  · obtain ⟨_, _, z, _⟩ := o; cases z
theorem i_add {live : Bool} : True := trivial
def ixL (o i : D) (S : SH) : Option D := match o, i with
  | .ref n, .p (.int k) => (match S.os[n]? with | some (.lst ds) => atI ds k | _ => none)
  | _, _ => none
theorem ixL_ok {S : SH} {B : List Nat} {F : Hp} {φ : Nat → Addr} {H : Hp} {o i d : D} {x y : V} (s : Sim K cl S B F φ H) (e : ixL o i S = some d) (r1 : DR K cl F φ o x) (r2 : DR K cl F φ i y) : ∃ a vs k v, x = .ref a ∧ y = .int k ∧ SqL K H a vs ∧ atI vs k = some v ∧ DR K cl F φ d v ∧ d.lt S.len := by
  unfold ixL at e
  split at e
  · rename_i n k
    split at e
    · rename_i ds q
      obtain ⟨vs, ev, rv⟩ := (s.ob n _ q).2
      obtain ⟨v, hv, rv', hm⟩ := atI_dra rv e
      exact ⟨φ n, vs, k, v, r1, drI r2, .inl (.inl ev), hv, rv', s.wf n _ q d hm⟩
    · cases e
  · cases e
def dAugS (o i e : ME) (f : D → D → SH → Option (D × SH)) : MS := fun σ S => bnd (o σ S) fun x S1 => bnd (i σ S1) fun y S2 => match ixL x y S2 with
  | some old => bnd (e σ S2) fun v S4 => bnd (f old v S4) fun z S5 => match setIx x y z S5 with | some S6 => some (.nx σ, S6) | none => none
  | none => none
theorem get_seqL : PGet X (rIxL X.K) := by
  intro pins s σ H x y v u Q I rx ry h
  obtain ⟨p, xs, i, z, rfl, rfl, hq, he, q⟩ := h
  cases rx
  obtain ⟨t, rfl⟩ := ry
  obtain ⟨its, r, pl, hz⟩ := I.list hq
  obtain ⟨j, h1, h2, h3, h4, h5⟩ := atI_get he
  obtain ⟨w, ew, rw'⟩ := r.get h2
  have hl := r.length
  have hn := line63
  have fin : EP X pins σ Q w s := ⟨z, H, I, rw', q⟩
  by_cases h0 : 0 ≤ i
  · have hj : i.toNat = j := by
      rw [seqIndex_of h0 h5] at h1
      exact Option.some.inj h1
    exact getItem_listL pl.isList h0 (by omega) (by rw [hj]; exact ew) fin
  · have hj : (i + (its.toArray.size : Int)).toNat = j := by
      rw [seqIndex_neg (by omega) h4] at h1
      rw [List.size_toArray, ← hl]
      exact Option.some.inj h1
    exact wpAny_getItem_list_neg pl.isList (by omega) (by rw [List.size_toArray] <;> omega) (by omega) (by rw [hj]; simpa using ew) fin
theorem s_augS {o i e : Expr} {mo mi me : ME} {op : Operator} {f : D → D → SH → Option (D × SH)} {r : R2} {pos tpos : Pos} (hd : OpD X.K cl f r) (hop : OpR X (inplaceOp op) r) (ho : PE X o (LE X.K cl mo)) (hi : PE X i (LE X.K cl mi)) (he : PE X e (LE X.K cl me))
    (ha : ∀ ov iv new, augStore i ov iv new = (do holding [new, ov, iv] (setItem ov iv new); release [new, ov, iv] []; pure .next) := by intros; rfl) : PS X (.AugAssign (.Subscript o i tpos) op e pos) (LS X.K cl (dAugS mo mi me f)) := by
  refine (ps_augS ho hi get_seqL he (PIp.of hop) set_list ha).imp fun Z σ H q => ?_
  obtain ⟨σd, S, B, F, φ, s, rs, o0⟩ := q
  obtain ⟨x, S1, e1, o1⟩ := okS_bnd o0
  obtain ⟨y, S2, e2, o2⟩ := okS_bnd o1
  split at o2
  · rename_i old e3
    obtain ⟨v, S4, e4, o4⟩ := okS_bnd o2
    obtain ⟨z, S5, e5, o5⟩ := okS_bnd o4
    refine LE.then_ s rs e1 fun F1 φ1 H1 u s1 x1 rs1 dr1 l1 => LE.then_ s1 rs1 e2 fun F2 φ2 H2 w s2 x2 rs2 dr2 l2 => ?_
    cases e6 : setIx x y z S5 with
    | none => rw [e6] at o5; obtain ⟨_, _, z, _⟩ := o5; cases z
    | some S6 =>
      rw [e6] at o5
      obtain ⟨_, _, ez, k⟩ := o5
      cases ez
      obtain ⟨a, vs, i0, v0, eu, ew, q, hv0, rv0, l0⟩ := ixL_ok s2 e3 (x2.dr l1 dr1) dr2
      refine ⟨a, vs, i0, v0, eu, ew, q, hv0, ?_⟩
      refine LE.then_ s2 rs2 e4 fun F4 φ4 H4 y' s4 x4 rs4 dr4 l4 => ?_
      refine hd S4 B F4 φ4 H4 old v v0 y' _ s4 (x4.dr l0 rv0) dr4 (x4.lt l0) l4 ⟨z, S5, e5, fun F5 φ5 H5 z' s5 x5 dr5 l5 => ?_⟩
      have x45 := x4.trans x5
      obtain ⟨p, xs, k0, j, h1, h2, h3, h4, s6, x6⟩ := setIx_ok e6 s5 ((x2.trans x45).dr l1 dr1) (x45.dr l2 dr2) dr5 l5
      exact ⟨p, xs, k0, j, h1, h2, h3, h4, k _ _ _ σ s6 (((x1.trans x2).trans x45).trans x6) ((x5.trans x6).rs rs4)⟩
  · obtain ⟨_, _, z, _⟩ := o2; cases z
/-! ### the in-place operators -/
theorem iop_mulG : OpR X (inplaceOp .Mult) (rI (fun i j => CMul i j ∨ CMulW i j) fun i j => .int (i * j)) := opI fun i j _ _ _ _ _ hc q => imul_int q (hc.elim (fun h => h.ok) fun h => h.ok)
theorem iop_fdivW : OpR X (inplaceOp .FloorDiv) (rI CDivW fun i j => .int (i / j)) := opI fun i j _ _ _ _ _ hc q => by
  have h1 : (0 : Int) < j := hc.1
  exact ifloordiv_int (by omega) (by rw [Int.fdiv_eq_ediv_of_nonneg i (by omega)]; exact q) (.inl (PyProof.noPylong_of_log2 hc.2))
/-- int += int, text += text (a list's += changes the list: not here) -/
def fAug (d e : D) (S : SH) : Option (D × SH) := match d, e with
  | .p (.int i), .p (.int j) => some (.p (.int (i + j)), S)
  | .p (.str a), .p (.str b) => if a.length + b.length ≤ sizeLine then some (.p (.str (a ++ b)), S) else none
  | _, _ => none
def rAugG : R2 := fun x y H Q => rI0 (fun i j => .int (i + j)) x y H Q ∨ (∃ i j, x = .str i ∧ y = .str j ∧ i.length + j.length ≤ sizeLine ∧ Q (.str (i ++ j)) H)
theorem io_add : OpR X (inplaceOp .Add) rAugG := iop_add.or iop_add_str
theorem d_aug : OpD K cl fAug rAugG := by
  intro S B F φ H d1 d2 x y Q s r1 r2 l1 l2 o
  unfold fAug at o
  split at o
  · exact .inl ⟨_, _, drI r1, drI r2, o.fin0 rfl s (Rp.int _) trivial⟩
  · split at o
    · rename_i h
      exact .inr ⟨_, _, drS r1, drS r2, h, o.fin0 rfl s (Rp.str _) trivial⟩
    · exact o.no
  · exact o.no
/-! ### signs -/
def fOrd : MF := fun ds S => match ds with
  | [.p (.str z)] => if z.length = 1 then some (.p (.int (z.cps.getD 0 0 : Nat)), S) else none
  | _ => none
def rOrdG : List V → Hp → VK → Prop := fun xs H Q => ∃ x, xs = [.str x] ∧ x.length = 1 ∧ Q (.int (x.cps.getD 0 0 : Nat)) H
theorem c_ord : CallR X (.builtin "ord") rOrdG := call_ord
theorem d_ord : CallD K cl fOrd rOrdG := by
  intro S B F φ H ds xs Q s r l o
  unfold fOrd at o
  split at o
  · split at o
    · rename_i z h
      obtain ⟨x, rfl, rx⟩ := dra1 r
      exact ⟨z, by rw [drS rx], h, o.fin0 rfl s (Rp.int _) trivial⟩
    · exact o.no
  · exact o.no
def fChr : MF := fun ds S => match ds with
  | [.p (.int i)] => if 0 ≤ i ∧ i ≤ 1114111 then some (.p (.str ⟨#[i.toNat]⟩), S) else none
  | _ => none
def rChrG : List V → Hp → VK → Prop := fun xs H Q => ∃ i, xs = [.int i] ∧ 0 ≤ i ∧ i ≤ 1114111 ∧ Q (.str ⟨#[i.toNat]⟩) H
theorem c_chr : CallR X (.builtin "chr") rChrG := call_chr
theorem d_chr : CallD K cl fChr rChrG := by
  intro S B F φ H ds xs Q s r l o
  unfold fChr at o
  split at o
  · split at o
    · rename_i i h
      obtain ⟨x, rfl, rx⟩ := dra1 r
      exact ⟨i, by rw [drI rx], h.1, h.2, o.fin0 rfl s (Rp.str _) trivial⟩
    · exact o.no
  · exact o.no
/-- one sign in a text -/
def fInS (neg : Bool) (d e : D) (S : SH) : Option (D × SH) := match d, e with
  | .p (.str y), .p (.str z) => if y.cps.size = 1 then some (.p (.bl (if neg = true then !decide (y.cps.getD 0 0 ∈ z.cps.toList) else decide (y.cps.getD 0 0 ∈ z.cps.toList))), S) else none
  | _, _ => none
def rInSG (neg : Bool) : R2 := fun x y H Q => ∃ (c : Nat) (z : Str), x = .str ⟨#[c]⟩ ∧ y = .str z ∧ Q (.bl (if neg = true then !decide (c ∈ z.cps.toList) else decide (c ∈ z.cps.toList))) H
theorem o_inS : OpR X (compareOp .In) (rInSG false) := by
  intro pins s σ H x y v u Q I rx ry h
  obtain ⟨c, z, h1, h2, q⟩ := h
  exact op_in_sign pins s σ H x y v u Q I rx ry ⟨c, z, h1, h2, by simpa using q⟩
theorem o_notinS : OpR X (compareOp .NotIn) (rInSG true) := by
  intro pins s σ H x y v u Q I rx ry h
  obtain ⟨c, z, h1, h2, q⟩ := h
  exact op_notIn_sign pins s σ H x y v u Q I rx ry ⟨c, z, h1, h2, by simpa using q⟩
theorem d_inS {neg : Bool} : OpD K cl (fInS neg) (rInSG neg) := by
  intro S B F φ H d1 d2 x y Q s r1 r2 l1 l2 o
  unfold fInS at o
  split at o
  · rename_i w z
    split at o
    · rename_i hs
      refine ⟨w.cps.getD 0 0, z, ?_, drS r2, o.fin0 rfl s (Rp.bl _) trivial⟩
      rw [drS r1]
      obtain ⟨cs⟩ := w
      have hs : cs.size = 1 := hs
      congr 2
      apply Array.ext
      · simpa using hs
      · intro i h1 h2
        have : i = 0 := by simp at h2; omega
        subst this
        simp [Array.getD, hs]
    · exact o.no
  · exact o.no
/-- sep.join(texts) -/
def strsOf : List D → Option (List Str)
  | [] => some []
  | .p (.str i) :: r => (strsOf r).map (i :: ·)
  | _ => none
@[simp] theorem strsOf_map (ns : List Str) : strsOf (ns.map fun n => D.p (.str n)) = some ns := by
  induction ns with
  | nil => rfl
  | cons x r ih => simp [strsOf, ih]
theorem strsOf_of : ∀ {ds : List D} {ns : List Str} {F : Hp} {φ : Nat → Addr} {vs : List V}, strsOf ds = some ns → DRA K cl F φ ds vs → vs = ns.map V.str
  | [], ns, F, φ, vs, h, r => by cases h; cases r; rfl
  | .p (.str i) :: r, ns, F, φ, vs, h, q => by
    unfold strsOf at h
    cases e : strsOf r with
    | none => rw [e] at h; cases h
    | some ms =>
      rw [e] at h; cases h
      cases q with
      | cons a b => rw [List.map_cons, ← strsOf_of e b, drS a]
  | .ref n :: r, _, _, _, _, h, _ => by cases h
  | .p .non :: r, _, _, _, _, h, _ => by cases h
  | .p (.bl _) :: r, _, _, _, _, h, _ => by cases h
  | .p (.int _) :: r, _, _, _, _, h, _ => by cases h
  | .p (.tup _) :: r, _, _, _, _, h, _ => by cases h
  | .p (.lst _) :: r, _, _, _, _, h, _ => by cases h
  | .p (.dK _) :: r, _, _, _, _, h, _ => by cases h
  | .p (.dT _) :: r, _, _, _, _, h, _ => by cases h
  | .p (.ins _ _) :: r, _, _, _, _, h, _ => by cases h
def fJoin (d e : D) (S : SH) : Option (D × SH) := match d with
  | .p (.str a) => (match asQ e S with
    | some xs => (match strsOf xs with
      | some ys => if (ys.map (·.length)).sum + ys.length * a.length ≤ 16777216 then some (.p (.str (Txt.join a ys)), S) else none
      | none => none)
    | none => none)
  | _ => none
theorem k_join {o e : Expr} {mo me : ME} {apos pos : Pos} (ho : PE X o (LE X.K cl mo)) (he : PE X e (LE X.K cl me)) (hs : starEach [e] X.env = [(false, eval e X.env)] := by rfl) (hbase : attributeBase o "join" X.env (eval o X.env) = eval o X.env := by rfl) (hline : (apos.endLine == pos.line) = true := by rfl) :
    PE X (.Call (.Attribute o "join" apos) [e] [] pos) (LE X.K cl (dOp fJoin mo me)) := by
  refine (pe_join ho he hs hbase hline).imp fun σ H Q q => ?_
  obtain ⟨σd, S, B, F, φ, s, rs, o⟩ := q
  obtain ⟨d, S1, e1, o1⟩ := okE_bnd o
  obtain ⟨y, S2, e2, o2⟩ := okE_bnd o1
  refine LE.then_ s rs e1 fun F1 φ1 H1 x s1 x1 rs1 dr1 l1 => ?_
  unfold fJoin at o2
  split at o2
  · rename_i a
    refine ⟨⟨a, drS dr1⟩, LE.then_ s1 rs1 e2 fun F2 φ2 H2 v s2 x2 rs2 dr2 l2 => ?_⟩
    split at o2
    · rename_i xs ex
      split at o2
      · rename_i ys ey
        split at o2
        · rename_i hz
          obtain ⟨p, vs, rfl, q, t, m⟩ := asQ_ok s2 ex dr2 l2
          have := strsOf_of ey t
          subst this
          exact ⟨a, p, ys, drS dr1, rfl, q, hz, o2.fin rfl s2 (x1.trans x2) (Rp.str _) trivial⟩
        · exact o2.no
      · exact o2.no
    · exact o2.no
  · exact o2.no
end
end Pv
namespace Pv
open PySem PySem.Spec PyProof.Rows L2
theorem cs_nil {p : Nat → Prop} : ∀ c ∈ ([] : List Nat), p c := fun _ h => absurd h (by simp)
theorem cs_cons {p : Nat → Prop} {a : Nat} {l : List Nat} (h : p a) (t : ∀ c ∈ l, p c) : ∀ c ∈ a :: l, p c := fun c hc => by
  rcases List.mem_cons.mp hc with rfl | hc
  · exact h
  · exact t c hc
abbrev wFuel : Nat := 1000000
theorem u65 {k : Nat} {A : Around} (hr : Room k A) : A.units + 65 < cLine := by have := hr.un; omega
theorem fn_no {P : Program} {w : World} {K : PySem.W.Frag} {mg : Str → Option Value} {base : Heap} {k : Nat} {f : Addr} {fd : FuncData} {ps : List Str} {cl : Nat → Addr} : FnOk P w K mg base CX0 k f fd ps (spOf K cl fun _ _ => none) :=
  ⟨fun vs H Q E h => (by
    obtain ⟨_, _, _, _, _, _, _, _, _, _, z, _⟩ := h; cases z), fun A outer s H args us vs Q E _ _ _ _ h => (by
    obtain ⟨_, _, _, _, _, _, _, _, _, _, z, _⟩ := h; cases z)⟩
section
variable {X : Cx} {K : PySem.W.Frag} {cl : Nat → Addr}
/-- in: a sign in a text, or a datum in a list or tuple -/
def fInG (neg : Bool) (d e : D) (S : SH) : Option (D × SH) := match d, e with
  | .p (.str y), .p (.str z) => fInS neg (.p (.str y)) (.p (.str z)) S
  | d, e => fIn neg d e S
def rInG (K : PySem.W.Frag) (cl : Nat → Addr) (neg : Bool) : R2 := fun x y H Q => rInSG neg x y H Q ∨ rInP K cl neg x y H Q
theorem o_inG (hu : X.A.units + 65 < cLine) : OpR X (compareOp .In) (rInG X.K cl false) := o_inS.or (o_in hu)
theorem o_notinG (hu : X.A.units + 65 < cLine) : OpR X (compareOp .NotIn) (rInG X.K cl true) := o_notinS.or (o_notin hu)
theorem d_inG {neg : Bool} : OpD K cl (fInG neg) (rInG K cl neg) := by
  intro S B F φ H d1 d2 x y Q s r1 r2 l1 l2 o
  unfold fInG at o
  split at o
  · exact .inl (d_inS S B F φ H _ _ x y Q s r1 r2 l1 l2 o)
  · exact .inr (d_in S B F φ H _ _ x y Q s r1 r2 l1 l2 o)
theorem d_addI : OpD K cl (fII (fun _ _ => true) fun i j => .int (i + j)) rAdd := by
  intro S B F φ H d1 d2 x y Q s r1 r2 l1 l2 o
  obtain ⟨i, j, h1, h2, q⟩ := d_II0 (g' := fun i j => .int (i + j)) (fun _ _ _ => .int _) S B F φ H d1 d2 x y Q s r1 r2 l1 l2 o
  exact ⟨i, j, h1, h2, q⟩
theorem d_subI : OpD K cl fSub rSub := by
  intro S B F φ H d1 d2 x y Q s r1 r2 l1 l2 o
  obtain ⟨i, j, h1, h2, q⟩ := d_sub S B F φ H d1 d2 x y Q s r1 r2 l1 l2 o
  exact ⟨i, j, h1, h2, q⟩
end
/-! ### the end -/
def intsP (ns : List Int) : List P := ns.map P.int
theorem rpA_ints {K : PySem.W.Frag} {cl : Nat → Addr} {F : Hp} : ∀ ns : List Int, RpA K cl F (intsP ns) (ns.map V.int)
  | [] => .nil
  | n :: r => .cons (.int n) (rpA_ints r)
open Classical in
/-- the law's promise, from what its computation gives -/
theorem law_of {K : PySem.W.Frag} {cl : Nat → Addr} {m : MF} {a : Addr} {ns : List Int} {H : Hp} {Q : VK} {E : XK} (hs : SqL K H a (ns.map V.int)) (h : m [.p (.lst (intsP ns))] ⟨0, []⟩ = some (.p (.bl true), ⟨0, []⟩)) (q : ∀ H', Q (.bl true) H') : spOf K cl m [.ref a] H Q E := by
  refine ⟨[.p (.lst (intsP ns))], ⟨0, []⟩, [], H, fun _ => 0, ⟨Same.refl _, fun n o e => by simp at e, fun n m h => absurd h (Nat.not_lt_zero _), fun n o e => by simp at e, fun b hb => absurd hb (by simp), Nat.le_refl _⟩, .cons (Rp.lst hs (rpA_ints ns)) .nil, fun d hd => ?_, .p (.bl true), ⟨0, []⟩, h, fun F1 φ1 H1 u s x r l => ?_⟩
  · rw [List.mem_singleton.mp hd]; trivial
  · rw [drB r]; exact q H1
theorem rel_ref {a : Addr} : RelV (.ref a) (.ref a) := rfl
end Pv
/-! sorted(list, key=a def) -/
namespace Pv
open PySem PySem.Spec PyProof.Rows L2
def allSome {α : Type} : List (Option α) → Option (List α)
  | [] => some []
  | some a :: r => (allSome r).map (a :: ·)
  | none :: _ => none
/-- atoms and tuples of these, as the kit's data -/
def pyOf : Nat → P → Option PyData
  | _, .non => some .none
  | _, .bl b => some (.bool b)
  | _, .int i => some (.int i)
  | _, .str x => some (.str x)
  | k + 1, .tup ps => (allSome (ps.map (pyOf k))).map .tuple
  | _, _ => none
def isTup1 : PyData → Bool
  | .tuple (_ :: _) => true
  | _ => false
def noTup : PyData → Bool
  | .tuple _ => false
  | .none => false
  | _ => true
def okKeys (ks : List PyData) : Bool := ks.all (fun a => ks.all (PySem.W.alike a)) && (ks.all isTup1 || ks.all noTup) && ks.all fun a => decide (a.depth ≤ 60)
theorem okKeys_of {ks : List PyData} (h : okKeys ks = true) : PySem.W.AllAlike ks ∧ PySem.W.Sortable ks ∧ ∀ d ∈ ks, d.depth ≤ 60 := by
  unfold okKeys at h
  simp only [Bool.and_eq_true, Bool.or_eq_true, List.all_eq_true, decide_eq_true_eq] at h
  obtain ⟨⟨h1, h2⟩, h3⟩ := h
  refine ⟨h1, ?_, h3⟩
  rcases h2 with h2 | h2
  · refine .inl fun d hd => ?_
    have q := h2 d hd
    unfold isTup1 at q
    split at q
    · exact ⟨_, _, rfl⟩
    · cases q
  · refine .inr fun d hd => ?_
    have q := h2 d hd
    unfold noTup at q
    split at q
    · cases q
    · cases q
    · rename_i n1 n2
      exact ⟨n2, fun xs z => n1 xs z⟩
def keysL (m : MF) : List P → SH → Option (List (P × PyData) × SH)
  | [], S => some ([], S)
  | p :: r, S => bnd (m [.p p] S) fun k S1 => match k with
    | .p q => match pyOf 60 q with
      | some d => bnd (keysL m r S1) fun l S2 => some ((p, d) :: l, S2)
      | none => none
    | _ => none
def sortK (live : Bool) (m : MF) (d : D) (S : SH) : Option (D × SH) := match asL d S with
  | some ds => match toPs ds with
    | some ps => bnd (keysL m ps S) fun l S1 => if okKeys (l.map (·.2)) = true then newL live ((l.mergeSort (PySem.W.dataLe false (·.2))).map fun x => D.p x.1) S1 else none
    | none => none
  | none => none
def dSortK (live : Bool) (m : MF) (me : ME) : ME := fun σ S => bnd (me σ S) (sortK live m)
section
variable {X : Cx} {cl : Nat → Addr} {pins : List (Addr × Obj)} {σ : L2.St} {F H : Hp} {s : Shared}
theorem rdAll (I : L2.Inv X pins σ H s) (sf : Same F H) {k : Nat} (ih : ∀ (p : P) (d : PyData) (v : V) (u : Value), pyOf k p = some d → Rp X.K cl F p v → RelV v u → Reads s.heap u d []) :
    ∀ (ps : List P) (ds : List PyData) (vs : List V) (us : List Value), allSome (ps.map (pyOf k)) = some ds → RpA X.K cl F ps vs → Vals vs us → ReadsAll s.heap us ds [] := by
  intro ps
  induction ps with
  | nil =>
    intro ds vs us e r q
    cases r; cases q
    have e' : ([] : List PyData) = ds := Option.some.inj e
    subst e'
    exact .nil
  | cons p ps hi =>
    intro ds vs us e r q
    cases r with
    | cons r1 r2 =>
      cases q with
      | cons q1 q2 =>
        rw [List.map_cons] at e
        cases e1 : pyOf k p with
        | none => rw [e1] at e; cases e
        | some d =>
          rw [e1] at e
          cases e2 : allSome (ps.map (pyOf k)) with
          | none => rw [allSome, e2] at e; cases e
          | some ds' =>
            rw [allSome, e2] at e
            have e' : d :: ds' = ds := Option.some.inj e
            subst e'
            have q := ReadsAll.cons (ih _ _ _ _ e1 r1 q1) (hi _ _ _ e2 r2 q2)
            exact q
theorem rdR (I : L2.Inv X pins σ H s) (sf : Same F H) : ∀ (k : Nat) (p : P) (d : PyData) (v : V) (u : Value), pyOf k p = some d → Rp X.K cl F p v → RelV v u → Reads s.heap u d [] := by
  intro k
  induction k with
  | zero =>
    intro p d v u e r q
    cases r <;> first | (cases e; done) | skip
    · cases e; cases q; exact .none
    · cases e; cases q; exact .bool _
    · cases e; obtain ⟨t, rfl⟩ := q; exact .int _ t
    · cases e; obtain ⟨t, rfl⟩ := q; exact .str _ t
  | succ k ih =>
    intro p d v u e r q
    cases r <;> first | (cases e; done) | skip
    · cases e; cases q; exact .none
    · cases e; cases q; exact .bool _
    · cases e; obtain ⟨t, rfl⟩ := q; exact .int _ t
    · cases e; obtain ⟨t, rfl⟩ := q; exact .str _ t
    · rename_i a ps vs st ra
      cases q
      rw [pyOf] at e
      cases e1 : allSome (ps.map (pyOf k)) with
      | none => rw [e1] at e; cases e
      | some ds =>
        rw [e1] at e
        have e' : PyData.tuple ds = d := Option.some.inj e
        subst e'
        obtain ⟨its, rv, ⟨o, n, h1, h2, h3⟩, _⟩ := I.tuple (SqT.mono sf st)
        exact .tuple ‹_› ‹_› ‹_› (rdAll I sf ih ps ds vs its e1 ra rv)
theorem map_fst_of {α β : Type} {l : List (α × β)} : ∀ {ps : List α}, l.map (·.1) = ps → l.length = ps.length := fun h => by rw [← h, List.length_map]
theorem keysL_fst {m : MF} : ∀ {ps : List P} {S S1 : SH} {l : List (P × PyData)}, keysL m ps S = some (l, S1) → l.map (·.1) = ps
  | [], S, S1, l, h => by cases h; rfl
  | p :: r, S, S1, l, h => by
    unfold keysL at h
    obtain ⟨k, S2, e1, h⟩ := bnd_of h
    cases k with
    | ref n => cases h
    | p q =>
      dsimp only at h
      cases e2 : pyOf 60 q with
      | none => rw [e2] at h; cases h
      | some d =>
        rw [e2] at h
        obtain ⟨l', S3, e3, h⟩ := bnd_of h
        cases h
        rw [List.map_cons, keysL_fst e3]

theorem vals_at : ∀ {xs : List V} {us : List Value} {i : Nat} {u : Value}, Vals xs us → us[i]? = some u → ∃ x, xs[i]? = some x ∧ RelV x u
  | _, _, _, _, .nil, e => by simp at e
  | _, _, 0, _, .cons r _, e => by simp at e; subst e; exact ⟨_, rfl, r⟩
  | _, _, i + 1, u, .cons _ t, e => by
    obtain ⟨x, h1, h2⟩ := vals_at (i := i) (u := u) t (by simpa using e)
    exact ⟨x, by simpa using h1, h2⟩
theorem rpa_snoc {K : PySem.W.Frag} {p : P} {v : V} (r : Rp K cl F p v) : ∀ {ps : List P} {vs : List V}, RpA K cl F ps vs → RpA K cl F (ps ++ [p]) (vs ++ [v])
  | _, _, .nil => .cons r .nil
  | _, _, .cons a b => .cons a (rpa_snoc r b)
theorem upd_none {h : Heap} {a b : Addr} {o : Obj} (e : h.get? b = some o) (n : b ≠ a) {f : Obj → Obj} : (h.update a f).get? b = some o := (Heap.get?_update_ne _ _ _ _ n).trans e
/-- a heap without the object at a -/
def lessH (h : Heap) (a : Addr) : Heap := h.update a fun o => { o with data := .freed }
theorem lessH_at (h : Heap) (a : Addr) : (lessH h a).get? a = none := by
  unfold lessH Heap.get?
  rw [Heap.objs_update_self]
  cases h.objs[a]? <;> rfl
theorem rp_each {K : PySem.W.Frag} : ∀ {l : List (P × PyData)} {vs : List V} {us : List Value}, RpA K cl F (l.map (·.1)) vs → Vals vs us → PySem.W.EachIs (fun (u : Value) (x : P × PyData) => ∃ v, RelV v u ∧ Rp K cl F x.1 v) us l
  | [], _, _, r, q => by
    cases r; cases q; exact .nil
  | x :: l, _, _, r, q => by
    rw [List.map_cons] at r
    cases r with
    | cons r1 r2 =>
      cases q with
      | cons q1 q2 => exact .cons ⟨_, q1, r1⟩ (rp_each r2 q2)
theorem each_rp {K : PySem.W.Frag} : ∀ {l : List (P × PyData)} {us : List Value}, PySem.W.EachIs (fun (u : Value) (x : P × PyData) => ∃ v, RelV v u ∧ Rp K cl F x.1 v) us l → ∃ vs : List V, Vals vs us ∧ RpA K cl F (l.map (·.1)) vs
  | _, _, .nil => ⟨[], .nil, .nil⟩
  | _, _, .cons ⟨v, q1, r1⟩ e => by
    obtain ⟨vs, q2, r2⟩ := each_rp e
    exact ⟨v :: vs, .cons q1 q2, .cons r1 r2⟩
theorem key_each (I : L2.Inv X pins σ H s) (sf : Same F H) : ∀ {l : List (P × PyData)} {kps : List P} {kv : List V} {us : List Value}, kps.map (pyOf 60) = l.map (fun x => some x.2) → RpA X.K cl F kps kv → Vals kv us → PySem.W.EachIs (fun v d => ∃ as, Reads s.heap v d as) us (l.map (·.2))
  | [], [], _, _, _, r, q => by
    cases r; cases q; exact .nil
  | [], _ :: _, _, _, e, _, _ => by cases e
  | _ :: _, [], _, _, e, _, _ => by cases e
  | x :: l, p :: kps, _, _, e, r, q => by
    rw [List.map_cons, List.map_cons] at e
    injection e with e1 e2
    cases r with
    | cons r1 r2 =>
      cases q with
      | cons q1 q2 => exact .cons ⟨[], rdR I sf 60 _ _ _ _ e1 r1 q1⟩ (key_each I sf e2 r2 q2)
def rSortK (K : PySem.W.Frag) (cl : Nat → Addr) (live : Bool) (m : MF) (f : Addr) : List V → List V → Hp → VK → Prop := fun vs zs H Q => zs = [V.ref f] ∧ ∃ d v S B F φ, vs = [v] ∧ Sim K cl S B F φ H ∧ DR K cl F φ d v ∧ d.lt S.len ∧ OkE K cl S B F φ H (sortK live m d S) Q
theorem fpAt {H' : Hp} {b : Addr} (f : FpOk X pins H b) (n : H' b = none) : FpOk X pins H' b := ⟨n, f.2⟩
theorem pins2 {a b : Addr} {oa ob : Obj} (I : L2.Inv X pins σ H s) (fa : FpOk X pins H a) (fb : FpOk X pins H b) (ha : s.heap.get? a = some oa) (hb : s.heap.get? b = some ob) (ca : ∀ v, oa.data ≠ .cell v) (cb : ∀ v, ob.data ≠ .cell v) : L2.Inv X (pins ++ [(a, oa), (b, ob)]) σ H s := by
  refine I.pins_of fun p hp => ?_
  rcases List.mem_append.mp hp with hp | hp
  · exact I.pin p (List.mem_append_right _ hp)
  · rcases List.mem_cons.mp hp with rfl | hp
    · exact ⟨ha, fa.1, fa.2.1, fa.2.2.1, ca⟩
    · rw [List.mem_singleton.mp hp]
      exact ⟨hb, fb.1, fb.2.1, fb.2.2.1, cb⟩
theorem sortK_run {k : Nat} {f : Addr} {fd : FuncData} {ps0 : List Str} {m : MF} {live : Bool} (FN : FnOk X.prog X.w X.K X.mg X.base CX0 k f fd ps0 (spOf X.K cl m)) (hr : Room (k + 2) X.A) (hb : Binds X.K fd ps0 []) : CallRK X (.builtin "sorted") [Str.ofString "key"] (rSortK X.K cl live m f) := by
  intro pins s σ H vs zs us ws Q I rv rz h
  obtain ⟨rfl, d, v, S, B, F0, φ, rfl, sim, dr, l, o⟩ := h
  obtain rfl := Vals.ref1 rz
  unfold sortK at o
  cases e1 : asL d S with
  | none => rw [e1] at o; obtain ⟨_, _, z, _⟩ := o; cases z
  | some ds =>
  rw [e1] at o
  dsimp only at o
  cases e2 : toPs ds with
  | none => rw [e2] at o; obtain ⟨_, _, z, _⟩ := o; cases z
  | some ps =>
  rw [e2] at o
  dsimp only at o
  obtain ⟨la, xs, rfl, hs, ra, lx⟩ := asL_ok sim e1 dr l
  obtain rfl := toPs_of e2
  obtain ⟨l0, S1, ek, o⟩ := okE_bnd o
  by_cases hok : okKeys (l0.map (·.2)) = true
  case neg => rw [if_neg hok] at o; obtain ⟨_, _, z, _⟩ := o; cases z
  rw [if_pos hok] at o
  obtain ⟨hal, hsk, hdp⟩ := okKeys_of hok
  obtain ⟨its, rvi, hl, hz⟩ := I.list hs
  obtain rfl := Vals.ref1 rv
  have ra0 : RpA X.K cl F0 ps xs := ra.rpa
  have hil : its.length = xs.length := rvi.length.symm
  have hpl : ps.length = xs.length := ra0.len
  have hl0 : l0.map (·.1) = ps := keysL_fst ek
  have hll : l0.length = ps.length := map_fst_of hl0
  refine PySem.W.sorted_of_sort hl.isList (by omega) (ksk_s1 _ _) (fun _ => ksk_l1 _ _) fun E' => ?_
  show wpAny (model X.prog X.w) X.A.in1.in1 (ksk_tree (s.heap.objs.size + 1) (.ref f) false) _ E' _
  have n1 := PySem.W.copyHeap_at s.heap its
  generalize hG : PySem.W.copyHeap s.heap its = G at n1
  have kG : ∀ b u, s.heap.get? b = some u → G.get? b = some u := fun b u e => by rw [← hG]; exact PySem.W.copyHeap_old e
  have zG : s.heap.objs.size + 1 < G.objs.size := Heap.lt_size n1
  generalize hA : s.heap.objs.size + 1 = A1 at n1 zG
  have nA : ∀ b u, s.heap.get? b = some u → b ≠ A1 := fun b u e z => absurd (Heap.lt_size e) (by rw [z, ← hA]; exact Nat.not_lt.mpr (Nat.le_succ _))
  obtain ⟨e1', n2⟩ : ∃ q, (G.update A1 (Obj.mapSeq fun _ => (#[] : Array Value))).get? A1 = some (seqObj "list" #[] q) := ⟨_, get?_update_seq n1 fun _ => #[]⟩
  unfold ksk_tree
  refine wpAny_bind (listItems_at n1 rfl ?_)
  refine wpAny_bind (listUpdate_at n1 rfl ?_ (by rw [List.size_toArray]; omega) (Nat.zero_le _))
  refine wpAny_bind (seqEpoch_at n2 rfl ?_)
  refine wpAny_bind (wpAny_newTuple ?_ (by show its.length ≤ _; omega))
  refine wpAny_bind (wpAny_newList ?_ (Nat.zero_le _))
  refine wpAny_holding ?_
  have n3 := Heap.get?_push_size (((G.update A1 (Obj.mapSeq fun _ => (#[] : Array Value))).push (seqObj "tuple" its.toArray 0))) (o := seqObj "list" #[] 0) rfl
  have zU : (G.update A1 (Obj.mapSeq fun _ => (#[] : Array Value))).objs.size = G.objs.size := Heap.size_update _ _ _
  have zP : ((G.update A1 (Obj.mapSeq fun _ => (#[] : Array Value))).push (seqObj "tuple" its.toArray 0)).objs.size = G.objs.size + 1 := by rw [size_push', zU]
  have n4 : (((G.update A1 (Obj.mapSeq fun _ => (#[] : Array Value))).push (seqObj "tuple" its.toArray 0)).push (seqObj "list" #[] 0)).get? A1 = some (seqObj "list" #[] e1') := Heap.get?_push_of_some _ (Heap.get?_push_of_some _ n2)
  have kT : ∀ b u, s.heap.get? b = some u → (((G.update A1 (Obj.mapSeq fun _ => (#[] : Array Value))).push (seqObj "tuple" its.toArray 0)).push (seqObj "list" #[] 0)).get? b = some u := fun b u e =>
    Heap.get?_push_of_some _ (Heap.get?_push_of_some _ (upd_none (kG b u e) (nA b u e)))
  show wpAny _ _ (ksk_rest A1 (.ref f) false its.toArray e1' (.ref ((G.update A1 (Obj.mapSeq fun _ => (#[] : Array Value))).push (seqObj "tuple" its.toArray 0)).objs.size)) _ _ { s with heap := ((G.update A1 (Obj.mapSeq fun _ => (#[] : Array Value))).push (seqObj "tuple" its.toArray 0)).push (seqObj "list" #[] 0) }
  rw [zP] at n3 ⊢
  generalize (((G.update A1 (Obj.mapSeq fun _ => (#[] : Array Value))).push (seqObj "tuple" its.toArray 0)).push (seqObj "list" #[] 0)) = T at n3 n4 kT ⊢
  have hne : A1 ≠ G.objs.size + 1 := by omega
  generalize hK : G.objs.size + 1 = KS at n3 hne ⊢
  have fA : FpOk X pins H A1 := I.fpOk (by omega) (I.hok.fresh (by omega))
  have fK : FpOk X pins H KS := I.fpOk (by omega) (I.hok.fresh (by omega))
  have I0 := I.kept (t' := s.toks) kT
  have nc : ∀ (xs : Array Value) (n : Nat) (v : Option Value), (seqObj "list" xs n).data ≠ .cell v := fun xs n v z => by cases z
  unfold ksk_rest
  refine wpAny_bind (wpAny_rule ?_)
  first
    | rw [List.forIn_toArray]
    | (rw [← Array.forIn_toList]; simp only [List.toList_toArray])
  refine wpAny_bind (ksk_fold (fun i s' => ∃ S2 F2 φ2 H2 kA e l1 l2 kps kv, L2.Inv X (pins ++ [(A1, seqObj "list" #[] e1'), (KS, seqObj "list" kA e)]) σ H2 s' ∧ Sim X.K cl S2 B F2 φ2 H2 ∧ Ext S F0 φ H S2 F2 φ2 H2 ∧ keysL m (ps.drop i) S2 = some (l2, S1) ∧ l0 = l1 ++ l2 ∧ l1.length = i ∧ Vals kv kA.toList ∧ RpA X.K cl F2 kps kv ∧ kps.map (pyOf 60) = l1.map (fun x => some x.2)) its 0 _
    ⟨S, F0, φ, H, #[], 0, [], l0, [], [], pins2 I0 fA fK n4 n3 (nc _ _) (nc _ _), sim, .refl sim, ek, rfl, rfl, .nil, .nil, rfl⟩ ?step ?done)
  case step =>
    rintro j x s' hx ⟨S2, F2, φ2, H2, kA, e, l1, l2, kps, kv, I2, sm, ex, ek2, hla, hlb, rk, rpk, hkp⟩
    simp only [Nat.zero_add] at ek2 hlb ⊢
    have hj : j < its.length := (List.getElem?_eq_some_iff.mp hx).1
    obtain ⟨y, hy, ry⟩ := vals_at rvi hx
    obtain ⟨p, hp, rp⟩ := ra0.get hy
    have hd : ps.drop j = p :: ps.drop (j + 1) := by
      obtain ⟨hp1, hp2⟩ := List.getElem?_eq_some_iff.mp hp
      rw [List.drop_eq_getElem_cons hp1, hp2]
    rw [hd] at ek2
    unfold keysL at ek2
    obtain ⟨kd, S3, em, ek2⟩ := bnd_of ek2
    cases kd with
    | ref n => cases ek2
    | p q =>
    dsimp only at ek2
    cases e3 : pyOf 60 q with
    | none => rw [e3] at ek2; cases ek2
    | some dk =>
    rw [e3] at ek2
    obtain ⟨l3, S4, e4, ek2⟩ := bnd_of ek2
    cases ek2
    have hsp : spOf X.K cl m [y] H2 (fun w H3 => ∃ F3 φ3, Sim X.K cl S3 B F3 φ3 H3 ∧ Ext S2 F2 φ2 H2 S3 F3 φ3 H3 ∧ Rp X.K cl F3 q w) (fun _ _ _ => False) :=
      ⟨[.p p], S2, B, F2, φ2, sm, .cons (Rp.mono ex.fz rp) .nil, fun z hz => by rw [List.mem_singleton.mp hz]; trivial, .p q, S3, em, fun F3 φ3 H3 u s3 x3 r3 l3 => ⟨F3, φ3, s3, x3, r3⟩⟩
    have hlen : [x].length = ps0.length := FN.len _ _ _ _ hsp
    have pA := I2.pin (A1, seqObj "list" #[] e1') (by simp)
    refine wpAny_bind (wpAny_attempt (wpAny_mono (Q := EP X (pins ++ [(A1, seqObj "list" #[] e1'), (KS, seqObj "list" kA e)]) σ (fun w H3 => ∃ F3 φ3, Sim X.K cl S3 B F3 φ3 H3 ∧ Ext S2 F2 φ2 H2 S3 F3 φ3 H3 ∧ Rp X.K cl F3 q w)) (E := fun _ _ => False) (wpAny_call (codeAny_mono (FN.run X.A.in1.in1 X.stack s' H2 ⟨[x], []⟩ [x] [y] _ _ hr.in1.in1 I2.env0.in1.in1 (by
      have bb := hb s' [x] I2.kIn (by rw [List.append_nil]; exact hlen)
      rw [List.append_nil] at bb
      exact bb) (.cons ry .nil) hsp) fun r s'' hq => ?_)) (fun u s'' he => ?_) fun _ _ hF => hF.elim))
    · cases r with
      | error e => exact hq.elim
      | ok fl =>
        cases fl with
        | ret u => exact I2.after hq
        | next => exact False.elim hq
        | brk => exact False.elim hq
        | cont => exact False.elim hq
    · obtain ⟨w, H3, I3, rw', F3, φ3, sm3, ex3, rq⟩ := he
      dsimp only
      have qA := I3.pin (A1, seqObj "list" #[] e1') (by simp)
      have qK := I3.pin (KS, seqObj "list" kA e) (by simp)
      have nk2 : s''.heap.get? KS = some (seqObj "list" kA e) := qK.1
      have na2 : s''.heap.get? A1 = some (seqObj "list" #[] e1') := qA.1
      have hks : kA.size = j := by
        have t1 : kv.length = kA.size := rk.length
        have t2 : kps.length = kv.length := rpk.len
        have t3 := congrArg List.length hkp
        rw [List.length_map, List.length_map] at t3
        rw [← t1, ← t2, t3, hlb]
      obtain ⟨c2, hc2⟩ : ∃ c2, (s''.heap.update KS (Obj.mapSeq (·.push u))).get? KS = some (seqObj "list" (kA.push u) c2) := ⟨_, get?_update_seq nk2 (·.push u)⟩
      refine wpAny_bind (listUpdate_at nk2 rfl ?_ (by omega) (by rw [Array.size_push]; omega))
      refine wpAny_pure ⟨rfl, S3, F3, φ3, H3, kA.push u, c2, l1 ++ [(p, dk)], l3, kps ++ [q], kv ++ [w], ?_, sm3, ex.trans ex3, e4, by rw [hla, List.append_assoc]; rfl, by rw [List.length_append, hlb]; rfl, ?_, ?_, by rw [List.map_append, List.map_append, hkp]; simp [e3]⟩
      · have I4 : L2.Inv X pins σ H3 s'' := I3.pins_of fun p hp => I3.pin p (by simp [hp])
        have fK3 : FpOk X pins H3 KS := fpAt fK qK.2.1
        have I5 := I4.turned (t' := s''.toks) (h' := s''.heap.update KS (Obj.mapSeq (·.push u))) (it := KS) (fun b o hb e => upd_none e hb) qK.2.1 fK3.2.1 fK3.2.2.2.1 fK3.2.2.2.2.1 fK3.2.2.2.2.2
        exact pins2 I5 (fpAt fA qA.2.1) fK3 (upd_none na2 hne) hc2 (nc _ _) (nc _ _)
      · rw [Array.toList_push]
        exact rk.append (.cons rw' .nil)
      · exact rpa_snoc rq (RpA.mono ex3.fz rpk)
  case done =>
    rintro s' ⟨S2, F2, φ2, H2, kA, e, l1, l2, kps, kv, I2, sm, ex, ek2, hla, hlb, rk, rpk, hkp⟩
    have hdn : ps.drop (0 + its.length) = [] := List.drop_eq_nil_of_le (by omega)
    rw [hdn] at ek2
    cases ek2
    rw [List.append_nil] at hla
    subst hla
    have qA := I2.pin (A1, seqObj "list" #[] e1') (by simp)
    have qK := I2.pin (KS, seqObj "list" kA e) (by simp)
    have nk : s'.heap.get? KS = some (seqObj "list" kA e) := qK.1
    have na : s'.heap.get? A1 = some (seqObj "list" #[] e1') := qA.1
    have hea := key_each I2 sm.le hkp rpk rk
    have hsz : kA.size = its.length := by
      have t1 := hea.length
      rw [Array.length_toList, List.length_map] at t1
      omega
    have kp : PySem.W.KeepsBut A1 (lessH s'.heap KS) s'.heap := fun b o hb q => by
      by_cases hbk : b = KS
      · rw [hbk, lessH_at] at q; cases q
      · rw [← q]; exact (Heap.get?_update_ne _ _ _ _ hbk).symm
    refine wpAny_bind (listItems_at nk rfl ?_)
    have un : X.A.in1.in1.units = X.A.units + 2 := rfl
    refine PySem.W.keyH_end (κ := PySem.W.dataKind s'.heap (l0.map (·.2))) (h₁ := lessH s'.heap KS) kp (lessH_at _ _) nk na hne.symm (PySem.W.SortsAt.data (s := s') hea hal hsk fun d hd => by
      have t1 := hdp d hd
      have t2 := hr.un
      omega) hsz (by omega) fun h' tk c k' n' => ?_
    have keep : ∀ b o, b ∉ [A1, KS] → s'.heap.get? b = some o → h'.get? b = some o := fun b o hb q => by
      rw [List.mem_cons, List.mem_singleton, not_or] at hb
      exact k' b o hb.1 (upd_none q hb.2)
    have ko : PySem.W.KeyedOut false (l0.map (·.2)) its (PySem.W.sortVals (PySem.W.dataKind s'.heap (l0.map (·.2))) false kA.toList its) := ⟨s'.heap, kA.toList, hal, rfl, hea⟩
    have ra2 : RpA X.K cl F2 (l0.map (·.1)) xs := by rw [hl0]; exact RpA.mono ex.fz ra0
    obtain ⟨vs', rv', rp'⟩ := each_rp (PySem.W.keyedOut_each (fun x : P × PyData => x.2) ko (rp_each ra2 rvi))
    have I4 : L2.Inv X pins σ H2 s' := I2.pins_of fun p hp => I2.pin p (by simp [hp])
    have fA2 : FpOk X pins H2 A1 := fpAt fA qA.2.1
    have I5 := I4.turnedL (t' := tk) (h' := h') keep fun b hb => by
      rcases List.mem_cons.mp hb with rfl | hb
      · exact fA2
      · rw [List.mem_singleton.mp hb]; exact fpAt fK qK.2.1
    have dr' : DRA X.K cl F2 φ2 ((l0.mergeSort (PySem.W.dataLe false (·.2))).map fun x => D.p x.1) vs' := by
      have q := rp'.dra (φ := φ2)
      rw [List.map_map] at q
      exact q
    have o' := OkE.ext ex o
    obtain ⟨hz', w'⟩ := newL_ok1 o' sm dr' (fun z hz => by
      obtain ⟨y, _, rfl⟩ := List.mem_map.mp hz
      trivial)
    refine ⟨rfl, .ref A1, upd H2 A1 (.lst vs'), ?_, rfl, w' A1 qA.2.1⟩
    exact I5.take (fun _ _ _ q => q) fA2 ⟨hz', _, c, rv', n'⟩

theorem k_sortK {k : Nat} {f : Addr} {fd : FuncData} {ps0 : List Str} {m : MF} {live : Bool} {x y : Str} {p q kpos pos : Pos} {e : Expr} {me : ME} (FN : FnOk X.prog X.w X.K X.mg X.base CX0 k f fd ps0 (spOf X.K cl m)) (hr : Room (k + 2) X.A)
    (hg : Gl X x) (hm : X.mg x = none) (hv : bootBuiltins x = some (.builtin "sorted")) (hg2 : Gl X y) (hm2 : X.mg y = some (.ref f)) (hb : Binds X.K fd ps0 []) (he : PE X e (LE X.K cl me))
    (hn : x ≠ "__name__" := by decide) (hdb : (x == ("__debug__" : Str)) = false := by decide) (hdb2 : (y == ("__debug__" : Str)) = false := by decide)
    (hs : starEach [e] X.env = (false, eval e X.env) :: starEach [] X.env := by rfl) (he1 : backTo pos (starEach [e] X.env) = (false, eval e X.env) :: backTo pos (starEach [] X.env) := by rfl) (hpl : (backTo pos (starEach [e] X.env)).any (·.1) = false := by rfl)
    (hall : (backToKw pos (keywordEach [⟨some (Str.ofString "key"), .Name y q, kpos⟩] X.env)).all (·.1.isSome) = true := by rfl) (hnone : (backToKw pos (keywordEach [⟨some (Str.ofString "key"), .Name y q, kpos⟩] X.env)).any (·.1.isNone) = false := by rfl) (hks : (backToKw pos (keywordEach [⟨some (Str.ofString "key"), .Name y q, kpos⟩] X.env)).filterMap (·.1) = [Str.ofString "key"] := by rfl) :
    PE X (.Call (.Name x p) [e] [⟨some (Str.ofString "key"), .Name y q, kpos⟩] pos) (LE X.K cl (dSortK live m me)) := by
  refine (pe_callBK (sortK_run (live := live) FN hr hb) hg hm hv (pa_cons he pa_nil hs) (pk_cons (pe_glob hg2 hm2 (v := V.ref f) rfl hdb2) pk_nil) hn hdb he1 hpl hall hnone hks).imp fun σ H Q h => ?_
  obtain ⟨σd, S, B, F, φ, s, rs, o⟩ := h
  obtain ⟨d, S1, e1, o⟩ := okE_bnd o
  exact LE.then_ s rs e1 fun F1 φ1 H1 v s1 x1 rs1 dr l => ⟨rfl, d, v, S1, B, F1, φ1, rfl, s1, dr, l, OkE.ext x1 o⟩
end
end Pv
/-! a comprehension with two loops -/
namespace Pv
open PySem PySem.Spec PyProof.Rows L2
def compL2 (fin : SH → Bool) (g : MG) (c : MT) (m1 : MI) (g1 : MG) (c1 : MT) (elt : ME) (ws1 : List Nat) (σ : En) : List (SH → Option D) → List D → SH → Option (List D × SH)
  | [], acc, S => if fin S = true then some (acc, S) else none
  | t :: ts, acc, S => match t S with
    | some d => bnd (g d σ S) fun σ1 S1 => bnd (c σ1 S1) fun b S2 => if b = true then
        bnd (m1 σ1 S2) fun src S3 => bnd (compL src.fin g1 c1 elt (wipeD ws1 σ1) src.items acc S3) fun acc' S4 => compL2 fin g c m1 g1 c1 elt ws1 σ ts acc' S4
        else compL2 fin g c m1 g1 c1 elt ws1 σ ts acc S2
    | none => none
def dComp2 (live : Bool) (m : MI) (g : MG) (c : MT) (m1 : MI) (g1 : MG) (c1 : MT) (elt : ME) (vs ws1 : List Nat) : ME := fun σ S => bnd (m σ S) fun src S1 => bnd (compL2 src.fin g c m1 g1 c1 elt ws1 (wipeD vs σ) src.items [] S1) fun ds S2 => newL live ds S2
section
variable {X : Cx} {K : PySem.W.Frag} {cl : Nat → Addr} {tg iter tg1 iter1 e : Expr} {pos : Pos} {m m1 : MI} {g g1 : MG} {vs vs1 ws ws1 : List Nat} {mt mt1 : MT} {me : ME}
theorem e_comp2 {live : Bool} {σ : L2.St} {H : Hp} {Q : VK} (hw : ∀ j ∈ vs, j ∈ ws) (hw1 : ∀ j ∈ vs1, j ∈ ws1) (q : LE K cl (dComp2 live m g mt m1 g1 mt1 me ws ws1) σ H Q) : tLc2 (LI K cl m) (LG K cl vs g) (LT K cl mt) (LI K cl m1) (LG K cl vs1 g1) (LT K cl mt1) (LE K cl me) ws ws1 σ H Q := by
  obtain ⟨σd, S, B, F, φ, s, rs, o⟩ := q
  obtain ⟨src, S1, e1, o1⟩ := okE_bnd o
  refine ⟨σd, S, B, F, φ, s, rs, src, S1, e1, fun F1 φ1 H1 J s1 x1 it => ?_⟩
  intro L hL
  have o1 := o1.ext x1
  have smL : Same H1 (upd H1 L (.lst [])) := Same.new (Same.refl _) hL
  obtain ⟨fL, pL⟩ := s1.none_p hL
  refine ⟨fun i mm H' => mm = src.items.length - i ∧ i ≤ src.items.length ∧ ∃ acc us S' F' φ', Sim K cl S' B F' φ' H' ∧ Ext S1 F1 φ1 H1 S' F' φ' H' ∧ At L us S' F' φ' H' ∧ DRA K cl F' φ' acc us ∧ (∀ d ∈ acc, d.lt S'.len) ∧
      OkE K cl S1 B F1 φ1 H1 (bnd (compL2 src.fin g mt m1 g1 mt1 me ws1 (wipeD ws σd) (src.items.drop i) acc S') fun ds S2 => newL live ds S2) Q,
    ⟨src.items.length, by simp, Nat.zero_le _, [], [], S1, F1, φ1, s1.keep smL, Ext.ofSame s1 smL, ⟨upd_same, fL, pL⟩, .nil, fun _ z => absurd z (by simp), by rw [List.drop_zero]; exact o1⟩, ?_⟩
  rintro i mm H' ⟨rfl, hi, acc, us, S', F', φ', s', x', at', ra, la, o'⟩
  obtain ⟨turn, stop⟩ := it S' B F' φ' H' s' x'.fz x'.len x'.phi i
  by_cases hlt : i < src.items.length
  · rw [List.drop_eq_getElem_cons hlt] at o'
    unfold compL2 at o'
    cases ht : src.items[i] S' with
    | none => rw [ht] at o'; obtain ⟨_, _, z, _⟩ := o'; cases z
    | some d =>
      rw [ht] at o'
      dsimp only at o'
      obtain ⟨ld, go, yld⟩ := turn _ d (List.getElem?_eq_getElem hlt) ht
      refine .inr ⟨go, fun H3 => ∃ acc us S' F' φ', Sim K cl S' B F' φ' H3 ∧ Ext S1 F1 φ1 H1 S' F' φ' H3 ∧ At L us S' F' φ' H3 ∧ DRA K cl F' φ' acc us ∧ (∀ d ∈ acc, d.lt S'.len) ∧
        OkE K cl S1 B F1 φ1 H1 (bnd (compL2 src.fin g mt m1 g1 mt1 me ws1 (wipeD ws σd) (src.items.drop (i + 1)) acc S') fun ds S2 => newL live ds S2) Q, fun H3 h => ⟨src.items.length - (i + 1), by omega, rfl, hlt, h⟩, fun x H2 y => ?_⟩
      obtain ⟨F2, s2, x2, dr⟩ := yld x H2 y
      obtain ⟨out, S9, eo, ko⟩ := okE_bnd o'
      obtain ⟨σ3, S3, e3, e4⟩ := bnd_of eo
      obtain ⟨b, S4, e5, e6⟩ := bnd_of e4
      refine ⟨d, wipeD ws σd, S', B, F2, φ', s2, (((x1.trans x').trans x2).rs rs).wipe2 ws, dr, ld, σ3, S3, e3, fun F4 φ4 H4 σ4 s4 x4 rs4 hk => ⟨?_, ?_⟩⟩
      · exact (wipe_eq hk.1 fun j hj => hk.2 j fun z => hj (hw j z)).trans wipe_wipe
      · refine LT.then_ s4 rs4 e5 fun F5 φ5 H5 s5 x5 rs5 => ?_
        have xa := (x2.trans x4).trans x5
        split
        · rename_i hb
          rw [if_pos hb] at e6
          obtain ⟨src1, S6, e7, e8⟩ := bnd_of e6
          refine ⟨σ3, S4, B, F5, φ5, s5, rs5, src1, S6, e7, fun F6 φ6 H6 J1 s6 x6 it1 => ?_⟩
          have xb := xa.trans x6
          have at6 := at'.ext xb
          have rs6 := x6.rs rs5
          refine ⟨fun j k Hj => k = src1.items.length - j ∧ j ≤ src1.items.length ∧ ∃ acc us S' F' φ', Sim K cl S' B F' φ' Hj ∧ Ext S1 F1 φ1 H1 S' F' φ' Hj ∧ Same F6 F' ∧ S6.len ≤ S'.len ∧ (∀ n, n < S6.len → φ' n = φ6 n) ∧ At L us S' F' φ' Hj ∧ DRA K cl F' φ' acc us ∧ (∀ d ∈ acc, d.lt S'.len) ∧
              (bnd (compL src1.fin g1 mt1 me (wipeD ws1 σ3) (src1.items.drop j) acc S') fun acc' S4 => compL2 src.fin g mt m1 g1 mt1 me ws1 (wipeD ws σd) (src.items.drop (i + 1)) acc' S4) = some (out, S9),
            ⟨src1.items.length, by simp, Nat.zero_le _, acc, us, S6, F6, φ6, s6, x'.trans xb, Same.refl _, Nat.le_refl _, fun _ _ => rfl, at6, xb.dra la ra, fun z hz => xb.lt (la z hz), by rw [List.drop_zero]; exact e8⟩, ?_⟩
          rintro j k Hj ⟨rfl, hj, acc1, us1, S7, F7, φ7, s7, x7, f67, l67, p67, at7, ra7, la7, o7⟩
          obtain ⟨turn1, stop1⟩ := it1 S7 B F7 φ7 Hj s7 f67 l67 p67 j
          by_cases hlt1 : j < src1.items.length
          · rw [List.drop_eq_getElem_cons hlt1] at o7
            obtain ⟨acc9, S10, o8, o9⟩ := bnd_of o7
            unfold compL at o8
            cases ht1 : src1.items[j] S7 with
            | none => rw [ht1] at o8; cases o8
            | some d1 =>
              rw [ht1] at o8
              dsimp only at o8
              obtain ⟨ld1, go1, yld1⟩ := turn1 _ d1 (List.getElem?_eq_getElem hlt1) ht1
              refine .inr ⟨go1, fun H3 => ∃ acc us S' F' φ', Sim K cl S' B F' φ' H3 ∧ Ext S1 F1 φ1 H1 S' F' φ' H3 ∧ Same F6 F' ∧ S6.len ≤ S'.len ∧ (∀ n, n < S6.len → φ' n = φ6 n) ∧ At L us S' F' φ' H3 ∧ DRA K cl F' φ' acc us ∧ (∀ d ∈ acc, d.lt S'.len) ∧
                  (bnd (compL src1.fin g1 mt1 me (wipeD ws1 σ3) (src1.items.drop (j + 1)) acc S') fun acc' S4 => compL2 src.fin g mt m1 g1 mt1 me ws1 (wipeD ws σd) (src.items.drop (i + 1)) acc' S4) = some (out, S9), fun H3 h => ⟨src1.items.length - (j + 1), by omega, rfl, hlt1, h⟩, fun x1' H8 y1 => ?_⟩
              obtain ⟨F8, s8, x8, dr8⟩ := yld1 x1' H8 y1
              obtain ⟨σ9, S11, e9, e10⟩ := bnd_of o8
              obtain ⟨b1, S12, e11, e12⟩ := bnd_of e10
              refine ⟨d1, wipeD ws1 σ3, S7, B, F8, φ7, s8, (x8.rs (rs6.mono f67 l67 p67)).wipe2 ws1, dr8, ld1, σ9, S11, e9, fun F13 φ13 H13 σ13 s13 x13 rs13 hk1 => ⟨?_, ?_⟩⟩
              · exact (wipe_eq hk1.1 fun j hj => hk1.2 j fun z => hj (hw1 j z)).trans wipe_wipe
              · refine LT.then_ s13 rs13 e11 fun F14 φ14 H14 s14 x14 rs14 => ?_
                have xc := (x8.trans x13).trans x14
                split
                · rename_i hb1
                  rw [if_pos hb1] at e12
                  by_cases hz : acc1.length < sizeLine
                  · rw [if_pos hz] at e12
                    obtain ⟨y2, S15, e13, e14⟩ := bnd_of e12
                    refine LE.then_ s14 rs14 e13 fun F15 φ15 H15 u s15 x15 rs15 dr15 l15 => ?_
                    have xd := xc.trans x15
                    have at15 := at7.ext xd
                    have hlen := ra7.length
                    refine ⟨us1, at15.1, by omega, acc1 ++ [y2], us1 ++ [u], S15, F15, φ15, s15.other _ at15.2.1 at15.2.2, (x7.trans xd).other _ hL, f67.trans xd.fz, Nat.le_trans l67 xd.len, fun n hn => (xd.phi n (Nat.lt_of_lt_of_le hn l67)).trans (p67 n hn), ⟨upd_same, at15.2⟩, ?_, fun z hz' => ?_, ?_⟩
                    · exact DRA.append (xd.dra la7 ra7) (.cons dr15 .nil)
                    · rcases List.mem_append.mp hz' with h | h
                      · exact xd.lt (la7 z h)
                      · rw [List.mem_singleton.mp h]; exact l15
                    · rw [e14]; exact o9
                  · rw [if_neg hz] at e12; cases e12
                · rename_i hb1
                  rw [if_neg hb1] at e12
                  exact ⟨acc1, us1, S12, F14, φ14, s14, x7.trans xc, f67.trans xc.fz, Nat.le_trans l67 xc.len, fun n hn => (xc.phi n (Nat.lt_of_lt_of_le hn l67)).trans (p67 n hn), at7.ext xc, xc.dra la7 ra7, fun z hz' => xc.lt (la7 z hz'), by rw [e12]; exact o9⟩
          · have hd : src1.items.drop j = [] := List.drop_eq_nil_iff.mpr (by omega)
            rw [hd] at o7
            obtain ⟨acc9, S10, o8, o9⟩ := bnd_of o7
            unfold compL at o8
            by_cases hf : src1.fin S7 = true
            · rw [if_pos hf] at o8
              cases o8
              exact .inl ⟨stop1 (by omega) hf, acc1, us1, S7, F7, φ7, s7, x7, at7, ra7, la7, by rw [o9]; exact ko⟩
            · rw [if_neg hf] at o8; cases o8
        · rename_i hb
          rw [if_neg hb] at e6
          exact ⟨acc, us, S4, F5, φ5, s5, x'.trans xa, at'.ext xa, xa.dra la ra, fun z hz' => xa.lt (la z hz'), by rw [e6]; exact ko⟩
  · have hd : src.items.drop i = [] := List.drop_eq_nil_iff.mpr (by omega)
    rw [hd] at o'
    unfold compL2 at o'
    by_cases hf : src.fin S' = true
    · rw [if_pos hf] at o'
      exact .inl ⟨stop (by omega) hf, newL_at o' s' x' ra la at' hL⟩
    · rw [if_neg hf] at o'; obtain ⟨_, _, z, _⟩ := o'; cases z
theorem k_comp2 {elt : Expr} {ifs ifs1 : List Expr} {scope : Scope} {own : List (Str × Nat)} {live : Bool} (hc : X.calm = true) (hN : X.N.Nodup) (hi : PI X tg iter (LI X.K cl m)) (ok : BlkOk X.N X.env.scope scope own)
    (hg : ∀ (s : Shared) (H : Hp) (C : Addr) (cs : List (Str × Addr)) (fp : List Addr), PG (X.blk s H scope (compEnvC scope cs C X.env) fp) tg (LG X.K cl vs g)) (ht : ∀ (s : Shared) (H : Hp) (C : Addr) (cs : List (Str × Addr)) (fp : List Addr), PTs (X.blk s H scope (compEnvC scope cs C X.env) fp) ifs (LT X.K cl mt))
    (hi1 : ∀ (s : Shared) (H : Hp) (C : Addr) (cs : List (Str × Addr)) (fp : List Addr), PI (X.blk s H scope (compEnvC scope cs C X.env) fp) tg1 iter1 (LI X.K cl m1))
    (hg1 : ∀ (s : Shared) (H : Hp) (C : Addr) (cs : List (Str × Addr)) (fp : List Addr), PG (X.blk s H scope (compEnvC scope cs C X.env) fp) tg1 (LG X.K cl vs1 g1)) (ht1 : ∀ (s : Shared) (H : Hp) (C : Addr) (cs : List (Str × Addr)) (fp : List Addr), PTs (X.blk s H scope (compEnvC scope cs C X.env) fp) ifs1 (LT X.K cl mt1))
    (he : ∀ (s : Shared) (H : Hp) (C : Addr) (cs : List (Str × Addr)) (fp : List Addr), PE (X.blk s H scope (compEnvC scope cs C X.env) fp) elt (LE X.K cl me)) (hw : ∀ j ∈ vs, j ∈ own.map (·.2) := by decide) (hw1 : ∀ j ∈ vs1, j ∈ ws1 := by decide) (hw2 : ∀ j ∈ ws1, j ∈ own.map (·.2) := by decide)
    (hs : ∀ x, foldedSetIterable iter X.env x = pure x := by intro _; rfl) (hs1 : ∀ env x, foldedSetIterable iter1 env x = pure x := by intro _ _; rfl) :
    PE X (.ListComp elt [⟨tg, iter, ifs, 0⟩, ⟨tg1, iter1, ifs1, 0⟩] scope pos) (LE X.K cl (dComp2 live m g mt m1 g1 mt1 me (own.map (·.2)) ws1)) :=
  (pe_lc2 hc hN hi ok hw2 hg ht hi1 hg1 ht1 he hs hs1).imp fun _ _ _ q => e_comp2 hw hw1 q
theorem s_setComp2 {i : Nat} {y : Str} {py spos : Pos} {elt : Expr} {ifs ifs1 : List Expr} {scope : Scope} {own : List (Str × Nat)} {live : Bool} (hc : X.calm = true) (hN : X.N.Nodup) (hy : X.N[i]? = some y) (hyl : X.env.scope.names.lookup y = some .local)
    (hsw : swapsWith (.ListComp elt [⟨tg, iter, ifs, 0⟩, ⟨tg1, iter1, ifs1, 0⟩] scope pos) (some (.Name y py)) spos.line X.env = pure true) (hi : PI X tg iter (LI X.K cl m)) (ok : BlkOk X.N X.env.scope scope own)
    (hg : ∀ (s : Shared) (H : Hp) (C : Addr) (cs : List (Str × Addr)) (fp : List Addr), PG (X.blk s H scope (compEnvC scope cs C X.env) fp) tg (LG X.K cl vs g)) (ht : ∀ (s : Shared) (H : Hp) (C : Addr) (cs : List (Str × Addr)) (fp : List Addr), PTs (X.blk s H scope (compEnvC scope cs C X.env) fp) ifs (LT X.K cl mt))
    (hi1 : ∀ (s : Shared) (H : Hp) (C : Addr) (cs : List (Str × Addr)) (fp : List Addr), PI (X.blk s H scope (compEnvC scope cs C X.env) fp) tg1 iter1 (LI X.K cl m1))
    (hg1 : ∀ (s : Shared) (H : Hp) (C : Addr) (cs : List (Str × Addr)) (fp : List Addr), PG (X.blk s H scope (compEnvC scope cs C X.env) fp) tg1 (LG X.K cl vs1 g1)) (ht1 : ∀ (s : Shared) (H : Hp) (C : Addr) (cs : List (Str × Addr)) (fp : List Addr), PTs (X.blk s H scope (compEnvC scope cs C X.env) fp) ifs1 (LT X.K cl mt1))
    (he : ∀ (s : Shared) (H : Hp) (C : Addr) (cs : List (Str × Addr)) (fp : List Addr), PE (X.blk s H scope (compEnvC scope cs C X.env) fp) elt (LE X.K cl me)) (hw : ∀ j ∈ vs, j ∈ own.map (·.2) := by decide) (hw1 : ∀ j ∈ vs1, j ∈ ws1 := by decide) (hw2 : ∀ j ∈ ws1, j ∈ own.map (·.2) := by decide)
    (hs : ∀ x, foldedSetIterable iter X.env x = pure x := by intro _; rfl) (hs1 : ∀ env x, foldedSetIterable iter1 env x = pure x := by intro _ _; rfl) :
    PS X (.Assign [.Name y py] (.ListComp elt [⟨tg, iter, ifs, 0⟩, ⟨tg1, iter1, ifs1, 0⟩] scope pos) spos) (LS X.K cl (dSet i (dComp2 live m g mt m1 g1 mt1 me (own.map (·.2)) ws1))) := by
  refine (ps_setLc2 hc hN hy hyl hsw hi ok hw2 hg ht hi1 hg1 ht1 he hs hs1).imp fun Z σ H q => ?_
  obtain ⟨σd, S, B, F, φ, s, rs, o⟩ := q
  obtain ⟨d, S1, e1, o1⟩ := okS_bnd o
  obtain ⟨_, _, z, k⟩ := o1
  cases z
  exact e_comp2 hw hw1 ⟨σd, S, B, F, φ, s, rs, d, S1, e1, fun F1 φ1 H1 u s1 x1 dr l => k F1 φ1 H1 _ s1 x1 ((x1.rs rs).set i dr l)⟩
end
end Pv
/-! .index of texts; tuples of the module -/
namespace Pv
open PySem PySem.Spec PyProof.Rows L2
def idxS (z : Str) : List Str → Option Nat
  | [] => none
  | y :: r => if y = z then some 0 else (idxS z r).map (· + 1)
theorem idxS_ok {z : Str} : ∀ {ys : List Str} {j : Nat}, idxS z ys = some j → ys[j]? = some z ∧ ∀ m, m < j → ys[m]? ≠ some z
  | [], j, h => by cases h
  | y :: r, j, h => by
    unfold idxS at h
    by_cases e : y = z
    · rw [if_pos e] at h
      cases h
      exact ⟨by rw [e]; rfl, fun m hm => absurd hm (Nat.not_lt_zero _)⟩
    · rw [if_neg e] at h
      cases e1 : idxS z r with
      | none => rw [e1] at h; cases h
      | some i =>
        rw [e1] at h
        cases h
        obtain ⟨h1, h2⟩ := idxS_ok e1
        refine ⟨h1, fun m hm => ?_⟩
        cases m with
        | zero => intro q; exact e (Option.some.inj q)
        | succ m => exact h2 m (Nat.lt_of_succ_lt_succ hm)
def fIndex : MF := fun ds S => match ds with
  | [d, .p (.str z)] => match asL d S with
    | some xs => match strsOf xs with
      | some zs => match idxS z zs with
        | some j => some (.p (.int (j : Nat)), S)
        | none => none
      | none => none
    | none => none
  | _ => none
section
variable {X : Cx} {K : PySem.W.Frag} {cl : Nat → Addr}
theorem flat_str (ys : List Str) : (ys.map V.str).all flatV = true := by
  rw [List.all_map, List.all_eq_true]
  exact fun _ _ => rfl
theorem d_index : MtD K cl fIndex "list" (rIndex K) := by
  intro S B F φ H d ds x xs Q s r l rs ls o
  unfold fIndex at o
  split at o
  · rename_i d' z e0
    obtain ⟨rfl, rfl⟩ := List.cons.inj e0
    cases e1 : asL d S with
    | none => rw [e1] at o; exact o.no
    | some us =>
    rw [e1] at o
    dsimp only at o
    cases e2 : strsOf us with
    | none => rw [e2] at o; exact o.no
    | some zs =>
    rw [e2] at o
    dsimp only at o
    cases e3 : idxS z zs with
    | none => rw [e3] at o; exact o.no
    | some j =>
    rw [e3] at o
    obtain ⟨a, vs, rfl, hq, ra, _⟩ := asL_ok s e1 r l
    have ev := strsOf_of e2 ra
    subst ev
    cases rs with
    | cons r1 r2 =>
      cases r2
      have ex := drS r1
      subst ex
      obtain ⟨h1, h2⟩ := idxS_ok e3
      refine ⟨a, zs.map V.str, .str z, j, .str z, rfl, rfl, hq, rfl, flat_str zs, by rw [List.getElem?_map, h1]; rfl, by simp [eqV], fun m z' hm hz => ?_, o.fin0 rfl s (.int _) trivial⟩
      rw [List.getElem?_map] at hz
      cases e4 : zs[m]? with
      | none => rw [e4] at hz; cases hz
      | some y =>
        rw [e4] at hz
        cases hz
        have hne : y ≠ z := fun q => h2 m hm (by rw [e4, q])
        simpa [eqV] using hne
  · exact o.no
/-- a tuple of the module -/
def TupC (K : PySem.W.Frag) (v : V) : Prop := ∃ (a : Addr) (o : Obj), v = .ref a ∧ K.lookup a = some o ∧ o.cls = .type "tuple" ∧ o.dict = none
theorem rp_const {F : Hp} {a : Addr} {o : Obj} {its : Array Value} {n : Nat} {ps : List P} {vs : List V} (h : K.lookup a = some o) (hc : o.cls = .type "tuple") (hd : o.data = .seq its n) (hz : its.size ≤ sizeLine) (hv : Vals vs its.toList) (hp : RpA K cl F ps vs) : Rp K cl F (.tup ps) (.ref a) :=
  .tup (.inr ⟨o, its, n, h, hc, hd, hz, hv⟩) hp
def strsP (ps : List P) : Option (List Str) := strsOf (ps.map D.p)
def idxC (q : P) (ds : List D) : Option Nat := match q, ds with
  | .tup ps, [.p (.str z)] => (strsP ps).bind (idxS z)
  | _, _ => none
theorem idxC_of {q : P} {ds : List D} {j : Nat} (h : idxC q ds = some j) : ∃ ps z zs, q = .tup ps ∧ ds = [.p (.str z)] ∧ strsP ps = some zs ∧ idxS z zs = some j := by
  unfold idxC at h
  split at h
  · rename_i ps z
    cases e : strsP ps with
    | none => rw [e] at h; cases h
    | some zs => rw [e] at h; exact ⟨ps, z, zs, rfl, rfl, e, h⟩
  · cases h
def dIdxC (q : P) (ma : MA) : ME := fun σ S => bnd (ma σ S) fun ds S1 => match idxC q ds with
  | some j => some (.p (.int (j : Nat)), S1)
  | none => none
theorem k_idxC {x : Str} {v : V} {u : Value} {q : P} {p apos cpos : Pos} {e : Expr} {ma : MA} (hg : Gl X x) (hm : X.mg x = some u) (r : RelV v u) (hq : ∀ F, Rp X.K cl F q v) (ht : TupC X.K v) (ha : PA X [e] (LA X.K cl ma)) (hdb : (x == ("__debug__" : Str)) = false := by decide)
    (hbase : attributeBase (.Name x p) "index" X.env (eval (.Name x p) X.env) = eval (.Name x p) X.env := by rfl)
    (hfew : ((backTo cpos (starEach [e] X.env)).all (fun x => !x.1) && (backToKw cpos (keywordEach [] X.env)).all (fun x => x.1.isSome)
      && decide (([e] : List Expr).length + ([] : List Keyword).length + (if ([] : List Keyword).isEmpty then 0 else 1) < 30)) = true := by rfl)
    (hline : (apos.endLine == cpos.line) = true := by rfl) (hs : starEach [e] X.env = (false, eval e X.env) :: starEach [] X.env := by rfl) (hplain : (backTo cpos (starEach [] X.env)).any (·.1) = false := by rfl) :
    PE X (.Call (.Attribute (.Name x p) "index" apos) [e] [] cpos) (LE X.K cl (dIdxC q ma)) := by
  refine (pe_bm PySem.F.plainAttrs_tuple PySem.F.slot_tuple_index PySem.F.type_tuple_index mt_tup_index (pe_glob hg hm r hdb) ha hbase hfew hline hs hplain).imp fun σ H Q h => ?_
  obtain ⟨σd, S, B, F, φ, s, rs, o⟩ := h
  obtain ⟨ds, S1, e1, o⟩ := okE_bnd o
  obtain ⟨a, ob, rfl, hk, hc, hd⟩ := ht
  refine ⟨.inr (.inl ⟨rfl, ob, hk, hc, hd⟩), LA.then_ s rs e1 fun F1 φ1 H1 us s1 x1 rs1 dr l => ?_⟩
  have o2 := o.ext x1
  clear o
  have hq1 := hq F1
  cases e0 : idxC q ds with
  | none => rw [e0] at o2; exact o2.no
  | some j =>
  rw [e0] at o2
  obtain ⟨ps, z, zs, rfl, rfl, e2, e3⟩ := idxC_of e0
  cases hq1 with
  | tup st ra =>
    cases dr with
    | cons r1 r2 =>
      cases r2
      have ex := drS r1
      subst ex
      have ev := strsOf_of (F := F1) (φ := φ1) e2 ra.dra
      subst ev
      obtain ⟨h1, h2⟩ := idxS_ok e3
      exact ⟨_, zs, z, j, rfl, rfl, SqT.mono s1.le st, h1, h2, o2.fin0 rfl s1 (.int _) trivial⟩
/-! ### a text, walked -/
def charsP (z : Str) : List P := z.cps.toList.map fun c => P.str ⟨#[c]⟩
def srcS (d : D) (S : SH) : Option (Src × SH) := match d with
  | .p (.str z) => some (srcP (charsP z), S)
  | _ => none
def dItS (m : ME) : MI := fun σ S => bnd (m σ S) srcS
theorem rpA_chars {F : Hp} : ∀ l : List Nat, RpA K cl F (l.map fun c => P.str ⟨#[c]⟩) (l.map fun c => V.str ⟨#[c]⟩)
  | [] => .nil
  | c :: l => .cons (.str _) (rpA_chars l)
theorem pi_strD {tg e : Expr} {me : ME} (he : PE X e (LE X.K cl me)) : PI X tg e (LI X.K cl (dItS me)) := by
  refine ⟨fun pins s σ H R I h => (pi_str he).run pins s σ H R I ?_⟩
  obtain ⟨σd, S, B, F, φ, sm, rs, src, S1, e0, k⟩ := h
  obtain ⟨d, S2, e1, e2⟩ := bnd_of e0
  refine LE.then_ sm rs e1 fun F1 φ1 H1 x s1 x1 rs1 dr l => ?_
  unfold srcS at e2
  split at e2
  · rename_i z
    cases e2
    have ex := drS dr
    subst ex
    refine ⟨z, rfl, k F1 φ1 H1 _ s1 x1 (itD_seq (rpA_chars z.cps.toList) (fun H sf i y hy => ?_) (fun H sf i y hy v H2 hv => ?_) fun H sf i hi => ?_)⟩
    · have h1 := (List.getElem?_eq_some_iff.mp hy).1
      rw [List.length_map, Array.length_toList] at h1
      exact h1
    · obtain ⟨h1, c, h2, h3⟩ := hv
      refine ⟨h1, ?_⟩
      rw [List.getElem?_map, Array.getElem?_toList, h2] at hy
      rw [h3]
      exact (Option.some.inj hy)
    · rw [List.length_map, Array.length_toList] at hi
      exact hi
  · cases e2
/-! ### a text times a number -/
def repS (z : Str) (n : Nat) : Str := ⟨(List.replicate n z.cps).foldl (· ++ ·) #[]⟩
theorem rep_size (x : Array Nat) : ∀ (n : Nat) (acc : Array Nat), ((List.replicate n x).foldl (· ++ ·) acc).size = acc.size + n * x.size
  | 0, acc => by simp
  | n + 1, acc => by
    rw [List.replicate_succ, List.foldl_cons, rep_size x n, Array.size_append, Nat.succ_mul]
    omega
theorem repS_len (z : Str) (n : Nat) : (repS z n).length = n * z.length := by
  show ((List.replicate n z.cps).foldl (· ++ ·) #[]).size = n * z.cps.size
  rw [rep_size]
  simp
def rMulS : R2 := fun x y H Q => ∃ (z : Str) (n : Nat), x = .str z ∧ y = .int (n : Int) ∧ n ≤ 10000 ∧ z.length ≤ 100 ∧ Q (.str (repS z n)) H
theorem o_mulS : OpR X (binaryOp .Mult) rMulS := by
  intro pins s σ H x y v u Q I rx ry h
  obtain ⟨z, n, rfl, rfl, hn, z2, q⟩ := h
  obtain ⟨t, rfl⟩ := rx
  obtain ⟨t', rfl⟩ := ry
  have hm : z.length * n ≤ 1000000 := Nat.le_trans (Nat.mul_le_mul z2 hn) (by decide)
  have line : 1000000 ≤ sizeLine := by unfold sizeLine; decide
  have fin0 : ∀ (r : Str), r.cps = (repS z n).cps → r = repS z n := fun r e => by
    cases r
    exact congrArg Str.mk e
  refine PySem.P.mul_str (by rw [decide_eq_false (by omega), decide_eq_false (by omega)]; rfl) (fun h1 _ => ?_) (fun _ _ => ?_) ?_
  · have hd : ((2 : Int) ^ 63 - 1) / (10000 : Int) ≤ (2 ^ 63 - 1) / (n : Int) := Int.le_ediv_of_mul_le (by omega) (by
      have : ((2 : Int) ^ 63 - 1) / 10000 = 922337203685477 := by decide
      rw [this]
      have hq : (922337203685477 : Int) * (n : Int) ≤ 922337203685477 * 10000 := Int.mul_le_mul_of_nonneg_left (by omega) (by decide)
      omega)
    have hc : ((2 : Int) ^ 63 - 1) / 10000 = 922337203685477 := by decide
    omega
  · rw [Int.toNat_natCast]
    unfold Builtin.Str.tooLong
    exact decide_eq_false (by omega)
  · by_cases h1 : (n : Int) < 1
    · rw [if_pos h1]
      have e : n = 0 := by omega
      subst e
      refine ⟨by show (0 : Nat) ≤ _; exact Nat.zero_le _, .str (repS z 0), H, I.tok _, ⟨_, rfl⟩, q⟩
    · rw [if_neg h1]
      by_cases h2 : ((n : Int) == 1 || z.length == 0) = true
      · rw [if_pos h2]
        have e : z = repS z n := by
          refine fin0 z ?_
          rw [Bool.or_eq_true] at h2
          rcases h2 with h2 | h2
          · have e : n = 1 := by
              have := beq_iff_eq.mp h2
              omega
            subst e
            show z.cps = #[] ++ z.cps
            simp
          · have e0 : z.cps.size = 0 := beq_iff_eq.mp h2
            have e1 : z.cps = #[] := Array.eq_empty_of_size_eq_zero e0
            have e2 : (repS z n).cps.size = 0 := by
              have := repS_len z n
              have h : (repS z n).cps.size = n * z.cps.size := this
              rw [h, e0, Nat.mul_zero]
            rw [e1, Array.eq_empty_of_size_eq_zero e2]
        exact ⟨.str (repS z n), H, I, ⟨t, by rw [← e]⟩, q⟩
      · rw [if_neg h2]
        refine ⟨?_, .str (repS z n), H, I.tok _, ⟨_, rfl⟩, q⟩
        show (repS z n).length ≤ sizeLine
        rw [repS_len, Nat.mul_comm]
        exact Nat.le_trans hm line
/-- * of ints, or of a text and an int -/
def fMulS (d e : D) (S : SH) : Option (D × SH) := match d, e with
  | .p (.str z), .p (.int n) => if 0 ≤ n ∧ n ≤ 10000 ∧ z.length ≤ 100 then some (.p (.str (repS z n.toNat)), S) else none
  | _, _ => none
theorem d_mulS : OpD K cl fMulS rMulS := by
  intro S B F φ H d1 d2 x y Q s r1 r2 l1 l2 o
  unfold fMulS at o
  split at o
  · rename_i z n
    split at o
    · rename_i h
      refine ⟨z, n.toNat, drS r1, by rw [drI r2]; congr 1; omega, by omega, h.2.2, o.fin0 rfl s (.str _) trivial⟩
    · exact o.no
  · exact o.no
end
end Pv
/-! statements and defs that may raise -/
namespace Pv
open PySem PySem.Spec PyProof.Rows L2
inductive Fx where
  | fl (f : Fl) | ex (c : Nat) (σ : En) | tu (ds : List D)
inductive Rx where
  | ok (d : D) | ex (c : Nat)
abbrev MX := En → SH → Option (Fx × SH)
abbrev MEX := En → SH → Option (Rx × SH)
abbrev MFX := List D → SH → Option (Rx × SH)
/-- what is wished of a raise: the class by its place, the names, the heap -/
abbrev EXW := Nat → L2.St → Hp → Prop
section
variable (K : PySem.W.Frag) (cl : Nat → Addr)
def OkFX (W : EXW) (S : SH) (B : List Nat) (F : Hp) (φ : Nat → Addr) (H : Hp) (Z : Ends) (S1 : SH) : Fx → Prop
  | .fl f => OkF K cl S B F φ H Z S1 f
  | .ex c σd => ∀ F1 φ1 H1 σ, Sim K cl S1 B F1 φ1 H1 → Ext S F φ H S1 F1 φ1 H1 → RS K cl F1 φ1 S1.len σd σ → W c σ H1
  | .tu ds => ∀ F1 φ1 H1 vs p, Sim K cl S1 B F1 φ1 H1 → Ext S F φ H S1 F1 φ1 H1 → DRA K cl F1 φ1 ds vs → (∀ d ∈ ds, d.lt S1.len) → H1 p = none → Z.rt (.ref p) (upd H1 p (.tup vs))
def OkX (W : EXW) (S : SH) (B : List Nat) (F : Hp) (φ : Nat → Addr) (H : Hp) (r : Option (Fx × SH)) (Z : Ends) : Prop :=
  ∃ f S1, r = some (f, S1) ∧ OkFX K cl W S B F φ H Z S1 f
def OkRX (W : Nat → Hp → Prop) (S : SH) (B : List Nat) (F : Hp) (φ : Nat → Addr) (H : Hp) (Q : VK) (S1 : SH) : Rx → Prop
  | .ok d => ∀ F1 φ1 H1 u, Sim K cl S1 B F1 φ1 H1 → Ext S F φ H S1 F1 φ1 H1 → DR K cl F1 φ1 d u → d.lt S1.len → Q u H1
  | .ex c => ∀ F1 φ1 H1, Sim K cl S1 B F1 φ1 H1 → Ext S F φ H S1 F1 φ1 H1 → W c H1
def OkEX (W : Nat → Hp → Prop) (S : SH) (B : List Nat) (F : Hp) (φ : Nat → Addr) (H : Hp) (r : Option (Rx × SH)) (Q : VK) : Prop :=
  ∃ x S1, r = some (x, S1) ∧ OkRX K cl W S B F φ H Q S1 x
def LX (W : EXW) (m : MX) : TS := fun Z σ H => ∃ σd S B F φ, Sim K cl S B F φ H ∧ RS K cl F φ S.len σd σ ∧ OkX K cl W S B F φ H (m σd S) Z
def LEX (W : EXW) (m : MEX) : TE := fun σ H Q => ∃ σd S B F φ, Sim K cl S B F φ H ∧ RS K cl F φ S.len σd σ ∧ OkEX K cl (fun c H' => W c σ H') S B F φ H (m σd S) Q
/-- the wish as the hand layer has it -/
def wX (W : EXW) : WX := fun cls d σ H => ∃ c, cls = .ref (cl c) ∧ d = none ∧ W c σ H
/-- what a def that may raise promises, by its computation -/
def spX (m : MFX) : Sp := fun vs H Q E => ∃ ds S B F φ, Sim K cl S B F φ H ∧ DRA K cl F φ ds vs ∧ (∀ d ∈ ds, d.lt S.len) ∧ OkEX K cl (fun c H' => E (.ref (cl c)) none H') S B F φ H (m ds S) Q
end
section
variable {K : PySem.W.Frag} {cl : Nat → Addr} {S S1 S2 : SH} {B : List Nat} {F F1 H H1 : Hp} {φ φ1 : Nat → Addr}
theorem OkFX.ext {W : EXW} (e : Ext S F φ H S1 F1 φ1 H1) {f : Fx} {Z : Ends} (h : OkFX K cl W S B F φ H Z S2 f) : OkFX K cl W S1 B F1 φ1 H1 Z S2 f := by
  cases f with
  | fl f => exact OkF.ext e h
  | ex c σ => exact fun F2 φ2 H2 u s x => h F2 φ2 H2 u s (e.trans x)
  | tu ds => exact fun F2 φ2 H2 vs p s x => h F2 φ2 H2 vs p s (e.trans x)
theorem OkX.ext {W : EXW} (e : Ext S F φ H S1 F1 φ1 H1) {r : Option (Fx × SH)} {Z : Ends} (h : OkX K cl W S B F φ H r Z) : OkX K cl W S1 B F1 φ1 H1 r Z := by
  obtain ⟨f, S2, er, k⟩ := h
  exact ⟨f, S2, er, k.ext e⟩
theorem OkRX.ext {W : Nat → Hp → Prop} (e : Ext S F φ H S1 F1 φ1 H1) {x : Rx} {Q : VK} (h : OkRX K cl W S B F φ H Q S2 x) : OkRX K cl W S1 B F1 φ1 H1 Q S2 x := by
  cases x with
  | ok d => exact fun F2 φ2 H2 u s x => h F2 φ2 H2 u s (e.trans x)
  | ex c => exact fun F2 φ2 H2 s x => h F2 φ2 H2 s (e.trans x)
theorem OkEX.ext {W : Nat → Hp → Prop} (e : Ext S F φ H S1 F1 φ1 H1) {r : Option (Rx × SH)} {Q : VK} (h : OkEX K cl W S B F φ H r Q) : OkEX K cl W S1 B F1 φ1 H1 r Q := by
  obtain ⟨f, S2, er, k⟩ := h
  exact ⟨f, S2, er, k.ext e⟩
end
/-! the combinators -/
def xS (m : MS) : MX := fun σ S => bnd (m σ S) fun f S1 => some (.fl f, S1)
def xE (m : ME) : MEX := fun σ S => bnd (m σ S) fun d S1 => some (.ok d, S1)
def xSeq (a b : MX) : MX := fun σ S => bnd (a σ S) fun f S1 => match f with | .fl (.nx σ1) => b σ1 S1 | r => some (r, S1)
def xIf (t : MT) (a b : MX) : MX := fun σ S => bnd (t σ S) fun t S1 => if t = true then a σ S1 else b σ S1
def xRaise (c : Nat) : MX := fun σ S => some (.ex c σ, S)
def xSet (i : Nat) (a : MEX) : MX := fun σ S => bnd (a σ S) fun x S1 => match x with | .ok d => some (.fl (.nx (σ.set i (some d))), S1) | .ex c => some (.ex c σ, S1)
def xRet (a : MEX) : MX := fun σ S => bnd (a σ S) fun x S1 => match x with | .ok d => some (.fl (.ret d), S1) | .ex c => some (.ex c σ, S1)
def xDrop (a : MEX) : MX := fun σ S => bnd (a σ S) fun x S1 => match x with | .ok d => some (.fl (.nx σ), S1) | .ex c => some (.ex c σ, S1)
def xMeth (c : Nat) (nm : Str) (f : MFX) (o : ME) (a : MA) : MEX := fun σ S => bnd (o σ S) fun d S1 => match fldsOf d S1 with
  | some (c', fs) => if c' = c ∧ fs.lookup nm = none then bnd (a σ S1) fun xs S2 => f (d :: xs) S2 else none
  | none => none
def xCall (f : MFX) (a : MA) : MEX := fun σ S => bnd (a σ S) fun xs S1 => f xs S1
/-- values as they are behind the end of a def: data -/
def outDs (b : Nat) (S : SH) : List D → Option (List P)
  | [] => some []
  | d :: r => match outD b S d with
    | some (.p x) => (outDs b S r).map (x :: ·)
    | _ => none
def xRetT (a : MA) : MX := fun σ S => bnd (a σ S) fun ds S1 => if ds.length ≤ sizeLine then some (.tu ds, S1) else none
def frameX (S : SH) (r : Option (Fx × SH)) : Option (Rx × SH) := bnd r fun f S1 => match f with
  | .fl (.ret d) => match outD S.len S1 d with | some d' => some (.ok d', cutS S S1) | none => none
  | .fl (.nx _) => some (.ok (.p .non), cutS S S1)
  | .ex c _ => some (.ex c, cutS S S1)
  | .tu ds => match outDs S.len S1 ds with | some ps => some (.ok (.p (.tup ps)), cutS S S1) | none => none
  | _ => none
def xFn (k n : Nat) (body : MX) : MFX := fun ds S => if ds.length = k then frameX S (body (startD n ds) ⟨S.len, S.os⟩) else none
def dTry (cs : List Nat) (mb : MX) (ms : MS) : MS := fun σ S => bnd (mb σ S) fun f S1 => match f with
  | .fl f => some (f, S1)
  | .ex c σ1 => if cs.contains c = true then ms σ1 S1 else none
  | .tu _ => none
def forX (ws : List Nat) (fin : SH → Bool) (g : MG) (body : MX) : List (SH → Option D) → MX
  | [], σ, S => if fin S = true then some (.fl (.nx σ), S) else none
  | t :: ts, σ, S => match t S with
    | some d => bnd (g d σ S) fun σ1 S1 => bnd (body σ1 S1) fun f S2 => match f with
      | .fl (.nx σ2) => forX ws fin g body ts (wipeD ws σ2) S2
      | .fl (.ct σ2) => forX ws fin g body ts (wipeD ws σ2) S2
      | .fl (.brk σ2) => some (.fl (.nx (wipeD ws σ2)), S2)
      | .fl (.ret d) => some (.fl (.ret d), S2)
      | .ex c σ2 => some (.ex c σ2, S2)
      | .tu ds => some (.tu ds, S2)
    | none => none
def xFor (ws : List Nat) (m : MI) (g : MG) (body : MX) : MX := fun σ S => bnd (m σ S) fun src S1 => forX ws src.fin g body src.items (wipeD ws σ) S1
section
variable {K : PySem.W.Frag} {cl : Nat → Addr}
theorem okX_bnd {α : Type} {W : EXW} {S : SH} {B : List Nat} {F : Hp} {φ : Nat → Addr} {H : Hp} {r : Option (α × SH)} {f : α → SH → Option (Fx × SH)} {Z : Ends} (h : OkX K cl W S B F φ H (bnd r f) Z) : ∃ a S1, r = some (a, S1) ∧ OkX K cl W S B F φ H (f a S1) Z := by
  obtain ⟨x, S1, e, k⟩ := h
  obtain ⟨a, S2, e1, e2⟩ := bnd_of e
  exact ⟨a, S2, e1, x, S1, e2, k⟩
theorem okEX_bnd {α : Type} {W : Nat → Hp → Prop} {S : SH} {B : List Nat} {F : Hp} {φ : Nat → Addr} {H : Hp} {r : Option (α × SH)} {f : α → SH → Option (Rx × SH)} {Q : VK} (h : OkEX K cl W S B F φ H (bnd r f) Q) : ∃ a S1, r = some (a, S1) ∧ OkEX K cl W S B F φ H (f a S1) Q := by
  obtain ⟨x, S1, e, k⟩ := h
  obtain ⟨a, S2, e1, e2⟩ := bnd_of e
  exact ⟨a, S2, e1, x, S1, e2, k⟩
end
section
variable {X : Cx} {cl : Nat → Addr} {W : EXW} {st : Stmt} {rest : List Stmt} {m n : MX} {ms : MS} {mx : MEX} {me : ME} {mt : MT} {e : Expr} {pos : Pos}
theorem x_of {t : TS} (h : PS X st t) (hi : ∀ Z σ H, LX X.K cl W m Z σ H → t Z σ H) : PS X st (LX X.K cl W m) := h.imp hi
theorem lx_lift {Z : Ends} {σ : L2.St} {H : Hp} (q : LX X.K cl W (xS ms) Z σ H) : LS X.K cl ms Z σ H := by
  obtain ⟨σd, S, B, F, φ, s, rs, o⟩ := q
  obtain ⟨f, S1, e, o⟩ := okX_bnd o
  obtain ⟨_, _, z, k⟩ := o
  cases z
  exact ⟨σd, S, B, F, φ, s, rs, f, S1, e, k⟩
theorem x_lift (h : PS X st (LS X.K cl ms)) : PS X st (LX X.K cl W (xS ms)) := h.imp fun _ _ _ q => lx_lift q
theorem xs_lift (h : PSs X rest (LS X.K cl ms)) : PSs X rest (LX X.K cl W (xS ms)) := h.imp fun _ _ _ q => lx_lift q
theorem xe_lift (h : PE X e (LE X.K cl me)) : PE X e (LEX X.K cl W (xE me)) := h.imp fun σ H Q q => by
  obtain ⟨σd, S, B, F, φ, s, rs, o⟩ := q
  obtain ⟨d, S1, e, o⟩ := okEX_bnd o
  obtain ⟨_, _, z, k⟩ := o
  cases z
  exact ⟨σd, S, B, F, φ, s, rs, d, S1, e, k⟩
theorem x_one (h : PS X st (LX X.K cl W m)) : PSs X [st] (LX X.K cl W m) := pss_one h
theorem x_cons (h1 : PS X st (LX X.K cl W m)) (h2 : PSs X rest (LX X.K cl W n)) : PSs X (st :: rest) (LX X.K cl W (xSeq m n)) := by
  refine (pss_cons h1 h2).imp fun Z σ H q => ?_
  obtain ⟨σd, S, B, F, φ, s, rs, o⟩ := q
  obtain ⟨f, S1, e, o⟩ := okX_bnd o
  refine ⟨σd, S, B, F, φ, s, rs, f, S1, e, ?_⟩
  cases f with
  | ex c σ1 => obtain ⟨_, _, z, k⟩ := o; cases z; exact k
  | tu ds => obtain ⟨_, _, z, k⟩ := o; cases z; exact k
  | fl f =>
    cases f with
    | nx σ1 => exact fun F1 φ1 H1 σ' s1 x1 rs1 => ⟨σ1, S1, B, F1, φ1, s1, rs1, o.ext x1⟩
    | ret d => obtain ⟨_, _, z, k⟩ := o; cases z; exact k
    | brk d => obtain ⟨_, _, z, k⟩ := o; cases z; exact k
    | ct d => obtain ⟨_, _, z, k⟩ := o; cases z; exact k
theorem x_if {c : Expr} {a b : List Stmt} (hc : PT X c (LT X.K cl mt)) (ha : PSs X a (LX X.K cl W m)) (hb : PSs X b (LX X.K cl W n)) : PS X (.If c a b pos) (LX X.K cl W (xIf mt m n)) := by
  refine (ps_if hc ha hb).imp fun Z σ H q => ?_
  obtain ⟨σd, S, B, F, φ, s, rs, o⟩ := q
  obtain ⟨t, S1, e, o⟩ := okX_bnd o
  refine LT.then_ s rs e fun F1 φ1 H1 s1 x1 rs1 => ?_
  split
  · rename_i ht; rw [if_pos ht] at o; exact ⟨σd, S1, B, F1, φ1, s1, rs1, o.ext x1⟩
  · rename_i ht; rw [if_neg ht] at o; exact ⟨σd, S1, B, F1, φ1, s1, rs1, o.ext x1⟩
theorem x_raise {C : Addr} {bmB : List Value} {Bn newId initId : String} {x msg : Str} {c j : Nat} {p p2 pos' : Pos} (hc : X.calm = true) (tk : Takes X (wX cl W)) (F : ExcBaseFacts Bn newId initId bmB) (q : PySem.W.excIn X.K C bmB newId = true) (gC : X.mg x = some (.ref C)) (kC : PySem.W.keepIn X.K (.ref C) = true) (r : Raises X (.ref C)) (hg : Gl X x)
    (hcl : C = cl c := by rfl) (hdb : (x == ("__debug__" : Str)) = false := by decide) : PS X (.Raise (some (.Call (.Name x p) [.Constant (.str msg) j p2] [] pos')) none pos) (LX X.K cl W (xRaise c)) := by
  refine (ps_raise hc tk (pmk_own F q gC kC r hg hdb)).imp fun Z σ H q => ?_
  obtain ⟨σd, S, B, F, φ, s, rs, f, S1, e, k⟩ := q
  cases e
  exact ⟨c, by rw [hcl], rfl, k F φ H σ s (.refl s) rs⟩
theorem x_set {i : Nat} {x : Str} {pos' : Pos} (hN : X.N.Nodup) (hi : X.N[i]? = some x) (hx : Loc X.env.scope x) (he : PE X e (LEX X.K cl W mx)) (hs : swapsWith e (some (.Name x pos')) pos.line X.env = pure false := by rfl) (hf : X.fn x = true ∨ X.env.scope.names.lookup x = some .local := by first | exact .inl rfl | exact .inr rfl | assumption) :
    PS X (.Assign [.Name x pos'] e pos) (LX X.K cl W (xSet i mx)) := by
  refine (ps_set hN hi hx he hs hf).imp fun Z σ H q => ?_
  obtain ⟨σd, S, B, F, φ, s, rs, o⟩ := q
  obtain ⟨x, S1, e, o⟩ := okX_bnd o
  refine ⟨σd, S, B, F, φ, s, rs, x, S1, e, ?_⟩
  cases x with
  | ok d => obtain ⟨_, _, z, k⟩ := o; cases z; exact fun F1 φ1 H1 u s1 x1 dr l => k F1 φ1 H1 _ s1 x1 ((x1.rs rs).set i dr l)
  | ex c => obtain ⟨_, _, z, k⟩ := o; cases z; exact fun F1 φ1 H1 s1 x1 => k F1 φ1 H1 σ s1 x1 (x1.rs rs)
theorem x_ret (he : PE X e (LEX X.K cl W mx)) : PS X (.Return (some e) pos) (LX X.K cl W (xRet mx)) := by
  refine (ps_ret he).imp fun Z σ H q => ?_
  obtain ⟨σd, S, B, F, φ, s, rs, o⟩ := q
  obtain ⟨x, S1, e, o⟩ := okX_bnd o
  refine ⟨σd, S, B, F, φ, s, rs, x, S1, e, ?_⟩
  cases x with
  | ok d => obtain ⟨_, _, z, k⟩ := o; cases z; exact k
  | ex c => obtain ⟨_, _, z, k⟩ := o; cases z; exact fun F1 φ1 H1 s1 x1 => k F1 φ1 H1 σ s1 x1 (x1.rs rs)
theorem x_drop (he : PE X e (LEX X.K cl W mx)) (hs : swapsWith e none pos.line X.env = pure false := by rfl) : PS X (.Expr e pos) (LX X.K cl W (xDrop mx)) := by
  refine (ps_expr he hs).imp fun Z σ H q => ?_
  obtain ⟨σd, S, B, F, φ, s, rs, o⟩ := q
  obtain ⟨x, S1, e, o⟩ := okX_bnd o
  refine ⟨σd, S, B, F, φ, s, rs, x, S1, e, ?_⟩
  cases x with
  | ok d => obtain ⟨_, _, z, k⟩ := o; cases z; exact fun F1 φ1 H1 u s1 x1 dr l => k F1 φ1 H1 σ s1 x1 (x1.rs rs)
  | ex c => obtain ⟨_, _, z, k⟩ := o; cases z; exact fun F1 φ1 H1 s1 x1 => k F1 φ1 H1 σ s1 x1 (x1.rs rs)
end
section
variable {X : Cx} {cl : Nat → Addr} {W : EXW} {tg iter : Expr} {body : List Stmt} {pos : Pos} {m : MI} {g : MG} {vs : List Nat} {mb : MX}
theorem x_for {ws : List Nat} (hp : PassesOwn (model X.prog X.w) X.A X.env X.xe) (hc : X.calm = true) (hi : PI X tg iter (LI X.K cl m)) (hg : PG X tg (LG X.K cl vs g)) (hb : PSs X body (LX X.K cl W mb))
    (hs : ∀ x, foldedSetIterable iter X.env x = pure x := by intro _; rfl) : PS X (.For tg iter body [] pos) (LX X.K cl W (xFor ws m g mb)) := by
  refine (ps_for hp hc hi hg hb hs).imp fun Z σ H q => ?_
  obtain ⟨σd, S, B, F, φ, s, rs, o⟩ := q
  obtain ⟨src, S1, e1, o1⟩ := okX_bnd o
  refine ⟨σd, S, B, F, φ, s, rs, src, S1, e1, fun F1 φ1 H1 J s1 x1 it => ?_⟩
  refine ⟨fun i mm σ' H' => mm = src.items.length - i ∧ i ≤ src.items.length ∧ ∃ σd' S' F' φ', Sim X.K cl S' B F' φ' H' ∧ Ext S1 F1 φ1 H1 S' F' φ' H' ∧ RS X.K cl F' φ' S'.len σd' σ' ∧ OkX X.K cl W S' B F' φ' H' (forX ws src.fin g mb (src.items.drop i) σd' S') Z,
    ⟨src.items.length, by simp, Nat.zero_le _, wipeD ws σd, S1, F1, φ1, s1, .refl s1, (x1.rs rs).wipe ws, by rw [List.drop_zero]; exact o1.ext x1⟩, ?_⟩
  rintro i mm σ' H' ⟨rfl, hi, σd', S', F', φ', s', x', rs', o'⟩
  obtain ⟨turn, stop⟩ := it S' B F' φ' H' s' x'.fz x'.len x'.phi i
  by_cases hlt : i < src.items.length
  · rw [List.drop_eq_getElem_cons hlt] at o'
    unfold forX at o'
    cases ht : src.items[i] S' with
    | none => rw [ht] at o'; obtain ⟨_, _, z, _⟩ := o'; cases z
    | some d =>
      rw [ht] at o'
      dsimp only at o'
      obtain ⟨ld, go, yld⟩ := turn _ d (List.getElem?_eq_getElem hlt) ht
      refine .inr ⟨go, fun σ3 H3 => ∃ σd3 S3 F3 φ3, Sim X.K cl S3 B F3 φ3 H3 ∧ Ext S1 F1 φ1 H1 S3 F3 φ3 H3 ∧ RS X.K cl F3 φ3 S3.len σd3 σ3 ∧ OkX X.K cl W S3 B F3 φ3 H3 (forX ws src.fin g mb (src.items.drop (i + 1)) σd3 S3) Z, fun σ3 H3 h => ⟨src.items.length - (i + 1), by omega, rfl, hlt, h⟩, fun x H2 y => ?_⟩
      obtain ⟨F2, s2, x2, dr⟩ := yld x H2 y
      have o2 := o'.ext x2
      obtain ⟨σ3, S3, e3, o3⟩ := okX_bnd o2
      refine ⟨d, σd', S', B, F2, φ', s2, x2.rs rs', dr, ld, σ3, S3, e3, fun F4 φ4 H4 σ4 s4 x4 rs4 _ => ?_⟩
      obtain ⟨f, S5, e5, o5⟩ := okX_bnd (o3.ext x4)
      refine ⟨σ3, S3, B, F4, φ4, s4, rs4, f, S5, e5, ?_⟩
      cases f with
      | ex c σ5 => obtain ⟨_, _, z, k⟩ := o5; cases z; exact k
      | tu ds => obtain ⟨_, _, z, k⟩ := o5; cases z; exact k
      | fl f =>
        cases f with
        | nx σ5 => exact fun F6 φ6 H6 σ6 s6 x6 rs6 => ⟨wipeD ws σ5, S5, F6, φ6, s6, x'.trans (x2.trans (x4.trans x6)), rs6.wipe ws, o5.ext x6⟩
        | ct σ5 => exact fun F6 φ6 H6 σ6 s6 x6 rs6 => ⟨wipeD ws σ5, S5, F6, φ6, s6, x'.trans (x2.trans (x4.trans x6)), rs6.wipe ws, o5.ext x6⟩
        | brk σ5 => obtain ⟨_, _, z, k⟩ := o5; cases z; exact fun F6 φ6 H6 σ6 s6 x6 rs6 => k F6 φ6 H6 σ6 s6 x6 (rs6.wipe ws)
        | ret d => obtain ⟨_, _, z, k⟩ := o5; cases z; exact k
  · have hd : src.items.drop i = [] := List.drop_eq_nil_iff.mpr (by omega)
    rw [hd] at o'
    unfold forX at o'
    by_cases hf : src.fin S' = true
    · rw [if_pos hf] at o'
      obtain ⟨_, _, z, k⟩ := o'
      cases z
      exact .inl ⟨stop (by omega) hf, k F' φ' H' σ' s' (.refl s') rs'⟩
    · rw [if_neg hf] at o'; obtain ⟨_, _, z, _⟩ := o'; cases z
end
/-! calls -/
section
variable {X : Cx} {cl : Nat → Addr} {W : EXW} {es : List Expr} {e o : Expr} {pos p apos : Pos} {mr : MA} {mo : ME} {k : Nat} {f C : Addr} {fd : FuncData} {ps : List Str} {fx : MFX} {x nm : Str}
abbrev eX (cl : Nat → Addr) (W : EXW) : L2.St → XK := fun σ cls d H => wX cl W cls d σ H
theorem xe_call (tk : Takes X (wX cl W)) (F : FnOk X.prog X.w X.K X.mg X.base (L2.CX X.prog X.w) k f fd ps (spX X.K cl fx)) (hr : Room k X.A) (hg : Gl X x) (hm : X.mg x = some (.ref f)) (hk : PySem.W.keepIn X.K (.ref f) = true) (hb : Binds X.K fd ps [])
    (ha : PA X (e :: es) (LA X.K cl mr)) (hdb : (x == ("__debug__" : Str)) = false := by decide) (he : starEach (e :: es) X.env = (false, eval e X.env) :: starEach es X.env := by rfl) (hpl : (backTo pos (starEach es X.env)).any (·.1) = false := by rfl) :
    PE X (.Call (.Name x p) (e :: es) [] pos) (LEX X.K cl W (xCall fx mr)) := by
  refine (pe_callS (E := eX cl W) F hr hg hm hk hb (fun σ => passAt tk σ) ha hdb he hpl).imp fun σ H Q q => ?_
  obtain ⟨σd, S, B, F, φ, s, rs, o⟩ := q
  obtain ⟨ds, S1, e, o⟩ := okEX_bnd o
  refine LA.then_ s rs e fun F1 φ1 H1 vs s1 x1 rs1 dr l => ?_
  obtain ⟨y, S2, e2, k⟩ := o.ext x1
  refine ⟨ds, S1, B, F1, φ1, s1, dr, l, y, S2, e2, ?_⟩
  cases y with
  | ok d => exact k
  | ex c => exact fun F3 φ3 H3 s3 x3 => ⟨c, rfl, rfl, k F3 φ3 H3 s3 x3⟩
def tMethX (C : Addr) (m : Str) (sp : Sp) (E : L2.St → XK) (ta : TE) (t : TA) : TE := fun σ => tMeth C m sp [] (E σ) ta t σ
theorem pe_methX {sp : Sp} {E : L2.St → XK} {CX : CXT} {ta : TE} {t : TA} {pl : Sem Bool} (ho : PE X o ta) (hC : Cls X.K C) (hm : Meth X.K C nm f) (F : FnOk X.prog X.w X.K X.mg X.base CX k f fd ps sp) (hr : Room k X.A) (hb : Binds X.K fd ps []) (hx : ∀ σ, PassesAt CX X σ (E σ)) (ha : PA X (e :: es) t)
    (h1 : starEach (e :: es) X.env = (false, eval e X.env) :: starEach es X.env := by rfl) (h2 : (backTo pos (starEach es X.env)).any (·.1) = false := by rfl)
    (h3 : eval (.Call (.Attribute o nm apos) (e :: es) [] pos) X.env = (do
      let w ← eval o X.env
      standAt apos.atName
      let (g, fst) ← holding [w] (getMethod w nm pl)
      callWith pos g fst (backTo pos (starEach (e :: es) X.env)) (backToKw pos (keywordEach [] X.env))) := by rfl) :
    PE X (.Call (.Attribute o nm apos) (e :: es) [] pos) (tMethX C nm sp E ta t) :=
  ⟨fun pn t0 σ H Q I q => PySem.W.methodCall_KW (pl := pl) (thn (ho.run pn t0 σ H _ I q) fun v t1 ⟨y, G, J, ry, p1, p2, p3, hy, h4, h5, h6⟩ => by
    subst hy
    obtain rfl : v = Value.ref p1 := ry
    exact getmeth_ok J h4 hC hm h5 (PySem.W.callWith_K (first := [.ref p1]) (h₀ := X.base) I.ok.mod.kin hm.kp (thn (ha.run pos pn t1 σ G _ J h6) fun ws t2 ⟨zs, G2, J2, rz, h7⟩ => ⟨J2.kIn, run_fnS (us := .ref p1 :: ws) (vs := .ref p1 :: zs) F hr hb (hx σ) J2 (.cons rfl rz) (by have h8 : sp (V.ref p1 :: (zs ++ [])) G2 Q (E σ) := h7; rw [List.append_nil] at h8; exact h8)⟩) h1 h2)) h3⟩
theorem pe_methX0 {sp : Sp} {E : L2.St → XK} {CX : CXT} {ta : TE} {pl : Sem Bool} (ho : PE X o ta) (hC : Cls X.K C) (hm : Meth X.K C nm f) (F : FnOk X.prog X.w X.K X.mg X.base CX k f fd ps sp) (hr : Room k X.A) (hb : Binds X.K fd ps []) (hx : ∀ σ, PassesAt CX X σ (E σ))
    (h3 : eval (.Call (.Attribute o nm apos) [] [] pos) X.env = (do
      let w ← eval o X.env
      standAt apos.atName
      let (g, fst) ← holding [w] (getMethod w nm pl)
      callWith pos g fst (backTo pos (starEach [] X.env)) (backToKw pos (keywordEach [] X.env))) := by rfl) :
    PE X (.Call (.Attribute o nm apos) [] [] pos) (tMethX C nm sp E ta tNil) :=
  ⟨fun pn t0 σ H Q I q => PySem.W.methodCall_KW (pl := pl) (thn (ho.run pn t0 σ H _ I q) fun v t1 ⟨y, G, J, ry, p1, p2, p3, hy, h4, h5, h6⟩ => by
    subst hy
    obtain rfl : v = Value.ref p1 := ry
    exact getmeth_ok J h4 hC hm h5 (PySem.W.callWith_K0 (first := [.ref p1]) J.kIn hm.kp (run_fnS (us := [.ref p1]) (vs := [.ref p1]) F hr hb (hx σ) J (.cons rfl .nil) h6))) h3⟩
theorem ex_meth {c : Nat} {σ : L2.St} {H : Hp} {Q : VK} (hx : C = cl c) (q : LEX X.K cl W (xMeth c nm fx mo mr) σ H Q) : tMethX C nm (spX X.K cl fx) (eX cl W) (LE X.K cl mo) (LA X.K cl mr) σ H Q := by
  obtain ⟨σd, S, B, F, φ, s, rs, o⟩ := q
  obtain ⟨d, S1, e, o⟩ := okEX_bnd o
  refine LE.then_ s rs e fun F1 φ1 H1 x s1 x1 rs1 dr1 l1 => ?_
  cases e1 : fldsOf d S1 with
  | none => rw [e1] at o; obtain ⟨_, _, z, _⟩ := o; cases z
  | some p =>
    obtain ⟨c', fs⟩ := p
    rw [e1] at o
    obtain ⟨a, dx, gs, rfl, ha, rf, lf⟩ := flds_ok s1 e1 dr1
    dsimp only at o
    by_cases hc : c' = c ∧ fs.lookup nm = none
    · rw [if_pos hc] at o
      obtain ⟨hc1, hn⟩ := hc
      obtain ⟨xs, S2, em, o2⟩ := okEX_bnd o
      refine ⟨a, dx, gs, rfl, by rw [hx, ← hc1]; exact ha, (lookup_drk rf).1 hn, ?_⟩
      refine LA.then_ s1 rs1 em fun F2 φ2 H2 vs s2 x2 rs2 dr2 l2 => ?_
      rw [List.append_nil]
      obtain ⟨y, S3, e3, k⟩ := o2.ext (x1.trans x2)
      refine ⟨d :: xs, S2, B, F2, φ2, s2, .cons (x2.dr l1 dr1) dr2, fun z hz => ?_, y, S3, e3, ?_⟩
      · rcases List.mem_cons.mp hz with rfl | hz
        · exact x2.lt l1
        · exact l2 z hz
      · cases y with
        | ok d => exact k
        | ex c => exact fun F3 φ3 H3 s3 x3 => ⟨c, rfl, rfl, k F3 φ3 H3 s3 x3⟩
    · rw [if_neg hc] at o; obtain ⟨_, _, z, _⟩ := o; cases z
theorem xe_meth {c : Nat} {pl : Sem Bool} (tk : Takes X (wX cl W)) (he : PE X o (LE X.K cl mo)) (cc : Cls X.K C) (hm : Meth X.K C nm f) (F : FnOk X.prog X.w X.K X.mg X.base (L2.CX X.prog X.w) k f fd ps (spX X.K cl fx)) (hr : Room k X.A) (hb : Binds X.K fd ps []) (ha : PA X (e :: es) (LA X.K cl mr)) (hcl : C = cl c := by rfl)
    (hst : starEach (e :: es) X.env = (false, eval e X.env) :: starEach es X.env := by rfl) (hpl : (backTo pos (starEach es X.env)).any (·.1) = false := by rfl)
    (ht : eval (.Call (.Attribute o nm apos) (e :: es) [] pos) X.env = (do
      let ov ← eval o X.env
      standAt apos.atName
      let (f, first) ← holding [ov] (getMethod ov nm pl)
      callWith pos f first (backTo pos (starEach (e :: es) X.env)) (backToKw pos (keywordEach [] X.env))) := by rfl) :
    PE X (.Call (.Attribute o nm apos) (e :: es) [] pos) (LEX X.K cl W (xMeth c nm fx mo mr)) :=
  (pe_methX (pl := pl) he cc hm F hr hb (fun σ => passAt tk σ) ha hst hpl ht).imp fun _ _ _ q => ex_meth hcl q
theorem xe_meth0 {c : Nat} {pl : Sem Bool} (tk : Takes X (wX cl W)) (he : PE X o (LE X.K cl mo)) (cc : Cls X.K C) (hm : Meth X.K C nm f) (F : FnOk X.prog X.w X.K X.mg X.base (L2.CX X.prog X.w) k f fd ps (spX X.K cl fx)) (hr : Room k X.A) (hb : Binds X.K fd ps []) (hcl : C = cl c := by rfl)
    (ht : eval (.Call (.Attribute o nm apos) [] [] pos) X.env = (do
      let ov ← eval o X.env
      standAt apos.atName
      let (f, first) ← holding [ov] (getMethod ov nm pl)
      callWith pos f first (backTo pos (starEach [] X.env)) (backToKw pos (keywordEach [] X.env))) := by rfl) :
    PE X (.Call (.Attribute o nm apos) [] [] pos) (LEX X.K cl W (xMeth c nm fx mo dNil)) := by
  refine (pe_methX0 (pl := pl) he cc hm F hr hb (fun σ => passAt tk σ) ht).imp fun σ H Q q => ?_
  have z := ex_meth hcl q
  unfold tMethX tMeth at z ⊢
  obtain ⟨σd, S, B, F, φ, s, rs, d, S1, e, k⟩ := z
  refine ⟨σd, S, B, F, φ, s, rs, d, S1, e, fun F1 φ1 H1 u s1 x1 dr l => ?_⟩
  obtain ⟨a, dx, fs, h1, h2, h3, h4⟩ := k F1 φ1 H1 u s1 x1 dr l
  refine ⟨a, dx, fs, h1, h2, h3, ?_⟩
  obtain ⟨σd', S', B', F', φ', s', rs', d', S1', e', k'⟩ := h4
  cases e'
  exact k' F' φ' H1 [] s' (.refl s') .nil fun _ z => absurd z (by simp)
end
/-! try -/
section
variable {X : Cx} {cl : Nat → Addr} {x : Str} {c : Value} {body suite : List Stmt} {b₀ : Stmt} {np pos pos' : Pos} {mb : MX} {ms : MS}
theorem s_try {cs : List Nat} {Wout : WX} (hs : X.stack = X.env :: X.outer) (hf : X.env.frame = some X.env.locals) (hc : Names X x c) (tk : Takes X Wout) (hx : ∀ i, cs.contains i = true → PySem.W.exmOne X.K (.ref (cl i)) c = some true)
    (hb : ∀ (W : EXW) (pn : List (Addr × Obj)) (xe : Value → Shared → Prop), Takes (X.tr pn xe) (wX cl W) → PassesOwn (model X.prog X.w) X.A X.env xe → PSs (X.tr pn xe) body (LX X.K cl W mb))
    (hsu : ∀ (a : Addr) (oe : Obj) (pn : List (Addr × Obj)), PSs (X.suite a ((a, oe) :: pn)) (b₀ :: suite) (LS X.K cl ms)) :
    PS X (.Try body [.ExceptHandler (some (.Name x np)) none (b₀ :: suite) pos'] [] [] pos) (LS X.K cl (dTry cs mb ms)) := by
  refine (ps_try_only (tb := fun W' => LX X.K cl (fun i σ H => W' (.ref (cl i)) none σ H) mb) (ts := fun _ _ _ => LS X.K cl ms) hs hf hc tk (fun W' pn xe tk' hp => hb _ pn xe (tk'.imp fun cls d σ H ⟨i, e1, e2, w⟩ => by rw [e1, e2]; exact w) hp) (fun a oe _ _ pn _ _ => hsu a oe pn)).imp fun Z σ H q => ?_
  obtain ⟨σd, S, B, F, φ, s, rs, o⟩ := q
  obtain ⟨f, S1, e, o⟩ := okS_bnd o
  refine ⟨σd, S, B, F, φ, s, rs, f, S1, e, ?_⟩
  cases f with
  | fl f => obtain ⟨_, _, z, k⟩ := o; cases z; exact k
  | tu ds => obtain ⟨_, _, z, _⟩ := o; cases z
  | ex i σ1 =>
    intro F1 φ1 H1 σ' s1 x1 rs1
    dsimp only at o
    by_cases hi : cs.contains i = true
    · rw [if_pos hi] at o
      exact ⟨true, hx i hi, fun _ a _ => ⟨σ1, S1, B, F1, φ1, s1, rs1, o.ext x1⟩, fun z => absurd z (by decide)⟩
    · rw [if_neg hi] at o; obtain ⟨_, _, z, _⟩ := o; cases z
end
/-! defs -/
theorem fnX_len {K : PySem.W.Frag} {cl : Nat → Addr} {W : Nat → Hp → Prop} {S : SH} {B : List Nat} {F : Hp} {φ : Nat → Addr} {H : Hp} {Q : VK} {ds : List D} {k : Nat} {r : Option (Rx × SH)} (h : OkEX K cl W S B F φ H (if ds.length = k then r else none) Q) : ds.length = k ∧ OkEX K cl W S B F φ H r Q := by
  by_cases e : ds.length = k
  · rw [if_pos e] at h; exact ⟨e, h⟩
  · rw [if_neg e] at h; obtain ⟨_, _, z, _⟩ := h; cases z
theorem spX_len {K : PySem.W.Frag} {cl : Nat → Addr} {k n : Nat} {m : MX} {vs : List V} {H : Hp} {Q : VK} {E : XK} (h : spX K cl (xFn k n m) vs H Q E) : vs.length = k := by
  obtain ⟨ds, S, B, F, φ, s, dr, l, o⟩ := h
  rw [← dr.length]
  exact (fnX_len o).1
theorem outDs_ok {K : PySem.W.Frag} {cl : Nat → Addr} {S S1 : SH} {B : List Nat} {F : Hp} {φ : Nat → Addr} {H : Hp} (s : Sim K cl S1 (S.len :: B) F φ H) (h : S.len ≤ S1.len) : ∀ {es : List D} {ps : List P} {vs : List V}, outDs S.len S1 es = some ps → DRA K cl F φ es vs → (∀ d ∈ es, d.lt S1.len) → RpA K cl (addF S.len S1.len F H φ) ps vs
  | [], ps, vs, e, dr, _ => by cases dr; cases e; exact .nil
  | d :: es, ps, vs, e, dr, l => by
    cases dr with
    | cons r t =>
    unfold outDs at e
    cases ed : outD S.len S1 d with
    | none => rw [ed] at e; cases e
    | some d' =>
      rw [ed] at e
      cases d' with
      | ref n => cases e
      | p x =>
        dsimp only at e
        cases er : outDs S.len S1 es with
        | none => rw [er] at e; cases e
        | some qs =>
          rw [er] at e
          cases e
          exact .cons (outD_ok s h ed r (l d (by simp))).1 (outDs_ok s h er t fun y hy => l y (by simp [hy]))
theorem tu_end {K : PySem.W.Frag} {cl : Nat → Addr} {S S1 : SH} {B : List Nat} {F : Hp} {φ : Nat → Addr} {H : Hp} {es : List D} {ps : List P} {Q : VK} {W : Nat → Hp → Prop} (s : Sim K cl S B F φ H) (ed : outDs S.len S1 es = some ps) (k : OkRX K cl W S B F φ H Q (cutS S S1) (.ok (.p (.tup ps)))) :
    ∀ F1 φ1 H1 vs p, Sim K cl S1 (S.len :: B) F1 φ1 H1 → Ext ⟨S.len, S.os⟩ F φ H S1 F1 φ1 H1 → DRA K cl F1 φ1 es vs → (∀ d ∈ es, d.lt S1.len) → H1 p = none → Q (.ref p) (upd H1 p (.tup vs)) := by
  intro F1 φ1 H1 vs p s1 x1 dr l hp
  obtain ⟨s2, x2⟩ := s1.frz (o := .tup vs) (H' := upd H1 p (.tup vs)) (Same.new (Same.refl _) hp) hp (upd_same ..)
  have x := x1.trans x2
  have ra := outDs_ok s2 x.len ed (x2.dra l dr) l
  exact k _ _ _ _ (Sim.end_ s s2 x.len) (Ext.end_ s2 x) (Rp.tup (.inl (.inl (addF_le s2 _ p _ (upd_same ..)))) ra) trivial
theorem fx_body_g {K : PySem.W.Frag} {cl : Nat → Addr} {N : List Str} {k : Nat} {m : MX} {vs : List V} {H : Hp} {Q : VK} {W : Nat → Hp → Prop} (h : ∃ ds S B F φ, Sim K cl S B F φ H ∧ DRA K cl F φ ds vs ∧ (∀ d ∈ ds, d.lt S.len) ∧ OkEX K cl W S B F φ H (xFn k N.length m ds S) Q) : LX K cl (fun c _ H' => W c H') m { nx := fun _ H' => Q .non H', rt := Q } (L2.start N vs) H := by
  obtain ⟨ds, S, B, F, φ, s, dr, l, o⟩ := h
  have o := (fnX_len o).2
  obtain ⟨f, S1, e, o⟩ := okEX_bnd o
  refine ⟨_, ⟨S.len, S.os⟩, S.len :: B, F, φ, s.begin, rs_start dr l, f, S1, e, ?_⟩
  cases f with
  | ex c σ1 =>
    obtain ⟨_, _, z, k⟩ := o; cases z
    exact fun F1 φ1 H1 σ' s1 x1 rs1 => k _ _ _ (Sim.end_ s s1 x1.len) (Ext.end_ s1 x1)
  | tu es =>
    dsimp only at o
    cases ed : outDs S.len S1 es with
    | none => rw [ed] at o; obtain ⟨_, _, z, _⟩ := o; cases z
    | some ps =>
      rw [ed] at o
      obtain ⟨_, _, z, k⟩ := o; cases z
      exact tu_end s ed k
  | fl f =>
    cases f with
    | nx σ1 =>
      obtain ⟨_, _, z, k⟩ := o; cases z
      exact fun F1 φ1 H1 σ' s1 x1 rs1 => k _ _ _ _ (Sim.end_ s s1 x1.len) (Ext.end_ s1 x1) .non trivial
    | ret d =>
      dsimp only at o
      cases ed : outD S.len S1 d with
      | none => rw [ed] at o; obtain ⟨_, _, z, _⟩ := o; cases z
      | some d' =>
        rw [ed] at o
        obtain ⟨_, _, z, k⟩ := o; cases z
        intro F1 φ1 H1 u s1 x1 dr l
        obtain ⟨a, b⟩ := outD_ok s1 x1.len ed dr l
        exact k _ _ _ _ (Sim.end_ s s1 x1.len) (Ext.end_ s1 x1) a b
    | brk _ => obtain ⟨_, _, z, _⟩ := o; cases z
    | ct _ => obtain ⟨_, _, z, _⟩ := o; cases z
theorem fx_body {K : PySem.W.Frag} {cl : Nat → Addr} {N : List Str} {k : Nat} {m : MX} {vs : List V} {H : Hp} {Q : VK} {E : XK} (h : spX K cl (xFn k N.length m) vs H Q E) : LX K cl (fun c _ H' => E (.ref (cl c)) none H') m { nx := fun _ H' => Q .non H', rt := Q } (L2.start N vs) H := fx_body_g h
/-- a def that returns a tuple of values that may change -/
def dFnX (k n : Nat) (body : MX) : MF := fun ds S => match xFn k n body ds S with
  | some (.ok d, S1) => some (d, S1)
  | _ => none
theorem dFnX_of {K : PySem.W.Frag} {cl : Nat → Addr} {k n : Nat} {m : MX} {vs : List V} {H : Hp} {Q : VK} {E : XK} (h : spOf K cl (dFnX k n m) vs H Q E) : ∃ ds S B F φ, Sim K cl S B F φ H ∧ DRA K cl F φ ds vs ∧ (∀ d ∈ ds, d.lt S.len) ∧ OkEX K cl (fun _ _ => False) S B F φ H (xFn k n m ds S) Q := by
  obtain ⟨ds, S, B, F, φ, s, dr, l, d, S1, e, kk⟩ := h
  refine ⟨ds, S, B, F, φ, s, dr, l, ?_⟩
  unfold dFnX at e
  cases q : xFn k n m ds S with
  | none => rw [q] at e; cases e
  | some r =>
    obtain ⟨x, S2⟩ := r
    rw [q] at e
    cases x with
    | ex c => cases e
    | ok d' => cases e; exact ⟨_, _, rfl, kk⟩
theorem fxN_ok {P : Program} {w : World} {K : PySem.W.Frag} {mg : Str → Option Value} {base : Heap} {cl : Nat → Addr} {x qual : Str} {st : Stmt} {f : Addr} {fd : FuncData} {N ps : List Str} {k : Nat} {m : MX} (F : Fun K x qual st f fd) (S : FnScope N ps (defScope st))
    (h : ∀ (cdv : Value) (A : Around) (outer : List Env) (s : Shared) (H : Hp) (E : XK), Room k (A.deeper (envOfC qual (defScope st) s.heap.objs.size f cdv)) →
      PSs (cxOf CX0 P w K mg base N qual (defScope st) f cdv A outer s H E).nox (defBody st) (LX K cl (fun _ _ _ => False) m)) : FnOk P w K mg base CX0 (k + 1) f fd ps (spOf K cl (dFnX ps.length N.length m)) :=
  F.ok S (fun vs H Q E q => by
    obtain ⟨ds, S, B, F, φ, s, dr, l, o⟩ := dFnX_of q
    rw [← dr.length]
    exact (fnX_len o).1) fun cdv A outer s H vs Q E hr q => ⟨_, h cdv A outer s H E hr, fx_body_g (dFnX_of q)⟩
section
variable {X : Cx} {cl : Nat → Addr} {W : EXW} {es : List Expr} {a : Expr} {pos pos' : Pos} {mr : MA} {ma : ME}
theorem x_retT {x1} (h : PA X es (LA X.K cl mr)) : PS X (.Return (some (.Tuple es x1 pos)) pos') (LX X.K cl W (xRetT mr)) := by
  refine (ps_ret (pe_tup h)).imp fun Z σ H q => ?_
  obtain ⟨σd, S, B, F, φ, s, rs, o⟩ := q
  obtain ⟨ds, S1, e, o⟩ := okX_bnd o
  by_cases hz : ds.length ≤ sizeLine
  · rw [if_pos hz] at o
    obtain ⟨_, _, z, k⟩ := o
    cases z
    exact LA.then_ s rs e fun F1 φ1 H1 vs s1 x1 rs1 dr l => ⟨by rw [← dr.length]; exact hz, fun p hp => k F1 φ1 H1 vs p s1 x1 dr l hp⟩
  · rw [if_neg hz] at o; obtain ⟨_, _, z, _⟩ := o; cases z
/-- e == (a, ..): the tuple's items may change -/
def rdPs (S : SH) : List D → Option (List P)
  | [] => some []
  | d :: r => match rdP S d with
    | some x => (rdPs S r).map (x :: ·)
    | none => none
theorem rdPs_ok {K : PySem.W.Frag} {S : SH} {B : List Nat} {F : Hp} {φ : Nat → Addr} {H : Hp} (s : Sim K cl S B F φ H) : ∀ {es : List D} {ps : List P} {vs : List V}, rdPs S es = some ps → DRA K cl F φ es vs → RpA K cl (addF 0 S.len F H φ) ps vs
  | [], ps, vs, e, dr => by cases dr; cases e; exact .nil
  | d :: es, ps, vs, e, dr => by
    cases dr with
    | cons r t =>
    unfold rdPs at e
    cases ed : rdP S d with
    | none => rw [ed] at e; cases e
    | some x =>
      rw [ed] at e
      dsimp only at e
      cases er : rdPs S es with
      | none => rw [er] at e; cases e
      | some qs =>
        rw [er] at e
        cases e
        exact .cons (toP_ok s 0 8 d x _ ed r) (rdPs_ok s er t)
def dEqT (neg : Bool) (ma : ME) (mr : MA) : ME := fun σ S => bnd (ma σ S) fun x S1 => bnd (mr σ S1) fun ds S2 => match rdP S2 x, rdPs S2 ds with
  | some p, some ps => if okd 40 p = true ∧ okd 40 (.tup ps) = true ∧ ds.length ≤ sizeLine then some (.p (.bl (if neg = true then !peq p (.tup ps) else peq p (.tup ps))), S2) else none
  | _, _ => none
theorem e_cmpT {K : PySem.W.Frag} {neg : Bool} {σ : L2.St} {H : Hp} {Q : VK} (q : LE K cl (dEqT neg ma mr) σ H Q) : tOp (rEqP K cl neg) (LE K cl ma) (tTup (LA K cl mr)) σ H Q := by
  obtain ⟨σd, S, B, F, φ, s, rs, o⟩ := q
  obtain ⟨x, S1, e, o⟩ := okE_bnd o
  obtain ⟨ds, S2, e2, o⟩ := okE_bnd o
  cases e3 : rdP S2 x with
  | none => rw [e3] at o; obtain ⟨_, _, z, _⟩ := o; cases z
  | some p =>
    cases e4 : rdPs S2 ds with
    | none => rw [e3, e4] at o; obtain ⟨_, _, z, _⟩ := o; cases z
    | some ps =>
      rw [e3, e4] at o
      dsimp only at o
      by_cases hc : okd 40 p = true ∧ okd 40 (.tup ps) = true ∧ ds.length ≤ sizeLine
      · rw [if_pos hc] at o
        obtain ⟨h1, h2, hz⟩ := hc
        obtain ⟨_, _, z, k⟩ := o
        cases z
        refine LE.then_ s rs e fun F1 φ1 H1 v s1 x1 rs1 dr1 l1 => LA.then_ s1 rs1 e2 fun F2 φ2 H2 vs s2 x2 rs2 dr2 l2 => ⟨by rw [← dr2.length]; exact hz, fun q hq => ?_⟩
        obtain ⟨s3, x3⟩ := s2.frz (o := .tup vs) (H' := upd H2 q (.tup vs)) (Same.new (Same.refl _) hq) hq (upd_same ..)
        refine ⟨_, p, .tup ps, addF_heap s3 0, toP_ok s3 0 8 x p _ e3 ((x2.trans x3).dr l1 dr1), Rp.tup (.inl (.inl (addF_le s3 0 q _ (upd_same ..)))) (rdPs_ok s3 e4 (x3.dra l2 dr2)), h1, h2, ?_⟩
        exact k _ _ _ _ s3 ((x1.trans x2).trans x3) (Rp.bl _) trivial
      · rw [if_neg hc] at o; obtain ⟨_, _, z, _⟩ := o; cases z
theorem k_cmpT {neg : Bool} {op : CmpOp} {x1} (ho : OpR X (compareOp op) (rEqP X.K cl neg)) (ha : PE X a (LE X.K cl ma)) (hb : PA X es (LA X.K cl mr)) (hm : behindInMarks op (.Tuple es x1 pos') = false) : PE X (.Compare a [op] [.Tuple es x1 pos'] pos) (LE X.K cl (dEqT neg ma mr)) :=
  (pe_cmpR ho ha (pe_tup hb) hm).imp fun _ _ _ q => e_cmpT q
theorem t_cmpT {neg : Bool} {op : CmpOp} {x1} (ho : OpR X (compareOp op) (rEqP X.K cl neg)) (ha : PE X a (LE X.K cl ma)) (hb : PA X es (LA X.K cl mr)) (hm : behindInMarks op (.Tuple es x1 pos') = false) : PT X (.Compare a [op] [.Tuple es x1 pos'] pos) (LT X.K cl (dTest (dEqT neg ma mr))) :=
  (pt_cmpR ho ha (pe_tup hb) hm).imp fun _ _ _ q => e_cmpT (e_test q)
end
/-- THE RULE for a def that may raise -/
theorem fx_ok {P : Program} {w : World} {K : PySem.W.Frag} {mg : Str → Option Value} {base : Heap} {cl : Nat → Addr} {x qual : Str} {st : Stmt} {f : Addr} {fd : FuncData} {N ps : List Str} {k : Nat} {m : MX} (F : Fun K x qual st f fd) (S : FnScope N ps (defScope st))
    (h : ∀ (cdv : Value) (A : Around) (outer : List Env) (s : Shared) (H : Hp) (E : XK), Room k (A.deeper (envOfC qual (defScope st) s.heap.objs.size f cdv)) →
      Takes (cxOf (L2.CX P w) P w K mg base N qual (defScope st) f cdv A outer s H E) (wX cl fun c _ H' => E (.ref (cl c)) none H') →
      PSs (cxOf (L2.CX P w) P w K mg base N qual (defScope st) f cdv A outer s H E) (defBody st) (LX K cl (fun c _ H' => E (.ref (cl c)) none H') m)) : FnOk P w K mg base (L2.CX P w) (k + 1) f fd ps (spX K cl (xFn ps.length N.length m)) :=
  F.okX S (fun vs H Q E q => spX_len q) fun cdv A outer s H vs Q E hr q => ⟨_, h cdv A outer s H E hr ((takes_of rfl rfl rfl rfl).imp fun cls d σ H' ⟨c, e1, e2, w⟩ => by rw [e1, e2]; exact w), fx_body q⟩
end Pv
namespace Pv
open PySem PySem.Spec PyProof.Rows L2
/-- a class catches itself -/
theorem exm_self {K : PySem.W.Frag} {C : Addr} (h1 : PySem.W.subIn K (.ref C) (.type "BaseException") = some true) (h2 : PySem.W.isClsIn K C = true) (h3 : PySem.W.typeIn K (.ref C) = some (.type "type")) (h4 : PySem.W.subIn K (.ref C) (.ref C) = some true) : PySem.W.exmOne K (.ref C) (.ref C) = some true := by
  unfold PySem.W.exmOne
  rw [h1, if_pos (by decide)]
  have h2' : (PySem.W.clsIn K C).isSome = true := h2
  show (if ((PySem.W.clsIn K C).isSome && PySem.W.typeIn K (.ref C) == some (.type "type")) = true then _ else none) = _
  rw [h2', h3, if_pos (by decide)]
  exact h4
end Pv
/-! reading the computations by simp -/
namespace Pv
open PySem PySem.Spec PyProof.Rows L2
section
variable {f g : D → D → SH → Option (D × SH)} {u : D → SH → Option (D × SH)} {a b c : ME} {t t1 t2 : MT} {r : MA} {m : MF} {s1 s2 : MS} {σ : En} {S S' : SH}
@[simp] theorem at_dC (x : P) : dC x σ S = some (.p x, S) := id rfl
@[simp] theorem at_dVar (i : Nat) : dVar i σ S = match σ[i]? with | some (some d) => some (d, S) | _ => none := id rfl
@[simp] theorem at_dOp : dOp f a b σ S = bnd (a σ S) fun x S1 => bnd (b σ S1) fun y S2 => f x y S2 := id rfl
@[simp] theorem at_dUn : dUn u a σ S = bnd (a σ S) fun x S1 => u x S1 := id rfl
@[simp] theorem at_dTest : dTest a σ S = bnd (a σ S) toB := id rfl
@[simp] theorem at_dAnd : dAnd t1 t2 σ S = bnd (t1 σ S) fun t S1 => if t = true then t2 σ S1 else some (false, S1) := id rfl
@[simp] theorem at_dOr : dOr t1 t2 σ S = bnd (t1 σ S) fun t S1 => if t = true then some (true, S1) else t2 σ S1 := id rfl
@[simp] theorem at_dNot : dNot t σ S = bnd (t σ S) fun x S1 => some (!x, S1) := id rfl
@[simp] theorem at_dNotV : dNotV a σ S = bnd (a σ S) fun d S1 => bnd (toB d S1) fun t S2 => some (.p (.bl (!t)), S2) := id rfl
@[simp] theorem at_dAndV : dAndV a b σ S = bnd (a σ S) fun d S1 => bnd (toB d S1) fun t S2 => if t = true then b σ S2 else some (.p (.bl false), S2) := id rfl
@[simp] theorem at_dOrV : dOrV a b σ S = bnd (a σ S) fun d S1 => bnd (toB d S1) fun t S2 => if t = true then some (.p (.bl true), S2) else b σ S2 := id rfl
@[simp] theorem at_dIfE : dIfE t a b σ S = bnd (t σ S) fun t S1 => if t = true then a σ S1 else b σ S1 := id rfl
@[simp] theorem at_dNil : dNil σ S = some ([], S) := id rfl
@[simp] theorem at_dCons : dCons a r σ S = bnd (a σ S) fun x S1 => bnd (r σ S1) fun xs S2 => some (x :: xs, S2) := id rfl
@[simp] theorem at_dCall : dCall m r σ S = bnd (r σ S) fun xs S1 => m xs S1 := id rfl
@[simp] theorem at_dNx : dNx σ S = some (.nx σ, S) := id rfl
def seqK (b : MS) : Fl → SH → Option (Fl × SH)
  | .nx σ1, S1 => b σ1 S1
  | r, S1 => some (r, S1)
@[simp] theorem seqK_nx (σ1 : En) : seqK s2 (.nx σ1) S = s2 σ1 S := id rfl
@[simp] theorem seqK_ret (d : D) : seqK s2 (.ret d) S = some (.ret d, S) := id rfl
@[simp] theorem seqK_brk (σ1 : En) : seqK s2 (.brk σ1) S = some (.brk σ1, S) := id rfl
@[simp] theorem seqK_ct (σ1 : En) : seqK s2 (.ct σ1) S = some (.ct σ1, S) := id rfl
@[simp] theorem at_dSeq : dSeq s1 s2 σ S = bnd (s1 σ S) (seqK s2) := by
  unfold dSeq
  congr 1
  funext f S1
  cases f <;> rfl
@[simp] theorem at_dBrk : dBrk σ S = some (.brk σ, S) := id rfl
@[simp] theorem at_dCt : dCt σ S = some (.ct σ, S) := id rfl
@[simp] theorem at_dDrop : dDrop a σ S = bnd (a σ S) fun _ S1 => some (.nx σ, S1) := id rfl
@[simp] theorem at_dRet : dRet a σ S = bnd (a σ S) fun d S1 => some (.ret d, S1) := id rfl
@[simp] theorem at_dRetN : dRetN σ S = some (.ret (.p .non), S) := id rfl
@[simp] theorem at_dIf : dIf t s1 s2 σ S = bnd (t σ S) fun t S1 => if t = true then s1 σ S1 else s2 σ S1 := id rfl
@[simp] theorem at_dSet (i : Nat) : dSet i a σ S = bnd (a σ S) fun d S1 => some (.nx (σ.set i (some d)), S1) := id rfl
@[simp] theorem at_dTup : dTup r σ S = bnd (r σ S) fun ds S1 => newT ds S1 := id rfl
@[simp] theorem at_dLst (live : Bool) : dLst live r σ S = bnd (r σ S) fun ds S1 => newL live ds S1 := id rfl
@[simp] theorem at_dYes : dYes σ S = some (true, S) := id rfl
@[simp] theorem at_dTru : dTru a σ S = bnd (a σ S) truD := id rfl
@[simp] theorem at_dChain : dChain f g a b c σ S = bnd (a σ S) fun x S1 => bnd (b σ S1) fun y S2 => bnd (f x y S2) fun z S3 => bnd (toB z S3) fun t S4 => if t = true then bnd (c σ S4) fun w S5 => g y w S5 else some (.p (.bl false), S4) := id rfl
@[simp] theorem at_dMeth (k : Nat) (nm : Str) : dMeth k nm m a r σ S = bnd (a σ S) fun d S1 => match fldsOf d S1 with
  | some (c', fs) => if c' = k ∧ fs.lookup nm = none then bnd (r σ S1) fun xs S2 => m (d :: xs) S2 else none
  | none => none := id rfl
@[simp] theorem at_dBM (T : String) : dBM T m a r σ S = bnd (a σ S) fun d S1 => if isTy T d S1 = true then bnd (r σ S1) fun ds S2 => m (d :: ds) S2 else none := id rfl
@[simp] theorem at_gNm (i : Nat) (d : D) : gNm i d σ S = some (σ.set i (some d), S) := id rfl
@[simp] theorem at_dAsg {gg : MG} : dAsg a gg σ S = bnd (a σ S) fun d S1 => bnd (gg d σ S1) fun σ2 S2 => some (.nx σ2, S2) := id rfl
@[simp] theorem at_gSb (d : D) : gSb a b d σ S = bnd (a σ S) fun x S1 => bnd (b σ S1) fun y S2 => match setIx x y d S2 with | some S3 => some (σ, S3) | none => none := id rfl
@[simp] theorem at_gNl : gNl [] σ S = some (σ, S) := id rfl
@[simp] theorem at_gCn {g1 : MG} {g2 : MGs} (d : D) (ds : List D) : gCn g1 g2 (d :: ds) σ S = bnd (g1 d σ S) fun σ1 S1 => g2 ds σ1 S1 := id rfl
@[simp] theorem at_gTp (n : Nat) {g2 : MGs} (ps : List P) : gTp n g2 (.p (.tup ps)) σ S = if ps.length = n then g2 (ps.map .p) σ S else none := id rfl
@[simp] theorem at_dFor (ws : List Nat) {mi : MI} {gg : MG} : dFor ws mi gg s1 σ S = bnd (mi σ S) fun src S1 => forL ws src.fin gg s1 src.items (wipeD ws σ) S1 := id rfl
@[simp] theorem at_dComp (live : Bool) {mi : MI} {gg : MG} (vs : List Nat) : dComp live mi gg t a vs σ S = bnd (mi σ S) fun src S1 => bnd (compL src.fin gg t a (wipeD vs σ) src.items [] S1) fun ds S2 => newL live ds S2 := id rfl
@[simp] theorem at_dIt : dIt a σ S = bnd (a σ S) srcOf := id rfl
@[simp] theorem at_dRng1 : dRng1 r σ S = bnd (r σ S) rng1 := id rfl
@[simp] theorem at_dRng2 : dRng2 r σ S = bnd (r σ S) rng2 := id rfl
@[simp] theorem at_fn (k n : Nat) (ds : List D) : dFn k n s1 ds S = if ds.length = k then frameF S (s1 (startD n ds) ⟨S.os.length, S.os⟩) else none := id rfl
@[simp] theorem at_fnL (k n : Nat) (ds : List D) : dFnL k n s1 ds S = if ds.length = k then liveF (s1 (startD n ds) S) else none := id rfl
theorem fn_at {k n : Nat} {ds : List D} (h : ds.length = k) : dFn k n s1 ds S = frameF S (s1 (startD n ds) ⟨S.os.length, S.os⟩) := if_pos h
theorem fnL_at {k n : Nat} {ds : List D} (h : ds.length = k) : dFnL k n s1 ds S = liveF (s1 (startD n ds) S) := if_pos h
@[simp] theorem live_ret (d : D) : liveF (some (.ret d, S)) = some (d, S) := id rfl
@[simp] theorem live_nx (σ : En) : liveF (some (.nx σ, S)) = some (.p .non, S) := id rfl
@[simp] theorem frame_p (x : P) (S1 : SH) : frameF S (some (.ret (.p x), S1)) = some (.p x, cutS S S1) := id rfl
@[simp] theorem frame_nx (σ : En) (S1 : SH) : frameF S (some (.nx σ, S1)) = some (.p .non, cutS S S1) := id rfl
@[simp] theorem cut_self (k : Nat) : cutS S ⟨k, S.os⟩ = S := by
  unfold cutS SH.len
  rw [List.take_length]
@[simp] theorem cut_app (k : Nat) (l : List Ob) : cutS S ⟨k, S.os ++ l⟩ = S := by
  unfold cutS SH.len
  simp
/-- a new list comes back as data -/
theorem frame_ref {n : Nat} {S1 : SH} {ps : List P} (hn : S.os.length ≤ n) (e : S1.os[n]? = some (.lst (ps.map D.p))) : frameF S (some (.ret (.ref n), S1)) = some (.p (.lst ps), cutS S S1) := by
  have h : ∀ (k : Nat), (ps.map D.p).mapM (toP k S.len S1) = some ps := fun k => by
    induction ps with
    | nil => rfl
    | cons p ps ih =>
      have q : (ps.map D.p).mapM (toP k S.len S1) = some ps := by
        clear e ih
        induction ps with
        | nil => rfl
        | cons p ps ih => rw [List.map_cons, List.mapM_cons, ih]; cases k <;> rfl
      rw [List.map_cons, List.mapM_cons, q]; cases k <;> rfl
  have h2 : outD S.len S1 (.ref n) = some (.p (.lst ps)) := by
    unfold outD
    dsimp only
    rw [if_neg (by unfold SH.len; omega)]
    unfold toP
    rw [if_neg (by unfold SH.len; omega), e]
    dsimp only
    rw [h]
    rfl
  show (match outD S.len S1 (.ref n) with | some d' => some (d', cutS S S1) | none => none) = _
  rw [h2]
@[simp] theorem newT_p (ps : List P) (h : ps.length ≤ sizeLine) : newT (ps.map D.p) S = some (.p (.tup ps), S) := by
  unfold newT
  rw [toPs_map]
  exact if_pos h
theorem newL_f (ps : List P) (h : ps.length ≤ sizeLine) : newL false (ps.map D.p) S = some (.p (.lst ps), S) := by
  unfold newL
  rw [List.length_map, if_pos h, if_neg Bool.false_ne_true, toPs_map]
theorem newL_t (ds : List D) (h : ds.length ≤ sizeLine) : newL true ds S = some (.ref S.os.length, ⟨S.b, S.os ++ [.lst ds]⟩) := by
  unfold newL
  rw [if_pos h, if_pos rfl]
end
theorem line_ge : 1000000 ≤ sizeLine := by unfold sizeLine; decide
/-! loops and comprehensions -/
section
variable {body : MS} {t : MT} {elt : ME} {ws : List Nat} {fin : SH → Bool} {g : MG}
/-- a loop whose turns all go on -/
theorem forL_all (st : Nat → En) (Ss : Nat → SH) : ∀ (items : List (SH → Option D)) (k : Nat), fin (Ss (k + items.length)) = true →
    (∀ i it, items[i]? = some it → ∃ d σ1 S1, it (Ss (k + i)) = some d ∧ g d (st (k + i)) (Ss (k + i)) = some (σ1, S1) ∧ ∃ σ2, (body σ1 S1 = some (.nx σ2, Ss (k + i + 1)) ∨ body σ1 S1 = some (.ct σ2, Ss (k + i + 1))) ∧ wipeD ws σ2 = st (k + i + 1)) →
    forL ws fin g body items (st k) (Ss k) = some (.nx (st (k + items.length)), Ss (k + items.length))
  | [], k, hf, _ => by
    have hf' : fin (Ss k) = true := hf
    rw [forL, if_pos hf']; rfl
  | it :: items, k, hf, h => by
    obtain ⟨d, σ1, S1, h1, h2, σ2, h3, h4⟩ := h 0 it rfl
    rw [Nat.add_zero] at h1 h2 h3 h4
    have e : k + (it :: items).length = (k + 1) + items.length := by rw [List.length_cons]; omega
    have ih := forL_all st Ss items (k + 1) (by rw [← e]; exact hf) fun i it' hi => by
      have q := h (i + 1) it' (by simpa using hi)
      have e2 : k + (i + 1) = k + 1 + i := by omega
      rw [e2] at q
      exact q
    rw [forL, h1]
    dsimp only
    rw [h2, bnd_some]
    rw [e]
    rcases h3 with h3 | h3
    · rw [h3, bnd_some]; dsimp only; rw [h4]; exact ih
    · rw [h3, bnd_some]; dsimp only; rw [h4]; exact ih
/-- .. over a range -/
theorem for_rng {j : Nat} (st : Nat → En) (Ss : Nat → SH) (lo : Int) (n : Nat)
    (h : ∀ i, i < n → ∃ σ2, (body ((st i).set j (some (.p (.int (lo + (i : Int)))))) (Ss i) = some (.nx σ2, Ss (i + 1)) ∨ body ((st i).set j (some (.p (.int (lo + (i : Int)))))) (Ss i) = some (.ct σ2, Ss (i + 1))) ∧ wipeD ws σ2 = st (i + 1)) :
    forL ws (srcN lo n).fin (gNm j) body (srcN lo n).items (st 0) (Ss 0) = some (.nx (st n), Ss n) := by
  have hl : (srcN lo n).items.length = n := by simp [srcN]
  have q := forL_all (body := body) (ws := ws) (g := gNm j) (fin := (srcN lo n).fin) st Ss (srcN lo n).items 0 rfl fun i it hi => by
    simp only [srcN, List.getElem?_map] at hi
    cases e : (List.range n)[i]? with
    | none => rw [e] at hi; cases hi
    | some i' =>
      rw [e] at hi
      cases hi
      obtain ⟨h1, h2⟩ := List.getElem?_eq_some_iff.mp e
      rw [List.getElem_range] at h2
      subst h2
      rw [List.length_range] at h1
      rw [Nat.zero_add]
      obtain ⟨σ2, a, b⟩ := h i h1
      exact ⟨_, _, _, rfl, rfl, σ2, a, b⟩
  rw [hl, Nat.zero_add] at q
  exact q
/-- .. over data -/
theorem for_p {j : Nat} (st : Nat → En) (Ss : Nat → SH) (ps : List P)
    (h : ∀ i p, ps[i]? = some p → ∃ σ2, (body ((st i).set j (some (.p p))) (Ss i) = some (.nx σ2, Ss (i + 1)) ∨ body ((st i).set j (some (.p p))) (Ss i) = some (.ct σ2, Ss (i + 1))) ∧ wipeD ws σ2 = st (i + 1)) :
    forL ws (srcP ps).fin (gNm j) body (srcP ps).items (st 0) (Ss 0) = some (.nx (st ps.length), Ss ps.length) := by
  have hl : (srcP ps).items.length = ps.length := by simp [srcP]
  have q := forL_all (body := body) (ws := ws) (g := gNm j) (fin := (srcP ps).fin) st Ss (srcP ps).items 0 rfl fun i it hi => by
    simp only [srcP, List.getElem?_map] at hi
    cases e : ps[i]? with
    | none => rw [e] at hi; cases hi
    | some p =>
      rw [e] at hi
      cases hi
      rw [Nat.zero_add]
      obtain ⟨σ2, a, b⟩ := h i p e
      exact ⟨_, _, _, rfl, rfl, σ2, a, b⟩
  rw [hl, Nat.zero_add] at q
  exact q
/-- a loop by an invariant -/
theorem forL_inv (J : Nat → En → SH → Prop) : ∀ (items : List (SH → Option D)) (k : Nat) (σ : En) (S : SH), J k σ S → (∀ σ S, J (k + items.length) σ S → fin S = true) →
    (∀ i it σ S, items[i]? = some it → J (k + i) σ S → ∃ d σ1 S1, it S = some d ∧ g d σ S = some (σ1, S1) ∧ ∃ σ2 S2, (body σ1 S1 = some (.nx σ2, S2) ∨ body σ1 S1 = some (.ct σ2, S2)) ∧ J (k + i + 1) (wipeD ws σ2) S2) →
    ∃ σ' S', forL ws fin g body items σ S = some (.nx σ', S') ∧ J (k + items.length) σ' S'
  | [], k, σ, S, hj, hf, _ => ⟨σ, S, by rw [forL, if_pos (hf σ S hj)], hj⟩
  | it :: items, k, σ, S, hj, hf, h => by
    obtain ⟨d, σ1, S1, h1, h2, σ2, S2, h3, h4⟩ := h 0 it σ S rfl hj
    have e : k + (it :: items).length = (k + 1) + items.length := by rw [List.length_cons]; omega
    rw [e] at hf ⊢
    obtain ⟨σ', S', r1, r2⟩ := forL_inv J items (k + 1) _ S2 h4 hf fun i it' σ S hi hj => by
      have e2 : k + 1 + i = k + (i + 1) := by omega
      rw [e2] at hj ⊢
      exact h (i + 1) it' σ S (by simpa using hi) hj
    refine ⟨σ', S', ?_, r2⟩
    rw [forL, h1]
    dsimp only
    rw [h2, bnd_some]
    rcases h3 with h3 | h3 <;> (rw [h3, bnd_some]; exact r1)
theorem rng_inv {j : Nat} (J : Nat → En → SH → Prop) (lo : Int) (n : Nat) {σ : En} {S : SH} (h0 : J 0 σ S)
    (h : ∀ i σ S, i < n → J i σ S → ∃ σ2 S2, (body (σ.set j (some (.p (.int (lo + (i : Int)))))) S = some (.nx σ2, S2) ∨ body (σ.set j (some (.p (.int (lo + (i : Int)))))) S = some (.ct σ2, S2)) ∧ J (i + 1) (wipeD ws σ2) S2) :
    ∃ σ' S', forL ws (srcN lo n).fin (gNm j) body (srcN lo n).items σ S = some (.nx σ', S') ∧ J n σ' S' := by
  have hl : (srcN lo n).items.length = n := by simp [srcN]
  have q := forL_inv (body := body) (ws := ws) (g := gNm j) (fin := (srcN lo n).fin) J (srcN lo n).items 0 σ S h0 (fun _ _ _ => rfl) fun i it σ S hi hj => by
    simp only [srcN, List.getElem?_map] at hi
    cases e : (List.range n)[i]? with
    | none => rw [e] at hi; cases hi
    | some i' =>
      rw [e] at hi
      cases hi
      obtain ⟨h1, h2⟩ := List.getElem?_eq_some_iff.mp e
      rw [List.getElem_range] at h2
      subst h2
      rw [List.length_range] at h1
      rw [Nat.zero_add] at hj ⊢
      obtain ⟨σ2, S2, a, b⟩ := h i σ S h1 hj
      exact ⟨_, _, _, rfl, rfl, σ2, S2, a, b⟩
  rw [hl, Nat.zero_add] at q
  exact q
theorem rng0_inv {j : Nat} (J : Nat → En → SH → Prop) (n : Nat) {σ : En} {S : SH} (h0 : J 0 σ S)
    (h : ∀ i σ S, i < n → J i σ S → ∃ σ2 S2, (body (σ.set j (some (.p (.int (i : Int))))) S = some (.nx σ2, S2) ∨ body (σ.set j (some (.p (.int (i : Int))))) S = some (.ct σ2, S2)) ∧ J (i + 1) (wipeD ws σ2) S2) :
    ∃ σ' S', forL ws (srcN 0 n).fin (gNm j) body (srcN 0 n).items σ S = some (.nx σ', S') ∧ J n σ' S' :=
  rng_inv J 0 n h0 fun i σ S hi hj => by
    rw [Int.zero_add]
    exact h i σ S hi hj
theorem p_inv {j : Nat} (J : Nat → En → SH → Prop) (ps : List P) {σ : En} {S : SH} (h0 : J 0 σ S)
    (h : ∀ i p σ S, ps[i]? = some p → J i σ S → ∃ σ2 S2, (body (σ.set j (some (.p p))) S = some (.nx σ2, S2) ∨ body (σ.set j (some (.p p))) S = some (.ct σ2, S2)) ∧ J (i + 1) (wipeD ws σ2) S2) :
    ∃ σ' S', forL ws (srcP ps).fin (gNm j) body (srcP ps).items σ S = some (.nx σ', S') ∧ J ps.length σ' S' := by
  have hl : (srcP ps).items.length = ps.length := by simp [srcP]
  have q := forL_inv (body := body) (ws := ws) (g := gNm j) (fin := (srcP ps).fin) J (srcP ps).items 0 σ S h0 (fun _ _ _ => rfl) fun i it σ S hi hj => by
    simp only [srcP, List.getElem?_map] at hi
    cases e : ps[i]? with
    | none => rw [e] at hi; cases hi
    | some p =>
      rw [e] at hi
      cases hi
      rw [Nat.zero_add] at hj ⊢
      obtain ⟨σ2, S2, a, b⟩ := h i p σ S e hj
      exact ⟨_, _, _, rfl, rfl, σ2, S2, a, b⟩
  rw [hl, Nat.zero_add] at q
  exact q
theorem put_last (b : Nat) (os : List Ob) (x y : Ob) : SH.put ⟨b, os ++ [x]⟩ os.length y = ⟨b, os ++ [y]⟩ := by
  unfold SH.put
  simp
theorem at_last (b : Nat) (os : List Ob) (x : Ob) : (SH.mk b (os ++ [x])).os[os.length]? = some x := by simp
/-- a comprehension whose element changes nothing: its items as a filter and a map -/
theorem comp_all {S : SH} {σ : En} {α : Type} (fs : α → Bool) (fv : α → D) (it : α → SH → Option D) (hf : fin S = true) : ∀ (xs : List α) (acc : List D), acc.length + xs.length ≤ sizeLine →
    (∀ x ∈ xs, ∃ d σ1, it x S = some d ∧ g d σ S = some (σ1, S) ∧ t σ1 S = some (fs x, S) ∧ (fs x = true → elt σ1 S = some (fv x, S))) →
    compL fin g t elt σ (xs.map it) acc S = some (acc ++ (xs.filter fs).map fv, S)
  | [], acc, _, _ => by
    rw [List.map_nil, compL, if_pos hf]; simp
  | x :: xs, acc, hl, h => by
    obtain ⟨d, σ1, h1, h2, h3, h4⟩ := h x (by simp)
    rw [List.length_cons] at hl
    rw [List.map_cons, compL, h1]
    dsimp only
    rw [h2, bnd_some, h3, bnd_some]
    have ih := fun acc' (q : acc'.length + xs.length ≤ sizeLine) => comp_all (S := S) (σ := σ) fs fv it hf xs acc' q fun y hy => h y (by simp [hy])
    by_cases c : fs x = true
    · rw [if_pos c, if_pos (by omega), h4 c, bnd_some, ih _ (by rw [List.length_append, List.length_singleton]; omega), List.filter_cons_of_pos c, List.map_cons, List.append_assoc]; rfl
    · rw [if_neg c, ih _ (by omega), List.filter_cons_of_neg c]
end
end Pv
/-! what the built-ins give on data -/
namespace Pv
open PySem PySem.Spec PyProof.Rows L2
section
variable {S : SH} {ps qs : List P} {ds : List D}
theorem mulOk_r {i j : Int} (h : j.natAbs < 2 ^ 64) : mulOk i j = true := by
  unfold mulOk
  simp [h]
theorem mulOk_l {i j : Int} (h : i.natAbs < 2 ^ 64) : mulOk i j = true := by
  unfold mulOk
  simp [h]
theorem divOk_c {i j : Int} (h : 0 < j) (h2 : j < 2 ^ 64) : divOk i j = true := by
  unfold divOk
  have a : j.natAbs ≠ 0 := by omega
  have b : j.natAbs.log2 < 64 := (Nat.log2_lt a).mpr (by omega)
  simp only [Bool.and_eq_true, decide_eq_true_eq]
  omega
@[simp] theorem asL_l : asL (.p (.lst ps)) S = some (ps.map .p) := id rfl
@[simp] theorem asQ_l : asQ (.p (.lst ps)) S = some (ps.map .p) := id rfl
@[simp] theorem asQ_t : asQ (.p (.tup ps)) S = some (ps.map .p) := id rfl
@[simp] theorem fLen_l : fLen [.p (.lst ps)] S = some (.p (.int ps.length), S) := by simp [fLen]
@[simp] theorem fLen_t : fLen [.p (.tup ps)] S = some (.p (.int ps.length), S) := by simp [fLen]
@[simp] theorem fTuple_t : fTuple [.p (.tup ps)] S = some (.p (.tup ps), S) := id rfl
theorem fTuple_l (h : ps.length ≤ sizeLine) : fTuple [.p (.lst ps)] S = some (.p (.tup ps), S) := by
  show newT (ps.map D.p) S = _
  rw [newT_p ps h]
theorem fList_l (h : ps.length ≤ sizeLine) : fList false [.p (.lst ps)] S = some (.p (.lst ps), S) := by
  show newL false (ps.map D.p) S = _
  rw [newL_f ps h]
@[simp] theorem fInt_i (i : Int) : fInt [.p (.int i)] S = some (.p (.int i), S) := id rfl
@[simp] theorem fMin_i (i j : Int) : fMin [.p (.int i), .p (.int j)] S = some (.p (.int (if j < i then j else i)), S) := id rfl
@[simp] theorem fMax_i (i j : Int) : fMax [.p (.int i), .p (.int j)] S = some (.p (.int (if j > i then j else i)), S) := id rfl
@[simp] theorem fAdd_i (l : Bool) (i j : Int) : fAdd l (.p (.int i)) (.p (.int j)) S = some (.p (.int (i + j)), S) := id rfl
@[simp] theorem fNeg_i (i : Int) : fNeg (.p (.int i)) S = some (.p (.int (-i)), S) := id rfl
@[simp] theorem fSum_l (ns : List Int) : fSum [.p (.lst (intsP ns))] S = some (.p (.int ns.sum), S) := by
  have h : ∀ l : List Int, intsOf ((intsP l).map D.p) = some l := by
    intro l
    induction l with
    | nil => rfl
    | cons a l ih =>
      show (intsOf (D.p (.int a) :: (intsP l).map D.p)) = _
      simp [intsOf, ih]
  unfold fSum
  simp [h]
theorem atI_nat {α : Type} {l : List α} {n : Nat} {x : α} (h : l[n]? = some x) : atI l (n : Int) = some x := by
  obtain ⟨h1, h2⟩ := List.getElem?_eq_some_iff.mp h
  unfold atI
  have e : ixN l.length (n : Int) = some n := by
    unfold ixN
    simp
    omega
  rw [e]
  exact h
theorem fIx_l {n : Nat} {x : P} (h : ps[n]? = some x) : fIx (.p (.lst ps)) (.p (.int (n : Int))) S = some (.p x, S) := by
  have q := atI_nat (l := ps.map D.p) (n := n) (x := D.p x) (by rw [List.getElem?_map, h]; rfl)
  show (match asQ (.p (.lst ps)) S with
    | some xs => (match atI xs (n : Int) with | some x => some (x, S) | none => none)
    | none => none) = _
  simp only [asQ_l, q]
theorem fIx_t {n : Nat} {x : P} (h : ps[n]? = some x) : fIx (.p (.tup ps)) (.p (.int (n : Int))) S = some (.p x, S) := by
  have q := atI_nat (l := ps.map D.p) (n := n) (x := D.p x) (by rw [List.getElem?_map, h]; rfl)
  show (match asQ (.p (.tup ps)) S with
    | some xs => (match atI xs (n : Int) with | some x => some (x, S) | none => none)
    | none => none) = _
  simp only [asQ_t, q]
/-- by a plain int -/
theorem fIx_li {i : Int} {x : P} (h0 : 0 ≤ i) (h : ps[i.toNat]? = some x) : fIx (.p (.lst ps)) (.p (.int i)) S = some (.p x, S) := by
  have e : i = (i.toNat : Int) := by omega
  rw [e]
  exact fIx_l h
theorem fIx_ti {i : Int} {x : P} (h0 : 0 ≤ i) (h : ps[i.toNat]? = some x) : fIx (.p (.tup ps)) (.p (.int i)) S = some (.p x, S) := by
  have e : i = (i.toNat : Int) := by omega
  rw [e]
  exact fIx_t h
theorem fIx_ri {m : Nat} {i : Int} {d : D} (hm : S.os[m]? = some (.lst ds)) (h0 : 0 ≤ i) (h : ds[i.toNat]? = some d) : fIx (.ref m) (.p (.int i)) S = some (d, S) := by
  have e : i = (i.toNat : Int) := by omega
  have q := atI_nat (l := ds) h
  rw [← e] at q
  show (match asQ (.ref m) S with
    | some xs => (match atI xs i with | some x => some (x, S) | none => none)
    | none => none) = _
  have e2 : asQ (.ref m) S = some ds := by unfold asQ; dsimp only; rw [hm]
  simp only [e2, q]
theorem fApp_p {n : Nat} {x : P} (h : S.os[n]? = some (.lst ds)) (hl : ds.length < sizeLine) : fApp [.ref n, .p x] S = some (.p .non, S.put n (.lst (ds ++ [.p x]))) := by
  unfold fApp
  dsimp only
  rw [h]
  dsimp only
  rw [if_pos ⟨hl, rfl⟩]
theorem isTy_ref {n : Nat} (h : S.os[n]? = some (.lst ds)) : isTy "list" (.ref n) S = true := by
  unfold isTy
  dsimp only
  rw [h]
  rfl
theorem intsP_len (ns : List Int) : (intsP ns).length = ns.length := List.length_map _
theorem intsP_at {ns : List Int} {n : Nat} {i : Int} (h : ns[n]? = some i) : (intsP ns)[n]? = some (.int i) := by
  unfold intsP
  rw [List.getElem?_map, h]
  rfl
theorem srt_rng (n : Nat) (h : (n : Int) < 2 ^ 62) : rng1 [.p (.int n)] S = some (srcN 0 n, S) := by
  unfold rng1
  dsimp only
  rw [if_pos ⟨by omega, h⟩]
  rfl

/-- a field of the newest object is set -/
theorem setF_last {cs : List Nat} {c b : Nat} {os : List Ob} {f : Str} {v : P} {fs : List (Str × D)} (hc : cs.contains c = true) (hl : fs.length < 1000) : setFld cs f (.ref os.length) (.p v) ⟨b, os ++ [.ins c fs]⟩ = some ⟨b, os ++ [.ins c (putFD f (.p v) fs)]⟩ := by
  unfold setFld
  dsimp only
  rw [at_last b]
  dsimp only
  rw [if_pos ⟨hc, hl, rfl⟩, put_last]
theorem mapM_flds {k : Nat} {b : Nat} {S1 : SH} : ∀ (gs : List (Str × P)), (gs.map fun p => (p.1, D.p p.2)).mapM (fun p => (toP k b S1 p.2).map fun x => (p.1, x)) = some gs
  | [] => rfl
  | (f, x) :: gs => by
    rw [List.map_cons, List.mapM_cons, mapM_flds gs]
    cases k <;> rfl
/-- a new object of data comes back as data -/
theorem out_ins {k c n : Nat} {S1 : SH} {gs : List (Str × P)} (hn : k ≤ n) (e : S1.os[n]? = some (.ins c (gs.map fun p => (p.1, D.p p.2)))) : outD k S1 (.ref n) = some (.p (.ins c gs)) := by
  unfold outD
  dsimp only
  rw [if_neg (by omega)]
  unfold toP
  rw [if_neg (by omega), e]
  dsimp only
  rw [mapM_flds]
  rfl
theorem at_dSetF {cs : List Nat} {f : Str} {o v : ME} {σ : En} : dSetF cs f o v σ S = bnd (v σ S) fun y S1 => bnd (o σ S1) fun x S2 => match setFld cs f x y S2 with | some S3 => some (.nx σ, S3) | none => none := id rfl
@[simp] theorem fldsOf_p (c : Nat) (gs : List (Str × P)) : fldsOf (.p (.ins c gs)) S = some (c, gs.map fun p => (p.1, .p p.2)) := id rfl
theorem at_dMakeF {c : Nat} {init : MF} {a : MA} {σ : En} : dMake false c init a σ S = bnd (a σ S) fun xs S1 => bnd (init (.ref S1.os.length :: xs) ⟨S1.os.length, S1.os ++ [.ins c []]⟩) fun d S2 => match d with
    | .p .non => match outD S1.os.length S2 (.ref S1.os.length) with | some d' => some (d', cutS S1 S2) | none => none
    | _ => none := by
  unfold dMake
  rfl
theorem itP (ps : List P) {p : P} (h : p = .lst ps ∨ p = .tup ps) : srcOf (.p p) S = some (srcP ps, S) := by
  rcases h with rfl | rfl <;> rfl
/-- a comprehension over data -/
theorem comp_p {j : Nat} {t : MT} {elt : ME} {σ : En} (fs : P → Bool) (fv : P → D) (ps : List P) (hl : ps.length ≤ sizeLine)
    (h : ∀ p ∈ ps, t (σ.set j (some (.p p))) S = some (fs p, S) ∧ (fs p = true → elt (σ.set j (some (.p p))) S = some (fv p, S))) :
    compL (srcP ps).fin (gNm j) t elt σ (srcP ps).items [] S = some ((ps.filter fs).map fv, S) := by
  have q := comp_all (t := t) (elt := elt) (g := gNm j) (fin := (srcP ps).fin) (S := S) (σ := σ) fs fv (fun p _ => some (D.p p)) rfl ps [] (by simpa using hl) fun p hp => ⟨_, _, rfl, rfl, h p hp⟩
  rw [List.nil_append] at q
  exact q
/-- .. over a range from 0 -/
theorem comp_rng {j : Nat} {t : MT} {elt : ME} {σ : En} (fs : Nat → Bool) (fv : Nat → D) (n : Nat) (hl : n ≤ sizeLine)
    (h : ∀ i, i < n → t (σ.set j (some (.p (.int (i : Int))))) S = some (fs i, S) ∧ (fs i = true → elt (σ.set j (some (.p (.int (i : Int))))) S = some (fv i, S))) :
    compL (srcN 0 n).fin (gNm j) t elt σ (srcN 0 n).items [] S = some (((List.range n).filter fs).map fv, S) := by
  have q := comp_all (t := t) (elt := elt) (g := gNm j) (fin := (srcN 0 n).fin) (S := S) (σ := σ) fs fv (fun (i : Nat) _ => some (.p (.int (0 + (i : Int))))) rfl (List.range n) [] (by simpa using hl) fun i hi => ⟨_, _, rfl, rfl, by
    rw [Int.zero_add]
    exact h i (List.mem_range.mp hi)⟩
  rw [List.nil_append] at q
  exact q
end
end Pv
namespace Pv
open PySem PySem.Spec PyProof.Rows L2
section
variable {S : SH} {ps qs : List P} {ds : List D}
theorem setIx_ri {m : Nat} {i : Int} {v : P} (hm : S.os[m]? = some (.lst ds)) (h0 : 0 ≤ i) (h : i.toNat < ds.length) : setIx (.ref m) (.p (.int i)) (.p v) S = some (S.put m (.lst (ds.set i.toNat (.p v)))) := by
  have e : ixN ds.length i = some i.toNat := by
    unfold ixN
    rw [if_pos h0, if_pos (by omega)]
  unfold setIx
  dsimp only
  rw [hm]
  dsimp only
  rw [e]
  dsimp only
  rw [if_pos (okRef_p S m v)]
theorem sl_hi {live : Bool} {a m : ME} {σ : En} {d : D} {i : Int} (ha : a σ S = some (d, S)) (hm : m σ S = some (.p (.int i), S)) : dSl live a none (some m) σ S = fSl live d none (some i) S := by
  unfold dSl
  rw [ha, bnd_some, bnd_some]
  dsimp only
  rw [hm, bnd_some, bnd_some]
theorem two_0 (b : Nat) (os : List Ob) (x y : Ob) : (SH.mk b (os ++ [x, y])).os[os.length]? = some x := by simp
theorem two_1 (b : Nat) (os : List Ob) (x y : Ob) : (SH.mk b (os ++ [x, y])).os[os.length + 1]? = some y := by simp
theorem put_0 (b : Nat) (os : List Ob) (x y z : Ob) : SH.put ⟨b, os ++ [x, y]⟩ os.length z = ⟨b, os ++ [z, y]⟩ := by
  unfold SH.put
  simp
theorem put_1 (b : Nat) (os : List Ob) (x y z : Ob) : SH.put ⟨b, os ++ [x, y]⟩ (os.length + 1) z = ⟨b, os ++ [x, z]⟩ := by
  unfold SH.put
  simp
end
end Pv
/-! what the X layer's computations give -/
namespace Pv
open PySem PySem.Spec PyProof.Rows L2
section
variable {σ : En} {S : SH} {a b : MX} {t : MT} {s : MS} {m : ME} {r : MA} {x : MEX} {fx : MFX}
def seqX (b : MX) : Fx → SH → Option (Fx × SH)
  | .fl (.nx σ1), S1 => b σ1 S1
  | .fl (.ret d), S1 => some (.fl (.ret d), S1)
  | .fl (.brk σ1), S1 => some (.fl (.brk σ1), S1)
  | .fl (.ct σ1), S1 => some (.fl (.ct σ1), S1)
  | .ex c σ1, S1 => some (.ex c σ1, S1)
  | .tu ds, S1 => some (.tu ds, S1)
theorem seqX_nx (σ1 : En) : seqX b (.fl (.nx σ1)) S = b σ1 S := id rfl
theorem seqX_ret (d : D) : seqX b (.fl (.ret d)) S = some (.fl (.ret d), S) := id rfl
theorem seqX_ex (c : Nat) (σ1 : En) : seqX b (.ex c σ1) S = some (.ex c σ1, S) := id rfl
theorem at_xSeq : xSeq a b σ S = bnd (a σ S) (seqX b) := by
  unfold xSeq
  congr 1
  funext f S1
  cases f with
  | fl f => cases f <;> rfl
  | ex c σ1 => rfl
  | tu ds => rfl
theorem at_xS : xS s σ S = bnd (s σ S) fun f S1 => some (.fl f, S1) := id rfl
theorem at_xE : xE m σ S = bnd (m σ S) fun d S1 => some (.ok d, S1) := id rfl
theorem at_xIf : xIf t a b σ S = bnd (t σ S) fun t S1 => if t = true then a σ S1 else b σ S1 := id rfl
theorem at_xRaise (c : Nat) : xRaise c σ S = some (.ex c σ, S) := id rfl
def setX (i : Nat) (σ : En) : Rx → SH → Option (Fx × SH)
  | .ok d, S1 => some (.fl (.nx (σ.set i (some d))), S1)
  | .ex c, S1 => some (.ex c σ, S1)
theorem setX_ok (i : Nat) (d : D) : setX i σ (.ok d) S = some (.fl (.nx (σ.set i (some d))), S) := id rfl
theorem setX_ex (i c : Nat) : setX i σ (.ex c) S = some (.ex c σ, S) := id rfl
theorem at_xSet (i : Nat) : xSet i x σ S = bnd (x σ S) (setX i σ) := by
  unfold xSet
  congr 1
  funext y S1
  cases y <;> rfl
theorem at_xMeth (c : Nat) (nm : Str) : xMeth c nm fx m r σ S = bnd (m σ S) fun d S1 => match fldsOf d S1 with
  | some (c', fs) => if c' = c ∧ fs.lookup nm = none then bnd (r σ S1) fun xs S2 => fx (d :: xs) S2 else none
  | none => none := id rfl
theorem at_xRetT : xRetT r σ S = bnd (r σ S) fun ds S1 => if ds.length ≤ sizeLine then some (.tu ds, S1) else none := id rfl
theorem at_xFor (ws : List Nat) {mi : MI} {g : MG} : xFor ws mi g a σ S = bnd (mi σ S) fun src S1 => forX ws src.fin g a src.items (wipeD ws σ) S1 := id rfl
theorem xfn_at {k n : Nat} {ds : List D} (h : ds.length = k) : xFn k n a ds S = frameX S (a (startD n ds) ⟨S.os.length, S.os⟩) := if_pos h
theorem frameX_ex (c : Nat) (σ1 : En) (S1 : SH) : frameX S (some (.ex c σ1, S1)) = some (.ex c, cutS S S1) := id rfl
theorem frameX_p (p : P) (S1 : SH) : frameX S (some (.fl (.ret (.p p)), S1)) = some (.ok (.p p), cutS S S1) := id rfl
def tryK (cs : List Nat) (s : MS) : Fx → SH → Option (Fl × SH)
  | .fl f, S1 => some (f, S1)
  | .ex c σ1, S1 => if cs.contains c = true then s σ1 S1 else none
  | .tu _, _ => none
theorem tryK_fl (cs : List Nat) (f : Fl) : tryK cs s (.fl f) S = some (f, S) := id rfl
theorem tryK_ex (cs : List Nat) (c : Nat) (σ1 : En) (h : cs.contains c = true) : tryK cs s (.ex c σ1) S = s σ1 S := if_pos h
theorem at_dTry (cs : List Nat) : dTry cs a s σ S = bnd (a σ S) (tryK cs s) := by
  unfold dTry
  congr 1
  funext f S1
  cases f <;> rfl
theorem at_dAug (i : Nat) (f : D → D → SH → Option (D × SH)) : dAug i f m σ S = match σ[i]? with
  | some (some d) => bnd (m σ S) fun y S1 => bnd (f d y S1) fun z S2 => some (.nx (σ.set i (some z)), S2)
  | _ => none := id rfl
theorem cut_put (m k : Nat) (o : Ob) : cutS S ⟨m, S.os.set k o⟩ = S.put k o := by
  unfold cutS SH.put
  rw [List.take_of_length_le (by rw [List.length_set]; exact Nat.le_refl _)]
theorem flds_r {n c : Nat} {fs : List (Str × D)} (h : S.os[n]? = some (.ins c fs)) : fldsOf (.ref n) S = some (c, fs) := by
  unfold fldsOf
  dsimp only
  rw [h]
theorem fld_rc {n c : Nat} {cs : List Nat} {fs : List (Str × D)} {f : Str} {y : D} (h : S.os[n]? = some (.ins c fs)) (hc : cs.contains c = true) (hx : fs.lookup f = some y) : dFld cs f (.ref n) S = some (y, S) := by
  unfold dFld
  rw [flds_r h]
  dsimp only
  rw [if_pos hc, hx]
theorem toP_lst {b n k : Nat} {ps : List P} (hn : b ≤ n) (e : S.os[n]? = some (.lst (ps.map D.p))) : toP (k + 1) b S (.ref n) = some (.lst ps) := by
  have q : (ps.map D.p).mapM (toP k b S) = some ps := by
    clear e
    induction ps with
    | nil => rfl
    | cons p ps ih => rw [List.map_cons, List.mapM_cons, ih]; cases k <;> rfl
  unfold toP
  rw [if_neg (by omega), e]
  dsimp only
  rw [q]
  rfl
theorem outD_lst {b n : Nat} {ps : List P} (hn : b ≤ n) (e : S.os[n]? = some (.lst (ps.map D.p))) : outD b S (.ref n) = some (.p (.lst ps)) := by
  unfold outD
  dsimp only
  rw [if_neg (by omega), toP_lst hn e]
  rfl
theorem frameX_tu {ds : List D} {ps : List P} {S1 : SH} (h : outDs S.len S1 ds = some ps) : frameX S (some (.tu ds, S1)) = some (.ok (.p (.tup ps)), cutS S S1) := by
  unfold frameX
  simp only [bnd_some, h]
end
end Pv
namespace Kb
open PySem PySem.Spec PyProof.Rows L2 Pv
def u_NUMBERBYTES : P := (.int 60)
def m_write_number : MF := dFn 1 2
    (dSeq (dSet 1 (dLst true dNil))
    (dSeq (dWhile [] wFuel (dTest (dOp fGe (dVar 0) (dC (.int 128))))
      (dSeq (dDrop (dBM "list" fApp (dVar 1) (dCons (dOp (fAdd false) (dOp fMod (dVar 0) (dC (.int 128))) (dC (.int 128))) dNil)))
    (dSet 0 (dOp fDiv (dVar 0) (dC (.int 128))))))
    (dSeq (dDrop (dBM "list" fApp (dVar 1) (dCons (dVar 0) dNil)))
    (dRet (dVar 1)))))
def m_Reader_init : MF := dFnL 2 2
    (dSeq (dSetF [2] "data" (dVar 0) (dCall (fList false) (dCons (dVar 1) dNil)))
    (dSetF [2] "at" (dVar 0) (dC (.int 0))))
def m_Reader_read_byte : MFX := xFn 1 1
    (xSeq (xIf (dTest (dOp fGe (dUn (dFld [2] "at") (dVar 0)) (dCall fLen (dCons (dUn (dFld [2] "data") (dVar 0)) dNil))))
      (xRaise 50)
      (xS dNx))
    (xS (dSeq (dAugF [2] "at" (fII (fun _ _ => true) fun i j => .int (i + j)) (dVar 0) (dC (.int 1)))
    (dRet (dOp fIx (dUn (dFld [2] "data") (dVar 0)) (dOp fSub (dUn (dFld [2] "at") (dVar 0)) (dC (.int 1))))))))
def m_Reader_read_number : MFX := xFn 1 5
    (xSeq (xS (dSet 1 (dC (.int 0))))
    (xSeq (xS (dSet 2 (dC (.int 1))))
    (xSeq (xFor [3, 4] (dRng1 (dCons (dC u_NUMBERBYTES) dNil)) (gNm 3)
      (xSeq (xSet 4 (xMeth 2 "read_byte" m_Reader_read_byte (dVar 0) dNil))
    (xSeq (xS (dAug 1 fAug (dOp fMul (dOp fMod (dVar 4) (dC (.int 128))) (dVar 2))))
    (xSeq (xS (dSet 2 (dOp fMul (dVar 2) (dC (.int 128)))))
    (xIf (dTest (dOp fLt (dVar 4) (dC (.int 128))))
      (xSeq (xIf (dAnd (dTest (dOp (fEq false) (dVar 4) (dC (.int 0)))) (dTest (dOp fGt (dVar 3) (dC (.int 0)))))
      (xRaise 50)
      (xS dNx))
    (xS (dRet (dVar 1))))
      (xS dNx))))))
    (xRaise 50))))
def m_checksum : MF := dFn 1 3
    (dSeq (dSet 1 (dC (.int 7)))
    (dSeq (dFor [0, 2] (dIt (dVar 0)) (gNm 2)
      (dSet 1 (dOp fMod (dOp (fAdd false) (dOp (fAdd false) (dOp fMul (dC (.int 31)) (dVar 1)) (dVar 2)) (dC (.int 1))) (dC (.int 4294967296)))))
    (dRet (dVar 1))))
def m_write_record : MF := dFn 1 3
    (dSeq (dSet 1 (dCall m_checksum (dCons (dVar 0) dNil)))
    (dSeq (dSet 2 (dLst false (dCons (dOp fDiv (dVar 1) (dC (.int 16777216))) (dCons (dOp fMod (dOp fDiv (dVar 1) (dC (.int 65536))) (dC (.int 256))) (dCons (dOp fMod (dOp fDiv (dVar 1) (dC (.int 256))) (dC (.int 256))) (dCons (dOp fMod (dVar 1) (dC (.int 256))) dNil))))))
    (dRet (dOp (fAdd true) (dOp (fAdd false) (dCall m_write_number (dCons (dCall fLen (dCons (dVar 0) dNil)) dNil)) (dCall (fList false) (dCons (dVar 0) dNil))) (dVar 2)))))
def mL_write_record : MF := dFnL 1 3
    (dSeq (dSet 1 (dCall m_checksum (dCons (dVar 0) dNil)))
    (dSeq (dSet 2 (dLst false (dCons (dOp fDiv (dVar 1) (dC (.int 16777216))) (dCons (dOp fMod (dOp fDiv (dVar 1) (dC (.int 65536))) (dC (.int 256))) (dCons (dOp fMod (dOp fDiv (dVar 1) (dC (.int 256))) (dC (.int 256))) (dCons (dOp fMod (dVar 1) (dC (.int 256))) dNil))))))
    (dRet (dOp (fAdd true) (dOp (fAdd false) (dCall m_write_number (dCons (dCall fLen (dCons (dVar 0) dNil)) dNil)) (dCall (fList false) (dCons (dVar 0) dNil))) (dVar 2)))))
def m_record_size : MF := dFn 2 4
    (dSeq (dSet 2 (dMake true 2 m_Reader_init (dCons (dSl false (dVar 0) (some (dVar 1)) none) dNil)))
    (dSeq (dTry [50] (xSet 3 (xMeth 2 "read_number" m_Reader_read_number (dVar 2) dNil))
      (dRet (dC .non)))
    (dRet (dTup (dCons (dUn (dFld [2] "at") (dVar 2)) (dCons (dVar 3) dNil))))))
def m_read_records : MF := dFnX 1 6
    (xSeq (xS (dSet 1 (dLst true dNil)))
    (xSeq (xS (dSet 2 (dC (.int 0))))
    (xSeq (xS (dWhile [3, 4, 5] wFuel (dTest (dOp fLt (dVar 2) (dCall fLen (dCons (dVar 0) dNil))))
      (dSeq (dSet 3 (dCall m_record_size (dCons (dVar 0) (dCons (dVar 2) dNil))))
    (dSeq (dIf (dTest (dOp (fIs false) (dVar 3) (dC .non)))
      dBrk
      dNx)
    (dSeq (dSet 4 (dOp (fAdd false) (dVar 2) (dOp fIx (dVar 3) (dC (.int 0)))))
    (dSeq (dSet 5 (dOp (fAdd false) (dVar 4) (dOp fIx (dVar 3) (dC (.int 1)))))
    (dSeq (dIf (dOr (dTest (dOp fGt (dOp (fAdd false) (dVar 5) (dC (.int 4))) (dCall fLen (dCons (dVar 0) dNil)))) (dTest (dOp (fEq true) (dCall m_write_record (dCons (dSl false (dVar 0) (some (dVar 4)) (some (dVar 5))) dNil)) (dSl false (dVar 0) (some (dVar 2)) (some (dOp (fAdd false) (dVar 5) (dC (.int 4))))))))
      dBrk
      dNx)
    (dSeq (dDrop (dBM "list" fApp (dVar 1) (dCons (dSl false (dVar 0) (some (dVar 4)) (some (dVar 5))) dNil)))
    (dSet 2 (dOp (fAdd false) (dVar 5) (dC (.int 4))))))))))))
    (xRetT (dCons (dVar 1) (dCons (dVar 2) dNil))))))
def m_draw : MF := dFn 2 5
    (dSeq (dIf (dNot (dTru (dVar 0)))
      (dRet (dOp fMod (dOp fMul (dVar 1) (dC (.int 5))) (dC (.int 7))))
      dNx)
    (dSeq (dSet 2 (dCall fInt (dCons (dOp fIx (dVar 0) (dOp fMod (dVar 1) (dCall fLen (dCons (dVar 0) dNil)))) dNil)))
    (dSeq (dSet 3 (dOp fDiv (dVar 1) (dCall fLen (dCons (dVar 0) dNil))))
    (dSeq (dIf (dTest (dOp fGe (dVar 2) (dC (.int 1000000000000000000))))
      (dSeq (dFor [0, 1, 3, 4] (dRng1 (dCons (dCall fMin (dCons (dVar 3) (dCons (dC (.int 60)) dNil))) dNil)) (gNm 4)
      (dSet 2 (dOp fDiv (dVar 2) (dC (.int 100003)))))
    (dRet (dOp fMod (dVar 2) (dC (.int 100003)))))
      dNx)
    (dRet (dOp fMod (dOp fMul (dOp fMod (dOp (fAdd false) (dOp (fAdd false) (dOp fMul (dVar 2) (dC (.int 48271))) (dOp fMul (dVar 1) (dC (.int 69621)))) (dC (.int 13))) (dC (.int 2147483647))) (dC (.int 16807))) (dC (.int 2147483629))))))))
def m_sum : MF := dFn 1 3
    (dSeq (dSet 1 (dC (.int 7)))
    (dSeq (dFor [0, 2] (dIt (dVar 0)) (gNm 2)
      (dSet 1 (dOp fMod (dOp (fAdd false) (dOp (fAdd false) (dOp fMul (dC (.int 31)) (dVar 1)) (dVar 2)) (dC (.int 1))) (dC (.int 4294967296)))))
    (dRet (dVar 1))))
def m_data : MF := dFn 1 3
    (dSeq (dSet 1 (dOp fMod (dVar 0) (dC (.int 12))))
    (dSeq (dIf (dTest (dOp (fEq false) (dOp fMod (dOp fDiv (dVar 0) (dC (.int 12))) (dC (.int 5))) (dC (.int 0))))
      (dSet 1 (dOp (fAdd false) (dC (.int 100)) (dOp fMod (dVar 0) (dC (.int 41)))))
      dNx)
    (dRet (dComp false (dRng1 (dCons (dVar 1) dNil)) (gNm 2) dYes (dOp fMod (dOp (fAdd false) (dVar 0) (dOp fMul (dOp fMul (dC (.int 7)) (dVar 2)) (dVar 2))) (dC (.int 256))) [2]))))
def m_law : MF := dFn 1 12
    (dSeq (dSet 1 (dLst true dNil))
    (dSeq (dSet 2 (dLst false dNil))
    (dSeq (dSet 3 (dLst true (dCons (dC (.int 0)) dNil)))
    (dSeq (dFor [4, 5, 6, 7, 8, 9, 10, 11] (dRng1 (dCons (dCall fMin (dCons (dC (.int 6)) (dCons (dCall fLen (dCons (dVar 0) dNil)) dNil))) dNil)) (gNm 4)
      (dSeq (dSet 5 (dCall m_data (dCons (dCall m_draw (dCons (dVar 0) (dCons (dVar 4) dNil))) dNil)))
    (dSeq (dDrop (dBM "list" fApp (dVar 1) (dCons (dVar 5) dNil)))
    (dSeq (dIf (dTest (dOp (fEq true) (dCall m_checksum (dCons (dCall (fList false) (dCons (dVar 5) dNil)) dNil)) (dCall m_sum (dCons (dVar 5) dNil))))
      (dRet (dC (.bl false)))
      dNx)
    (dSeq (dSet 6 (dCall m_write_record (dCons (dCall (fList false) (dCons (dVar 5) dNil)) dNil)))
    (dSeq (dIf (dTest (dOp (fEq true) (dSl false (dVar 6) (some (dOp fSub (dOp fSub (dCall fLen (dCons (dVar 6) dNil)) (dC (.int 4))) (dCall fLen (dCons (dVar 5) dNil)))) (some (dOp fSub (dCall fLen (dCons (dVar 6) dNil)) (dC (.int 4))))) (dVar 5)))
      (dRet (dC (.bl false)))
      dNx)
    (dSeq (dSet 2 (dOp (fAdd false) (dVar 2) (dVar 6)))
    (dDrop (dBM "list" fApp (dVar 3) (dCons (dCall fLen (dCons (dVar 2) dNil)) dNil))))))))))
    (dSeq (dSet 7 (dCall m_draw (dCons (dVar 0) (dCons (dCall fLen (dCons (dVar 0) dNil)) dNil))))
    (dSeq (dSet 8 (dCall mL_write_record (dCons (dCall m_data (dCons (dOp fDiv (dVar 7) (dC (.int 3))) dNil)) dNil)))
    (dSeq (dIf (dTest (dOp (fEq false) (dOp fMod (dVar 7) (dC (.int 3))) (dC (.int 1))))
      (dSet 8 (dSl true (dVar 8) none (some (dOp fMod (dOp fDiv (dVar 7) (dC (.int 7))) (dCall fLen (dCons (dVar 8) dNil))))))
      (dIf (dTest (dOp (fEq false) (dOp fMod (dVar 7) (dC (.int 3))) (dC (.int 2))))
      (dSeq (dSet 9 (dOp fSub (dOp fSub (dCall fLen (dCons (dVar 8) dNil)) (dC (.int 1))) (dOp fMod (dOp fDiv (dVar 7) (dC (.int 7))) (dC (.int 4)))))
    (dAsg (dOp fMod (dOp (fAdd false) (dOp (fAdd false) (dOp fIx (dVar 8) (dVar 9)) (dC (.int 1))) (dOp fMod (dOp fDiv (dVar 7) (dC (.int 31))) (dC (.int 255)))) (dC (.int 256))) (gSb (dVar 8) (dVar 9))))
      (dSet 8 (dLst true dNil))))
    (dSeq (dIf (dTest (dEqT true (dCall m_read_records (dCons (dOp (fAdd false) (dVar 2) (dVar 8)) dNil)) (dCons (dVar 1) (dCons (dCall fLen (dCons (dVar 2) dNil)) dNil))))
      (dRet (dC (.bl false)))
      dNx)
    (dSeq (dSet 10 (dOp fMod (dOp fDiv (dVar 7) (dC (.int 5))) (dOp (fAdd false) (dC (.int 1)) (dCall fLen (dCons (dVar 2) dNil)))))
    (dSeq (dSet 11 (dC (.int 0)))
    (dSeq (dWhile [0, 4, 5, 6, 7, 8, 9] wFuel (dAnd (dTest (dOp fLt (dOp (fAdd false) (dVar 11) (dC (.int 1))) (dCall fLen (dCons (dVar 3) dNil)))) (dTest (dOp fLe (dOp fIx (dVar 3) (dOp (fAdd false) (dVar 11) (dC (.int 1)))) (dVar 10))))
      (dAug 11 fAug (dC (.int 1))))
    (dRet (dOp (fEq false) (dCall m_read_records (dCons (dSl false (dVar 2) none (some (dVar 10))) dNil)) (dTup (dCons (dSl false (dVar 1) none (some (dVar 11))) (dCons (dOp fIx (dVar 3) (dVar 11)) dNil))))))))))))))))
end Kb
namespace Kb
open PySem PySem.Spec PyProof.Rows L2 Pv
/-- the digits to base 128, k + 1 of them at most -/
def wnd : Nat → Nat → List Int
  | 0, n => [(n : Int)]
  | k + 1, n => if n < 128 then [(n : Int)] else ((n % 128 + 128 : Nat) : Int) :: wnd k (n / 128)
theorem wnd_len : ∀ (k n : Nat), (wnd k n).length ≤ k + 1
  | 0, n => Nat.le_refl _
  | k + 1, n => by
    unfold wnd
    split
    · simp
    · rw [List.length_cons]
      have := wnd_len k (n / 128)
      omega
abbrev wB : MS := (dSeq (dDrop (dBM "list" fApp (dVar 1) (dCons (dOp (fAdd false) (dOp fMod (dVar 0) (dC (.int 128))) (dC (.int 128))) dNil)))
    (dSet 0 (dOp fDiv (dVar 0) (dC (.int 128)))))
/-- one turn -/
theorem w_turn (n : Nat) (b : Nat) (os : List Ob) (acc : List Int) (hl : acc.length < 1000) : wB [some (.p (.int (n : Int))), some (.ref os.length)] ⟨b, os ++ [.lst ((intsP acc).map D.p)]⟩ =
    some (.nx [some (.p (.int ((n / 128 : Nat) : Int))), some (.ref os.length)], ⟨b, os ++ [.lst ((intsP (acc ++ [((n % 128 + 128 : Nat) : Int)])).map D.p)]⟩) := by
  have e := at_last b os (.lst ((intsP acc).map D.p))
  have ty := isTy_ref e
  have hd : divOk (n : Int) 128 = true := divOk_c (by decide) (by decide)
  have ap : fApp [.ref os.length, .p (.int ((n : Int) % 128 + 128))] ⟨b, os ++ [.lst ((intsP acc).map D.p)]⟩ = some (.p .non, ⟨b, os ++ [.lst ((intsP (acc ++ [((n % 128 + 128 : Nat) : Int)])).map D.p)]⟩) := by
    rw [fApp_p e (by rw [List.length_map, intsP_len]; have := line_ge; omega), put_last]
    have h2 : ((n % 128 + 128 : Nat) : Int) = (n : Int) % 128 + 128 := by omega
    rw [h2]
    unfold intsP
    simp
  have hq : (n : Int) / 128 = ((n / 128 : Nat) : Int) := by omega
  unfold wB
  simp only [at_dSeq, at_dDrop, at_dBM, at_dCons, at_dOp, at_dVar, at_dC, at_dNil, at_dSet, bnd_some, seqK_nx, List.getElem?_cons_zero, List.getElem?_cons_succ, List.set_cons_zero, fII_eq, fAdd_i, ty, if_true, ap, hd, decide_eq_true_eq, Int.reduceLT, hq]
theorem w_loop (b : Nat) (os : List Ob) (f : Nat) : ∀ (k n : Nat) (acc : List Int), n < 128 ^ (k + 1) → acc.length + k < 900 → ∃ (r : List Int) (n' : Nat), wnd k n = r ++ [(n' : Int)] ∧
    whL [] (dTest (dOp fGe (dVar 0) (dC (.int 128)))) wB (f + k + 1) [some (.p (.int (n : Int))), some (.ref os.length)] ⟨b, os ++ [.lst ((intsP acc).map D.p)]⟩ =
      some (.nx [some (.p (.int (n' : Int))), some (.ref os.length)], ⟨b, os ++ [.lst ((intsP (acc ++ r)).map D.p)]⟩)
  | k, n, acc, hn, hl => by
    by_cases h : n < 128
    · refine ⟨[], n, ?_, ?_⟩
      · cases k with
        | zero => rfl
        | succ k => unfold wnd; rw [if_pos h]; rfl
      · have ht : ∀ S, fGe (.p (.int (n : Int))) (.p (.int 128)) S = some (.p (.bl false), S) := fun S => (fII_eq _ _ _ _ S).trans (by rw [if_pos rfl, decide_eq_false (by omega)])
        rw [whL]
        simp only [at_dTest, at_dOp, at_dVar, at_dC, bnd_some, List.getElem?_cons_zero, ht, toB_p, Bool.false_eq_true, if_false, List.append_nil]
    · cases k with
      | zero => exact absurd hn (by omega)
      | succ k =>
        have ht : ∀ S, fGe (.p (.int (n : Int))) (.p (.int 128)) S = some (.p (.bl true), S) := fun S => (fII_eq _ _ _ _ S).trans (by rw [if_pos rfl, decide_eq_true (by omega)])
        have hn2 : n / 128 < 128 ^ (k + 1) := by
          rw [Nat.div_lt_iff_lt_mul (by decide)]
          exact hn
        obtain ⟨r, n', e1, e2⟩ := w_loop b os f k (n / 128) (acc ++ [((n % 128 + 128 : Nat) : Int)]) hn2 (by rw [List.length_append, List.length_singleton]; omega)
        refine ⟨((n % 128 + 128 : Nat) : Int) :: r, n', ?_, ?_⟩
        · unfold wnd
          rw [if_neg h, e1]
          rfl
        · have ef : f + (k + 1) + 1 = (f + k + 1) + 1 := by omega
          rw [ef, whL]
          simp only [at_dTest, at_dOp, at_dVar, at_dC, bnd_some, List.getElem?_cons_zero, ht, toB_p, if_true, w_turn n b os acc (by omega), wipeD]
          rw [e2, List.append_assoc]
          rfl

theorem at_dWhile {ws : List Nat} {f : Nat} {t : MT} {b : MS} {σ : En} {S : SH} : dWhile ws f t b σ S = whL ws t b f (wipeD ws σ) S := id rfl
theorem fuel_at (k : Nat) (h : k ≤ 100) : wFuel = (999999 - k) + k + 1 := by
  show 1000000 = _
  omega
/-- the body of write_number -/
theorem wn_body (n : Nat) (hn : n < 128 ^ 61) (S : SH) (b : Nat) : (dSeq (dSet 1 (dLst true dNil))
    (dSeq (dWhile [] wFuel (dTest (dOp fGe (dVar 0) (dC (.int 128)))) wB)
    (dSeq (dDrop (dBM "list" fApp (dVar 1) (dCons (dVar 0) dNil)))
    (dRet (dVar 1))))) [some (.p (.int (n : Int))), none] ⟨b, S.os⟩ = some (.ret (.ref S.os.length), ⟨b, S.os ++ [.lst ((intsP (wnd 60 n)).map D.p)]⟩) := by
  obtain ⟨r, n', e1, e2⟩ := w_loop b S.os (999999 - 60) 60 n [] hn (by simp)
  rw [← fuel_at 60 (by omega)] at e2
  have l1 : newL true [] ⟨b, S.os⟩ = some (.ref S.os.length, ⟨b, S.os ++ [.lst ((intsP []).map D.p)]⟩) := newL_t [] (Nat.zero_le _)
  have e := at_last b S.os (.lst ((intsP ([] ++ r)).map D.p))
  have hr : r.length ≤ 60 := by
    have := wnd_len 60 n
    rw [e1, List.length_append, List.length_singleton] at this
    omega
  have ap : fApp [.ref S.os.length, .p (.int (n' : Int))] ⟨b, S.os ++ [.lst ((intsP ([] ++ r)).map D.p)]⟩ = some (.p .non, ⟨b, S.os ++ [.lst ((intsP (wnd 60 n)).map D.p)]⟩) := by
    rw [fApp_p e (by rw [List.length_map, intsP_len, List.nil_append]; have := line_ge; omega), put_last, e1]
    unfold intsP
    simp
  have ty := isTy_ref e
  simp only [at_dSeq, at_dSet, at_dLst, at_dNil, bnd_some, l1, seqK_nx, at_dWhile, wipeD, List.set_cons_zero, List.set_cons_succ, e2, at_dDrop, at_dBM, at_dVar, at_dCons, List.getElem?_cons_zero, List.getElem?_cons_succ, ty, if_true, ap, at_dRet]
theorem wn_eq (n : Nat) (hn : n < 128 ^ 61) (S : SH) : m_write_number [.p (.int (n : Int))] S = some (.p (.lst (intsP (wnd 60 n))), S) := by
  unfold m_write_number
  rw [fn_at (k := 1) rfl]
  have ev : startD 2 [.p (.int (n : Int))] = [some (.p (.int (n : Int))), none] := rfl
  rw [ev, wn_body n hn S, frame_ref (Nat.le_refl _) (at_last _ _ _), cut_app]
end Kb
namespace Kb
open PySem PySem.Spec PyProof.Rows L2 Pv
/-! lists of whole numbers -/
theorem small {n : Nat} (h : n ≤ 1000000) : n ≤ sizeLine := Nat.le_trans h line_ge
theorem intsP_app (a b : List Int) : intsP (a ++ b) = intsP a ++ intsP b := List.map_append
theorem add_l (a c : List Int) (hl : a.length + c.length ≤ 1000000) (S : SH) : fAdd false (.p (.lst (intsP a))) (.p (.lst (intsP c))) S = some (.p (.lst (intsP (a ++ c))), S) := by
  unfold fAdd
  simp only [asL_l]
  rw [← List.map_append, ← intsP_app, newL_f _ (small (by rw [intsP_len, List.length_append]; exact hl))]
theorem add_t (b : Nat) (os : List Ob) (a c : List Int) (hl : a.length + c.length ≤ 1000000) : fAdd true (.p (.lst (intsP a))) (.p (.lst (intsP c))) ⟨b, os⟩ = some (.ref os.length, ⟨b, os ++ [.lst ((intsP (a ++ c)).map D.p)]⟩) := by
  unfold fAdd
  simp only [asL_l]
  rw [newL_t _ (small (by rw [List.length_append, List.length_map, List.length_map, intsP_len, intsP_len]; exact hl))]
  simp only [intsP_app, List.map_append]
theorem ints_lit (S : SH) (a : List Int) (ds : List D) (e : ds = (intsP a).map D.p) (hl : a.length ≤ 1000) : newL false ds S = some (.p (.lst (intsP a)), S) := by
  rw [e]
  exact newL_f _ (small (by rw [intsP_len]; omega))
theorem list_l (a : List Int) (hl : a.length ≤ 1000000) (S : SH) : fList false [.p (.lst (intsP a))] S = some (.p (.lst (intsP a)), S) := fList_l (small (by rw [intsP_len]; exact hl))
theorem sIx_none (n d : Nat) : HT.sIx n d none = d := rfl
theorem sIx_nat (n d a : Nat) : HT.sIx n d (some (a : Int)) = min a n := by
  unfold HT.sIx
  dsimp only
  rw [if_neg (by omega), Int.toNat_natCast]
/-- a part of a list of whole numbers -/
theorem cut_from (xs : List Int) (a : Nat) (ha : a ≤ xs.length) : Pv.cutD ((intsP xs).map D.p) (some (a : Int)) none = (intsP (xs.drop a)).map D.p := by
  unfold Pv.cutD
  rw [sIx_none, sIx_nat, List.length_map, intsP_len, Nat.min_eq_left ha]
  unfold intsP
  rw [← List.map_drop, ← List.map_drop, List.take_of_length_le (by simp)]
theorem cut_both (xs : List Int) (a b : Nat) (ha : a ≤ xs.length) (hb : b ≤ xs.length) : Pv.cutD ((intsP xs).map D.p) (some (a : Int)) (some (b : Int)) = (intsP ((xs.drop a).take (b - a))).map D.p := by
  unfold Pv.cutD
  rw [sIx_nat, sIx_nat, List.length_map, intsP_len, Nat.min_eq_left ha, Nat.min_eq_left hb]
  unfold intsP
  rw [← List.map_drop, ← List.map_drop, ← List.map_take, ← List.map_take]
theorem cut_to (xs : List Int) (b : Nat) (hb : b ≤ xs.length) : Pv.cutD ((intsP xs).map D.p) none (some (b : Int)) = (intsP (xs.take b)).map D.p := by
  unfold Pv.cutD
  rw [sIx_none, sIx_nat, List.length_map, intsP_len, Nat.min_eq_left hb, List.drop_zero, Nat.sub_zero]
  unfold intsP
  rw [← List.map_take, ← List.map_take]
theorem fSl_from (xs : List Int) (a : Nat) (ha : a ≤ xs.length) (hl : xs.length ≤ 1000000) (S : SH) : fSl false (.p (.lst (intsP xs))) (some (a : Int)) none S = some (.p (.lst (intsP (xs.drop a))), S) := by
  show newL false (Pv.cutD ((intsP xs).map D.p) _ _) S = _
  rw [cut_from xs a ha, newL_f _ (small (by rw [intsP_len, List.length_drop]; omega))]
theorem fSl_both (xs : List Int) (a b : Nat) (ha : a ≤ xs.length) (hb : b ≤ xs.length) (hl : xs.length ≤ 1000000) (S : SH) : fSl false (.p (.lst (intsP xs))) (some (a : Int)) (some (b : Int)) S = some (.p (.lst (intsP ((xs.drop a).take (b - a)))), S) := by
  show newL false (Pv.cutD ((intsP xs).map D.p) _ _) S = _
  rw [cut_both xs a b ha hb, newL_f _ (small (by rw [intsP_len, List.length_take, List.length_drop]; omega))]
theorem fSl_to (xs : List Int) (b : Nat) (hb : b ≤ xs.length) (hl : xs.length ≤ 1000000) (S : SH) : fSl false (.p (.lst (intsP xs))) none (some (b : Int)) S = some (.p (.lst (intsP (xs.take b))), S) := by
  show newL false (Pv.cutD ((intsP xs).map D.p) _ _) S = _
  rw [cut_to xs b hb, newL_f _ (small (by rw [intsP_len, List.length_take]; omega))]
theorem sl_lo {live : Bool} {a m : ME} {σ : En} {d : D} {i : Int} {S : SH} (ha : a σ S = some (d, S)) (hm : m σ S = some (.p (.int i), S)) : dSl live a (some m) none σ S = fSl live d (some i) none S := by
  unfold dSl
  rw [ha, bnd_some]
  dsimp only
  rw [hm]
  simp only [bnd_some]
theorem sl_lh {live : Bool} {a m m2 : ME} {σ : En} {d : D} {i j : Int} {S : SH} (ha : a σ S = some (d, S)) (hm : m σ S = some (.p (.int i), S)) (hm2 : m2 σ S = some (.p (.int j), S)) : dSl live a (some m) (some m2) σ S = fSl live d (some i) (some j) S := by
  unfold dSl
  rw [ha, bnd_some]
  dsimp only
  rw [hm]
  simp only [bnd_some]
  rw [hm2]
  simp only [bnd_some]
/-- whole numbers that are bytes -/
def Byt (l : List Int) : Prop := ∀ b ∈ l, 0 ≤ b ∧ b < 256
theorem Byt.app {a b : List Int} (ha : Byt a) (hb : Byt b) : Byt (a ++ b) := fun x hx => (List.mem_append.mp hx).elim (ha x) (hb x)
/-- the checksum -/
def chk (l : List Int) : Int := l.foldl (fun t b => (31 * t + b + 1) % 4294967296) 7
theorem chk_r (l : List Int) : 0 ≤ chk l ∧ chk l < 4294967296 := by
  unfold chk
  suffices h : ∀ (l : List Int) (t : Int), (0 ≤ t ∧ t < 4294967296) → 0 ≤ l.foldl (fun t b => (31 * t + b + 1) % 4294967296) t ∧ l.foldl (fun t b => (31 * t + b + 1) % 4294967296) t < 4294967296 from h l 7 (by decide)
  intro l
  induction l with
  | nil => exact fun t h => h
  | cons b l ih => exact fun t h => ih _ ⟨Int.emod_nonneg _ (by decide), Int.emod_lt_of_pos _ (by decide)⟩
abbrev ckB : MS := (dSet 1 (dOp fMod (dOp (fAdd false) (dOp (fAdd false) (dOp fMul (dC (.int 31)) (dVar 1)) (dVar 2)) (dC (.int 1))) (dC (.int 4294967296))))
theorem ck_body (l : List Int) (S : SH) : (dSeq (dSet 1 (dC (.int 7)))
    (dSeq (dFor [0, 2] (dIt (dVar 0)) (gNm 2) ckB)
    (dRet (dVar 1)))) [some (.p (.lst (intsP l))), none, none] S = some (.ret (.p (.int (chk l))), S) := by
  obtain ⟨σ1, S1, q1, rfl, rfl⟩ := p_inv (body := ckB) (ws := [0, 2]) (j := 2) (fun i σ S' => σ = [none, some (.p (.int (chk (l.take i)))), none] ∧ S' = S) (intsP l)
    (σ := [none, some (.p (.int 7)), none]) (S := S) ⟨rfl, rfl⟩ (by
      rintro i q σ S1 hq ⟨rfl, rfl⟩
      unfold intsP at hq
      rw [List.getElem?_map] at hq
      cases e : l[i]? with
      | none => rw [e] at hq; cases hq
      | some b =>
      rw [e] at hq
      cases hq
      have m1 : ∀ x : Int, mulOk 31 x = true := fun x => mulOk_l (by decide)
      have et : chk (l.take (i + 1)) = (31 * chk (l.take i) + b + 1) % 4294967296 := by
        unfold chk
        rw [List.take_add_one, e, List.foldl_append]
        rfl
      refine ⟨[none, some (.p (.int (chk (l.take (i + 1))))), some (.p (.int b))], S1, .inl ?_, rfl, rfl⟩
      simp only [at_dSet, at_dOp, at_dVar, at_dC, bnd_some, List.set_cons_zero, List.set_cons_succ, List.getElem?_cons_zero, List.getElem?_cons_succ, fII_eq, fAdd_i, m1, if_true, decide_eq_true_eq, Int.reduceLT, et])
  rw [intsP_len, List.take_length] at q1
  have src : ∀ T, srcOf (.p (.lst (intsP l))) T = some (srcP (intsP l), T) := fun _ => rfl
  rw [at_dSeq]
  simp only [at_dSet, at_dC, bnd_some, List.set_cons_zero, List.set_cons_succ, seqK_nx]
  rw [at_dSeq, at_dFor]
  simp only [at_dIt, at_dVar, bnd_some, List.getElem?_cons_zero, src, wipeD, List.set_cons_zero, List.set_cons_succ]
  rw [q1, bnd_some, seqK_nx]
  simp only [at_dRet, at_dVar, bnd_some, List.getElem?_cons_zero, List.getElem?_cons_succ]
theorem ck_eq (l : List Int) (S : SH) : m_checksum [.p (.lst (intsP l))] S = some (.p (.int (chk l)), S) := by
  have ev : startD 3 [.p (.lst (intsP l))] = [some (.p (.lst (intsP l))), none, none] := rfl
  unfold m_checksum
  rw [fn_at (k := 1) rfl, ev, ck_body, frame_p, cut_self]
theorem sum_eq (l : List Int) (S : SH) : m_sum [.p (.lst (intsP l))] S = some (.p (.int (chk l)), S) := by
  have ev : startD 3 [.p (.lst (intsP l))] = [some (.p (.lst (intsP l))), none, none] := rfl
  unfold m_sum
  rw [fn_at (k := 1) rfl, ev, ck_body, frame_p, cut_self]
/-- a record -/
def tailL (t : Int) : List Int := [t / 16777216, t / 65536 % 256, t / 256 % 256, t % 256]
def recL (l : List Int) : List Int := wnd 60 l.length ++ l ++ tailL (chk l)
theorem tailL_byt {t : Int} (h : 0 ≤ t ∧ t < 4294967296) : Byt (tailL t) := by
  intro b hb
  simp only [tailL, List.mem_cons, List.mem_nil_iff, or_false] at hb
  omega
theorem wr_body (l : List Int) (hl : l.length ≤ 1000) (S : SH) (b : Nat) : (dSeq (dSet 1 (dCall m_checksum (dCons (dVar 0) dNil)))
    (dSeq (dSet 2 (dLst false (dCons (dOp fDiv (dVar 1) (dC (.int 16777216))) (dCons (dOp fMod (dOp fDiv (dVar 1) (dC (.int 65536))) (dC (.int 256))) (dCons (dOp fMod (dOp fDiv (dVar 1) (dC (.int 256))) (dC (.int 256))) (dCons (dOp fMod (dVar 1) (dC (.int 256))) dNil))))))
    (dRet (dOp (fAdd true) (dOp (fAdd false) (dCall m_write_number (dCons (dCall fLen (dCons (dVar 0) dNil)) dNil)) (dCall (fList false) (dCons (dVar 0) dNil))) (dVar 2))))) [some (.p (.lst (intsP l))), none, none] ⟨b, S.os⟩ = some (.ret (.ref S.os.length), ⟨b, S.os ++ [.lst ((intsP (recL l)).map D.p)]⟩) := by
  have d1 : divOk (chk l) 16777216 = true := divOk_c (by decide) (by decide)
  have d2 : divOk (chk l) 65536 = true := divOk_c (by decide) (by decide)
  have d3 : divOk (chk l) 256 = true := divOk_c (by decide) (by decide)
  have nl := fun T => ints_lit T (tailL (chk l)) [.p (.int (chk l / 16777216)), .p (.int (chk l / 65536 % 256)), .p (.int (chk l / 256 % 256)), .p (.int (chk l % 256))] rfl (by simp [tailL])
  have hn : ∀ T, fLen [.p (.lst (intsP l))] T = some (.p (.int (l.length : Int)), T) := fun T => by rw [fLen_l, intsP_len]
  have wn := fun T => wn_eq l.length (Nat.lt_of_le_of_lt hl (by decide)) T
  have z := wnd_len 60 l.length
  have a1 := fun T => add_l (wnd 60 l.length) l (by omega) T
  have a2 := add_t b S.os (wnd 60 l.length ++ l) (tailL (chk l)) (by rw [List.length_append]; simp only [tailL, List.length_cons, List.length_nil]; omega)
  have ll := fun T => list_l l (by omega) T
  rw [at_dSeq]
  simp only [at_dSet, at_dCall, at_dCons, at_dVar, at_dNil, bnd_some, List.getElem?_cons_zero, ck_eq, List.set_cons_zero, List.set_cons_succ, seqK_nx]
  rw [at_dSeq]
  simp only [at_dSet, at_dLst, at_dOp, at_dCons, at_dVar, at_dC, at_dNil, bnd_some, List.getElem?_cons_zero, List.getElem?_cons_succ, fII_eq, d1, d2, d3, if_true, decide_eq_true_eq, Int.reduceLT, nl, List.set_cons_zero, List.set_cons_succ, seqK_nx]
  simp only [at_dRet, at_dOp, at_dCall, at_dCons, at_dVar, at_dNil, bnd_some, List.getElem?_cons_zero, List.getElem?_cons_succ, hn, wn, ll, a1, a2]
  rfl
theorem wr_eq (l : List Int) (hl : l.length ≤ 1000) (S : SH) : m_write_record [.p (.lst (intsP l))] S = some (.p (.lst (intsP (recL l))), S) := by
  have ev : startD 3 [.p (.lst (intsP l))] = [some (.p (.lst (intsP l))), none, none] := rfl
  unfold m_write_record
  rw [fn_at (k := 1) rfl, ev, wr_body l hl, frame_ref (Nat.le_refl _) (at_last _ _ _), cut_app]
theorem wrL_eq (l : List Int) (hl : l.length ≤ 1000) (S : SH) : mL_write_record [.p (.lst (intsP l))] S = some (.ref S.os.length, ⟨S.b, S.os ++ [.lst ((intsP (recL l)).map D.p)]⟩) := by
  have ev : startD 3 [.p (.lst (intsP l))] = [some (.p (.lst (intsP l))), none, none] := rfl
  have e := wr_body l hl S S.b
  unfold mL_write_record
  rw [fnL_at (k := 1) rfl, ev]
  rw [show (S : SH) = ⟨S.b, S.os⟩ from rfl, e, live_ret]
end Kb
namespace Kb
open PySem PySem.Spec PyProof.Rows L2 Pv
/-! the reader -/
def rdG (L : List Int) (i : Nat) : List (Str × D) := [("data", .p (.lst (intsP L))), ("at", .p (.int (i : Int)))]
abbrev rdO (L : List Int) (i : Nat) : Ob := .ins 2 (rdG L i)
section
variable {k i : Nat} {L : List Int} {T : SH} (h : T.os[k]? = some (rdO L i))
include h
theorem rd_data : dFld [2] "data" (.ref k) T = some (.p (.lst (intsP L)), T) := fld_rc h rfl rfl
theorem rd_at : dFld [2] "at" (.ref k) T = some (.p (.int (i : Int)), T) := fld_rc h rfl rfl
theorem rd_set (j : Nat) : setFld [2] "at" (.ref k) (.p (.int (j : Int))) T = some (T.put k (rdO L j)) := by
  unfold setFld
  dsimp only
  rw [h]
  dsimp only
  rw [if_pos ⟨rfl, show 2 < 1000 by decide, rfl⟩]
  rfl
theorem rb_end (hi : L.length ≤ i) : m_Reader_read_byte [.ref k] T = some (.ex 50, T) := by
  have ev : startD 1 [.ref k] = [some (.ref k)] := rfl
  have h' : (SH.mk T.os.length T.os).os[k]? = some (rdO L i) := h
  have fl : ∀ S, fLen [.p (.lst (intsP L))] S = some (.p (.int (L.length : Int)), S) := fun S => by rw [fLen_l, intsP_len]
  have ge : ∀ S, fGe (.p (.int (i : Int))) (.p (.int (L.length : Int))) S = some (.p (.bl true), S) := fun S => (fII_eq _ _ _ _ S).trans (by rw [if_pos rfl, decide_eq_true (by omega)])
  unfold m_Reader_read_byte
  rw [xfn_at (k := 1) rfl, ev, at_xSeq]
  simp only [at_xIf, at_dTest, at_dOp, at_dUn, at_dVar, at_dCall, at_dCons, at_dNil, bnd_some, List.getElem?_cons_zero, rd_at h', rd_data h', fl, ge, toB_p, if_true, at_xRaise, seqX_ex, frameX_ex, cut_self]
theorem rb_ok {b : Int} (hb : L[i]? = some b) : m_Reader_read_byte [.ref k] T = some (.ok (.p (.int b)), T.put k (rdO L (i + 1))) := by
  have ev : startD 1 [.ref k] = [some (.ref k)] := rfl
  have h' : (SH.mk T.os.length T.os).os[k]? = some (rdO L i) := h
  have hi : i < L.length := by
    by_cases hh : i < L.length
    · exact hh
    · rw [List.getElem?_eq_none (by omega)] at hb
      cases hb
  have hk : k < T.os.length := by
    by_cases hh : k < T.os.length
    · exact hh
    · rw [List.getElem?_eq_none (by omega)] at h
      cases h
  have fl : ∀ S, fLen [.p (.lst (intsP L))] S = some (.p (.int (L.length : Int)), S) := fun S => by rw [fLen_l, intsP_len]
  have ge : ∀ S, fGe (.p (.int (i : Int))) (.p (.int (L.length : Int))) S = some (.p (.bl false), S) := fun S => (fII_eq _ _ _ _ S).trans (by rw [if_pos rfl, decide_eq_false (by omega)])
  have h2 : (SH.put ⟨T.os.length, T.os⟩ k (rdO L (i + 1))).os[k]? = some (rdO L (i + 1)) := by
    show (T.os.set k _)[k]? = _
    exact List.getElem?_set_self hk
  have au : dAugF [2] "at" (fII (fun _ _ => true) fun i j => .int (i + j)) (dVar 0) (dC (.int 1)) [some (.ref k)] ⟨T.os.length, T.os⟩ = some (.nx [some (.ref k)], SH.put ⟨T.os.length, T.os⟩ k (rdO L (i + 1))) := by
    unfold dAugF
    simp only [at_dVar, bnd_some, List.getElem?_cons_zero, flds_r h']
    have c2 : ([2] : List Nat).contains 2 = true := by decide
    rw [c2, if_pos rfl]
    have lk : (rdG L i).lookup ("at" : Str) = some (.p (.int (i : Int))) := rfl
    rw [lk]
    have e1 : (i : Int) + 1 = ((i + 1 : Nat) : Int) := by omega
    simp only [at_dC, bnd_some, fII_eq, if_true, e1, rd_set h']
  have e1 : ((i + 1 : Nat) : Int) - 1 = (i : Int) := by omega
  have sb : ∀ S, fSub (.p (.int ((i + 1 : Nat) : Int))) (.p (.int 1)) S = some (.p (.int (i : Int)), S) := fun S => by
    rw [← e1]
    rfl
  have ix : ∀ S, fIx (.p (.lst (intsP L))) (.p (.int (i : Int))) S = some (.p (.int b), S) := fun S => fIx_l (intsP_at hb)
  unfold m_Reader_read_byte
  rw [xfn_at (k := 1) rfl, ev, at_xSeq]
  simp only [at_xIf, at_dTest, at_dOp, at_dUn, at_dVar, at_dCall, at_dCons, at_dNil, bnd_some, List.getElem?_cons_zero, rd_at h', rd_data h', fl, ge, toB_p, Bool.false_eq_true, if_false, at_xS, at_dNx, seqX_nx]
  rw [at_dSeq, au, bnd_some, seqK_nx]
  simp only [at_dRet, at_dOp, at_dUn, at_dVar, at_dC, bnd_some, List.getElem?_cons_zero, rd_at h2, rd_data h2, sb, ix, frameX_p]
  rw [show SH.put ⟨T.os.length, T.os⟩ k (rdO L (i + 1)) = ⟨T.os.length, T.os.set k (rdO L (i + 1))⟩ from rfl, cut_put]
end
theorem put_at {k : Nat} {T : SH} {o o2 : Ob} (h : T.os[k]? = some o) : (T.put k o2).os[k]? = some o2 := by
  have hk : k < T.os.length := by
    by_cases hh : k < T.os.length
    · exact hh
    · rw [List.getElem?_eq_none (by omega)] at h
      cases h
  exact List.getElem?_set_self hk
theorem put_put (T : SH) (k : Nat) (a b : Ob) : (T.put k a).put k b = T.put k b := by
  show (⟨T.b, (T.os.set k a).set k b⟩ : SH) = ⟨T.b, T.os.set k b⟩
  rw [List.set_set]
/-! one turn of read_number -/
abbrev rnB : MX := (xSeq (xSet 4 (xMeth 2 "read_byte" m_Reader_read_byte (dVar 0) dNil))
    (xSeq (xS (dAug 1 fAug (dOp fMul (dOp fMod (dVar 4) (dC (.int 128))) (dVar 2))))
    (xSeq (xS (dSet 2 (dOp fMul (dVar 2) (dC (.int 128)))))
    (xIf (dTest (dOp fLt (dVar 4) (dC (.int 128))))
      (xSeq (xIf (dAnd (dTest (dOp (fEq false) (dVar 4) (dC (.int 0)))) (dTest (dOp fGt (dVar 3) (dC (.int 0)))))
      (xRaise 50)
      (xS dNx))
    (xS (dRet (dVar 1))))
      (xS dNx)))))
section
variable {k i : Nat} {L : List Int} {T : SH} (h : T.os[k]? = some (rdO L i)) (tot fac c : Int)
include h
theorem lk_rb : (rdG L i).lookup ("read_byte" : Str) = none := rfl
theorem rn_end (hi : L.length ≤ i) : rnB [some (.ref k), some (.p (.int tot)), some (.p (.int fac)), some (.p (.int c)), none] T = some (.ex 50 [some (.ref k), some (.p (.int tot)), some (.p (.int fac)), some (.p (.int c)), none], T) := by
  have lk : (rdG L i).lookup ("read_byte" : Str) = none := rfl
  unfold rnB
  rw [at_xSeq, at_xSet, at_xMeth]
  simp only [at_dVar, bnd_some, List.getElem?_cons_zero, flds_r h, lk, and_self, if_true, at_dNil, rb_end h hi, setX_ex, seqX_ex]
theorem rn_pre {b : Int} (hb : L[i]? = some b) (hr : 0 ≤ b ∧ b < 256) (rest : MX) : (xSeq (xSet 4 (xMeth 2 "read_byte" m_Reader_read_byte (dVar 0) dNil))
    (xSeq (xS (dAug 1 fAug (dOp fMul (dOp fMod (dVar 4) (dC (.int 128))) (dVar 2))))
    (xSeq (xS (dSet 2 (dOp fMul (dVar 2) (dC (.int 128))))) rest))) [some (.ref k), some (.p (.int tot)), some (.p (.int fac)), some (.p (.int c)), none] T =
    rest [some (.ref k), some (.p (.int (tot + b % 128 * fac))), some (.p (.int (fac * 128))), some (.p (.int c)), some (.p (.int b))] (T.put k (rdO L (i + 1))) := by
  have lk : (rdG L i).lookup ("read_byte" : Str) = none := rfl
  have m1 : mulOk (b % 128) fac = true := mulOk_l (by omega)
  have m2 : mulOk fac 128 = true := mulOk_r (by decide)
  have au : ∀ S, fAug (.p (.int tot)) (.p (.int (b % 128 * fac))) S = some (.p (.int (tot + b % 128 * fac)), S) := fun _ => rfl
  rw [at_xSeq, at_xSet, at_xMeth]
  simp only [at_dVar, bnd_some, List.getElem?_cons_zero, flds_r h, lk, and_self, if_true, at_dNil, rb_ok h hb, setX_ok, List.set_cons_zero, List.set_cons_succ, seqX_nx]
  rw [at_xSeq, at_xS, at_dAug]
  simp only [List.getElem?_cons_zero, List.getElem?_cons_succ, at_dOp, at_dVar, at_dC, bnd_some, fII_eq, m1, if_true, decide_eq_true_eq, Int.reduceLT, au, List.set_cons_zero, List.set_cons_succ, seqX_nx]
  rw [at_xSeq, at_xS]
  simp only [at_dSet, List.getElem?_cons_zero, List.getElem?_cons_succ, at_dOp, at_dVar, at_dC, bnd_some, fII_eq, m2, if_true, List.set_cons_zero, List.set_cons_succ, seqX_nx]
theorem rn_more {b : Int} (hb : L[i]? = some b) (hr : 0 ≤ b ∧ b < 256) (hm : 128 ≤ b) : rnB [some (.ref k), some (.p (.int tot)), some (.p (.int fac)), some (.p (.int c)), none] T =
    some (.fl (.nx [some (.ref k), some (.p (.int (tot + b % 128 * fac))), some (.p (.int (fac * 128))), some (.p (.int c)), some (.p (.int b))]), T.put k (rdO L (i + 1))) := by
  have lt : ∀ S, fLt (.p (.int b)) (.p (.int 128)) S = some (.p (.bl false), S) := fun S => (fII_eq _ _ _ _ S).trans (by rw [if_pos rfl, decide_eq_false (by omega)])
  unfold rnB
  rw [rn_pre h tot fac c hb hr]
  simp only [at_xIf, at_dTest, at_dOp, at_dVar, at_dC, bnd_some, List.getElem?_cons_zero, List.getElem?_cons_succ, lt, toB_p, Bool.false_eq_true, if_false, at_xS, at_dNx]
theorem rn_stop {b : Int} (hb : L[i]? = some b) (hr : 0 ≤ b ∧ b < 256) (hm : b < 128) (hz : b ≠ 0 ∨ c = 0) : rnB [some (.ref k), some (.p (.int tot)), some (.p (.int fac)), some (.p (.int c)), none] T =
    some (.fl (.ret (.p (.int (tot + b % 128 * fac)))), T.put k (rdO L (i + 1))) := by
  have lt : ∀ S, fLt (.p (.int b)) (.p (.int 128)) S = some (.p (.bl true), S) := fun S => (fII_eq _ _ _ _ S).trans (by rw [if_pos rfl, decide_eq_true (by omega)])
  have fe : ∀ S, fEq false (.p (.int b)) (.p (.int 0)) S = some (.p (.bl (b == 0)), S) := fun S => by simp [fEq, okd, peq]
  have gt : ∀ S, fGt (.p (.int c)) (.p (.int 0)) S = some (.p (.bl (decide (0 < c))), S) := fun S => (fII_eq _ _ _ _ S).trans (by rw [if_pos rfl])
  unfold rnB
  rw [rn_pre h tot fac c hb hr]
  by_cases b0 : b = 0
  · have c0 : c = 0 := by
      rcases hz with hz | hz
      · exact absurd b0 hz
      · exact hz
    subst c0
    subst b0
    simp only [at_xIf, at_dTest, at_dOp, at_dVar, at_dC, bnd_some, List.getElem?_cons_zero, List.getElem?_cons_succ, lt, toB_p, if_true, at_xSeq, at_dAnd, fe, beq_self_eq_true, gt, Int.lt_irrefl, decide_false, Bool.false_eq_true, if_false, at_xS, at_dNx, seqX_nx, at_dRet]
  · have b0' : (b == 0) = false := beq_eq_false_iff_ne.mpr b0
    simp only [at_xIf, at_dTest, at_dOp, at_dVar, at_dC, bnd_some, List.getElem?_cons_zero, List.getElem?_cons_succ, lt, toB_p, if_true, at_xSeq, at_dAnd, fe, b0', Bool.false_eq_true, if_false, at_xS, at_dNx, seqX_nx, at_dRet]
end
end Kb
namespace Kb
open PySem PySem.Spec PyProof.Rows L2 Pv
/-! the count at the front -/
theorem items60 : ∃ rest, (srcN 0 60).items = (fun _ => some (.p (.int (0 + ((0 : Nat) : Int))))) :: (fun _ => some (.p (.int (0 + ((1 : Nat) : Int))))) :: rest := ⟨_, rfl⟩
abbrev rnF : MX := (xSeq (xS (dSet 1 (dC (.int 0))))
    (xSeq (xS (dSet 2 (dC (.int 1))))
    (xSeq (xFor [3, 4] (dRng1 (dCons (dC u_NUMBERBYTES) dNil)) (gNm 3) rnB)
    (xRaise 50))))
/-- what the first turns leave -/
theorem rn_start (k : Nat) (T : SH) {r : Fx} {T1 : SH} (rest : List (SH → Option D)) (e : (srcN 0 60).items = (fun _ => some (.p (.int (0 + ((0 : Nat) : Int))))) :: (fun _ => some (.p (.int (0 + ((1 : Nat) : Int))))) :: rest)
    (h : forX [3, 4] (fun _ => true) (gNm 3) rnB ((fun _ => some (.p (.int (0 + ((0 : Nat) : Int))))) :: (fun _ => some (.p (.int (0 + ((1 : Nat) : Int))))) :: rest) [some (.ref k), some (.p (.int 0)), some (.p (.int 1)), none, none] T = some (r, T1)) (hr : (∃ d, r = .fl (.ret d)) ∨ ∃ σ, r = .ex 50 σ) : rnF [some (.ref k), none, none, none, none] T = some (r, T1) := by
  have rz : ∀ S, rng1 [.p u_NUMBERBYTES] S = some (srcN 0 60, S) := fun S => srt_rng 60 (by decide)
  unfold rnF
  rw [at_xSeq, at_xS]
  simp only [at_dSet, at_dC, bnd_some, List.set_cons_zero, List.set_cons_succ, seqX_nx]
  rw [at_xSeq, at_xS]
  simp only [at_dSet, at_dC, bnd_some, List.set_cons_zero, List.set_cons_succ, seqX_nx]
  rw [at_xSeq, at_xFor]
  simp only [at_dRng1, at_dCons, at_dC, at_dNil, bnd_some, rz, wipeD, List.set_cons_zero, List.set_cons_succ]
  rw [e]
  have f60 : (srcN 0 60).fin = fun _ => true := rfl
  rw [f60, h, bnd_some]
  rcases hr with ⟨d, rfl⟩ | ⟨σ, rfl⟩
  · exact seqX_ret d
  · exact seqX_ex 50 σ
section
variable {k : Nat} {L : List Int} {T : SH} (h : T.os[k]? = some (rdO L 0))
include h
theorem rnum_of {r : Fx} {T1 : SH} (e : rnF [some (.ref k), none, none, none, none] ⟨T.os.length, T.os⟩ = some (r, T1)) : m_Reader_read_number [.ref k] T = frameX T (some (r, T1)) := by
  have ev : startD 5 [.ref k] = [some (.ref k), none, none, none, none] := rfl
  unfold m_Reader_read_number
  rw [xfn_at (k := 1) rfl, ev]
  exact congrArg (frameX T) e
theorem rnum_end (hl : L = []) : m_Reader_read_number [.ref k] T = some (.ex 50, T) := by
  obtain ⟨rest, e⟩ := items60
  have h' : (SH.mk T.os.length T.os).os[k]? = some (rdO L 0) := h
  have t := rn_end h' 0 1 (0 + ((0 : Nat) : Int)) (by rw [hl]; exact Nat.le_refl _)
  have s := rn_start k ⟨T.os.length, T.os⟩ rest e (r := .ex 50 [some (.ref k), some (.p (.int 0)), some (.p (.int 1)), some (.p (.int (0 + ((0 : Nat) : Int)))), none]) (T1 := ⟨T.os.length, T.os⟩) (by
    rw [forX]
    simp only [at_gNm, bnd_some, List.set_cons_zero, List.set_cons_succ, t]) (.inr ⟨_, rfl⟩)
  rw [rnum_of h s, frameX_ex, cut_self]
theorem rnum_1 {b : Int} {r : List Int} (hl : L = b :: r) (hb : 0 ≤ b ∧ b < 128) : m_Reader_read_number [.ref k] T = some (.ok (.p (.int b)), T.put k (rdO L 1)) := by
  obtain ⟨rest, e⟩ := items60
  have h' : (SH.mk T.os.length T.os).os[k]? = some (rdO L 0) := h
  have t := rn_stop h' 0 1 (0 + ((0 : Nat) : Int)) (b := b) (by rw [hl]; rfl) ⟨hb.1, by omega⟩ hb.2 (.inr (by omega))
  have eb : 0 + b % 128 * 1 = b := by omega
  rw [eb] at t
  have s := rn_start k ⟨T.os.length, T.os⟩ rest e (r := .fl (.ret (.p (.int b)))) (T1 := SH.put ⟨T.os.length, T.os⟩ k (rdO L (0 + 1))) (by
    rw [forX]
    simp only [at_gNm, bnd_some, List.set_cons_zero, List.set_cons_succ, t]) (.inl ⟨_, rfl⟩)
  rw [rnum_of h s, frameX_p]
  rw [show SH.put ⟨T.os.length, T.os⟩ k (rdO L (0 + 1)) = ⟨T.os.length, T.os.set k (rdO L 1)⟩ from rfl, cut_put]
theorem rnum_cut {b : Int} (hl : L = [b]) (hb : 128 ≤ b ∧ b < 256) : m_Reader_read_number [.ref k] T = some (.ex 50, T.put k (rdO L 1)) := by
  obtain ⟨rest, e⟩ := items60
  have h' : (SH.mk T.os.length T.os).os[k]? = some (rdO L 0) := h
  have t := rn_more h' 0 1 (0 + ((0 : Nat) : Int)) (b := b) (by rw [hl]; rfl) ⟨by omega, hb.2⟩ hb.1
  have t2 := rn_end (put_at (o2 := rdO L (0 + 1)) h') (0 + b % 128 * 1) (1 * 128) (0 + ((1 : Nat) : Int)) (by rw [hl]; exact Nat.le_refl _)
  have s := rn_start k ⟨T.os.length, T.os⟩ rest e (r := .ex 50 [some (.ref k), some (.p (.int (0 + b % 128 * 1))), some (.p (.int (1 * 128))), some (.p (.int (0 + ((1 : Nat) : Int)))), none]) (T1 := SH.put ⟨T.os.length, T.os⟩ k (rdO L (0 + 1))) (by
    rw [forX]
    simp only [at_gNm, bnd_some, List.set_cons_zero, List.set_cons_succ, t, wipeD]
    rw [forX]
    simp only [at_gNm, bnd_some, List.set_cons_zero, List.set_cons_succ, t2]) (.inr ⟨_, rfl⟩)
  rw [rnum_of h s, frameX_ex]
  rw [show SH.put ⟨T.os.length, T.os⟩ k (rdO L (0 + 1)) = ⟨T.os.length, T.os.set k (rdO L 1)⟩ from rfl, cut_put]
theorem rnum_2 {b c : Int} {r : List Int} (hl : L = b :: c :: r) (hb : 128 ≤ b ∧ b < 256) (hc : 0 < c ∧ c < 128) : m_Reader_read_number [.ref k] T = some (.ok (.p (.int (b % 128 + c * 128))), T.put k (rdO L 2)) := by
  obtain ⟨rest, e⟩ := items60
  have h' : (SH.mk T.os.length T.os).os[k]? = some (rdO L 0) := h
  have t := rn_more h' 0 1 (0 + ((0 : Nat) : Int)) (b := b) (by rw [hl]; rfl) ⟨by omega, hb.2⟩ hb.1
  have t2 := rn_stop (put_at (o2 := rdO L (0 + 1)) h') (0 + b % 128 * 1) (1 * 128) (0 + ((1 : Nat) : Int)) (b := c) (by rw [hl]; rfl) ⟨by omega, by omega⟩ hc.2 (.inl (by omega))
  have eb : 0 + b % 128 * 1 + c % 128 * (1 * 128) = b % 128 + c * 128 := by omega
  rw [eb, put_put] at t2
  have s := rn_start k ⟨T.os.length, T.os⟩ rest e (r := .fl (.ret (.p (.int (b % 128 + c * 128))))) (T1 := SH.put ⟨T.os.length, T.os⟩ k (rdO L (0 + 1 + 1))) (by
    rw [forX]
    simp only [at_gNm, bnd_some, List.set_cons_zero, List.set_cons_succ, t, wipeD]
    rw [forX]
    simp only [at_gNm, bnd_some, List.set_cons_zero, List.set_cons_succ, t2]) (.inl ⟨_, rfl⟩)
  rw [rnum_of h s, frameX_p]
  rw [show SH.put ⟨T.os.length, T.os⟩ k (rdO L (0 + 1 + 1)) = ⟨T.os.length, T.os.set k (rdO L 2)⟩ from rfl, cut_put]
end
/-! record_size -/
theorem rinit (b : Nat) (os : List Ob) (L : List Int) (hl : L.length ≤ 1000000) : m_Reader_init [.ref os.length, .p (.lst (intsP L))] ⟨b, os ++ [.ins 2 []]⟩ = some (.p .non, ⟨b, os ++ [rdO L 0]⟩) := by
  have c0 : ([2] : List Nat).contains 2 = true := by decide
  have ev : startD 2 [.ref os.length, .p (.lst (intsP L))] = [some (.ref os.length), some (.p (.lst (intsP L)))] := rfl
  have ll := fun S => list_l L hl S
  have sl : ∀ {f : Str} {v : P} {fs : List (Str × D)}, fs.length < 1000 → setFld [2] f (.ref os.length) (.p v) ⟨b, os ++ [.ins 2 fs]⟩ = some ⟨b, os ++ [.ins 2 (putFD f (.p v) fs)]⟩ := fun hl => setF_last c0 hl
  unfold m_Reader_init
  rw [fnL_at (k := 2) rfl, ev, at_dSeq]
  simp only [at_dSetF, at_dCall, at_dCons, at_dVar, at_dNil, bnd_some, List.getElem?_cons_zero, List.getElem?_cons_succ, ll]
  rw [sl (by simp only [List.length_nil]; omega)]
  rw [show (putFD "data" (.p (.lst (intsP L))) ([] : List (Str × D))) = ([("data", .p (.lst (intsP L)))] : List (Str × D)) from rfl]
  simp only [bnd_some, seqK_nx, at_dC, List.getElem?_cons_zero, List.getElem?_cons_succ, at_dSetF, at_dVar]
  rw [sl (fs := [("data", .p (.lst (intsP L)))]) (show 1 < 1000 by decide)]
  rfl
theorem at_dMakeT {c : Nat} {init : MF} {a : MA} {σ : En} {S : SH} : dMake true c init a σ S = bnd (a σ S) fun xs S1 => bnd (init (.ref S1.os.length :: xs) ⟨S1.b, S1.os ++ [.ins c []]⟩) fun d S2 => match d with | .p .non => some (.ref S1.os.length, S2) | _ => none := by
  unfold dMake
  rfl
/-- what record_size tells -/
def rsz (L : List Int) : Option (Nat × Int) := match L with
  | [] => none
  | b :: r => if b < 128 then some (1, b) else match r with
    | [] => none
    | c :: _ => some (2, b % 128 + c * 128)
/-- the count is written in one byte or in two -/
def Cnt (L : List Int) : Prop := match L with
  | [] => True
  | b :: r => 0 ≤ b ∧ b < 256 ∧ (128 ≤ b → match r with | [] => True | c :: _ => 0 < c ∧ c < 128)
theorem rs_eq (A : List Int) (a : Nat) (ha : a ≤ A.length) (hl : A.length ≤ 100000) (hc : Cnt (A.drop a)) (S : SH) : m_record_size [.p (.lst (intsP A)), .p (.int (a : Int))] S =
    some (match rsz (A.drop a) with | some (w, n) => .p (.tup [.int (w : Int), .int n]) | none => .p .non, S) := by
  have ev : startD 4 [.p (.lst (intsP A)), .p (.int (a : Int))] = [some (.p (.lst (intsP A))), some (.p (.int (a : Int))), none, none] := rfl
  have sl : ∀ T, dSl false (dVar 0) (some (dVar 1)) none [some (.p (.lst (intsP A))), some (.p (.int (a : Int))), none, none] T = some (.p (.lst (intsP (A.drop a))), T) := fun T => by
    rw [sl_lo (d := .p (.lst (intsP A))) (i := (a : Int)) rfl rfl, fSl_from A a ha (by omega)]
  generalize hL : A.drop a = L at *
  have lL : L.length ≤ 100000 := by rw [← hL, List.length_drop]; omega
  have mk : dMake true 2 m_Reader_init (dCons (dSl false (dVar 0) (some (dVar 1)) none) dNil) [some (.p (.lst (intsP A))), some (.p (.int (a : Int))), none, none] ⟨S.os.length, S.os⟩ = some (.ref S.os.length, ⟨S.os.length, S.os ++ [rdO L 0]⟩) := by
    rw [at_dMakeT]
    simp only [at_dCons, at_dNil, bnd_some, sl]
    rw [rinit S.os.length S.os L (by omega)]
    rfl
  have h0 : (SH.mk S.os.length (S.os ++ [rdO L 0])).os[S.os.length]? = some (rdO L 0) := at_last _ _ _
  have pt : ∀ j, SH.put ⟨S.os.length, S.os ++ [rdO L 0]⟩ S.os.length (rdO L j) = ⟨S.os.length, S.os ++ [rdO L j]⟩ := fun j => put_last _ _ _ _
  have lk : (rdG L 0).lookup ("read_number" : Str) = none := rfl
  have c50 : ([50] : List Nat).contains 50 = true := by decide
  have fl := flds_r h0
  have raised : ∀ T1, m_Reader_read_number [.ref S.os.length] ⟨S.os.length, S.os ++ [rdO L 0]⟩ = some (.ex 50, ⟨S.os.length, S.os ++ T1⟩) → m_record_size [.p (.lst (intsP A)), .p (.int (a : Int))] S = some (.p .non, S) := fun T1 hx => by
    unfold m_record_size
    rw [fn_at (k := 2) rfl, ev, at_dSeq, at_dSet, mk]
    simp only [bnd_some, List.set_cons_zero, List.set_cons_succ, seqK_nx]
    rw [at_dSeq, at_dTry, at_xSet, at_xMeth]
    simp only [at_dVar, bnd_some, List.getElem?_cons_zero, List.getElem?_cons_succ, fl, lk, and_self, if_true, at_dNil, hx, setX_ex, tryK_ex [50] 50 _ c50, at_dRet, at_dC, seqK_ret, frame_p, cut_app]
  have told : ∀ (w : Nat) (n : Int), m_Reader_read_number [.ref S.os.length] ⟨S.os.length, S.os ++ [rdO L 0]⟩ = some (.ok (.p (.int n)), ⟨S.os.length, S.os ++ [rdO L w]⟩) → m_record_size [.p (.lst (intsP A)), .p (.int (a : Int))] S = some (.p (.tup [.int (w : Int), .int n]), S) := fun w n hx => by
    have hw : (SH.mk S.os.length (S.os ++ [rdO L w])).os[S.os.length]? = some (rdO L w) := at_last _ _ _
    have nt : ∀ T, newT [.p (.int (w : Int)), .p (.int n)] T = some (.p (.tup [.int (w : Int), .int n]), T) := fun T => newT_p (S := T) [.int (w : Int), .int n] (small (by simp))
    unfold m_record_size
    rw [fn_at (k := 2) rfl, ev, at_dSeq, at_dSet, mk]
    simp only [bnd_some, List.set_cons_zero, List.set_cons_succ, seqK_nx]
    rw [at_dSeq, at_dTry, at_xSet, at_xMeth]
    simp only [at_dVar, bnd_some, List.getElem?_cons_zero, List.getElem?_cons_succ, fl, lk, and_self, if_true, at_dNil, hx, setX_ok, tryK_fl, List.set_cons_zero, List.set_cons_succ, seqK_nx, at_dRet, at_dTup, at_dCons, at_dUn, rd_at hw, nt, frame_p, cut_app]
  cases L with
  | nil => exact raised [rdO [] 0] (rnum_end h0 rfl)
  | cons b r =>
    obtain ⟨b0, b1, b2⟩ := hc
    by_cases hb : b < 128
    · have e : rsz (b :: r) = some (1, b) := if_pos hb
      rw [e]
      have q := rnum_1 h0 rfl ⟨b0, hb⟩
      rw [pt] at q
      exact told 1 b q
    · have hb' : 128 ≤ b := by omega
      have b3 := b2 hb'
      cases r with
      | nil =>
        have e : rsz [b] = none := if_neg hb
        rw [e]
        have q := rnum_cut h0 rfl ⟨hb', b1⟩
        rw [pt] at q
        exact raised _ q
      | cons c r =>
        have e : rsz (b :: c :: r) = some (2, b % 128 + c * 128) := if_neg hb
        rw [e]
        have q := rnum_2 h0 rfl ⟨hb', b1⟩ b3
        rw [pt] at q
        exact told 2 _ q
end Kb
namespace Kb
open PySem PySem.Spec PyProof.Rows L2 Pv
/-! equality of lists of whole numbers -/
theorem peqA_ints : ∀ a c : List Int, peqA (intsP a) (intsP c) = decide (a = c)
  | [], [] => by simp [intsP, peqA]
  | [], _ :: _ => by simp [intsP, peqA]
  | _ :: _, [] => by simp [intsP, peqA]
  | x :: a, y :: c => by
    show (peq (.int x) (.int y) && peqA (intsP a) (intsP c)) = _
    rw [peqA_ints a c]
    have e : peq (.int x) (.int y) = (x == y) := by simp [peq]
    rw [e]
    by_cases h1 : x = y <;> by_cases h2 : a = c <;> simp [h1, h2]
theorem okd_ints (k : Nat) (a : List Int) : okd (k + 1) (.lst (intsP a)) = true := by
  show (intsP a).all (okd k) = true
  rw [List.all_eq_true]
  intro p hp
  obtain ⟨i, _, rfl⟩ := List.mem_map.mp hp
  cases k <;> rfl
theorem cmp_ints (neg : Bool) (a c : List Int) (S : SH) : fEq neg (.p (.lst (intsP a))) (.p (.lst (intsP c))) S = some (.p (.bl (if neg = true then !decide (a = c) else decide (a = c))), S) := by
  have e : peq (.lst (intsP a)) (.lst (intsP c)) = decide (a = c) := by
    rw [← peqA_ints a c]
    simp [peq]
  show (if okd 40 (.lst (intsP a)) = true ∧ okd 40 (.lst (intsP c)) = true then some (D.p (.bl (if neg = true then !peq (.lst (intsP a)) (.lst (intsP c)) else peq (.lst (intsP a)) (.lst (intsP c)))), S) else none) = _
  rw [if_pos ⟨okd_ints 39 a, okd_ints 39 c⟩, e]
/-! the counts of records -/
theorem wnd_1 {n : Nat} (h : n < 128) : wnd 60 n = [(n : Int)] := by
  show (if n < 128 then [(n : Int)] else _) = _
  rw [if_pos h]
theorem wnd_2 {n : Nat} (h : ¬ n < 128) (h2 : n < 16384) : wnd 60 n = [((n % 128 + 128 : Nat) : Int), ((n / 128 : Nat) : Int)] := by
  show (if n < 128 then [(n : Int)] else ((n % 128 + 128 : Nat) : Int) :: (if n / 128 < 128 then [((n / 128 : Nat) : Int)] else _)) = _
  rw [if_neg h, if_pos (by omega)]
theorem front (n : Nat) (hn : n ≤ 1000) (x : List Int) : Cnt (wnd 60 n ++ x) ∧ rsz (wnd 60 n ++ x) = some ((wnd 60 n).length, (n : Int)) := by
  by_cases h : n < 128
  · rw [wnd_1 h]
    refine ⟨⟨by omega, by omega, fun hh => by omega⟩, ?_⟩
    show (if (n : Int) < 128 then some (1, (n : Int)) else _) = _
    rw [if_pos (by omega)]
    rfl
  · rw [wnd_2 h (by omega)]
    refine ⟨⟨by omega, by omega, fun hh => ⟨by omega, by omega⟩⟩, ?_⟩
    show (if ((n % 128 + 128 : Nat) : Int) < 128 then some (1, ((n % 128 + 128 : Nat) : Int)) else some (2, ((n % 128 + 128 : Nat) : Int) % 128 + ((n / 128 : Nat) : Int) * 128)) = _
    rw [if_neg (by omega)]
    have e : ((n % 128 + 128 : Nat) : Int) % 128 + ((n / 128 : Nat) : Int) * 128 = (n : Int) := by omega
    rw [e]
    rfl
theorem front_cut (n : Nat) (hn : n ≤ 1000) (j : Nat) (h0 : 0 < j) (hj : j < (wnd 60 n).length) : Cnt ((wnd 60 n).take j) ∧ rsz ((wnd 60 n).take j) = none := by
  by_cases h : n < 128
  · rw [wnd_1 h] at hj
    simp only [List.length_cons, List.length_nil] at hj
    omega
  · rw [wnd_2 h (by omega)] at hj ⊢
    simp only [List.length_cons, List.length_nil] at hj
    have e : j = 1 := by omega
    subst e
    refine ⟨⟨by omega, by omega, fun hh => trivial⟩, ?_⟩
    show (if ((n % 128 + 128 : Nat) : Int) < 128 then some (1, ((n % 128 + 128 : Nat) : Int)) else none) = none
    rw [if_neg (by omega)]
theorem recL_len (l : List Int) : (recL l).length = (wnd 60 l.length).length + l.length + 4 := by
  unfold recL
  rw [List.length_append, List.length_append]
  rfl
/-! read_records -/
def lstsP (ls : List (List Int)) : List P := ls.map fun a => P.lst (intsP a)
theorem lstsP_len (ls : List (List Int)) : (lstsP ls).length = ls.length := List.length_map _
theorem app_ls (b : Nat) (os : List Ob) (ls : List (List Int)) (a : List Int) (hl : ls.length ≤ 100000) : fApp [.ref os.length, .p (.lst (intsP a))] ⟨b, os ++ [.lst ((lstsP ls).map D.p)]⟩ = some (.p .non, ⟨b, os ++ [.lst ((lstsP (ls ++ [a])).map D.p)]⟩) := by
  have e : ((lstsP ls).map D.p).length = ls.length := by rw [List.length_map]; exact List.length_map _
  rw [fApp_p (at_last b os _) (by rw [e]; have := line_ge; omega), put_last]
  simp only [lstsP, List.map_append]
  rfl
abbrev rrT : MT := (dTest (dOp fLt (dVar 2) (dCall fLen (dCons (dVar 0) dNil))))
abbrev rrB : MS := (dSeq (dSet 3 (dCall m_record_size (dCons (dVar 0) (dCons (dVar 2) dNil))))
    (dSeq (dIf (dTest (dOp (fIs false) (dVar 3) (dC .non)))
      dBrk
      dNx)
    (dSeq (dSet 4 (dOp (fAdd false) (dVar 2) (dOp fIx (dVar 3) (dC (.int 0)))))
    (dSeq (dSet 5 (dOp (fAdd false) (dVar 4) (dOp fIx (dVar 3) (dC (.int 1)))))
    (dSeq (dIf (dOr (dTest (dOp fGt (dOp (fAdd false) (dVar 5) (dC (.int 4))) (dCall fLen (dCons (dVar 0) dNil)))) (dTest (dOp (fEq true) (dCall m_write_record (dCons (dSl false (dVar 0) (some (dVar 4)) (some (dVar 5))) dNil)) (dSl false (dVar 0) (some (dVar 2)) (some (dOp (fAdd false) (dVar 5) (dC (.int 4))))))))
      dBrk
      dNx)
    (dSeq (dDrop (dBM "list" fApp (dVar 1) (dCons (dSl false (dVar 0) (some (dVar 4)) (some (dVar 5))) dNil)))
    (dSet 2 (dOp (fAdd false) (dVar 5) (dC (.int 4))))))))))
section
variable (A : List Int) (s : Nat) (hs : s ≤ A.length) (hA : A.length ≤ 100000) (d : D) (T : SH)
include hs hA
theorem rr_none (hc : Cnt (A.drop s)) (hr : rsz (A.drop s) = none) : rrB [some (.p (.lst (intsP A))), some d, some (.p (.int (s : Int))), none, none, none] T = some (.brk [some (.p (.lst (intsP A))), some d, some (.p (.int (s : Int))), some (.p .non), none, none], T) := by
  have q := fun T => rs_eq A s hs hA hc T
  rw [hr] at q
  unfold rrB
  rw [at_dSeq]
  simp only [at_dSet, at_dCall, at_dCons, at_dVar, at_dNil, bnd_some, List.getElem?_cons_zero, List.getElem?_cons_succ, q, List.set_cons_zero, List.set_cons_succ, seqK_nx]
  rw [at_dSeq]
  simp only [at_dIf, at_dTest, at_dOp, at_dVar, at_dC, bnd_some, List.getElem?_cons_zero, List.getElem?_cons_succ, fIs, isNon, toB_p, Bool.false_eq_true, if_false, if_true, at_dBrk, seqK_brk]
/-- as far as the two tests -/
theorem rr_pre (hc : Cnt (A.drop s)) (w n : Nat) (hr : rsz (A.drop s) = some (w, (n : Int))) (rest : MS) : (dSeq (dSet 3 (dCall m_record_size (dCons (dVar 0) (dCons (dVar 2) dNil))))
    (dSeq (dIf (dTest (dOp (fIs false) (dVar 3) (dC .non)))
      dBrk
      dNx)
    (dSeq (dSet 4 (dOp (fAdd false) (dVar 2) (dOp fIx (dVar 3) (dC (.int 0)))))
    (dSeq (dSet 5 (dOp (fAdd false) (dVar 4) (dOp fIx (dVar 3) (dC (.int 1))))) rest)))) [some (.p (.lst (intsP A))), some d, some (.p (.int (s : Int))), none, none, none] T =
    rest [some (.p (.lst (intsP A))), some d, some (.p (.int (s : Int))), some (.p (.tup [.int (w : Int), .int (n : Int)])), some (.p (.int ((s + w : Nat) : Int))), some (.p (.int ((s + w + n : Nat) : Int)))] T := by
  have q := fun T => rs_eq A s hs hA hc T
  rw [hr] at q
  have x0 : ∀ S, fIx (.p (.tup [.int (w : Int), .int (n : Int)])) (.p (.int 0)) S = some (.p (.int (w : Int)), S) := fun S => fIx_ti (by decide) rfl
  have x1 : ∀ S, fIx (.p (.tup [.int (w : Int), .int (n : Int)])) (.p (.int 1)) S = some (.p (.int (n : Int)), S) := fun S => fIx_ti (by decide) rfl
  have e1 : (s : Int) + (w : Int) = ((s + w : Nat) : Int) := by omega
  have e2 : ((s + w : Nat) : Int) + (n : Int) = ((s + w + n : Nat) : Int) := by omega
  rw [at_dSeq]
  simp only [at_dSet, at_dCall, at_dCons, at_dVar, at_dNil, bnd_some, List.getElem?_cons_zero, List.getElem?_cons_succ, q, List.set_cons_zero, List.set_cons_succ, seqK_nx]
  rw [at_dSeq]
  simp only [at_dIf, at_dTest, at_dOp, at_dVar, at_dC, bnd_some, List.getElem?_cons_zero, List.getElem?_cons_succ, fIs, isNon, toB_p, Bool.false_eq_true, if_false, at_dNx, seqK_nx]
  rw [at_dSeq]
  simp only [at_dSet, at_dOp, at_dVar, at_dC, bnd_some, List.getElem?_cons_zero, List.getElem?_cons_succ, x0, fAdd_i, e1, List.set_cons_zero, List.set_cons_succ, seqK_nx]
  rw [at_dSeq]
  simp only [at_dSet, at_dOp, at_dVar, at_dC, bnd_some, List.getElem?_cons_zero, List.getElem?_cons_succ, x1, fAdd_i, e2, List.set_cons_zero, List.set_cons_succ, seqK_nx]
theorem rr_far (hc : Cnt (A.drop s)) (w n : Nat) (hr : rsz (A.drop s) = some (w, (n : Int))) (hf : A.length < s + w + n + 4) : ∃ σ2, rrB [some (.p (.lst (intsP A))), some d, some (.p (.int (s : Int))), none, none, none] T = some (.brk σ2, T) ∧ wipeD [3, 4, 5] σ2 = [some (.p (.lst (intsP A))), some d, some (.p (.int (s : Int))), none, none, none] := by
  have fl : ∀ S, fLen [.p (.lst (intsP A))] S = some (.p (.int (A.length : Int)), S) := fun S => by rw [fLen_l, intsP_len]
  have gt : ∀ S, fGt (.p (.int (((s + w + n : Nat) : Int) + 4))) (.p (.int (A.length : Int))) S = some (.p (.bl true), S) := fun S => (fII_eq _ _ _ _ S).trans (by rw [if_pos rfl, decide_eq_true (by omega)])
  refine ⟨[some (.p (.lst (intsP A))), some d, some (.p (.int (s : Int))), some (.p (.tup [.int (w : Int), .int (n : Int)])), some (.p (.int ((s + w : Nat) : Int))), some (.p (.int ((s + w + n : Nat) : Int)))], ?_, rfl⟩
  unfold rrB
  rw [rr_pre A s hs hA d T hc w n hr]
  rw [at_dSeq]
  simp only [at_dIf, at_dOr, at_dTest, at_dOp, at_dVar, at_dC, at_dCall, at_dCons, at_dNil, bnd_some, List.getElem?_cons_zero, List.getElem?_cons_succ, fAdd_i, fl, gt, toB_p, if_true, at_dBrk, seqK_brk]
theorem rr_test (hc : Cnt (A.drop s)) (w n : Nat) (hr : rsz (A.drop s) = some (w, (n : Int))) (hf : s + w + n + 4 ≤ A.length) (hn : n ≤ 1000) (rest : MS) :
    (dSeq (dIf (dOr (dTest (dOp fGt (dOp (fAdd false) (dVar 5) (dC (.int 4))) (dCall fLen (dCons (dVar 0) dNil)))) (dTest (dOp (fEq true) (dCall m_write_record (dCons (dSl false (dVar 0) (some (dVar 4)) (some (dVar 5))) dNil)) (dSl false (dVar 0) (some (dVar 2)) (some (dOp (fAdd false) (dVar 5) (dC (.int 4))))))))
      dBrk
      dNx) rest) [some (.p (.lst (intsP A))), some d, some (.p (.int (s : Int))), some (.p (.tup [.int (w : Int), .int (n : Int)])), some (.p (.int ((s + w : Nat) : Int))), some (.p (.int ((s + w + n : Nat) : Int)))] T =
    if recL ((A.drop (s + w)).take n) = (A.drop s).take (w + n + 4) then rest [some (.p (.lst (intsP A))), some d, some (.p (.int (s : Int))), some (.p (.tup [.int (w : Int), .int (n : Int)])), some (.p (.int ((s + w : Nat) : Int))), some (.p (.int ((s + w + n : Nat) : Int)))] T
      else some (.brk [some (.p (.lst (intsP A))), some d, some (.p (.int (s : Int))), some (.p (.tup [.int (w : Int), .int (n : Int)])), some (.p (.int ((s + w : Nat) : Int))), some (.p (.int ((s + w + n : Nat) : Int)))], T) := by
  have fl : ∀ S, fLen [.p (.lst (intsP A))] S = some (.p (.int (A.length : Int)), S) := fun S => by rw [fLen_l, intsP_len]
  have gt : ∀ S, fGt (.p (.int (((s + w + n : Nat) : Int) + 4))) (.p (.int (A.length : Int))) S = some (.p (.bl false), S) := fun S => (fII_eq _ _ _ _ S).trans (by rw [if_pos rfl, decide_eq_false (by omega)])
  have s1 : ∀ S, dSl false (dVar 0) (some (dVar 4)) (some (dVar 5)) [some (.p (.lst (intsP A))), some d, some (.p (.int (s : Int))), some (.p (.tup [.int (w : Int), .int (n : Int)])), some (.p (.int ((s + w : Nat) : Int))), some (.p (.int ((s + w + n : Nat) : Int)))] S = some (.p (.lst (intsP ((A.drop (s + w)).take n))), S) := fun S => by
    rw [sl_lh (d := .p (.lst (intsP A))) (i := ((s + w : Nat) : Int)) (j := ((s + w + n : Nat) : Int)) rfl rfl rfl, fSl_both A (s + w) (s + w + n) (by omega) (by omega) (by omega)]
    rw [show s + w + n - (s + w) = n by omega]
  have e4 : ((s + w + n : Nat) : Int) + 4 = ((s + w + n + 4 : Nat) : Int) := by omega
  have s2 : ∀ S, dSl false (dVar 0) (some (dVar 2)) (some (dOp (fAdd false) (dVar 5) (dC (.int 4)))) [some (.p (.lst (intsP A))), some d, some (.p (.int (s : Int))), some (.p (.tup [.int (w : Int), .int (n : Int)])), some (.p (.int ((s + w : Nat) : Int))), some (.p (.int ((s + w + n : Nat) : Int)))] S = some (.p (.lst (intsP ((A.drop s).take (w + n + 4)))), S) := fun S => by
    rw [sl_lh (d := .p (.lst (intsP A))) (i := (s : Int)) (j := ((s + w + n + 4 : Nat) : Int)) rfl rfl (by simp only [at_dOp, at_dVar, at_dC, bnd_some, List.getElem?_cons_zero, List.getElem?_cons_succ, fAdd_i, e4]), fSl_both A s (s + w + n + 4) (by omega) (by omega) (by omega)]
    rw [show s + w + n + 4 - s = w + n + 4 by omega]
  have wr := fun S => wr_eq ((A.drop (s + w)).take n) (by rw [List.length_take, List.length_drop]; omega) S
  rw [at_dSeq]
  simp only [at_dIf, at_dOr, at_dTest, at_dOp, at_dVar, at_dC, at_dCall, at_dCons, at_dNil, bnd_some, List.getElem?_cons_zero, List.getElem?_cons_succ, fAdd_i, fl, gt, toB_p, Bool.false_eq_true, if_false, s1, wr, s2, cmp_ints, if_true]
  by_cases h : recL ((A.drop (s + w)).take n) = (A.drop s).take (w + n + 4)
  · rw [if_pos h, decide_eq_true h]
    simp only [Bool.not_true, Bool.false_eq_true, if_false, at_dNx, bnd_some, seqK_nx]
  · rw [if_neg h, decide_eq_false h]
    simp only [Bool.not_false, if_true, at_dBrk, bnd_some, seqK_brk]
end
/-- a tail behind which read_records stops -/
structure Stop (A : List Int) (s : Nat) : Prop where
  c : Cnt (A.drop s)
  r : rsz (A.drop s) = none ∨ ∃ w n : Nat, n ≤ 1000 ∧ rsz (A.drop s) = some (w, (n : Int)) ∧ (A.length < s + w + n + 4 ∨ (s + w + n + 4 ≤ A.length ∧ recL ((A.drop (s + w)).take n) ≠ (A.drop s).take (w + n + 4)))
theorem rr_stop (A : List Int) (s : Nat) (hs : s ≤ A.length) (hA : A.length ≤ 100000) (d : D) (T : SH) (h : Stop A s) : ∃ σ2, rrB [some (.p (.lst (intsP A))), some d, some (.p (.int (s : Int))), none, none, none] T = some (.brk σ2, T) ∧ wipeD [3, 4, 5] σ2 = [some (.p (.lst (intsP A))), some d, some (.p (.int (s : Int))), none, none, none] := by
  rcases h.r with hr | ⟨w, n, hn, hr, hf | ⟨hf, hne⟩⟩
  · exact ⟨_, rr_none A s hs hA d T h.c hr, rfl⟩
  · exact rr_far A s hs hA d T h.c w n hr hf
  · refine ⟨[some (.p (.lst (intsP A))), some d, some (.p (.int (s : Int))), some (.p (.tup [.int (w : Int), .int (n : Int)])), some (.p (.int ((s + w : Nat) : Int))), some (.p (.int ((s + w + n : Nat) : Int)))], ?_, rfl⟩
    unfold rrB
    rw [rr_pre A s hs hA d T h.c w n hr, rr_test A s hs hA d T h.c w n hr hf hn, if_neg hne]
theorem rr_step (pre l post : List Int) (hl : l.length ≤ 1000) (A : List Int) (eA : A = pre ++ recL l ++ post) (hA : A.length ≤ 100000) (b : Nat) (os : List Ob) (R : List (List Int)) (hR : R.length ≤ 1000) :
    ∃ σ2, rrB [some (.p (.lst (intsP A))), some (.ref os.length), some (.p (.int (pre.length : Int))), none, none, none] ⟨b, os ++ [.lst ((lstsP R).map D.p)]⟩ = some (.nx σ2, ⟨b, os ++ [.lst ((lstsP (R ++ [l])).map D.p)]⟩) ∧ wipeD [3, 4, 5] σ2 = [some (.p (.lst (intsP A))), some (.ref os.length), some (.p (.int ((pre ++ recL l).length : Int))), none, none, none] := by
  have hs : pre.length ≤ A.length := by rw [eA, List.length_append, List.length_append]; omega
  have ed : A.drop pre.length = wnd 60 l.length ++ (l ++ tailL (chk l) ++ post) := by
    rw [eA, List.append_assoc, List.drop_left]
    simp only [recL, List.append_assoc]
  obtain ⟨hc, hr⟩ := front l.length hl (l ++ tailL (chk l) ++ post)
  rw [← ed] at hc hr
  have len : A.length = pre.length + ((wnd 60 l.length).length + l.length + 4) + post.length := by rw [eA, List.length_append, List.length_append, recL_len]
  have e1 : (A.drop (pre.length + (wnd 60 l.length).length)).take l.length = l := by
    rw [← List.drop_drop, ed, List.drop_left, List.append_assoc, List.take_left]
  have e2 : (A.drop pre.length).take ((wnd 60 l.length).length + l.length + 4) = recL l := by
    rw [eA, List.append_assoc, List.drop_left, ← recL_len, List.take_left]
  have ap := app_ls b os R l (by omega)
  have ty := isTy_ref (at_last b os (.lst ((lstsP R).map D.p)))
  let w := (wnd 60 l.length).length
  have s1 : ∀ S, dSl false (dVar 0) (some (dVar 4)) (some (dVar 5)) [some (.p (.lst (intsP A))), some (.ref os.length), some (.p (.int (pre.length : Int))), some (.p (.tup [.int ((wnd 60 l.length).length : Int), .int (l.length : Int)])), some (.p (.int ((pre.length + (wnd 60 l.length).length : Nat) : Int))), some (.p (.int ((pre.length + (wnd 60 l.length).length + l.length : Nat) : Int)))] S = some (.p (.lst (intsP l)), S) := fun S => by
    rw [sl_lh (d := .p (.lst (intsP A))) (i := ((pre.length + (wnd 60 l.length).length : Nat) : Int)) (j := ((pre.length + (wnd 60 l.length).length + l.length : Nat) : Int)) rfl rfl rfl, fSl_both A _ _ (by omega) (by omega) (by omega)]
    rw [show pre.length + (wnd 60 l.length).length + l.length - (pre.length + (wnd 60 l.length).length) = l.length by omega, e1]
  have e4 : ((pre.length + (wnd 60 l.length).length + l.length : Nat) : Int) + 4 = ((pre ++ recL l).length : Int) := by
    rw [List.length_append, recL_len]
    omega
  refine ⟨[some (.p (.lst (intsP A))), some (.ref os.length), some (.p (.int ((pre ++ recL l).length : Int))), some (.p (.tup [.int ((wnd 60 l.length).length : Int), .int (l.length : Int)])), some (.p (.int ((pre.length + (wnd 60 l.length).length : Nat) : Int))), some (.p (.int ((pre.length + (wnd 60 l.length).length + l.length : Nat) : Int)))], ?_, rfl⟩
  unfold rrB
  rw [rr_pre A pre.length hs hA _ _ hc (wnd 60 l.length).length l.length hr, rr_test A pre.length hs hA _ _ hc _ l.length hr (by omega) hl, e1, e2, if_pos rfl]
  rw [at_dSeq]
  simp only [at_dDrop, at_dBM, at_dVar, at_dCons, at_dNil, bnd_some, List.getElem?_cons_zero, List.getElem?_cons_succ, ty, if_true, s1, ap, seqK_nx]
  simp only [at_dSet, at_dOp, at_dVar, at_dC, bnd_some, List.getElem?_cons_zero, List.getElem?_cons_succ, fAdd_i, e4, List.set_cons_zero, List.set_cons_succ]
end Kb
namespace Kb
open PySem PySem.Spec PyProof.Rows L2 Pv
def recsL (R : List (List Int)) : List Int := (R.map recL).flatten
theorem recsL_cons (l : List Int) (R : List (List Int)) : recsL (l :: R) = recL l ++ recsL R := rfl
theorem recsL_snoc (R : List (List Int)) (l : List Int) : recsL (R ++ [l]) = recsL R ++ recL l := by
  unfold recsL
  rw [List.map_append, List.flatten_append]
  simp
theorem fuel_at' (k : Nat) (h : k ≤ 100) : wFuel = (999999 - k) + k + 1 := by
  show 1000000 = _
  omega
theorem rr_loop (A t : List Int) (hA : A.length ≤ 100000) (b : Nat) (os : List Ob) : ∀ (R done : List (List Int)) (pre : List Int) (f : Nat), A = pre ++ recsL R ++ t → (∀ l ∈ R, l.length ≤ 1000) → done.length + R.length ≤ 100 → (t = [] ∨ Stop A (pre ++ recsL R).length) →
    whL [3, 4, 5] rrT rrB (f + R.length + 1) [some (.p (.lst (intsP A))), some (.ref os.length), some (.p (.int (pre.length : Int))), none, none, none] ⟨b, os ++ [.lst ((lstsP done).map D.p)]⟩ =
      some (.nx [some (.p (.lst (intsP A))), some (.ref os.length), some (.p (.int ((pre ++ recsL R).length : Int))), none, none, none], ⟨b, os ++ [.lst ((lstsP (done ++ R)).map D.p)]⟩)
  | [], done, pre, f, eA, _, _, hst => by
    have fl : ∀ S, fLen [.p (.lst (intsP A))] S = some (.p (.int (A.length : Int)), S) := fun S => by rw [fLen_l, intsP_len]
    have er : pre ++ recsL [] = pre := List.append_nil _
    rw [er] at hst eA ⊢
    rw [List.append_nil, List.length_nil, Nat.add_zero, whL]
    by_cases ht : t = []
    · have lt : ∀ S, fLt (.p (.int (pre.length : Int))) (.p (.int (A.length : Int))) S = some (.p (.bl false), S) := fun S => (fII_eq _ _ _ _ S).trans (by rw [if_pos rfl, decide_eq_false (by rw [eA, ht, List.append_nil]; omega)])
      simp only [at_dTest, at_dOp, at_dVar, at_dCall, at_dCons, at_dNil, bnd_some, List.getElem?_cons_zero, List.getElem?_cons_succ, fl, lt, toB_p, Bool.false_eq_true, if_false]
    · have st := hst.resolve_left ht
      have hs : pre.length ≤ A.length := by rw [eA, List.length_append]; omega
      have lt : ∀ S, fLt (.p (.int (pre.length : Int))) (.p (.int (A.length : Int))) S = some (.p (.bl true), S) := fun S => (fII_eq _ _ _ _ S).trans (by
        have : 0 < t.length := List.length_pos_iff.mpr ht
        rw [if_pos rfl, decide_eq_true (by rw [eA, List.length_append]; omega)])
      obtain ⟨σ2, a1, a2⟩ := rr_stop A pre.length hs hA (.ref os.length) ⟨b, os ++ [.lst ((lstsP done).map D.p)]⟩ st
      simp only [at_dTest, at_dOp, at_dVar, at_dCall, at_dCons, at_dNil, bnd_some, List.getElem?_cons_zero, List.getElem?_cons_succ, fl, lt, toB_p, if_true]
      rw [a1, bnd_some]
      dsimp only
      rw [a2]
  | l :: R, done, pre, f, eA, hl, hd, hst => by
    have fl : ∀ S, fLen [.p (.lst (intsP A))] S = some (.p (.int (A.length : Int)), S) := fun S => by rw [fLen_l, intsP_len]
    have eA' : A = pre ++ recL l ++ (recsL R ++ t) := by rw [eA, recsL_cons]; simp only [List.append_assoc]
    have eB : A = pre ++ recL l ++ recsL R ++ t := by rw [eA']; simp only [List.append_assoc]
    have er : pre ++ recsL (l :: R) = pre ++ recL l ++ recsL R := by rw [recsL_cons, List.append_assoc]
    have lt : ∀ S, fLt (.p (.int (pre.length : Int))) (.p (.int (A.length : Int))) S = some (.p (.bl true), S) := fun S => (fII_eq _ _ _ _ S).trans (by
      have := recL_len l
      rw [if_pos rfl, decide_eq_true (by rw [eA', List.length_append, List.length_append]; omega)])
    have hd' : done.length + (R.length + 1) ≤ 100 := hd
    obtain ⟨σ2, a1, a2⟩ := rr_step pre l (recsL R ++ t) (hl l (by simp)) A eA' hA b os done (by omega)
    have ih := rr_loop A t hA b os R (done ++ [l]) (pre ++ recL l) f eB (fun x hx => hl x (by simp [hx])) (by rw [List.length_append, List.length_singleton]; omega) (by rw [← er]; exact hst)
    rw [er, List.length_cons, show f + (R.length + 1) + 1 = (f + R.length + 1) + 1 by omega, whL]
    simp only [at_dTest, at_dOp, at_dVar, at_dCall, at_dCons, at_dNil, bnd_some, List.getElem?_cons_zero, List.getElem?_cons_succ, fl, lt, toB_p, if_true]
    rw [a1, bnd_some]
    dsimp only
    rw [a2, ih, show done ++ [l] ++ R = done ++ l :: R by simp]
theorem rr_eq (R : List (List Int)) (t : List Int) (hA : (recsL R ++ t).length ≤ 100000) (hl : ∀ l ∈ R, l.length ≤ 1000) (hR : R.length ≤ 100) (hst : t = [] ∨ Stop (recsL R ++ t) (recsL R).length) (S : SH) :
    m_read_records [.p (.lst (intsP (recsL R ++ t)))] S = some (.p (.tup [.lst (lstsP R), .int ((recsL R).length : Int)]), S) := by
  have ev : startD 6 [.p (.lst (intsP (recsL R ++ t)))] = [some (.p (.lst (intsP (recsL R ++ t)))), none, none, none, none, none] := rfl
  have lp := rr_loop (recsL R ++ t) t hA S.os.length S.os R [] [] (999999 - R.length) (by simp) hl (by simpa using hR) (by simpa using hst)
  rw [← fuel_at' R.length (by omega), List.nil_append, List.nil_append] at lp
  have nl : newL true [] ⟨S.os.length, S.os⟩ = some (.ref S.os.length, ⟨S.os.length, S.os ++ [.lst ((lstsP []).map D.p)]⟩) := newL_t [] (Nat.zero_le _)
  have od : outDs S.len ⟨S.os.length, S.os ++ [.lst ((lstsP R).map D.p)]⟩ [.ref S.os.length, .p (.int ((recsL R).length : Int))] = some [.lst (lstsP R), .int ((recsL R).length : Int)] := by
    have o1 := outD_lst (S := ⟨S.os.length, S.os ++ [.lst ((lstsP R).map D.p)]⟩) (b := S.len) (n := S.os.length) (ps := lstsP R) (Nat.le_refl _) (at_last _ _ _)
    unfold outDs
    rw [o1]
    rfl
  have sz : ([.ref S.os.length, .p (.int ((recsL R).length : Int))] : List D).length ≤ sizeLine := small (show 2 ≤ 1000000 by decide)
  have e : xFn 1 6 (xSeq (xS (dSet 1 (dLst true dNil)))
    (xSeq (xS (dSet 2 (dC (.int 0))))
    (xSeq (xS (dWhile [3, 4, 5] wFuel rrT rrB))
    (xRetT (dCons (dVar 1) (dCons (dVar 2) dNil)))))) [.p (.lst (intsP (recsL R ++ t)))] S = some (.ok (.p (.tup [.lst (lstsP R), .int ((recsL R).length : Int)])), S) := by
    rw [xfn_at (k := 1) rfl, ev]
    rw [at_xSeq, at_xS]
    simp only [at_dSet, at_dLst, at_dNil, bnd_some, nl, List.set_cons_zero, List.set_cons_succ, seqX_nx]
    rw [at_xSeq, at_xS]
    simp only [at_dSet, at_dC, bnd_some, List.set_cons_zero, List.set_cons_succ, seqX_nx]
    rw [at_xSeq, at_xS, at_dWhile]
    simp only [wipeD, List.set_cons_zero, List.set_cons_succ]
    have lp' : whL [3, 4, 5] rrT rrB wFuel [some (.p (.lst (intsP (recsL R ++ t)))), some (.ref S.os.length), some (.p (.int 0)), none, none, none] ⟨S.os.length, S.os ++ [.lst ((lstsP []).map D.p)]⟩ = _ := lp
    rw [lp']
    simp only [bnd_some, seqX_nx]
    rw [at_xRetT]
    simp only [at_dCons, at_dVar, at_dNil, bnd_some, List.getElem?_cons_zero, List.getElem?_cons_succ]
    rw [if_pos sz, frameX_tu od, cut_app]
  show (match xFn 1 6 _ [.p (.lst (intsP (recsL R ++ t)))] S with | some (.ok d, S1) => some (d, S1) | _ => none) = _
  rw [show xFn 1 6 _ [.p (.lst (intsP (recsL R ++ t)))] S = _ from e]
end Kb
namespace Kb
open PySem PySem.Spec PyProof.Rows L2 Pv
theorem mod_eq {n m : Nat} (hm : 0 < m) (S : SH) : fMod (.p (.int (n : Int))) (.p (.int (m : Int))) S = some (.p (.int ((n % m : Nat) : Int)), S) := by
  have h : (0 : Int) < (m : Int) := by omega
  refine (fII_eq _ _ _ _ S).trans ?_
  rw [if_pos (decide_eq_true h), Int.natCast_emod]
theorem mod_r (a b : Int) (h : 0 < b) : 0 ≤ a % b := Int.emod_nonneg _ (by omega)
theorem draw_eq (ns : List Int) (hn : ns.length ≤ 63) (k : Nat) (S : SH) : ∃ d : Int, 0 ≤ d ∧ m_draw [.p (.lst (intsP ns)), .p (.int (k : Int))] S = some (.p (.int d), S) := by
  have ev : startD 5 [.p (.lst (intsP ns)), .p (.int (k : Int))] = [some (.p (.lst (intsP ns))), some (.p (.int (k : Int))), none, none, none] := rfl
  have tru : ∀ T, truD (.p (.lst (intsP ns))) T = some (!ns.isEmpty, T) := fun T => by
    show some (!((intsP ns).map D.p).isEmpty, T) = _
    cases ns <;> rfl
  have m5 : mulOk (k : Int) 5 = true := mulOk_r (by decide)
  unfold m_draw
  rw [fn_at (k := 2) rfl, ev]
  by_cases hz : ns.isEmpty = true
  · refine ⟨(k : Int) * 5 % 7, mod_r _ _ (by decide), ?_⟩
    simp only [at_dSeq, at_dIf, at_dNot, at_dTru, at_dVar, bnd_some, List.getElem?_cons_zero, List.getElem?_cons_succ, tru, hz, Bool.not_true, Bool.not_false, if_true, at_dRet, at_dOp, at_dC, fII_eq, m5, decide_eq_true_eq, Int.reduceLT, seqK_ret, frame_p, cut_self]
  · have hz' : ns.isEmpty = false := by simpa using hz
    have hpos : 0 < ns.length := by
      cases ns with
      | nil => exact absurd rfl hz
      | cons a l => simp
    have hl : ∀ T, fLen [.p (.lst (intsP ns))] T = some (.p (.int (ns.length : Int)), T) := fun T => by rw [fLen_l, intsP_len]
    have mo := fun T => mod_eq (n := k) (m := ns.length) hpos T
    have hlt : k % ns.length < ns.length := Nat.mod_lt _ hpos
    have ix : ∀ T, fIx (.p (.lst (intsP ns))) (.p (.int ((k % ns.length : Nat) : Int))) T = some (.p (.int ns[k % ns.length]), T) := fun T => fIx_l (intsP_at (List.getElem?_eq_getElem hlt))
    generalize ns[k % ns.length] = v at ix
    have dl : divOk (k : Int) (ns.length : Int) = true := divOk_c (by omega) (by omega)
    have eq : (k : Int) / (ns.length : Int) = ((k / ns.length : Nat) : Int) := by rw [← Int.natCast_ediv]
    have pw : powOk 10 18 = true := by decide
    have ge : ∀ T, fGe (.p (.int v)) (.p (.int 1000000000000000000)) T = some (.p (.bl (decide (1000000000000000000 ≤ v))), T) := fun T => (fII_eq _ _ _ _ T).trans (by rw [if_pos rfl])
    by_cases hv : (1000000000000000000 : Int) ≤ v
    · obtain ⟨c, ec⟩ : ∃ c : Nat, (if (60 : Int) < ((k / ns.length : Nat) : Int) then (60 : Int) else ((k / ns.length : Nat) : Int)) = (c : Int) ∧ c ≤ 60 := by
        by_cases h : (60 : Int) < ((k / ns.length : Nat) : Int)
        · exact ⟨60, by rw [if_pos h]; rfl, Nat.le_refl _⟩
        · exact ⟨k / ns.length, by rw [if_neg h], by omega⟩
      have mn : ∀ T, fMin [.p (.int ((k / ns.length : Nat) : Int)), .p (.int 60)] T = some (.p (.int (c : Int)), T) := fun T => by rw [fMin_i, ec.1]
      have rz := fun T => srt_rng (S := T) c (by omega)
      obtain ⟨σ1, S1, q1, ⟨w, rfl⟩, rfl⟩ := rng0_inv (body := (dSet 2 (dOp fDiv (dVar 2) (dC (.int 100003))))) (ws := [0, 1, 3, 4]) (j := 4) (fun i σ S' => (∃ w : Int, σ = [none, none, some (.p (.int w)), none, none]) ∧ S' = ⟨S.os.length, S.os⟩) c
        (σ := [none, none, some (.p (.int v)), none, none]) (S := ⟨S.os.length, S.os⟩) ⟨⟨v, rfl⟩, rfl⟩ (by
          rintro i σ S1 hi ⟨⟨w, rfl⟩, rfl⟩
          have dw : divOk w 100003 = true := divOk_c (by decide) (by decide)
          refine ⟨[none, none, some (.p (.int (w / 100003))), none, some (.p (.int (i : Int)))], _, .inl ?_, ⟨w / 100003, rfl⟩, rfl⟩
          simp only [at_dSet, at_dOp, at_dVar, at_dC, bnd_some, List.getElem?_cons_zero, List.getElem?_cons_succ, List.set_cons_zero, List.set_cons_succ, fII_eq, dw, if_true])
      refine ⟨w % 100003, mod_r _ _ (by decide), ?_⟩
      rw [at_dSeq]
      simp only [at_dIf, at_dNot, at_dTru, at_dVar, bnd_some, List.getElem?_cons_zero, tru, hz', Bool.not_true, Bool.not_false, Bool.false_eq_true, if_false, at_dNx, seqK_nx]
      rw [at_dSeq]
      simp only [at_dSet, at_dCall, at_dCons, at_dOp, at_dVar, at_dNil, bnd_some, List.getElem?_cons_zero, List.getElem?_cons_succ, hl, mo, ix, fInt_i, List.set_cons_zero, List.set_cons_succ, seqK_nx]
      rw [at_dSeq]
      simp only [at_dSet, at_dCall, at_dCons, at_dOp, at_dVar, at_dNil, bnd_some, List.getElem?_cons_zero, List.getElem?_cons_succ, hl, fII_eq, dl, if_true, eq, List.set_cons_zero, List.set_cons_succ, seqK_nx]
      rw [at_dSeq, at_dIf]
      simp only [at_dTest, at_dOp, at_dVar, at_dC, bnd_some, List.getElem?_cons_zero, List.getElem?_cons_succ, ge, hv, decide_true, toB_p, if_true]
      rw [at_dSeq, at_dFor]
      simp only [at_dRng1, at_dCons, at_dCall, at_dVar, at_dC, at_dNil, bnd_some, List.getElem?_cons_zero, List.getElem?_cons_succ, mn, rz, wipeD, List.set_cons_zero, List.set_cons_succ]
      rw [q1]
      simp only [bnd_some, seqK_nx, at_dRet, at_dOp, at_dVar, at_dC, List.getElem?_cons_zero, List.getElem?_cons_succ, fII_eq, decide_eq_true_eq, Int.reduceLT, if_true, seqK_ret, frame_p, cut_self]
    · refine ⟨(v * 48271 + (k : Int) * 69621 + 13) % 2147483647 * 16807 % 2147483629, mod_r _ _ (by decide), ?_⟩
      have m1 : mulOk v 48271 = true := mulOk_r (by decide)
      have m2 : mulOk (k : Int) 69621 = true := mulOk_r (by decide)
      have m3 : ∀ x : Int, mulOk x 16807 = true := fun x => mulOk_r (by decide)
      rw [at_dSeq]
      simp only [at_dIf, at_dNot, at_dTru, at_dVar, bnd_some, List.getElem?_cons_zero, tru, hz', Bool.not_true, Bool.not_false, Bool.false_eq_true, if_false, at_dNx, seqK_nx]
      rw [at_dSeq]
      simp only [at_dSet, at_dCall, at_dCons, at_dOp, at_dVar, at_dNil, bnd_some, List.getElem?_cons_zero, List.getElem?_cons_succ, hl, mo, ix, fInt_i, List.set_cons_zero, List.set_cons_succ, seqK_nx]
      rw [at_dSeq]
      simp only [at_dSet, at_dCall, at_dCons, at_dOp, at_dVar, at_dNil, bnd_some, List.getElem?_cons_zero, List.getElem?_cons_succ, hl, fII_eq, dl, if_true, eq, List.set_cons_zero, List.set_cons_succ, seqK_nx]
      rw [at_dSeq, at_dIf]
      simp only [at_dTest, at_dOp, at_dVar, at_dC, bnd_some, List.getElem?_cons_zero, List.getElem?_cons_succ, ge, hv, decide_false, toB_p, Bool.false_eq_true, if_false, at_dNx, seqK_nx]
      simp only [at_dRet, at_dOp, at_dVar, at_dC, bnd_some, List.getElem?_cons_zero, List.getElem?_cons_succ, fII_eq, fAdd_i, m1, m2, m3, decide_eq_true_eq, Int.reduceLT, if_true, frame_p, cut_self]
/-! tails that are no records -/
theorem recL_eq (l : List Int) : recL l = wnd 60 l.length ++ (l ++ tailL (chk l)) := by
  unfold recL
  rw [List.append_assoc]
theorem stop_cut (pre l : List Int) (hl : l.length ≤ 1000) (j : Nat) (h0 : 0 < j) (hj : j < (recL l).length) : Stop (pre ++ (recL l).take j) pre.length := by
  have ed : (pre ++ (recL l).take j).drop pre.length = (recL l).take j := List.drop_left
  by_cases h : j < (wnd 60 l.length).length
  · have e : (recL l).take j = (wnd 60 l.length).take j := by
      rw [recL_eq, List.take_append_of_le_length (by omega)]
    obtain ⟨a, b⟩ := front_cut l.length hl j h0 h
    refine ⟨?_, .inl ?_⟩
    · rw [ed, e]; exact a
    · rw [ed, e]; exact b
  · have e : (recL l).take j = wnd 60 l.length ++ (l ++ tailL (chk l)).take (j - (wnd 60 l.length).length) := by
      rw [recL_eq, List.take_append, List.take_of_length_le (by omega)]
    obtain ⟨a, b⟩ := front l.length hl ((l ++ tailL (chk l)).take (j - (wnd 60 l.length).length))
    rw [← e] at a b
    refine ⟨by rw [ed]; exact a, .inr ⟨_, l.length, hl, by rw [ed]; exact b, .inl ?_⟩⟩
    rw [recL_len] at hj
    rw [List.length_append, List.length_take, recL_len]
    omega
theorem stop_set (pre l : List Int) (hl : l.length ≤ 1000) (p : Nat) (hp : (wnd 60 l.length).length + l.length ≤ p) (hp2 : p < (recL l).length) (x : Int) (hx : (recL l)[p]? ≠ some x) : Stop (pre ++ (recL l).set p x) pre.length := by
  have ed : (pre ++ (recL l).set p x).drop pre.length = (recL l).set p x := List.drop_left
  have e0 : (recL l).set p x = wnd 60 l.length ++ l ++ (tailL (chk l)).set (p - ((wnd 60 l.length).length + l.length)) x := by
    unfold recL
    rw [List.set_append, if_neg (by rw [List.length_append]; omega), List.length_append]
  have e : (recL l).set p x = wnd 60 l.length ++ (l ++ (tailL (chk l)).set (p - ((wnd 60 l.length).length + l.length)) x) := by rw [e0, List.append_assoc]
  obtain ⟨a, b⟩ := front l.length hl (l ++ (tailL (chk l)).set (p - ((wnd 60 l.length).length + l.length)) x)
  rw [← e] at a b
  refine ⟨by rw [ed]; exact a, .inr ⟨_, l.length, hl, by rw [ed]; exact b, .inr ⟨?_, ?_⟩⟩⟩
  · rw [List.length_append, List.length_set, recL_len]
    omega
  · rw [← List.drop_drop, ed, e, List.drop_left, List.take_left, ← e]
    rw [List.take_of_length_le (by rw [List.length_set, recL_len]; omega)]
    intro hh
    apply hx
    rw [hh]
    exact List.getElem?_set_self hp2
/-! the data of a number -/
def szN (n : Nat) : Nat := if n / 12 % 5 = 0 then 100 + n % 41 else n % 12
def dataN (n : Nat) : List Int := (List.range (szN n)).map fun k => (((n + 7 * k * k) % 256 : Nat) : Int)
theorem szN_le (n : Nat) : szN n ≤ 140 := by
  unfold szN
  split <;> omega
theorem dataN_len (n : Nat) : (dataN n).length = szN n := by
  unfold dataN
  rw [List.length_map, List.length_range]
theorem data_eq (n : Nat) (S : SH) : m_data [.p (.int (n : Int))] S = some (.p (.lst (intsP (dataN n))), S) := by
  have ev : startD 3 [.p (.int (n : Int))] = [some (.p (.int (n : Int))), none, none] := rfl
  have hz := szN_le n
  have d12 : divOk (n : Int) 12 = true := divOk_c (by decide) (by decide)
  have e41 : 100 + (n : Int) % 41 = ((100 + n % 41 : Nat) : Int) := by omega
  have e12 : (n : Int) % 12 = ((n % 12 : Nat) : Int) := by omega
  have st : ∀ T, dIf (dTest (dOp (fEq false) (dOp fMod (dOp fDiv (dVar 0) (dC (.int 12))) (dC (.int 5))) (dC (.int 0))))
      (dSet 1 (dOp (fAdd false) (dC (.int 100)) (dOp fMod (dVar 0) (dC (.int 41)))))
      dNx [some (.p (.int (n : Int))), some (.p (.int ((n % 12 : Nat) : Int))), none] T = some (.nx [some (.p (.int (n : Int))), some (.p (.int ((szN n : Nat) : Int))), none], T) := by
    intro T
    have fe : fEq false (.p (.int ((n : Int) / 12 % 5))) (.p (.int 0)) T = some (.p (.bl ((n : Int) / 12 % 5 == 0)), T) := by simp [fEq, okd, peq]
    by_cases c : n / 12 % 5 = 0
    · have c' : ((n : Int) / 12 % 5 == 0) = true := by
        rw [beq_iff_eq]
        omega
      rw [c'] at fe
      simp only [at_dIf, at_dTest, at_dOp, at_dVar, at_dC, bnd_some, List.getElem?_cons_zero, List.getElem?_cons_succ, fII_eq, d12, if_true, decide_eq_true_eq, Int.reduceLT, fe, toB_p, at_dSet, fAdd_i, e41, List.set_cons_zero, List.set_cons_succ, szN, if_pos c]
    · have c' : ((n : Int) / 12 % 5 == 0) = false := by
        rw [beq_eq_false_iff_ne]
        omega
      rw [c'] at fe
      simp only [at_dIf, at_dTest, at_dOp, at_dVar, at_dC, bnd_some, List.getElem?_cons_zero, List.getElem?_cons_succ, fII_eq, d12, if_true, decide_eq_true_eq, Int.reduceLT, fe, toB_p, Bool.false_eq_true, if_false, at_dNx, szN, if_neg c]
  have rz := fun T => srt_rng (S := T) (szN n) (by omega)
  have cp : ∀ T, compL (srcN 0 (szN n)).fin (gNm 2) dYes (dOp fMod (dOp (fAdd false) (dVar 0) (dOp fMul (dOp fMul (dC (.int 7)) (dVar 2)) (dVar 2))) (dC (.int 256))) [some (.p (.int (n : Int))), some (.p (.int ((szN n : Nat) : Int))), none] (srcN 0 (szN n)).items [] T = some ((intsP (dataN n)).map D.p, T) := fun T => by
    rw [comp_rng (S := T) (j := 2) (t := dYes) (elt := (dOp fMod (dOp (fAdd false) (dVar 0) (dOp fMul (dOp fMul (dC (.int 7)) (dVar 2)) (dVar 2))) (dC (.int 256)))) (σ := [some (.p (.int (n : Int))), some (.p (.int ((szN n : Nat) : Int))), none]) (fun _ => true) (fun k => D.p (.int (((n + 7 * k * k) % 256 : Nat) : Int))) (szN n) (small (by omega)) (fun k hk => ⟨rfl, fun _ => by
      have m1 : mulOk 7 (k : Int) = true := mulOk_l (by decide)
      have m2 : mulOk (7 * (k : Int)) (k : Int) = true := mulOk_r (by omega)
      have ek : ((n : Int) + 7 * (k : Int) * (k : Int)) % 256 = (((n + 7 * k * k) % 256 : Nat) : Int) := by
        rw [Int.natCast_emod, Int.natCast_add, Int.natCast_mul, Int.natCast_mul]
        rfl
      simp only [at_dOp, at_dVar, at_dC, bnd_some, List.set_cons_zero, List.set_cons_succ, List.getElem?_cons_zero, List.getElem?_cons_succ, fII_eq, fAdd_i, m1, m2, if_true, decide_eq_true_eq, Int.reduceLT, ek]⟩), List.filter_eq_self.mpr fun _ _ => rfl]
    unfold dataN intsP
    rw [List.map_map, List.map_map]
    rfl
  have nl := fun T => newL_f (S := T) (intsP (dataN n)) (small (by rw [intsP_len, dataN_len]; omega))
  unfold m_data
  rw [fn_at (k := 1) rfl, ev, at_dSeq]
  simp only [at_dSet, at_dOp, at_dVar, at_dC, bnd_some, List.getElem?_cons_zero, fII_eq, if_true, decide_eq_true_eq, Int.reduceLT, e12, List.set_cons_zero, List.set_cons_succ, seqK_nx]
  rw [at_dSeq, st, bnd_some, seqK_nx]
  simp only [at_dRet, at_dComp, at_dRng1, at_dCons, at_dVar, at_dNil, bnd_some, List.getElem?_cons_zero, List.getElem?_cons_succ, rz, wipeD, List.set_cons_zero, List.set_cons_succ, cp, nl, frame_p, cut_self]
end Kb
namespace Kb
open PySem PySem.Spec PyProof.Rows L2 Pv
abbrev lwB : MS :=       (dSeq (dSet 5 (dCall m_data (dCons (dCall m_draw (dCons (dVar 0) (dCons (dVar 4) dNil))) dNil)))
    (dSeq (dDrop (dBM "list" fApp (dVar 1) (dCons (dVar 5) dNil)))
    (dSeq (dIf (dTest (dOp (fEq true) (dCall m_checksum (dCons (dCall (fList false) (dCons (dVar 5) dNil)) dNil)) (dCall m_sum (dCons (dVar 5) dNil))))
      (dRet (dC (.bl false)))
      dNx)
    (dSeq (dSet 6 (dCall m_write_record (dCons (dCall (fList false) (dCons (dVar 5) dNil)) dNil)))
    (dSeq (dIf (dTest (dOp (fEq true) (dSl false (dVar 6) (some (dOp fSub (dOp fSub (dCall fLen (dCons (dVar 6) dNil)) (dC (.int 4))) (dCall fLen (dCons (dVar 5) dNil)))) (some (dOp fSub (dCall fLen (dCons (dVar 6) dNil)) (dC (.int 4))))) (dVar 5)))
      (dRet (dC (.bl false)))
      dNx)
    (dSeq (dSet 2 (dOp (fAdd false) (dVar 2) (dVar 6)))
    (dDrop (dBM "list" fApp (dVar 3) (dCons (dCall fLen (dCons (dVar 2) dNil)) dNil)))))))))
abbrev cnT : MT := (dAnd (dTest (dOp fLt (dOp (fAdd false) (dVar 11) (dC (.int 1))) (dCall fLen (dCons (dVar 3) dNil)))) (dTest (dOp fLe (dOp fIx (dVar 3) (dOp (fAdd false) (dVar 11) (dC (.int 1)))) (dVar 10))))
abbrev cnB : MS := (dAug 11 fAug (dC (.int 1)))
abbrev chS : MS := (dIf (dTest (dOp (fEq false) (dOp fMod (dVar 7) (dC (.int 3))) (dC (.int 1))))
      (dSet 8 (dSl true (dVar 8) none (some (dOp fMod (dOp fDiv (dVar 7) (dC (.int 7))) (dCall fLen (dCons (dVar 8) dNil))))))
      (dIf (dTest (dOp (fEq false) (dOp fMod (dVar 7) (dC (.int 3))) (dC (.int 2))))
      (dSeq (dSet 9 (dOp fSub (dOp fSub (dCall fLen (dCons (dVar 8) dNil)) (dC (.int 1))) (dOp fMod (dOp fDiv (dVar 7) (dC (.int 7))) (dC (.int 4)))))
    (dAsg (dOp fMod (dOp (fAdd false) (dOp (fAdd false) (dOp fIx (dVar 8) (dVar 9)) (dC (.int 1))) (dOp fMod (dOp fDiv (dVar 7) (dC (.int 31))) (dC (.int 255)))) (dC (.int 256))) (gSb (dVar 8) (dVar 9))))
      (dSet 8 (dLst true dNil))))
/-- the sizes of the first records -/
def szs (R : List (List Int)) : List Int := (List.range (R.length + 1)).map fun i => ((recsL (R.take i)).length : Int)
theorem szs_len (R : List (List Int)) : (szs R).length = R.length + 1 := by
  unfold szs
  rw [List.length_map, List.length_range]
theorem szs_at (R : List (List Int)) (i : Nat) (h : i ≤ R.length) : (szs R)[i]? = some ((recsL (R.take i)).length : Int) := by
  unfold szs
  rw [List.getElem?_map, List.getElem?_range (by omega)]
  rfl
theorem szs_snoc (R : List (List Int)) (l : List Int) : szs (R ++ [l]) = szs R ++ [((recsL (R ++ [l])).length : Int)] := by
  unfold szs
  rw [List.length_append, List.length_singleton, List.range_succ, List.map_append]
  congr 1
  · refine List.map_congr_left fun i hi => ?_
    have := List.mem_range.mp hi
    rw [List.take_append_of_le_length (by omega)]
  · rw [List.map_singleton, show R.length + 1 = (R ++ [l]).length by simp, List.take_length]
theorem recsL_le (R : List (List Int)) (h : ∀ l ∈ R, l.length ≤ 140) : (recsL R).length ≤ 205 * R.length := by
  induction R with
  | nil => exact Nat.zero_le _
  | cons l R ih =>
    rw [recsL_cons, List.length_append, recL_len, List.length_cons]
    have := h l (by simp)
    have := wnd_len 60 l.length
    have := ih fun x hx => h x (by simp [hx])
    omega
abbrev o1 (R : List (List Int)) : Ob := .lst ((lstsP R).map D.p)
abbrev o2 (R : List (List Int)) : Ob := .lst ((intsP (szs R)).map D.p)
theorem ne_int (i : Int) (S : SH) : fEq true (.p (.int i)) (.p (.int i)) S = some (.p (.bl false), S) := by simp [fEq, okd, peq]
theorem lw_step (ns : List Int) (hn : ns.length ≤ 63) (k : Nat) (b : Nat) (os : List Ob) (R : List (List Int)) (hR : ∀ l ∈ R, l.length ≤ 140) (hk : R.length ≤ 10) :
    ∃ l σ2, l.length ≤ 140 ∧ lwB [some (.p (.lst (intsP ns))), some (.ref os.length), some (.p (.lst (intsP (recsL R)))), some (.ref (os.length + 1)), some (.p (.int (k : Int))), none, none, none, none, none, none, none] ⟨b, os ++ [o1 R, o2 R]⟩ = some (.nx σ2, ⟨b, os ++ [o1 (R ++ [l]), o2 (R ++ [l])]⟩) ∧
      wipeD [4, 5, 6, 7, 8, 9, 10, 11] σ2 = [some (.p (.lst (intsP ns))), some (.ref os.length), some (.p (.lst (intsP (recsL (R ++ [l]))))), some (.ref (os.length + 1)), none, none, none, none, none, none, none, none] := by
  obtain ⟨d, hd, dr⟩ := draw_eq ns hn k ⟨b, os ++ [o1 R, o2 R]⟩
  obtain ⟨n, rfl⟩ : ∃ n : Nat, d = (n : Int) := ⟨d.toNat, by omega⟩
  have ll : (dataN n).length ≤ 140 := by rw [dataN_len]; exact szN_le n
  have rl := recsL_le R hR
  have rc := recL_len (dataN n)
  have wl := wnd_len 60 (dataN n).length
  generalize hl : dataN n = l at *
  have da := fun T => data_eq n T
  rw [hl] at da
  have ty1 := isTy_ref (S := ⟨b, os ++ [o1 R, o2 R]⟩) (two_0 b os (o1 R) (o2 R))
  have a1 : fApp [.ref os.length, .p (.lst (intsP l))] ⟨b, os ++ [o1 R, o2 R]⟩ = some (.p .non, ⟨b, os ++ [o1 (R ++ [l]), o2 R]⟩) := by
    rw [fApp_p (S := ⟨b, os ++ [o1 R, o2 R]⟩) (two_0 b os (o1 R) (o2 R)) (by rw [List.length_map, lstsP_len]; have := line_ge; omega), put_0]
    simp only [o1, lstsP, List.map_append]
    rfl
  have li := fun T => list_l l (by omega) T
  have wr := fun T => wr_eq l (by omega) T
  have l5 : ∀ T, fLen [.p (.lst (intsP l))] T = some (.p (.int (l.length : Int)), T) := fun T => by rw [fLen_l, intsP_len]
  have l6 : ∀ T, fLen [.p (.lst (intsP (recL l)))] T = some (.p (.int ((recL l).length : Int)), T) := fun T => by rw [fLen_l, intsP_len]
  have e1 : ((recL l).length : Int) - 4 - (l.length : Int) = (((wnd 60 l.length).length : Nat) : Int) := by omega
  have e2 : ((recL l).length : Int) - 4 = (((wnd 60 l.length).length + l.length : Nat) : Int) := by omega
  have sb : ∀ (i j : Int) T, fSub (.p (.int i)) (.p (.int j)) T = some (.p (.int (i - j)), T) := fun _ _ _ => rfl
  have ex : ((recL l).drop (wnd 60 l.length).length).take ((wnd 60 l.length).length + l.length - (wnd 60 l.length).length) = l := by
    rw [recL_eq, List.drop_left, show (wnd 60 l.length).length + l.length - (wnd 60 l.length).length = l.length by omega, List.take_left]
  have sl : ∀ (x y : Option D) T, dSl false (dVar 6) (some (dOp fSub (dOp fSub (dCall fLen (dCons (dVar 6) dNil)) (dC (.int 4))) (dCall fLen (dCons (dVar 5) dNil)))) (some (dOp fSub (dCall fLen (dCons (dVar 6) dNil)) (dC (.int 4)))) [some (.p (.lst (intsP ns))), some (.ref os.length), some (.p (.lst (intsP (recsL R)))), some (.ref (os.length + 1)), some (.p (.int (k : Int))), some (.p (.lst (intsP l))), some (.p (.lst (intsP (recL l)))), none, none, none, none, none] T = some (.p (.lst (intsP l)), T) := fun _ _ T => by
    rw [sl_lh (d := .p (.lst (intsP (recL l)))) (i := (((wnd 60 l.length).length : Nat) : Int)) (j := (((wnd 60 l.length).length + l.length : Nat) : Int)) rfl (by simp only [at_dOp, at_dCall, at_dCons, at_dVar, at_dC, at_dNil, bnd_some, List.getElem?_cons_zero, List.getElem?_cons_succ, l5, l6, sb, e1]) (by simp only [at_dOp, at_dCall, at_dCons, at_dVar, at_dC, at_dNil, bnd_some, List.getElem?_cons_zero, List.getElem?_cons_succ, l6, sb, e2]), fSl_both (recL l) _ _ (by omega) (by omega) (by omega), ex]
  have ad := fun T => add_l (recsL R) (recL l) (by omega) T
  rw [← recsL_snoc] at ad
  have l2 : ∀ T, fLen [.p (.lst (intsP (recsL (R ++ [l]))))] T = some (.p (.int ((recsL (R ++ [l])).length : Int)), T) := fun T => by rw [fLen_l, intsP_len]
  have ty3 := isTy_ref (S := ⟨b, os ++ [o1 (R ++ [l]), o2 R]⟩) (two_1 b os (o1 (R ++ [l])) (o2 R))
  have a3 : fApp [.ref (os.length + 1), .p (.int ((recsL (R ++ [l])).length : Int))] ⟨b, os ++ [o1 (R ++ [l]), o2 R]⟩ = some (.p .non, ⟨b, os ++ [o1 (R ++ [l]), o2 (R ++ [l])]⟩) := by
    rw [fApp_p (S := ⟨b, os ++ [o1 (R ++ [l]), o2 R]⟩) (two_1 b os (o1 (R ++ [l])) (o2 R)) (by rw [List.length_map, intsP_len, szs_len]; have := line_ge; omega), put_1]
    simp only [o2, szs_snoc, intsP_app, List.map_append]
    rfl
  refine ⟨l, [some (.p (.lst (intsP ns))), some (.ref os.length), some (.p (.lst (intsP (recsL (R ++ [l]))))), some (.ref (os.length + 1)), some (.p (.int (k : Int))), some (.p (.lst (intsP l))), some (.p (.lst (intsP (recL l)))), none, none, none, none, none], ll, ?_, rfl⟩
  unfold lwB
  rw [at_dSeq]
  simp only [at_dSet, at_dCall, at_dCons, at_dVar, at_dNil, bnd_some, List.getElem?_cons_zero, List.getElem?_cons_succ, dr, da, List.set_cons_zero, List.set_cons_succ, seqK_nx]
  rw [at_dSeq]
  simp only [at_dDrop, at_dBM, at_dCons, at_dVar, at_dNil, bnd_some, List.getElem?_cons_zero, List.getElem?_cons_succ, ty1, if_true, a1, seqK_nx]
  rw [at_dSeq]
  simp only [at_dIf, at_dTest, at_dOp, at_dCall, at_dCons, at_dVar, at_dNil, bnd_some, List.getElem?_cons_zero, List.getElem?_cons_succ, li, ck_eq, sum_eq, ne_int, toB_p, Bool.false_eq_true, if_false, at_dNx, seqK_nx]
  rw [at_dSeq]
  simp only [at_dSet, at_dCall, at_dCons, at_dVar, at_dNil, bnd_some, List.getElem?_cons_zero, List.getElem?_cons_succ, li, wr, List.set_cons_zero, List.set_cons_succ, seqK_nx]
  rw [at_dSeq]
  rw [at_dIf]
  simp only [at_dTest, at_dOp, bnd_some]
  rw [sl none none, bnd_some]
  simp only [at_dVar, bnd_some, List.getElem?_cons_zero, List.getElem?_cons_succ, cmp_ints, if_true, decide_true, Bool.not_true, toB_p, Bool.false_eq_true, if_false, at_dNx, seqK_nx]
  rw [at_dSeq]
  simp only [at_dSet, at_dOp, at_dVar, bnd_some, List.getElem?_cons_zero, List.getElem?_cons_succ, ad, List.set_cons_zero, List.set_cons_succ, seqK_nx]
  simp only [at_dDrop, at_dBM, at_dCall, at_dCons, at_dVar, at_dNil, bnd_some, List.getElem?_cons_zero, List.getElem?_cons_succ, ty3, if_true, l2, a3]
end Kb
namespace Kb
open PySem PySem.Spec PyProof.Rows L2 Pv
theorem len_r {n : Nat} {ds : List D} {S : SH} (h : S.os[n]? = some (.lst ds)) : fLen [.ref n] S = some (.p (.int ds.length), S) := by
  have ea : asQ (.ref n) S = some ds := by
    unfold asQ
    dsimp only
    rw [h]
  unfold fLen
  dsimp only
  rw [ea]
theorem sl_r {live : Bool} {n : Nat} {ds : List D} {lo hi : Option Int} {S : SH} (h : S.os[n]? = some (.lst ds)) : fSl live (.ref n) lo hi S = newL live (Pv.cutD ds lo hi) S := by
  have ea : asL (.ref n) S = some ds := by
    unfold asL
    dsimp only
    rw [h]
  unfold fSl
  dsimp only
  rw [ea]
theorem eq_mod3 (N : Nat) (c : Nat) (S : SH) : fEq false (.p (.int ((N : Int) % 3))) (.p (.int (c : Int))) S = some (.p (.bl (decide (N % 3 = c))), S) := by
  have e : fEq false (.p (.int ((N : Int) % 3))) (.p (.int (c : Int))) S = some (.p (.bl ((N : Int) % 3 == (c : Int))), S) := by simp [fEq, okd, peq]
  rw [e]
  congr 3
  by_cases h : N % 3 = c
  · rw [decide_eq_true h]
    exact congrArg P.bl (beq_iff_eq.mpr (by omega))
  · rw [decide_eq_false h]
    exact congrArg P.bl (beq_eq_false_iff_ne.mpr (by omega))
theorem three_2 (b : Nat) (os : List Ob) (x y z : Ob) : (SH.mk b (os ++ [x, y, z])).os[os.length + 2]? = some z := by simp
theorem put_2 (b : Nat) (os : List Ob) (x y z w : Ob) : SH.put ⟨b, os ++ [x, y, z]⟩ (os.length + 2) w = ⟨b, os ++ [x, y, w]⟩ := by
  unfold SH.put
  simp
theorem ch_ok (N : Nat) (a0 : D) (b : Nat) (os : List Ob) (R : List (List Int)) (l : List Int) (hl : l.length ≤ 140) (dt : D) :
    ∃ (q : Nat) (v9 : Option D) (ys : List Ob) (e : List Int), chS [some a0, some (.ref os.length), some dt, some (.ref (os.length + 1)), none, none, none, some (.p (.int (N : Int))), some (.ref (os.length + 2)), none, none, none] ⟨b, os ++ [o1 R, o2 R, .lst ((intsP (recL l)).map D.p)]⟩ =
      some (.nx [some a0, some (.ref os.length), some dt, some (.ref (os.length + 1)), none, none, none, some (.p (.int (N : Int))), some (.ref q), v9, none, none], ⟨b, os ++ ([o1 R, o2 R] ++ ys)⟩) ∧ (SH.mk b (os ++ ([o1 R, o2 R] ++ ys))).os[q]? = some (.lst ((intsP e).map D.p)) ∧ e.length ≤ 300 ∧ (e = [] ∨ ∀ pre : List Int, Stop (pre ++ e) pre.length) := by
  have at2 := three_2 b os (o1 R) (o2 R) (.lst ((intsP (recL l)).map D.p))
  have rl := recL_len l
  have wl := wnd_len 60 l.length
  have fl := len_r at2
  rw [List.length_map, intsP_len] at fl
  have d7 : divOk (N : Int) 7 = true := divOk_c (by decide) (by decide)
  have d31 : divOk (N : Int) 31 = true := divOk_c (by decide) (by decide)
  have e7 : (N : Int) / 7 = ((N / 7 : Nat) : Int) := by omega
  have q1 := fun S => eq_mod3 N 1 S
  have q2 := fun S => eq_mod3 N 2 S
  have q1' : ∀ S, fEq false (.p (.int ((N : Int) % 3))) (.p (.int 1)) S = some (.p (.bl (decide (N % 3 = 1))), S) := q1
  have q2' : ∀ S, fEq false (.p (.int ((N : Int) % 3))) (.p (.int 2)) S = some (.p (.bl (decide (N % 3 = 2))), S) := q2
  by_cases h1 : N % 3 = 1
  · rw [decide_eq_true h1] at q1'
    have mo := fun S => mod_eq (n := N / 7) (m := (recL l).length) (by omega) S
    have hj : N / 7 % (recL l).length < (recL l).length := Nat.mod_lt _ (by omega)
    generalize N / 7 % (recL l).length = j at hj mo
    have sl : dSl true (dVar 8) none (some (dOp fMod (dOp fDiv (dVar 7) (dC (.int 7))) (dCall fLen (dCons (dVar 8) dNil)))) [some a0, some (.ref os.length), some dt, some (.ref (os.length + 1)), none, none, none, some (.p (.int (N : Int))), some (.ref (os.length + 2)), none, none, none] ⟨b, os ++ [o1 R, o2 R, .lst ((intsP (recL l)).map D.p)]⟩ = some (.ref (os.length + 3), ⟨b, os ++ ([o1 R, o2 R] ++ [.lst ((intsP (recL l)).map D.p), .lst ((intsP ((recL l).take j)).map D.p)])⟩) := by
      rw [sl_hi (d := .ref (os.length + 2)) (i := (j : Int)) rfl (by simp only [at_dOp, at_dCall, at_dCons, at_dVar, at_dC, at_dNil, bnd_some, List.getElem?_cons_zero, List.getElem?_cons_succ, fII_eq, d7, if_true, e7, fl, mo]), sl_r at2, cut_to _ j (by omega)]
      rw [newL_t _ (small (by rw [List.length_map, intsP_len, List.length_take]; omega))]
      simp
    refine ⟨os.length + 3, none, [.lst ((intsP (recL l)).map D.p), .lst ((intsP ((recL l).take j)).map D.p)], (recL l).take j, ?_, by simp, by rw [List.length_take]; omega, ?_⟩
    · unfold chS
      rw [at_dIf]
      simp only [at_dTest, at_dOp, at_dVar, at_dC, bnd_some, List.getElem?_cons_zero, List.getElem?_cons_succ, fII_eq, if_true, decide_eq_true_eq, Int.reduceLT, q1', toB_p]
      rw [at_dSet, sl, bnd_some]
      rfl
    · by_cases j0 : j = 0
      · exact .inl (by rw [j0, List.take_zero])
      · exact .inr fun pre => stop_cut pre l (by omega) j (by omega) hj
  · rw [decide_eq_false h1] at q1'
    by_cases h2 : N % 3 = 2
    · rw [decide_eq_true h2] at q2'
      obtain ⟨p, hp⟩ : ∃ p : Nat, p = (recL l).length - 1 - N / 7 % 4 := ⟨_, rfl⟩
      have ep : ((recL l).length : Int) - 1 - (N : Int) / 7 % 4 = (p : Int) := by omega
      have hp2 : p < (recL l).length := by omega
      have hp1 : (wnd 60 l.length).length + l.length ≤ p := by omega
      have hx : (recL l)[p]? = some (recL l)[p] := List.getElem?_eq_getElem hp2
      have hb : 0 ≤ (recL l)[p] ∧ (recL l)[p] < 256 := by
        have ht : (recL l)[p]? = (tailL (chk l))[p - ((wnd 60 l.length).length + l.length)]? := by
          unfold recL
          rw [List.getElem?_append_right (by rw [List.length_append]; exact hp1), List.length_append]
        rw [hx] at ht
        exact tailL_byt (chk_r l) _ (List.mem_of_getElem? ht.symm)
      generalize hX : (recL l)[p] = x at hx hb
      obtain ⟨y, hy⟩ : ∃ y : Int, y = (x + 1 + (N : Int) / 31 % 255) % 256 := ⟨_, rfl⟩
      have hne : y ≠ x := by omega
      have sb : ∀ (i j : Int) T, fSub (.p (.int i)) (.p (.int j)) T = some (.p (.int (i - j)), T) := fun _ _ _ => rfl
      have ix : fIx (.ref (os.length + 2)) (.p (.int (p : Int))) ⟨b, os ++ [o1 R, o2 R, .lst ((intsP (recL l)).map D.p)]⟩ = some (.p (.int x), ⟨b, os ++ [o1 R, o2 R, .lst ((intsP (recL l)).map D.p)]⟩) := fIx_ri at2 (by omega) (by
        rw [Int.toNat_natCast, List.getElem?_map, intsP_at hx]
        rfl)
      have st : setIx (.ref (os.length + 2)) (.p (.int (p : Int))) (.p (.int y)) ⟨b, os ++ [o1 R, o2 R, .lst ((intsP (recL l)).map D.p)]⟩ = some ⟨b, os ++ ([o1 R, o2 R] ++ [.lst ((intsP ((recL l).set p y)).map D.p)])⟩ := by
        rw [setIx_ri at2 (by omega) (by rw [Int.toNat_natCast, List.length_map, intsP_len]; exact hp2), put_2, Int.toNat_natCast]
        unfold intsP
        rw [List.map_set, List.map_set]
        rfl
      refine ⟨os.length + 2, some (.p (.int (p : Int))), [.lst ((intsP ((recL l).set p y)).map D.p)], (recL l).set p y, ?_, by simp, by rw [List.length_set]; omega, .inr fun pre => stop_set pre l (by omega) p hp1 hp2 y (by rw [hx]; intro h; exact hne (Option.some.inj h).symm)⟩
      unfold chS
      rw [at_dIf]
      simp only [at_dTest, at_dOp, at_dVar, at_dC, bnd_some, List.getElem?_cons_zero, List.getElem?_cons_succ, fII_eq, if_true, decide_eq_true_eq, Int.reduceLT, q1', toB_p, Bool.false_eq_true, if_false]
      rw [at_dIf]
      simp only [at_dTest, at_dOp, at_dVar, at_dC, bnd_some, List.getElem?_cons_zero, List.getElem?_cons_succ, fII_eq, if_true, decide_eq_true_eq, Int.reduceLT, q2', toB_p]
      rw [at_dSeq]
      simp only [at_dSet, at_dOp, at_dCall, at_dCons, at_dVar, at_dC, at_dNil, bnd_some, List.getElem?_cons_zero, List.getElem?_cons_succ, fl, sb, fII_eq, d7, if_true, decide_eq_true_eq, Int.reduceLT, ep, List.set_cons_zero, List.set_cons_succ, seqK_nx]
      simp only [at_dAsg, at_dOp, at_dVar, at_dC, bnd_some, List.getElem?_cons_zero, List.getElem?_cons_succ, ix, fAdd_i, fII_eq, d31, if_true, decide_eq_true_eq, Int.reduceLT, ← hy, at_gSb, st]
    · rw [decide_eq_false h2] at q2'
      have nl : newL true [] ⟨b, os ++ [o1 R, o2 R, .lst ((intsP (recL l)).map D.p)]⟩ = some (.ref (os.length + 3), ⟨b, os ++ ([o1 R, o2 R] ++ [.lst ((intsP (recL l)).map D.p), .lst ((intsP []).map D.p)])⟩) := by
        rw [newL_t [] (Nat.zero_le _)]
        simp [intsP]
      refine ⟨os.length + 3, none, [.lst ((intsP (recL l)).map D.p), .lst ((intsP []).map D.p)], [], ?_, by simp, by simp, .inl rfl⟩
      unfold chS
      rw [at_dIf]
      simp only [at_dTest, at_dOp, at_dVar, at_dC, bnd_some, List.getElem?_cons_zero, List.getElem?_cons_succ, fII_eq, if_true, decide_eq_true_eq, Int.reduceLT, q1', toB_p, Bool.false_eq_true, if_false]
      rw [at_dIf]
      simp only [at_dTest, at_dOp, at_dVar, at_dC, bnd_some, List.getElem?_cons_zero, List.getElem?_cons_succ, fII_eq, if_true, decide_eq_true_eq, Int.reduceLT, q2', toB_p, Bool.false_eq_true, if_false]
      rw [at_dSet]
      simp only [at_dLst, at_dNil, bnd_some, nl]
      rfl
/-! how many records fit -/
def szR (R : List (List Int)) (c : Nat) : Nat := (recsL (R.take c)).length
theorem cn_loop (R : List (List Int)) (hR : R.length ≤ 10) (E : Nat) (T : SH) (r3 : Nat) (h3 : T.os[r3]? = some (o2 R)) (x1 x2 x7 x8 x9 : Option D) : ∀ (m c f : Nat), c + m = R.length → szR R c ≤ E → ∃ c', c' ≤ R.length ∧ szR R c' ≤ E ∧ (c' = R.length ∨ E < szR R (c' + 1)) ∧
    whL [0, 4, 5, 6, 7, 8, 9] cnT cnB (f + m + 1) [none, x1, x2, some (.ref r3), none, none, none, none, none, none, some (.p (.int (E : Int))), some (.p (.int (c : Int)))] T = some (.nx [none, x1, x2, some (.ref r3), none, none, none, none, none, none, some (.p (.int (E : Int))), some (.p (.int (c' : Int)))], T) := by
  have fl := len_r h3
  rw [List.length_map, intsP_len, szs_len] at fl
  intro m
  induction m with
  | zero =>
    intro c f hc hE
    refine ⟨c, by omega, hE, .inl (by omega), ?_⟩
    have lt : ∀ S, fLt (.p (.int ((c : Int) + 1))) (.p (.int ((R.length + 1 : Nat) : Int))) S = some (.p (.bl false), S) := fun S => (fII_eq _ _ _ _ S).trans (by rw [if_pos rfl, decide_eq_false (by omega)])
    rw [whL]
    simp only [at_dAnd, at_dTest, at_dOp, at_dCall, at_dCons, at_dVar, at_dC, at_dNil, bnd_some, List.getElem?_cons_zero, List.getElem?_cons_succ, fAdd_i, fl, lt, toB_p, Bool.false_eq_true, if_false]
  | succ m ih =>
    intro c f hc hE
    have lt : ∀ S, fLt (.p (.int ((c : Int) + 1))) (.p (.int ((R.length + 1 : Nat) : Int))) S = some (.p (.bl true), S) := fun S => (fII_eq _ _ _ _ S).trans (by rw [if_pos rfl, decide_eq_true (by omega)])
    have ix : fIx (.ref r3) (.p (.int ((c : Int) + 1))) T = some (.p (.int (szR R (c + 1) : Int)), T) := fIx_ri h3 (by omega) (by
      rw [show ((c : Int) + 1).toNat = c + 1 by omega, List.getElem?_map, intsP_at (szs_at R (c + 1) (by omega))]
      rfl)
    by_cases hle : szR R (c + 1) ≤ E
    · have le : ∀ S, fLe (.p (.int (szR R (c + 1) : Int))) (.p (.int (E : Int))) S = some (.p (.bl true), S) := fun S => (fII_eq _ _ _ _ S).trans (by rw [if_pos rfl, decide_eq_true (by omega)])
      obtain ⟨c', h1, h2, h4, h5⟩ := ih (c + 1) f (by omega) hle
      refine ⟨c', h1, h2, h4, ?_⟩
      have au : ∀ S, fAug (.p (.int (c : Int))) (.p (.int 1)) S = some (.p (.int ((c + 1 : Nat) : Int)), S) := fun S => rfl
      rw [show f + (m + 1) + 1 = (f + m + 1) + 1 by omega, whL]
      simp only [at_dAnd, at_dTest, at_dOp, at_dCall, at_dCons, at_dVar, at_dC, at_dNil, bnd_some, List.getElem?_cons_zero, List.getElem?_cons_succ, fAdd_i, fl, lt, toB_p, if_true, ix, le]
      unfold cnB
      rw [at_dAug]
      simp only [List.getElem?_cons_zero, List.getElem?_cons_succ, at_dC, bnd_some, au, List.set_cons_zero, List.set_cons_succ, wipeD]
      exact h5
    · have le : ∀ S, fLe (.p (.int (szR R (c + 1) : Int))) (.p (.int (E : Int))) S = some (.p (.bl false), S) := fun S => (fII_eq _ _ _ _ S).trans (by rw [if_pos rfl, decide_eq_false (by omega)])
      refine ⟨c, by omega, hE, .inr (by omega), ?_⟩
      rw [show f + (m + 1) + 1 = (f + m + 1) + 1 by omega, whL]
      simp only [at_dAnd, at_dTest, at_dOp, at_dCall, at_dCons, at_dVar, at_dC, at_dNil, bnd_some, List.getElem?_cons_zero, List.getElem?_cons_succ, fAdd_i, fl, lt, toB_p, if_true, ix, le, Bool.false_eq_true, if_false]
/-- the front of the data: whole records and what stops -/
theorem front_of (R : List (List Int)) (hR : ∀ l ∈ R, l.length ≤ 140) (E c : Nat) (hE : E ≤ (recsL R).length) (hc : c ≤ R.length) (h1 : szR R c ≤ E) (h2 : c = R.length ∨ E < szR R (c + 1)) : ∃ t, (recsL R).take E = recsL (R.take c) ++ t ∧ (t = [] ∨ Stop (recsL (R.take c) ++ t) (recsL (R.take c)).length) := by
  have es : recsL R = recsL (R.take c) ++ recsL (R.drop c) := by
    unfold recsL
    rw [← List.flatten_append, ← List.map_append, List.take_append_drop]
  have et : (recsL R).take E = recsL (R.take c) ++ (recsL (R.drop c)).take (E - szR R c) := by
    rw [es, List.take_append, List.take_of_length_le h1]
    rfl
  refine ⟨_, et, ?_⟩
  by_cases hz : E - szR R c = 0
  · exact .inl (by rw [hz, List.take_zero])
  · rcases h2 with h2 | h2
    · have : (recsL R).length = szR R c := by
        unfold szR
        rw [h2, List.take_length]
      omega
    · right
      by_cases hcl : c < R.length
      · have ed : R.drop c = R[c] :: R.drop (c + 1) := List.drop_eq_getElem_cons hcl
        have e1 : szR R (c + 1) = szR R c + (recL R[c]).length := by
          unfold szR
          rw [List.take_add_one, List.getElem?_eq_getElem hcl]
          show (recsL (R.take c ++ [R[c]])).length = _
          rw [recsL_snoc, List.length_append]
        rw [ed, recsL_cons, List.take_append_of_le_length (by omega)]
        exact stop_cut _ R[c] (Nat.le_trans (hR _ (List.getElem_mem hcl)) (by decide)) _ (by omega) (by omega)
      · have e1 : szR R (c + 1) = szR R c := by
          unfold szR
          rw [List.take_of_length_le (by omega), List.take_of_length_le (by omega)]
        omega
end Kb
namespace Kb
open PySem PySem.Spec PyProof.Rows L2 Pv
theorem okd_lsts (k : Nat) (R : List (List Int)) : okd (k + 2) (.lst (lstsP R)) = true := by
  show (lstsP R).all (okd (k + 1)) = true
  rw [List.all_eq_true]
  intro p hp
  obtain ⟨a, _, rfl⟩ := List.mem_map.mp hp
  exact okd_ints k a
theorem okd_res (R : List (List Int)) (i : Int) : okd 40 (.tup [.lst (lstsP R), .int i]) = true := by
  show [P.lst (lstsP R), .int i].all (okd 39) = true
  rw [List.all_cons, okd_lsts 37 R]
  rfl
theorem add_r (a e : List Int) {q : Nat} {T : SH} (h : T.os[q]? = some (.lst ((intsP e).map D.p))) (hl : a.length + e.length ≤ 1000000) : fAdd false (.p (.lst (intsP a))) (.ref q) T = some (.p (.lst (intsP (a ++ e))), T) := by
  have ea : asL (.ref q) T = some ((intsP e).map D.p) := by
    unfold asL
    dsimp only
    rw [h]
  unfold fAdd
  simp only [asL_l, ea]
  rw [← List.map_append, ← intsP_app, newL_f _ (small (by rw [intsP_len, List.length_append]; exact hl))]
theorem law_true (ns : List Int) (hn : ns.length ≤ 63) : m_law [.p (.lst (intsP ns))] ⟨0, []⟩ = some (.p (.bl true), ⟨0, []⟩) := by
  have ev : startD 12 [.p (.lst (intsP ns))] = [some (.p (.lst (intsP ns))), none, none, none, none, none, none, none, none, none, none, none] := rfl
  have hlen : ∀ T, fLen [.p (.lst (intsP ns))] T = some (.p (.int (ns.length : Int)), T) := fun T => by rw [fLen_l, intsP_len]
  obtain ⟨c, ec, hc⟩ : ∃ c : Nat, (if (ns.length : Int) < 6 then (ns.length : Int) else 6) = (c : Int) ∧ c ≤ 6 := by
    by_cases h : (ns.length : Int) < 6
    · exact ⟨ns.length, by rw [if_pos h], by omega⟩
    · exact ⟨6, by rw [if_neg h]; rfl, Nat.le_refl _⟩
  have rz := fun T => srt_rng (S := T) c (by omega)
  have n1 : newL true [] ⟨0, []⟩ = some (.ref ([] : List Ob).length, ⟨0, ([] : List Ob) ++ [.lst ((lstsP []).map D.p)]⟩) := newL_t [] (Nat.zero_le _)
  have n2 : ∀ T, newL false [] T = some (.p (.lst (intsP (recsL []))), T) := fun T => newL_f (S := T) [] (Nat.zero_le _)
  have n3 : newL true [.p (.int 0)] ⟨0, ([] : List Ob) ++ [.lst ((lstsP []).map D.p)]⟩ = some (.ref (([] : List Ob).length + 1), ⟨0, ([] : List Ob) ++ [o1 [], o2 []]⟩) := newL_t [.p (.int 0)] (small (show 1 ≤ 1000000 by decide))
  obtain ⟨σ1, S1, q1, R, hRl, hR, rfl, rfl⟩ := rng0_inv (body := lwB) (ws := [4, 5, 6, 7, 8, 9, 10, 11]) (j := 4) (fun i σ S' => ∃ R : List (List Int), R.length = i ∧ (∀ l ∈ R, l.length ≤ 140) ∧ σ = [some (.p (.lst (intsP ns))), some (.ref ([] : List Ob).length), some (.p (.lst (intsP (recsL R)))), some (.ref (([] : List Ob).length + 1)), none, none, none, none, none, none, none, none] ∧ S' = ⟨0, ([] : List Ob) ++ [o1 R, o2 R]⟩) c
    (σ := [some (.p (.lst (intsP ns))), some (.ref ([] : List Ob).length), some (.p (.lst (intsP (recsL [])))), some (.ref (([] : List Ob).length + 1)), none, none, none, none, none, none, none, none]) (S := ⟨0, ([] : List Ob) ++ [o1 [], o2 []]⟩) ⟨[], rfl, by simp, rfl, rfl⟩ (by
      rintro i σ S1 hi ⟨R, hRl, hR, rfl, rfl⟩
      obtain ⟨l, σ2, hl, a, b⟩ := lw_step ns hn i 0 [] R hR (by omega)
      refine ⟨σ2, _, .inl a, R ++ [l], by rw [List.length_append, hRl]; rfl, fun x hx => ?_, b, rfl⟩
      rcases List.mem_append.mp hx with hx | hx
      · exact hR x hx
      · rw [List.mem_singleton.mp hx]
        exact hl)
  have rl := recsL_le R hR
  obtain ⟨d, hd, dr⟩ := draw_eq ns hn ns.length ⟨0, ([] : List Ob) ++ [o1 R, o2 R]⟩
  obtain ⟨N, rfl⟩ : ∃ N : Nat, d = (N : Int) := ⟨d.toNat, by omega⟩
  have d3 : divOk (N : Int) 3 = true := divOk_c (by decide) (by decide)
  have d5 : divOk (N : Int) 5 = true := divOk_c (by decide) (by decide)
  have e3 : (N : Int) / 3 = ((N / 3 : Nat) : Int) := by omega
  have e5 : (N : Int) / 5 = ((N / 5 : Nat) : Int) := by omega
  have dl : (dataN (N / 3)).length ≤ 140 := by rw [dataN_len]; exact szN_le _
  have wr : mL_write_record [.p (.lst (intsP (dataN (N / 3))))] ⟨0, ([] : List Ob) ++ [o1 R, o2 R]⟩ = some (.ref (([] : List Ob).length + 2), ⟨0, ([] : List Ob) ++ [o1 R, o2 R, .lst ((intsP (recL (dataN (N / 3)))).map D.p)]⟩) := wrL_eq _ (by omega) _
  obtain ⟨q, v9, ys, e, c1, c2, c3, c4⟩ := ch_ok N (.p (.lst (intsP ns))) 0 [] R (dataN (N / 3)) dl (.p (.lst (intsP (recsL R))))
  unfold chS at c1
  have ad := add_r (recsL R) e c2 (by omega)
  have rr := fun T => rr_eq R e (by rw [List.length_append]; omega) (fun l hl => Nat.le_trans (hR l hl) (by decide)) (by omega) (c4.imp id fun h => h (recsL R)) T
  have l2 : ∀ T, fLen [.p (.lst (intsP (recsL R)))] T = some (.p (.int ((recsL R).length : Int)), T) := fun T => by rw [fLen_l, intsP_len]
  let T : SH := ⟨0, ([] : List Ob) ++ ([o1 R, o2 R] ++ ys)⟩
  have t1 : T.os[([] : List Ob).length]? = some (o1 R) := rfl
  have t3 : T.os[([] : List Ob).length + 1]? = some (o2 R) := rfl
  have rd : rdPs T [.ref ([] : List Ob).length, .p (.int ((recsL R).length : Int))] = some [.lst (lstsP R), .int ((recsL R).length : Int)] := by
    have o := toP_lst (S := T) (k := 7) (b := 0) (ps := lstsP R) (Nat.zero_le _) t1
    unfold rdPs
    rw [show rdP T (.ref ([] : List Ob).length) = _ from o]
    rfl
  have eqt : ∀ σ : En, σ[1]? = some (some (.ref ([] : List Ob).length)) → σ[2]? = some (some (.p (.lst (intsP (recsL R))))) → σ[8]? = some (some (.ref q)) → dEqT true (dCall m_read_records (dCons (dOp (fAdd false) (dVar 2) (dVar 8)) dNil)) (dCons (dVar 1) (dCons (dCall fLen (dCons (dVar 2) dNil)) dNil)) σ T = some (.p (.bl false), T) := fun σ h1 h2 h8 => by
    have z1 : dCall m_read_records (dCons (dOp (fAdd false) (dVar 2) (dVar 8)) dNil) σ T = some (.p (.tup [.lst (lstsP R), .int ((recsL R).length : Int)]), T) := by
      simp only [at_dCall, at_dCons, at_dOp, at_dVar, h2, h8, at_dNil, bnd_some]
      rw [show fAdd false (.p (.lst (intsP (recsL R)))) (.ref q) T = _ from ad]
      simp only [bnd_some, rr]
      rfl
    have z2 : dCons (dVar 1) (dCons (dCall fLen (dCons (dVar 2) dNil)) dNil) σ T = some ([.ref ([] : List Ob).length, .p (.int ((recsL R).length : Int))], T) := by
      simp only [at_dCall, at_dCons, at_dVar, h1, h2, at_dNil, bnd_some, l2]
    unfold dEqT
    rw [z1, bnd_some, z2, bnd_some, rdP_p, rd]
    dsimp only
    rw [if_pos ⟨okd_res R _, okd_res R _, small (show 2 ≤ 1000000 by decide)⟩, peq_refl 40 _ (okd_res R _)]
    rfl
  obtain ⟨E, hE⟩ : ∃ E : Nat, E = N / 5 % (1 + (recsL R).length) := ⟨_, rfl⟩
  have hE1 : E ≤ (recsL R).length := by
    have := Nat.mod_lt (N / 5) (show 0 < 1 + (recsL R).length by omega)
    omega
  have mo := fun S => mod_eq (n := N / 5) (m := 1 + (recsL R).length) (by omega) S
  rw [← hE] at mo
  have e1 : 1 + ((recsL R).length : Int) = ((1 + (recsL R).length : Nat) : Int) := by omega
  obtain ⟨c', k1, k2, k3, k4⟩ := cn_loop R (by omega) E T (([] : List Ob).length + 1) t3 (some (.ref ([] : List Ob).length)) (some (.p (.lst (intsP (recsL R))))) none none none R.length 0 (999999 - R.length) (by omega) (Nat.zero_le _)
  rw [← fuel_at' R.length (by omega)] at k4
  obtain ⟨t, f1, f2⟩ := front_of R hR E c' hE1 k1 k2 k3
  have rl2 : (recsL (R.take c') ++ t).length ≤ 100000 := by
    rw [← f1, List.length_take]
    omega
  have rr2 := fun T => rr_eq (R.take c') t rl2 (fun l hl => Nat.le_trans (hR l (List.mem_of_mem_take hl)) (by decide)) (Nat.le_trans (List.length_take_le' _ _) (by omega)) f2 T
  rw [← f1] at rr2
  have s2 : ∀ σ : En, σ[2]? = some (some (.p (.lst (intsP (recsL R))))) → σ[10]? = some (some (.p (.int (E : Int)))) → dSl false (dVar 2) none (some (dVar 10)) σ T = some (.p (.lst (intsP ((recsL R).take E))), T) := fun σ h2 h10 => by
    rw [sl_hi (d := .p (.lst (intsP (recsL R)))) (i := (E : Int)) (by simp only [at_dVar, h2]) (by simp only [at_dVar, h10]), fSl_to (recsL R) E hE1 (by omega)]
  have s1 : ∀ σ : En, σ[1]? = some (some (.ref ([] : List Ob).length)) → σ[11]? = some (some (.p (.int (c' : Int)))) → dSl false (dVar 1) none (some (dVar 11)) σ T = some (.p (.lst (lstsP (R.take c'))), T) := fun σ h1 h11 => by
    rw [sl_hi (d := .ref ([] : List Ob).length) (i := (c' : Int)) (by simp only [at_dVar, h1]) (by simp only [at_dVar, h11]), sl_r t1]
    have ct : Pv.cutD ((lstsP R).map D.p) none (some (c' : Int)) = (lstsP (R.take c')).map D.p := by
      unfold Pv.cutD
      rw [sIx_none, sIx_nat, List.length_map, lstsP_len, Nat.min_eq_left k1, List.drop_zero, Nat.sub_zero]
      unfold lstsP
      rw [← List.map_take, ← List.map_take]
    rw [ct, newL_f _ (small (by rw [lstsP_len, List.length_take]; omega))]
  have ix : fIx (.ref (([] : List Ob).length + 1)) (.p (.int (c' : Int))) T = some (.p (.int ((recsL (R.take c')).length : Int)), T) := fIx_ri t3 (by omega) (by
    rw [Int.toNat_natCast, List.getElem?_map, intsP_at (szs_at R c' k1)]
    rfl)
  have nt : ∀ S, newT [.p (.lst (lstsP (R.take c'))), .p (.int ((recsL (R.take c')).length : Int))] S = some (.p (.tup [.lst (lstsP (R.take c')), .int ((recsL (R.take c')).length : Int)]), S) := fun S => newT_p (S := S) [.lst (lstsP (R.take c')), .int ((recsL (R.take c')).length : Int)] (small (show 2 ≤ 1000000 by decide))
  have fe : ∀ S, fEq false (.p (.tup [.lst (lstsP (R.take c')), .int ((recsL (R.take c')).length : Int)])) (.p (.tup [.lst (lstsP (R.take c')), .int ((recsL (R.take c')).length : Int)])) S = some (.p (.bl true), S) := fun S => by
    show (if okd 40 _ = true ∧ okd 40 _ = true then some (D.p (.bl (if false = true then !peq _ _ else peq (.tup [.lst (lstsP (R.take c')), .int ((recsL (R.take c')).length : Int)]) (.tup [.lst (lstsP (R.take c')), .int ((recsL (R.take c')).length : Int)]))), S) else none) = _
    rw [if_pos ⟨okd_res _ _, okd_res _ _⟩, peq_refl 40 _ (okd_res _ _)]
    rfl
  unfold m_law
  rw [fn_at (k := 1) rfl, ev, at_dSeq]
  rw [at_dSet]
  simp only [at_dLst, at_dNil, bnd_some]
  rw [show newL true [] ⟨([] : List Ob).length, []⟩ = _ from n1, bnd_some]
  simp only [bnd_some, List.set_cons_zero, List.set_cons_succ, seqK_nx]
  rw [at_dSeq]
  simp only [at_dSet, at_dLst, at_dNil, bnd_some, n2, List.set_cons_zero, List.set_cons_succ, seqK_nx]
  rw [at_dSeq, at_dSet]
  simp only [at_dLst, at_dCons, at_dC, at_dNil, bnd_some]
  rw [n3, bnd_some]
  simp only [bnd_some, List.set_cons_zero, List.set_cons_succ, seqK_nx]
  rw [at_dSeq, at_dFor]
  simp only [at_dRng1, at_dCons, at_dCall, at_dVar, at_dC, at_dNil, bnd_some, List.getElem?_cons_zero, hlen, fMin_i, ec, rz, wipeD, List.set_cons_zero, List.set_cons_succ]
  rw [q1, bnd_some, seqK_nx]
  rw [at_dSeq]
  simp only [at_dSet, at_dCall, at_dCons, at_dVar, at_dNil, bnd_some, List.getElem?_cons_zero, hlen, dr, List.set_cons_zero, List.set_cons_succ, seqK_nx]
  rw [at_dSeq]
  simp only [at_dSet, at_dCall, at_dCons, at_dOp, at_dVar, at_dC, at_dNil, bnd_some, List.getElem?_cons_zero, List.getElem?_cons_succ, fII_eq, d3, if_true, e3, data_eq, wr, List.set_cons_zero, List.set_cons_succ, seqK_nx]
  rw [at_dSeq, c1, bnd_some, seqK_nx]
  rw [at_dSeq, at_dIf, at_dTest]
  rw [eqt _ rfl rfl rfl]
  simp only [bnd_some, toB_p, Bool.false_eq_true, if_false, at_dNx, seqK_nx]
  rw [at_dSeq]
  simp only [at_dSet, at_dOp, at_dCall, at_dCons, at_dVar, at_dC, at_dNil, bnd_some, List.getElem?_cons_zero, List.getElem?_cons_succ, fII_eq, d5, if_true, e5, l2, fAdd_i, e1, mo, List.set_cons_zero, List.set_cons_succ, seqK_nx]
  rw [at_dSeq]
  simp only [at_dSet, at_dC, bnd_some, List.set_cons_zero, List.set_cons_succ, seqK_nx]
  rw [at_dSeq, at_dWhile]
  simp only [wipeD, List.set_cons_zero, List.set_cons_succ]
  have k4' : whL [0, 4, 5, 6, 7, 8, 9] cnT cnB wFuel [none, some (.ref ([] : List Ob).length), some (.p (.lst (intsP (recsL R)))), some (.ref (([] : List Ob).length + 1)), none, none, none, none, none, none, some (.p (.int (E : Int))), some (.p (.int 0))] T = _ := k4
  rw [k4', bnd_some, seqK_nx, at_dRet]
  simp only [at_dOp, at_dCall, at_dCons, at_dNil, bnd_some]
  rw [s2 _ rfl rfl]
  simp only [bnd_some, rr2, at_dTup, at_dCons]
  rw [s1 _ rfl rfl]
  simp only [bnd_some, at_dOp, at_dVar, at_dNil, List.getElem?_cons_zero, List.getElem?_cons_succ, ix, nt, fe]
  rfl
end Kb
namespace Kb
open PySem PySem.Spec PyProof.Rows L2 Pv
def spLaw (K : PySem.W.Frag) : Sp := fun vs H Q _ => ∃ (a : Addr) (ns : List Int), vs = [V.ref a] ∧ SqL K H a (ns.map V.int) ∧ ns.length ≤ 63 ∧ ∀ H', Q (.bl true) H'
theorem law_sp {K : PySem.W.Frag} {cl : Nat → Addr} {vs : List V} {H : Hp} {Q : VK} {E : XK} (h : spLaw K vs H Q E) : spOf K cl m_law vs H Q E := by
  obtain ⟨a, ns, rfl, hs, hl, q⟩ := h
  exact law_of hs (law_true ns hl) q
end Kb
namespace Kb
open PySem PySem.Spec PyProof.Rows L2 Pv
def topS (i : Nat) : Stmt := PySem.Challenge.pw_kithbase_k52_records_read_back.main.body.getD i (.Pass ⟨0, 0, 0, 0⟩)
abbrev s_write_number : Stmt := (topS 2)
theorem sc_write_number : FnScope ["number", "data"] ["number"] (defScope s_write_number) := ⟨rfl, rfl, rfl, by decide +kernel, rfl, by decide +kernel, by decide +kernel⟩
abbrev s_Reader_init : Stmt := (inClass (topS 8) 0)
theorem sc_Reader_init : FnScope ["self", "data"] ["self", "data"] (defScope s_Reader_init) := ⟨rfl, rfl, rfl, by decide +kernel, rfl, by decide +kernel, by decide +kernel⟩
abbrev s_Reader_read_byte : Stmt := (inClass (topS 8) 1)
theorem sc_Reader_read_byte : FnScope ["self"] ["self"] (defScope s_Reader_read_byte) := ⟨rfl, rfl, rfl, by decide +kernel, rfl, by decide +kernel, by decide +kernel⟩
abbrev s_Reader_read_number : Stmt := (inClass (topS 8) 2)
theorem sc_Reader_read_number : FnScope ["self", "total", "factor", "count", "byte"] ["self"] (defScope s_Reader_read_number) := ⟨rfl, rfl, rfl, by decide +kernel, rfl, by decide +kernel, by decide +kernel⟩
abbrev s_checksum : Stmt := (topS 10)
theorem sc_checksum : FnScope ["data", "total", "byte"] ["data"] (defScope s_checksum) := ⟨rfl, rfl, rfl, by decide +kernel, rfl, by decide +kernel, by decide +kernel⟩
abbrev s_write_record : Stmt := (topS 11)
theorem sc_write_record : FnScope ["data", "total", "tail"] ["data"] (defScope s_write_record) := ⟨rfl, rfl, rfl, by decide +kernel, rfl, by decide +kernel, by decide +kernel⟩
abbrev s_record_size : Stmt := (topS 12)
theorem sc_record_size : FnScope ["data", "start", "reader", "count"] ["data", "start"] (defScope s_record_size) := ⟨rfl, rfl, rfl, by decide +kernel, rfl, by decide +kernel, by decide +kernel⟩
abbrev s_read_records : Stmt := (topS 13)
theorem sc_read_records : FnScope ["data", "records", "start", "found", "begin", "end"] ["data"] (defScope s_read_records) := ⟨rfl, rfl, rfl, by decide +kernel, rfl, by decide +kernel, by decide +kernel⟩
abbrev s_draw : Stmt := (topS 15)
theorem sc_draw : FnScope ["_law_script", "_law_k", "_law_cell", "_law_turn", "_law_step"] ["_law_script", "_law_k"] (defScope s_draw) := ⟨rfl, rfl, rfl, by decide +kernel, rfl, by decide +kernel, by decide +kernel⟩
abbrev s_sum : Stmt := (topS 16)
theorem sc_sum : FnScope ["_law_data_here", "_law_total", "_law_byte"] ["_law_data_here"] (defScope s_sum) := ⟨rfl, rfl, rfl, by decide +kernel, rfl, by decide +kernel, by decide +kernel⟩
abbrev s_data : Stmt := (topS 17)
theorem sc_data : FnScope ["_law_number", "_law_size", "_law_k"] ["_law_number"] (defScope s_data) := ⟨rfl, rfl, rfl, by decide +kernel, rfl, by decide +kernel, by decide +kernel⟩
abbrev s_law : Stmt := (topS 18)
theorem sc_law : FnScope ["_law_script", "_law_records", "_law_data_here", "_law_sizes", "_law_k", "_law_record", "_law_written", "_law_number", "_law_extra", "_law_place", "_law_end", "_law_count"] ["_law_script"] (defScope s_law) := ⟨rfl, rfl, rfl, by decide +kernel, rfl, by decide +kernel, by decide +kernel⟩
theorem bt_int : bootBuiltins "int" = some (.type "int") := by decide +kernel
theorem bt_len : bootBuiltins "len" = some (.builtin "len") := by decide +kernel
theorem bt_list : bootBuiltins "list" = some (.type "list") := by decide +kernel
theorem bt_min : bootBuiltins "min" = some (.builtin "min") := by decide +kernel
theorem bt_range : bootBuiltins "range" = some (.type "range") := by decide +kernel
structure Txt (K : PySem.W.Frag) (mg : Str → Option Value) where
  c_Reader : Addr
  cl_Reader : Cls K c_Reader
  g_Reader : mg "Reader" = some (.ref c_Reader)
  n_Reader_at : NoAttr K c_Reader "at"
  n_Reader_data : NoAttr K c_Reader "data"
  a_write_number : Addr
  d_write_number : FuncData
  F_write_number : Fun K "write_number" "write_number" s_write_number a_write_number d_write_number
  b_write_number : Binds K d_write_number ["number"] []
  g_write_number : mg "write_number" = some (.ref a_write_number)
  a_Reader_init : Addr
  d_Reader_init : FuncData
  F_Reader_init : Fun K "__init__" "Reader.__init__" s_Reader_init a_Reader_init d_Reader_init
  b_Reader_init : Binds K d_Reader_init ["self", "data"] []
  M_Reader : Mk K c_Reader a_Reader_init
  a_Reader_read_byte : Addr
  d_Reader_read_byte : FuncData
  F_Reader_read_byte : Fun K "read_byte" "Reader.read_byte" s_Reader_read_byte a_Reader_read_byte d_Reader_read_byte
  b_Reader_read_byte : Binds K d_Reader_read_byte ["self"] []
  m_Reader_read_byte : Meth K c_Reader "read_byte" a_Reader_read_byte
  a_Reader_read_number : Addr
  d_Reader_read_number : FuncData
  F_Reader_read_number : Fun K "read_number" "Reader.read_number" s_Reader_read_number a_Reader_read_number d_Reader_read_number
  b_Reader_read_number : Binds K d_Reader_read_number ["self"] []
  m_Reader_read_number : Meth K c_Reader "read_number" a_Reader_read_number
  a_checksum : Addr
  d_checksum : FuncData
  F_checksum : Fun K "checksum" "checksum" s_checksum a_checksum d_checksum
  b_checksum : Binds K d_checksum ["data"] []
  g_checksum : mg "checksum" = some (.ref a_checksum)
  a_write_record : Addr
  d_write_record : FuncData
  F_write_record : Fun K "write_record" "write_record" s_write_record a_write_record d_write_record
  b_write_record : Binds K d_write_record ["data"] []
  g_write_record : mg "write_record" = some (.ref a_write_record)
  a_record_size : Addr
  d_record_size : FuncData
  F_record_size : Fun K "record_size" "record_size" s_record_size a_record_size d_record_size
  b_record_size : Binds K d_record_size ["data", "start"] []
  g_record_size : mg "record_size" = some (.ref a_record_size)
  a_read_records : Addr
  d_read_records : FuncData
  F_read_records : Fun K "read_records" "read_records" s_read_records a_read_records d_read_records
  b_read_records : Binds K d_read_records ["data"] []
  g_read_records : mg "read_records" = some (.ref a_read_records)
  a_draw : Addr
  d_draw : FuncData
  F_draw : Fun K "_law_draw" "_law_draw" s_draw a_draw d_draw
  b_draw : Binds K d_draw ["_law_script", "_law_k"] []
  g_draw : mg "_law_draw" = some (.ref a_draw)
  a_sum : Addr
  d_sum : FuncData
  F_sum : Fun K "_law_sum" "_law_sum" s_sum a_sum d_sum
  b_sum : Binds K d_sum ["_law_data_here"] []
  g_sum : mg "_law_sum" = some (.ref a_sum)
  a_data : Addr
  d_data : FuncData
  F_data : Fun K "_law_data" "_law_data" s_data a_data d_data
  b_data : Binds K d_data ["_law_number"] []
  g_data : mg "_law_data" = some (.ref a_data)
  a_law : Addr
  d_law : FuncData
  F_law : Fun K "law" "law" s_law a_law d_law
  b_law : Binds K d_law ["_law_script"] []
  g_law : mg "law" = some (.ref a_law)
  z_int : mg "int" = none
  z_len : mg "len" = none
  z_list : mg "list" = none
  z_min : mg "min" = none
  z_range : mg "range" = none
  v_NUMBERBYTES : V
  u_NUMBERBYTES : Value
  g_NUMBERBYTES : mg "NUMBER_BYTES" = some u_NUMBERBYTES
  r_NUMBERBYTES : RelV v_NUMBERBYTES u_NUMBERBYTES
  q_NUMBERBYTES : ∀ (F : Hp) (cl : Nat → Addr), Rp K cl F Kb.u_NUMBERBYTES v_NUMBERBYTES
  e_DamagedPacket : Addr
  gE_DamagedPacket : mg "DamagedPacket" = some (.ref e_DamagedPacket)
  xE_DamagedPacket : PySem.W.excIn K e_DamagedPacket [.type "ValueError", .type "Exception", .type "BaseException", .type "object"] "ValueError.__new__" = true
  kE_DamagedPacket : PySem.W.keepIn K (.ref e_DamagedPacket) = true
  bE_DamagedPacket : PySem.W.subIn K (.ref e_DamagedPacket) (.type "BaseException") = some true
  tE_DamagedPacket : PySem.W.typeIn K (.ref e_DamagedPacket) = some (.type "type")
  mE_DamagedPacket : PySem.W.exmOne K (.ref e_DamagedPacket) (.ref e_DamagedPacket) = some true
def Txt.cl {K : PySem.W.Frag} {mg : Str → Option Value} (T : Txt K mg) : Nat → Addr
  | 2 => T.c_Reader
  | 50 => T.e_DamagedPacket
  | _ => 0
section
variable {P : Program} {w : World} {K : PySem.W.Frag} {mg : Str → Option Value} {base : Heap}
theorem ok_write_number (T : Txt K mg) : FnOk P w K mg base CX0 1 T.a_write_number T.d_write_number ["number"] (spOf K T.cl m_write_number) :=
  fn_ok T.F_write_number sc_write_number fun cdv A outer s H E hr => (s_cons (s_set (i := 1) sc_write_number.nd rfl (.inl rfl) (k_lst (live := true) a_nil))
    (s_cons (s_while PassesOwn.never (t_cmp d_ge op_ge (k_var 0) k_int (nomark _))
      (s_cons (s_drop (k_bm d_app PySem.F.plainAttrs_list PySem.F.slot_list_append PySem.F.type_list_append mt_append (k_var 1) (a_cons (k_op d_add o_add (k_op d_mod op_mod (k_var 0) k_int) k_int) a_nil)))
    (s_one (s_set (i := 0) sc_write_number.nd rfl (.inl rfl) (k_op d_div op_fdivW (k_var 0) k_int)))))
    (s_cons (s_drop (k_bm d_app PySem.F.plainAttrs_list PySem.F.slot_list_append PySem.F.type_list_append mt_append (k_var 1) (a_cons (k_var 0) a_nil)))
    (s_one (s_ret (k_var 1))))))
theorem ok_Reader_init (T : Txt K mg) : FnOk P w K mg base CX0 1 T.a_Reader_init T.d_Reader_init ["self", "data"] (spOf K T.cl m_Reader_init) :=
  fnL_ok T.F_Reader_init sc_Reader_init fun cdv A outer s H E hr => (s_cons (s_fld (cs_cons ⟨T.cl_Reader, T.n_Reader_data⟩ cs_nil) (k_var 0) (k_callT (d_list (live := false)) c_list (by rfl) T.z_list bt_list (a_cons (k_var 1) a_nil)))
    (s_one (s_fld (cs_cons ⟨T.cl_Reader, T.n_Reader_at⟩ cs_nil) (k_var 0) k_int)))
theorem ok_Reader_read_byte (T : Txt K mg) : FnOk P w K mg base (L2.CX P w) 1 T.a_Reader_read_byte T.d_Reader_read_byte ["self"] (spX K T.cl m_Reader_read_byte) :=
  fx_ok T.F_Reader_read_byte sc_Reader_read_byte fun cdv A outer s H E hr tk => (x_cons (x_if (t_cmp d_ge op_ge (k_fld (cs_cons ⟨T.cl_Reader, T.n_Reader_at⟩ cs_nil) (k_var 0)) (k_callB d_len c_len (by rfl) T.z_len bt_len (a_cons (k_fld (cs_cons ⟨T.cl_Reader, T.n_Reader_data⟩ cs_nil) (k_var 0)) a_nil)) (nomark _))
      (x_one (x_raise (c := 50) rfl tk PySem.F.excBase_ValueError T.xE_DamagedPacket T.gE_DamagedPacket T.kE_DamagedPacket (raises_own T.bE_DamagedPacket T.tE_DamagedPacket) (by rfl)))
      (xs_lift s_nil))
    (xs_lift (s_cons (s_augF d_addI in_add (cs_cons ⟨T.cl_Reader, T.n_Reader_at⟩ cs_nil) (k_var 0) k_int)
    (s_one (s_ret (k_ix (k_fld (cs_cons ⟨T.cl_Reader, T.n_Reader_data⟩ cs_nil) (k_var 0)) (k_op d_sub op_sub (k_fld (cs_cons ⟨T.cl_Reader, T.n_Reader_at⟩ cs_nil) (k_var 0)) k_int)))))))
theorem ok_Reader_read_number (T : Txt K mg) : FnOk P w K mg base (L2.CX P w) 2 T.a_Reader_read_number T.d_Reader_read_number ["self"] (spX K T.cl m_Reader_read_number) :=
  fx_ok T.F_Reader_read_number sc_Reader_read_number fun cdv A outer s H E hr tk => (x_cons (x_lift (s_set (i := 1) sc_Reader_read_number.nd rfl (.inl rfl) k_int))
    (x_cons (x_lift (s_set (i := 2) sc_Reader_read_number.nd rfl (.inl rfl) k_int))
    (x_cons (x_for (passes_of rfl) rfl (pi_rng1 (by rfl) T.z_range (a_cons (k_glob (by rfl) T.g_NUMBERBYTES T.r_NUMBERBYTES (fun F => T.q_NUMBERBYTES F T.cl)) a_nil)) (g_name (i := 3) sc_Reader_read_number.nd rfl (.inl rfl))
      (x_cons (x_set (i := 4) sc_Reader_read_number.nd rfl (.inl rfl) (xe_meth0 (c := 2) tk (k_var 0) T.cl_Reader T.m_Reader_read_byte (ok_Reader_read_byte T) (hr.mono (by first | decide | omega)) T.b_Reader_read_byte))
    (x_cons (x_lift (s_aug (i := 1) d_aug io_add sc_Reader_read_number.nd rfl (.inl rfl) (k_op d_mul op_mulG (k_op d_mod op_mod (k_var 4) k_int) (k_var 2))))
    (x_cons (x_lift (s_set (i := 2) sc_Reader_read_number.nd rfl (.inl rfl) (k_op d_mul op_mulG (k_var 2) k_int)))
    (x_one (x_if (t_cmp d_lt op_lt (k_var 4) k_int (nomark _))
      (x_cons (x_if (PW.pt (w_and (t_cmp d_eq (o_eq hr.units) (k_var 4) k_int (nomark _)) (w_and1 (t_cmp d_gt op_gt (k_var 3) k_int (nomark _)))))
      (x_one (x_raise (c := 50) rfl tk PySem.F.excBase_ValueError T.xE_DamagedPacket T.gE_DamagedPacket T.kE_DamagedPacket (raises_own T.bE_DamagedPacket T.tE_DamagedPacket) (by rfl)))
      (xs_lift s_nil))
    (xs_lift (s_one (s_ret (k_var 1)))))
      (xs_lift s_nil)))))))
    (x_one (x_raise (c := 50) rfl tk PySem.F.excBase_ValueError T.xE_DamagedPacket T.gE_DamagedPacket T.kE_DamagedPacket (raises_own T.bE_DamagedPacket T.tE_DamagedPacket) (by rfl))))))
theorem ok_checksum (T : Txt K mg) : FnOk P w K mg base CX0 1 T.a_checksum T.d_checksum ["data"] (spOf K T.cl m_checksum) :=
  fn_ok T.F_checksum sc_checksum fun cdv A outer s H E hr => (s_cons (s_set (i := 1) sc_checksum.nd rfl (.inl rfl) k_int)
    (s_cons (s_for PassesOwn.never rfl (pi_any (k_var 0)) (g_name (i := 2) sc_checksum.nd rfl (.inl rfl))
      (s_one (s_set (i := 1) sc_checksum.nd rfl (.inl rfl) (k_op d_mod op_mod (k_op d_add o_add (k_op d_add o_add (k_op d_mul op_mulG k_int (k_var 1)) (k_var 2)) k_int) k_int))))
    (s_one (s_ret (k_var 1)))))
theorem ok_write_record (T : Txt K mg) : FnOk P w K mg base CX0 2 T.a_write_record T.d_write_record ["data"] (spOf K T.cl m_write_record) :=
  fn_ok T.F_write_record sc_write_record fun cdv A outer s H E hr => (s_cons (s_set (i := 1) sc_write_record.nd rfl (.inl rfl) (k_call (ok_checksum T) (hr.mono (by first | decide | omega)) (by rfl) T.g_checksum T.F_checksum.kp T.b_checksum pass0 (a_cons (k_var 0) a_nil)))
    (s_cons (s_set (i := 2) sc_write_record.nd rfl (.inl rfl) (k_lst (live := false) (a_cons (k_op d_div op_fdivW (k_var 1) k_int) (a_cons (k_op d_mod op_mod (k_op d_div op_fdivW (k_var 1) k_int) k_int) (a_cons (k_op d_mod op_mod (k_op d_div op_fdivW (k_var 1) k_int) k_int) (a_cons (k_op d_mod op_mod (k_var 1) k_int) a_nil))))))
    (s_one (s_ret (k_op d_add o_add (k_op d_add o_add (k_call (ok_write_number T) (hr.mono (by first | decide | omega)) (by rfl) T.g_write_number T.F_write_number.kp T.b_write_number pass0 (a_cons (k_callB d_len c_len (by rfl) T.z_len bt_len (a_cons (k_var 0) a_nil)) a_nil)) (k_callT (d_list (live := false)) c_list (by rfl) T.z_list bt_list (a_cons (k_var 0) a_nil))) (k_var 2))))))
theorem okL_write_record (T : Txt K mg) : FnOk P w K mg base CX0 2 T.a_write_record T.d_write_record ["data"] (spOf K T.cl mL_write_record) :=
  fnL_ok T.F_write_record sc_write_record fun cdv A outer s H E hr => (s_cons (s_set (i := 1) sc_write_record.nd rfl (.inl rfl) (k_call (ok_checksum T) (hr.mono (by first | decide | omega)) (by rfl) T.g_checksum T.F_checksum.kp T.b_checksum pass0 (a_cons (k_var 0) a_nil)))
    (s_cons (s_set (i := 2) sc_write_record.nd rfl (.inl rfl) (k_lst (live := false) (a_cons (k_op d_div op_fdivW (k_var 1) k_int) (a_cons (k_op d_mod op_mod (k_op d_div op_fdivW (k_var 1) k_int) k_int) (a_cons (k_op d_mod op_mod (k_op d_div op_fdivW (k_var 1) k_int) k_int) (a_cons (k_op d_mod op_mod (k_var 1) k_int) a_nil))))))
    (s_one (s_ret (k_op d_add o_add (k_op d_add o_add (k_call (ok_write_number T) (hr.mono (by first | decide | omega)) (by rfl) T.g_write_number T.F_write_number.kp T.b_write_number pass0 (a_cons (k_callB d_len c_len (by rfl) T.z_len bt_len (a_cons (k_var 0) a_nil)) a_nil)) (k_callT (d_list (live := false)) c_list (by rfl) T.z_list bt_list (a_cons (k_var 0) a_nil))) (k_var 2))))))
theorem ok_record_size (T : Txt K mg) : FnOk P w K mg base CX0 4 T.a_record_size T.d_record_size ["data", "start"] (spOf K T.cl m_record_size) :=
  fn_ok T.F_record_size sc_record_size fun cdv A outer s H E hr => (s_cons (s_set (i := 2) sc_record_size.nd rfl (.inl rfl) (k_make (live := true) (c := 2) T.M_Reader (ok_Reader_init T) (hr.mono (by first | decide | omega)) (by rfl) T.g_Reader T.b_Reader_init pass0 (a_cons (k_sl (live := false) (k_var 0) (o_some (k_var 1)) o_none) a_nil)))
    (s_cons (s_try (cs := [50]) rfl rfl ⟨by rfl, by decide, .inl T.gE_DamagedPacket⟩ takes0 (fun i hi => by
        have e : i = 50 := by simpa using hi
        subst e
        exact T.mE_DamagedPacket) (fun W pn xe tk hp => (x_one (x_set (i := 3) sc_record_size.nd rfl (.inl rfl) (xe_meth0 (c := 2) tk (k_var 2) T.cl_Reader T.m_Reader_read_number (ok_Reader_read_number T) (hr.mono (by first | decide | omega)) T.b_Reader_read_number))))
      (fun a oe pn => (s_one (s_ret k_non))))
    (s_one (s_ret (k_tup (a_cons (k_fld (cs_cons ⟨T.cl_Reader, T.n_Reader_at⟩ cs_nil) (k_var 2)) (a_cons (k_var 3) a_nil)))))))
theorem ok_read_records (T : Txt K mg) : FnOk P w K mg base CX0 5 T.a_read_records T.d_read_records ["data"] (spOf K T.cl m_read_records) :=
  fxN_ok T.F_read_records sc_read_records fun cdv A outer s H E hr => (x_cons (x_lift (s_set (i := 1) sc_read_records.nd rfl (.inl rfl) (k_lst (live := true) a_nil)))
    (x_cons (x_lift (s_set (i := 2) sc_read_records.nd rfl (.inl rfl) k_int))
    (x_cons (x_lift (s_while PassesOwn.never (t_cmp d_lt op_lt (k_var 2) (k_callB d_len c_len (by rfl) T.z_len bt_len (a_cons (k_var 0) a_nil)) (nomark _))
      (s_cons (s_set (i := 3) sc_read_records.nd rfl (.inl rfl) (k_call (ok_record_size T) (hr.mono (by first | decide | omega)) (by rfl) T.g_record_size T.F_record_size.kp T.b_record_size pass0 (a_cons (k_var 0) (a_cons (k_var 2) a_nil))))
    (s_cons (s_if (t_cmp d_is o_is (k_var 3) k_non (nomark _))
      (s_one s_brk)
      s_nil)
    (s_cons (s_set (i := 4) sc_read_records.nd rfl (.inl rfl) (k_op d_add o_add (k_var 2) (k_ix (k_var 3) k_int)))
    (s_cons (s_set (i := 5) sc_read_records.nd rfl (.inl rfl) (k_op d_add o_add (k_var 4) (k_ix (k_var 3) k_int)))
    (s_cons (s_if (PW.pt (w_or (t_cmp d_gt op_gt (k_op d_add o_add (k_var 5) k_int) (k_callB d_len c_len (by rfl) T.z_len bt_len (a_cons (k_var 0) a_nil)) (nomark _)) (w_or1 (t_cmp d_eq (o_ne hr.units) (k_call (ok_write_record T) (hr.mono (by first | decide | omega)) (by rfl) T.g_write_record T.F_write_record.kp T.b_write_record pass0 (a_cons (k_sl (live := false) (k_var 0) (o_some (k_var 4)) (o_some (k_var 5))) a_nil)) (k_sl (live := false) (k_var 0) (o_some (k_var 2)) (o_some (k_op d_add o_add (k_var 5) k_int))) (nomark _)))))
      (s_one s_brk)
      s_nil)
    (s_cons (s_drop (k_bm d_app PySem.F.plainAttrs_list PySem.F.slot_list_append PySem.F.type_list_append mt_append (k_var 1) (a_cons (k_sl (live := false) (k_var 0) (o_some (k_var 4)) (o_some (k_var 5))) a_nil)))
    (s_one (s_set (i := 2) sc_read_records.nd rfl (.inl rfl) (k_op d_add o_add (k_var 5) k_int)))))))))))
    (x_one (x_retT (a_cons (k_var 1) (a_cons (k_var 2) a_nil)))))))
theorem ok_draw (T : Txt K mg) : FnOk P w K mg base CX0 1 T.a_draw T.d_draw ["_law_script", "_law_k"] (spOf K T.cl m_draw) :=
  fn_ok T.F_draw sc_draw fun cdv A outer s H E hr => (s_cons (s_if (t_not (t_tru (k_var 0)))
      (s_one (s_ret (k_op d_mod op_mod (k_op d_mul op_mulG (k_var 1) k_int) k_int)))
      s_nil)
    (s_cons (s_set (i := 2) sc_draw.nd rfl (.inl rfl) (k_callT d_int c_int (by rfl) T.z_int bt_int (a_cons (k_ix (k_var 0) (k_op d_mod op_mod (k_var 1) (k_callB d_len c_len (by rfl) T.z_len bt_len (a_cons (k_var 0) a_nil)))) a_nil)))
    (s_cons (s_set (i := 3) sc_draw.nd rfl (.inl rfl) (k_op d_div op_fdivW (k_var 1) (k_callB d_len c_len (by rfl) T.z_len bt_len (a_cons (k_var 0) a_nil))))
    (s_cons (s_if (t_cmp d_ge op_ge (k_var 2) k_int (nomark _))
      (s_cons (s_for PassesOwn.never rfl (pi_rng1 (by rfl) T.z_range (a_cons (k_callB d_min (c_min rfl) (by rfl) T.z_min bt_min (a_cons (k_var 3) (a_cons k_int a_nil))) a_nil)) (g_name (i := 4) sc_draw.nd rfl (.inl rfl))
      (s_one (s_set (i := 2) sc_draw.nd rfl (.inl rfl) (k_op d_div op_fdivW (k_var 2) k_int))))
    (s_one (s_ret (k_op d_mod op_mod (k_var 2) k_int))))
      s_nil)
    (s_one (s_ret (k_op d_mod op_mod (k_op d_mul op_mulG (k_op d_mod op_mod (k_op d_add o_add (k_op d_add o_add (k_op d_mul op_mulG (k_var 2) k_int) (k_op d_mul op_mulG (k_var 1) k_int)) k_int) k_int) k_int) k_int)))))))
theorem ok_sum (T : Txt K mg) : FnOk P w K mg base CX0 1 T.a_sum T.d_sum ["_law_data_here"] (spOf K T.cl m_sum) :=
  fn_ok T.F_sum sc_sum fun cdv A outer s H E hr => (s_cons (s_set (i := 1) sc_sum.nd rfl (.inl rfl) k_int)
    (s_cons (s_for PassesOwn.never rfl (pi_any (k_var 0)) (g_name (i := 2) sc_sum.nd rfl (.inl rfl))
      (s_one (s_set (i := 1) sc_sum.nd rfl (.inl rfl) (k_op d_mod op_mod (k_op d_add o_add (k_op d_add o_add (k_op d_mul op_mulG k_int (k_var 1)) (k_var 2)) k_int) k_int))))
    (s_one (s_ret (k_var 1)))))
theorem ok_data (T : Txt K mg) : FnOk P w K mg base CX0 1 T.a_data T.d_data ["_law_number"] (spOf K T.cl m_data) :=
  fn_ok T.F_data sc_data fun cdv A outer s H E hr => (s_cons (s_set (i := 1) sc_data.nd rfl (.inl rfl) (k_op d_mod op_mod (k_var 0) k_int))
    (s_cons (s_if (t_cmp d_eq (o_eq hr.units) (k_op d_mod op_mod (k_op d_div op_fdivW (k_var 0) k_int) k_int) k_int (nomark _))
      (s_one (s_set (i := 1) sc_data.nd rfl (.inl rfl) (k_op d_add o_add k_int (k_op d_mod op_mod (k_var 0) k_int))))
      s_nil)
    (s_one (s_ret (k_comp (own := [("_law_k", 2)]) (live := false) rfl sc_data.nd (pi_rng1 (by rfl) T.z_range (a_cons (k_var 1) a_nil)) (blkOk_by (own := [("_law_k", 2)]) (N := ["_law_number", "_law_size", "_law_k"]) (sc := defScope s_data) (by decide +kernel)) (fun _ _ _ _ _ => (g_name (i := 2) sc_data.nd rfl (.inl rfl))) (fun _ _ _ _ _ => ts_nil) (fun _ _ _ _ _ => (k_op d_mod op_mod (k_op d_add o_add (k_var 0) (k_op d_mul op_mulG (k_op d_mul op_mulG k_int (k_var 2)) (k_var 2))) k_int)))))))
theorem ok_law (T : Txt K mg) : FnOk P w K mg base CX0 6 T.a_law T.d_law ["_law_script"] (spOf K T.cl m_law) :=
  fn_ok T.F_law sc_law fun cdv A outer s H E hr => (s_cons (s_set (i := 1) sc_law.nd rfl (.inl rfl) (k_lst (live := true) a_nil))
    (s_cons (s_set (i := 2) sc_law.nd rfl (.inl rfl) (k_lst (live := false) a_nil))
    (s_cons (s_set (i := 3) sc_law.nd rfl (.inl rfl) (k_lst (live := true) (a_cons k_int a_nil)))
    (s_cons (s_for PassesOwn.never rfl (pi_rng1 (by rfl) T.z_range (a_cons (k_callB d_min (c_min rfl) (by rfl) T.z_min bt_min (a_cons k_int (a_cons (k_callB d_len c_len (by rfl) T.z_len bt_len (a_cons (k_var 0) a_nil)) a_nil))) a_nil)) (g_name (i := 4) sc_law.nd rfl (.inl rfl))
      (s_cons (s_set (i := 5) sc_law.nd rfl (.inl rfl) (k_call (ok_data T) (hr.mono (by first | decide | omega)) (by rfl) T.g_data T.F_data.kp T.b_data pass0 (a_cons (k_call (ok_draw T) (hr.mono (by first | decide | omega)) (by rfl) T.g_draw T.F_draw.kp T.b_draw pass0 (a_cons (k_var 0) (a_cons (k_var 4) a_nil))) a_nil)))
    (s_cons (s_drop (k_bm d_app PySem.F.plainAttrs_list PySem.F.slot_list_append PySem.F.type_list_append mt_append (k_var 1) (a_cons (k_var 5) a_nil)))
    (s_cons (s_if (t_cmp d_eq (o_ne hr.units) (k_call (ok_checksum T) (hr.mono (by first | decide | omega)) (by rfl) T.g_checksum T.F_checksum.kp T.b_checksum pass0 (a_cons (k_callT (d_list (live := false)) c_list (by rfl) T.z_list bt_list (a_cons (k_var 5) a_nil)) a_nil)) (k_call (ok_sum T) (hr.mono (by first | decide | omega)) (by rfl) T.g_sum T.F_sum.kp T.b_sum pass0 (a_cons (k_var 5) a_nil)) (nomark _))
      (s_one (s_ret k_bl))
      s_nil)
    (s_cons (s_set (i := 6) sc_law.nd rfl (.inl rfl) (k_call (ok_write_record T) (hr.mono (by first | decide | omega)) (by rfl) T.g_write_record T.F_write_record.kp T.b_write_record pass0 (a_cons (k_callT (d_list (live := false)) c_list (by rfl) T.z_list bt_list (a_cons (k_var 5) a_nil)) a_nil)))
    (s_cons (s_if (t_cmp d_eq (o_ne hr.units) (k_sl (live := false) (k_var 6) (o_some (k_op d_sub op_sub (k_op d_sub op_sub (k_callB d_len c_len (by rfl) T.z_len bt_len (a_cons (k_var 6) a_nil)) k_int) (k_callB d_len c_len (by rfl) T.z_len bt_len (a_cons (k_var 5) a_nil)))) (o_some (k_op d_sub op_sub (k_callB d_len c_len (by rfl) T.z_len bt_len (a_cons (k_var 6) a_nil)) k_int))) (k_var 5) (nomark _))
      (s_one (s_ret k_bl))
      s_nil)
    (s_cons (s_set (i := 2) sc_law.nd rfl (.inl rfl) (k_op d_add o_add (k_var 2) (k_var 6)))
    (s_one (s_drop (k_bm d_app PySem.F.plainAttrs_list PySem.F.slot_list_append PySem.F.type_list_append mt_append (k_var 3) (a_cons (k_callB d_len c_len (by rfl) T.z_len bt_len (a_cons (k_var 2) a_nil)) a_nil)))))))))))
    (s_cons (s_set (i := 7) sc_law.nd rfl (.inl rfl) (k_call (ok_draw T) (hr.mono (by first | decide | omega)) (by rfl) T.g_draw T.F_draw.kp T.b_draw pass0 (a_cons (k_var 0) (a_cons (k_callB d_len c_len (by rfl) T.z_len bt_len (a_cons (k_var 0) a_nil)) a_nil))))
    (s_cons (s_set (i := 8) sc_law.nd rfl (.inl rfl) (k_call (okL_write_record T) (hr.mono (by first | decide | omega)) (by rfl) T.g_write_record T.F_write_record.kp T.b_write_record pass0 (a_cons (k_call (ok_data T) (hr.mono (by first | decide | omega)) (by rfl) T.g_data T.F_data.kp T.b_data pass0 (a_cons (k_op d_div op_fdivW (k_var 7) k_int) a_nil)) a_nil)))
    (s_cons (s_if (t_cmp d_eq (o_eq hr.units) (k_op d_mod op_mod (k_var 7) k_int) k_int (nomark _))
      (s_one (s_set (i := 8) sc_law.nd rfl (.inl rfl) (k_sl (live := true) (k_var 8) o_none (o_some (k_op d_mod op_mod (k_op d_div op_fdivW (k_var 7) k_int) (k_callB d_len c_len (by rfl) T.z_len bt_len (a_cons (k_var 8) a_nil)))))))
      (s_one (s_if (t_cmp d_eq (o_eq hr.units) (k_op d_mod op_mod (k_var 7) k_int) k_int (nomark _))
      (s_cons (s_set (i := 9) sc_law.nd rfl (.inl rfl) (k_op d_sub op_sub (k_op d_sub op_sub (k_callB d_len c_len (by rfl) T.z_len bt_len (a_cons (k_var 8) a_nil)) k_int) (k_op d_mod op_mod (k_op d_div op_fdivW (k_var 7) k_int) k_int)))
    (s_one (s_asg (k_op d_mod op_mod (k_op d_add o_add (k_op d_add o_add (k_ix (k_var 8) (k_var 9)) k_int) (k_op d_mod op_mod (k_op d_div op_fdivW (k_var 7) k_int) k_int)) k_int) (g_sub (k_var 8) (k_var 9)))))
      (s_one (s_set (i := 8) sc_law.nd rfl (.inl rfl) (k_lst (live := true) a_nil))))))
    (s_cons (s_if (t_cmpT (o_ne hr.units) (k_call (ok_read_records T) (hr.mono (by first | decide | omega)) (by rfl) T.g_read_records T.F_read_records.kp T.b_read_records pass0 (a_cons (k_op d_add o_add (k_var 2) (k_var 8)) a_nil)) (a_cons (k_var 1) (a_cons (k_callB d_len c_len (by rfl) T.z_len bt_len (a_cons (k_var 2) a_nil)) a_nil)) (nomark _))
      (s_one (s_ret k_bl))
      s_nil)
    (s_cons (s_set (i := 10) sc_law.nd rfl (.inl rfl) (k_op d_mod op_mod (k_op d_div op_fdivW (k_var 7) k_int) (k_op d_add o_add k_int (k_callB d_len c_len (by rfl) T.z_len bt_len (a_cons (k_var 2) a_nil)))))
    (s_cons (s_set (i := 11) sc_law.nd rfl (.inl rfl) k_int)
    (s_cons (s_while PassesOwn.never (PW.pt (w_and (t_cmp d_lt op_lt (k_op d_add o_add (k_var 11) k_int) (k_callB d_len c_len (by rfl) T.z_len bt_len (a_cons (k_var 3) a_nil)) (nomark _)) (w_and1 (t_cmp d_le op_le (k_ix (k_var 3) (k_op d_add o_add (k_var 11) k_int)) (k_var 10) (nomark _)))))
      (s_one (s_aug (i := 11) d_aug io_add sc_law.nd rfl (.inl rfl) k_int)))
    (s_one (s_ret (k_cmp d_eq (o_eq hr.units) (k_call (ok_read_records T) (hr.mono (by first | decide | omega)) (by rfl) T.g_read_records T.F_read_records.kp T.b_read_records pass0 (a_cons (k_sl (live := false) (k_var 2) o_none (o_some (k_var 10))) a_nil)) (k_tup (a_cons (k_sl (live := false) (k_var 1) o_none (o_some (k_var 11))) (a_cons (k_ix (k_var 3) (k_var 11)) a_nil))) (nomark _)))))))))))))))
end
theorem all_mk {l : PySem.W.OpenLaw} {w : World} {K : PySem.W.Frag} {h : Heap} {mg : Str → Option Value} {fa C_Reader f_write_number f_Reader_init f_Reader_read_byte f_Reader_read_number f_checksum f_write_record f_record_size f_read_records f_draw f_sum f_data f_law : Addr} (X : K.In h) (G : h.Ns mainGlobals mg) (hfa : mg "law" = some (.ref fa))
    {od_write_number an_write_number : Option Addr} {sl_write_number : Array (Option Value)} {oc_write_number kV_write_number dc_write_number pm_write_number cd_write_number ct_write_number : Value}
    {od_Reader_init an_Reader_init : Option Addr} {sl_Reader_init : Array (Option Value)} {oc_Reader_init kV_Reader_init dc_Reader_init pm_Reader_init cd_Reader_init ct_Reader_init : Value}
    {od_Reader_read_byte an_Reader_read_byte : Option Addr} {sl_Reader_read_byte : Array (Option Value)} {oc_Reader_read_byte kV_Reader_read_byte dc_Reader_read_byte pm_Reader_read_byte cd_Reader_read_byte ct_Reader_read_byte : Value}
    {od_Reader_read_number an_Reader_read_number : Option Addr} {sl_Reader_read_number : Array (Option Value)} {oc_Reader_read_number kV_Reader_read_number dc_Reader_read_number pm_Reader_read_number cd_Reader_read_number ct_Reader_read_number : Value}
    {od_checksum an_checksum : Option Addr} {sl_checksum : Array (Option Value)} {oc_checksum kV_checksum dc_checksum pm_checksum cd_checksum ct_checksum : Value}
    {od_write_record an_write_record : Option Addr} {sl_write_record : Array (Option Value)} {oc_write_record kV_write_record dc_write_record pm_write_record cd_write_record ct_write_record : Value}
    {od_record_size an_record_size : Option Addr} {sl_record_size : Array (Option Value)} {oc_record_size kV_record_size dc_record_size pm_record_size cd_record_size ct_record_size : Value}
    {od_read_records an_read_records : Option Addr} {sl_read_records : Array (Option Value)} {oc_read_records kV_read_records dc_read_records pm_read_records cd_read_records ct_read_records : Value}
    {od_draw an_draw : Option Addr} {sl_draw : Array (Option Value)} {oc_draw kV_draw dc_draw pm_draw cd_draw ct_draw : Value}
    {od_sum an_sum : Option Addr} {sl_sum : Array (Option Value)} {oc_sum kV_sum dc_sum pm_sum cd_sum ct_sum : Value}
    {od_data an_data : Option Addr} {sl_data : Array (Option Value)} {oc_data kV_data dc_data pm_data cd_data ct_data : Value}
    {od_law an_law : Option Addr} {sl_law : Array (Option Value)} {oc_law kV_law dc_law pm_law cd_law ct_law : Value}
    (aC_Reader : PySem.W.nsIn K mainGlobals "Reader" = some (some (.ref C_Reader)))
    (pg_Reader : PySem.W.plainGet K C_Reader Str.empty = true)
    (hd_Reader : PySem.W.hasDictIn K C_Reader = true)
    (po_Reader : PySem.W.plainOver K C_Reader = true)
    (sa_Reader : PySem.W.findIn K (.ref C_Reader) "__setattr__" = some (some (.builtin "object.__setattr__")))
    (mk_Reader : PySem.W.makesIn K C_Reader = true)
    (kc_Reader : PySem.W.keepIn K (.ref C_Reader) = true)
    (n_Reader_at : PySem.W.findIn K (.ref C_Reader) "at" = some none)
    (n_Reader_data : PySem.W.findIn K (.ref C_Reader) "data" = some none)
    (a_write_number : PySem.W.nsIn K mainGlobals "write_number" = some (some (.ref f_write_number)))
    (l_write_number : K.lookup f_write_number = some ⟨oc_write_number, od_write_number, .func (PySem.W.fnOf "write_number" "write_number" (defArgs s_write_number) (defBody s_write_number) (defScope s_write_number) .none kV_write_number dc_write_number pm_write_number an_write_number cd_write_number ct_write_number), sl_write_number⟩)
    (c_write_number : PySem.W.codeIn K cd_write_number "write_number" = true)
    (k_write_number : PySem.W.keepIn K (.ref f_write_number) = true)
    (a_Reader_init : PySem.W.findIn K (.ref C_Reader) "__init__" = some (some (.ref f_Reader_init)))
    (i_Reader_init : PySem.W.isFn K (.ref f_Reader_init) = true)
    (l_Reader_init : K.lookup f_Reader_init = some ⟨oc_Reader_init, od_Reader_init, .func (PySem.W.fnOf "__init__" "Reader.__init__" (defArgs s_Reader_init) (defBody s_Reader_init) (defScope s_Reader_init) .none kV_Reader_init dc_Reader_init pm_Reader_init an_Reader_init cd_Reader_init ct_Reader_init), sl_Reader_init⟩)
    (c_Reader_init : PySem.W.codeIn K cd_Reader_init "Reader.__init__" = true)
    (k_Reader_init : PySem.W.keepIn K (.ref f_Reader_init) = true)
    (a_Reader_read_byte : PySem.W.findIn K (.ref C_Reader) "read_byte" = some (some (.ref f_Reader_read_byte)))
    (i_Reader_read_byte : PySem.W.isFn K (.ref f_Reader_read_byte) = true)
    (l_Reader_read_byte : K.lookup f_Reader_read_byte = some ⟨oc_Reader_read_byte, od_Reader_read_byte, .func (PySem.W.fnOf "read_byte" "Reader.read_byte" (defArgs s_Reader_read_byte) (defBody s_Reader_read_byte) (defScope s_Reader_read_byte) .none kV_Reader_read_byte dc_Reader_read_byte pm_Reader_read_byte an_Reader_read_byte cd_Reader_read_byte ct_Reader_read_byte), sl_Reader_read_byte⟩)
    (c_Reader_read_byte : PySem.W.codeIn K cd_Reader_read_byte "Reader.read_byte" = true)
    (k_Reader_read_byte : PySem.W.keepIn K (.ref f_Reader_read_byte) = true)
    (a_Reader_read_number : PySem.W.findIn K (.ref C_Reader) "read_number" = some (some (.ref f_Reader_read_number)))
    (i_Reader_read_number : PySem.W.isFn K (.ref f_Reader_read_number) = true)
    (l_Reader_read_number : K.lookup f_Reader_read_number = some ⟨oc_Reader_read_number, od_Reader_read_number, .func (PySem.W.fnOf "read_number" "Reader.read_number" (defArgs s_Reader_read_number) (defBody s_Reader_read_number) (defScope s_Reader_read_number) .none kV_Reader_read_number dc_Reader_read_number pm_Reader_read_number an_Reader_read_number cd_Reader_read_number ct_Reader_read_number), sl_Reader_read_number⟩)
    (c_Reader_read_number : PySem.W.codeIn K cd_Reader_read_number "Reader.read_number" = true)
    (k_Reader_read_number : PySem.W.keepIn K (.ref f_Reader_read_number) = true)
    (a_checksum : PySem.W.nsIn K mainGlobals "checksum" = some (some (.ref f_checksum)))
    (l_checksum : K.lookup f_checksum = some ⟨oc_checksum, od_checksum, .func (PySem.W.fnOf "checksum" "checksum" (defArgs s_checksum) (defBody s_checksum) (defScope s_checksum) .none kV_checksum dc_checksum pm_checksum an_checksum cd_checksum ct_checksum), sl_checksum⟩)
    (c_checksum : PySem.W.codeIn K cd_checksum "checksum" = true)
    (k_checksum : PySem.W.keepIn K (.ref f_checksum) = true)
    (a_write_record : PySem.W.nsIn K mainGlobals "write_record" = some (some (.ref f_write_record)))
    (l_write_record : K.lookup f_write_record = some ⟨oc_write_record, od_write_record, .func (PySem.W.fnOf "write_record" "write_record" (defArgs s_write_record) (defBody s_write_record) (defScope s_write_record) .none kV_write_record dc_write_record pm_write_record an_write_record cd_write_record ct_write_record), sl_write_record⟩)
    (c_write_record : PySem.W.codeIn K cd_write_record "write_record" = true)
    (k_write_record : PySem.W.keepIn K (.ref f_write_record) = true)
    (a_record_size : PySem.W.nsIn K mainGlobals "record_size" = some (some (.ref f_record_size)))
    (l_record_size : K.lookup f_record_size = some ⟨oc_record_size, od_record_size, .func (PySem.W.fnOf "record_size" "record_size" (defArgs s_record_size) (defBody s_record_size) (defScope s_record_size) .none kV_record_size dc_record_size pm_record_size an_record_size cd_record_size ct_record_size), sl_record_size⟩)
    (c_record_size : PySem.W.codeIn K cd_record_size "record_size" = true)
    (k_record_size : PySem.W.keepIn K (.ref f_record_size) = true)
    (a_read_records : PySem.W.nsIn K mainGlobals "read_records" = some (some (.ref f_read_records)))
    (l_read_records : K.lookup f_read_records = some ⟨oc_read_records, od_read_records, .func (PySem.W.fnOf "read_records" "read_records" (defArgs s_read_records) (defBody s_read_records) (defScope s_read_records) .none kV_read_records dc_read_records pm_read_records an_read_records cd_read_records ct_read_records), sl_read_records⟩)
    (c_read_records : PySem.W.codeIn K cd_read_records "read_records" = true)
    (k_read_records : PySem.W.keepIn K (.ref f_read_records) = true)
    (a_draw : PySem.W.nsIn K mainGlobals "_law_draw" = some (some (.ref f_draw)))
    (l_draw : K.lookup f_draw = some ⟨oc_draw, od_draw, .func (PySem.W.fnOf "_law_draw" "_law_draw" (defArgs s_draw) (defBody s_draw) (defScope s_draw) .none kV_draw dc_draw pm_draw an_draw cd_draw ct_draw), sl_draw⟩)
    (c_draw : PySem.W.codeIn K cd_draw "_law_draw" = true)
    (k_draw : PySem.W.keepIn K (.ref f_draw) = true)
    (a_sum : PySem.W.nsIn K mainGlobals "_law_sum" = some (some (.ref f_sum)))
    (l_sum : K.lookup f_sum = some ⟨oc_sum, od_sum, .func (PySem.W.fnOf "_law_sum" "_law_sum" (defArgs s_sum) (defBody s_sum) (defScope s_sum) .none kV_sum dc_sum pm_sum an_sum cd_sum ct_sum), sl_sum⟩)
    (c_sum : PySem.W.codeIn K cd_sum "_law_sum" = true)
    (k_sum : PySem.W.keepIn K (.ref f_sum) = true)
    (a_data : PySem.W.nsIn K mainGlobals "_law_data" = some (some (.ref f_data)))
    (l_data : K.lookup f_data = some ⟨oc_data, od_data, .func (PySem.W.fnOf "_law_data" "_law_data" (defArgs s_data) (defBody s_data) (defScope s_data) .none kV_data dc_data pm_data an_data cd_data ct_data), sl_data⟩)
    (c_data : PySem.W.codeIn K cd_data "_law_data" = true)
    (k_data : PySem.W.keepIn K (.ref f_data) = true)
    (a_law : PySem.W.nsIn K mainGlobals "law" = some (some (.ref f_law)))
    (l_law : K.lookup f_law = some ⟨oc_law, od_law, .func (PySem.W.fnOf "law" "law" (defArgs s_law) (defBody s_law) (defScope s_law) .none kV_law dc_law pm_law an_law cd_law ct_law), sl_law⟩)
    (c_law : PySem.W.codeIn K cd_law "law" = true)
    (k_law : PySem.W.keepIn K (.ref f_law) = true)
    (z_int : PySem.W.nsIn K mainGlobals "int" = some none)
    (z_len : PySem.W.nsIn K mainGlobals "len" = some none)
    (z_list : PySem.W.nsIn K mainGlobals "list" = some none)
    (z_min : PySem.W.nsIn K mainGlobals "min" = some none)
    (z_range : PySem.W.nsIn K mainGlobals "range" = some none)
    {u_NUMBERBYTES : Value} {v_NUMBERBYTES : V}
    {e_DamagedPacket : Addr}
    (gc_NUMBERBYTES : PySem.W.nsIn K mainGlobals "NUMBER_BYTES" = some (some u_NUMBERBYTES)) (rc_NUMBERBYTES : RelV v_NUMBERBYTES u_NUMBERBYTES) (qc_NUMBERBYTES : ∀ (F : Hp) (cl : Nat → Addr), Rp K cl F Kb.u_NUMBERBYTES v_NUMBERBYTES)
    (eA_DamagedPacket : PySem.W.nsIn K mainGlobals "DamagedPacket" = some (some (.ref e_DamagedPacket))) (xE_DamagedPacket : PySem.W.excIn K e_DamagedPacket [.type "ValueError", .type "Exception", .type "BaseException", .type "object"] "ValueError.__new__" = true) (kE_DamagedPacket : PySem.W.keepIn K (.ref e_DamagedPacket) = true) (bE_DamagedPacket : PySem.W.subIn K (.ref e_DamagedPacket) (.type "BaseException") = some true) (tE_DamagedPacket : PySem.W.typeIn K (.ref e_DamagedPacket) = some (.type "type")) (iE_DamagedPacket : PySem.W.isClsIn K e_DamagedPacket = true) (sE_DamagedPacket : PySem.W.subIn K (.ref e_DamagedPacket) (.ref e_DamagedPacket) = some true)
    : ∃ fd : FuncData, (∀ (s : Shared) (v : Value), BindsTo s fd ⟨[v], []⟩ [("_law_script", v)]) ∧ ∀ base : Heap, K.In base → base.Ns mainGlobals mg → FnOk l.prog w K mg base CX0 6 fa fd ["_law_script"] (spLaw K) := by
  have e := hfa.symm.trans (PySem.W.mg_of X G a_law)
  have e2 : fa = f_law := by cases e; rfl
  rw [e2]
  exact ⟨PySem.W.fnOf "law" "law" (defArgs s_law) (defBody s_law) (defScope s_law) .none kV_law dc_law pm_law an_law cd_law ct_law, fun s v => .of_eq rfl, fun base _ _ =>
    (ok_law { 
      u_NUMBERBYTES := u_NUMBERBYTES
      v_NUMBERBYTES := v_NUMBERBYTES
      g_NUMBERBYTES := PySem.W.mg_of X G gc_NUMBERBYTES
      r_NUMBERBYTES := rc_NUMBERBYTES
      q_NUMBERBYTES := qc_NUMBERBYTES
      e_DamagedPacket := e_DamagedPacket
      gE_DamagedPacket := PySem.W.mg_of X G eA_DamagedPacket
      xE_DamagedPacket := xE_DamagedPacket
      kE_DamagedPacket := kE_DamagedPacket
      bE_DamagedPacket := bE_DamagedPacket
      tE_DamagedPacket := tE_DamagedPacket
      mE_DamagedPacket := exm_self bE_DamagedPacket iE_DamagedPacket tE_DamagedPacket sE_DamagedPacket
      c_Reader := C_Reader
      cl_Reader := ⟨pg_Reader, hd_Reader, po_Reader, sa_Reader⟩
      g_Reader := PySem.W.mg_of X G aC_Reader
      n_Reader_at := n_Reader_at
      n_Reader_data := n_Reader_data
      a_write_number := f_write_number
      d_write_number := PySem.W.fnOf "write_number" "write_number" (defArgs s_write_number) (defBody s_write_number) (defScope s_write_number) .none kV_write_number dc_write_number pm_write_number an_write_number cd_write_number ct_write_number
      F_write_number := fun_mk (st := s_write_number) l_write_number c_write_number k_write_number
      b_write_number := (fun_mk (st := s_write_number) l_write_number c_write_number k_write_number).binds (ps := ["number"]) fun _ _ _ _ _ _ us hl => match us, hl with | [_], _ => rfl
      g_write_number := PySem.W.mg_of X G a_write_number
      a_Reader_init := f_Reader_init
      d_Reader_init := PySem.W.fnOf "__init__" "Reader.__init__" (defArgs s_Reader_init) (defBody s_Reader_init) (defScope s_Reader_init) .none kV_Reader_init dc_Reader_init pm_Reader_init an_Reader_init cd_Reader_init ct_Reader_init
      F_Reader_init := fun_mk (st := s_Reader_init) l_Reader_init c_Reader_init k_Reader_init
      b_Reader_init := (fun_mk (st := s_Reader_init) l_Reader_init c_Reader_init k_Reader_init).binds (ps := ["self", "data"]) fun _ _ _ _ _ _ us hl => match us, hl with | [_, _], _ => rfl
      M_Reader := ⟨mk_Reader, a_Reader_init, i_Reader_init, kc_Reader⟩
      a_Reader_read_byte := f_Reader_read_byte
      d_Reader_read_byte := PySem.W.fnOf "read_byte" "Reader.read_byte" (defArgs s_Reader_read_byte) (defBody s_Reader_read_byte) (defScope s_Reader_read_byte) .none kV_Reader_read_byte dc_Reader_read_byte pm_Reader_read_byte an_Reader_read_byte cd_Reader_read_byte ct_Reader_read_byte
      F_Reader_read_byte := fun_mk (st := s_Reader_read_byte) l_Reader_read_byte c_Reader_read_byte k_Reader_read_byte
      b_Reader_read_byte := (fun_mk (st := s_Reader_read_byte) l_Reader_read_byte c_Reader_read_byte k_Reader_read_byte).binds (ps := ["self"]) fun _ _ _ _ _ _ us hl => match us, hl with | [_], _ => rfl
      m_Reader_read_byte := ⟨a_Reader_read_byte, i_Reader_read_byte, k_Reader_read_byte⟩
      a_Reader_read_number := f_Reader_read_number
      d_Reader_read_number := PySem.W.fnOf "read_number" "Reader.read_number" (defArgs s_Reader_read_number) (defBody s_Reader_read_number) (defScope s_Reader_read_number) .none kV_Reader_read_number dc_Reader_read_number pm_Reader_read_number an_Reader_read_number cd_Reader_read_number ct_Reader_read_number
      F_Reader_read_number := fun_mk (st := s_Reader_read_number) l_Reader_read_number c_Reader_read_number k_Reader_read_number
      b_Reader_read_number := (fun_mk (st := s_Reader_read_number) l_Reader_read_number c_Reader_read_number k_Reader_read_number).binds (ps := ["self"]) fun _ _ _ _ _ _ us hl => match us, hl with | [_], _ => rfl
      m_Reader_read_number := ⟨a_Reader_read_number, i_Reader_read_number, k_Reader_read_number⟩
      a_checksum := f_checksum
      d_checksum := PySem.W.fnOf "checksum" "checksum" (defArgs s_checksum) (defBody s_checksum) (defScope s_checksum) .none kV_checksum dc_checksum pm_checksum an_checksum cd_checksum ct_checksum
      F_checksum := fun_mk (st := s_checksum) l_checksum c_checksum k_checksum
      b_checksum := (fun_mk (st := s_checksum) l_checksum c_checksum k_checksum).binds (ps := ["data"]) fun _ _ _ _ _ _ us hl => match us, hl with | [_], _ => rfl
      g_checksum := PySem.W.mg_of X G a_checksum
      a_write_record := f_write_record
      d_write_record := PySem.W.fnOf "write_record" "write_record" (defArgs s_write_record) (defBody s_write_record) (defScope s_write_record) .none kV_write_record dc_write_record pm_write_record an_write_record cd_write_record ct_write_record
      F_write_record := fun_mk (st := s_write_record) l_write_record c_write_record k_write_record
      b_write_record := (fun_mk (st := s_write_record) l_write_record c_write_record k_write_record).binds (ps := ["data"]) fun _ _ _ _ _ _ us hl => match us, hl with | [_], _ => rfl
      g_write_record := PySem.W.mg_of X G a_write_record
      a_record_size := f_record_size
      d_record_size := PySem.W.fnOf "record_size" "record_size" (defArgs s_record_size) (defBody s_record_size) (defScope s_record_size) .none kV_record_size dc_record_size pm_record_size an_record_size cd_record_size ct_record_size
      F_record_size := fun_mk (st := s_record_size) l_record_size c_record_size k_record_size
      b_record_size := (fun_mk (st := s_record_size) l_record_size c_record_size k_record_size).binds (ps := ["data", "start"]) fun _ _ _ _ _ _ us hl => match us, hl with | [_, _], _ => rfl
      g_record_size := PySem.W.mg_of X G a_record_size
      a_read_records := f_read_records
      d_read_records := PySem.W.fnOf "read_records" "read_records" (defArgs s_read_records) (defBody s_read_records) (defScope s_read_records) .none kV_read_records dc_read_records pm_read_records an_read_records cd_read_records ct_read_records
      F_read_records := fun_mk (st := s_read_records) l_read_records c_read_records k_read_records
      b_read_records := (fun_mk (st := s_read_records) l_read_records c_read_records k_read_records).binds (ps := ["data"]) fun _ _ _ _ _ _ us hl => match us, hl with | [_], _ => rfl
      g_read_records := PySem.W.mg_of X G a_read_records
      a_draw := f_draw
      d_draw := PySem.W.fnOf "_law_draw" "_law_draw" (defArgs s_draw) (defBody s_draw) (defScope s_draw) .none kV_draw dc_draw pm_draw an_draw cd_draw ct_draw
      F_draw := fun_mk (st := s_draw) l_draw c_draw k_draw
      b_draw := (fun_mk (st := s_draw) l_draw c_draw k_draw).binds (ps := ["_law_script", "_law_k"]) fun _ _ _ _ _ _ us hl => match us, hl with | [_, _], _ => rfl
      g_draw := PySem.W.mg_of X G a_draw
      a_sum := f_sum
      d_sum := PySem.W.fnOf "_law_sum" "_law_sum" (defArgs s_sum) (defBody s_sum) (defScope s_sum) .none kV_sum dc_sum pm_sum an_sum cd_sum ct_sum
      F_sum := fun_mk (st := s_sum) l_sum c_sum k_sum
      b_sum := (fun_mk (st := s_sum) l_sum c_sum k_sum).binds (ps := ["_law_data_here"]) fun _ _ _ _ _ _ us hl => match us, hl with | [_], _ => rfl
      g_sum := PySem.W.mg_of X G a_sum
      a_data := f_data
      d_data := PySem.W.fnOf "_law_data" "_law_data" (defArgs s_data) (defBody s_data) (defScope s_data) .none kV_data dc_data pm_data an_data cd_data ct_data
      F_data := fun_mk (st := s_data) l_data c_data k_data
      b_data := (fun_mk (st := s_data) l_data c_data k_data).binds (ps := ["_law_number"]) fun _ _ _ _ _ _ us hl => match us, hl with | [_], _ => rfl
      g_data := PySem.W.mg_of X G a_data
      a_law := f_law
      d_law := PySem.W.fnOf "law" "law" (defArgs s_law) (defBody s_law) (defScope s_law) .none kV_law dc_law pm_law an_law cd_law ct_law
      F_law := fun_mk (st := s_law) l_law c_law k_law
      b_law := (fun_mk (st := s_law) l_law c_law k_law).binds (ps := ["_law_script"]) fun _ _ _ _ _ _ us hl => match us, hl with | [_], _ => rfl
      g_law := PySem.W.mg_of X G a_law
      z_int := PySem.W.mg_none_of X G z_int
      z_len := PySem.W.mg_none_of X G z_len
      z_list := PySem.W.mg_none_of X G z_list
      z_min := PySem.W.mg_none_of X G z_min
      z_range := PySem.W.mg_none_of X G z_range }).imp (fun vs H Q E q => law_sp q)⟩
end Kb
open PySem PySem.W PyProof.Rows
theorem Kb.relI (i : Int) (t : Tok) : L2.RelV (L2.V.int i) (Value.int i t) := ⟨t, rfl⟩
theorem Kb.relS (x : Str) (t : Tok) : L2.RelV (L2.V.str x) (Value.str x t) := ⟨t, rfl⟩
set_option maxRecDepth 100000 in
set_option maxHeartbeats 0 in
theorem PySem.Challenge.cw_kithbase_k52_records_read_back_holds : PySem.Challenge.rw_kithbase_k52_records_read_back.Holds := by
  w_on; o_law; k_head; (case hw => w_witness2)
  k_fill
  refine L2.walk_of (l := PySem.Challenge.rw_kithbase_k52_records_read_back) (n := 63) (k := 6) (x := "_law_script") (CX := fun _ => L2.CX0) (sp := fun w => Kb.spLaw _) rfl (by decide) rfl ⟨rfl, by decide, by decide⟩ (fun w h Y => PySem.W.kIn_of Y) ?F (fun _ _ a ns hl _ hS => ⟨a, ns, rfl, hS, hl, fun _ => rfl⟩) (fun _ _ _ _ _ h => h)
  case F =>
    intro w mg fa h KX G hmg
    refine' Kb.all_mk KX G hmg ?aC_Reader ?pg_Reader ?hd_Reader ?po_Reader ?sa_Reader ?mk_Reader ?kc_Reader ?n_Reader_at ?n_Reader_data ?a_write_number ?l_write_number ?c_write_number ?k_write_number ?a_Reader_init ?i_Reader_init ?l_Reader_init ?c_Reader_init ?k_Reader_init ?a_Reader_read_byte ?i_Reader_read_byte ?l_Reader_read_byte ?c_Reader_read_byte ?k_Reader_read_byte ?a_Reader_read_number ?i_Reader_read_number ?l_Reader_read_number ?c_Reader_read_number ?k_Reader_read_number ?a_checksum ?l_checksum ?c_checksum ?k_checksum ?a_write_record ?l_write_record ?c_write_record ?k_write_record ?a_record_size ?l_record_size ?c_record_size ?k_record_size ?a_read_records ?l_read_records ?c_read_records ?k_read_records ?a_draw ?l_draw ?c_draw ?k_draw ?a_sum ?l_sum ?c_sum ?k_sum ?a_data ?l_data ?c_data ?k_data ?a_law ?l_law ?c_law ?k_law ?z_int ?z_len ?z_list ?z_min ?z_range ?gc_NUMBERBYTES ?rc_NUMBERBYTES ?qc_NUMBERBYTES ?eA_DamagedPacket ?xE_DamagedPacket ?kE_DamagedPacket ?bE_DamagedPacket ?tE_DamagedPacket ?iE_DamagedPacket ?sE_DamagedPacket
    (case aC_Reader => k_is)
    (case pg_Reader => k_is)
    (case hd_Reader => k_is)
    (case po_Reader => k_is)
    (case sa_Reader => k_is)
    (case mk_Reader => k_is)
    (case kc_Reader => k_is)
    (case n_Reader_at => k_is)
    (case n_Reader_data => k_is)
    (case a_write_number => k_is)
    (case l_write_number => k_is)
    (case c_write_number => k_is)
    (case k_write_number => k_is)
    (case a_Reader_init => k_is)
    (case i_Reader_init => k_is)
    (case l_Reader_init => k_is)
    (case c_Reader_init => k_is)
    (case k_Reader_init => k_is)
    (case a_Reader_read_byte => k_is)
    (case i_Reader_read_byte => k_is)
    (case l_Reader_read_byte => k_is)
    (case c_Reader_read_byte => k_is)
    (case k_Reader_read_byte => k_is)
    (case a_Reader_read_number => k_is)
    (case i_Reader_read_number => k_is)
    (case l_Reader_read_number => k_is)
    (case c_Reader_read_number => k_is)
    (case k_Reader_read_number => k_is)
    (case a_checksum => k_is)
    (case l_checksum => k_is)
    (case c_checksum => k_is)
    (case k_checksum => k_is)
    (case a_write_record => k_is)
    (case l_write_record => k_is)
    (case c_write_record => k_is)
    (case k_write_record => k_is)
    (case a_record_size => k_is)
    (case l_record_size => k_is)
    (case c_record_size => k_is)
    (case k_record_size => k_is)
    (case a_read_records => k_is)
    (case l_read_records => k_is)
    (case c_read_records => k_is)
    (case k_read_records => k_is)
    (case a_draw => k_is)
    (case l_draw => k_is)
    (case c_draw => k_is)
    (case k_draw => k_is)
    (case a_sum => k_is)
    (case l_sum => k_is)
    (case c_sum => k_is)
    (case k_sum => k_is)
    (case a_data => k_is)
    (case l_data => k_is)
    (case c_data => k_is)
    (case k_data => k_is)
    (case a_law => k_is)
    (case l_law => k_is)
    (case c_law => k_is)
    (case k_law => k_is)
    (case z_int => k_is)
    (case z_len => k_is)
    (case z_list => k_is)
    (case z_min => k_is)
    (case z_range => k_is)
    (case gc_NUMBERBYTES => k_is)
    (case rc_NUMBERBYTES => exact Kb.relI _ _)
    (case qc_NUMBERBYTES => intro F cl; exact .int _)
    (case eA_DamagedPacket => k_is)
    (case xE_DamagedPacket => k_exc)
    (case kE_DamagedPacket => k_is)
    (case bE_DamagedPacket => k_is)
    (case tE_DamagedPacket => k_is)
    (case iE_DamagedPacket => k_is)
    (case sE_DamagedPacket => first | rfl | k_is)

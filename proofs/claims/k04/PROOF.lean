import PyProof.Rows.All
import Wide.All
import OpenK.AllK
import Wide.FinOn
import HandS.ForMost
import HandS.IsInst
import HandS.Wide
import HandS.TupAny
import HandS.Flow
import HandS.Text
import HandS.Codes
import KE.KTupSum
import KE.SortKeyHeap
import HandS.SortKw
import HandS.Keys
import HandS.Strs
import HandS.NoneIn
import PySem.Challenge.RW_kithbase_k04_heard_lists_fit
set_option Elab.async false
set_option linter.all false
set_option maxRecDepth 100000
set_option maxHeartbeats 4000000
/-! values without a heap, over HandS -/
namespace Pv
open PySem PySem.Spec PyProof.Rows L2

/-- data, by value -/
inductive P where
  | non | bl (b : Bool) | int (i : Int) | str (x : Str)
  | tup (ps : List P) | lst (ps : List P)
  | dK (kvs : List (Key × P)) | dT (kvs : List (List Key × P))
  | ins (c : Nat) (fs : List (Str × P))
/-- a value of a name: data, or the place of an object that may change -/
inductive D where
  | p (x : P) | ref (n : Nat)
/-- an object that may change -/
inductive Ob where
  | lst (ds : List D) | dK (kvs : List (Key × D)) | dT (kvs : List (List Key × D)) | ins (c : Nat) (fs : List (Str × D))
/-- all objects that may change; those from b on were made by the def that runs -/
structure SH where
  b : Nat
  os : List Ob
abbrev SH.len (S : SH) : Nat := S.os.length
abbrev En := List (Option D)
def D.lt (k : Nat) : D → Prop | .p _ => True | .ref n => n < k
def Ob.ds : Ob → List D | .lst ds => ds | .dK kvs => kvs.map (·.2) | .dT kvs => kvs.map (·.2) | .ins _ fs => fs.map (·.2)
def Ob.lt (k : Nat) (o : Ob) : Prop := ∀ d ∈ o.ds, d.lt k
theorem D.lt.mono {j k : Nat} {d : D} (h : d.lt j) (l : j ≤ k) : d.lt k := by
  cases d with
  | p x => trivial
  | ref n => exact Nat.lt_of_lt_of_le h l

section
variable (K : PySem.W.Frag) (cl : Nat → Addr)
mutual
inductive Rp (F : Hp) : P → V → Prop
  | non : Rp F .non .non
  | bl (b : Bool) : Rp F (.bl b) (.bl b)
  | int (i : Int) : Rp F (.int i) (.int i)
  | str (x : Str) : Rp F (.str x) (.str x)
  | tup {a : Addr} {ps : List P} {vs : List V} : SqT K F a vs → RpA F ps vs → Rp F (.tup ps) (.ref a)
  | lst {a : Addr} {ps : List P} {vs : List V} : SqL K F a vs → RpA F ps vs → Rp F (.lst ps) (.ref a)
  | dK {a : Addr} {kvs : List (Key × P)} {vs : List (Key × V)} : F a = some (.dK vs) → RpK F kvs vs → Rp F (.dK kvs) (.ref a)
  | dT {a : Addr} {kvs : List (List Key × P)} {vs : List (List Key × V)} : F a = some (.dT vs) → RpT F kvs vs → Rp F (.dT kvs) (.ref a)
  | ins {a dx : Addr} {c : Nat} {fs : List (Str × P)} {gs : List (Str × V)} : F a = some (.ins (cl c) dx gs) → RpF F fs gs → Rp F (.ins c fs) (.ref a)
inductive RpA (F : Hp) : List P → List V → Prop
  | nil : RpA F [] []
  | cons {x : P} {xs : List P} {v : V} {vs : List V} : Rp F x v → RpA F xs vs → RpA F (x :: xs) (v :: vs)
inductive RpK (F : Hp) : List (Key × P) → List (Key × V) → Prop
  | nil : RpK F [] []
  | cons {k : Key} {x : P} {xs : List (Key × P)} {v : V} {vs : List (Key × V)} : Rp F x v → RpK F xs vs → RpK F ((k, x) :: xs) ((k, v) :: vs)
inductive RpT (F : Hp) : List (List Key × P) → List (List Key × V) → Prop
  | nil : RpT F [] []
  | cons {k : List Key} {x : P} {xs : List (List Key × P)} {v : V} {vs : List (List Key × V)} : Rp F x v → RpT F xs vs → RpT F ((k, x) :: xs) ((k, v) :: vs)
inductive RpF (F : Hp) : List (Str × P) → List (Str × V) → Prop
  | nil : RpF F [] []
  | cons {k : Str} {x : P} {xs : List (Str × P)} {v : V} {vs : List (Str × V)} : Rp F x v → RpF F xs vs → RpF F ((k, x) :: xs) ((k, v) :: vs)
end
/-- a value of a name -/
def DR (F : Hp) (φ : Nat → Addr) : D → V → Prop
  | .p x, v => Rp K cl F x v
  | .ref n, v => v = .ref (φ n)
abbrev DRA (F : Hp) (φ : Nat → Addr) : List D → List V → Prop := Paired (DR K cl F φ)
abbrev DRK {κ : Type} (F : Hp) (φ : Nat → Addr) : List (κ × D) → List (κ × V) → Prop := Paired fun p q => p.1 = q.1 ∧ DR K cl F φ p.2 q.2
def OR (F : Hp) (φ : Nat → Addr) (x : Option HO) : Ob → Prop
  | .lst ds => ∃ vs, x = some (.lst vs) ∧ DRA K cl F φ ds vs
  | .dK kvs => ∃ vs, x = some (.dK vs) ∧ DRK K cl F φ kvs vs
  | .dT kvs => ∃ vs, x = some (.dT vs) ∧ DRK K cl F φ kvs vs
  | .ins c fs => ∃ dx gs, x = some (.ins (cl c) dx gs) ∧ DRK K cl F φ fs gs
/-- the objects by place, the data, and the heap -/
structure Sim (S : SH) (B : List Nat) (F : Hp) (φ : Nat → Addr) (H : Hp) : Prop where
  le : Same F H
  ob : ∀ (n : Nat) (o : Ob), S.os[n]? = some o → F (φ n) = none ∧ OR K cl F φ (H (φ n)) o
  inj : ∀ n m, n < S.len → m < S.len → φ n = φ m → n = m
  wf : ∀ (n : Nat) (o : Ob), S.os[n]? = some o → o.lt S.len
  bs : ∀ b ∈ B, b ≤ S.b ∧ ∀ (n : Nat) (o : Ob), S.os[n]? = some o → n < b → o.lt b
  bl : S.b ≤ S.len
/-- what a step may have done -/
structure Ext (S : SH) (F : Hp) (φ : Nat → Addr) (H : Hp) (S' : SH) (F' : Hp) (φ' : Nat → Addr) (H' : Hp) : Prop where
  fz : Same F F'
  len : S.len ≤ S'.len
  b : S'.b = S.b
  phi : ∀ n, n < S.len → φ' n = φ n
  new : ∀ n, S.len ≤ n → n < S'.len → H (φ' n) = none
  keep : ∀ a o, H a = some o → (∀ n, n < S.len → φ n ≠ a) → H' a = some o
  tr : ∀ n, n < S.len → H' (φ n) ≠ none
  fr : ∀ a o, H a = some o → F a = none → (∀ n, n < S.len → φ n ≠ a) → F' a = none
/-- the names -/
def RS (F : Hp) (φ : Nat → Addr) (k : Nat) (σd : En) (σ : L2.St) : Prop :=
  σd.length = σ.length ∧ ∀ (i : Nat) (d : D), σd[i]? = some (some d) → d.lt k ∧ ∃ v : V, σ[i]? = some (some v) ∧ DR K cl F φ d v
end

section
variable {K : PySem.W.Frag} {cl : Nat → Addr} {S S' S1 S2 : SH} {B : List Nat} {F F' F1 F2 H H' H1 H2 : Hp} {φ φ' φ1 φ2 : Nat → Addr}
theorem SqL.mono (h : Same F F') {a : Addr} {xs : List V} (q : SqL K F a xs) : SqL K F' a xs := h.seq q
theorem SqT.mono (e : Same F F') {a : Addr} {xs : List V} (h : SqT K F a xs) : SqT K F' a xs := by
  rcases h with (h | ⟨o, h⟩) | h
  · exact .inl (.inl (e _ _ h))
  · exact .inl (.inr ⟨o, e _ _ h⟩)
  · exact .inr h
mutual
theorem Rp.mono (h : Same F F') {x : P} {v : V} : Rp K cl F x v → Rp K cl F' x v
  | .non => .non
  | .bl b => .bl b
  | .int i => .int i
  | .str x => .str x
  | .tup q r => .tup (SqT.mono h q) (RpA.mono h r)
  | .lst q r => .lst (SqL.mono h q) (RpA.mono h r)
  | .dK q r => .dK (h _ _ q) (RpK.mono h r)
  | .dT q r => .dT (h _ _ q) (RpT.mono h r)
  | .ins q r => .ins (h _ _ q) (RpF.mono h r)
theorem RpA.mono (h : Same F F') {x : List P} {v : List V} : RpA K cl F x v → RpA K cl F' x v
  | .nil => .nil
  | .cons a b => .cons (Rp.mono h a) (RpA.mono h b)
theorem RpK.mono (h : Same F F') {x : List (Key × P)} {v : List (Key × V)} : RpK K cl F x v → RpK K cl F' x v
  | .nil => .nil
  | .cons a b => .cons (Rp.mono h a) (RpK.mono h b)
theorem RpT.mono (h : Same F F') {x : List (List Key × P)} {v : List (List Key × V)} : RpT K cl F x v → RpT K cl F' x v
  | .nil => .nil
  | .cons a b => .cons (Rp.mono h a) (RpT.mono h b)
theorem RpF.mono (h : Same F F') {x : List (Str × P)} {v : List (Str × V)} : RpF K cl F x v → RpF K cl F' x v
  | .nil => .nil
  | .cons a b => .cons (Rp.mono h a) (RpF.mono h b)
end
theorem DR.mono (h : Same F F') {k : Nat} (p : ∀ n, n < k → φ' n = φ n) {d : D} {v : V} (l : d.lt k) (r : DR K cl F φ d v) : DR K cl F' φ' d v := by
  cases d with
  | p x => exact Rp.mono h r
  | ref n => exact r.trans (congrArg V.ref (p n l).symm)
theorem DRA.mono (h : Same F F') {k : Nat} (p : ∀ n, n < k → φ' n = φ n) : ∀ {ds : List D} {vs : List V}, (∀ d ∈ ds, d.lt k) → DRA K cl F φ ds vs → DRA K cl F' φ' ds vs
  | _, _, _, .nil => .nil
  | _, _, l, .cons a b => .cons (DR.mono h p (l _ List.mem_cons_self) a) (DRA.mono h p (fun d q => l d (List.mem_cons_of_mem _ q)) b)
theorem DRK.mono {κ : Type} (h : Same F F') {k : Nat} (p : ∀ n, n < k → φ' n = φ n) : ∀ {ds : List (κ × D)} {vs : List (κ × V)}, (∀ d ∈ ds.map (·.2), d.lt k) → DRK K cl F φ ds vs → DRK K cl F' φ' ds vs
  | _, _, _, .nil => .nil
  | _, _, l, .cons a b => .cons ⟨a.1, DR.mono h p (l _ List.mem_cons_self) a.2⟩ (DRK.mono h p (fun d q => l d (List.mem_cons_of_mem _ q)) b)
theorem OR.mono (h : Same F F') {k : Nat} (p : ∀ n, n < k → φ' n = φ n) {x : Option HO} {o : Ob} (l : o.lt k) (r : OR K cl F φ x o) : OR K cl F' φ' x o := by
  cases o with
  | lst ds => obtain ⟨vs, e, r⟩ := r; exact ⟨vs, e, DRA.mono h p l r⟩
  | dK ds => obtain ⟨vs, e, r⟩ := r; exact ⟨vs, e, DRK.mono h p l r⟩
  | dT ds => obtain ⟨vs, e, r⟩ := r; exact ⟨vs, e, DRK.mono h p l r⟩
  | ins c ds => obtain ⟨dx, vs, e, r⟩ := r; exact ⟨dx, vs, e, DRK.mono h p l r⟩
theorem OR.ne0 {x : Option HO} {o : Ob} (r : OR K cl F φ x o) : x ≠ none := by
  cases o with
  | lst ds => obtain ⟨vs, e, r⟩ := r; rw [e]; simp
  | dK ds => obtain ⟨vs, e, r⟩ := r; rw [e]; simp
  | dT ds => obtain ⟨vs, e, r⟩ := r; rw [e]; simp
  | ins c ds => obtain ⟨dx, vs, e, r⟩ := r; rw [e]; simp
theorem Sim.ne0 (s : Sim K cl S B F φ H) {n : Nat} (h : n < S.len) : H (φ n) ≠ none := (s.ob n _ (List.getElem?_eq_getElem h)).2.ne0
theorem Ext.refl (s : Sim K cl S B F φ H) : Ext S F φ H S F φ H := ⟨Same.refl _, Nat.le_refl _, rfl, fun _ _ => rfl, fun n h1 h2 => absurd h1 (Nat.not_le_of_lt h2), fun _ _ h _ => h, fun _ h => s.ne0 h, fun _ _ _ h _ => h⟩
theorem Ext.trans (a : Ext S F φ H S1 F1 φ1 H1) (b : Ext S1 F1 φ1 H1 S2 F2 φ2 H2) : Ext S F φ H S2 F2 φ2 H2 where
  fz := a.fz.trans b.fz
  len := Nat.le_trans a.len b.len
  b := b.b.trans a.b
  phi := fun n h => (b.phi n (Nat.lt_of_lt_of_le h a.len)).trans (a.phi n h)
  new := fun n h1 h2 => by
    by_cases h3 : n < S1.len
    · rw [b.phi n h3]
      exact a.new n h1 h3
    · cases e : H (φ2 n) with
      | none => rfl
      | some o =>
        have z := b.new n (Nat.le_of_not_lt h3) h2
        by_cases q : ∃ m, m < S.len ∧ φ m = φ2 n
        · obtain ⟨m, hm, ee⟩ := q
          exact absurd (by rw [ee]; exact z) (a.tr m hm)
        · rw [a.keep _ o e fun m hm ee => q ⟨m, hm, ee⟩] at z; cases z
  keep := fun c o h n => b.keep c o (a.keep c o h n) fun m hm e => by
    by_cases h3 : m < S.len
    · exact n m h3 (by rw [← a.phi m h3]; exact e)
    · have z := a.new m (Nat.le_of_not_lt h3) hm
      rw [e, h] at z; cases z
  tr := fun n h => by
    rw [← a.phi n h]
    exact b.tr n (Nat.lt_of_lt_of_le h a.len)
  fr := fun c o h f n => b.fr c o (a.keep c o h n) (a.fr c o h f n) fun m hm e => by
    by_cases h3 : m < S.len
    · exact n m h3 (by rw [← a.phi m h3]; exact e)
    · have z := a.new m (Nat.le_of_not_lt h3) hm
      rw [e, h] at z; cases z
theorem RS.mono (h : Same F F') {k k' : Nat} (l : k ≤ k') (p : ∀ n, n < k → φ' n = φ n) {σd : En} {σ : L2.St} (r : RS K cl F φ k σd σ) : RS K cl F' φ' k' σd σ :=
  ⟨r.1, fun i d e => let ⟨a, v, b, c⟩ := r.2 i d e; ⟨a.mono l, v, b, DR.mono h p a c⟩⟩
end
end Pv
namespace Pv
open PySem PySem.Spec PyProof.Rows L2

abbrev ME := En → SH → Option (D × SH)
abbrev MT := En → SH → Option (Bool × SH)
abbrev MA := En → SH → Option (List D × SH)
inductive Fl where
  | nx (σ : En) | ret (d : D) | brk (σ : En) | ct (σ : En)
abbrev MS := En → SH → Option (Fl × SH)
abbrev MF := List D → SH → Option (D × SH)

section
variable (K : PySem.W.Frag) (cl : Nat → Addr)
/-- an end as wished: a value, a truth, values -/
def OkE (S : SH) (B : List Nat) (F : Hp) (φ : Nat → Addr) (H : Hp) (r : Option (D × SH)) (Q : VK) : Prop :=
  ∃ d S1, r = some (d, S1) ∧ ∀ F1 φ1 H1 u, Sim K cl S1 B F1 φ1 H1 → Ext S F φ H S1 F1 φ1 H1 → DR K cl F1 φ1 d u → d.lt S1.len → Q u H1
def OkT (S : SH) (B : List Nat) (F : Hp) (φ : Nat → Addr) (H : Hp) (r : Option (Bool × SH)) (Q : Bool → Hp → Prop) : Prop :=
  ∃ d S1, r = some (d, S1) ∧ ∀ F1 φ1 H1, Sim K cl S1 B F1 φ1 H1 → Ext S F φ H S1 F1 φ1 H1 → Q d H1
def OkA (S : SH) (B : List Nat) (F : Hp) (φ : Nat → Addr) (H : Hp) (r : Option (List D × SH)) (Q : List V → Hp → Prop) : Prop :=
  ∃ ds S1, r = some (ds, S1) ∧ ∀ F1 φ1 H1 us, Sim K cl S1 B F1 φ1 H1 → Ext S F φ H S1 F1 φ1 H1 → DRA K cl F1 φ1 ds us → (∀ d ∈ ds, d.lt S1.len) → Q us H1
def OkF (S : SH) (B : List Nat) (F : Hp) (φ : Nat → Addr) (H : Hp) (Z : Ends) (S1 : SH) : Fl → Prop
  | .nx σd => ∀ F1 φ1 H1 σ, Sim K cl S1 B F1 φ1 H1 → Ext S F φ H S1 F1 φ1 H1 → RS K cl F1 φ1 S1.len σd σ → Z.nx σ H1
  | .ret d => ∀ F1 φ1 H1 u, Sim K cl S1 B F1 φ1 H1 → Ext S F φ H S1 F1 φ1 H1 → DR K cl F1 φ1 d u → d.lt S1.len → Z.rt u H1
  | .brk σd => ∀ F1 φ1 H1 σ, Sim K cl S1 B F1 φ1 H1 → Ext S F φ H S1 F1 φ1 H1 → RS K cl F1 φ1 S1.len σd σ → Z.bk σ H1
  | .ct σd => ∀ F1 φ1 H1 σ, Sim K cl S1 B F1 φ1 H1 → Ext S F φ H S1 F1 φ1 H1 → RS K cl F1 φ1 S1.len σd σ → Z.ct σ H1
def OkS (S : SH) (B : List Nat) (F : Hp) (φ : Nat → Addr) (H : Hp) (r : Option (Fl × SH)) (Z : Ends) : Prop :=
  ∃ f S1, r = some (f, S1) ∧ OkF K cl S B F φ H Z S1 f
/-- readings out of computations by value -/
def LE (m : ME) : TE := fun σ H Q => ∃ σd S B F φ, Sim K cl S B F φ H ∧ RS K cl F φ S.len σd σ ∧ OkE K cl S B F φ H (m σd S) Q
def LT (m : MT) : TT := fun σ H Q => ∃ σd S B F φ, Sim K cl S B F φ H ∧ RS K cl F φ S.len σd σ ∧ OkT K cl S B F φ H (m σd S) Q
def LA (m : MA) : TA := fun σ H Q => ∃ σd S B F φ, Sim K cl S B F φ H ∧ RS K cl F φ S.len σd σ ∧ OkA K cl S B F φ H (m σd S) Q
def LS (m : MS) : TS := fun Z σ H => ∃ σd S B F φ, Sim K cl S B F φ H ∧ RS K cl F φ S.len σd σ ∧ OkS K cl S B F φ H (m σd S) Z
end

/-! the combinators -/
def bnd {α β : Type} (r : Option (α × SH)) (f : α → SH → Option (β × SH)) : Option (β × SH) := match r with
  | some (a, S) => f a S
  | none => none
@[simp] theorem bnd_some {α β : Type} (a : α) (S : SH) (f : α → SH → Option (β × SH)) : bnd (some (a, S)) f = f a S := id rfl
@[simp] theorem bnd_none {α β : Type} (f : α → SH → Option (β × SH)) : bnd none f = none := id rfl
theorem bnd_of {α β : Type} {r : Option (α × SH)} {f : α → SH → Option (β × SH)} {x : β × SH} (h : bnd r f = some x) : ∃ a S, r = some (a, S) ∧ f a S = some x := by
  cases r with
  | none => cases h
  | some p => exact ⟨p.1, p.2, rfl, h⟩
def isB : D → Option Bool
  | .p (.bl b) => some b
  | _ => none
theorem isB_of {d : D} {b : Bool} (h : isB d = some b) : d = .p (.bl b) := by
  cases d with
  | ref n => cases h
  | p x => cases x <;> cases h <;> rfl
def dVar (i : Nat) : ME := fun σ S => match σ[i]? with | some (some d) => some (d, S) | _ => none
def dC (x : P) : ME := fun _ S => some (.p x, S)
def dOp (f : D → D → SH → Option (D × SH)) (a b : ME) : ME := fun σ S => bnd (a σ S) fun x S1 => bnd (b σ S1) fun y S2 => f x y S2
def dUn (f : D → SH → Option (D × SH)) (a : ME) : ME := fun σ S => bnd (a σ S) fun x S1 => f x S1
def toB (d : D) (S : SH) : Option (Bool × SH) := match isB d with | some b => some (b, S) | none => none
@[simp] theorem toB_p (b : Bool) (S : SH) : toB (.p (.bl b)) S = some (b, S) := id rfl
def dTest (a : ME) : MT := fun σ S => bnd (a σ S) toB
def dAnd (a b : MT) : MT := fun σ S => bnd (a σ S) fun t S1 => if t = true then b σ S1 else some (false, S1)
def dOr (a b : MT) : MT := fun σ S => bnd (a σ S) fun t S1 => if t = true then some (true, S1) else b σ S1
def dNot (a : MT) : MT := fun σ S => bnd (a σ S) fun t S1 => some (!t, S1)
def dNotV (a : ME) : ME := fun σ S => bnd (a σ S) fun d S1 => bnd (toB d S1) fun t S2 => some (.p (.bl (!t)), S2)
def dAndV (a b : ME) : ME := fun σ S => bnd (a σ S) fun d S1 => bnd (toB d S1) fun t S2 => if t = true then b σ S2 else some (.p (.bl false), S2)
def dOrV (a b : ME) : ME := fun σ S => bnd (a σ S) fun d S1 => bnd (toB d S1) fun t S2 => if t = true then some (.p (.bl true), S2) else b σ S2
def dIfE (t : MT) (a b : ME) : ME := fun σ S => bnd (t σ S) fun t S1 => if t = true then a σ S1 else b σ S1
def dNil : MA := fun _ S => some ([], S)
def dCons (a : ME) (r : MA) : MA := fun σ S => bnd (a σ S) fun x S1 => bnd (r σ S1) fun xs S2 => some (x :: xs, S2)
def dCall (f : MF) (a : MA) : ME := fun σ S => bnd (a σ S) fun xs S1 => f xs S1
def dNx : MS := fun σ S => some (.nx σ, S)
def dSeq (a b : MS) : MS := fun σ S => bnd (a σ S) fun f S1 => match f with | .nx σ1 => b σ1 S1 | r => some (r, S1)
def dBrk : MS := fun σ S => some (.brk σ, S)
def dCt : MS := fun σ S => some (.ct σ, S)
def dDrop (a : ME) : MS := fun σ S => bnd (a σ S) fun _ S1 => some (.nx σ, S1)
def dRet (a : ME) : MS := fun σ S => bnd (a σ S) fun d S1 => some (.ret d, S1)
def dRetN : MS := fun _ S => some (.ret (.p .non), S)
def dIf (t : MT) (a b : MS) : MS := fun σ S => bnd (t σ S) fun t S1 => if t = true then a σ S1 else b σ S1
def dNever : MS := fun _ _ => none
def dSet (i : Nat) (a : ME) : MS := fun σ S => bnd (a σ S) fun d S1 => some (.nx (σ.set i (some d)), S1)
/-- forget what some names hold -/
def wipeD : List Nat → En → En
  | [], σ => σ
  | i :: r, σ => wipeD r (σ.set i none)
def dWipe (vs : List Nat) (a : MS) : MS := fun σ S => a (wipeD vs σ) S

section
variable {K : PySem.W.Frag} {cl : Nat → Addr} {S S' S1 S2 : SH} {B : List Nat} {F F' F1 F2 H H' H1 H2 : Hp} {φ φ' φ1 φ2 : Nat → Addr}
theorem Ext.rs (e : Ext S F φ H S1 F1 φ1 H1) {σd : En} {σ : L2.St} (r : RS K cl F φ S.len σd σ) : RS K cl F1 φ1 S1.len σd σ := r.mono e.fz e.len e.phi
theorem Ext.dr (e : Ext S F φ H S1 F1 φ1 H1) {d : D} {v : V} (l : d.lt S.len) (r : DR K cl F φ d v) : DR K cl F1 φ1 d v := DR.mono e.fz e.phi l r
theorem Ext.lt (e : Ext S F φ H S1 F1 φ1 H1) {d : D} (l : d.lt S.len) : d.lt S1.len := l.mono e.len
theorem Ext.dra (e : Ext S F φ H S1 F1 φ1 H1) {d : List D} {v : List V} (l : ∀ x ∈ d, x.lt S.len) (r : DRA K cl F φ d v) : DRA K cl F1 φ1 d v := DRA.mono e.fz e.phi l r
theorem OkE.ext (e : Ext S F φ H S1 F1 φ1 H1) {r : Option (D × SH)} {Q : VK} (h : OkE K cl S B F φ H r Q) : OkE K cl S1 B F1 φ1 H1 r Q := by
  obtain ⟨d, S2, er, k⟩ := h
  exact ⟨d, S2, er, fun F2 φ2 H2 u s x => k F2 φ2 H2 u s (e.trans x)⟩
theorem OkT.ext (e : Ext S F φ H S1 F1 φ1 H1) {r : Option (Bool × SH)} {Q : Bool → Hp → Prop} (h : OkT K cl S B F φ H r Q) : OkT K cl S1 B F1 φ1 H1 r Q := by
  obtain ⟨d, S2, er, k⟩ := h
  exact ⟨d, S2, er, fun F2 φ2 H2 s x => k F2 φ2 H2 s (e.trans x)⟩
theorem OkA.ext (e : Ext S F φ H S1 F1 φ1 H1) {r : Option (List D × SH)} {Q : List V → Hp → Prop} (h : OkA K cl S B F φ H r Q) : OkA K cl S1 B F1 φ1 H1 r Q := by
  obtain ⟨d, S2, er, k⟩ := h
  exact ⟨d, S2, er, fun F2 φ2 H2 u s x => k F2 φ2 H2 u s (e.trans x)⟩
theorem OkF.ext (e : Ext S F φ H S1 F1 φ1 H1) {f : Fl} {Z : Ends} (h : OkF K cl S B F φ H Z S2 f) : OkF K cl S1 B F1 φ1 H1 Z S2 f := by
  cases f with
  | nx σ => exact fun F2 φ2 H2 u s x => h F2 φ2 H2 u s (e.trans x)
  | ret d => exact fun F2 φ2 H2 u s x => h F2 φ2 H2 u s (e.trans x)
  | brk σ => exact fun F2 φ2 H2 u s x => h F2 φ2 H2 u s (e.trans x)
  | ct σ => exact fun F2 φ2 H2 u s x => h F2 φ2 H2 u s (e.trans x)
theorem OkS.ext (e : Ext S F φ H S1 F1 φ1 H1) {r : Option (Fl × SH)} {Z : Ends} (h : OkS K cl S B F φ H r Z) : OkS K cl S1 B F1 φ1 H1 r Z := by
  obtain ⟨f, S2, er, k⟩ := h
  exact ⟨f, S2, er, k.ext e⟩
/-- one after the other: what the first one leaves -/
theorem LE.then_ {m : ME} {σ : L2.St} {σd : En} {Q : VK} {d : D} (s : Sim K cl S B F φ H) (r : RS K cl F φ S.len σd σ) (e : m σd S = some (d, S1))
    (k : ∀ F1 φ1 H1 u, Sim K cl S1 B F1 φ1 H1 → Ext S F φ H S1 F1 φ1 H1 → RS K cl F1 φ1 S1.len σd σ → DR K cl F1 φ1 d u → d.lt S1.len → Q u H1) : LE K cl m σ H Q :=
  ⟨σd, S, B, F, φ, s, r, d, S1, e, fun F1 φ1 H1 u s1 x dr l => k F1 φ1 H1 u s1 x (x.rs r) dr l⟩
theorem LT.then_ {m : MT} {σ : L2.St} {σd : En} {Q : Bool → Hp → Prop} {d : Bool} (s : Sim K cl S B F φ H) (r : RS K cl F φ S.len σd σ) (e : m σd S = some (d, S1))
    (k : ∀ F1 φ1 H1, Sim K cl S1 B F1 φ1 H1 → Ext S F φ H S1 F1 φ1 H1 → RS K cl F1 φ1 S1.len σd σ → Q d H1) : LT K cl m σ H Q :=
  ⟨σd, S, B, F, φ, s, r, d, S1, e, fun F1 φ1 H1 s1 x => k F1 φ1 H1 s1 x (x.rs r)⟩
theorem LA.then_ {m : MA} {σ : L2.St} {σd : En} {Q : List V → Hp → Prop} {d : List D} (s : Sim K cl S B F φ H) (r : RS K cl F φ S.len σd σ) (e : m σd S = some (d, S1))
    (k : ∀ F1 φ1 H1 u, Sim K cl S1 B F1 φ1 H1 → Ext S F φ H S1 F1 φ1 H1 → RS K cl F1 φ1 S1.len σd σ → DRA K cl F1 φ1 d u → (∀ x ∈ d, x.lt S1.len) → Q u H1) : LA K cl m σ H Q :=
  ⟨σd, S, B, F, φ, s, r, d, S1, e, fun F1 φ1 H1 u s1 x dr l => k F1 φ1 H1 u s1 x (x.rs r) dr l⟩
theorem LS.then_ {m : MS} {σ : L2.St} {σd : En} {Z : Ends} {f : Fl} (s : Sim K cl S B F φ H) (r : RS K cl F φ S.len σd σ) (e : m σd S = some (f, S1))
    (k : OkF K cl S B F φ H Z S1 f) : LS K cl m Z σ H := ⟨σd, S, B, F, φ, s, r, f, S1, e, k⟩
/-- the end as it is -/
theorem OkE.fin {r : Option (D × SH)} {Q : VK} {d : D} {u : V} (h : OkE K cl S B F φ H r Q) (e : r = some (d, S1)) (s : Sim K cl S1 B F1 φ1 H1) (x : Ext S F φ H S1 F1 φ1 H1) (dr : DR K cl F1 φ1 d u) (l : d.lt S1.len) : Q u H1 := by
  obtain ⟨d', S', e', k⟩ := h
  rw [e] at e'; cases e'
  exact k F1 φ1 H1 u s x dr l
theorem OkE.fin0 {r : Option (D × SH)} {Q : VK} {d : D} {u : V} (h : OkE K cl S B F φ H r Q) (e : r = some (d, S)) (s : Sim K cl S B F φ H) (dr : DR K cl F φ d u) (l : d.lt S.len) : Q u H := h.fin e s (.refl s) dr l
end

theorem _root_.L2.PE.imp {X : Cx} {e : Expr} {t t' : TE} (h : PE X e t) (i : ∀ σ H Q, t' σ H Q → t σ H Q) : PE X e t' := ⟨fun pins s σ H Q I q => h.run pins s σ H Q I (i σ H Q q)⟩
theorem _root_.L2.PT.imp {X : Cx} {e : Expr} {t t' : TT} (h : PT X e t) (i : ∀ σ H Q, t' σ H Q → t σ H Q) : PT X e t' := ⟨fun pins s σ H Q I q => h.run pins s σ H Q I (i σ H Q q)⟩
theorem _root_.L2.PW.imp {X : Cx} {e : Expr} {t t' : TT} (h : PW X e t) (i : ∀ σ H Q, t' σ H Q → t σ H Q) : PW X e t' := ⟨fun w pins s σ H Q I q => h.run w pins s σ H Q I (i σ H Q q)⟩
theorem _root_.L2.PA.imp {X : Cx} {e : List Expr} {t t' : TA} (h : PA X e t) (i : ∀ σ H Q, t' σ H Q → t σ H Q) : PA X e t' := ⟨fun p pins s σ H Q I q => h.run p pins s σ H Q I (i σ H Q q)⟩
theorem _root_.L2.PS.imp {X : Cx} {e : Stmt} {t t' : TS} (h : PS X e t) (i : ∀ Z σ H, t' Z σ H → t Z σ H) : PS X e t' := ⟨fun pins s σ H Z I q => h.run pins s σ H Z I (i Z σ H q)⟩
theorem _root_.L2.PSs.imp {X : Cx} {e : List Stmt} {t t' : TS} (h : PSs X e t) (i : ∀ Z σ H, t' Z σ H → t Z σ H) : PSs X e t' := ⟨fun pins s σ H Z I q => h.run pins s σ H Z I (i Z σ H q)⟩

/-! the rules -/
section
variable {X : Cx} {cl : Nat → Addr}
/-- an operation by values: its reading follows from its computation -/
def OpD (K : PySem.W.Frag) (cl : Nat → Addr) (f : D → D → SH → Option (D × SH)) (r : R2) : Prop :=
  ∀ S B F φ H d1 d2 x y Q, Sim K cl S B F φ H → DR K cl F φ d1 x → DR K cl F φ d2 y → d1.lt S.len → d2.lt S.len → OkE K cl S B F φ H (f d1 d2 S) Q → r x y H Q
def UnD (K : PySem.W.Frag) (cl : Nat → Addr) (f : D → SH → Option (D × SH)) (r : V → Hp → VK → Prop) : Prop :=
  ∀ S B F φ H d x Q, Sim K cl S B F φ H → DR K cl F φ d x → d.lt S.len → OkE K cl S B F φ H (f d S) Q → r x H Q
def CallD (K : PySem.W.Frag) (cl : Nat → Addr) (f : MF) (r : List V → Hp → VK → Prop) : Prop :=
  ∀ S B F φ H ds xs Q, Sim K cl S B F φ H → DRA K cl F φ ds xs → (∀ d ∈ ds, d.lt S.len) → OkE K cl S B F φ H (f ds S) Q → r xs H Q

theorem okE_bnd {K : PySem.W.Frag} {α : Type} {S : SH} {B : List Nat} {F : Hp} {φ : Nat → Addr} {H : Hp} {r : Option (α × SH)} {f : α → SH → Option (D × SH)} {Q : VK} (h : OkE K cl S B F φ H (bnd r f) Q) : ∃ a S1, r = some (a, S1) ∧ OkE K cl S B F φ H (f a S1) Q := by
  cases r with
  | none => obtain ⟨_, _, z, _⟩ := h; cases z
  | some p => exact ⟨p.1, p.2, rfl, h⟩
theorem okT_bnd {K : PySem.W.Frag} {α : Type} {S : SH} {B : List Nat} {F : Hp} {φ : Nat → Addr} {H : Hp} {r : Option (α × SH)} {f : α → SH → Option (Bool × SH)} {Q : Bool → Hp → Prop} (h : OkT K cl S B F φ H (bnd r f) Q) : ∃ a S1, r = some (a, S1) ∧ OkT K cl S B F φ H (f a S1) Q := by
  cases r with
  | none => obtain ⟨_, _, z, _⟩ := h; cases z
  | some p => exact ⟨p.1, p.2, rfl, h⟩
theorem okA_bnd {K : PySem.W.Frag} {α : Type} {S : SH} {B : List Nat} {F : Hp} {φ : Nat → Addr} {H : Hp} {r : Option (α × SH)} {f : α → SH → Option (List D × SH)} {Q : List V → Hp → Prop} (h : OkA K cl S B F φ H (bnd r f) Q) : ∃ a S1, r = some (a, S1) ∧ OkA K cl S B F φ H (f a S1) Q := by
  cases r with
  | none => obtain ⟨_, _, z, _⟩ := h; cases z
  | some p => exact ⟨p.1, p.2, rfl, h⟩
theorem okS_bnd {K : PySem.W.Frag} {α : Type} {S : SH} {B : List Nat} {F : Hp} {φ : Nat → Addr} {H : Hp} {r : Option (α × SH)} {f : α → SH → Option (Fl × SH)} {Q : Ends} (h : OkS K cl S B F φ H (bnd r f) Q) : ∃ a S1, r = some (a, S1) ∧ OkS K cl S B F φ H (f a S1) Q := by
  cases r with
  | none => obtain ⟨_, _, z, _⟩ := h; cases z
  | some p => exact ⟨p.1, p.2, rfl, h⟩
theorem toB_of {d : D} {S S' : SH} {b : Bool} (h : toB d S = some (b, S')) : d = .p (.bl b) ∧ S' = S := by
  unfold toB at h
  cases e : isB d with
  | none => rw [e] at h; cases h
  | some c => rw [e] at h; cases h; exact ⟨isB_of e, rfl⟩
theorem rp_bl {K : PySem.W.Frag} {F : Hp} {φ : Nat → Addr} {b : Bool} {x : V} (h : DR K cl F φ (.p (.bl b)) x) : x = .bl b := by
  cases (show Rp K cl F (.bl b) x from h); rfl
theorem e_op {K : PySem.W.Frag} {f : D → D → SH → Option (D × SH)} {r : R2} (h : OpD K cl f r) {ma mb : ME} {σ : L2.St} {H : Hp} {Q : VK} (q : LE K cl (dOp f ma mb) σ H Q) : tOp r (LE K cl ma) (LE K cl mb) σ H Q := by
  obtain ⟨σd, S, B, F, φ, s, rs, o⟩ := q
  obtain ⟨d1, S1, ea, o⟩ := okE_bnd o
  obtain ⟨d2, S2, eb, o⟩ := okE_bnd o
  refine LE.then_ s rs ea fun F1 φ1 H1 x s1 x1 rs1 dr1 l1 => ?_
  refine LE.then_ s1 rs1 eb fun F2 φ2 H2 y s2 x2 rs2 dr2 l2 => ?_
  exact h S2 B F2 φ2 H2 d1 d2 x y Q s2 (x2.dr l1 dr1) dr2 (x2.lt l1) l2 (o.ext (x1.trans x2))
theorem e_un {K : PySem.W.Frag} {f : D → SH → Option (D × SH)} {r : V → Hp → VK → Prop} (h : UnD K cl f r) {ma : ME} {σ : L2.St} {H : Hp} {Q : VK} (q : LE K cl (dUn f ma) σ H Q) : tUn r (LE K cl ma) σ H Q := by
  obtain ⟨σd, S, B, F, φ, s, rs, o⟩ := q
  obtain ⟨d1, S1, ea, o⟩ := okE_bnd o
  exact LE.then_ s rs ea fun F1 φ1 H1 x s1 x1 rs1 dr1 l1 => h S1 B F1 φ1 H1 d1 x Q s1 dr1 l1 (o.ext x1)
theorem k_var (i : Nat) {x : Str} {pos : Pos} (hN : X.N[i]? = some x := by rfl) (hv : Vis X.env.scope x := by first | exact Or.inl rfl | exact Or.inr (Or.inl rfl) | exact Or.inr (Or.inr rfl)) (hd : (x == ("__debug__" : Str)) = false := by decide)
    (hcd : (x == ("__classdict__" : Str)) = false := by decide) : PE X (.Name x pos) (LE X.K cl (dVar i)) := by
  refine (pe_var hN hv hd hcd).imp fun σ H Q q => ?_
  obtain ⟨σd, S, B, F, φ, s, rs, d, S1, e, k⟩ := q
  unfold dVar at e
  split at e
  · rename_i d' h
    cases e
    obtain ⟨l, v, hv, dr⟩ := rs.2 i _ h
    exact ⟨v, hv, k F φ H v s (.refl s) dr l⟩
  · cases e
theorem e_c {K : PySem.W.Frag} {p : P} {v : V} {σ : L2.St} {H : Hp} {Q : VK} (q : LE K cl (dC p) σ H Q) (h : ∀ F, Rp K cl F p v) : Q v H := by
  obtain ⟨σd, S, B, F, φ, s, rs, o⟩ := q
  exact o.fin0 rfl s (h F) trivial
theorem k_int {i j pos} : PE X (.Constant (.int i) j pos) (LE X.K cl (dC (.int i))) := pe_int.imp fun _ _ _ q => e_c q fun _ => .int _
theorem k_bl {i j pos} : PE X (.Constant (.bool i) j pos) (LE X.K cl (dC (.bl i))) := pe_bl.imp fun _ _ _ q => e_c q fun _ => .bl _
theorem k_str {i j pos} : PE X (.Constant (.str i) j pos) (LE X.K cl (dC (.str i))) := pe_str.imp fun _ _ _ q => e_c q fun _ => .str _
theorem k_non {j pos} : PE X (.Constant .none j pos) (LE X.K cl (dC .non)) := pe_non.imp fun _ _ _ q => e_c q fun _ => .non
variable {a b c : Expr} {ma mb mc : ME} {ta tb : MT} {pos : Pos}
theorem k_op {op : Operator} {f : D → D → SH → Option (D × SH)} {r : R2} (hd : OpD X.K cl f r) (ho : OpR X (binaryOp op) r) (ha : PE X a (LE X.K cl ma)) (hb : PE X b (LE X.K cl mb)) : PE X (.BinOp a op b pos) (LE X.K cl (dOp f ma mb)) :=
  (pe_op ho ha hb).imp fun _ _ _ q => e_op hd q
theorem k_un {op : UnaryOp} {f : D → SH → Option (D × SH)} {r : V → Hp → VK → Prop} (hd : UnD X.K cl f r) (ho : UnR X (unaryOp op) r) (ha : PE X a (LE X.K cl ma)) : PE X (.UnaryOp op a pos) (LE X.K cl (dUn f ma)) :=
  (pe_un ho ha).imp fun _ _ _ q => e_un hd q
theorem k_cmp {op : CmpOp} {f : D → D → SH → Option (D × SH)} {r : R2} (hd : OpD X.K cl f r) (ho : OpR X (compareOp op) r) (ha : PE X a (LE X.K cl ma)) (hb : PE X b (LE X.K cl mb)) (hm : behindInMarks op b = false) : PE X (.Compare a [op] [b] pos) (LE X.K cl (dOp f ma mb)) :=
  (pe_cmpR ho ha hb hm).imp fun _ _ _ q => e_op hd q
theorem e_test {K : PySem.W.Frag} {ma : ME} {σ : L2.St} {H : Hp} {Q : Bool → Hp → Prop} (q : LT K cl (dTest ma) σ H Q) : LE K cl ma σ H fun x H' => ∃ k, x = .bl k ∧ Q k H' := by
  obtain ⟨σd, S, B, F, φ, s, rs, o⟩ := q
  obtain ⟨d, S1, e, o⟩ := okT_bnd o
  obtain ⟨b, S2, e2, k⟩ := o
  obtain ⟨rfl, rfl⟩ := toB_of e2
  exact LE.then_ s rs e fun F1 φ1 H1 x s1 x1 rs1 dr1 l1 => ⟨b, rp_bl dr1, k F1 φ1 H1 s1 x1⟩
theorem e_test2 {K : PySem.W.Frag} {f : D → D → SH → Option (D × SH)} {r : R2} (h : OpD K cl f r) {ma mb : ME} {σ : L2.St} {H : Hp} {Q : Bool → Hp → Prop} (q : LT K cl (dTest (dOp f ma mb)) σ H Q) : tTest (tOp r (LE K cl ma) (LE K cl mb)) σ H Q := by
  refine e_op h ?_
  exact e_test q
theorem t_cmp {op : CmpOp} {f : D → D → SH → Option (D × SH)} {r : R2} (hd : OpD X.K cl f r) (ho : OpR X (compareOp op) r) (ha : PE X a (LE X.K cl ma)) (hb : PE X b (LE X.K cl mb)) (hm : behindInMarks op b = false) : PT X (.Compare a [op] [b] pos) (LT X.K cl (dTest (dOp f ma mb))) :=
  (pt_cmpR ho ha hb hm).imp fun _ _ _ q => e_test2 hd q
theorem t_val {e : Expr} {m : ME} (h : PE X e (LE X.K cl m)) (he : ∀ whole, isTrue e X.env whole = (do let v ← whole; standAt e.pos; holding [v] (truthy v)) := by intro _; rfl) : PT X e (LT X.K cl (dTest m)) :=
  (pt_val h he).imp fun σ H Q q => e_test q
theorem w_and1 (ha : PT X a (LT X.K cl ta)) : PW X (.BoolOp .And [a] pos) (LT X.K cl ta) := pw_and1 ha
theorem w_or1 (ha : PT X a (LT X.K cl ta)) : PW X (.BoolOp .Or [a] pos) (LT X.K cl ta) := pw_or1 ha
variable {rest : List Expr}
theorem w_and (ha : PT X a (LT X.K cl ta)) (hb : PW X (.BoolOp .And (b :: rest) pos) (LT X.K cl tb)) : PW X (.BoolOp .And (a :: b :: rest) pos) (LT X.K cl (dAnd ta tb)) := by
  refine (pw_and ha hb).imp fun σ H Q q => ?_
  obtain ⟨σd, S, B, F, φ, s, rs, o⟩ := q
  obtain ⟨t, S1, e, o⟩ := okT_bnd o
  refine LT.then_ s rs e fun F1 φ1 H1 s1 x1 rs1 => ?_
  split
  · rename_i ht; rw [if_pos ht] at o; exact ⟨σd, S1, B, F1, φ1, s1, rs1, o.ext x1⟩
  · rename_i ht; rw [if_neg ht] at o
    obtain ⟨_, _, z, k⟩ := o
    cases z
    exact k F1 φ1 H1 s1 x1
theorem w_or (ha : PT X a (LT X.K cl ta)) (hb : PW X (.BoolOp .Or (b :: rest) pos) (LT X.K cl tb)) : PW X (.BoolOp .Or (a :: b :: rest) pos) (LT X.K cl (dOr ta tb)) := by
  refine (pw_or ha hb).imp fun σ H Q q => ?_
  obtain ⟨σd, S, B, F, φ, s, rs, o⟩ := q
  obtain ⟨t, S1, e, o⟩ := okT_bnd o
  refine LT.then_ s rs e fun F1 φ1 H1 s1 x1 rs1 => ?_
  split
  · rename_i ht; rw [if_pos ht] at o
    obtain ⟨_, _, z, k⟩ := o
    cases z
    exact k F1 φ1 H1 s1 x1
  · rename_i ht; rw [if_neg ht] at o; exact ⟨σd, S1, B, F1, φ1, s1, rs1, o.ext x1⟩
theorem t_not (ha : PT X a (LT X.K cl ta)) : PT X (.UnaryOp .Not a pos) (LT X.K cl (dNot ta)) := by
  refine (pt_not ha).imp fun σ H Q q => ?_
  obtain ⟨σd, S, B, F, φ, s, rs, o⟩ := q
  obtain ⟨t, S1, e, o⟩ := okT_bnd o
  refine LT.then_ s rs e fun F1 φ1 H1 s1 x1 rs1 => ?_
  obtain ⟨_, _, z, k⟩ := o
  cases z
  exact k F1 φ1 H1 s1 x1
theorem k_not (ha : PE X a (LE X.K cl ma)) : PE X (.UnaryOp .Not a pos) (LE X.K cl (dNotV ma)) := by
  refine (pe_not ha).imp fun σ H Q q => ?_
  obtain ⟨σd, S, B, F, φ, s, rs, o⟩ := q
  obtain ⟨d, S1, e, o⟩ := okE_bnd o
  obtain ⟨b, S2, e2, o2⟩ := okE_bnd o
  clear o
  obtain ⟨rfl, rfl⟩ := toB_of e2
  have o := o2
  clear o2
  exact LE.then_ s rs e fun F1 φ1 H1 x s1 x1 rs1 dr1 l1 => ⟨b, rp_bl dr1, o.fin rfl s1 x1 (Rp.bl _) trivial⟩
theorem k_one {op} (h : PE X a (LE X.K cl ma)) : PE X (.BoolOp op [a] pos) (LE X.K cl ma) := pe_one h
theorem k_and (ha : PE X a (LE X.K cl ma)) (hb : PE X (.BoolOp .And (b :: rest) pos) (LE X.K cl mb)) : PE X (.BoolOp .And (a :: b :: rest) pos) (LE X.K cl (dAndV ma mb)) := by
  refine (pe_and ha hb).imp fun σ H Q q => ?_
  obtain ⟨σd, S, B, F, φ, s, rs, o⟩ := q
  obtain ⟨d, S1, e, o⟩ := okE_bnd o
  obtain ⟨b, S2, e2, o2⟩ := okE_bnd o
  clear o
  obtain ⟨rfl, rfl⟩ := toB_of e2
  have o := o2
  clear o2
  refine LE.then_ s rs e fun F1 φ1 H1 x s1 x1 rs1 dr1 l1 => ⟨b, rp_bl dr1, ?_⟩
  split
  · rename_i ht; rw [if_pos ht] at o; exact ⟨σd, S2, B, F1, φ1, s1, rs1, o.ext x1⟩
  · rename_i ht; rw [if_neg ht] at o; exact o.fin rfl s1 x1 (Rp.bl _) trivial
theorem k_or (ha : PE X a (LE X.K cl ma)) (hb : PE X (.BoolOp .Or (b :: rest) pos) (LE X.K cl mb)) : PE X (.BoolOp .Or (a :: b :: rest) pos) (LE X.K cl (dOrV ma mb)) := by
  refine (pe_or ha hb).imp fun σ H Q q => ?_
  obtain ⟨σd, S, B, F, φ, s, rs, o⟩ := q
  obtain ⟨d, S1, e, o⟩ := okE_bnd o
  obtain ⟨b, S2, e2, o2⟩ := okE_bnd o
  clear o
  obtain ⟨rfl, rfl⟩ := toB_of e2
  have o := o2
  clear o2
  refine LE.then_ s rs e fun F1 φ1 H1 x s1 x1 rs1 dr1 l1 => ⟨b, rp_bl dr1, ?_⟩
  split
  · rename_i ht; rw [if_pos ht] at o; exact o.fin rfl s1 x1 (Rp.bl _) trivial
  · rename_i ht; rw [if_neg ht] at o; exact ⟨σd, S2, B, F1, φ1, s1, rs1, o.ext x1⟩
theorem k_if {t : Expr} (ht : PT X t (LT X.K cl ta)) (ha : PE X a (LE X.K cl ma)) (hb : PE X b (LE X.K cl mb)) : PE X (.IfExp t a b pos) (LE X.K cl (dIfE ta ma mb)) := by
  refine (pe_ifExp ht ha hb).imp fun σ H Q q => ?_
  obtain ⟨σd, S, B, F, φ, s, rs, o⟩ := q
  obtain ⟨t, S1, e, o⟩ := okE_bnd o
  refine LT.then_ s rs e fun F1 φ1 H1 s1 x1 rs1 => ?_
  split
  · rename_i ht; rw [if_pos ht] at o; exact ⟨σd, S1, B, F1, φ1, s1, rs1, o.ext x1⟩
  · rename_i ht; rw [if_neg ht] at o; exact ⟨σd, S1, B, F1, φ1, s1, rs1, o.ext x1⟩
variable {e : Expr} {es : List Expr} {mr : MA}
theorem a_nil : PA X [] (LA X.K cl dNil) := pa_nil.imp fun σ H Q q => by
  obtain ⟨σd, S, B, F, φ, s, rs, d, S1, e, k⟩ := q
  cases e
  exact k F φ H [] s (.refl s) .nil (fun _ z => absurd z (by simp))
theorem a_cons (he : PE X e (LE X.K cl ma)) (hr : PA X es (LA X.K cl mr)) (hs : starEach (e :: es) X.env = (false, eval e X.env) :: starEach es X.env := by rfl) : PA X (e :: es) (LA X.K cl (dCons ma mr)) := by
  refine (pa_cons he hr hs).imp fun σ H Q q => ?_
  obtain ⟨σd, S, B, F, φ, s, rs, o⟩ := q
  obtain ⟨d1, S1, ea, o⟩ := okA_bnd o
  obtain ⟨d2, S2, eb, o⟩ := okA_bnd o
  refine LE.then_ s rs ea fun F1 φ1 H1 x s1 x1 rs1 dr1 l1 => ?_
  refine LA.then_ s1 rs1 eb fun F2 φ2 H2 y s2 x2 rs2 dr2 l2 => ?_
  obtain ⟨_, _, z, k⟩ := o
  cases z
  exact k F2 φ2 H2 (x :: y) s2 (x1.trans x2) (.cons (x2.dr l1 dr1) dr2) fun d hd => by
    rcases List.mem_cons.mp hd with rfl | hd
    · exact x2.lt l1
    · exact l2 d hd
theorem e_call {K : PySem.W.Frag} {f : MF} {r : List V → Hp → VK → Prop} (h : CallD K cl f r) {m : MA} {σ : L2.St} {H : Hp} {Q : VK} (q : LE K cl (dCall f m) σ H Q) : LA K cl m σ H fun vs H1 => r vs H1 Q := by
  obtain ⟨σd, S, B, F, φ, s, rs, o⟩ := q
  obtain ⟨d1, S1, ea, o⟩ := okE_bnd o
  exact LA.then_ s rs ea fun F1 φ1 H1 x s1 x1 rs1 dr1 l1 => h S1 B F1 φ1 H1 d1 x Q s1 dr1 l1 (o.ext x1)
end
end Pv
namespace Pv
open PySem PySem.Spec PyProof.Rows L2

/-! ### what a def leaves behind: the objects that it made are data from then on -/
def toP : Nat → Nat → SH → D → Option P
  | _, _, _, .p x => some x
  | 0, _, _, .ref _ => none
  | k + 1, b, S, .ref n => if n < b then none else match S.os[n]? with
    | some (.lst ds) => (ds.mapM (toP k b S)).map .lst
    | some (.dK kvs) => (kvs.mapM fun p => (toP k b S p.2).map fun x => (p.1, x)).map .dK
    | some (.dT kvs) => (kvs.mapM fun p => (toP k b S p.2).map fun x => (p.1, x)).map .dT
    | some (.ins c fs) => (fs.mapM fun p => (toP k b S p.2).map fun x => (p.1, x)).map (.ins c)
    | none => none
/-- a value as it is behind the end of a def that began at b -/
def outD (b : Nat) (S : SH) (d : D) : Option D := match d with
  | .p x => some (.p x)
  | .ref n => if n < b then some (.ref n) else (toP 8 b S (.ref n)).map .p
def cutS (S0 S1 : SH) : SH := ⟨S0.b, S1.os.take S0.len⟩
/-- a def's call: what it made becomes data, or goes -/
def frameF (S : SH) (r : Option (Fl × SH)) : Option (D × SH) := bnd r fun f S1 => match f with
  | .ret d => match outD S.len S1 d with | some d' => some (d', cutS S S1) | none => none
  | .nx _ => some (.p .non, cutS S S1)
  | _ => none
/-- a def's call where what it made stays -/
def liveF (r : Option (Fl × SH)) : Option (D × SH) := bnd r fun f S1 => match f with
  | .ret d => some (d, S1)
  | .nx _ => some (.p .non, S1)
  | _ => none
/-- a block whose new objects become data at its end; a name that can't be data is forgotten -/
def outO (b : Nat) (S : SH) : Option D → Option D
  | some d => outD b S d
  | none => none
def outE (b : Nat) (S : SH) (σ : En) : En := σ.map (outO b S)
def dBlock (m : MS) : MS := fun σ S => bnd (m σ ⟨S.len, S.os⟩) fun f S1 => match f with
  | .nx σ1 => some (.nx (outE S.len S1 σ1), cutS S S1)
  | .ct σ1 => some (.ct (outE S.len S1 σ1), cutS S S1)
  | .brk σ1 => some (.brk (outE S.len S1 σ1), cutS S S1)
  | .ret d => match outD S.len S1 d with | some d' => some (.ret d', cutS S S1) | none => none

section
variable {K : PySem.W.Frag} {cl : Nat → Addr} {S S' S1 S2 : SH} {B : List Nat} {F F' F0 F1 F2 H H' H0 H1 H2 : Hp} {φ φ' φ0 φ1 φ2 : Nat → Addr}
open Classical in
/-- the heap of data with the objects from b on -/
noncomputable def addF (b k : Nat) (F H : Hp) (φ : Nat → Addr) : Hp := fun a => if ∃ n, b ≤ n ∧ n < k ∧ φ n = a then H a else F a
theorem addF_in {b k n : Nat} (h1 : b ≤ n) (h2 : n < k) : addF b k F H φ (φ n) = H (φ n) := by unfold addF; rw [if_pos ⟨n, h1, h2, rfl⟩]
theorem addF_out {b k : Nat} {a : Addr} (h : ∀ n, b ≤ n → n < k → φ n ≠ a) : addF b k F H φ a = F a := by
  unfold addF; rw [if_neg]; rintro ⟨n, h1, h2, e⟩; exact h n h1 h2 e
theorem addF_le (s : Sim K cl S B F φ H) (b : Nat) : Same F (addF b S.len F H φ) := fun a o e => by
  rw [addF_out]
  · exact e
  · intro n h1 h2 q
    have z := (s.ob n _ (List.getElem?_eq_getElem h2)).1
    rw [q, e] at z; cases z
theorem addF_heap (s : Sim K cl S B F φ H) (b : Nat) : Same (addF b S.len F H φ) H := fun a o e => by
  by_cases h : ∃ n, b ≤ n ∧ n < S.len ∧ φ n = a
  · obtain ⟨n, h1, h2, rfl⟩ := h
    rw [addF_in h1 h2] at e; exact e
  · rw [addF_out fun n h1 h2 q => h ⟨n, h1, h2, q⟩] at e
    exact s.le _ _ e
theorem mapM_rp {α : Type} {g : α → Option P} {R : α → V → Prop} {F : Hp} (hR : ∀ a x v, g a = some x → R a v → Rp K cl F x v) : ∀ {l : List α} {xs : List P} {vs : List V}, l.mapM g = some xs → Paired R l vs → RpA K cl F xs vs
  | [], xs, vs, e, r => by
    cases r
    simp at e
    subst e
    exact .nil
  | a :: l, xs, vs, e, r => by
    cases r with
    | cons r1 r2 =>
      rw [List.mapM_cons] at e
      cases e1 : g a with
      | none => rw [e1] at e; cases e
      | some x =>
        rw [e1] at e
        cases e2 : l.mapM g with
        | none => rw [e2] at e; cases e
        | some ys =>
          rw [e2] at e
          cases e
          exact .cons (hR a x _ e1 r1) (mapM_rp hR e2 r2)
theorem mapM_rpk {κ : Type} {g : D → Option P} {R : D → V → Prop} {F : Hp} {Z : List (κ × P) → List (κ × V) → Prop} (z0 : Z [] []) (z1 : ∀ k x v xs vs, Rp K cl F x v → Z xs vs → Z ((k, x) :: xs) ((k, v) :: vs))
    (hR : ∀ a x v, g a = some x → R a v → Rp K cl F x v) : ∀ {l : List (κ × D)} {xs : List (κ × P)} {vs : List (κ × V)}, l.mapM (fun p => (g p.2).map fun x => (p.1, x)) = some xs → Paired (fun p q => p.1 = q.1 ∧ R p.2 q.2) l vs → Z xs vs
  | [], xs, vs, e, r => by
    cases r
    simp at e
    subst e
    exact z0
  | (k, a) :: l, xs, vs, e, r => by
    cases r with
    | cons r1 r2 =>
      rename_i q vs'
      obtain ⟨k', v⟩ := q
      obtain ⟨rfl, r1⟩ := r1
      rw [List.mapM_cons] at e
      cases e1 : g a with
      | none => rw [e1] at e; cases e
      | some x =>
        rw [e1] at e
        cases e2 : l.mapM (fun p => (g p.2).map fun x => (p.1, x)) with
        | none =>
          simp only [Option.map_some] at e
          rw [e2] at e; cases e
        | some ys =>
          simp only [Option.map_some] at e
          rw [e2] at e
          cases e
          exact z1 _ _ _ _ _ (hR a x _ e1 r1) (mapM_rpk z0 z1 hR e2 r2)
theorem toP_ok (s : Sim K cl S B F φ H) (b : Nat) : ∀ (k : Nat) (d : D) (x : P) (v : V), toP k b S d = some x → DR K cl F φ d v → Rp K cl (addF b S.len F H φ) x v
  | k, .p y, x, v, e, r => by
    have e : y = x := by cases k <;> (simp [toP] at e; exact e)
    subst e
    exact Rp.mono (addF_le s b) r
  | 0, .ref n, x, v, e, r => by simp [toP] at e
  | k + 1, .ref n, x, v, e, r => by
    have r' : v = .ref (φ n) := r
    subst r'
    unfold toP at e
    by_cases hb : n < b
    · rw [if_pos hb] at e; cases e
    · rw [if_neg hb] at e
      have ih : ∀ (a : D) (x : P) (v : V), toP k b S a = some x → DR K cl F φ a v → Rp K cl (addF b S.len F H φ) x v := toP_ok s b k
      cases ho : S.os[n]? with
      | none => rw [ho] at e; cases e
      | some o =>
        rw [ho] at e
        have hn : n < S.len := (List.getElem?_eq_some_iff.mp ho).1
        have hF : addF b S.len F H φ (φ n) = H (φ n) := addF_in (Nat.le_of_not_lt hb) hn
        have ob := (s.ob n o ho).2
        cases o with
        | lst ds =>
          obtain ⟨vs, ev, rv⟩ := ob
          dsimp only at e
          cases e2 : ds.mapM (toP k b S) with
          | none => rw [e2] at e; cases e
          | some xs =>
            rw [e2] at e
            cases e
            exact .lst (.inl (.inl (hF.trans ev))) (mapM_rp ih e2 rv)
        | dK kvs =>
          obtain ⟨vs, ev, rv⟩ := ob
          dsimp only at e
          cases e2 : kvs.mapM fun p => (toP k b S p.2).map fun x => (p.1, x) with
          | none => rw [e2] at e; cases e
          | some xs =>
            rw [e2] at e
            cases e
            exact .dK (hF.trans ev) (mapM_rpk (Z := RpK K cl _) .nil (fun _ _ _ _ _ h1 h2 => .cons h1 h2) ih e2 rv)
        | dT kvs =>
          obtain ⟨vs, ev, rv⟩ := ob
          dsimp only at e
          cases e2 : kvs.mapM fun p => (toP k b S p.2).map fun x => (p.1, x) with
          | none => rw [e2] at e; cases e
          | some xs =>
            rw [e2] at e
            cases e
            exact .dT (hF.trans ev) (mapM_rpk (Z := RpT K cl _) .nil (fun _ _ _ _ _ h1 h2 => .cons h1 h2) ih e2 rv)
        | ins c fs =>
          obtain ⟨dx, vs, ev, rv⟩ := ob
          dsimp only at e
          cases e2 : fs.mapM fun p => (toP k b S p.2).map fun x => (p.1, x) with
          | none => rw [e2] at e; cases e
          | some xs =>
            rw [e2] at e
            cases e
            exact .ins (hF.trans ev) (mapM_rpk (Z := RpF K cl _) .nil (fun _ _ _ _ _ h1 h2 => .cons h1 h2) ih e2 rv)
/-- a block, a def's body begins -/
theorem Sim.begin (s : Sim K cl S B F φ H) : Sim K cl ⟨S.len, S.os⟩ (S.len :: B) F φ H := by
  refine ⟨s.le, s.ob, s.inj, s.wf, fun b hb => ?_, Nat.le_refl _⟩
  rcases List.mem_cons.mp hb with rfl | hb
  · exact ⟨Nat.le_refl _, fun n o e _ => s.wf n o e⟩
  · exact ⟨Nat.le_trans (s.bs b hb).1 s.bl, (s.bs b hb).2⟩
theorem cutS_len (h : S.len ≤ S1.len) : (cutS S S1).len = S.len := by
  show (S1.os.take S.len).length = _
  rw [List.length_take]
  exact Nat.min_eq_left h
theorem cutS_get {n : Nat} {o : Ob} (e : (cutS S S1).os[n]? = some o) : n < S.len ∧ S1.os[n]? = some o := by
  have e : (S1.os.take S.len)[n]? = some o := e
  rw [List.getElem?_take] at e
  split at e
  · rename_i h; exact ⟨h, e⟩
  · cases e
/-- .. and ends -/
theorem Sim.end_ (s0 : Sim K cl S B F0 φ0 H0) (s : Sim K cl S1 (S.len :: B) F φ H) (h : S.len ≤ S1.len) : Sim K cl (cutS S S1) B (addF S.len S1.len F H φ) φ H := by
  have hl := cutS_len h
  refine ⟨addF_heap s _, fun n o e => ?_, fun n m h1 h2 => ?_, fun n o e => ?_, fun b hb => ⟨(s0.bs b hb).1, fun n o e hn => ?_⟩, ?_⟩
  · obtain ⟨hn, e⟩ := cutS_get e
    refine ⟨?_, ?_⟩
    · rw [addF_out fun m h1 h2 q => ?_]
      · exact (s.ob n o e).1
      · have := s.inj m n h2 (Nat.lt_of_lt_of_le hn h) q
        omega
    · exact OR.mono (addF_le s _) (fun _ _ => rfl) (s.wf n o e) (s.ob n o e).2
  · exact s.inj n m (by omega) (by omega)
  · obtain ⟨hn, e⟩ := cutS_get e
    rw [hl]
    exact (s.bs S.len List.mem_cons_self).2 n o e hn
  · obtain ⟨_, e⟩ := cutS_get e
    exact (s.bs b (List.mem_cons_of_mem _ hb)).2 n o e hn
  · rw [hl]; exact s0.bl
theorem Ext.end_ (s : Sim K cl S1 (S.len :: B) F φ H) (x : Ext ⟨S.len, S.os⟩ F0 φ0 H0 S1 F φ H) : Ext S F0 φ0 H0 (cutS S S1) (addF S.len S1.len F H φ) φ H := by
  have hl := cutS_len (S := S) (S1 := S1) x.len
  refine ⟨x.fz.trans (addF_le s _), Nat.le_of_eq hl.symm, rfl, x.phi, fun n h1 h2 => by omega, x.keep, x.tr, fun a o h f n => ?_⟩
  rw [addF_out fun m h1 h2 q => ?_]
  · exact x.fr a o h f n
  · have := x.new m h1 h2
    rw [q, h] at this; cases this
theorem outD_ok (s : Sim K cl S1 (S.len :: B) F φ H) (h : S.len ≤ S1.len) {d d' : D} {v : V} (e : outD S.len S1 d = some d') (r : DR K cl F φ d v) (l : d.lt S1.len) : DR K cl (addF S.len S1.len F H φ) φ d' v ∧ d'.lt (cutS S S1).len := by
  rw [cutS_len h]
  cases d with
  | p x => cases e; exact ⟨Rp.mono (addF_le s _) r, trivial⟩
  | ref n =>
    unfold outD at e
    dsimp only at e
    by_cases hn : n < S.len
    · rw [if_pos hn] at e; cases e; exact ⟨r, hn⟩
    · rw [if_neg hn] at e
      cases e2 : toP 8 S.len S1 (.ref n) with
      | none => rw [e2] at e; cases e
      | some x => rw [e2] at e; cases e; exact ⟨toP_ok s _ _ _ _ _ e2 r, trivial⟩
theorem outE_ok (s : Sim K cl S1 (S.len :: B) F φ H) (h : S.len ≤ S1.len) {σd : En} {σ : L2.St} (r : RS K cl F φ S1.len σd σ) : RS K cl (addF S.len S1.len F H φ) φ (cutS S S1).len (outE S.len S1 σd) σ := by
  refine ⟨by unfold outE; rw [List.length_map]; exact r.1, fun i d e => ?_⟩
  unfold outE at e
  rw [List.getElem?_map] at e
  cases e1 : σd[i]? with
  | none => rw [e1] at e; cases e
  | some o =>
    rw [e1] at e
    cases o with
    | none => cases e
    | some d0 =>
      have e : outD S.len S1 d0 = some d := Option.some.inj e
      obtain ⟨l, v, ev, rv⟩ := r.2 i d0 e1
      obtain ⟨a, b⟩ := outD_ok s h e rv l
      exact ⟨b, v, ev, a⟩
end
section
variable {X : Cx} {cl : Nat → Addr} {st : Stmt} {rest : List Stmt} {m n : MS} {me : ME} {mt : MT} {e : Expr} {pos : Pos}
theorem s_nil : PSs X [] (LS X.K cl dNx) := pss_nil.imp fun Z σ H q => by
  obtain ⟨σd, S, B, F, φ, s, rs, f, S1, e, k⟩ := q
  cases e
  exact k F φ H σ s (.refl s) rs
theorem s_pass : PS X (.Pass pos) (LS X.K cl dNx) := ps_pass.imp fun Z σ H q => by
  obtain ⟨σd, S, B, F, φ, s, rs, f, S1, e, k⟩ := q
  cases e
  exact k F φ H σ s (.refl s) rs
theorem s_brk : PS X (.Break pos) (LS X.K cl dBrk) := ps_break.imp fun Z σ H q => by
  obtain ⟨σd, S, B, F, φ, s, rs, f, S1, e, k⟩ := q
  cases e
  exact k F φ H σ s (.refl s) rs
theorem s_ct : PS X (.Continue pos) (LS X.K cl dCt) := ps_continue.imp fun Z σ H q => by
  obtain ⟨σd, S, B, F, φ, s, rs, f, S1, e, k⟩ := q
  cases e
  exact k F φ H σ s (.refl s) rs
theorem s_doc {x j pos'} : PS X (.Expr (.Constant (.str x) j pos) pos') (LS X.K cl dNx) := ps_doc.imp fun Z σ H q => by
  obtain ⟨σd, S, B, F, φ, s, rs, f, S1, e, k⟩ := q
  cases e
  exact k F φ H σ s (.refl s) rs
theorem s_one (h : PS X st (LS X.K cl m)) : PSs X [st] (LS X.K cl m) := pss_one h
theorem s_cons (h1 : PS X st (LS X.K cl m)) (h2 : PSs X rest (LS X.K cl n)) : PSs X (st :: rest) (LS X.K cl (dSeq m n)) := by
  refine (pss_cons h1 h2).imp fun Z σ H q => ?_
  obtain ⟨σd, S, B, F, φ, s, rs, o⟩ := q
  obtain ⟨f, S1, e, o⟩ := okS_bnd o
  refine LS.then_ s rs e ?_
  cases f with
  | nx σ1 => exact fun F1 φ1 H1 σ' s1 x1 rs1 => ⟨σ1, S1, B, F1, φ1, s1, rs1, o.ext x1⟩
  | ret d => obtain ⟨_, _, z, k⟩ := o; cases z; exact k
  | brk d => obtain ⟨_, _, z, k⟩ := o; cases z; exact k
  | ct d => obtain ⟨_, _, z, k⟩ := o; cases z; exact k
theorem s_never : PS X st (LS X.K cl dNever) := ps_never.imp fun Z σ H q => by
  obtain ⟨σd, S, B, F, φ, s, rs, f, S1, e, k⟩ := q
  cases e
theorem ss_never {sts : List Stmt} : PSs X sts (LS X.K cl dNever) := pss_never.imp fun Z σ H q => by
  obtain ⟨σd, S, B, F, φ, s, rs, f, S1, e, k⟩ := q
  cases e
theorem s_if {c : Expr} {a b : List Stmt} (hc : PT X c (LT X.K cl mt)) (ha : PSs X a (LS X.K cl m)) (hb : PSs X b (LS X.K cl n)) : PS X (.If c a b pos) (LS X.K cl (dIf mt m n)) := by
  refine (ps_if hc ha hb).imp fun Z σ H q => ?_
  obtain ⟨σd, S, B, F, φ, s, rs, o⟩ := q
  obtain ⟨t, S1, e, o⟩ := okS_bnd o
  refine LT.then_ s rs e fun F1 φ1 H1 s1 x1 rs1 => ?_
  split
  · rename_i ht; rw [if_pos ht] at o; exact ⟨σd, S1, B, F1, φ1, s1, rs1, o.ext x1⟩
  · rename_i ht; rw [if_neg ht] at o; exact ⟨σd, S1, B, F1, φ1, s1, rs1, o.ext x1⟩
theorem s_ret (he : PE X e (LE X.K cl me)) : PS X (.Return (some e) pos) (LS X.K cl (dRet me)) := by
  refine (ps_ret he).imp fun Z σ H q => ?_
  obtain ⟨σd, S, B, F, φ, s, rs, o⟩ := q
  obtain ⟨d, S1, e, o⟩ := okS_bnd o
  obtain ⟨_, _, z, k⟩ := o
  cases z
  exact LE.then_ s rs e fun F1 φ1 H1 u s1 x1 _ dr l => k F1 φ1 H1 u s1 x1 dr l
theorem s_retN : PS X (.Return none pos) (LS X.K cl dRetN) := ps_retN.imp fun Z σ H q => by
  obtain ⟨σd, S, B, F, φ, s, rs, f, S1, e, k⟩ := q
  cases e
  exact k F φ H .non s (.refl s) .non trivial
theorem s_drop (he : PE X e (LE X.K cl me)) (hs : swapsWith e none pos.line X.env = pure false := by rfl) : PS X (.Expr e pos) (LS X.K cl (dDrop me)) := by
  refine (ps_expr he hs).imp fun Z σ H q => ?_
  obtain ⟨σd, S, B, F, φ, s, rs, o⟩ := q
  obtain ⟨d, S1, e, o⟩ := okS_bnd o
  obtain ⟨_, _, z, k⟩ := o
  cases z
  exact LE.then_ s rs e fun F1 φ1 H1 u s1 x1 rs1 dr l => k F1 φ1 H1 σ s1 x1 rs1
theorem RS.set {K : PySem.W.Frag} {F : Hp} {φ : Nat → Addr} {k : Nat} {σd : En} {σ : L2.St} (r : RS K cl F φ k σd σ) (i : Nat) {d : D} {v : V} (dr : DR K cl F φ d v) (l : d.lt k) : RS K cl F φ k (σd.set i (some d)) (σ.set i (some v)) := by
  refine ⟨by rw [List.length_set, List.length_set]; exact r.1, fun j d' e => ?_⟩
  by_cases h : i = j
  · subst h
    rw [List.getElem?_set] at e
    rw [if_pos rfl] at e
    by_cases hi : i < σd.length
    · rw [if_pos hi] at e
      cases e
      exact ⟨l, v, by rw [List.getElem?_set_self (by rw [← r.1]; exact hi)], dr⟩
    · rw [if_neg hi] at e; cases e
  · rw [List.getElem?_set_ne h] at e
    obtain ⟨a, v', b, c⟩ := r.2 j d' e
    exact ⟨a, v', by rw [List.getElem?_set_ne h]; exact b, c⟩
theorem RS.unset {K : PySem.W.Frag} {F : Hp} {φ : Nat → Addr} {k : Nat} {σd : En} {σ : L2.St} (r : RS K cl F φ k σd σ) (i : Nat) : RS K cl F φ k (σd.set i none) σ := by
  refine ⟨by rw [List.length_set]; exact r.1, fun j d' e => ?_⟩
  by_cases h : i = j
  · subst h
    rw [List.getElem?_set, if_pos rfl] at e
    split at e <;> cases e
  · rw [List.getElem?_set_ne h] at e
    exact r.2 j d' e
theorem RS.wipe {K : PySem.W.Frag} {F : Hp} {φ : Nat → Addr} {k : Nat} {σ : L2.St} : ∀ (vs : List Nat) {σd : En}, RS K cl F φ k σd σ → RS K cl F φ k (wipeD vs σd) σ
  | [], _, r => r
  | i :: vs, _, r => RS.wipe vs (r.unset i)
theorem s_set {i : Nat} {x : Str} {pos' : Pos} (hN : X.N.Nodup) (hi : X.N[i]? = some x) (hx : Loc X.env.scope x) (he : PE X e (LE X.K cl me)) (hs : swapsWith e (some (.Name x pos')) pos.line X.env = pure false := by rfl) (hf : X.fn x = true ∨ X.env.scope.names.lookup x = some .local := by first | exact .inl rfl | exact .inr rfl | assumption) :
    PS X (.Assign [.Name x pos'] e pos) (LS X.K cl (dSet i me)) := by
  refine (ps_set hN hi hx he hs hf).imp fun Z σ H q => ?_
  obtain ⟨σd, S, B, F, φ, s, rs, o⟩ := q
  obtain ⟨d, S1, e, o⟩ := okS_bnd o
  obtain ⟨_, _, z, k⟩ := o
  cases z
  exact LE.then_ s rs e fun F1 φ1 H1 u s1 x1 rs1 dr l => k F1 φ1 H1 _ s1 x1 (rs1.set i dr l)
theorem s_wipe {vs : List Nat} (h : PS X st (LS X.K cl m)) : PS X st (LS X.K cl (dWipe vs m)) := h.imp fun Z σ H q => by
  obtain ⟨σd, S, B, F, φ, s, rs, o⟩ := q
  exact ⟨_, S, B, F, φ, s, rs.wipe vs, o⟩
theorem ss_wipe {vs : List Nat} (h : PSs X rest (LS X.K cl m)) : PSs X rest (LS X.K cl (dWipe vs m)) := h.imp fun Z σ H q => by
  obtain ⟨σd, S, B, F, φ, s, rs, o⟩ := q
  exact ⟨_, S, B, F, φ, s, rs.wipe vs, o⟩
theorem ss_block (h : PSs X rest (LS X.K cl m)) : PSs X rest (LS X.K cl (dBlock m)) := h.imp fun Z σ H q => by
  obtain ⟨σd, S, B, F, φ, s, rs, o⟩ := q
  obtain ⟨f, S1, e, o⟩ := okS_bnd o
  refine ⟨σd, ⟨S.len, S.os⟩, S.len :: B, F, φ, s.begin, rs, f, S1, e, ?_⟩
  cases f with
  | nx σ1 =>
    obtain ⟨_, _, z, k⟩ := o; cases z
    exact fun F1 φ1 H1 σ' s1 x1 rs1 => k _ _ _ _ (Sim.end_ s s1 x1.len) (Ext.end_ s1 x1) (outE_ok s1 x1.len rs1)
  | ct σ1 =>
    obtain ⟨_, _, z, k⟩ := o; cases z
    exact fun F1 φ1 H1 σ' s1 x1 rs1 => k _ _ _ _ (Sim.end_ s s1 x1.len) (Ext.end_ s1 x1) (outE_ok s1 x1.len rs1)
  | brk σ1 =>
    obtain ⟨_, _, z, k⟩ := o; cases z
    exact fun F1 φ1 H1 σ' s1 x1 rs1 => k _ _ _ _ (Sim.end_ s s1 x1.len) (Ext.end_ s1 x1) (outE_ok s1 x1.len rs1)
  | ret d =>
    dsimp only at o
    cases ed : outD S.len S1 d with
    | none => rw [ed] at o; obtain ⟨_, _, z, _⟩ := o; cases z
    | some d' =>
      rw [ed] at o
      obtain ⟨_, _, z, k⟩ := o; cases z
      intro F1 φ1 H1 u s1 x1 dr l
      obtain ⟨a, b⟩ := outD_ok s1 x1.len ed dr l
      exact k _ _ _ _ (Sim.end_ s s1 x1.len) (Ext.end_ s1 x1) a b

/-! ### defs -/
def startD (n : Nat) (ds : List D) : En := ds.map some ++ List.replicate (n - ds.length) none
theorem DRA.length {K : PySem.W.Frag} {F : Hp} {φ : Nat → Addr} {ds : List D} {vs : List V} (h : DRA K cl F φ ds vs) : ds.length = vs.length := Paired.length h
theorem DRA.get {K : PySem.W.Frag} {F : Hp} {φ : Nat → Addr} : ∀ {ds : List D} {vs : List V} {i : Nat} {d : D}, DRA K cl F φ ds vs → ds[i]? = some d → ∃ v, vs[i]? = some v ∧ DR K cl F φ d v
  | _, _, _, _, .nil, e => by simp at e
  | _, _, 0, _, .cons r _, e => by simp at e; subst e; exact ⟨_, rfl, r⟩
  | _, _, i + 1, d, .cons _ t, e => by
    obtain ⟨u, h1, h2⟩ := DRA.get (i := i) (d := d) t (by simpa using e)
    exact ⟨u, by simpa using h1, h2⟩
theorem rs_start {K : PySem.W.Frag} {F : Hp} {φ : Nat → Addr} {k : Nat} {N : List Str} {ds : List D} {vs : List V} (r : DRA K cl F φ ds vs) (l : ∀ d ∈ ds, d.lt k) : RS K cl F φ k (startD N.length ds) (L2.start N vs) := by
  have hl := r.length
  refine ⟨by unfold startD L2.start; simp [hl], fun i d e => ?_⟩
  unfold startD at e
  by_cases hi : i < ds.length
  · rw [List.getElem?_append_left (by simpa using hi), List.getElem?_map] at e
    cases e1 : ds[i]? with
    | none => rw [e1] at e; cases e
    | some d0 =>
      rw [e1] at e; cases e
      obtain ⟨v, ev, dr⟩ := r.get e1
      refine ⟨l d (List.mem_of_getElem? e1), v, ?_, dr⟩
      unfold L2.start
      rw [List.getElem?_append_left (by simpa [← hl] using hi), List.getElem?_map, ev]
      rfl
  · rw [List.getElem?_append_right (by simpa using hi), List.getElem?_replicate] at e
    split at e <;> cases e
/-- what a def promises, by its computation -/
def spOf (K : PySem.W.Frag) (cl : Nat → Addr) (m : MF) : Sp := fun vs H Q _ => ∃ ds S B F φ, Sim K cl S B F φ H ∧ DRA K cl F φ ds vs ∧ (∀ d ∈ ds, d.lt S.len) ∧ OkE K cl S B F φ H (m ds S) Q
/-- a def by its body: what it made becomes data -/
def dFn (k n : Nat) (body : MS) : MF := fun ds S => if ds.length = k then frameF S (body (startD n ds) ⟨S.len, S.os⟩) else none
def dFnL (k n : Nat) (body : MS) : MF := fun ds S => if ds.length = k then liveF (body (startD n ds) S) else none
theorem fn_len {K : PySem.W.Frag} {S : SH} {B : List Nat} {F : Hp} {φ : Nat → Addr} {H : Hp} {Q : VK} {ds : List D} {k : Nat} {r : Option (D × SH)} (h : OkE K cl S B F φ H (if ds.length = k then r else none) Q) : ds.length = k ∧ OkE K cl S B F φ H r Q := by
  by_cases e : ds.length = k
  · rw [if_pos e] at h; exact ⟨e, h⟩
  · rw [if_neg e] at h; obtain ⟨_, _, z, _⟩ := h; cases z
theorem sp_len {K : PySem.W.Frag} {k n : Nat} {m : MS} {vs : List V} {H : Hp} {Q : VK} {E : XK} (h : spOf K cl (dFn k n m) vs H Q E) : vs.length = k := by
  obtain ⟨ds, S, B, F, φ, s, dr, l, o⟩ := h
  rw [← dr.length]
  exact (fn_len o).1
theorem spL_len {K : PySem.W.Frag} {k n : Nat} {m : MS} {vs : List V} {H : Hp} {Q : VK} {E : XK} (h : spOf K cl (dFnL k n m) vs H Q E) : vs.length = k := by
  obtain ⟨ds, S, B, F, φ, s, dr, l, o⟩ := h
  rw [← dr.length]
  exact (fn_len o).1
theorem fn_body {K : PySem.W.Frag} {N : List Str} {k : Nat} {m : MS} {vs : List V} {H : Hp} {Q : VK} {E : XK} (h : spOf K cl (dFn k N.length m) vs H Q E) : LS K cl m { nx := fun _ H' => Q .non H', rt := Q } (L2.start N vs) H := by
  obtain ⟨ds, S, B, F, φ, s, dr, l, o⟩ := h
  have o := (fn_len o).2
  obtain ⟨f, S1, e, o⟩ := okE_bnd o
  refine ⟨_, ⟨S.len, S.os⟩, S.len :: B, F, φ, s.begin, rs_start dr l, f, S1, e, ?_⟩
  cases f with
  | nx σ1 =>
    obtain ⟨_, _, z, k⟩ := o; cases z
    exact fun F1 φ1 H1 σ' s1 x1 rs1 => k _ _ _ _ (Sim.end_ s s1 x1.len) (Ext.end_ s1 x1) .non trivial
  | ret d =>
    dsimp only at o
    cases ed : outD S.len S1 d with
    | none => rw [ed] at o; obtain ⟨_, _, z, _⟩ := o; cases z
    | some d' =>
      rw [ed] at o
      obtain ⟨_, _, z, k⟩ := o; cases z
      intro F1 φ1 H1 u s1 x1 dr l
      obtain ⟨a, b⟩ := outD_ok s1 x1.len ed dr l
      exact k _ _ _ _ (Sim.end_ s s1 x1.len) (Ext.end_ s1 x1) a b
  | brk _ => obtain ⟨_, _, z, _⟩ := o; cases z
  | ct _ => obtain ⟨_, _, z, _⟩ := o; cases z
theorem fnL_body {K : PySem.W.Frag} {N : List Str} {k : Nat} {m : MS} {vs : List V} {H : Hp} {Q : VK} {E : XK} (h : spOf K cl (dFnL k N.length m) vs H Q E) : LS K cl m { nx := fun _ H' => Q .non H', rt := Q } (L2.start N vs) H := by
  obtain ⟨ds, S, B, F, φ, s, dr, l, o⟩ := h
  have o := (fn_len o).2
  obtain ⟨f, S1, e, o⟩ := okE_bnd o
  refine ⟨_, S, B, F, φ, s, rs_start dr l, f, S1, e, ?_⟩
  cases f with
  | nx σ1 =>
    obtain ⟨_, _, z, k⟩ := o; cases z
    exact fun F1 φ1 H1 σ' s1 x1 rs1 => k _ _ _ _ s1 x1 .non trivial
  | ret d => obtain ⟨_, _, z, k⟩ := o; cases z; exact k
  | brk _ => obtain ⟨_, _, z, _⟩ := o; cases z
  | ct _ => obtain ⟨_, _, z, _⟩ := o; cases z
/-- THE RULE for a def -/
theorem fn_ok {P : Program} {w : World} {K : PySem.W.Frag} {mg : Str → Option Value} {base : Heap} {x qual : Str} {st : Stmt} {f : Addr} {fd : FuncData} {N ps : List Str} {k : Nat} {m : MS} (F : Fun K x qual st f fd) (S : FnScope N ps (defScope st))
    (h : ∀ (cdv : Value) (A : Around) (outer : List Env) (s : Shared) (H : Hp) (E : XK), Room k (A.deeper (envOfC qual (defScope st) s.heap.objs.size f cdv)) →
      PSs (cxOf CX0 P w K mg base N qual (defScope st) f cdv A outer s H E).nox (defBody st) (LS K cl m)) : FnOk P w K mg base CX0 (k + 1) f fd ps (spOf K cl (dFn ps.length N.length m)) :=
  F.ok S (fun vs H Q E q => sp_len q) fun cdv A outer s H vs Q E hr q => ⟨_, h cdv A outer s H E hr, fn_body q⟩
theorem fnL_ok {P : Program} {w : World} {K : PySem.W.Frag} {mg : Str → Option Value} {base : Heap} {x qual : Str} {st : Stmt} {f : Addr} {fd : FuncData} {N ps : List Str} {k : Nat} {m : MS} (F : Fun K x qual st f fd) (S : FnScope N ps (defScope st))
    (h : ∀ (cdv : Value) (A : Around) (outer : List Env) (s : Shared) (H : Hp) (E : XK), Room k (A.deeper (envOfC qual (defScope st) s.heap.objs.size f cdv)) →
      PSs (cxOf CX0 P w K mg base N qual (defScope st) f cdv A outer s H E).nox (defBody st) (LS K cl m)) : FnOk P w K mg base CX0 (k + 1) f fd ps (spOf K cl (dFnL ps.length N.length m)) :=
  F.ok S (fun vs H Q E q => spL_len q) fun cdv A outer s H vs Q E hr q => ⟨_, h cdv A outer s H E hr, fnL_body q⟩
end
end Pv
namespace Pv
open PySem PySem.Spec PyProof.Rows L2

theorem _root_.L2.Same.new {H H1 : Hp} {q : Addr} {o : HO} (a : Same H H1) (h : H1 q = none) : Same H (L2.upd H1 q o) := fun c u e => by
  rw [upd_ne (ne_of_none (a c u e) h)]
  exact a c u e
/-! ### new objects -/
def isP : D → Option P
  | .p x => some x
  | .ref _ => none
def toPs : List D → Option (List P)
  | [] => some []
  | .p x :: r => (toPs r).map (x :: ·)
  | .ref _ :: _ => none
@[simp] theorem toPs_map (ps : List P) : toPs (ps.map D.p) = some ps := by
  induction ps with
  | nil => rfl
  | cons x r ih => simp [toPs, ih]
theorem toPs_of : ∀ {ds : List D} {ps : List P}, toPs ds = some ps → ds = ps.map D.p
  | [], ps, h => by cases h; rfl
  | .p x :: r, ps, h => by
    unfold toPs at h
    cases e : toPs r with
    | none => rw [e] at h; cases h
    | some qs => rw [e] at h; cases h; rw [List.map_cons, ← toPs_of e]
  | .ref n :: r, ps, h => by cases h
abbrev SH.push (S : SH) (o : Ob) : SH := ⟨S.b, S.os ++ [o]⟩
abbrev SH.put (S : SH) (n : Nat) (o : Ob) : SH := ⟨S.b, S.os.set n o⟩
def newT (ds : List D) (S : SH) : Option (D × SH) := match toPs ds with
  | some ps => if ps.length ≤ sizeLine then some (.p (.tup ps), S) else none
  | none => none
def newL (live : Bool) (ds : List D) (S : SH) : Option (D × SH) := if ds.length ≤ sizeLine then (if live = true then some (.ref S.len, S.push (.lst ds)) else match toPs ds with
  | some ps => some (.p (.lst ps), S)
  | none => none) else none
/-- the items of a list, wherever it stands -/
def asL (d : D) (S : SH) : Option (List D) := match d with
  | .p (.lst ps) => some (ps.map .p)
  | .ref n => match S.os[n]? with | some (.lst ds) => some ds | _ => none
  | _ => none
/-- .. of a list or a tuple -/
def asQ (d : D) (S : SH) : Option (List D) := match d with
  | .p (.lst ps) => some (ps.map .p)
  | .p (.tup ps) => some (ps.map .p)
  | .ref n => match S.os[n]? with | some (.lst ds) => some ds | _ => none
  | _ => none
section
variable {K : PySem.W.Frag} {cl : Nat → Addr} {S S' S1 S2 : SH} {B : List Nat} {F F' F0 F1 F2 H H' H0 H1 H2 : Hp} {φ φ' φ0 φ1 φ2 : Nat → Addr} {Q : VK}
theorem RpA.dra {ps : List P} {vs : List V} (h : RpA K cl F ps vs) : DRA K cl F φ (ps.map D.p) vs := by
  induction ps generalizing vs with
  | nil => cases h; exact .nil
  | cons x r ih => cases h with | cons a b => exact .cons a (ih b)
theorem DRA.rpa {ps : List P} {vs : List V} (h : DRA K cl F φ (ps.map D.p) vs) : RpA K cl F ps vs := by
  induction ps generalizing vs with
  | nil => cases h; exact .nil
  | cons x r ih => cases h with | cons a b => exact .cons a (ih b)
theorem lt_map {ps : List P} {k : Nat} : ∀ d ∈ ps.map D.p, d.lt k := fun d hd => by
  obtain ⟨x, _, rfl⟩ := List.mem_map.mp hd
  trivial
theorem Sim.keep (s : Sim K cl S B F φ H) (k : Same H H') : Sim K cl S B F φ H' := by
  refine ⟨s.le.trans k, fun n o e => ⟨(s.ob n o e).1, ?_⟩, s.inj, s.wf, s.bs, s.bl⟩
  have z := (s.ob n o e).2
  cases q : H (φ n) with
  | none => exact absurd q z.ne0
  | some u => rw [k _ _ q, ← q]; exact z
theorem Sim.none_p (s : Sim K cl S B F φ H) {p : Addr} (hp : H p = none) : F p = none ∧ ∀ n, n < S.len → φ n ≠ p := by
  refine ⟨?_, fun n h e => s.ne0 h (by rw [e]; exact hp)⟩
  cases q : F p with
  | none => rfl
  | some u => rw [s.le _ _ q] at hp; cases hp
theorem Ext.ofSame (s : Sim K cl S B F φ H) (k : Same H H') : Ext S F φ H S F φ H' :=
  ⟨Same.refl _, Nat.le_refl _, rfl, fun _ _ => rfl, fun n h1 h2 => absurd h1 (Nat.not_le_of_lt h2), fun a o e _ => k a o e, fun n h => (s.keep k).ne0 h, fun _ _ _ h _ => h⟩
/-- a new object that is data -/
theorem Sim.frz (s : Sim K cl S B F φ H) (k : Same H H') {p : Addr} {o : HO} (hp : H p = none) (ho : H' p = some o) : Sim K cl S B (upd F p o) φ H' ∧ Ext S F φ H S (upd F p o) φ H' := by
  obtain ⟨fp, np⟩ := s.none_p hp
  have sf : Same F (upd F p o) := fun a u e => by rw [upd_ne (ne_of_none e fp)]; exact e
  have s1 := s.keep k
  refine ⟨⟨fun a u e => ?_, fun n u e => ⟨?_, OR.mono sf (fun _ _ => rfl) (s1.wf n u e) (s1.ob n u e).2⟩, s1.inj, s1.wf, s1.bs, s1.bl⟩, ⟨sf, Nat.le_refl _, rfl, fun _ _ => rfl, fun n h1 h2 => absurd h1 (Nat.not_le_of_lt h2), fun a u e _ => k a u e, fun n h => s1.ne0 h, fun a u e f _ => ?_⟩⟩
  · by_cases h : a = p
    · subst h; rw [upd_same] at e; rw [ho, e]
    · rw [upd_ne h] at e; exact s1.le a u e
  · rw [upd_ne (np n (List.getElem?_eq_some_iff.mp e).1)]; exact (s1.ob n u e).1
  · rw [upd_ne (ne_of_none e hp)]; exact f
/-- a new object that may change -/
theorem Sim.push (s : Sim K cl S B F φ H) (k : Same H H') {p : Addr} {o : Ob} (hp : H p = none) (ho : OR K cl F φ (H' p) o) (hl : o.lt S.len) :
    Sim K cl (S.push o) B F (fun n => if n = S.len then p else φ n) H' ∧ Ext S F φ H (S.push o) F (fun n => if n = S.len then p else φ n) H' := by
  obtain ⟨fp, np⟩ := s.none_p hp
  have s1 := s.keep k
  have hlen : (S.push o).len = S.len + 1 := by show (S.os ++ [o]).length = _; simp
  have ph : ∀ n, n < S.len → (if n = S.len then p else φ n) = φ n := fun n h => if_neg (by omega)
  have get : ∀ (n : Nat) (u : Ob), (S.push o).os[n]? = some u → (n < S.len ∧ S.os[n]? = some u) ∨ (n = S.len ∧ u = o) := fun n u e => by
    have e : (S.os ++ [o])[n]? = some u := e
    by_cases h : n < S.len
    · rw [List.getElem?_append_left h] at e; exact .inl ⟨h, e⟩
    · have hz : S.os.length = S.len := rfl
      rw [List.getElem?_append_right (by omega)] at e
      right
      have h2 : n - S.os.length = 0 := by
        have := (List.getElem?_eq_some_iff.mp e).1
        simp at this; omega
      rw [h2] at e
      simp at e
      exact ⟨by have : S.os.length = S.len := rfl; omega, e.symm⟩
  refine ⟨⟨s1.le, fun n u e => ?_, fun n m h1 h2 e => ?_, fun n u e => ?_, fun b hb => ⟨(s1.bs b hb).1, fun n u e h => ?_⟩, by rw [hlen]; exact Nat.le_succ_of_le s.bl⟩, ⟨Same.refl _, by rw [hlen]; exact Nat.le_succ _, rfl, ph, fun n h1 h2 => ?_, fun a u e _ => k a u e, fun n h => s1.ne0 h, fun _ _ _ h _ => h⟩⟩
  · rcases get n u e with ⟨h, e'⟩ | ⟨h, e'⟩
    · rw [ph n h]; exact ⟨(s1.ob n u e').1, OR.mono (Same.refl _) ph (s1.wf n u e') (s1.ob n u e').2⟩
    · subst h; subst e'; rw [if_pos rfl]; exact ⟨fp, OR.mono (Same.refl _) ph hl ho⟩
  · rw [hlen] at h1 h2
    by_cases a : n = S.len
    · by_cases b : m = S.len
      · omega
      · rw [if_pos a, if_neg b] at e
        exact absurd e.symm (np m (by omega))
    · by_cases b : m = S.len
      · rw [if_neg a, if_pos b] at e
        exact absurd e (np n (by omega))
      · rw [if_neg a, if_neg b] at e
        exact s1.inj n m (by omega) (by omega) e
  · rw [hlen]
    rcases get n u e with ⟨h, e'⟩ | ⟨h, e'⟩
    · exact fun d hd => (s1.wf n u e' d hd).mono (Nat.le_succ _)
    · subst e'; exact fun d hd => (hl d hd).mono (Nat.le_succ _)
  · rcases get n u e with ⟨h1, e'⟩ | ⟨h1, e'⟩
    · exact (s1.bs b hb).2 n u e' h
    · have := (s1.bs b hb).1; have := s.bl; omega
  · rw [hlen] at h2
    have e : n = S.len := by omega
    rw [if_pos e]; exact hp
/-- an object that may change is changed -/
theorem Sim.put (s : Sim K cl S B F φ H) {n : Nat} {o : Ob} {x : HO} (hn : n < S.len) (ho : OR K cl F φ (some x) o) (hl : o.lt S.len) (hb : S.b ≤ n ∨ ∀ k, o.lt k) :
    Sim K cl (S.put n o) B F φ (upd H (φ n) x) ∧ Ext S F φ H (S.put n o) F φ (upd H (φ n) x) := by
  have hlen : (S.put n o).len = S.len := by show (S.os.set n o).length = _; simp
  have fn := (s.ob n _ (List.getElem?_eq_getElem hn)).1
  have get : ∀ (m : Nat) (u : Ob), (S.put n o).os[m]? = some u → (m ≠ n ∧ S.os[m]? = some u) ∨ (m = n ∧ u = o) := fun m u e => by
    have e : (S.os.set n o)[m]? = some u := e
    by_cases h : n = m
    · subst h
      rw [List.getElem?_set_self hn] at e
      cases e
      exact .inr ⟨rfl, rfl⟩
    · rw [List.getElem?_set_ne h] at e; exact .inl ⟨Ne.symm h, e⟩
  have ne : ∀ m, m < S.len → m ≠ n → φ m ≠ φ n := fun m hm h e => h (s.inj m n hm hn e)
  have all : Sim K cl (S.put n o) B F φ (upd H (φ n) x) := by
    refine ⟨fun a u e => ?_, fun m u e => ?_, fun a b h1 h2 => ?_, fun m u e => ?_, fun b hb' => ⟨(s.bs b hb').1, fun m u e h => ?_⟩, by rw [hlen]; exact s.bl⟩
    · rw [upd_ne (ne_of_none e fn)]; exact s.le a u e
    · rcases get m u e with ⟨h, e⟩ | ⟨rfl, rfl⟩
      · rw [upd_ne (ne m (List.getElem?_eq_some_iff.mp e).1 h)]; exact s.ob m u e
      · rw [upd_same]; exact ⟨fn, ho⟩
    · exact s.inj a b (by omega) (by omega)
    · rw [hlen]
      rcases get m u e with ⟨h, e⟩ | ⟨rfl, rfl⟩
      · exact s.wf m u e
      · exact hl
    · rcases get m u e with ⟨h1, e⟩ | ⟨rfl, rfl⟩
      · exact (s.bs b hb').2 m u e h
      · rcases hb with hb | hb
        · have := (s.bs b hb').1; omega
        · exact hb b
  refine ⟨all, ⟨Same.refl _, Nat.le_of_eq hlen.symm, rfl, fun _ _ => rfl, fun m h1 h2 => by omega, fun a u e h => ?_, fun m hm => all.ne0 (by omega), fun _ _ _ h _ => h⟩⟩
  rw [upd_ne (fun z => h n hn z.symm)]; exact e
theorem newT_ok {ds : List D} {vs : List V} (h : OkE K cl S B F φ H (newT ds S) Q) (s : Sim K cl S B F φ H) (r : DRA K cl F φ ds vs) : vs.length ≤ sizeLine ∧ ∀ p, H p = none → Q (.ref p) (upd H p (.tup vs)) := by
  unfold newT at h
  cases e : toPs ds with
  | none => rw [e] at h; obtain ⟨_, _, z, _⟩ := h; cases z
  | some ps =>
    rw [e] at h
    have ed := toPs_of e
    subst ed
    have hlen := r.length
    rw [List.length_map] at hlen
    dsimp only at h
    by_cases hz : ps.length ≤ sizeLine
    · rw [if_pos hz] at h
      refine ⟨by rw [← hlen]; exact hz, fun p hp => ?_⟩
      obtain ⟨s1, x1⟩ := s.frz (H' := upd H p (.tup vs)) (Same.new (Same.refl H) hp) hp upd_same
      exact h.fin rfl s1 x1 (Rp.tup (.inl (.inl upd_same)) (RpA.mono x1.fz r.rpa)) trivial
    · rw [if_neg hz] at h; obtain ⟨_, _, z, _⟩ := h; cases z
theorem newL_ok {live : Bool} {ds : List D} {vs : List V} (h : OkE K cl S B F φ H (newL live ds S) Q) (s : Sim K cl S B F φ H) (r : DRA K cl F φ ds vs) (l : ∀ d ∈ ds, d.lt S.len) : vs.length ≤ sizeLine ∧ ∀ p H', H p = none → Same H H' → H' p = some (.lst vs) → Q (.ref p) H' := by
  unfold newL at h
  have hlen := r.length
  by_cases hz : ds.length ≤ sizeLine
  · rw [if_pos hz] at h
    refine ⟨by rw [← hlen]; exact hz, fun p H' hp sm hv => ?_⟩
    cases live with
    | true =>
      rw [if_pos rfl] at h
      obtain ⟨s1, x1⟩ := s.push (H' := H') sm (o := .lst ds) hp ⟨vs, hv, r⟩ l
      exact h.fin rfl s1 x1 (show V.ref p = V.ref (if S.len = S.len then p else φ S.len) by rw [if_pos rfl]) (show S.len < (S.os ++ [Ob.lst ds]).length by simp)
    | false =>
      rw [if_neg Bool.false_ne_true] at h
      cases e : toPs ds with
      | none => rw [e] at h; obtain ⟨_, _, z, _⟩ := h; cases z
      | some ps =>
        rw [e] at h
        have ed := toPs_of e
        subst ed
        obtain ⟨s1, x1⟩ := s.frz (H' := H') sm hp hv
        exact h.fin rfl s1 x1 (Rp.lst (.inl (.inl upd_same)) (RpA.mono x1.fz r.rpa)) trivial
  · rw [if_neg hz] at h; obtain ⟨_, _, z, _⟩ := h; cases z
theorem newL_ok1 {live : Bool} {ds : List D} {vs : List V} (h : OkE K cl S B F φ H (newL live ds S) Q) (s : Sim K cl S B F φ H) (r : DRA K cl F φ ds vs) (l : ∀ d ∈ ds, d.lt S.len) : vs.length ≤ sizeLine ∧ ∀ p, H p = none → Q (.ref p) (upd H p (.lst vs)) := by
  obtain ⟨a, b⟩ := newL_ok h s r l
  exact ⟨a, fun p hp => b p _ hp (Same.new (Same.refl H) hp) upd_same⟩
/-- a list's items are there -/
theorem asL_ok (s : Sim K cl S B F φ H) {d : D} {ds : List D} {v : V} (e : asL d S = some ds) (r : DR K cl F φ d v) (l : d.lt S.len) : ∃ a vs, v = .ref a ∧ SqL K H a vs ∧ DRA K cl F φ ds vs ∧ ∀ x ∈ ds, x.lt S.len := by
  cases d with
  | p x =>
    cases x <;> try (cases e; done)
    rename_i ps
    cases e
    cases (show Rp K cl F (.lst ps) v from r) with
    | lst q t => exact ⟨_, _, rfl, SqL.mono s.le q, t.dra, lt_map⟩
  | ref n =>
    unfold asL at e
    dsimp only at e
    cases q : S.os[n]? with
    | none => rw [q] at e; cases e
    | some o =>
      rw [q] at e
      cases o <;> try (cases e; done)
      rename_i ds'
      cases e
      obtain ⟨vs, ev, rv⟩ := (s.ob n _ q).2
      exact ⟨_, vs, r, .inl (.inl ev), rv, s.wf n _ q⟩
theorem asQ_ok (s : Sim K cl S B F φ H) {d : D} {ds : List D} {v : V} (e : asQ d S = some ds) (r : DR K cl F φ d v) (l : d.lt S.len) : ∃ a vs, v = .ref a ∧ (SqL K H a vs ∨ SqT K H a vs) ∧ DRA K cl F φ ds vs ∧ ∀ x ∈ ds, x.lt S.len := by
  cases d with
  | p x =>
    cases x <;> try (cases e; done)
    · rename_i ps
      cases e
      cases (show Rp K cl F (.tup ps) v from r) with
      | tup q t => exact ⟨_, _, rfl, .inr (SqT.mono s.le q), t.dra, lt_map⟩
    · rename_i ps
      cases e
      cases (show Rp K cl F (.lst ps) v from r) with
      | lst q t => exact ⟨_, _, rfl, .inl (SqL.mono s.le q), t.dra, lt_map⟩
  | ref n =>
    obtain ⟨a, vs, h1, h2, h3⟩ := asL_ok s (d := .ref n) e r l
    exact ⟨a, vs, h1, .inl h2, h3⟩
end

/-! ### displays, calls -/
def dTup (m : MA) : ME := fun σ S => bnd (m σ S) fun ds S1 => newT ds S1
def dLst (live : Bool) (m : MA) : ME := fun σ S => bnd (m σ S) fun ds S1 => newL live ds S1
def fldsOf (d : D) (S : SH) : Option (Nat × List (Str × D)) := match d with
  | .p (.ins c fs) => some (c, fs.map fun p => (p.1, .p p.2))
  | .ref n => match S.os[n]? with | some (.ins c fs) => some (c, fs) | _ => none
  | _ => none
def dFld (cs : List Nat) (f : Str) (d : D) (S : SH) : Option (D × SH) := match fldsOf d S with
  | some (c, fs) => if cs.contains c = true then (match fs.lookup f with | some x => some (x, S) | none => none) else none
  | none => none
def dMeth (c : Nat) (nm : Str) (f : MF) (o : ME) (a : MA) : ME := fun σ S => bnd (o σ S) fun d S1 => match fldsOf d S1 with
  | some (c', fs) => if c' = c ∧ fs.lookup nm = none then bnd (a σ S1) fun xs S2 => f (d :: xs) S2 else none
  | none => none
/-- C(..) -/
def dMake (live : Bool) (c : Nat) (init : MF) (a : MA) : ME := fun σ S => bnd (a σ S) fun xs S1 =>
  if live = true then bnd (init (.ref S1.len :: xs) (S1.push (.ins c []))) fun d S2 => match d with | .p .non => some (.ref S1.len, S2) | _ => none
  else bnd (init (.ref S1.len :: xs) ⟨S1.len, S1.os ++ [.ins c []]⟩) fun d S2 => match d with
    | .p .non => match outD S1.len S2 (.ref S1.len) with | some d' => some (d', cutS S1 S2) | none => none
    | _ => none
/-- o.f = v -/
def putFD (f : Str) (v : D) : List (Str × D) → List (Str × D)
  | [] => [(f, v)]
  | (g, x) :: r => if g = f then (g, v) :: r else (g, x) :: putFD f v r
def okRef (S : SH) (n : Nat) : D → Bool
  | .p _ => true
  | .ref _ => decide (S.b ≤ n)
@[simp] theorem okRef_p (S : SH) (n : Nat) (x : P) : okRef S n (.p x) = true := id rfl
def setFld (cs : List Nat) (f : Str) (o v : D) (S : SH) : Option SH := match o with
  | .ref n => match S.os[n]? with
    | some (.ins c fs) => if cs.contains c = true ∧ fs.length < 1000 ∧ okRef S n v = true then some (S.put n (.ins c (putFD f v fs))) else none
    | _ => none
  | _ => none
def dSetF (cs : List Nat) (f : Str) (o v : ME) : MS := fun σ S => bnd (v σ S) fun y S1 => bnd (o σ S1) fun x S2 => match setFld cs f x y S2 with | some S3 => some (.nx σ, S3) | none => none

section
variable {X : Cx} {cl : Nat → Addr} {es : List Expr} {e o value : Expr} {pos pos' : Pos} {mr : MA} {me mo mv : ME}
theorem k_tup {x1} (h : PA X es (LA X.K cl mr)) : PE X (.Tuple es x1 pos) (LE X.K cl (dTup mr)) := by
  refine (pe_tup h).imp fun σ H Q q => ?_
  obtain ⟨σd, S, B, F, φ, s, rs, o⟩ := q
  obtain ⟨ds, S1, e, o⟩ := okE_bnd o
  exact LA.then_ s rs e fun F1 φ1 H1 vs s1 x1 rs1 dr l => newT_ok (o.ext x1) s1 dr
theorem k_lst {live : Bool} (h : PA X es (LA X.K cl mr)) : PE X (.List es pos) (LE X.K cl (dLst live mr)) := by
  refine (pe_lst h).imp fun σ H Q q => ?_
  obtain ⟨σd, S, B, F, φ, s, rs, o⟩ := q
  obtain ⟨ds, S1, e, o⟩ := okE_bnd o
  exact LA.then_ s rs e fun F1 φ1 H1 vs s1 x1 rs1 dr l => newL_ok1 (o.ext x1) s1 dr l
theorem lookup_drk {K : PySem.W.Frag} {F : Hp} {φ : Nat → Addr} {f : Str} : ∀ {fs : List (Str × D)} {gs : List (Str × V)}, DRK K cl F φ fs gs → (fs.lookup f = none → gs.lookup f = none) ∧ ∀ x, fs.lookup f = some x → ∃ v, gs.lookup f = some v ∧ DR K cl F φ x v
  | _, _, .nil => ⟨fun _ => rfl, fun x h => by cases h⟩
  | (k, x) :: fs, (k', v) :: gs, .cons r t => by
    obtain ⟨rfl, r⟩ := r
    obtain ⟨i1, i2⟩ := lookup_drk (f := f) t
    rw [List.lookup_cons, List.lookup_cons]
    cases hk : f == k with
    | true => exact ⟨fun z => by simp at z, fun y hy => by simp at hy; subst hy; exact ⟨v, by simp, r⟩⟩
    | false => exact ⟨fun z => by simpa using i1 (by simpa using z), fun y hy => by simpa using i2 y (by simpa using hy)⟩
theorem RpF.drk {K : PySem.W.Frag} {F : Hp} {φ : Nat → Addr} : ∀ {fs : List (Str × P)} {gs : List (Str × V)}, RpF K cl F fs gs → DRK K cl F φ (fs.map fun p => (p.1, D.p p.2)) gs
  | _, _, .nil => .nil
  | _, _, .cons a b => .cons ⟨rfl, a⟩ (RpF.drk b)
theorem flds_ok {K : PySem.W.Frag} {S : SH} {B : List Nat} {F : Hp} {φ : Nat → Addr} {H : Hp} (s : Sim K cl S B F φ H) {d : D} {c : Nat} {fs : List (Str × D)} {v : V} (e : fldsOf d S = some (c, fs)) (r : DR K cl F φ d v) : ∃ a dx gs, v = .ref a ∧ H a = some (.ins (cl c) dx gs) ∧ DRK K cl F φ fs gs ∧ ∀ x ∈ fs.map (·.2), x.lt S.len := by
  cases d with
  | p x =>
    cases x <;> try (cases e; done)
    rename_i c' fs'
    cases e
    cases (show Rp K cl F (.ins c fs') v from r) with
    | ins q t => exact ⟨_, _, _, rfl, s.le _ _ q, t.drk, fun x hx => by
        obtain ⟨p, hp, rfl⟩ := List.mem_map.mp hx
        obtain ⟨p', hp', rfl⟩ := List.mem_map.mp hp
        trivial⟩
  | ref n =>
    unfold fldsOf at e
    dsimp only at e
    cases q : S.os[n]? with
    | none => rw [q] at e; cases e
    | some o =>
      rw [q] at e
      cases o <;> try (cases e; done)
      rename_i c' fs'
      cases e
      obtain ⟨dx, gs, ev, rv⟩ := (s.ob n _ q).2
      exact ⟨_, dx, gs, r, ev, rv, s.wf n _ q⟩
theorem k_fld {f : Str} {cs : List Nat} (hc : ∀ c ∈ cs, Cls X.K (cl c) ∧ NoAttr X.K (cl c) f) (he : PE X e (LE X.K cl me)) (hb : attributeBase e f X.env (eval e X.env) = eval e X.env := by rfl) : PE X (.Attribute e f pos) (LE X.K cl (dUn (dFld cs f) me)) := by
  refine (pe_fld he hb).imp fun σ H Q q => ?_
  obtain ⟨σd, S, B, F, φ, s, rs, o⟩ := q
  obtain ⟨d, S1, e, o⟩ := okE_bnd o
  refine LE.then_ s rs e fun F1 φ1 H1 x s1 x1 rs1 dr l => ?_
  have o := o.ext x1
  unfold dFld at o
  cases e1 : fldsOf d S1 with
  | none => rw [e1] at o; obtain ⟨_, _, z, _⟩ := o; cases z
  | some p =>
    obtain ⟨c, fs⟩ := p
    rw [e1] at o
    obtain ⟨a, dx, gs, rfl, ha, rf, lf⟩ := flds_ok s1 e1 dr
    dsimp only at o
    by_cases hm : cs.contains c = true
    · rw [if_pos hm] at o
      cases e2 : fs.lookup f with
      | none => rw [e2] at o; obtain ⟨_, _, z, _⟩ := o; cases z
      | some y =>
        rw [e2] at o
        obtain ⟨v, hv, rv⟩ := (lookup_drk rf).2 y e2
        obtain ⟨h1, h2⟩ := hc c (by simpa using hm)
        exact ⟨a, cl c, dx, gs, v, rfl, ha, h1, h2, hv, o.fin0 rfl s1 rv (lf y (by
          exact List.mem_map.mpr ⟨_, PySem.mem_of_lookup e2, rfl⟩))⟩
    · rw [if_neg hm] at o; obtain ⟨_, _, z, _⟩ := o; cases z
end
section
variable {K : PySem.W.Frag} {cl : Nat → Addr} {S S' S1 S2 : SH} {B : List Nat} {F F' F1 F2 H H' H1 H2 : Hp} {φ φ' φ1 φ2 : Nat → Addr}
theorem okRef_b {n : Nat} {d : D} (h : okRef S n d = true) : S.b ≤ n ∨ ∀ k, d.lt k := by
  cases d with
  | p x => exact .inr fun _ => trivial
  | ref m => exact .inl (of_decide_eq_true h)
/-- the object at n may hold what o holds: what it held, data, or places where it is of this def -/
theorem putGen {n : Nat} {o : Ob} {x : HO} {u0 : Ob} (s : Sim K cl S B F φ H) (q : S.os[n]? = some u0) (he : ∀ y ∈ o.ds, (∀ k, y.lt k) ∨ y ∈ u0.ds ∨ (S.b ≤ n ∧ y.lt S.len)) (ho : OR K cl F φ (some x) o) :
    Sim K cl (S.put n o) B F φ (upd H (φ n) x) ∧ Ext S F φ H (S.put n o) F φ (upd H (φ n) x) := by
  have hn : n < S.len := (List.getElem?_eq_some_iff.mp q).1
  have wf := s.wf n _ q
  have lt1 : o.lt S.len := fun y hy => by
    rcases he y hy with h | h | h
    · exact h _
    · exact wf y h
    · exact h.2
  have hlen : (S.put n o).len = S.len := by show (S.os.set n o).length = _; simp
  have fn := (s.ob n _ q).1
  have get : ∀ (m : Nat) (u : Ob), (S.put n o).os[m]? = some u → (m ≠ n ∧ S.os[m]? = some u) ∨ (m = n ∧ u = o) := fun m u e => by
    have e : (S.os.set n o)[m]? = some u := e
    by_cases h : n = m
    · subst h
      rw [List.getElem?_set_self hn] at e
      cases e
      exact .inr ⟨rfl, rfl⟩
    · rw [List.getElem?_set_ne h] at e; exact .inl ⟨Ne.symm h, e⟩
  have ne : ∀ m, m < S.len → m ≠ n → φ m ≠ φ n := fun m hm h e => h (s.inj m n hm hn e)
  have all : Sim K cl (S.put n o) B F φ (upd H (φ n) x) := by
    refine ⟨fun a u e => ?_, fun m u e => ?_, fun a b h1 h2 => ?_, fun m u e => ?_, fun b hb' => ⟨(s.bs b hb').1, fun m u e h' => ?_⟩, by rw [hlen]; exact s.bl⟩
    · rw [upd_ne (ne_of_none e fn)]; exact s.le a u e
    · rcases get m u e with ⟨h, e⟩ | ⟨rfl, rfl⟩
      · rw [upd_ne (ne m (List.getElem?_eq_some_iff.mp e).1 h)]; exact s.ob m u e
      · rw [upd_same]; exact ⟨fn, ho⟩
    · exact s.inj a b (by omega) (by omega)
    · rw [hlen]
      rcases get m u e with ⟨h, e⟩ | ⟨rfl, rfl⟩
      · exact s.wf m u e
      · exact lt1
    · rcases get m u e with ⟨h1, e⟩ | ⟨rfl, rfl⟩
      · exact (s.bs b hb').2 m u e h'
      · intro y hy
        rcases he y hy with h | h | h
        · exact h b
        · exact (s.bs b hb').2 m _ q h' y h
        · have := (s.bs b hb').1; omega
  refine ⟨all, ⟨Same.refl _, Nat.le_of_eq hlen.symm, rfl, fun _ _ => rfl, fun m h1 h2 => by omega, fun a u e h => ?_, fun m hm => all.ne0 (by omega), fun _ _ _ h _ => h⟩⟩
  rw [upd_ne (fun z => h n hn z.symm)]; exact e
end
end Pv
namespace Pv
open PySem PySem.Spec PyProof.Rows L2

section
variable {X : Cx} {cl : Nat → Addr} {CX : CXT} {es : List Expr} {e o value : Expr} {pos pos' p apos : Pos} {mr : MA} {me mo mv : ME} {k : Nat} {f C : Addr} {fd : FuncData} {ps : List Str} {m : MF} {E : XK} {x nm : Str}
theorem k_call (F : FnOk X.prog X.w X.K X.mg X.base CX k f fd ps (spOf X.K cl m)) (hr : Room k X.A) (hg : Gl X x) (hm : X.mg x = some (.ref f)) (hk : PySem.W.keepIn X.K (.ref f) = true) (hb : Binds X.K fd ps []) (hx : Passes CX X E)
    (ha : PA X (e :: es) (LA X.K cl mr)) (hdb : (x == ("__debug__" : Str)) = false := by decide) (he : starEach (e :: es) X.env = (false, eval e X.env) :: starEach es X.env := by rfl) (hpl : (backTo pos (starEach es X.env)).any (·.1) = false := by rfl) :
    PE X (.Call (.Name x p) (e :: es) [] pos) (LE X.K cl (dCall m mr)) := by
  refine (pe_call F hr hg hm hk hb .nil hx ha hdb he hpl).imp fun σ H Q q => ?_
  refine e_call (r := fun vs H1 Q => spOf X.K cl m (vs ++ []) H1 Q E) (fun S B F φ H ds xs Q s dr l o => ?_) q
  show spOf X.K cl m (xs ++ []) H Q E
  rw [List.append_nil]
  exact ⟨ds, S, B, F, φ, s, dr, l, o⟩
theorem k_call0 (F : FnOk X.prog X.w X.K X.mg X.base CX k f fd ps (spOf X.K cl m)) (hr : Room k X.A) (hg : Gl X x) (hm : X.mg x = some (.ref f)) (hk : PySem.W.keepIn X.K (.ref f) = true) (hb : Binds X.K fd ps []) (hx : Passes CX X E)
    (hdb : (x == ("__debug__" : Str)) = false := by decide) : PE X (.Call (.Name x p) [] [] pos) (LE X.K cl (dCall m dNil)) := by
  refine (pe_call0 F hr hg hm hk hb .nil hx hdb).imp fun σ H Q q => ?_
  obtain ⟨σd, S, B, F, φ, s, rs, o⟩ := q
  exact ⟨[], S, B, F, φ, s, .nil, fun _ z => absurd z (by simp), o⟩
theorem e_meth {c : Nat} {σ : L2.St} {H : Hp} {Q : VK} (hx : C = cl c) (q : LE X.K cl (dMeth c nm m mo mr) σ H Q) : tMeth C nm (spOf X.K cl m) [] E (LE X.K cl mo) (LA X.K cl mr) σ H Q := by
  obtain ⟨σd, S, B, F, φ, s, rs, o⟩ := q
  obtain ⟨d, S1, e, o⟩ := okE_bnd o
  refine LE.then_ s rs e fun F1 φ1 H1 x s1 x1 rs1 dr1 l1 => ?_
  cases e1 : fldsOf d S1 with
  | none => rw [e1] at o; obtain ⟨_, _, z, _⟩ := o; cases z
  | some p =>
    obtain ⟨c', fs⟩ := p
    rw [e1] at o
    obtain ⟨a, dx, gs, rfl, ha, rf, lf⟩ := flds_ok s1 e1 dr1
    dsimp only at o
    by_cases hc : c' = c ∧ fs.lookup nm = none
    · rw [if_pos hc] at o
      obtain ⟨hc1, hn⟩ := hc
      obtain ⟨xs, S2, em, o2⟩ := okE_bnd o
      refine ⟨a, dx, gs, rfl, by rw [hx, ← hc1]; exact ha, (lookup_drk rf).1 hn, ?_⟩
      refine LA.then_ s1 rs1 em fun F2 φ2 H2 vs s2 x2 rs2 dr2 l2 => ?_
      rw [List.append_nil]
      refine ⟨d :: xs, S2, B, F2, φ2, s2, .cons (x2.dr l1 dr1) dr2, fun y hy => ?_, o2.ext (x1.trans x2)⟩
      rcases List.mem_cons.mp hy with rfl | hy
      · exact x2.lt l1
      · exact l2 y hy
    · rw [if_neg hc] at o; obtain ⟨_, _, z, _⟩ := o; cases z
theorem k_meth {c : Nat} {pl : Sem Bool} (he : PE X o (LE X.K cl mo)) (cc : Cls X.K C) (hm : Meth X.K C nm f) (F : FnOk X.prog X.w X.K X.mg X.base CX k f fd ps (spOf X.K cl m)) (hr : Room k X.A) (hb : Binds X.K fd ps []) (hx : Passes CX X E) (ha : PA X (e :: es) (LA X.K cl mr)) (hcl : C = cl c := by rfl)
    (hst : starEach (e :: es) X.env = (false, eval e X.env) :: starEach es X.env := by rfl) (hpl : (backTo pos (starEach es X.env)).any (·.1) = false := by rfl)
    (ht : eval (.Call (.Attribute o nm apos) (e :: es) [] pos) X.env = (do
      let ov ← eval o X.env
      standAt apos.atName
      let (f, first) ← holding [ov] (getMethod ov nm pl)
      callWith pos f first (backTo pos (starEach (e :: es) X.env)) (backToKw pos (keywordEach [] X.env))) := by rfl) :
    PE X (.Call (.Attribute o nm apos) (e :: es) [] pos) (LE X.K cl (dMeth c nm m mo mr)) :=
  (pe_meth (pl := pl) he cc hm F hr hb .nil hx ha hst hpl ht).imp fun _ _ _ q => e_meth hcl q
theorem k_meth0 {c : Nat} {pl : Sem Bool} (he : PE X o (LE X.K cl mo)) (cc : Cls X.K C) (hm : Meth X.K C nm f) (F : FnOk X.prog X.w X.K X.mg X.base CX k f fd ps (spOf X.K cl m)) (hr : Room k X.A) (hb : Binds X.K fd ps []) (hx : Passes CX X E) (hcl : C = cl c := by rfl)
    (ht : eval (.Call (.Attribute o nm apos) [] [] pos) X.env = (do
      let ov ← eval o X.env
      standAt apos.atName
      let (f, first) ← holding [ov] (getMethod ov nm pl)
      callWith pos f first (backTo pos (starEach [] X.env)) (backToKw pos (keywordEach [] X.env))) := by rfl) :
    PE X (.Call (.Attribute o nm apos) [] [] pos) (LE X.K cl (dMeth c nm m mo dNil)) := by
  refine (pe_meth0 (pl := pl) he cc hm F hr hb .nil hx ht).imp fun σ H Q q => ?_
  have z := e_meth (E := E) hcl q
  unfold tMeth at z ⊢
  obtain ⟨σd, S, B, F, φ, s, rs, d, S1, e, k⟩ := z
  refine ⟨σd, S, B, F, φ, s, rs, d, S1, e, fun F1 φ1 H1 u s1 x1 dr l => ?_⟩
  obtain ⟨a, dx, fs, h1, h2, h3, h4⟩ := k F1 φ1 H1 u s1 x1 dr l
  refine ⟨a, dx, fs, h1, h2, h3, ?_⟩
  obtain ⟨σd', S', B', F', φ', s', rs', d', S1', e', k'⟩ := h4
  cases e'
  exact k' F' φ' H1 [] s' (.refl s') .nil fun _ z => absurd z (by simp)
theorem e_make {live : Bool} {c : Nat} {σ : L2.St} {H : Hp} {Q : VK} (hx : C = cl c) (q : LE X.K cl (dMake live c m mr) σ H Q) : tMake C (spOf X.K cl m) [] E (LA X.K cl mr) σ H Q := by
  obtain ⟨σd, S, B, F, φ, s, rs, o⟩ := q
  obtain ⟨ds, S1, e, o⟩ := okE_bnd o
  refine LA.then_ s rs e fun F1 φ1 H1 vs s1 x1 rs1 dr l => ?_
  intro a dx na ndx nad
  rw [List.append_nil]
  have o := o.ext x1
  have sm : Same H1 (upd (upd H1 dx (.own a)) a (.ins C dx [])) := Same.new (Same.new (Same.refl _) ndx) (by rw [upd_ne (Ne.symm nad)]; exact na)
  have none_lt : (Ob.ins c []).lt S1.len := fun d hd => by simp [Ob.ds] at hd
  have hor : OR X.K cl F1 φ1 (upd (upd H1 dx (.own a)) a (.ins C dx []) a) (.ins c []) := ⟨dx, [], by rw [upd_same, hx], .nil⟩
  cases live with
  | true =>
    rw [if_pos rfl] at o
    obtain ⟨s2, x2⟩ := s1.push sm na hor none_lt
    obtain ⟨d, S2, e2, o⟩ := okE_bnd o
    refine ⟨.ref S1.len :: ds, _, B, F1, _, s2, .cons (show V.ref a = V.ref (if S1.len = S1.len then a else φ1 S1.len) by rw [if_pos rfl]) (x2.dra l dr), fun d hd => ?_, ⟨d, S2, e2, fun F3 φ3 H3 u s3 x3 dr3 l3 => ?_⟩⟩
    · rcases List.mem_cons.mp hd with rfl | hd
      · show S1.len < (S1.os ++ [_]).length
        simp
      · exact (l d hd).mono x2.len
    · cases d with
      | ref n => obtain ⟨_, _, z, _⟩ := o; cases z
      | p y =>
        cases y <;> first | (obtain ⟨_, _, z, _⟩ := o; cases z; done) | skip
        cases (show Rp X.K cl F3 .non u from dr3)
        refine ⟨rfl, o.fin rfl s3 (x2.trans x3) ?_ (Nat.lt_of_lt_of_le (show S1.len < (S1.os ++ [_]).length by simp) x3.len)⟩
        show V.ref a = V.ref (φ3 S1.len)
        rw [x3.phi S1.len (show S1.len < (S1.os ++ [_]).length by simp)]
        show V.ref a = V.ref (if S1.len = S1.len then a else φ1 S1.len)
        rw [if_pos rfl]
  | false =>
    rw [if_neg Bool.false_ne_true] at o
    obtain ⟨s2, x2⟩ := s1.begin.push sm na hor none_lt
    obtain ⟨d, S2, e2, o⟩ := okE_bnd o
    refine ⟨.ref S1.len :: ds, _, S1.len :: B, F1, _, s2, .cons (show V.ref a = V.ref (if S1.len = S1.len then a else φ1 S1.len) by rw [if_pos rfl]) (x2.dra l dr), fun d hd => ?_, ⟨d, S2, e2, fun F3 φ3 H3 u s3 x3 dr3 l3 => ?_⟩⟩
    · rcases List.mem_cons.mp hd with rfl | hd
      · show S1.len < (S1.os ++ [_]).length
        simp
      · exact (l d hd).mono x2.len
    · cases d with
      | ref n => obtain ⟨_, _, z, _⟩ := o; cases z
      | p y =>
        cases y <;> first | (obtain ⟨_, _, z, _⟩ := o; cases z; done) | skip
        cases (show Rp X.K cl F3 .non u from dr3)
        refine ⟨rfl, ?_⟩
        dsimp only at o
        cases ed : outD S1.len S2 (.ref S1.len) with
        | none => rw [ed] at o; obtain ⟨_, _, z, _⟩ := o; cases z
        | some d' =>
          rw [ed] at o
          have x4 := x2.trans x3
          have hl : S1.len < S2.len := Nat.lt_of_lt_of_le (show S1.len < (S1.os ++ [_]).length by simp) x3.len
          obtain ⟨h1, h2⟩ := outD_ok (S := S1) s3 x4.len (v := .ref (φ3 S1.len)) ed rfl hl
          have ea : φ3 S1.len = a := by
            rw [x3.phi S1.len (show S1.len < (S1.os ++ [_]).length by simp)]
            exact if_pos rfl
          rw [ea] at h1
          exact o.fin rfl (Sim.end_ s1 s3 x4.len) (Ext.end_ s3 x4) h1 h2
theorem k_make {live : Bool} {c : Nat} (M : Mk X.K C f) (F : FnOk X.prog X.w X.K X.mg X.base CX k f fd ps (spOf X.K cl m)) (hr : Room (k + 1) X.A) (hg : Gl X x) (hm : X.mg x = some (.ref C)) (hb : Binds X.K fd ps []) (hx : Passes CX X E)
    (ha : PA X (e :: es) (LA X.K cl mr)) (hcl : C = cl c := by rfl) (hdb : (x == ("__debug__" : Str)) = false := by decide) (he : starEach (e :: es) X.env = (false, eval e X.env) :: starEach es X.env := by rfl) (hpl : (backTo pos (starEach es X.env)).any (·.1) = false := by rfl) :
    PE X (.Call (.Name x p) (e :: es) [] pos) (LE X.K cl (dMake live c m mr)) :=
  (pe_make M F hr hg hm hb .nil hx ha hdb he hpl).imp fun _ _ _ q => e_make hcl q
theorem k_make0 {live : Bool} {c : Nat} (M : Mk X.K C f) (F : FnOk X.prog X.w X.K X.mg X.base CX k f fd ps (spOf X.K cl m)) (hr : Room (k + 1) X.A) (hg : Gl X x) (hm : X.mg x = some (.ref C)) (hb : Binds X.K fd ps []) (hx : Passes CX X E)
    (hcl : C = cl c := by rfl) (hdb : (x == ("__debug__" : Str)) = false := by decide) :
    PE X (.Call (.Name x p) [] [] pos) (LE X.K cl (dMake live c m dNil)) := by
  refine (pe_make0 M F hr hg hm hb .nil hx hdb).imp fun σ H Q q => ?_
  have z := e_make (E := E) hcl q
  obtain ⟨σd', S', B', F', φ', s', rs', d', S1', e', k'⟩ := z
  cases e'
  exact k' F' φ' H [] s' (.refl s') .nil fun _ z => absurd z (by simp)
theorem putFD_drk {K : PySem.W.Frag} {F : Hp} {φ : Nat → Addr} {f : Str} {d : D} {v : V} (r : DR K cl F φ d v) : ∀ {fs : List (Str × D)} {gs : List (Str × V)}, DRK K cl F φ fs gs → DRK K cl F φ (putFD f d fs) (putF f v gs)
  | _, _, .nil => .cons ⟨rfl, r⟩ .nil
  | (k, x) :: fs, (k', u) :: gs, .cons q t => by
    obtain ⟨rfl, q⟩ := q
    unfold putFD putF
    dsimp only
    by_cases h : k = f
    · rw [if_pos h, if_pos h]; exact .cons ⟨rfl, r⟩ t
    · rw [if_neg h, if_neg h]; exact .cons ⟨rfl, q⟩ (putFD_drk r t)
theorem mem_putFD {f : Str} {d : D} : ∀ {fs : List (Str × D)} {y : D}, y ∈ (putFD f d fs).map (·.2) → y = d ∨ y ∈ fs.map (·.2)
  | [], y, h => by simp [putFD] at h; exact .inl h
  | (k, x) :: r, y, h => by
    unfold putFD at h
    by_cases hk : k = f
    · rw [if_pos hk] at h
      simp only [List.map_cons, List.mem_cons] at h ⊢
      rcases h with h | h
      · exact .inl h
      · exact .inr (.inr h)
    · rw [if_neg hk] at h
      simp only [List.map_cons, List.mem_cons] at h ⊢
      rcases h with h | h
      · exact .inr (.inl h)
      · rcases mem_putFD h with h | h
        · exact .inl h
        · exact .inr (.inr h)
theorem isP_lt {d : D} {k : Nat} (h : (isP d).isSome = true) : d.lt k := by
  cases d with
  | p x => trivial
  | ref n => cases h
theorem DRK.length {K : PySem.W.Frag} {F : Hp} {φ : Nat → Addr} {κ : Type} {fs : List (κ × D)} {gs : List (κ × V)} (h : DRK K cl F φ fs gs) : fs.length = gs.length := Paired.length h
theorem setFld_ok {K : PySem.W.Frag} {cs : List Nat} {f : Str} {d v : D} {S S' : SH} {B : List Nat} {F : Hp} {φ : Nat → Addr} {H : Hp} {x y : V} (e : setFld cs f d v S = some S') (s : Sim K cl S B F φ H) (r : DR K cl F φ d x) (rv : DR K cl F φ v y) (lv : v.lt S.len) :
    ∃ a c dx gs, x = .ref a ∧ H a = some (.ins (cl c) dx gs) ∧ c ∈ cs ∧ gs.length < 1000 ∧ Sim K cl S' B F φ (upd H a (.ins (cl c) dx (putF f y gs))) ∧ Ext S F φ H S' F φ (upd H a (.ins (cl c) dx (putF f y gs))) := by
  cases d with
  | p _ => cases e
  | ref n =>
    unfold setFld at e
    dsimp only at e
    cases q : S.os[n]? with
    | none => rw [q] at e; cases e
    | some ob =>
      rw [q] at e
      cases ob <;> try (cases e; done)
      rename_i c fs
      dsimp only at e
      obtain ⟨dx, gs, ev, rf⟩ := (s.ob n _ q).2
      have hn : n < S.len := (List.getElem?_eq_some_iff.mp q).1
      have hl := rf.length
      have hor : OR K cl F φ (some (.ins (cl c) dx (putF f y gs))) (.ins c (putFD f v fs)) := ⟨dx, _, rfl, putFD_drk rv rf⟩
      have r' : x = .ref (φ n) := r
      by_cases h1 : cs.contains c = true ∧ fs.length < 1000 ∧ okRef S n v = true
      · rw [if_pos h1] at e
        cases e
        obtain ⟨h1, h2, h3⟩ := h1
        obtain ⟨s2, x2⟩ := putGen (o := .ins c (putFD f v fs)) s q (fun z hz => by
          rcases mem_putFD hz with rfl | hz
          · rcases okRef_b h3 with h | h
            · exact .inr (.inr ⟨h, lv⟩)
            · exact .inl h
          · exact .inr (.inl hz)) hor
        exact ⟨φ n, c, dx, gs, r', ev, by simpa using h1, by omega, s2, x2⟩
      · rw [if_neg h1] at e; cases e
theorem s_fld {f : Str} {cs : List Nat} (hc : ∀ c ∈ cs, Cls X.K (cl c) ∧ NoAttr X.K (cl c) f) (ha : PE X o (LE X.K cl mo)) (hv : PE X value (LE X.K cl mv)) (hs : swapsWith value (some (.Attribute o f pos')) pos.line X.env = pure false := by rfl) :
    PS X (.Assign [.Attribute o f pos'] value pos) (LS X.K cl (dSetF cs f mo mv)) := by
  refine (ps_fld ha hv hs).imp fun Z σ H q => ?_
  obtain ⟨σd, S, B, F, φ, s, rs, o⟩ := q
  obtain ⟨y, S1, e, o⟩ := okS_bnd o
  obtain ⟨d, S2, e2, o⟩ := okS_bnd o
  refine LE.then_ s rs e fun F1 φ1 H1 u s1 x1 rs1 dr1 l1 => LE.then_ s1 rs1 e2 fun F2 φ2 H2 v s2 x2 rs2 dr2 l2 => ?_
  cases e3 : setFld cs f d y S2 with
  | none => rw [e3] at o; obtain ⟨_, _, z, _⟩ := o; cases z
  | some S3 =>
    rw [e3] at o
    obtain ⟨_, _, z, k⟩ := o
    cases z
    obtain ⟨a, c, dx, gs, rfl, ha, hm, hz, s3, x3⟩ := setFld_ok e3 s2 dr2 (x2.dr l1 dr1) (x2.lt l1)
    obtain ⟨h1, h2⟩ := hc c hm
    exact ⟨a, cl c, dx, gs, rfl, ha, h1, h2, hz, k _ _ _ σ s3 ((x1.trans x2).trans x3) (x3.rs rs2)⟩
/-- o.f op= v -/
def dAugF (cs : List Nat) (f : Str) (op : D → D → SH → Option (D × SH)) (o v : ME) : MS := fun σ S => bnd (o σ S) fun x S1 => match fldsOf x S1 with
  | some (c, fs) => if cs.contains c = true then (match fs.lookup f with
    | some old => bnd (v σ S1) fun y S3 => bnd (op old y S3) fun z S4 => match setFld [c] f x z S4 with | some S5 => some (.nx σ, S5) | none => none
    | none => none) else none
  | none => none
theorem s_augF {f : Str} {cs : List Nat} {op : Operator} {fo : D → D → SH → Option (D × SH)} {rd : V → V → Hp → VK → Prop} (hd : OpD X.K cl fo rd) (ho : InOp X op rd) (hc : ∀ c ∈ cs, Cls X.K (cl c) ∧ NoAttr X.K (cl c) f) (ha : PE X o (LE X.K cl mo)) (hv : PE X value (LE X.K cl mv)) :
    PS X (.AugAssign (.Attribute o f pos') op value pos) (LS X.K cl (dAugF cs f fo mo mv)) := by
  refine (ps_fldaug ha hv ho).imp fun Z σ H q => ?_
  obtain ⟨σd, S, B, F, φ, s, rs, o0⟩ := q
  obtain ⟨d, S1, e, o1⟩ := okS_bnd o0
  refine LE.then_ s rs e fun F1 φ1 H1 u s1 x1 rs1 dr1 l1 => ?_
  cases e5 : fldsOf d S1 with
  | none => rw [e5] at o1; obtain ⟨_, _, z, _⟩ := o1; cases z
  | some p =>
    obtain ⟨c, fs⟩ := p
    rw [e5] at o1
    obtain ⟨a, dx, gs, eu, ha, rf, lf⟩ := flds_ok s1 e5 dr1
    dsimp only at o1
    by_cases hm : cs.contains c = true
    · rw [if_pos hm] at o1
      cases e6 : fs.lookup f with
      | none => rw [e6] at o1; obtain ⟨_, _, z, _⟩ := o1; cases z
      | some old =>
        rw [e6] at o1
        dsimp only at o1
        obtain ⟨y, S3, e3, o3⟩ := okS_bnd o1
        obtain ⟨z, S4, e4, o4⟩ := okS_bnd o3
        obtain ⟨v0, hv0, rv0⟩ := (lookup_drk rf).2 _ e6
        have lold : old.lt S1.len := lf _ (List.mem_map.mpr ⟨_, PySem.mem_of_lookup e6, rfl⟩)
        obtain ⟨h1, h2⟩ := hc c (by simpa using hm)
        refine ⟨a, cl c, dx, gs, v0, eu, ha, h1, h2, hv0, ?_⟩
        refine LE.then_ s1 rs1 e3 fun F3 φ3 H3 v s3 x3 rs3 dr3 l3 => ?_
        refine hd S3 B F3 φ3 H3 old y v0 v _ s3 (x3.dr lold rv0) dr3 (x3.lt lold) l3 ⟨z, S4, e4, fun F4 φ4 H4 w s4 x4 dr4 l4 => ?_⟩
        cases e7 : setFld [c] f d z S4 with
        | none => rw [e7] at o4; obtain ⟨_, _, z, _⟩ := o4; cases z
        | some S5 =>
          rw [e7] at o4
          obtain ⟨_, _, z, k⟩ := o4
          cases z
          obtain ⟨a', c', dx', gs', ea, ha', hm', hz', s5, x5⟩ := setFld_ok e7 s4 (x4.dr (x3.lt l1) (x3.dr l1 dr1)) dr4 l4
          have ec : c' = c := by simpa using hm'
          have eaa : a = a' := by rw [eu] at ea; injection ea
          subst ec
          subst eaa
          exact ⟨dx', gs', ha', hz', k _ _ _ σ s5 (((x1.trans x3).trans x4).trans x5) (x5.rs (x4.rs rs3))⟩
    · rw [if_neg hm] at o1; obtain ⟨_, _, z, _⟩ := o1; cases z
end
end Pv
namespace Pv
open PySem PySem.Spec PyProof.Rows L2

/-! ### targets -/
abbrev MG := D → En → SH → Option (En × SH)
abbrev MGs := List D → En → SH → Option (En × SH)
section
variable (K : PySem.W.Frag) (cl : Nat → Addr)
def OkG (vs : List Nat) (σ : L2.St) (S : SH) (B : List Nat) (F : Hp) (φ : Nat → Addr) (H : Hp) (r : Option (En × SH)) (Q : L2.St → Hp → Prop) : Prop :=
  ∃ σ1 S1, r = some (σ1, S1) ∧ ∀ F1 φ1 H1 σ', Sim K cl S1 B F1 φ1 H1 → Ext S F φ H S1 F1 φ1 H1 → RS K cl F1 φ1 S1.len σ1 σ' → (σ'.length = σ.length ∧ ∀ j, j ∉ vs → σ'[j]? = σ[j]?) → Q σ' H1
def LG (vs : List Nat) (g : MG) : TG := fun v σ H Q => ∃ d σd S B F φ, Sim K cl S B F φ H ∧ RS K cl F φ S.len σd σ ∧ DR K cl F φ d v ∧ d.lt S.len ∧ OkG K cl vs σ S B F φ H (g d σd S) Q
def LGs (vs : List Nat) (g : MGs) : TGs := fun us σ H Q => ∃ ds σd S B F φ, Sim K cl S B F φ H ∧ RS K cl F φ S.len σd σ ∧ DRA K cl F φ ds us ∧ (∀ d ∈ ds, d.lt S.len) ∧ OkG K cl vs σ S B F φ H (g ds σd S) Q
end
def gNm (i : Nat) : MG := fun d σ S => some (σ.set i (some d), S)
def gNl : MGs := fun ds σ S => match ds with | [] => some (σ, S) | _ => none
def gCn (g : MG) (gs : MGs) : MGs := fun ds σ S => match ds with | d :: r => bnd (g d σ S) fun σ1 S1 => gs r σ1 S1 | [] => none
def gTp (n : Nat) (gs : MGs) : MG := fun d σ S => match d with | .p (.tup ps) => if ps.length = n then gs (ps.map .p) σ S else none | _ => none
/-- o[i] = v -/
def setIx (o i v : D) (S : SH) : Option SH := match o, i with
  | .ref n, .p (.int k) => match S.os[n]? with
    | some (.lst ds) => match ixN ds.length k with
      | some j => if okRef S n v = true then some (S.put n (.lst (ds.set j v))) else none
      | none => none
    | _ => none
  | _, _ => none
def gSb (o i : ME) : MG := fun d σ S => bnd (o σ S) fun x S1 => bnd (i σ S1) fun y S2 => match setIx x y d S2 with | some S3 => some (σ, S3) | none => none
def dAsg (e : ME) (g : MG) : MS := fun σ S => bnd (e σ S) fun d S1 => bnd (g d σ S1) fun σ2 S2 => some (.nx σ2, S2)

section
variable {K : PySem.W.Frag} {cl : Nat → Addr} {S S' S1 S2 : SH} {B : List Nat} {F F' F1 F2 H H' H1 H2 : Hp} {φ φ' φ1 φ2 : Nat → Addr}
theorem okG_bnd {vs : List Nat} {σ : L2.St} {α : Type} {r : Option (α × SH)} {f : α → SH → Option (En × SH)} {Q : L2.St → Hp → Prop} (h : OkG K cl vs σ S B F φ H (bnd r f) Q) : ∃ a S1, r = some (a, S1) ∧ OkG K cl vs σ S B F φ H (f a S1) Q := by
  cases r with
  | none => obtain ⟨_, _, z, _⟩ := h; cases z
  | some p => exact ⟨p.1, p.2, rfl, h⟩
theorem DRA.set {ds : List D} {vs : List V} {d : D} {v : V} (r : DR K cl F φ d v) : ∀ {ds : List D} {vs : List V} (j : Nat), DRA K cl F φ ds vs → DRA K cl F φ (ds.set j d) (vs.set j v)
  | _, _, _, .nil => .nil
  | _, _, 0, .cons _ t => .cons r t
  | _, _, j + 1, .cons a t => .cons a (DRA.set (ds := ds) (vs := vs) r j t)
theorem DRA.append {ds es : List D} {vs us : List V} (a : DRA K cl F φ ds vs) (b : DRA K cl F φ es us) : DRA K cl F φ (ds ++ es) (vs ++ us) := by
  induction a with
  | nil => exact b
  | cons r t ih => exact .cons r ih
theorem okB_set {n : Nat} {ds : List D} {d : D} {j : Nat} (w : (Ob.lst ds).lt S.len) (l : d.lt S.len) : (Ob.lst (ds.set j d)).lt S.len := fun y hy => by
  rcases List.mem_or_eq_of_mem_set hy with h | h
  · exact w y h
  · rw [h]; exact l
theorem putOk {n : Nat} {o : Ob} {x : HO} {ds : List D} {d : D} (s : Sim K cl S B F φ H) (q : S.os[n]? = some (.lst ds)) (hd : okRef S n d = true) (l : d.lt S.len) (he : ∀ y ∈ o.ds, y = d ∨ y ∈ ds) (ho : OR K cl F φ (some x) o) :
    Sim K cl (S.put n o) B F φ (upd H (φ n) x) ∧ Ext S F φ H (S.put n o) F φ (upd H (φ n) x) :=
  putGen s q (fun y hy => by
    rcases he y hy with rfl | h
    · rcases okRef_b hd with h | h
      · exact .inr (.inr ⟨h, l⟩)
      · exact .inl h
    · exact .inr (.inl h)) ho
theorem setIx_ok {o i v : D} {x y u : V} (e : setIx o i v S = some S') (s : Sim K cl S B F φ H) (ro : DR K cl F φ o x) (ri : DR K cl F φ i y) (rv : DR K cl F φ v u) (lv : v.lt S.len) :
    ∃ p xs k j, x = .ref p ∧ y = .int k ∧ H p = some (.lst xs) ∧ ixN xs.length k = some j ∧ Sim K cl S' B F φ (upd H p (.lst (xs.set j u))) ∧ Ext S F φ H S' F φ (upd H p (.lst (xs.set j u))) := by
  cases o with
  | p _ => cases e
  | ref n =>
    cases i with
    | ref _ => cases e
    | p z =>
      cases z <;> try (cases e; done)
      rename_i k
      unfold setIx at e
      dsimp only at e
      cases q : S.os[n]? with
      | none => rw [q] at e; cases e
      | some ob =>
        rw [q] at e
        cases ob <;> try (cases e; done)
        rename_i ds
        dsimp only at e
        cases hj : ixN ds.length k with
        | none => rw [hj] at e; cases e
        | some j =>
          rw [hj] at e
          dsimp only at e
          by_cases hr : okRef S n v = true
          · rw [if_pos hr] at e
            cases e
            obtain ⟨vs, ev, rvs⟩ := (s.ob n _ q).2
            have hl := rvs.length
            cases (show Rp K cl F (.int k) y from ri)
            obtain ⟨a, b⟩ := putOk (o := .lst (ds.set j v)) (x := .lst (vs.set j u)) s q hr lv (fun y hy => by
              rcases List.mem_or_eq_of_mem_set hy with h | h
              · exact .inr h
              · exact .inl h) ⟨_, rfl, DRA.set (ds := ds) (vs := vs) rv j rvs⟩
            exact ⟨φ n, vs, k, j, ro, rfl, ev, by rw [← hl]; exact hj, a, b⟩
          · rw [if_neg hr] at e; cases e
end
section
variable {X : Cx} {cl : Nat → Addr} {tg e o ix : Expr} {es : List Expr} {pos : Pos} {g : MG} {gs : MGs} {vs us : List Nat} {me mo mi : ME}
theorem g_name {i : Nat} {x : Str} (hN : X.N.Nodup) (hi : X.N[i]? = some x) (hx : Loc X.env.scope x) (hf : X.fn x = true ∨ X.env.scope.names.lookup x = some .local := by first | exact .inl rfl | exact .inr rfl | assumption) : PG X (.Name x pos) (LG X.K cl [i] (gNm i)) := by
  have h := pg_name (pos := pos) hN hi hx hf
  refine ⟨fun pins s σ H v u Q I r q => h.run pins s σ H v u Q I r ?_⟩
  obtain ⟨d, σd, S, B, F, φ, sm, rs, dr, l, σ1, S1, e, k⟩ := q
  cases e
  refine k F φ H _ sm (.refl sm) (rs.set i dr l) ⟨by rw [List.length_set], fun j hj => ?_⟩
  rw [List.getElem?_set_ne]
  rintro rfl
  exact hj (by simp)
theorem gs_nil : PGs X [] (LGs X.K cl [] gNl) := by
  have h := pgs_nil (X := X)
  refine ⟨fun pins s σ H v u Q I r q => h.run pins s σ H v u Q I r ?_⟩
  obtain ⟨ds, σd, S, B, F, φ, sm, rs, dr, l, σ1, S1, e, k⟩ := q
  cases dr with
  | nil => cases e; exact ⟨rfl, k F φ H σ sm (.refl sm) rs ⟨rfl, fun _ _ => rfl⟩⟩
  | cons _ _ => cases e
theorem gs_cons (h1 : PG X e (LG X.K cl vs g)) (h2 : PGs X es (LGs X.K cl us gs)) (hs : (assignEach (e :: es) X.env).map (·.2) = assign e X.env :: (assignEach es X.env).map (·.2) := by rfl) : PGs X (e :: es) (LGs X.K cl (vs ++ us) (gCn g gs)) := by
  have h := pgs_cons h1 h2 hs
  refine ⟨fun pins s σ H v u Q I r q => h.run pins s σ H v u Q I r ?_⟩
  obtain ⟨ds, σd, S, B, F, φ, sm, rs, dr, l, ok⟩ := q
  cases dr with
  | nil => obtain ⟨_, _, z, _⟩ := ok; cases z
  | @cons d v0 ds' vs' r1 r2 =>
    obtain ⟨σ1, S1, e1, ok⟩ := okG_bnd ok
    refine ⟨v0, vs', rfl, d, σd, S, B, F, φ, sm, rs, r1, l d List.mem_cons_self, σ1, S1, e1, fun F1 φ1 H1 σ' s1 x1 rs1 hk => ?_⟩
    obtain ⟨σ2, S2, e2, k2⟩ := ok
    refine ⟨ds', σ1, S1, B, F1, φ1, s1, rs1, x1.dra (fun y hy => l y (List.mem_cons_of_mem _ hy)) r2, fun y hy => x1.lt (l y (List.mem_cons_of_mem _ hy)), σ2, S2, e2, fun F2 φ2 H2 σ'' s2 x2 rs2 hk2 => ?_⟩
    refine k2 F2 φ2 H2 σ'' s2 (x1.trans x2) rs2 ⟨hk2.1.trans hk.1, fun j hj => ?_⟩
    rw [List.mem_append, not_or] at hj
    exact (hk2.2 j hj.2).trans (hk.2 j hj.1)
theorem g_tup {k n : Nat} (hc : X.calm = true) (h : PGs X es (LGs X.K cl vs gs)) (hn : (assignEach es X.env).length = n := by rfl) (hst : (assignEach es X.env).findIdx? (·.1) = none := by rfl) : PG X (.Tuple es k pos) (LG X.K cl vs (gTp n gs)) := by
  have h := pg_tup (k := k) (pos := pos) hc h hn hst
  refine ⟨fun pins s σ H v u Q I r q => h.run pins s σ H v u Q I r ?_⟩
  obtain ⟨d, σd, S, B, F, φ, sm, rs, dr, l, ok⟩ := q
  cases d with
  | ref _ => obtain ⟨_, _, z, _⟩ := ok; cases z
  | p x =>
    cases x <;> try (obtain ⟨_, _, z, _⟩ := ok; cases z; done)
    rename_i ps
    unfold gTp at ok
    dsimp only at ok
    by_cases hp : ps.length = n
    · rw [if_pos hp] at ok
      cases (show Rp X.K cl F (.tup ps) v from dr) with
      | tup q t =>
        have tr : DRA X.K cl F φ (ps.map D.p) _ := t.dra
        have hl := tr.length
        rw [List.length_map] at hl
        exact ⟨_, _, rfl, SqT.mono sm.le q, by rw [← hl]; exact hp, _, σd, S, B, F, φ, sm, rs, tr, lt_map, ok⟩
    · rw [if_neg hp] at ok; obtain ⟨_, _, z, _⟩ := ok; cases z
theorem g_sub (ho : PE X o (LE X.K cl mo)) (hi : PE X ix (LE X.K cl mi))
    (ha : ∀ v, assign (.Subscript o ix pos) X.env v = (do
      let ov ← holding [v] (eval o X.env)
      let iv ← holding [v, ov] (eval ix X.env)
      standAt pos
      holding [v, ov, iv] (setItem ov iv v)
      release [v, ov, iv] []) := by intro _; rfl) : PG X (.Subscript o ix pos) (LG X.K cl [] (gSb mo mi)) := by
  have h := pg_sub ho hi set_list ha
  refine ⟨fun pins s σ H v u Q I r q => h.run pins s σ H v u Q I r ?_⟩
  obtain ⟨d, σd, S, B, F, φ, sm, rs, dr, l, ok⟩ := q
  obtain ⟨a, S1, e1, ok1⟩ := okG_bnd ok
  obtain ⟨b, S2, e2, ok2⟩ := okG_bnd ok1
  refine LE.then_ sm rs e1 fun F1 φ1 H1 x s1 x1 rs1 dr1 l1 => LE.then_ s1 rs1 e2 fun F2 φ2 H2 y s2 x2 rs2 dr2 l2 => ?_
  cases e3 : setIx a b d S2 with
  | none => rw [e3] at ok2; obtain ⟨_, _, z, _⟩ := ok2; cases z
  | some S3 =>
    rw [e3] at ok2
    obtain ⟨_, _, z, k⟩ := ok2
    cases z
    have x12 := x1.trans x2
    obtain ⟨p, xs, k0, j, h1, h2, h3, h4, s5, x5⟩ := setIx_ok e3 s2 (x2.dr l1 dr1) dr2 (x12.dr l dr) (x12.lt l)
    exact ⟨p, xs, k0, j, h1, h2, h3, h4, k _ _ _ σ s5 (x12.trans x5) (x5.rs rs2) ⟨rfl, fun _ _ => rfl⟩⟩
theorem s_asg (he : PE X e (LE X.K cl me)) (hg : PG X tg (LG X.K cl vs g)) (hs : swapsWithSole [tg] e pos.line X.env = pure false := by rfl) (hw : swappedStores [tg] e X.env = pure none := by rfl)
    (h1 : (assignEach [tg] X.env).map (·.2) = [assign tg X.env] := by rfl) : PS X (.Assign [tg] e pos) (LS X.K cl (dAsg me g)) := by
  refine (ps_asg he hg hs hw h1).imp fun Z σ H q => ?_
  obtain ⟨σd, S, B, F, φ, s, rs, o⟩ := q
  obtain ⟨d, S1, e1, o1⟩ := okS_bnd o
  obtain ⟨σ2, S2, e2, o2⟩ := okS_bnd o1
  obtain ⟨_, _, z, k⟩ := o2
  cases z
  exact LE.then_ s rs e1 fun F1 φ1 H1 u s1 x1 rs1 dr l => ⟨d, σd, S1, B, F1, φ1, s1, rs1, dr, l, σ2, S2, e2, fun F2 φ2 H2 σ' s2 x2 rs2 _ => k F2 φ2 H2 σ' s2 (x1.trans x2) rs2⟩
end

/-! ### what is walked -/
structure Src where
  items : List (SH → Option D)
  fin : SH → Bool
abbrev MI := En → SH → Option (Src × SH)
def srcP (ps : List P) : Src := ⟨ps.map fun p _ => some (.p p), fun _ => true⟩
/-- the list at n, its length unchanged -/
def itemR (n len i : Nat) (S : SH) : Option D := match S.os[n]? with
  | some (.lst ds) => if ds.length = len then ds[i]? else none
  | _ => none
def finR (n len : Nat) (S : SH) : Bool := match S.os[n]? with
  | some (.lst ds) => decide (ds.length = len)
  | _ => false
def srcR (n len : Nat) : Src := ⟨(List.range len).map (itemR n len), finR n len⟩
def srcOf (d : D) (S : SH) : Option (Src × SH) := match d with
  | .p (.lst ps) => some (srcP ps, S)
  | .p (.tup ps) => some (srcP ps, S)
  | .ref n => match S.os[n]? with | some (.lst ds) => some (srcR n ds.length, S) | _ => none
  | _ => none
def dIt (m : ME) : MI := fun σ S => bnd (m σ S) srcOf
def srcN (lo : Int) (n : Nat) : Src := ⟨(List.range n).map fun (i : Nat) _ => some (.p (.int (lo + (i : Int)))), fun _ => true⟩
def rng1 (ds : List D) (S : SH) : Option (Src × SH) := match ds with
  | [.p (.int j)] => if -(2 ^ 62) ≤ j ∧ j < 2 ^ 62 then some (srcN 0 j.toNat, S) else none
  | _ => none
def rng2 (ds : List D) (S : SH) : Option (Src × SH) := match ds with
  | [.p (.int i), .p (.int j)] => if -(2 ^ 62) ≤ i ∧ i < 2 ^ 62 ∧ -(2 ^ 62) ≤ j ∧ j < 2 ^ 62 then some (srcN i (j - i).toNat, S) else none
  | _ => none
def dRng1 (m : MA) : MI := fun σ S => bnd (m σ S) rng1
def dRng2 (m : MA) : MI := fun σ S => bnd (m σ S) rng2

section
variable (K : PySem.W.Frag) (cl : Nat → Addr)
def ItD (S1 : SH) (F1 : Hp) (φ1 : Nat → Addr) (J : It) (src : Src) : Prop :=
  ∀ S' B' F' φ' H', Sim K cl S' B' F' φ' H' → Same F1 F' → S1.len ≤ S'.len → (∀ n, n < S1.len → φ' n = φ1 n) → ∀ i : Nat,
    (∀ t d, src.items[i]? = some t → t S' = some d → d.lt S'.len ∧ J.go i H' ∧ ∀ x H2, J.yld i H' x H2 → ∃ F2, Sim K cl S' B' F2 φ' H2 ∧ Ext S' F' φ' H' S' F2 φ' H2 ∧ DR K cl F2 φ' d x) ∧
    (src.items.length ≤ i → src.fin S' = true → J.stop i H')
def LI (m : MI) : TI := fun σ H R => ∃ σd S B F φ, Sim K cl S B F φ H ∧ RS K cl F φ S.len σd σ ∧ ∃ src S1, m σd S = some (src, S1) ∧
  ∀ F1 φ1 H1 J, Sim K cl S1 B F1 φ1 H1 → Ext S F φ H S1 F1 φ1 H1 → ItD K cl S1 F1 φ1 J src → R J H1
end
section
variable {X : Cx} {cl : Nat → Addr} {tg e l : Expr} {pos p : Pos} {me : ME} {ma : MA}
theorem itD_seq {K : PySem.W.Frag} {S : SH} {F : Hp} {φ : Nat → Addr} {ps : List P} {vs : List V} {J : It} (hr : RpA K cl F ps vs)
    (hg : ∀ H, Same F H → ∀ (i : Nat) (x : V), vs[i]? = some x → J.go i H) (hy : ∀ H, Same F H → ∀ (i : Nat) (x : V), vs[i]? = some x → ∀ y H2, J.yld i H y H2 → H2 = H ∧ y = x) (hs : ∀ H, Same F H → ∀ i : Nat, vs.length ≤ i → J.stop i H) : ItD K cl S F φ J (srcP ps) := by
  intro S' B' F' φ' H' s sf hl hp i
  have dr : DRA K cl F' φ' (ps.map D.p) vs := (RpA.mono sf hr).dra
  have hlen := dr.length
  rw [List.length_map] at hlen
  refine ⟨fun t d ht htd => ?_, fun hi _ => ?_⟩
  · have ht : (ps.map fun p (_ : SH) => some (D.p p))[i]? = some t := ht
    rw [List.getElem?_map] at ht
    cases e : ps[i]? with
    | none => rw [e] at ht; cases ht
    | some q =>
      rw [e] at ht
      cases ht
      cases htd
      obtain ⟨v, hv, rv⟩ := dr.get (i := i) (d := .p q) (by rw [List.getElem?_map, e]; rfl)
      refine ⟨trivial, hg H' (sf.trans s.le) i v hv, fun x H2 y => ?_⟩
      obtain ⟨rfl, rfl⟩ := hy H' (sf.trans s.le) i v hv x H2 y
      exact ⟨F', s, .refl s, rv⟩
  · have hi : (ps.map fun p (_ : SH) => some (D.p p)).length ≤ i := hi
    rw [List.length_map] at hi
    exact hs H' (sf.trans s.le) i (by omega)
theorem sqL_inj {P : Program} {w : World} {h : Heap} {K : PySem.W.Frag} {H : Hp} {a : Addr} {xs ys : List V} : True := trivial
/-- any list or tuple, walked -/
theorem pi_any (hl : PE X l (LE X.K cl me)) : PI X tg l (LI X.K cl (dIt me)) := by
  refine ⟨fun pins s σ H R I h => ?_⟩
  obtain ⟨σd, S, B, F, φ, sm, rs, src, S1, e, k⟩ := h
  obtain ⟨d, S2, e1, e2⟩ := bnd_of e
  have base : LE X.K cl me σ H fun x H1 => ∃ F1 φ1, Sim X.K cl S2 B F1 φ1 H1 ∧ Ext S F φ H S2 F1 φ1 H1 ∧ DR X.K cl F1 φ1 d x ∧ d.lt S2.len :=
    LE.then_ sm rs e1 fun F1 φ1 H1 x s1 x1 rs1 dr1 l1 => ⟨F1, φ1, s1, x1, dr1, l1⟩
  refine thn (hl.run pins s σ H _ I base) fun v s1 ⟨x, H1, I1, r1, F1, φ1, sm1, x1, dr1, l1⟩ => ?_
  -- a list at a
  have lst : ∀ (a : Addr) (xs : List V), x = .ref a → SqL X.K H1 a xs → R (Itl X.K a) H1 → wpAny (model X.prog X.w) X.A (pyIter v) (PIE X pins σ tg R) X.xe s1 := by
    intro a xs ex hq hR
    subst ex
    cases r1
    obtain ⟨its, rv, p, hz⟩ := I1.list hq
    refine wpAny_pyIter_list p.isList ?_
    refine ⟨s1.heap.objs.size, [s1.heap.objs.size], _, _, H1, rfl, I1.kept (t' := s1.toks) fun b o e => Heap.get?_push_of_some _ e, turn_list a _, ⟨_, Heap.get?_push_size _ rfl, rfl, rfl⟩, fun b hb => ?_, hR⟩
    have e : b = s1.heap.objs.size := by simpa using hb
    subst e
    exact I1.fpOk (Nat.le_refl _) (I1.hok.fresh (Nat.le_refl _))
  have tup : ∀ (a : Addr) (xs : List V), x = .ref a → SqT X.K H1 a xs → R (Itt X.K a) H1 → wpAny (model X.prog X.w) X.A (pyIter v) (PIE X pins σ tg R) X.xe s1 := by
    intro a xs ex hq hR
    subst ex
    cases r1
    obtain ⟨its, rv, p, hz⟩ := I1.tuple hq
    refine wpAny_pyIter_tuple (show s1.heap.IsTuple a its.toArray from p) ?_
    refine ⟨s1.heap.objs.size, [s1.heap.objs.size], _, _, H1, rfl, I1.kept (t' := s1.toks) fun b o e => Heap.get?_push_of_some _ e, turn_tuple a _, ⟨_, Heap.get?_push_size _ rfl, rfl, rfl⟩, fun b hb => ?_, hR⟩
    have e : b = s1.heap.objs.size := by simpa using hb
    subst e
    exact I1.fpOk (Nat.le_refl _) (I1.hok.fresh (Nat.le_refl _))
  cases d with
  | p y =>
    cases y with
    | tup zs =>
      simp only [srcOf, Option.some.injEq, Prod.mk.injEq] at e2
      obtain ⟨rfl, rfl⟩ := e2
      cases (show Rp X.K cl F1 (.tup zs) x from dr1) with
      | @tup a _ vs q t =>
        refine tup a vs rfl (SqT.mono sm1.le q) (k F1 φ1 H1 _ sm1 x1 (itD_seq t (fun H sf i x hx => ⟨vs, x, SqT.mono sf q, hx⟩) (fun H sf i x hx y H2 hy => ⟨hy.1, ?_⟩) fun H sf i hi => ⟨vs, SqT.mono sf q, hi⟩))
        have := hy.2 vs (SqT.mono sf q)
        rw [hx] at this
        exact (Option.some.inj this).symm
    | lst zs =>
      simp only [srcOf, Option.some.injEq, Prod.mk.injEq] at e2
      obtain ⟨rfl, rfl⟩ := e2
      cases (show Rp X.K cl F1 (.lst zs) x from dr1) with
      | @lst a _ vs q t =>
        refine lst a vs rfl (SqL.mono sm1.le q) (k F1 φ1 H1 _ sm1 x1 (itD_seq t (fun H sf i x hx => ⟨vs, x, SqL.mono sf q, hx⟩) (fun H sf i x hx y H2 hy => ⟨hy.1, ?_⟩) fun H sf i hi => ⟨vs, SqL.mono sf q, hi⟩))
        have := hy.2 vs (SqL.mono sf q)
        rw [hx] at this
        exact (Option.some.inj this).symm
    | _ => cases e2
  | ref n =>
    unfold srcOf at e2
    dsimp only at e2
    cases q : S2.os[n]? with
    | none => rw [q] at e2; cases e2
    | some ob =>
      rw [q] at e2
      cases ob <;> try (cases e2; done)
      rename_i ds
      simp only [Option.some.injEq, Prod.mk.injEq] at e2
      obtain ⟨rfl, rfl⟩ := e2
      have hn : n < S2.len := (List.getElem?_eq_some_iff.mp q).1
      obtain ⟨vs, ev, rv⟩ := (sm1.ob n _ q).2
      refine lst (φ1 n) vs dr1 (.inl (.inl ev)) (k F1 φ1 H1 _ sm1 x1 ?_)
      intro S' B' F' φ' H' s' sf hl hp i
      have at_ : ∀ ds', S'.os[n]? = some (.lst ds') → ∃ vs', SqL X.K H' (φ1 n) vs' ∧ H' (φ1 n) = some (.lst vs') ∧ DRA X.K cl F' φ' ds' vs' := fun ds' q' => by
        obtain ⟨vs', ev', rv'⟩ := (s'.ob n _ q').2
        rw [hp n hn] at ev'
        exact ⟨vs', .inl (.inl ev'), ev', rv'⟩
      refine ⟨fun t d ht htd => ?_, fun hi hf => ?_⟩
      · have ht : ((List.range ds.length).map (itemR n ds.length))[i]? = some t := ht
        rw [List.getElem?_map] at ht
        cases er : (List.range ds.length)[i]? with
        | none => rw [er] at ht; cases ht
        | some j =>
          rw [er] at ht
          cases ht
          have hj : j = i := by
            have := List.getElem?_eq_some_iff.mp er
            obtain ⟨h1, h2⟩ := this
            rw [List.getElem_range] at h2
            exact h2.symm
          subst hj
          unfold itemR at htd
          cases q' : S'.os[n]? with
          | none => rw [q'] at htd; cases htd
          | some ob' =>
            rw [q'] at htd
            cases ob' <;> try (cases htd; done)
            rename_i ds'
            dsimp only at htd
            by_cases hlen : ds'.length = ds.length
            · rw [if_pos hlen] at htd
              obtain ⟨vs', h1, h2, h3⟩ := at_ ds' q'
              obtain ⟨v', hv', rv'⟩ := h3.get htd
              refine ⟨s'.wf n _ q' d (List.mem_of_getElem? htd), ⟨vs', v', h1, hv'⟩, fun x H2 hy => ?_⟩
              obtain ⟨rfl, hy⟩ := hy
              have := hy vs' h1
              rw [hv'] at this
              cases this
              exact ⟨F', s', .refl s', rv'⟩
            · rw [if_neg hlen] at htd; cases htd
      · have hf : finR n ds.length S' = true := hf
        unfold finR at hf
        cases q' : S'.os[n]? with
        | none => rw [q'] at hf; cases hf
        | some ob' =>
          rw [q'] at hf
          cases ob' <;> try (cases hf; done)
          rename_i ds'
          have hlen : ds'.length = ds.length := of_decide_eq_true hf
          obtain ⟨vs', h1, h2, h3⟩ := at_ ds' q'
          refine ⟨vs', h1, ?_⟩
          have := h3.length
          have hi : ((List.range ds.length).map (itemR n ds.length)).length ≤ i := hi
          rw [List.length_map, List.length_range] at hi
          omega
theorem itD_rng {K : PySem.W.Frag} {S : SH} {F : Hp} {φ : Nat → Addr} {lo : Int} {n : Nat} : ItD K cl S F φ (Itr lo n) (srcN lo n) := by
  intro S' B' F' φ' H' s sf hl hp i
  refine ⟨fun t d ht htd => ?_, fun hi _ => ?_⟩
  · have ht : ((List.range n).map fun (i : Nat) (_ : SH) => some (D.p (.int (lo + (i : Int)))))[i]? = some t := ht
    rw [List.getElem?_map] at ht
    cases er : (List.range n)[i]? with
    | none => rw [er] at ht; cases ht
    | some j =>
      rw [er] at ht
      cases ht
      obtain ⟨h1, h2⟩ := List.getElem?_eq_some_iff.mp er
      rw [List.getElem_range] at h2
      rw [List.length_range] at h1
      subst h2
      cases htd
      refine ⟨trivial, h1, fun x H2 y => ?_⟩
      obtain ⟨rfl, rfl⟩ := y
      exact ⟨F', s, .refl s, Rp.int _⟩
  · have hi : ((List.range n).map fun (i : Nat) (_ : SH) => some (D.p (.int (lo + (i : Int))))).length ≤ i := hi
    rw [List.length_map, List.length_range] at hi
    exact hi
theorem drInt {K : PySem.W.Frag} {F : Hp} {φ : Nat → Addr} {i : Int} {x : V} (h : DR K cl F φ (.p (.int i)) x) : x = .int i := by
  cases (show Rp K cl F (.int i) x from h); rfl
theorem pi_rng1 {a : Expr} (hg : Gl X "range") (hm : X.mg "range" = none) (ha : PA X [a] (LA X.K cl ma)) (hs : starEach [a] X.env = [(false, eval a X.env)] := by rfl) : PI X tg (.Call (.Name "range" p) [a] [] pos) (LI X.K cl (dRng1 ma)) := by
  have h := pi_range1 (tg := tg) (p := p) (pos := pos) hg hm ha hs
  refine ⟨fun pins s σ H R I q => h.run pins s σ H R I ?_⟩
  obtain ⟨σd, S, B, F, φ, sm, rs, src, S1, e, k⟩ := q
  obtain ⟨ds, S2, e1, e2⟩ := bnd_of e
  refine LA.then_ sm rs e1 fun F1 φ1 H1 us s1 x1 rs1 dr l => ?_
  unfold rng1 at e2
  split at e2
  · rename_i j
    split at e2
    · rename_i hj
      cases e2
      cases dr with
      | cons r t =>
        cases t
        exact ⟨j, by rw [drInt r], hj.1, hj.2, k F1 φ1 H1 _ s1 x1 itD_rng⟩
    · cases e2
  · cases e2
theorem pi_rng2 {a b : Expr} (hg : Gl X "range") (hm : X.mg "range" = none) (ha : PA X [a, b] (LA X.K cl ma)) (hs : starEach [a, b] X.env = [(false, eval a X.env), (false, eval b X.env)] := by rfl) (hs2 : starEach [b] X.env = [(false, eval b X.env)] := by rfl) : PI X tg (.Call (.Name "range" p) [a, b] [] pos) (LI X.K cl (dRng2 ma)) := by
  have h := pi_range2 (tg := tg) (p := p) (pos := pos) hg hm ha hs hs2
  refine ⟨fun pins s σ H R I q => h.run pins s σ H R I ?_⟩
  obtain ⟨σd, S, B, F, φ, sm, rs, src, S1, e, k⟩ := q
  obtain ⟨ds, S2, e1, e2⟩ := bnd_of e
  refine LA.then_ sm rs e1 fun F1 φ1 H1 us s1 x1 rs1 dr l => ?_
  unfold rng2 at e2
  split at e2
  · rename_i i j
    split at e2
    · rename_i hj
      cases e2
      cases dr with
      | cons r t =>
        cases t with
        | cons r2 t =>
          cases t
          exact ⟨i, j, by rw [drInt r, drInt r2], hj, k F1 φ1 H1 _ s1 x1 itD_rng⟩
    · cases e2
  · cases e2
end

/-! ### loops -/
def forL (ws : List Nat) (fin : SH → Bool) (g : MG) (body : MS) : List (SH → Option D) → MS
  | [], σ, S => if fin S = true then some (.nx σ, S) else none
  | t :: ts, σ, S => match t S with
    | some d => bnd (g d σ S) fun σ1 S1 => bnd (body σ1 S1) fun f S2 => match f with
      | .nx σ2 => forL ws fin g body ts (wipeD ws σ2) S2
      | .ct σ2 => forL ws fin g body ts (wipeD ws σ2) S2
      | .brk σ2 => some (.nx (wipeD ws σ2), S2)
      | .ret d => some (.ret d, S2)
    | none => none
/-- ws: the names that no turn needs from the one before, nor what follows -/
def dFor (ws : List Nat) (m : MI) (g : MG) (body : MS) : MS := fun σ S => bnd (m σ S) fun src S1 => forL ws src.fin g body src.items (wipeD ws σ) S1
def whL (ws : List Nat) (t : MT) (body : MS) : Nat → MS
  | 0, _, _ => none
  | k + 1, σ, S => bnd (t σ S) fun b S1 => if b = true then bnd (body σ S1) fun f S2 => match f with
      | .nx σ2 => whL ws t body k (wipeD ws σ2) S2
      | .ct σ2 => whL ws t body k (wipeD ws σ2) S2
      | .brk σ2 => some (.nx (wipeD ws σ2), S2)
      | .ret d => some (.ret d, S2)
    else some (.nx σ, S1)
def dWhile (ws : List Nat) (fuel : Nat) (t : MT) (body : MS) : MS := fun σ S => whL ws t body fuel (wipeD ws σ) S
def compL (fin : SH → Bool) (g : MG) (c : MT) (elt : ME) (σ : En) : List (SH → Option D) → List D → SH → Option (List D × SH)
  | [], acc, S => if fin S = true then some (acc, S) else none
  | t :: ts, acc, S => match t S with
    | some d => bnd (g d σ S) fun σ1 S1 => bnd (c σ1 S1) fun b S2 => if b = true then
        (if acc.length < sizeLine then bnd (elt σ1 S2) fun y S3 => compL fin g c elt σ ts (acc ++ [y]) S3 else none)
        else compL fin g c elt σ ts acc S2
    | none => none
def dComp (live : Bool) (m : MI) (g : MG) (c : MT) (elt : ME) (vs : List Nat) : ME := fun σ S => bnd (m σ S) fun src S1 => bnd (compL src.fin g c elt (wipeD vs σ) src.items [] S1) fun ds S2 => newL live ds S2
def dYes : MT := fun _ S => some (true, S)
section
variable {X : Cx} {cl : Nat → Addr} {tg iter e : Expr} {body : List Stmt} {pos : Pos} {m : MI} {g : MG} {vs : List Nat} {mb : MS} {mt : MT} {me : ME}
theorem s_for {ws : List Nat} (hp : PassesOwn (model X.prog X.w) X.A X.env X.xe) (hc : X.calm = true) (hi : PI X tg iter (LI X.K cl m)) (hg : PG X tg (LG X.K cl vs g)) (hb : PSs X body (LS X.K cl mb))
    (hs : ∀ x, foldedSetIterable iter X.env x = pure x := by intro _; rfl) : PS X (.For tg iter body [] pos) (LS X.K cl (dFor ws m g mb)) := by
  refine (ps_for hp hc hi hg hb hs).imp fun Z σ H q => ?_
  obtain ⟨σd, S, B, F, φ, s, rs, o⟩ := q
  obtain ⟨src, S1, e1, o1⟩ := okS_bnd o
  refine ⟨σd, S, B, F, φ, s, rs, src, S1, e1, fun F1 φ1 H1 J s1 x1 it => ?_⟩
  refine ⟨fun i mm σ' H' => mm = src.items.length - i ∧ i ≤ src.items.length ∧ ∃ σd' S' F' φ', Sim X.K cl S' B F' φ' H' ∧ Ext S1 F1 φ1 H1 S' F' φ' H' ∧ RS X.K cl F' φ' S'.len σd' σ' ∧ OkS X.K cl S' B F' φ' H' (forL ws src.fin g mb (src.items.drop i) σd' S') Z,
    ⟨src.items.length, by simp, Nat.zero_le _, wipeD ws σd, S1, F1, φ1, s1, .refl s1, (x1.rs rs).wipe ws, by rw [List.drop_zero]; exact o1.ext x1⟩, ?_⟩
  rintro i mm σ' H' ⟨rfl, hi, σd', S', F', φ', s', x', rs', o'⟩
  obtain ⟨turn, stop⟩ := it S' B F' φ' H' s' x'.fz x'.len x'.phi i
  by_cases hlt : i < src.items.length
  · rw [List.drop_eq_getElem_cons hlt] at o'
    unfold forL at o'
    cases ht : src.items[i] S' with
    | none => rw [ht] at o'; obtain ⟨_, _, z, _⟩ := o'; cases z
    | some d =>
      rw [ht] at o'
      dsimp only at o'
      obtain ⟨ld, go, yld⟩ := turn _ d (List.getElem?_eq_getElem hlt) ht
      refine .inr ⟨go, fun σ3 H3 => ∃ σd3 S3 F3 φ3, Sim X.K cl S3 B F3 φ3 H3 ∧ Ext S1 F1 φ1 H1 S3 F3 φ3 H3 ∧ RS X.K cl F3 φ3 S3.len σd3 σ3 ∧ OkS X.K cl S3 B F3 φ3 H3 (forL ws src.fin g mb (src.items.drop (i + 1)) σd3 S3) Z, fun σ3 H3 h => ⟨src.items.length - (i + 1), by omega, rfl, hlt, h⟩, fun x H2 y => ?_⟩
      obtain ⟨F2, s2, x2, dr⟩ := yld x H2 y
      have o2 := o'.ext x2
      obtain ⟨σ3, S3, e3, o3⟩ := okS_bnd o2
      refine ⟨d, σd', S', B, F2, φ', s2, x2.rs rs', dr, ld, σ3, S3, e3, fun F4 φ4 H4 σ4 s4 x4 rs4 _ => ?_⟩
      obtain ⟨f, S5, e5, o5⟩ := okS_bnd (o3.ext x4)
      refine ⟨σ3, S3, B, F4, φ4, s4, rs4, f, S5, e5, ?_⟩
      cases f with
      | nx σ5 => exact fun F6 φ6 H6 σ6 s6 x6 rs6 => ⟨wipeD ws σ5, S5, F6, φ6, s6, x'.trans (x2.trans (x4.trans x6)), rs6.wipe ws, o5.ext x6⟩
      | ct σ5 => exact fun F6 φ6 H6 σ6 s6 x6 rs6 => ⟨wipeD ws σ5, S5, F6, φ6, s6, x'.trans (x2.trans (x4.trans x6)), rs6.wipe ws, o5.ext x6⟩
      | brk σ5 => obtain ⟨_, _, z, k⟩ := o5; cases z; exact fun F6 φ6 H6 σ6 s6 x6 rs6 => k F6 φ6 H6 σ6 s6 x6 (rs6.wipe ws)
      | ret d => obtain ⟨_, _, z, k⟩ := o5; cases z; exact k
  · have hd : src.items.drop i = [] := List.drop_eq_nil_iff.mpr (by omega)
    rw [hd] at o'
    unfold forL at o'
    by_cases hf : src.fin S' = true
    · rw [if_pos hf] at o'
      obtain ⟨_, _, z, k⟩ := o'
      cases z
      exact .inl ⟨stop (by omega) hf, k F' φ' H' σ' s' (.refl s') rs'⟩
    · rw [if_neg hf] at o'; obtain ⟨_, _, z, _⟩ := o'; cases z
theorem s_while {ws : List Nat} {c : Expr} {fuel : Nat} (hp : PassesOwn (model X.prog X.w) X.A X.env X.xe) (hc : PT X c (LT X.K cl mt)) (hb : PSs X body (LS X.K cl mb)) : PS X (.While c body [] pos) (LS X.K cl (dWhile ws fuel mt mb)) := by
  refine (ps_while hp hc hb).imp fun Z σ H q => ?_
  obtain ⟨σd, S, B, F, φ, s, rs, o⟩ := q
  refine ⟨fun k σ' H' => ∃ σd' S' F' φ', Sim X.K cl S' B F' φ' H' ∧ RS X.K cl F' φ' S'.len σd' σ' ∧ OkS X.K cl S' B F' φ' H' (whL ws mt mb k σd' S') Z, ⟨fuel, wipeD ws σd, S, F, φ, s, rs.wipe ws, o⟩, ?_⟩
  rintro k σ' H' ⟨σd', S', F', φ', s', rs', o'⟩
  cases k with
  | zero => obtain ⟨_, _, z, _⟩ := o'; cases z
  | succ k =>
    unfold whL at o'
    obtain ⟨b, S1, e1, o1⟩ := okS_bnd o'
    refine LT.then_ s' rs' e1 fun F1 φ1 H1 s1 x1 rs1 => ?_
    split
    · rename_i hb; rw [if_pos hb] at o1
      obtain ⟨f, S2, e2, o2⟩ := okS_bnd (o1.ext x1)
      refine ⟨fun σ3 H3 => ∃ σd3 S3 F3 φ3, Sim X.K cl S3 B F3 φ3 H3 ∧ RS X.K cl F3 φ3 S3.len σd3 σ3 ∧ OkS X.K cl S3 B F3 φ3 H3 (whL ws mt mb k σd3 S3) Z, fun σ3 H3 h => ⟨k, Nat.lt_succ_self _, h⟩, ?_⟩
      refine ⟨σd', S1, B, F1, φ1, s1, rs1, f, S2, e2, ?_⟩
      cases f with
      | nx σ5 => exact fun F6 φ6 H6 σ6 s6 x6 rs6 => ⟨wipeD ws σ5, S2, F6, φ6, s6, rs6.wipe ws, o2.ext x6⟩
      | ct σ5 => exact fun F6 φ6 H6 σ6 s6 x6 rs6 => ⟨wipeD ws σ5, S2, F6, φ6, s6, rs6.wipe ws, o2.ext x6⟩
      | brk σ5 => obtain ⟨_, _, z, k⟩ := o2; cases z; exact fun F6 φ6 H6 σ6 s6 x6 rs6 => k F6 φ6 H6 σ6 s6 x6 (rs6.wipe ws)
      | ret d => obtain ⟨_, _, z, k⟩ := o2; cases z; exact k
    · rename_i hb; rw [if_neg hb] at o1
      obtain ⟨_, _, z, k⟩ := o1
      cases z
      exact k F1 φ1 H1 σ' s1 x1 rs1
theorem wipe_get {σ : L2.St} {i : Nat} : ∀ {vs : List Nat}, i ∉ vs → (wipe σ vs)[i]? = σ[i]?
  | [], _ => rfl
  | v :: vs, h => by
    unfold wipe
    rw [List.mem_cons, not_or] at h
    rw [List.getElem?_set_ne (fun e => h.1 e.symm)]
    exact wipe_get h.2
theorem wipe_in {σ : L2.St} {i : Nat} : ∀ {vs : List Nat}, i ∈ vs → i < σ.length → (wipe σ vs)[i]? = some none
  | v :: vs, h, hl => by
    unfold wipe
    by_cases e : v = i
    · subst e
      rw [List.getElem?_set_self (by rw [wipe_length]; exact hl)]
    · rw [List.getElem?_set_ne e]
      rcases List.mem_cons.mp h with h | h
      · exact absurd h.symm e
      · exact wipe_in h hl
theorem wipe_eq {σ σ' : L2.St} {vs : List Nat} (h : σ'.length = σ.length) (k : ∀ j, j ∉ vs → σ'[j]? = σ[j]?) : wipe σ' vs = wipe σ vs := by
  apply List.ext_getElem?
  intro i
  by_cases hi : i ∈ vs
  · by_cases hl : i < σ.length
    · rw [wipe_in hi (by omega), wipe_in hi hl]
    · rw [List.getElem?_eq_none (by rw [wipe_length]; omega), List.getElem?_eq_none (by rw [wipe_length]; omega)]
  · rw [wipe_get hi, wipe_get hi]; exact k i hi
theorem wipe_wipe {σ : L2.St} {vs : List Nat} : wipe (wipe σ vs) vs = wipe σ vs := wipe_eq (wipe_length _ _) fun j h => wipe_get h
theorem wipeD_len : ∀ (vs : List Nat) (σd : En), (wipeD vs σd).length = σd.length
  | [], _ => rfl
  | i :: r, σd => by unfold wipeD; rw [wipeD_len r, List.length_set]
theorem wipeD_some : ∀ {vs : List Nat} {σd : En} {i : Nat} {d : D}, (wipeD vs σd)[i]? = some (some d) → σd[i]? = some (some d) ∧ i ∉ vs
  | [], _, _, _, h => ⟨h, by simp⟩
  | v :: vs, σd, i, d, h => by
    unfold wipeD at h
    obtain ⟨h1, h2⟩ := wipeD_some h
    by_cases e : v = i
    · subst e
      rw [List.getElem?_set, if_pos rfl] at h1
      split at h1 <;> cases h1
    · rw [List.getElem?_set_ne e] at h1
      exact ⟨h1, by rw [List.mem_cons, not_or]; exact ⟨fun z => e z.symm, h2⟩⟩
theorem RS.wipe2 {K : PySem.W.Frag} {F : Hp} {φ : Nat → Addr} {k : Nat} {σd : En} {σ : L2.St} (r : RS K cl F φ k σd σ) (vs : List Nat) : RS K cl F φ k (wipeD vs σd) (L2.wipe σ vs) := by
  refine ⟨by rw [wipeD_len, wipe_length]; exact r.1, fun i d e => ?_⟩
  obtain ⟨h1, h2⟩ := wipeD_some e
  obtain ⟨a, v, b, c⟩ := r.2 i d h1
  exact ⟨a, v, by rw [wipe_get h2]; exact b, c⟩
/-- another object, neither data nor one that may change here -/
def At (L : Addr) (us : List V) (S : SH) (F : Hp) (φ : Nat → Addr) (H : Hp) : Prop := H L = some (.lst us) ∧ F L = none ∧ ∀ n, n < S.len → φ n ≠ L
theorem At.ext {L : Addr} {us : List V} {S S' : SH} {F F' H H' : Hp} {φ φ' : Nat → Addr} (x : Ext S F φ H S' F' φ' H') (a : At L us S F φ H) : At L us S' F' φ' H' := by
  refine ⟨x.keep L _ a.1 a.2.2, x.fr L _ a.1 a.2.1 a.2.2, fun n hn e => ?_⟩
  by_cases h : n < S.len
  · exact a.2.2 n h ((x.phi n h).symm.trans e)
  · have := x.new n (Nat.le_of_not_lt h) hn
    rw [e, a.1] at this; cases this
theorem Sim.other {K : PySem.W.Frag} {S : SH} {B : List Nat} {F H : Hp} {φ : Nat → Addr} (s : Sim K cl S B F φ H) {L : Addr} (o : HO) (fL : F L = none) (np : ∀ n, n < S.len → φ n ≠ L) : Sim K cl S B F φ (upd H L o) := by
  refine ⟨fun a u e => ?_, fun n u e => ⟨(s.ob n u e).1, ?_⟩, s.inj, s.wf, s.bs, s.bl⟩
  · rw [upd_ne (ne_of_none e fL)]; exact s.le a u e
  · rw [upd_ne (np n (List.getElem?_eq_some_iff.mp e).1)]; exact (s.ob n u e).2
theorem Ext.other {S S' : SH} {F F' H H' : Hp} {φ φ' : Nat → Addr} (x : Ext S F φ H S' F' φ' H') {L : Addr} (o : HO) (h : H L = none) : Ext S F φ H S' F' φ' (upd H' L o) :=
  ⟨x.fz, x.len, x.b, x.phi, x.new, fun a u e n => by rw [upd_ne (ne_of_none e h)]; exact x.keep a u e n, fun n hn => by
    by_cases e : φ n = L
    · rw [e, upd_same]; simp
    · rw [upd_ne e]; exact x.tr n hn, x.fr⟩
theorem newL_at {K : PySem.W.Frag} {S0 S : SH} {B : List Nat} {F0 F H0 H : Hp} {φ0 φ : Nat → Addr} {Q : VK} {live : Bool} {ds : List D} {us : List V} {L : Addr} (h : OkE K cl S0 B F0 φ0 H0 (newL live ds S) Q) (s : Sim K cl S B F φ H) (x : Ext S0 F0 φ0 H0 S F φ H)
    (r : DRA K cl F φ ds us) (l : ∀ d ∈ ds, d.lt S.len) (a : At L us S F φ H) (h0 : H0 L = none) : Q (.ref L) H := by
  -- as if the object were laid just now
  obtain ⟨aL, fL, np⟩ := a
  let Hm : Hp := fun b => if b = L then none else H b
  have hm : Hm L = none := if_pos rfl
  have ne : ∀ b, b ≠ L → Hm b = H b := fun b hb => if_neg hb
  have sm : Sim K cl S B F φ Hm := ⟨fun b o e => by rw [ne b (ne_of_none e fL)]; exact s.le b o e, fun n o e => ⟨(s.ob n o e).1, by rw [ne _ (np n (List.getElem?_eq_some_iff.mp e).1)]; exact (s.ob n o e).2⟩, s.inj, s.wf, s.bs, s.bl⟩
  have xm : Ext S0 F0 φ0 H0 S F φ Hm := ⟨x.fz, x.len, x.b, x.phi, x.new, fun b o e n => by rw [ne b (ne_of_none e h0)]; exact x.keep b o e n, fun n hn e => by
      by_cases q : φ0 n = L
      · exact np n (Nat.lt_of_lt_of_le hn x.len) ((x.phi n hn).trans q)
      · rw [ne _ q] at e; exact x.tr n hn e, x.fr⟩
  have same : Same Hm H := fun b o e => by
    by_cases q : b = L
    · rw [q, hm] at e; cases e
    · rw [ne b q] at e; exact e
  exact (newL_ok (h.ext xm) sm r l).2 L H hm same aL
theorem e_comp {K : PySem.W.Frag} {live : Bool} {σ : L2.St} {H : Hp} {Q : VK} {ws : List Nat} (hw : ∀ j ∈ vs, j ∈ ws) (q : LE K cl (dComp live m g mt me ws) σ H Q) : tLc (LI K cl m) (LG K cl vs g) (LT K cl mt) (LE K cl me) ws σ H Q := by
  obtain ⟨σd, S, B, F, φ, s, rs, o⟩ := q
  obtain ⟨src, S1, e1, o1⟩ := okE_bnd o
  refine ⟨σd, S, B, F, φ, s, rs, src, S1, e1, fun F1 φ1 H1 J s1 x1 it => ?_⟩
  intro L hL
  have o1 := o1.ext x1
  have smL : Same H1 (upd H1 L (.lst [])) := Same.new (Same.refl _) hL
  obtain ⟨fL, pL⟩ := s1.none_p hL
  refine ⟨fun i mm H' => mm = src.items.length - i ∧ i ≤ src.items.length ∧ ∃ acc us S' F' φ', Sim K cl S' B F' φ' H' ∧ Ext S1 F1 φ1 H1 S' F' φ' H' ∧ At L us S' F' φ' H' ∧ DRA K cl F' φ' acc us ∧ (∀ d ∈ acc, d.lt S'.len) ∧
      OkE K cl S1 B F1 φ1 H1 (bnd (compL src.fin g mt me (wipeD ws σd) (src.items.drop i) acc S') fun ds S2 => newL live ds S2) Q,
    ⟨src.items.length, by simp, Nat.zero_le _, [], [], S1, F1, φ1, s1.keep smL, Ext.ofSame s1 smL, ⟨upd_same, fL, pL⟩, .nil, fun _ z => absurd z (by simp), by rw [List.drop_zero]; exact o1⟩, ?_⟩
  rintro i mm H' ⟨rfl, hi, acc, us, S', F', φ', s', x', at', ra, la, o'⟩
  obtain ⟨turn, stop⟩ := it S' B F' φ' H' s' x'.fz x'.len x'.phi i
  by_cases hlt : i < src.items.length
  · rw [List.drop_eq_getElem_cons hlt] at o'
    unfold compL at o'
    cases ht : src.items[i] S' with
    | none => rw [ht] at o'; obtain ⟨_, _, z, _⟩ := o'; cases z
    | some d =>
      rw [ht] at o'
      dsimp only at o'
      obtain ⟨ld, go, yld⟩ := turn _ d (List.getElem?_eq_getElem hlt) ht
      refine .inr ⟨go, fun H3 => ∃ acc us S' F' φ', Sim K cl S' B F' φ' H3 ∧ Ext S1 F1 φ1 H1 S' F' φ' H3 ∧ At L us S' F' φ' H3 ∧ DRA K cl F' φ' acc us ∧ (∀ d ∈ acc, d.lt S'.len) ∧
        OkE K cl S1 B F1 φ1 H1 (bnd (compL src.fin g mt me (wipeD ws σd) (src.items.drop (i + 1)) acc S') fun ds S2 => newL live ds S2) Q, fun H3 h => ⟨src.items.length - (i + 1), by omega, rfl, hlt, h⟩, fun x H2 y => ?_⟩
      obtain ⟨F2, s2, x2, dr⟩ := yld x H2 y
      obtain ⟨out, S9, eo, ko⟩ := okE_bnd o'
      obtain ⟨σ3, S3, e3, e4⟩ := bnd_of eo
      obtain ⟨b, S4, e5, e6⟩ := bnd_of e4
      refine ⟨d, wipeD ws σd, S', B, F2, φ', s2, (((x1.trans x').trans x2).rs rs).wipe2 ws, dr, ld, σ3, S3, e3, fun F4 φ4 H4 σ4 s4 x4 rs4 hk => ⟨?_, ?_⟩⟩
      · exact (wipe_eq hk.1 fun j hj => hk.2 j fun z => hj (hw j z)).trans wipe_wipe
      · refine LT.then_ s4 rs4 e5 fun F5 φ5 H5 s5 x5 rs5 => ?_
        have xa := (x2.trans x4).trans x5
        split
        · rename_i hb
          rw [if_pos hb] at e6
          by_cases hz : acc.length < sizeLine
          · rw [if_pos hz] at e6
            obtain ⟨y1, S6, e7, e8⟩ := bnd_of e6
            refine LE.then_ s5 rs5 e7 fun F6 φ6 H6 u s6 x6 rs6 dr6 l6 => ?_
            have xb := xa.trans x6
            have at6 := at'.ext xb
            have hlen := ra.length
            refine ⟨us, at6.1, by omega, acc ++ [y1], us ++ [u], S6, F6, φ6, s6.other _ at6.2.1 at6.2.2, (x'.trans xb).other _ hL, ⟨upd_same, at6.2⟩, ?_, fun z hz' => ?_, ?_⟩
            · exact DRA.append (xb.dra la ra) (.cons dr6 .nil)
            · rcases List.mem_append.mp hz' with h | h
              · exact xb.lt (la z h)
              · rw [List.mem_singleton.mp h]; exact l6
            · rw [e8]; exact ko
          · rw [if_neg hz] at e6; cases e6
        · rename_i hb
          rw [if_neg hb] at e6
          exact ⟨acc, us, S4, F5, φ5, s5, x'.trans xa, at'.ext xa, xa.dra la ra, fun z hz' => xa.lt (la z hz'), by rw [e6]; exact ko⟩
  · have hd : src.items.drop i = [] := List.drop_eq_nil_iff.mpr (by omega)
    rw [hd] at o'
    unfold compL at o'
    by_cases hf : src.fin S' = true
    · rw [if_pos hf] at o'
      exact .inl ⟨stop (by omega) hf, newL_at o' s' x' ra la at' hL⟩
    · rw [if_neg hf] at o'; obtain ⟨_, _, z, _⟩ := o'; cases z
theorem ts_nil : PTs X [] (LT X.K cl dYes) := by
  refine ⟨fun pins s σ H Q I h => pts_nil.run pins s σ H Q I ?_⟩
  obtain ⟨σd, S, B, F, φ, s, rs, d, S1, e, k⟩ := h
  cases e
  exact k F φ H s (.refl s)
theorem ts_one {c : Expr} (h : PT X c (LT X.K cl mt)) : PTs X [c] (LT X.K cl mt) := pts_one h
theorem k_comp {elt : Expr} {ifs : List Expr} {scope : Scope} {own : List (Str × Nat)} {live : Bool} (hc : X.calm = true) (hN : X.N.Nodup) (hi : PI X tg iter (LI X.K cl m)) (ok : BlkOk X.N X.env.scope scope own)
    (hg : ∀ (s : Shared) (H : Hp) (C : Addr) (cs : List (Str × Addr)) (fp : List Addr), PG (X.blk s H scope (compEnvC scope cs C X.env) fp) tg (LG X.K cl vs g)) (ht : ∀ (s : Shared) (H : Hp) (C : Addr) (cs : List (Str × Addr)) (fp : List Addr), PTs (X.blk s H scope (compEnvC scope cs C X.env) fp) ifs (LT X.K cl mt))
    (he : ∀ (s : Shared) (H : Hp) (C : Addr) (cs : List (Str × Addr)) (fp : List Addr), PE (X.blk s H scope (compEnvC scope cs C X.env) fp) elt (LE X.K cl me)) (hw : ∀ j ∈ vs, j ∈ own.map (·.2) := by decide) (hs : ∀ x, foldedSetIterable iter X.env x = pure x := by intro _; rfl) :
    PE X (.ListComp elt [⟨tg, iter, ifs, 0⟩] scope pos) (LE X.K cl (dComp live m g mt me (own.map (·.2)))) :=
  (pe_lc hc hN hi ok hg ht he hs).imp fun _ _ _ q => e_comp hw q
theorem s_setComp {i : Nat} {y : Str} {py spos : Pos} {elt : Expr} {ifs : List Expr} {scope : Scope} {own : List (Str × Nat)} {live : Bool} (hc : X.calm = true) (hN : X.N.Nodup) (hy : X.N[i]? = some y) (hyl : X.env.scope.names.lookup y = some .local)
    (hsw : swapsWith (.ListComp elt [⟨tg, iter, ifs, 0⟩] scope pos) (some (.Name y py)) spos.line X.env = pure true) (hi : PI X tg iter (LI X.K cl m)) (ok : BlkOk X.N X.env.scope scope own)
    (hg : ∀ (s : Shared) (H : Hp) (C : Addr) (cs : List (Str × Addr)) (fp : List Addr), PG (X.blk s H scope (compEnvC scope cs C X.env) fp) tg (LG X.K cl vs g)) (ht : ∀ (s : Shared) (H : Hp) (C : Addr) (cs : List (Str × Addr)) (fp : List Addr), PTs (X.blk s H scope (compEnvC scope cs C X.env) fp) ifs (LT X.K cl mt))
    (he : ∀ (s : Shared) (H : Hp) (C : Addr) (cs : List (Str × Addr)) (fp : List Addr), PE (X.blk s H scope (compEnvC scope cs C X.env) fp) elt (LE X.K cl me)) (hw : ∀ j ∈ vs, j ∈ own.map (·.2) := by decide) (hs : ∀ x, foldedSetIterable iter X.env x = pure x := by intro _; rfl) :
    PS X (.Assign [.Name y py] (.ListComp elt [⟨tg, iter, ifs, 0⟩] scope pos) spos) (LS X.K cl (dSet i (dComp live m g mt me (own.map (·.2))))) := by
  refine (ps_setLc hc hN hy hyl hsw hi ok hg ht he hs).imp fun Z σ H q => ?_
  obtain ⟨σd, S, B, F, φ, s, rs, o⟩ := q
  obtain ⟨d, S1, e1, o1⟩ := okS_bnd o
  obtain ⟨_, _, z, k⟩ := o1
  cases z
  exact e_comp hw ⟨σd, S, B, F, φ, s, rs, d, S1, e1, fun F1 φ1 H1 u s1 x1 dr l => k F1 φ1 H1 _ s1 x1 ((x1.rs rs).set i dr l)⟩
end
end Pv
namespace Pv
open PySem PySem.Spec PyProof.Rows L2

/-! ### == of data -/
mutual
def peq : P → P → Bool
  | .non, .non => true
  | .bl a, .bl b => a == b
  | .bl a, .int j => (if a = true then 1 else 0) == j
  | .int i, .bl b => i == (if b = true then 1 else 0)
  | .int i, .int j => i == j
  | .str x, .str y => x == y
  | .lst xs, .lst ys => peqA xs ys
  | .tup xs, .tup ys => peqA xs ys
  | _, _ => false
def peqA : List P → List P → Bool
  | [], [] => true
  | x :: xs, y :: ys => peq x y && peqA xs ys
  | _, _ => false
end
/-- data of nested lists and tuples, so deep at most -/
def okd : Nat → P → Bool
  | _, .non => true
  | _, .bl _ => true
  | _, .int _ => true
  | _, .str _ => true
  | k + 1, .lst ps => ps.all (okd k)
  | k + 1, .tup ps => ps.all (okd k)
  | _, _ => false
theorem peqA_len : ∀ {xs ys : List P}, xs.length ≠ ys.length → peqA xs ys = false
  | [], [], h => absurd rfl h
  | [], _ :: _, _ => by simp [peqA]
  | _ :: _, [], _ => by simp [peqA]
  | x :: xs, y :: ys, h => by
    rw [peqA, peqA_len (xs := xs) (ys := ys) (fun e => h (by rw [List.length_cons, List.length_cons, e])), Bool.and_false]
def pAt (xs ys : List P) (j : Nat) : Bool := peq (xs.getD j .non) (ys.getD j .non)
theorem peqA_all : ∀ {xs ys : List P}, xs.length = ys.length → peqA xs ys = (List.range xs.length).all (pAt xs ys)
  | [], [], _ => by simp [peqA]
  | [], _ :: _, h => by simp at h
  | _ :: _, [], h => by simp at h
  | x :: xs, y :: ys, h => by
    have h' : xs.length = ys.length := by simpa using h
    rw [peqA, peqA_all h', List.length_cons, List.range_succ_eq_map, List.all_cons, List.all_map]
    rfl
theorem pAt_get {xs ys : List P} {j : Nat} {x y : P} (h1 : xs[j]? = some x) (h2 : ys[j]? = some y) : pAt xs ys j = peq x y := by
  unfold pAt
  rw [List.getD_eq_getElem?_getD, List.getD_eq_getElem?_getD, h1, h2]
  rfl
section
variable {X : Cx} {cl : Nat → Addr} {pins : List (Addr × Obj)} {σ : L2.St} {H F : Hp} {s : Shared}
theorem RpA.get {K : PySem.W.Frag} : ∀ {ps : List P} {vs : List V} {i : Nat} {v : V}, RpA K cl F ps vs → vs[i]? = some v → ∃ p, ps[i]? = some p ∧ Rp K cl F p v
  | _, _, _, _, .nil, e => by simp at e
  | _, _, 0, _, .cons r _, e => by simp at e; subst e; exact ⟨_, rfl, r⟩
  | _, _, i + 1, _, .cons _ t, e => by
    obtain ⟨u, h1, h2⟩ := RpA.get (i := i) t (by simpa using e)
    exact ⟨u, by simpa using h1, h2⟩
theorem RpA.len {K : PySem.W.Frag} {ps : List P} {vs : List V} (h : RpA K cl F ps vs) : ps.length = vs.length := by
  induction ps generalizing vs with
  | nil => cases h; rfl
  | cons x r ih => cases h with | cons a b => rw [List.length_cons, List.length_cons, ih b]
/-- a list's, a tuple's items, by place -/
theorem lst_items (I : L2.Inv X pins σ H s) (sf : Same F H) {ps : List P} {v : V} {u : Value} (r : Rp X.K cl F (.lst ps) v) (ru : RelV v u) : ∃ a its, u = .ref a ∧ v = .ref a ∧ s.heap.IsList a its ∧ its.size = ps.length ∧ ∀ j (hj : j < its.size), ∃ p w, ps[j]? = some p ∧ Rp X.K cl F p w ∧ RelV w its[j] := by
  cases r with
  | @lst a _ vs q t =>
    cases ru
    obtain ⟨its, rv, pl, hz⟩ := I.list (SqL.mono sf q)
    have e1 := rv.length
    have e2 := t.len
    refine ⟨a, its.toArray, rfl, rfl, pl.isList, by rw [List.size_toArray]; omega, fun j hj => ?_⟩
    have hj2 : j < its.length := by simpa using hj
    have hv : vs[j]? = some vs[j] := List.getElem?_eq_getElem (by omega)
    obtain ⟨p, hp, rp⟩ := t.get hv
    obtain ⟨w, hw, rw'⟩ := rv.get hv
    refine ⟨p, vs[j], hp, rp, ?_⟩
    have : its[j] = w := by
      rw [List.getElem?_eq_getElem hj2] at hw
      exact Option.some.inj hw
    rw [List.getElem_toArray, this]
    exact rw'
theorem tup_items (I : L2.Inv X pins σ H s) (sf : Same F H) {ps : List P} {v : V} {u : Value} (r : Rp X.K cl F (.tup ps) v) (ru : RelV v u) : ∃ a its, u = .ref a ∧ v = .ref a ∧ s.heap.IsTuple a its ∧ its.size = ps.length ∧ ∀ j (hj : j < its.size), ∃ p w, ps[j]? = some p ∧ Rp X.K cl F p w ∧ RelV w its[j] := by
  cases r with
  | @tup a _ vs q t =>
    cases ru
    obtain ⟨its, rv, pl, hz⟩ := I.tuple (SqT.mono sf q)
    have e1 := rv.length
    have e2 := t.len
    refine ⟨a, its.toArray, rfl, rfl, pl, by rw [List.size_toArray]; omega, fun j hj => ?_⟩
    have hj2 : j < its.length := by simpa using hj
    have hv : vs[j]? = some vs[j] := List.getElem?_eq_getElem (by omega)
    obtain ⟨p, hp, rp⟩ := t.get hv
    obtain ⟨w, hw, rw'⟩ := rv.get hv
    refine ⟨p, vs[j], hp, rp, ?_⟩
    have : its[j] = w := by
      rw [List.getElem?_eq_getElem hj2] at hw
      exact Option.some.inj hw
    rw [List.getElem_toArray, this]
    exact rw'
theorem okd_at {k : Nat} {ps : List P} (h : ps.all (okd k) = true) {j : Nat} {p : P} (e : ps[j]? = some p) : okd k p = true := List.all_eq_true.mp h p (List.mem_of_getElem? e)
mutual
theorem peq_refl : ∀ (k : Nat) (p : P), okd k p = true → peq p p = true
  | _, .non, _ => rfl
  | _, .bl b, _ => by simp [peq]
  | _, .int i, _ => by simp [peq]
  | _, .str x, _ => by simp [peq]
  | 0, .lst _, h => by simp [okd] at h
  | 0, .tup _, h => by simp [okd] at h
  | k + 1, .lst ps, h => by rw [peq]; exact peqA_refl k ps (by simpa [okd] using h)
  | k + 1, .tup ps, h => by rw [peq]; exact peqA_refl k ps (by simpa [okd] using h)
  | 0, .dK _, h => by simp [okd] at h
  | _ + 1, .dK _, h => by simp [okd] at h
  | 0, .dT _, h => by simp [okd] at h
  | _ + 1, .dT _, h => by simp [okd] at h
  | 0, .ins _ _, h => by simp [okd] at h
  | _ + 1, .ins _ _, h => by simp [okd] at h
theorem peqA_refl : ∀ (k : Nat) (ps : List P), (∀ x, x ∈ ps → okd k x = true) → peqA ps ps = true
  | _, [], _ => rfl
  | k, p :: ps, h => by rw [peqA, peq_refl k p (h p List.mem_cons_self), peqA_refl k ps (fun x hx => h x (List.mem_cons_of_mem _ hx))]; rfl
end
/-- one address holds one datum -/
theorem Rp.uniq (I : L2.Inv X pins σ H s) (sf : Same F H) : ∀ (k : Nat) (p q : P) (v : V), okd k p = true → okd k q = true → Rp X.K cl F p v → Rp X.K cl F q v → p = q := by
  intro k
  induction k with
  | zero =>
    intro p q v hp hq r1 r2
    cases p <;> cases q <;> first | (simp [okd] at hp; done) | (simp [okd] at hq; done) | (cases r1; cases r2; rfl) | (cases r1; cases r2)
  | succ k ih =>
    have all : ∀ (ps qs : List P) (vs : List V), ps.all (okd k) = true → qs.all (okd k) = true → RpA X.K cl F ps vs → RpA X.K cl F qs vs → ps = qs := by
      intro ps
      induction ps with
      | nil => intro qs vs _ _ r1 r2; cases r1; cases r2; rfl
      | cons p ps ihp =>
        intro qs vs h1 h2 r1 r2
        cases r1 with
        | cons a b =>
          cases r2 with
          | cons c d =>
            simp only [List.all_cons, Bool.and_eq_true] at h1 h2
            rw [ih _ _ _ h1.1 h2.1 a c, ihp _ _ h1.2 h2.2 b d]
    intro p q v hp hq r1 r2
    have lt : ∀ {a : Addr} {xs ys : List V}, SqL X.K F a xs → SqT X.K F a ys → False := fun {a xs ys} h1 h2 => by
      obtain ⟨its, _, ⟨o, n, e, c, _⟩, _⟩ := I.list (SqL.mono sf h1)
      obtain ⟨its2, _, ⟨o2, e2, c2, _⟩, _⟩ := I.tuple (SqT.mono sf h2)
      rw [e] at e2; cases e2
      rw [c] at c2
      injection c2 with c3
      exact absurd c3 (by decide)
    cases p <;> cases q <;> first | (simp [okd] at hp; done) | (simp [okd] at hq; done) | (cases r1; cases r2; rfl) | (cases r1; cases r2; done) | skip
    · cases r1 with
      | tup q1 t1 =>
        cases r2 with
        | tup q2 t2 =>
          have e := I.tuple_inj (SqT.mono sf q1) (SqT.mono sf q2)
          subst e
          rw [all _ _ _ (by simpa [okd] using hp) (by simpa [okd] using hq) t1 t2]
    · cases r1 with
      | tup q1 t1 => cases r2 with | lst q2 t2 => exact (lt q2 q1).elim
    · cases r1 with
      | lst q1 t1 => cases r2 with | tup q2 t2 => exact (lt q1 q2).elim
    · cases r1 with
      | lst q1 t1 =>
        cases r2 with
        | lst q2 t2 =>
          have e := I.list_inj (SqL.mono sf q1) (SqL.mono sf q2)
          subst e
          rw [all _ _ _ (by simpa [okd] using hp) (by simpa [okd] using hq) t1 t2]
theorem flat_V {K : PySem.W.Frag} : ∀ {p : P} {v : V}, okd 0 p = true → Rp K cl F p v → flatV v = true ∧ ∀ {q : P} {w : V}, okd 0 q = true → Rp K cl F q w → eqV v w = peq p q
  | .non, _, _, .non => ⟨rfl, fun {q w} hq r => by cases q <;> first | (simp [okd] at hq; done) | (cases r; simp [eqV, peq])⟩
  | .bl a, _, _, .bl _ => ⟨rfl, fun {q w} hq r => by cases q <;> first | (simp [okd] at hq; done) | (cases r; simp [eqV, peq])⟩
  | .int i, _, _, .int _ => ⟨rfl, fun {q w} hq r => by cases q <;> first | (simp [okd] at hq; done) | (cases r; simp [eqV, peq])⟩
  | .str x, _, _, .str _ => ⟨rfl, fun {q w} hq r => by cases q <;> first | (simp [okd] at hq; done) | (cases r; simp [eqV, peq])⟩
theorem eqAt_flat (p q : P) (v w : V) (u z : Value) (A : Around) (hp : okd 0 p = true) (hq : okd 0 q = true) (r1 : Rp X.K cl F p v) (e1 : RelV v u) (r2 : Rp X.K cl F q w) (e2 : RelV w z) : SeqAt.EqAt A s u z (peq p q) := by
  obtain ⟨f1, h⟩ := flat_V hp r1
  rw [← h hq r2]
  exact eqAt_V e1 e2 f1 (flat_V hq r2).1
theorem eqAt_P (I : L2.Inv X pins σ H s) (sf : Same F H) : ∀ (k : Nat) (p q : P) (v w : V) (u z : Value) (A : Around), okd k p = true → okd k q = true → Rp X.K cl F p v → RelV v u → Rp X.K cl F q w → RelV w z → A.units + k < cLine → SeqAt.EqAt A s u z (peq p q) := by
  intro k
  induction k with
  | zero =>
    intro p q v w u z A hp hq r1 e1 r2 e2 hu
    exact eqAt_flat p q v w u z A hp hq r1 e1 r2 e2
  | succ k ih =>
    intro p q v w u z A hp hq r1 e1 r2 e2 hu
    have hu0 : A.units < cLine := by omega
    have flat : okd 0 p = true → okd 0 q = true → SeqAt.EqAt A s u z (peq p q) := fun h1 h2 => by
      have up : ∀ x : P, okd 0 x = true → okd k x = true := fun x h => by cases x <;> first | (simp [okd] at h; done) | (cases k <;> rfl)
      exact ih p q v w u z A (up p h1) (up q h2) r1 e1 r2 e2 (by omega)
    cases p with
    | dK _ => simp [okd] at hp
    | dT _ => simp [okd] at hp
    | ins _ _ => simp [okd] at hp
    | lst ps =>
      obtain ⟨a, its, eu, ev, il, hs, hi⟩ := lst_items I sf r1 e1
      subst eu
      cases q with
      | dK _ => simp [okd] at hq
      | dT _ => simp [okd] at hq
      | ins _ _ => simp [okd] at hq
      | non => cases r2; cases e2; exact SeqAt.EqAt.list_none il hu0
      | bl b => cases r2; cases e2; exact SeqAt.EqAt.list_bool b il hu0
      | int i => cases r2; obtain ⟨t, rfl⟩ := e2; exact SeqAt.EqAt.list_int i t il hu0
      | str i => cases r2; obtain ⟨t, rfl⟩ := e2; exact SeqAt.EqAt.list_str i t il hu0
      | tup qs =>
        obtain ⟨b, its2, eu2, ev2, il2, hs2, hi2⟩ := tup_items I sf r2 e2
        subst eu2
        exact SeqAt.EqAt.list_tuple il il2 hu0
      | lst qs =>
        obtain ⟨b, its2, eu2, ev2, il2, hs2, hi2⟩ := lst_items I sf r2 e2
        subst eu2
        by_cases hab : a = b
        · subst hab
          rw [ev] at r1
          rw [ev2] at r2
          rw [Rp.uniq I sf _ _ _ _ hp hq r1 r2, peq_refl _ _ hq]
          exact SeqAt.EqAt.same _
        · rw [peq]
          by_cases hsz : its.size = its2.size
          · rw [peqA_all (by omega : ps.length = qs.length), ← hs]
            refine SeqAt.EqAt.of_refs hab (SeqAt.RcAt.lists il il2 hsz hu0 fun j h1 h2 => ?_)
            obtain ⟨x, w1, hx, rx, ex⟩ := hi j h1
            obtain ⟨y, w2, hy, ry, ey⟩ := hi2 j h2
            rw [pAt_get hx hy]
            exact ih x y w1 w2 _ _ A.in1 (okd_at (by simpa only [okd] using hp) hx) (okd_at (by simpa only [okd] using hq) hy) rx ex ry ey (by show A.units + 1 + k < cLine; omega)
          · rw [peqA_len (by omega : ps.length ≠ qs.length)]
            exact SeqAt.EqAt.of_refs hab (SeqAt.RcAt.lists_lengths il il2 (by simpa using hsz) hu0)
    | tup ps =>
      obtain ⟨a, its, eu, ev, il, hs, hi⟩ := tup_items I sf r1 e1
      subst eu
      cases q with
      | dK _ => simp [okd] at hq
      | dT _ => simp [okd] at hq
      | ins _ _ => simp [okd] at hq
      | non => cases r2; cases e2; exact SeqAt.EqAt.tuple_none il hu0
      | bl b => cases r2; cases e2; exact SeqAt.EqAt.tuple_bool b il hu0
      | int i => cases r2; obtain ⟨t, rfl⟩ := e2; exact SeqAt.EqAt.tuple_int i t il hu0
      | str i => cases r2; obtain ⟨t, rfl⟩ := e2; exact SeqAt.EqAt.tuple_str i t il hu0
      | lst qs =>
        obtain ⟨b, its2, eu2, ev2, il2, hs2, hi2⟩ := lst_items I sf r2 e2
        subst eu2
        exact SeqAt.EqAt.tuple_list il il2 hu0
      | tup qs =>
        obtain ⟨b, its2, eu2, ev2, il2, hs2, hi2⟩ := tup_items I sf r2 e2
        subst eu2
        by_cases hab : a = b
        · subst hab
          rw [ev] at r1
          rw [ev2] at r2
          rw [Rp.uniq I sf _ _ _ _ hp hq r1 r2, peq_refl _ _ hq]
          exact SeqAt.EqAt.same _
        · rw [peq]
          have main := SeqAt.RcAt.tuples (A := A) (s := s) (e := pAt ps qs) il il2 hu0 fun j h1 h2 => by
            obtain ⟨x, w1, hx, rx, ex⟩ := hi j h1
            obtain ⟨y, w2, hy, ry, ey⟩ := hi2 j h2
            rw [pAt_get hx hy]
            exact ih x y w1 w2 _ _ A.in1 (okd_at (by simpa only [okd] using hp) hx) (okd_at (by simpa only [okd] using hq) hy) rx ex ry ey (by show A.units + 1 + k < cLine; omega)
          by_cases hsz : its.size = its2.size
          · rw [peqA_all (by omega : ps.length = qs.length), ← hs]
            rw [hsz, Nat.min_self, beq_self_eq_true, Bool.and_true, ← hsz] at main
            exact SeqAt.EqAt.of_refs hab main
          · rw [peqA_len (by omega : ps.length ≠ qs.length)]
            have : (its.size == its2.size) = false := beq_eq_false_iff_ne.mpr hsz
            rw [this, Bool.and_false] at main
            exact SeqAt.EqAt.of_refs hab main
    | non =>
      cases q with
      | lst qs => obtain ⟨b, its2, eu2, ev2, il2, hs2, hi2⟩ := lst_items I sf r2 e2; subst eu2; cases r1; cases e1; exact SeqAt.EqAt.none_list il2 hu0
      | tup qs => obtain ⟨b, its2, eu2, ev2, il2, hs2, hi2⟩ := tup_items I sf r2 e2; subst eu2; cases r1; cases e1; exact SeqAt.EqAt.none_tuple il2 hu0
      | dK _ => simp [okd] at hq
      | dT _ => simp [okd] at hq
      | ins _ _ => simp [okd] at hq
      | _ => exact flat rfl rfl
    | bl c =>
      cases q with
      | lst qs => obtain ⟨b, its2, eu2, ev2, il2, hs2, hi2⟩ := lst_items I sf r2 e2; subst eu2; cases r1; cases e1; exact SeqAt.EqAt.bool_list c il2 hu0
      | tup qs => obtain ⟨b, its2, eu2, ev2, il2, hs2, hi2⟩ := tup_items I sf r2 e2; subst eu2; cases r1; cases e1; exact SeqAt.EqAt.bool_tuple c il2 hu0
      | dK _ => simp [okd] at hq
      | dT _ => simp [okd] at hq
      | ins _ _ => simp [okd] at hq
      | _ => exact flat rfl rfl
    | int c =>
      cases q with
      | lst qs => obtain ⟨b, its2, eu2, ev2, il2, hs2, hi2⟩ := lst_items I sf r2 e2; subst eu2; cases r1; obtain ⟨t, rfl⟩ := e1; exact SeqAt.EqAt.int_list c t il2 hu0
      | tup qs => obtain ⟨b, its2, eu2, ev2, il2, hs2, hi2⟩ := tup_items I sf r2 e2; subst eu2; cases r1; obtain ⟨t, rfl⟩ := e1; exact SeqAt.EqAt.int_tuple c t il2 hu0
      | dK _ => simp [okd] at hq
      | dT _ => simp [okd] at hq
      | ins _ _ => simp [okd] at hq
      | _ => exact flat rfl rfl
    | str c =>
      cases q with
      | lst qs => obtain ⟨b, its2, eu2, ev2, il2, hs2, hi2⟩ := lst_items I sf r2 e2; subst eu2; cases r1; obtain ⟨t, rfl⟩ := e1; exact SeqAt.EqAt.str_list c t il2 hu0
      | tup qs => obtain ⟨b, its2, eu2, ev2, il2, hs2, hi2⟩ := tup_items I sf r2 e2; subst eu2; cases r1; obtain ⟨t, rfl⟩ := e1; exact SeqAt.EqAt.str_tuple c t il2 hu0
      | dK _ => simp [okd] at hq
      | dT _ => simp [okd] at hq
      | ins _ _ => simp [okd] at hq
      | _ => exact flat rfl rfl
theorem rcAt_P (I : L2.Inv X pins σ H s) (sf : Same F H) (k : Nat) (p q : P) (v w : V) (u z : Value) (A : Around) (hp : okd (k + 1) p = true) (hq : okd (k + 1) q = true) (r1 : Rp X.K cl F p v) (e1 : RelV v u) (r2 : Rp X.K cl F q w) (e2 : RelV w z) (hu : A.units + k + 1 < cLine) : SeqAt.RcAt A s u z (peq p q) := by
  have hu0 : A.units < cLine := by omega
  cases p with
  | non =>
    cases r1; cases e1
    cases q with
    | non =>
      cases r2; cases e2
      exact SeqAt.RcAt.none_none
    | bl c2 =>
      cases r2; cases e2
      exact SeqAt.RcAt.none_bool c2
    | int c2 =>
      cases r2; obtain ⟨t2, rfl⟩ := e2
      exact SeqAt.RcAt.none_int c2 t2
    | str c2 =>
      cases r2; obtain ⟨t2, rfl⟩ := e2
      exact SeqAt.RcAt.none_str c2 t2
    | lst qs =>
      obtain ⟨b, its2, eu2, ev2, il2, hs2, hi2⟩ := lst_items I sf r2 e2
      subst eu2
      exact SeqAt.RcAt.none_list il2 hu0
    | tup qs =>
      obtain ⟨b, its2, eu2, ev2, il2, hs2, hi2⟩ := tup_items I sf r2 e2
      subst eu2
      exact SeqAt.RcAt.none_tuple il2 hu0
    | dK _ => simp [okd] at hq
    | dT _ => simp [okd] at hq
    | ins _ _ => simp [okd] at hq
  | bl c =>
    cases r1; cases e1
    cases q with
    | non =>
      cases r2; cases e2
      exact SeqAt.RcAt.bool_none c
    | bl c2 =>
      cases r2; cases e2
      exact SeqAt.RcAt.bool_bool c c2
    | int c2 =>
      cases r2; obtain ⟨t2, rfl⟩ := e2
      exact SeqAt.RcAt.bool_int c c2 t2
    | str c2 =>
      cases r2; obtain ⟨t2, rfl⟩ := e2
      exact SeqAt.RcAt.bool_str c c2 t2
    | lst qs =>
      obtain ⟨b, its2, eu2, ev2, il2, hs2, hi2⟩ := lst_items I sf r2 e2
      subst eu2
      exact SeqAt.RcAt.bool_list c il2 hu0
    | tup qs =>
      obtain ⟨b, its2, eu2, ev2, il2, hs2, hi2⟩ := tup_items I sf r2 e2
      subst eu2
      exact SeqAt.RcAt.bool_tuple c il2 hu0
    | dK _ => simp [okd] at hq
    | dT _ => simp [okd] at hq
    | ins _ _ => simp [okd] at hq
  | int c =>
    cases r1; obtain ⟨t, rfl⟩ := e1
    cases q with
    | non =>
      cases r2; cases e2
      exact SeqAt.RcAt.int_none c t
    | bl c2 =>
      cases r2; cases e2
      exact SeqAt.RcAt.int_bool c t c2
    | int c2 =>
      cases r2; obtain ⟨t2, rfl⟩ := e2
      exact SeqAt.RcAt.int_int c t c2 t2
    | str c2 =>
      cases r2; obtain ⟨t2, rfl⟩ := e2
      exact SeqAt.RcAt.int_str c t c2 t2
    | lst qs =>
      obtain ⟨b, its2, eu2, ev2, il2, hs2, hi2⟩ := lst_items I sf r2 e2
      subst eu2
      exact SeqAt.RcAt.int_list c t il2 hu0
    | tup qs =>
      obtain ⟨b, its2, eu2, ev2, il2, hs2, hi2⟩ := tup_items I sf r2 e2
      subst eu2
      exact SeqAt.RcAt.int_tuple c t il2 hu0
    | dK _ => simp [okd] at hq
    | dT _ => simp [okd] at hq
    | ins _ _ => simp [okd] at hq
  | str c =>
    cases r1; obtain ⟨t, rfl⟩ := e1
    cases q with
    | non =>
      cases r2; cases e2
      exact SeqAt.RcAt.str_none c t
    | bl c2 =>
      cases r2; cases e2
      exact SeqAt.RcAt.str_bool c t c2
    | int c2 =>
      cases r2; obtain ⟨t2, rfl⟩ := e2
      exact SeqAt.RcAt.str_int c t c2 t2
    | str c2 =>
      cases r2; obtain ⟨t2, rfl⟩ := e2
      exact SeqAt.RcAt.str_str c t c2 t2
    | lst qs =>
      obtain ⟨b, its2, eu2, ev2, il2, hs2, hi2⟩ := lst_items I sf r2 e2
      subst eu2
      exact SeqAt.RcAt.str_list c t il2 hu0
    | tup qs =>
      obtain ⟨b, its2, eu2, ev2, il2, hs2, hi2⟩ := tup_items I sf r2 e2
      subst eu2
      exact SeqAt.RcAt.str_tuple c t il2 hu0
    | dK _ => simp [okd] at hq
    | dT _ => simp [okd] at hq
    | ins _ _ => simp [okd] at hq
  | lst ps =>
    obtain ⟨a, its, eu, ev, il, hs, hi⟩ := lst_items I sf r1 e1
    subst eu
    cases q with
    | non =>
      cases r2; cases e2
      exact SeqAt.RcAt.list_none il hu0
    | bl c2 =>
      cases r2; cases e2
      exact SeqAt.RcAt.list_bool c2 il hu0
    | int c2 =>
      cases r2; obtain ⟨t2, rfl⟩ := e2
      exact SeqAt.RcAt.list_int c2 t2 il hu0
    | str c2 =>
      cases r2; obtain ⟨t2, rfl⟩ := e2
      exact SeqAt.RcAt.list_str c2 t2 il hu0
    | lst qs =>
      obtain ⟨b, its2, eu2, ev2, il2, hs2, hi2⟩ := lst_items I sf r2 e2
      subst eu2
      have he : ∀ j (h1 : j < its.size) (h2 : j < its2.size), SeqAt.EqAt A.in1 s its[j] its2[j] (pAt ps qs j) := fun j h1 h2 => by
        obtain ⟨x, w1, hx, rx, ex⟩ := hi j h1
        obtain ⟨y, w2, hy, ry, ey⟩ := hi2 j h2
        rw [pAt_get hx hy]
        exact eqAt_P I sf k x y w1 w2 _ _ A.in1 (okd_at (by simpa only [okd] using hp) hx) (okd_at (by simpa only [okd] using hq) hy) rx ex ry ey (by show A.units + 1 + k < cLine; omega)
      rw [peq]
      by_cases hsz : its.size = its2.size
      · rw [peqA_all (by omega : ps.length = qs.length), ← hs]
        exact SeqAt.RcAt.lists il il2 hsz hu0 he
      · rw [peqA_len (by omega : ps.length ≠ qs.length)]
        exact SeqAt.RcAt.lists_lengths il il2 (by simpa using hsz) hu0
    | tup qs =>
      obtain ⟨b, its2, eu2, ev2, il2, hs2, hi2⟩ := tup_items I sf r2 e2
      subst eu2
      exact SeqAt.RcAt.list_tuple il il2 hu0
    | dK _ => simp [okd] at hq
    | dT _ => simp [okd] at hq
    | ins _ _ => simp [okd] at hq
  | tup ps =>
    obtain ⟨a, its, eu, ev, il, hs, hi⟩ := tup_items I sf r1 e1
    subst eu
    cases q with
    | non =>
      cases r2; cases e2
      exact SeqAt.RcAt.tuple_none il hu0
    | bl c2 =>
      cases r2; cases e2
      exact SeqAt.RcAt.tuple_bool c2 il hu0
    | int c2 =>
      cases r2; obtain ⟨t2, rfl⟩ := e2
      exact SeqAt.RcAt.tuple_int c2 t2 il hu0
    | str c2 =>
      cases r2; obtain ⟨t2, rfl⟩ := e2
      exact SeqAt.RcAt.tuple_str c2 t2 il hu0
    | lst qs =>
      obtain ⟨b, its2, eu2, ev2, il2, hs2, hi2⟩ := lst_items I sf r2 e2
      subst eu2
      exact SeqAt.RcAt.tuple_list il il2 hu0
    | tup qs =>
      obtain ⟨b, its2, eu2, ev2, il2, hs2, hi2⟩ := tup_items I sf r2 e2
      subst eu2
      have he : ∀ j (h1 : j < its.size) (h2 : j < its2.size), SeqAt.EqAt A.in1 s its[j] its2[j] (pAt ps qs j) := fun j h1 h2 => by
        obtain ⟨x, w1, hx, rx, ex⟩ := hi j h1
        obtain ⟨y, w2, hy, ry, ey⟩ := hi2 j h2
        rw [pAt_get hx hy]
        exact eqAt_P I sf k x y w1 w2 _ _ A.in1 (okd_at (by simpa only [okd] using hp) hx) (okd_at (by simpa only [okd] using hq) hy) rx ex ry ey (by show A.units + 1 + k < cLine; omega)
      rw [peq]
      have main := SeqAt.RcAt.tuples (A := A) (s := s) (e := pAt ps qs) il il2 hu0 he
      by_cases hsz : its.size = its2.size
      · rw [peqA_all (by omega : ps.length = qs.length), ← hs]
        rw [hsz, Nat.min_self, beq_self_eq_true, Bool.and_true, ← hsz] at main
        exact main
      · rw [peqA_len (by omega : ps.length ≠ qs.length)]
        have z : (its.size == its2.size) = false := beq_eq_false_iff_ne.mpr hsz
        rw [z, Bool.and_false] at main
        exact main
    | dK _ => simp [okd] at hq
    | dT _ => simp [okd] at hq
    | ins _ _ => simp [okd] at hq
  | dK _ => simp [okd] at hp
  | dT _ => simp [okd] at hp
  | ins _ _ => simp [okd] at hp
theorem rcNe_P (I : L2.Inv X pins σ H s) (sf : Same F H) (k : Nat) (p q : P) (v w : V) (u z : Value) (A : Around) (hp : okd (k + 1) p = true) (hq : okd (k + 1) q = true) (r1 : Rp X.K cl F p v) (e1 : RelV v u) (r2 : Rp X.K cl F q w) (e2 : RelV w z) (hu : A.units + k + 1 < cLine) : SeqAt.RcNeAt A s u z (!peq p q) := by
  have hu0 : A.units < cLine := by omega
  cases p with
  | non =>
    cases r1; cases e1
    cases q with
    | non =>
      cases r2; cases e2
      exact SeqAt.RcNeAt.none_none
    | bl c2 =>
      cases r2; cases e2
      exact SeqAt.RcNeAt.none_bool c2
    | int c2 =>
      cases r2; obtain ⟨t2, rfl⟩ := e2
      exact SeqAt.RcNeAt.none_int c2 t2
    | str c2 =>
      cases r2; obtain ⟨t2, rfl⟩ := e2
      exact SeqAt.RcNeAt.none_str c2 t2
    | lst qs =>
      obtain ⟨b, its2, eu2, ev2, il2, hs2, hi2⟩ := lst_items I sf r2 e2
      subst eu2
      exact SeqAt.RcNeAt.none_list il2 hu0
    | tup qs =>
      obtain ⟨b, its2, eu2, ev2, il2, hs2, hi2⟩ := tup_items I sf r2 e2
      subst eu2
      exact SeqAt.RcNeAt.none_tuple il2 hu0
    | dK _ => simp [okd] at hq
    | dT _ => simp [okd] at hq
    | ins _ _ => simp [okd] at hq
  | bl c =>
    cases r1; cases e1
    cases q with
    | non =>
      cases r2; cases e2
      exact SeqAt.RcNeAt.bool_none c
    | bl c2 =>
      cases r2; cases e2
      exact SeqAt.RcNeAt.bool_bool c c2
    | int c2 =>
      cases r2; obtain ⟨t2, rfl⟩ := e2
      exact SeqAt.RcNeAt.bool_int c c2 t2
    | str c2 =>
      cases r2; obtain ⟨t2, rfl⟩ := e2
      exact SeqAt.RcNeAt.bool_str c c2 t2
    | lst qs =>
      obtain ⟨b, its2, eu2, ev2, il2, hs2, hi2⟩ := lst_items I sf r2 e2
      subst eu2
      exact SeqAt.RcNeAt.bool_list c il2 hu0
    | tup qs =>
      obtain ⟨b, its2, eu2, ev2, il2, hs2, hi2⟩ := tup_items I sf r2 e2
      subst eu2
      exact SeqAt.RcNeAt.bool_tuple c il2 hu0
    | dK _ => simp [okd] at hq
    | dT _ => simp [okd] at hq
    | ins _ _ => simp [okd] at hq
  | int c =>
    cases r1; obtain ⟨t, rfl⟩ := e1
    cases q with
    | non =>
      cases r2; cases e2
      exact SeqAt.RcNeAt.int_none c t
    | bl c2 =>
      cases r2; cases e2
      exact SeqAt.RcNeAt.int_bool c t c2
    | int c2 =>
      cases r2; obtain ⟨t2, rfl⟩ := e2
      exact SeqAt.RcNeAt.int_int c t c2 t2
    | str c2 =>
      cases r2; obtain ⟨t2, rfl⟩ := e2
      exact SeqAt.RcNeAt.int_str c t c2 t2
    | lst qs =>
      obtain ⟨b, its2, eu2, ev2, il2, hs2, hi2⟩ := lst_items I sf r2 e2
      subst eu2
      exact SeqAt.RcNeAt.int_list c t il2 hu0
    | tup qs =>
      obtain ⟨b, its2, eu2, ev2, il2, hs2, hi2⟩ := tup_items I sf r2 e2
      subst eu2
      exact SeqAt.RcNeAt.int_tuple c t il2 hu0
    | dK _ => simp [okd] at hq
    | dT _ => simp [okd] at hq
    | ins _ _ => simp [okd] at hq
  | str c =>
    cases r1; obtain ⟨t, rfl⟩ := e1
    cases q with
    | non =>
      cases r2; cases e2
      exact SeqAt.RcNeAt.str_none c t
    | bl c2 =>
      cases r2; cases e2
      exact SeqAt.RcNeAt.str_bool c t c2
    | int c2 =>
      cases r2; obtain ⟨t2, rfl⟩ := e2
      exact SeqAt.RcNeAt.str_int c t c2 t2
    | str c2 =>
      cases r2; obtain ⟨t2, rfl⟩ := e2
      exact SeqAt.RcNeAt.str_str c t c2 t2
    | lst qs =>
      obtain ⟨b, its2, eu2, ev2, il2, hs2, hi2⟩ := lst_items I sf r2 e2
      subst eu2
      exact SeqAt.RcNeAt.str_list c t il2 hu0
    | tup qs =>
      obtain ⟨b, its2, eu2, ev2, il2, hs2, hi2⟩ := tup_items I sf r2 e2
      subst eu2
      exact SeqAt.RcNeAt.str_tuple c t il2 hu0
    | dK _ => simp [okd] at hq
    | dT _ => simp [okd] at hq
    | ins _ _ => simp [okd] at hq
  | lst ps =>
    obtain ⟨a, its, eu, ev, il, hs, hi⟩ := lst_items I sf r1 e1
    subst eu
    cases q with
    | non =>
      cases r2; cases e2
      exact SeqAt.RcNeAt.list_none il hu0
    | bl c2 =>
      cases r2; cases e2
      exact SeqAt.RcNeAt.list_bool c2 il hu0
    | int c2 =>
      cases r2; obtain ⟨t2, rfl⟩ := e2
      exact SeqAt.RcNeAt.list_int c2 t2 il hu0
    | str c2 =>
      cases r2; obtain ⟨t2, rfl⟩ := e2
      exact SeqAt.RcNeAt.list_str c2 t2 il hu0
    | lst qs =>
      obtain ⟨b, its2, eu2, ev2, il2, hs2, hi2⟩ := lst_items I sf r2 e2
      subst eu2
      have he : ∀ j (h1 : j < its.size) (h2 : j < its2.size), SeqAt.EqAt A.in1 s its[j] its2[j] (pAt ps qs j) := fun j h1 h2 => by
        obtain ⟨x, w1, hx, rx, ex⟩ := hi j h1
        obtain ⟨y, w2, hy, ry, ey⟩ := hi2 j h2
        rw [pAt_get hx hy]
        exact eqAt_P I sf k x y w1 w2 _ _ A.in1 (okd_at (by simpa only [okd] using hp) hx) (okd_at (by simpa only [okd] using hq) hy) rx ex ry ey (by show A.units + 1 + k < cLine; omega)
      rw [peq]
      by_cases hsz : its.size = its2.size
      · rw [peqA_all (by omega : ps.length = qs.length), ← hs]
        exact SeqAt.RcNeAt.lists il il2 hsz hu0 he
      · rw [peqA_len (by omega : ps.length ≠ qs.length)]
        exact SeqAt.RcNeAt.lists_lengths il il2 (by simpa using hsz) hu0
    | tup qs =>
      obtain ⟨b, its2, eu2, ev2, il2, hs2, hi2⟩ := tup_items I sf r2 e2
      subst eu2
      exact SeqAt.RcNeAt.list_tuple il il2 hu0
    | dK _ => simp [okd] at hq
    | dT _ => simp [okd] at hq
    | ins _ _ => simp [okd] at hq
  | tup ps =>
    obtain ⟨a, its, eu, ev, il, hs, hi⟩ := tup_items I sf r1 e1
    subst eu
    cases q with
    | non =>
      cases r2; cases e2
      exact SeqAt.RcNeAt.tuple_none il hu0
    | bl c2 =>
      cases r2; cases e2
      exact SeqAt.RcNeAt.tuple_bool c2 il hu0
    | int c2 =>
      cases r2; obtain ⟨t2, rfl⟩ := e2
      exact SeqAt.RcNeAt.tuple_int c2 t2 il hu0
    | str c2 =>
      cases r2; obtain ⟨t2, rfl⟩ := e2
      exact SeqAt.RcNeAt.tuple_str c2 t2 il hu0
    | lst qs =>
      obtain ⟨b, its2, eu2, ev2, il2, hs2, hi2⟩ := lst_items I sf r2 e2
      subst eu2
      exact SeqAt.RcNeAt.tuple_list il il2 hu0
    | tup qs =>
      obtain ⟨b, its2, eu2, ev2, il2, hs2, hi2⟩ := tup_items I sf r2 e2
      subst eu2
      have he : ∀ j (h1 : j < its.size) (h2 : j < its2.size), SeqAt.EqAt A.in1 s its[j] its2[j] (pAt ps qs j) := fun j h1 h2 => by
        obtain ⟨x, w1, hx, rx, ex⟩ := hi j h1
        obtain ⟨y, w2, hy, ry, ey⟩ := hi2 j h2
        rw [pAt_get hx hy]
        exact eqAt_P I sf k x y w1 w2 _ _ A.in1 (okd_at (by simpa only [okd] using hp) hx) (okd_at (by simpa only [okd] using hq) hy) rx ex ry ey (by show A.units + 1 + k < cLine; omega)
      rw [peq]
      have main := SeqAt.RcNeAt.tuples (A := A) (s := s) (e := pAt ps qs) il il2 hu0 he
      by_cases hsz : its.size = its2.size
      · rw [peqA_all (by omega : ps.length = qs.length), ← hs]
        rw [hsz, Nat.min_self, beq_self_eq_true, Bool.and_true, ← hsz] at main
        exact main
      · rw [peqA_len (by omega : ps.length ≠ qs.length)]
        have z : (its.size == its2.size) = false := beq_eq_false_iff_ne.mpr hsz
        rw [z, Bool.and_false] at main
        exact main
    | dK _ => simp [okd] at hq
    | dT _ => simp [okd] at hq
    | ins _ _ => simp [okd] at hq
  | dK _ => simp [okd] at hp
  | dT _ => simp [okd] at hp
  | ins _ _ => simp [okd] at hp
/-- what a value is as data, read where it stands -/
abbrev rdP (S : SH) (d : D) : Option P := toP 8 0 S d
@[simp] theorem rdP_p (S : SH) (x : P) : rdP S (.p x) = some x := id rfl
theorem rdP_ok {K : PySem.W.Frag} {S : SH} {B : List Nat} {F : Hp} {φ : Nat → Addr} {H : Hp} {d : D} {x : P} {v : V} (s : Sim K cl S B F φ H) (e : rdP S d = some x) (r : DR K cl F φ d v) : ∃ F', Same F F' ∧ Same F' H ∧ Rp K cl F' x v :=
  ⟨_, addF_le s 0, addF_heap s 0, toP_ok s 0 8 d x v e r⟩
/-- two at once -/
theorem rdP_ok2 {K : PySem.W.Frag} {S : SH} {B : List Nat} {F : Hp} {φ : Nat → Addr} {H : Hp} {d e : D} {x y : P} {v w : V} (s : Sim K cl S B F φ H) (e1 : rdP S d = some x) (e2 : rdP S e = some y) (r1 : DR K cl F φ d v) (r2 : DR K cl F φ e w) : ∃ F', Same F' H ∧ Rp K cl F' x v ∧ Rp K cl F' y w :=
  ⟨_, addF_heap s 0, toP_ok s 0 8 d x v e1 r1, toP_ok s 0 8 e y w e2 r2⟩
def fEq (neg : Bool) (d e : D) (S : SH) : Option (D × SH) := match rdP S d, rdP S e with
  | some x, some y => if okd 40 x = true ∧ okd 40 y = true then some (.p (.bl (if neg = true then !peq x y else peq x y)), S) else none
  | _, _ => none
def rEqP (K : PySem.W.Frag) (cl : Nat → Addr) (neg : Bool) : R2 := fun v w H Q => ∃ F x y, Same F H ∧ Rp K cl F x v ∧ Rp K cl F y w ∧ okd 40 x = true ∧ okd 40 y = true ∧ Q (.bl (if neg = true then !peq x y else peq x y)) H
theorem o_eq (hu : X.A.units + 64 < cLine) : OpR X (compareOp .Eq) (rEqP X.K cl false) := by
  intro pins s σ H x y v u Q I rx ry h
  obtain ⟨F, p, q, sf, r1, r2, h1, h2, k⟩ := h
  exact rcAt_P I sf 39 p q x y v u X.A h1 h2 r1 rx r2 ry (by omega) X.prog X.w X.xe _ ⟨.bl _, H, I, rfl, k⟩
theorem o_ne (hu : X.A.units + 64 < cLine) : OpR X (compareOp .NotEq) (rEqP X.K cl true) := by
  intro pins s σ H x y v u Q I rx ry h
  obtain ⟨F, p, q, sf, r1, r2, h1, h2, k⟩ := h
  exact rcNe_P I sf 39 p q x y v u X.A h1 h2 r1 rx r2 ry (by omega) X.prog X.w X.xe _ ⟨.bl _, H, I, rfl, k⟩
theorem d_eq {K : PySem.W.Frag} {neg : Bool} : OpD K cl (fEq neg) (rEqP K cl neg) := by
  intro S B F φ H d1 d2 x y Q s r1 r2 l1 l2 o
  unfold fEq at o
  cases e1 : rdP S d1 with
  | none => rw [e1] at o; obtain ⟨_, _, z, _⟩ := o; cases z
  | some p =>
    cases e2 : rdP S d2 with
    | none => rw [e1, e2] at o; obtain ⟨_, _, z, _⟩ := o; cases z
    | some q =>
      rw [e1, e2] at o
      dsimp only at o
      by_cases h : okd 40 p = true ∧ okd 40 q = true
      · rw [if_pos h] at o
        obtain ⟨F', sf, ra, rb⟩ := rdP_ok2 s e1 e2 r1 r2
        exact ⟨F', p, q, sf, ra, rb, h.1, h.2, o.fin0 rfl s (Rp.bl _) trivial⟩
      · rw [if_neg h] at o; obtain ⟨_, _, z, _⟩ := o; cases z
/-! ### in -/
def fIn (neg : Bool) (d e : D) (S : SH) : Option (D × SH) := match rdP S d, rdP S e with
  | some x, some (.lst ys) => if okd 40 x = true ∧ ys.all (okd 40) = true then some (.p (.bl (if neg = true then !ys.any (fun y => peq y x) else ys.any fun y => peq y x)), S) else none
  | some x, some (.tup ys) => if okd 40 x = true ∧ ys.all (okd 40) = true then some (.p (.bl (if neg = true then !ys.any (fun y => peq y x) else ys.any fun y => peq y x)), S) else none
  | _, _ => none
def rInP (K : PySem.W.Frag) (cl : Nat → Addr) (neg : Bool) : R2 := fun v w H Q => ∃ F x ys, Same F H ∧ Rp K cl F x v ∧ (Rp K cl F (.lst ys) w ∨ Rp K cl F (.tup ys) w) ∧ okd 40 x = true ∧ ys.all (okd 40) = true ∧ Q (.bl (if neg = true then !ys.any (fun y => peq y x) else ys.any fun y => peq y x)) H
theorem in_core {neg : Bool} {op : CmpOp} (hu : X.A.units + 65 < cLine)
    (hl : ∀ (s : Shared) (l : Addr) (items : Array Value) (x : Value) (e : Value → Bool) (Q : Value → Shared → Prop), s.heap.IsList l items → (∀ y, y ∈ items → SeqAt.EqAt X.A.in1 s y x (e y)) → Q (.bool (if neg = true then !items.any e else items.any e)) s → wpAny (model X.prog X.w) X.A (compareOp op x (.ref l)) Q X.xe s)
    (ht : ∀ (s : Shared) (l : Addr) (items : Array Value) (x : Value) (e : Value → Bool) (Q : Value → Shared → Prop), s.heap.IsTuple l items → (∀ y, y ∈ items → SeqAt.EqAt X.A.in1 s y x (e y)) → Q (.bool (if neg = true then !items.any e else items.any e)) s → wpAny (model X.prog X.w) X.A (compareOp op x (.ref l)) Q X.xe s) : OpR X (compareOp op) (rInP X.K cl neg) := by
  intro pins s σ H x y v u Q I rx ry h
  obtain ⟨F, p, ys, sf, r1, r2, h1, h2, k⟩ := h
  -- the items' answers, by the value
  classical
  have go : ∀ (its : Array Value), its.size = ys.length → (∀ j (hj : j < its.size), ∃ q w, ys[j]? = some q ∧ Rp X.K cl F q w ∧ RelV w its[j]) →
      ∃ e : Value → Bool, (∀ z, z ∈ its → SeqAt.EqAt X.A.in1 s z v (e z)) ∧ its.any e = ys.any fun q => peq q p := fun its hs hi => by
    have key : ∀ z, z ∈ its → ∃ b, (∀ j (hj : j < its.size), its[j] = z → ∀ q, ys[j]? = some q → peq q p = b) ∧ SeqAt.EqAt X.A.in1 s z v b := fun z hz => by
      obtain ⟨j, hj, ej⟩ := Array.mem_iff_getElem.mp hz
      obtain ⟨q, w, hq, rq, rw'⟩ := hi j hj
      refine ⟨peq q p, fun j2 hj2 e2 q2 hq2 => ?_, ?_⟩
      · obtain ⟨q', w', hq', rq', rw''⟩ := hi j2 hj2
        rw [hq'] at hq2; cases hq2
        rw [e2] at rw''
        rw [ej] at rw'
        have : w' = w := rw''.inj rw'
        subst this
        rw [Rp.uniq I sf 40 _ _ _ (okd_at h2 hq') (okd_at h2 hq) rq' rq]
      · rw [← ej]
        exact eqAt_P I sf 40 q p w x _ _ X.A.in1 (okd_at h2 hq) h1 rq rw' r1 rx (by show X.A.units + 1 + 40 < cLine; omega)
    refine ⟨fun z => if hz : z ∈ its then (key z hz).choose else false, fun z hz => ?_, ?_⟩
    · show SeqAt.EqAt X.A.in1 s z v (if hz : z ∈ its then (key z hz).choose else false)
      rw [dif_pos hz]; exact (key z hz).choose_spec.2
    · rw [Bool.eq_iff_iff]
      simp only [Array.any_eq_true, List.any_eq_true]
      constructor
      · rintro ⟨j, hj, e⟩
        obtain ⟨q, w, hq, _, _⟩ := hi j hj
        have hm : its[j] ∈ its := Array.getElem_mem hj
        rw [dif_pos hm] at e
        exact ⟨q, List.mem_of_getElem? hq, ((key _ hm).choose_spec.1 j hj rfl q hq).trans e⟩
      · rintro ⟨q, hq, e⟩
        obtain ⟨j, hj⟩ := List.getElem?_of_mem hq
        have hjl : j < its.size := by rw [hs]; exact (List.getElem?_eq_some_iff.mp hj).1
        have hm : its[j] ∈ its := Array.getElem_mem hjl
        refine ⟨j, hjl, ?_⟩
        rw [dif_pos hm]
        exact ((key _ hm).choose_spec.1 j hjl rfl q hj).symm.trans e
  rcases r2 with r2 | r2
  · obtain ⟨a, its, eu, ev, il, hs, hi⟩ := lst_items I sf r2 ry
    subst eu
    obtain ⟨e, he, hany⟩ := go its hs hi
    exact hl s a its v e _ il he ⟨.bl (if neg = true then !its.any e else its.any e), H, I, rfl, by rw [hany]; exact k⟩
  · obtain ⟨a, its, eu, ev, il, hs, hi⟩ := tup_items I sf r2 ry
    subst eu
    obtain ⟨e, he, hany⟩ := go its hs hi
    exact ht s a its v e _ il he ⟨.bl (if neg = true then !its.any e else its.any e), H, I, rfl, by rw [hany]; exact k⟩
theorem o_in (hu : X.A.units + 65 < cLine) : OpR X (compareOp .In) (rInP X.K cl false) :=
  in_core hu (fun s l items x e Q h he q => SeqAt.in_listAt e h he (by simpa using q)) (fun s l items x e Q h he q => SeqAt.in_tupleAt e h he (by simpa using q))
theorem o_notin (hu : X.A.units + 65 < cLine) : OpR X (compareOp .NotIn) (rInP X.K cl true) :=
  in_core hu (fun s l items x e Q h he q => SeqAt.notIn_listAt e h he (by simpa using q)) (fun s l items x e Q h he q => SeqAt.notIn_tupleAt e h he (by simpa using q))
theorem d_in {K : PySem.W.Frag} {neg : Bool} : OpD K cl (fIn neg) (rInP K cl neg) := by
  intro S B F φ H d1 d2 x y Q s r1 r2 l1 l2 o
  unfold fIn at o
  split at o
  · rename_i p ys e1 e2
    split at o
    · rename_i h
      obtain ⟨F', sf, ra, rb⟩ := rdP_ok2 s e1 e2 r1 r2
      exact ⟨F', p, ys, sf, ra, .inl rb, h.1, h.2, o.fin0 rfl s (Rp.bl _) trivial⟩
    · obtain ⟨_, _, z, _⟩ := o; cases z
  · rename_i p ys e1 e2
    split at o
    · rename_i h
      obtain ⟨F', sf, ra, rb⟩ := rdP_ok2 s e1 e2 r1 r2
      exact ⟨F', p, ys, sf, ra, .inr rb, h.1, h.2, o.fin0 rfl s (Rp.bl _) trivial⟩
    · obtain ⟨_, _, z, _⟩ := o; cases z
  · obtain ⟨_, _, z, _⟩ := o; cases z
end
end Pv
namespace Pv
open PySem PySem.Spec PyProof.Rows L2
section
variable {X : Cx} {K : PySem.W.Frag} {cl : Nat → Addr}
theorem OkE.no {S : SH} {B : List Nat} {F : Hp} {φ : Nat → Addr} {H : Hp} {Q : VK} {p : Prop} (h : OkE K cl S B F φ H none Q) : p := by obtain ⟨_, _, z, _⟩ := h; cases z
theorem drI {F : Hp} {φ : Nat → Addr} {i : Int} {x : V} (h : DR K cl F φ (.p (.int i)) x) : x = .int i := by cases (show Rp K cl F (.int i) x from h); rfl
theorem drS {F : Hp} {φ : Nat → Addr} {i : Str} {x : V} (h : DR K cl F φ (.p (.str i)) x) : x = .str i := by cases (show Rp K cl F (.str i) x from h); rfl
theorem drB {F : Hp} {φ : Nat → Addr} {i : Bool} {x : V} (h : DR K cl F φ (.p (.bl i)) x) : x = .bl i := by cases (show Rp K cl F (.bl i) x from h); rfl
theorem drN {F : Hp} {φ : Nat → Addr} {x : V} (h : DR K cl F φ (.p .non) x) : x = .non := by cases (show Rp K cl F .non x from h); rfl

/-! ### ints -/
/-- two ints under a test, a datum out -/
def fII (c : Int → Int → Bool) (g : Int → Int → P) (d e : D) (S : SH) : Option (D × SH) := match d, e with
  | .p (.int i), .p (.int j) => if c i j = true then some (.p (g i j), S) else none
  | _, _ => none
@[simp] theorem fII_eq (c : Int → Int → Bool) (g : Int → Int → P) (i j : Int) (S : SH) : fII c g (.p (.int i)) (.p (.int j)) S = if c i j = true then some (.p (g i j), S) else none := id rfl
theorem d_II {c : Int → Int → Bool} {C : Int → Int → Prop} {g : Int → Int → P} {g' : Int → Int → V} (hc : ∀ i j, c i j = true → C i j) (hg : ∀ F i j, Rp K cl F (g i j) (g' i j)) : OpD K cl (fII c g) (rI C g') := by
  intro S B F φ H d1 d2 x y Q s r1 r2 l1 l2 o
  unfold fII at o
  split at o
  · rename_i i j
    split at o
    · rename_i h
      exact ⟨i, j, drI r1, drI r2, hc i j h, o.fin0 rfl s (hg F i j) trivial⟩
    · exact o.no
  · exact o.no
theorem d_II0 {g : Int → Int → P} {g' : Int → Int → V} (hg : ∀ F i j, Rp K cl F (g i j) (g' i j)) : OpD K cl (fII (fun _ _ => true) g) (rI0 g') := by
  intro S B F φ H d1 d2 x y Q s r1 r2 l1 l2 o
  obtain ⟨i, j, h1, h2, _, q⟩ := d_II (C := fun _ _ => True) (fun _ _ _ => trivial) hg S B F φ H d1 d2 x y Q s r1 r2 l1 l2 o
  exact ⟨i, j, h1, h2, q⟩
abbrev fSub := fII (fun _ _ => true) fun i j => .int (i - j)
def mulOk (i j : Int) : Bool := decide (i.natAbs < 2 ^ 64) || decide (j.natAbs < 2 ^ 64) || decide (i.natAbs.log2 + j.natAbs.log2 < 1000000)
abbrev fMul := fII mulOk fun i j => .int (i * j)
def divOk (i j : Int) : Bool := decide (0 < j) && decide (j.natAbs.log2 < 9000)
abbrev fDiv := fII divOk fun i j => .int (i / j)
abbrev fMod := fII (fun _ j => decide (0 < j)) fun i j => .int (i % j)
def powOk (i j : Int) : Bool := decide (0 ≤ j) && decide (j ≤ 1000000) && decide (i.natAbs < 2 ^ 64)
abbrev fPow := fII powOk fun i j => .int (i ^ j.toNat)
abbrev fLt := fII (fun _ _ => true) fun i j => .bl (decide (i < j))
abbrev fLe := fII (fun _ _ => true) fun i j => .bl (decide (i ≤ j))
abbrev fGt := fII (fun _ _ => true) fun i j => .bl (decide (j < i))
abbrev fGe := fII (fun _ _ => true) fun i j => .bl (decide (j ≤ i))
theorem d_sub : OpD K cl fSub (rI0 fun i j => .int (i - j)) := d_II0 fun _ _ _ => .int _
theorem op_mulG : OpR X (binaryOp .Mult) (rI (fun i j => CMul i j ∨ CMulW i j) fun i j => .int (i * j)) := opI fun i j _ _ _ _ _ hc q => mul_int q (hc.elim (fun h => h.ok) fun h => h.ok)
theorem mulOk_c {i j : Int} (h : mulOk i j = true) : CMul i j ∨ CMulW i j := by
  unfold mulOk at h
  simp only [Bool.or_eq_true, decide_eq_true_eq] at h
  rcases h with (h | h) | h
  · exact .inl (.inl ⟨by omega, by omega⟩)
  · exact .inl (.inr ⟨by omega, by omega⟩)
  · exact .inr h
theorem d_mul : OpD K cl fMul (rI (fun i j => CMul i j ∨ CMulW i j) fun i j => .int (i * j)) := d_II (fun _ _ h => mulOk_c h) fun _ _ _ => .int _
theorem d_div : OpD K cl fDiv (rI CDivW fun i j => .int (i / j)) := d_II (fun _ _ h => by
  unfold divOk at h; simp only [Bool.and_eq_true, decide_eq_true_eq] at h; exact h) fun _ _ _ => .int _
theorem d_mod : OpD K cl fMod (rI (fun _ j => 0 < j) fun i j => .int (i % j)) := d_II (fun _ _ h => of_decide_eq_true h) fun _ _ _ => .int _
theorem d_pow : OpD K cl fPow (rI CPow fun i j => .int (i ^ j.toNat)) := d_II (fun _ _ h => by
  unfold powOk at h; simp only [Bool.and_eq_true, decide_eq_true_eq] at h; exact ⟨h.1.1, h.1.2, h.2⟩) fun _ _ _ => .int _
theorem d_lt : OpD K cl fLt (rI0 fun i j => .bl (decide (i < j))) := d_II0 fun _ _ _ => .bl _
theorem d_le : OpD K cl fLe (rI0 fun i j => .bl (decide (i ≤ j))) := d_II0 fun _ _ _ => .bl _
theorem d_gt : OpD K cl fGt (rI0 fun i j => .bl (decide (j < i))) := d_II0 fun _ _ _ => .bl _
theorem d_ge : OpD K cl fGe (rI0 fun i j => .bl (decide (j ≤ i))) := d_II0 fun _ _ _ => .bl _
def fNeg (d : D) (S : SH) : Option (D × SH) := match d with | .p (.int i) => some (.p (.int (-i)), S) | _ => none
theorem d_neg : UnD K cl fNeg (rU fun i => .int (-i)) := by
  intro S B F φ H d x Q s r l o
  unfold fNeg at o
  split at o
  · exact ⟨_, drI r, o.fin0 rfl s (Rp.int _) trivial⟩
  · exact o.no

/-! ### + -/
def fAdd (live : Bool) (d e : D) (S : SH) : Option (D × SH) := match d, e with
  | .p (.int i), .p (.int j) => some (.p (.int (i + j)), S)
  | .p (.str a), .p (.str b) => if a.length + b.length ≤ sizeLine then some (.p (.str (a ++ b)), S) else none
  | .p (.tup a), .p (.tup b) => if a.length + b.length ≤ sizeLine then some (.p (.tup (a ++ b)), S) else none
  | d, e => match asL d S, asL e S with
    | some a, some b => newL live (a ++ b) S
    | _, _ => none
def rCatL (K : PySem.W.Frag) : R2 := fun x y H Q => ∃ l b xs zs, x = .ref l ∧ y = .ref b ∧ SqL K H l xs ∧ SqL K H b zs ∧ xs.length + zs.length ≤ sizeLine ∧ ∀ p, H p = none → Q (.ref p) (upd H p (.lst (xs ++ zs)))
open PySem.AutoSeq1 (wpAny_loadPart') in
open PySem.MeetsSeq PySem.MeetsSeq2 PySem.MeetsSeq3 in
theorem list_add_any (l : Addr) (items : Array Value) (n : Nat) (b : Addr) (items2 : Array Value) (n2 : Nat) (dd dd2 : Option Addr) (sl sl2 : Array (Option Value)) (hz : items.size + items2.size ≤ sizeLine) :
    Meets (Builtin.«list.__add__» ⟨[.ref l, .ref b], []⟩) (fun _ R s => s.heap.get? l = some { cls := .type "list", dict := dd, data := .seq items n, slots := sl } ∧ s.heap.get? b = some { cls := .type "list", dict := dd2, data := .seq items2 n2, slots := sl2 } ∧
      R (.ok (.ret (Value.ref s.heap.objs.size))) { s with heap := s.heap.push { cls := Value.type "list", data := Data.seq (items ++ items2) }, toks := s.toks }) :=
  .of_wp fun prog w A R s h => by
    obtain ⟨hp, g, d, tk, os⟩ := s
    obtain ⟨hl, hb, h⟩ := h
    have f1 := AutoSeq1.sub_list_list
    have f2 := AutoSeq1.sub_tuple_list
    wp_walk using wpAny_loadPart' hl, wpAny_loadPart' hb
    exact ⟨_, rfl, h⟩
theorem op_catL : OpR X (binaryOp .Add) (rCatL X.K) := by
  intro pins s σ H x y v u Q I rx ry h
  obtain ⟨l, b, xs, zs, rfl, rfl, hH, hB, hz, q⟩ := h
  cases rx
  cases ry
  obtain ⟨its, r, ⟨o1, n1, e1, c1, d1, t1⟩, _⟩ := I.list hH
  obtain ⟨its2, r2, ⟨o2, n2, e2, c2, d2, t2⟩, _⟩ := I.list hB
  have hl := r.length
  have hl2 := r2.length
  obtain ⟨_, dd1, _, sl1⟩ := o1
  obtain ⟨_, dd2, _, sl2⟩ := o2
  simp only at c1 d1 t1 c2 d2 t2
  subst c1 d1 t1 c2 d2 t2
  refine PySem.concat_meets ⟨_, e1, rfl⟩ ⟨_, e2, rfl⟩ PySem.noFill_list_add PySem.seq_list_add F.slot_list_add F.entry_list_add (F.args_list_add_2 _ _) (list_add_any l its.toArray n1 b its2.toArray n2 _ _ _ _ (by rw [List.size_toArray, List.size_toArray]; omega)) ⟨e1, e2, ?_⟩
  have ea : its.toArray ++ its2.toArray = (its ++ its2).toArray := by simp
  rw [ea]
  exact ⟨.ref _, _, I.lnew (t' := s.toks) (r.append r2) (by rw [List.length_append]; omega), rfl, q _ I.fresh⟩
def rAddG (K : PySem.W.Frag) : R2 := fun x y H Q => rI0 (fun i j => .int (i + j)) x y H Q ∨ (∃ i j, x = .str i ∧ y = .str j ∧ i.length + j.length ≤ sizeLine ∧ Q (.str (i ++ j)) H) ∨ rCatA K x y H Q ∨ rCatL K x y H Q
theorem o_add : OpR X (binaryOp .Add) (rAddG X.K) := op_add.or (op_add_str.or (op_catA.or op_catL))
theorem d_add {live : Bool} : OpD K cl (fAdd live) (rAddG K) := by
  intro S B F φ H d1 d2 x y Q s r1 r2 l1 l2 o
  unfold fAdd at o
  split at o
  · exact .inl ⟨_, _, drI r1, drI r2, o.fin0 rfl s (Rp.int _) trivial⟩
  · split at o
    · rename_i h
      exact .inr (.inl ⟨_, _, drS r1, drS r2, h, o.fin0 rfl s (Rp.str _) trivial⟩)
    · exact o.no
  · rename_i a b
    split at o
    · rename_i h
      cases (show Rp K cl F (.tup a) x from r1) with
      | @tup p _ vs q1 t1 =>
        cases (show Rp K cl F (.tup b) y from r2) with
        | @tup p2 _ us q2 t2 =>
          have e1 := t1.len
          have e2 := t2.len
          have al : ∀ {ps qs : List P} {vs us : List V} {F : Hp}, RpA K cl F ps vs → RpA K cl F qs us → RpA K cl F (ps ++ qs) (vs ++ us) := by
            intro ps
            induction ps with
            | nil => intro qs vs us F a b; cases a; exact b
            | cons p ps ih => intro qs vs us F a b; cases a with | cons a a2 => exact .cons a (ih a2 b)
          refine .inr (.inr (.inl ⟨p, p2, vs, us, rfl, rfl, SqT.mono s.le q1, SqT.mono s.le q2, by omega, fun h1 => ?_, fun h1 h2 => ?_, fun h1 h2 r hr => ?_⟩))
          · subst h1
            cases t1
            exact o.fin0 rfl s (Rp.tup q2 t2) trivial
          · subst h2
            cases t2
            rw [List.append_nil] at o
            exact o.fin0 rfl s (Rp.tup q1 t1) trivial
          · obtain ⟨s1, x1⟩ := s.frz (H' := upd H r (.tup (vs ++ us))) (Same.new (Same.refl H) hr) hr upd_same
            exact o.fin rfl s1 x1 (Rp.tup (.inl (.inl upd_same)) (RpA.mono x1.fz (al t1 t2))) trivial
    · exact o.no
  · split at o
    · rename_i a b e1 e2
      obtain ⟨p, vs, rfl, q1, t1, m1⟩ := asL_ok s e1 r1 l1
      obtain ⟨p2, us, rfl, q2, t2, m2⟩ := asL_ok s e2 r2 l2
      obtain ⟨hz, k⟩ := newL_ok1 o s (DRA.append t1 t2) fun z hz => (List.mem_append.mp hz).elim (m1 z) (m2 z)
      exact .inr (.inr (.inr ⟨p, p2, vs, us, rfl, rfl, q1, q2, by rw [List.length_append] at hz; exact hz, k⟩))
    · exact o.no

/-! ### is -/
def isNon : D → Bool
  | .p .non => true
  | _ => false
def isBl (b : Bool) : D → Bool
  | .p (.bl c) => c == b
  | _ => false
def fIs (neg : Bool) (d e : D) (S : SH) : Option (D × SH) := match e with
  | .p .non => some (.p (.bl (if neg = true then !isNon d else isNon d)), S)
  | .p (.bl b) => some (.p (.bl (if neg = true then !isBl b d else isBl b d)), S)
  | _ => none
theorem RelV.bl_iff {x : V} {v : Value} (b : Bool) (r : RelV x v) : (v == Value.bool b) = decide (x = .bl b) := by
  cases x <;> first
    | (obtain ⟨t, rfl⟩ := r; rfl)
    | (cases r; rfl)
    | skip
  cases r
  rename_i c
  cases b <;> cases c <;> rfl
theorem plain_bool {x : V} {v : Value} (b : Bool) (r : RelV x v) : plainIs v (.bool b) = true := by
  cases x <;> first
    | (obtain ⟨t, rfl⟩ := r; rfl)
    | (cases r; rfl)
def rIsG (neg : Bool) : R2 := fun x y H Q => (y = .non ∧ Q (.bl (if neg = true then !decide (x = .non) else decide (x = .non))) H) ∨ ∃ b, y = .bl b ∧ Q (.bl (if neg = true then !decide (x = .bl b) else decide (x = .bl b))) H
theorem o_is : OpR X (compareOp .Is) (rIsG false) := by
  intro pins s σ H x y v u Q I rx ry h
  rcases h with ⟨rfl, q⟩ | ⟨b, rfl, q⟩
  · exact op_isN pins s σ H x .non v u Q I rx ry ⟨rfl, q⟩
  · cases (show u = Value.bool b from ry)
    exact wpAny_is_plain (plain_bool b rx) (fin_bl I (by rw [if_neg Bool.false_ne_true] at q; exact q) (RelV.bl_iff b rx).symm)
theorem o_isnot : OpR X (compareOp .IsNot) (rIsG true) := by
  intro pins s σ H x y v u Q I rx ry h
  rcases h with ⟨rfl, q⟩ | ⟨b, rfl, q⟩
  · exact op_notN pins s σ H x .non v u Q I rx ry ⟨rfl, q⟩
  · cases (show u = Value.bool b from ry)
    exact wpAny_isNot_plain (plain_bool b rx) (fin_bl I (by rw [if_pos rfl] at q; exact q) (by rw [RelV.bl_iff b rx]))
theorem isNon_ok {F : Hp} {φ : Nat → Addr} {d : D} {x : V} (r : DR K cl F φ d x) : isNon d = decide (x = .non) := by
  cases d with
  | ref n => cases (show x = .ref (φ n) from r); rfl
  | p y =>
    have r : Rp K cl F y x := r
    cases r <;> rfl
theorem isBl_ok {F : Hp} {φ : Nat → Addr} {d : D} {x : V} (b : Bool) (r : DR K cl F φ d x) : isBl b d = decide (x = .bl b) := by
  cases d with
  | ref n => cases (show x = .ref (φ n) from r); rfl
  | p y =>
    have r : Rp K cl F y x := r
    cases r <;> first | rfl | (rename_i c; cases b <;> cases c <;> rfl)
theorem d_is {neg : Bool} : OpD K cl (fIs neg) (rIsG neg) := by
  intro S B F φ H d1 d2 x y Q s r1 r2 l1 l2 o
  unfold fIs at o
  split at o
  · refine .inl ⟨drN r2, ?_⟩
    rw [← isNon_ok r1]
    exact o.fin0 rfl s (Rp.bl _) trivial
  · rename_i b
    refine .inr ⟨b, drB r2, ?_⟩
    rw [← isBl_ok b r1]
    exact o.fin0 rfl s (Rp.bl _) trivial
  · exact o.no

/-! ### built-in functions -/
theorem k_callB {x : Str} {p pos : Pos} {e : Expr} {es : List Expr} {m : MA} {id : String} {f : MF} {r : List V → Hp → VK → Prop} (hd : CallD X.K cl f r) (hc : CallR X (.builtin id) r) (hg : Gl X x) (hm : X.mg x = none) (hv : bootBuiltins x = some (.builtin id)) (ha : PA X (e :: es) (LA X.K cl m)) (hn : x ≠ "__name__" := by decide) (hdb : (x == ("__debug__" : Str)) = false := by decide)
    (he : starEach (e :: es) X.env = (false, eval e X.env) :: starEach es X.env := by rfl) (hpl : (backTo pos (starEach es X.env)).any (·.1) = false := by rfl) : PE X (.Call (.Name x p) (e :: es) [] pos) (LE X.K cl (dCall f m)) :=
  (pe_callB hc hg hm hv ha hn hdb he hpl).imp fun _ _ _ q => e_call hd q
theorem k_callT {x : Str} {p pos : Pos} {e : Expr} {es : List Expr} {m : MA} {T : String} {f : MF} {r : List V → Hp → VK → Prop} (hd : CallD X.K cl f r) (hc : CallR X (.type T) r) (hg : Gl X x) (hm : X.mg x = none) (hv : bootBuiltins x = some (.type T)) (ha : PA X (e :: es) (LA X.K cl m)) (hn : x ≠ "__name__" := by decide) (hdb : (x == ("__debug__" : Str)) = false := by decide)
    (he : starEach (e :: es) X.env = (false, eval e X.env) :: starEach es X.env := by rfl) (hpl : (backTo pos (starEach es X.env)).any (·.1) = false := by rfl) : PE X (.Call (.Name x p) (e :: es) [] pos) (LE X.K cl (dCall f m)) :=
  (pe_callTy hc hg hm hv ha hn hdb he hpl).imp fun _ _ _ q => e_call hd q
theorem dra1 {F : Hp} {φ : Nat → Addr} {d : D} {xs : List V} (r : DRA K cl F φ [d] xs) : ∃ x, xs = [x] ∧ DR K cl F φ d x := by
  cases r with | cons a b => cases b; exact ⟨_, rfl, a⟩
theorem dra2 {F : Hp} {φ : Nat → Addr} {d e : D} {xs : List V} (r : DRA K cl F φ [d, e] xs) : ∃ x y, xs = [x, y] ∧ DR K cl F φ d x ∧ DR K cl F φ e y := by
  cases r with | cons a b => cases b with | cons b c => cases c; exact ⟨_, _, rfl, a, b⟩
def fLen : MF := fun ds S => match ds with
  | [.p (.str z)] => if z.length ≤ sizeLine then some (.p (.int z.length), S) else none
  | [d] => match asQ d S with | some xs => some (.p (.int xs.length), S) | none => none
  | _ => none
def rLenG (K : PySem.W.Frag) : List V → Hp → VK → Prop := fun xs H Q => (∃ z, xs = [.str z] ∧ z.length ≤ sizeLine ∧ Q (.int z.length) H) ∨ ∃ p ys, xs = [.ref p] ∧ (SqL K H p ys ∨ SqT K H p ys) ∧ Q (.int ys.length) H
theorem c_len : CallR X (.builtin "len") (rLenG X.K) := call_len_str.or call_len_seq
theorem d_len : CallD K cl fLen (rLenG K) := by
  intro S B F φ H ds xs Q s r l o
  unfold fLen at o
  split at o
  · split at o
    · rename_i z h
      obtain ⟨x, rfl, rx⟩ := dra1 r
      exact .inl ⟨z, by rw [drS rx], h, o.fin0 rfl s (Rp.int _) trivial⟩
    · exact o.no
  · split at o
    · rename_i d hd ys e
      obtain ⟨x, rfl, rx⟩ := dra1 r
      obtain ⟨a, vs, rfl, q, t, _⟩ := asQ_ok s e rx (l _ List.mem_cons_self)
      exact .inr ⟨a, vs, rfl, q, by rw [← t.length]; exact o.fin0 rfl s (Rp.int _) trivial⟩
    · exact o.no
  · exact o.no
def fList (live : Bool) : MF := fun ds S => match ds with
  | [d] => match asQ d S with | some xs => newL live xs S | none => none
  | _ => none
def rListG (K : PySem.W.Frag) : List V → Hp → VK → Prop := fun xs H Q => ∃ p ys, xs = [.ref p] ∧ (SqL K H p ys ∨ SqT K H p ys) ∧ ∀ l, H l = none → Q (.ref l) (upd H l (.lst ys))
theorem c_list : CallR X (.type "list") (rListG X.K) := call_list_of
theorem d_list {live : Bool} : CallD K cl (fList live) (rListG K) := by
  intro S B F φ H ds xs Q s r l o
  unfold fList at o
  split at o
  · split at o
    · rename_i d ys e
      obtain ⟨x, rfl, rx⟩ := dra1 r
      obtain ⟨a, vs, rfl, q, t, m⟩ := asQ_ok s e rx (l _ List.mem_cons_self)
      exact ⟨a, vs, rfl, q, (newL_ok1 o s t m).2⟩
    · exact o.no
  · exact o.no
def fTuple : MF := fun ds S => match ds with
  | [.p (.tup ps)] => some (.p (.tup ps), S)
  | [d] => match asL d S with | some xs => newT xs S | none => none
  | _ => none
def rTupG (K : PySem.W.Frag) : List V → Hp → VK → Prop := fun xs H Q => ∃ p ys, xs = [.ref p] ∧ ((SqL K H p ys ∧ ∀ l, H l = none → Q (.ref l) (upd H l (.tup ys))) ∨ (SqT K H p ys ∧ Q (.ref p) H))
theorem c_tuple : CallR X (.type "tuple") (rTupG X.K) := call_tuple_of
theorem d_tuple : CallD K cl fTuple (rTupG K) := by
  intro S B F φ H ds xs Q s r l o
  unfold fTuple at o
  split at o
  · rename_i ps
    obtain ⟨x, rfl, rx⟩ := dra1 r
    cases (show Rp K cl F (.tup ps) x from rx) with
    | tup q t => exact ⟨_, _, rfl, .inr ⟨SqT.mono s.le q, o.fin0 rfl s (Rp.tup q t) trivial⟩⟩
  · split at o
    · rename_i d hd ys e
      obtain ⟨x, rfl, rx⟩ := dra1 r
      obtain ⟨a, vs, rfl, q, t, m⟩ := asL_ok s e rx (l _ List.mem_cons_self)
      exact ⟨a, vs, rfl, .inl ⟨q, (newT_ok o s t).2⟩⟩
    · exact o.no
  · exact o.no
def fInt : MF := fun ds S => match ds with
  | [.p (.int i)] => some (.p (.int i), S)
  | [.p (.bl b)] => some (.p (.int (if b = true then 1 else 0)), S)
  | _ => none
def rIntG : List V → Hp → VK → Prop := fun xs H Q => (∃ i, xs = [.int i] ∧ Q (.int i) H) ∨ ∃ k, xs = [.bl k] ∧ Q (.int (if k then 1 else 0)) H
theorem c_int : CallR X (.type "int") rIntG := call_int1
theorem d_int : CallD K cl fInt rIntG := by
  intro S B F φ H ds xs Q s r l o
  unfold fInt at o
  split at o
  · obtain ⟨x, rfl, rx⟩ := dra1 r
    exact .inl ⟨_, by rw [drI rx], o.fin0 rfl s (Rp.int _) trivial⟩
  · obtain ⟨x, rfl, rx⟩ := dra1 r
    exact .inr ⟨_, by rw [drB rx], o.fin0 rfl s (Rp.int _) trivial⟩
  · exact o.no
def fAbs : MF := fun ds S => match ds with
  | [.p (.int i)] => some (.p (.int (if i < 0 then -i else i)), S)
  | _ => none
def rAbsG : List V → Hp → VK → Prop := fun xs H Q => ∃ i, xs = [.int i] ∧ Q (.int (if i < 0 then -i else i)) H
theorem c_abs : CallR X (.builtin "abs") rAbsG := call_abs
theorem d_abs : CallD K cl fAbs rAbsG := by
  intro S B F φ H ds xs Q s r l o
  unfold fAbs at o
  split at o
  · obtain ⟨x, rfl, rx⟩ := dra1 r
    exact ⟨_, by rw [drI rx], o.fin0 rfl s (Rp.int _) trivial⟩
  · exact o.no
/-- max(i, j), min(i, j) -/
def fMax : MF := fun ds S => match ds with
  | [.p (.int i), .p (.int j)] => some (.p (.int (if j > i then j else i)), S)
  | _ => none
def fMin : MF := fun ds S => match ds with
  | [.p (.int i), .p (.int j)] => some (.p (.int (if j < i then j else i)), S)
  | _ => none
def rMaxG : List V → Hp → VK → Prop := fun xs H Q => ∃ i j, xs = [.int i, .int j] ∧ Q (.int (if j > i then j else i)) H
def rMinG : List V → Hp → VK → Prop := fun xs H Q => ∃ i j, xs = [.int i, .int j] ∧ Q (.int (if j < i then j else i)) H
theorem c_max (hc : X.calm = true) : CallR X (.builtin "max") rMaxG := call_max2 hc
theorem c_min (hc : X.calm = true) : CallR X (.builtin "min") rMinG := call_min2 hc
theorem d_max : CallD K cl fMax rMaxG := by
  intro S B F φ H ds xs Q s r l o
  unfold fMax at o
  split at o
  · obtain ⟨x, y, rfl, rx, ry⟩ := dra2 r
    exact ⟨_, _, by rw [drI rx, drI ry], o.fin0 rfl s (Rp.int _) trivial⟩
  · exact o.no
theorem d_min : CallD K cl fMin rMinG := by
  intro S B F φ H ds xs Q s r l o
  unfold fMin at o
  split at o
  · obtain ⟨x, y, rfl, rx, ry⟩ := dra2 r
    exact ⟨_, _, by rw [drI rx, drI ry], o.fin0 rfl s (Rp.int _) trivial⟩
  · exact o.no
def fStr : MF := fun ds S => match ds with
  | [.p (.int i)] => if i.natAbs.log2 < 1920 then some (.p (.str (toString i)), S) else none
  | _ => none
def rStrG : List V → Hp → VK → Prop := fun xs H Q => ∃ i, xs = [.int i] ∧ i.natAbs.log2 < 1920 ∧ Q (.str (toString i)) H
theorem c_str : CallR X (.type "str") rStrG := call_str_int
theorem d_str : CallD K cl fStr rStrG := by
  intro S B F φ H ds xs Q s r l o
  unfold fStr at o
  split at o
  · split at o
    · rename_i i h
      obtain ⟨x, rfl, rx⟩ := dra1 r
      exact ⟨i, by rw [drI rx], h, o.fin0 rfl s (Rp.str _) trivial⟩
    · exact o.no
  · exact o.no
/-- ints out of a list of data -/
def intsOf : List D → Option (List Int)
  | [] => some []
  | .p (.int i) :: r => (intsOf r).map (i :: ·)
  | _ => none
@[simp] theorem intsOf_map (ns : List Int) : intsOf (ns.map fun n => D.p (.int n)) = some ns := by
  induction ns with
  | nil => rfl
  | cons x r ih => simp [intsOf, ih]
theorem intsOf_of : ∀ {ds : List D} {ns : List Int} {F : Hp} {φ : Nat → Addr} {vs : List V}, intsOf ds = some ns → DRA K cl F φ ds vs → vs = ns.map V.int
  | [], ns, F, φ, vs, h, r => by cases h; cases r; rfl
  | .p (.int i) :: r, ns, F, φ, vs, h, q => by
    unfold intsOf at h
    cases e : intsOf r with
    | none => rw [e] at h; cases h
    | some ms =>
      rw [e] at h; cases h
      cases q with
      | cons a b => rw [List.map_cons, ← intsOf_of e b, drI a]
  | .ref n :: r, _, _, _, _, h, _ => by cases h
  | .p .non :: r, _, _, _, _, h, _ => by cases h
  | .p (.bl _) :: r, _, _, _, _, h, _ => by cases h
  | .p (.str _) :: r, _, _, _, _, h, _ => by cases h
  | .p (.tup _) :: r, _, _, _, _, h, _ => by cases h
  | .p (.lst _) :: r, _, _, _, _, h, _ => by cases h
  | .p (.dK _) :: r, _, _, _, _, h, _ => by cases h
  | .p (.dT _) :: r, _, _, _, _, h, _ => by cases h
  | .p (.ins _ _) :: r, _, _, _, _, h, _ => by cases h
def fSum : MF := fun ds S => match ds with
  | [d] => match asQ d S with | some xs => (match intsOf xs with | some ns => some (.p (.int ns.sum), S) | none => none) | none => none
  | _ => none
def rSumG (K : PySem.W.Frag) : List V → Hp → VK → Prop := fun vs H Q => ∃ (a : Addr) (ns : List Int), vs = [V.ref a] ∧ (SqL K H a (ns.map V.int) ∨ SqT K H a (ns.map V.int)) ∧ Q (.int ns.sum) H
theorem c_sum (hc : X.calm = true) : CallR X (.builtin "sum") (rSumG X.K) := by
  intro pins s σ H vs us Q I r h
  obtain ⟨a, ns, rfl, hs | hs, q⟩ := h
  · exact cr_sum hc pins s σ H _ us Q I r ⟨a, ns, rfl, hs, q⟩
  · obtain ⟨its, rv, ht, _⟩ := I.tuple hs
    rw [Vals.ref1 r]
    obtain ⟨xs, e⟩ := rv.ints.allInts.items
    have hn : numsOf (intItems xs).toList = ns := by rw [← e]; exact rv.ints.numsOf
    rw [nums_intItems] at hn
    have ht2 : s.heap.IsTuple a (intItems xs) := by rw [← e]; exact ht
    refine PySem.W.ktm_sumG (I.ok.hd hc) ht2 fun h' tk t' hk => ⟨.int ns.sum, H, I.kept hk, ⟨t', ?_⟩, q⟩
    rw [preSum_eq, List.take_of_length_le (by simp), hn]
theorem d_sum : CallD K cl fSum (rSumG K) := by
  intro S B F φ H ds xs Q s r l o
  unfold fSum at o
  split at o
  · split at o
    · rename_i d ys e
      split at o
      · rename_i ns e2
        obtain ⟨x, rfl, rx⟩ := dra1 r
        obtain ⟨a, vs, rfl, q, t, m⟩ := asQ_ok s e rx (l _ List.mem_cons_self)
        have := intsOf_of e2 t
        subst this
        exact ⟨a, ns, rfl, q, o.fin0 rfl s (Rp.int _) trivial⟩
      · exact o.no
    · exact o.no
  · exact o.no
end
end Pv
namespace Pv
open PySem PySem.Spec PyProof.Rows L2
section
variable {X : Cx} {K : PySem.W.Frag} {cl : Nat → Addr}
/-! ### o[i], o[i:j] -/
def fIx (d e : D) (S : SH) : Option (D × SH) := match d, e with
  | .p (.str z), .p (.int i) => if z.length ≤ sizeLine then (match atI z.cps.toList i with | some c => some (.p (.str ⟨#[c]⟩), S) | none => none) else none
  | d, .p (.int i) => match asQ d S with
    | some xs => (match atI xs i with | some x => some (x, S) | none => none)
    | none => none
  | _, _ => none
theorem atI_dra {F : Hp} {φ : Nat → Addr} {ds : List D} {vs : List V} {i : Int} {d : D} (r : DRA K cl F φ ds vs) (e : atI ds i = some d) : ∃ v, atI vs i = some v ∧ DR K cl F φ d v ∧ d ∈ ds := by
  unfold atI at e ⊢
  rw [← r.length]
  cases h : ixN ds.length i with
  | none => rw [h] at e; cases e
  | some j =>
    rw [h] at e
    obtain ⟨v, hv, rv⟩ := r.get e
    exact ⟨v, hv, rv, List.mem_of_getElem? e⟩
theorem o_ix : IxR X (rIx X.K) := ix_seq
theorem d_ix : OpD K cl fIx (rIx K) := by
  intro S B F φ H d1 d2 x y Q s r1 r2 l1 l2 o
  unfold fIx at o
  split at o
  · rename_i z i
    split at o
    · rename_i hz
      split at o
      · rename_i c e
        exact .inr (.inr ⟨z, i, c, drS r1, drI r2, hz, e, o.fin0 rfl s (Rp.str _) trivial⟩)
      · exact o.no
    · exact o.no
  · rename_i i _
    split at o
    · rename_i xs e
      split at o
      · rename_i d e2
        obtain ⟨a, vs, rfl, q, t, m⟩ := asQ_ok s e r1 l1
        obtain ⟨v, hv, rv, hm⟩ := atI_dra t e2
        have fin := o.fin0 rfl s rv (m d hm)
        rcases q with q | q
        · exact .inl ⟨a, vs, i, v, rfl, drI r2, q, hv, fin⟩
        · exact .inr (.inl ⟨a, vs, i, v, rfl, drI r2, q, hv, fin⟩)
      · exact o.no
    · exact o.no
  · exact o.no
theorem k_ix {a b : Expr} {ma mb : ME} {pos : Pos} (ha : PE X a (LE X.K cl ma)) (hb : PE X b (LE X.K cl mb)) (hs : PlainIx b := by exact fun _ _ => rfl) : PE X (.Subscript a b pos) (LE X.K cl (dOp fIx ma mb)) :=
  (pe_ix o_ix ha hb hs).imp fun _ _ _ q => e_op d_ix q
/-- the items between two places -/
def cutD {α : Type} (xs : List α) (lo hi : Option Int) : List α := (xs.drop (HT.sIx xs.length 0 lo)).take (HT.sIx xs.length xs.length hi - HT.sIx xs.length 0 lo)
def optI : Option D → Option (Option Int)
  | none => some none
  | some (.p (.int i)) => some (some i)
  | _ => none
def fSl (live : Bool) (d : D) (lo hi : Option Int) (S : SH) : Option (D × SH) := match d with
  | .p (.str z) => if z.length ≤ sizeLine then some (.p (.str (L2.cutS z lo hi)), S) else none
  | .p (.tup ps) => some (.p (.tup (cutD ps lo hi)), S)
  | d => match asL d S with
    | some xs => newL live (cutD xs lo hi) S
    | none => none
def dSl (live : Bool) (a : ME) (lo hi : Option ME) : ME := fun σ S => bnd (a σ S) fun d S1 =>
  bnd (match lo with | some m => bnd (m σ S1) fun x S2 => (match x with | .p (.int i) => some (some i, S2) | _ => none) | none => some (none, S1)) fun l S2 =>
  bnd (match hi with | some m => bnd (m σ S2) fun x S3 => (match x with | .p (.int i) => some (some i, S3) | _ => none) | none => some (none, S2)) fun h S3 => fSl live d l h S3
/-- a part of a slice -/
def LO (K : PySem.W.Frag) (cl : Nat → Addr) : Option ME → TO
  | some m => tPart (LE K cl m)
  | none => tNoPart
theorem o_none : PO X none (LO X.K cl none) := po_none
theorem o_some {e : Expr} {m : ME} (h : PE X e (LE X.K cl m)) : PO X (some e) (LO X.K cl (some m)) := po_some h
def rSlG (K : PySem.W.Frag) : V → Option Int → Option Int → Hp → VK → Prop := fun x lo hi H Q => rSlL K x lo hi H Q ∨ rSlA K x lo hi H Q ∨ rSlS x lo hi H Q
theorem o_sl : SlR X (rSlG X.K) := sl_list.or (sl_tupA.or sl_str)
theorem cut_dra {F : Hp} {φ : Nat → Addr} {ds : List D} {vs : List V} (r : DRA K cl F φ ds vs) (lo hi : Option Int) : DRA K cl F φ (cutD ds lo hi) (cutV vs lo hi) := by
  have td : ∀ {ds : List D} {vs : List V} (n : Nat), DRA K cl F φ ds vs → DRA K cl F φ (ds.drop n) (vs.drop n) := by
    intro ds vs n r
    induction n generalizing ds vs with
    | zero => exact r
    | succ n ih => cases r with | nil => exact .nil | cons a b => exact ih b
  have tt : ∀ {ds : List D} {vs : List V} (n : Nat), DRA K cl F φ ds vs → DRA K cl F φ (ds.take n) (vs.take n) := by
    intro ds vs n r
    induction n generalizing ds vs with
    | zero => exact .nil
    | succ n ih => cases r with | nil => exact .nil | cons a b => exact .cons a (ih b)
  unfold cutD cutV
  rw [r.length]
  exact tt _ (td _ r)
theorem cut_mem {α : Type} {xs : List α} {lo hi : Option Int} {x : α} (h : x ∈ cutD xs lo hi) : x ∈ xs := List.mem_of_mem_drop (List.mem_of_mem_take h)
theorem cut_map {α β : Type} (f : α → β) (xs : List α) (lo hi : Option Int) : cutD (xs.map f) lo hi = (cutD xs lo hi).map f := by
  unfold cutD
  rw [List.length_map, List.map_take, List.map_drop]
theorem d_sl {live : Bool} {S : SH} {B : List Nat} {F : Hp} {φ : Nat → Addr} {H : Hp} {d : D} {x : V} {lo hi : Option Int} {Q : VK} (s : Sim K cl S B F φ H) (r : DR K cl F φ d x) (l : d.lt S.len) (o : OkE K cl S B F φ H (fSl live d lo hi S) Q) : rSlG K x lo hi H Q := by
  unfold fSl at o
  split at o
  · split at o
    · rename_i z hz
      exact .inr (.inr ⟨z, drS r, hz, o.fin0 rfl s (Rp.str _) trivial⟩)
    · exact o.no
  · rename_i ps
    cases (show Rp K cl F (.tup ps) x from r) with
    | @tup a _ vs q t =>
      have tr : DRA K cl F φ (ps.map D.p) vs := t.dra
      have hl := t.len
      refine .inr (.inl ⟨a, vs, rfl, SqT.mono s.le q, fun h => ?_, fun h p hp => ?_⟩)
      · have e : cutD ps lo hi = ps := by
          unfold cutD
          rw [hl, h.1, h.2, List.drop_zero, List.take_of_length_le (by omega)]
        rw [e] at o
        exact o.fin0 rfl s (Rp.tup q t) trivial
      · obtain ⟨s1, x1⟩ := s.frz (H' := upd H p (.tup (cutV vs lo hi))) (Same.new (Same.refl H) hp) hp upd_same
        have := cut_dra tr lo hi
        rw [cut_map] at this
        exact o.fin rfl s1 x1 (Rp.tup (.inl (.inl upd_same)) (RpA.mono x1.fz this.rpa)) trivial
  · split at o
    · rename_i xs e
      obtain ⟨a, vs, rfl, q, t, m⟩ := asL_ok s e r l
      exact .inl ⟨a, vs, rfl, q, (newL_ok1 o s (cut_dra t lo hi) fun z hz => m z (cut_mem hz)).2⟩
    · exact o.no
theorem k_sl {live : Bool} {e : Expr} {lo hi : Option Expr} {me : ME} {ml mh : Option ME} {pos p2 : Pos} (he : PE X e (LE X.K cl me)) (hl : PO X lo (LO X.K cl ml)) (hh : PO X hi (LO X.K cl mh)) : PE X (.Subscript e (.Slice lo hi none p2) pos) (LE X.K cl (dSl live me ml mh)) := by
  refine (pe_slice o_sl he hl hh).imp fun σ H Q q => ?_
  obtain ⟨σd, S, B, F, φ, s, rs, o⟩ := q
  obtain ⟨d, S1, e1, o1⟩ := okE_bnd o
  obtain ⟨l, S2, e2, o2⟩ := okE_bnd o1
  obtain ⟨h, S3, e3, o3⟩ := okE_bnd o2
  refine LE.then_ s rs e1 fun F1 φ1 H1 x s1 x1 rs1 dr1 l1 => ?_
  have part : ∀ (m : Option ME) (S4 S5 : SH) (B : List Nat) (F4 : Hp) (φ4 : Nat → Addr) (H4 : Hp) (k : Option Int) (R : Option Int → Hp → Prop), Sim X.K cl S4 B F4 φ4 H4 → RS X.K cl F4 φ4 S4.len σd σ →
      (match m with | some m => bnd (m σd S4) fun x S2 => (match x with | .p (.int i) => some (some i, S2) | _ => none) | none => some (none, S4)) = some (k, S5) →
      (∀ F5 φ5 H5, Sim X.K cl S5 B F5 φ5 H5 → Ext S4 F4 φ4 H4 S5 F5 φ5 H5 → RS X.K cl F5 φ5 S5.len σd σ → R k H5) → LO X.K cl m σ H4 R := by
    intro m S4 S5 B F4 φ4 H4 k R s4 rs4 e kk
    cases m with
    | none => cases e; exact kk F4 φ4 H4 s4 (.refl s4) rs4
    | some m =>
      obtain ⟨y, S6, e6, e7⟩ := bnd_of e
      refine LE.then_ s4 rs4 e6 fun F6 φ6 H6 u s6 x6 rs6 dr6 l6 => ?_
      split at e7
      · cases e7
        exact ⟨_, drI dr6, kk F6 φ6 H6 s6 x6 rs6⟩
      · cases e7
  refine part ml S1 S2 B F1 φ1 H1 l _ s1 rs1 e2 fun F2 φ2 H2 s2 x2 rs2 => ?_
  refine part mh S2 S3 B F2 φ2 H2 h _ s2 rs2 e3 fun F3 φ3 H3 s3 x3 rs3 => ?_
  have x23 := x2.trans x3
  exact d_sl s3 (x23.dr l1 dr1) (x23.lt l1) (o3.ext (x1.trans x23))

/-! ### methods of lists -/
def MtD (K : PySem.W.Frag) (cl : Nat → Addr) (f : MF) (T : String) (r : V → List V → Hp → VK → Prop) : Prop :=
  ∀ S B F φ H d ds x xs Q, Sim K cl S B F φ H → DR K cl F φ d x → d.lt S.len → DRA K cl F φ ds xs → (∀ y ∈ ds, y.lt S.len) → OkE K cl S B F φ H (f (d :: ds) S) Q → r x xs H Q
def isTy (T : String) (d : D) (S : SH) : Bool := match d with
  | .p (.str _) => T == "str"
  | .p (.lst _) => T == "list"
  | .p (.dK _) => T == "dict"
  | .p (.dT _) => T == "dict"
  | .ref n => match S.os[n]? with
    | some (.lst _) => T == "list"
    | some (.dK _) => T == "dict"
    | some (.dT _) => T == "dict"
    | _ => false
  | _ => false
theorem isTy_ok {S : SH} {B : List Nat} {F : Hp} {φ : Nat → Addr} {H : Hp} {T : String} {d : D} {x : V} (s : Sim K cl S B F φ H) (e : isTy T d S = true) (r : DR K cl F φ d x) : tyV K T x H := by
  cases d with
  | p y =>
    have r : Rp K cl F y x := r
    cases r with
    | str z => exact (beq_iff_eq.mp e)
    | lst q t => exact .inl ⟨beq_iff_eq.mp e, _, SqL.mono s.le q⟩
    | dK q t => exact .inr (.inr (.inl ⟨beq_iff_eq.mp e, .inl ⟨_, s.le _ _ q⟩⟩))
    | dT q t => exact .inr (.inr (.inl ⟨beq_iff_eq.mp e, .inr ⟨_, s.le _ _ q⟩⟩))
    | _ => cases e
  | ref n =>
    unfold isTy at e
    dsimp only at e
    have r : x = .ref (φ n) := r
    subst r
    cases q : S.os[n]? with
    | none => rw [q] at e; cases e
    | some o =>
      rw [q] at e
      have ob := (s.ob n _ q).2
      cases o with
      | lst ds => obtain ⟨vs, ev, _⟩ := ob; exact .inl ⟨beq_iff_eq.mp e, _, .inl (.inl ev)⟩
      | dK ds => obtain ⟨vs, ev, _⟩ := ob; exact .inr (.inr (.inl ⟨beq_iff_eq.mp e, .inl ⟨_, ev⟩⟩))
      | dT ds => obtain ⟨vs, ev, _⟩ := ob; exact .inr (.inr (.inl ⟨beq_iff_eq.mp e, .inr ⟨_, ev⟩⟩))
      | ins _ _ => cases e
def dBM (T : String) (f : MF) (o : ME) (a : MA) : ME := fun σ S => bnd (o σ S) fun d S1 => if isTy T d S1 = true then bnd (a σ S1) fun ds S2 => f (d :: ds) S2 else none
theorem e_bm {T : String} {f : MF} {r : V → List V → Hp → VK → Prop} {mo : ME} {ma : MA} {σ : L2.St} {H : Hp} {Q : VK} (hd : MtD K cl f T r) (q : LE K cl (dBM T f mo ma) σ H Q) : tBM K T r (LE K cl mo) (LA K cl ma) σ H Q := by
  obtain ⟨σd, S, B, F, φ, s, rs, o⟩ := q
  obtain ⟨d, S1, e1, o1⟩ := okE_bnd o
  refine LE.then_ s rs e1 fun F1 φ1 H1 x s1 x1 rs1 dr1 l1 => ?_
  split at o1
  · rename_i ht
    obtain ⟨ds, S2, e2, o2⟩ := okE_bnd o1
    refine ⟨isTy_ok s1 ht dr1, LA.then_ s1 rs1 e2 fun F2 φ2 H2 vs s2 x2 rs2 dr2 l2 => ?_⟩
    exact hd S2 B F2 φ2 H2 d ds x vs Q s2 (x2.dr l1 dr1) (x2.lt l1) dr2 l2 (o2.ext (x1.trans x2))
  · exact o1.no
theorem k_bm {o e : Expr} {es : List Expr} {name : Str} {apos cpos : Pos} {T id : String} {f : MF} {r : V → List V → Hp → VK → Prop} {mo : ME} {ma : MA} (hd : MtD X.K cl f T r) (pa : PlainAttrs T) (slot : Slot T name id) (hty : typeOf (.builtin id) = pure (.type "method_descriptor")) (hm : MtR X id r) (ho : PE X o (LE X.K cl mo)) (ha : PA X (e :: es) (LA X.K cl ma))
    (hbase : attributeBase o name X.env (eval o X.env) = eval o X.env := by rfl)
    (hfew : ((backTo cpos (starEach (e :: es) X.env)).all (fun x => !x.1) && (backToKw cpos (keywordEach [] X.env)).all (fun x => x.1.isSome)
      && decide ((e :: es).length + ([] : List Keyword).length + (if ([] : List Keyword).isEmpty then 0 else 1) < 30)) = true := by rfl)
    (hline : (apos.endLine == cpos.line) = true := by rfl) (hs : starEach (e :: es) X.env = (false, eval e X.env) :: starEach es X.env := by rfl) (hplain : (backTo cpos (starEach es X.env)).any (·.1) = false := by rfl) :
    PE X (.Call (.Attribute o name apos) (e :: es) [] cpos) (LE X.K cl (dBM T f mo ma)) :=
  (pe_bm pa slot hty hm ho ha hbase hfew hline hs hplain).imp fun _ _ _ q => e_bm hd q
theorem k_bm0 {o : Expr} {name : Str} {apos cpos : Pos} {T id : String} {f : MF} {r : V → List V → Hp → VK → Prop} {mo : ME} (hd : MtD X.K cl f T r) (pa : PlainAttrs T) (slot : Slot T name id) (hty : typeOf (.builtin id) = pure (.type "method_descriptor")) (hm : MtR X id r) (ho : PE X o (LE X.K cl mo))
    (hbase : attributeBase o name X.env (eval o X.env) = eval o X.env := by rfl) (hline : (apos.endLine == cpos.line) = true := by rfl) : PE X (.Call (.Attribute o name apos) [] [] cpos) (LE X.K cl (dBM T f mo dNil)) := by
  refine (pe_bm0 pa slot hty hm ho hbase hline).imp fun σ H Q q => ?_
  have z := e_bm hd q
  unfold tBM at z
  obtain ⟨σd, S, B, F, φ, s, rs, d, S1, e, k⟩ := z
  refine ⟨σd, S, B, F, φ, s, rs, d, S1, e, fun F1 φ1 H1 u s1 x1 dr l => ?_⟩
  obtain ⟨h1, h2⟩ := k F1 φ1 H1 u s1 x1 dr l
  obtain ⟨σd', S', B', F', φ', s', rs', d', S1', e', k'⟩ := h2
  cases e'
  exact ⟨h1, k' F' φ' H1 [] s' (.refl s') .nil fun _ z => absurd z (by simp)⟩
/-- xs.append(v) -/
def fApp : MF := fun ds S => match ds with
  | [.ref n, v] => match S.os[n]? with
    | some (.lst xs) => if xs.length < sizeLine ∧ okRef S n v = true then some (.p .non, S.put n (.lst (xs ++ [v]))) else none
    | _ => none
  | _ => none
theorem d_app : MtD K cl fApp "list" rAppend := by
  intro S B F φ H d ds x xs Q s r l rs ls o
  unfold fApp at o
  split at o
  · rename_i n v e0
    split at o
    · rename_i ys q
      split at o
      · rename_i h
        injection e0 with e1 e2
        subst e1 e2
        obtain ⟨y, rfl, ry⟩ := dra1 rs
        obtain ⟨vs, ev, rv⟩ := (s.ob n _ q).2
        have hl := rv.length
        obtain ⟨s2, x2⟩ := putOk (o := .lst (ys ++ [v])) (x := .lst (vs ++ [y])) s q h.2 (ls v List.mem_cons_self) (fun z hz => by
          rcases List.mem_append.mp hz with hz | hz
          · exact .inr hz
          · exact .inl (List.mem_singleton.mp hz)) ⟨_, rfl, DRA.append rv (.cons ry .nil)⟩
        exact ⟨φ n, vs, y, r, rfl, ev, by omega, o.fin rfl s2 x2 .non trivial⟩
      · exact o.no
    · exact o.no
  · exact o.no
/-- xs.extend(ys) of a list or a tuple -/
def fExt : MF := fun ds S => match ds with
  | [.ref n, v] => match S.os[n]?, asQ v S with
    | some (.lst xs), some ys => match toPs ys with
      | some ps => if xs.length + ps.length ≤ sizeLine then some (.p .non, S.put n (.lst (xs ++ ps.map D.p))) else none
      | none => none
    | _, _ => none
  | _ => none
open PySem.AutoSeq1 (wpAny_loadPart') in
open PySem.MeetsSeq PySem.MeetsSeq2 PySem.MeetsSeq3 in
theorem ext_tup (l : Addr) (xs : Array Value) (n : Nat) (b : Addr) (ys : Array Value) (m : Nat) (dd : Option Addr) (sl : Array (Option Value)) (h0 : ¬(!xs.isEmpty && Builtin.List.listTooLong (xs.size + ys.size)) = true) (h1 : xs.size ≤ sizeLine) (h2 : xs.size + ys.size ≤ sizeLine + 1) :
    Meets (Builtin.«list.extend» ⟨[.ref l, .ref b], []⟩) (fun _ R s => s.heap.get? l = some { cls := .type "list", dict := none, data := .seq xs n, slots := #[] } ∧ s.heap.get? b = some { cls := .type "tuple", dict := dd, data := .seq ys m, slots := sl } ∧
      R (.ok (.ret Value.none)) { s with heap := s.heap.update l (Obj.mapSeq fun x => x ++ ys), toks := s.toks }) :=
  .of_wp fun prog w A R s h => by
    obtain ⟨hp, g, d, tk, os⟩ := s; obtain ⟨hl, hb, h⟩ := h
    have e1 := AutoSeq1.sub_tuple_tuple
    have e2 := AutoSeq1.sub_list_list
    have e3 := AutoSeq1.sub_tuple_list
    have e4 := AutoSeq1.sub_list_tuple
    have hz' : (xs ++ ys).size ≤ sizeLine + 1 := by rw [Array.size_append]; exact h2
    wp_walk using (wpAny_updateSeq hl rfl (hz := h1) (_hz' := hz')), wpAny_loadPart' hl, wpAny_loadPart' hb
    exact ⟨_, rfl, h⟩
open PySem.AutoSeq1 (wpAny_loadPart') in
open PySem.MeetsSeq PySem.MeetsSeq2 PySem.MeetsSeq3 in
theorem ext_lst (l : Addr) (xs : Array Value) (n : Nat) (b : Addr) (ys : Array Value) (m : Nat) (dd : Option Addr) (sl : Array (Option Value)) (h0 : ¬(!xs.isEmpty && Builtin.List.listTooLong (xs.size + ys.size)) = true) (h1 : xs.size ≤ sizeLine) (h2 : xs.size + ys.size ≤ sizeLine + 1) :
    Meets (Builtin.«list.extend» ⟨[.ref l, .ref b], []⟩) (fun _ R s => s.heap.get? l = some { cls := .type "list", dict := none, data := .seq xs n, slots := #[] } ∧ s.heap.get? b = some { cls := .type "list", dict := dd, data := .seq ys m, slots := sl } ∧
      R (.ok (.ret Value.none)) { s with heap := s.heap.update l (Obj.mapSeq fun x => x ++ ys), toks := s.toks }) :=
  .of_wp fun prog w A R s h => by
    obtain ⟨hp, g, d, tk, os⟩ := s; obtain ⟨hl, hb, h⟩ := h
    have e1 := AutoSeq1.sub_tuple_tuple
    have e2 := AutoSeq1.sub_list_list
    have e3 := AutoSeq1.sub_tuple_list
    have e4 := AutoSeq1.sub_list_tuple
    have hz' : (xs ++ ys).size ≤ sizeLine + 1 := by rw [Array.size_append]; exact h2
    wp_walk using (wpAny_updateSeq hl rfl (hz := h1) (_hz' := hz')), wpAny_loadPart' hl, wpAny_loadPart' hb
    exact ⟨_, rfl, h⟩
def rExtG (K : PySem.W.Frag) : V → List V → Hp → VK → Prop := fun x vs H Q => ∃ l b xs zs, x = .ref l ∧ vs = [.ref b] ∧ H l = some (.lst xs) ∧ (SqL K H b zs ∨ SqT K H b zs) ∧ xs.length + zs.length ≤ sizeLine ∧ Q .non (upd H l (.lst (xs ++ zs)))
theorem mt_extG : MtM X "list.extend" (rExtG X.K) := by
  intro pins s σ H x vs v us Q I rx rv h
  obtain ⟨l, b, xs, zs, rfl, rfl, hH, hB, hz, q⟩ := h
  cases rx
  obtain ⟨u, rfl, ru⟩ := rv.one
  cases ru
  obtain ⟨z, its, n, r, hl, e⟩ := I.lstM hH
  have l1 := r.length
  have fin : ∀ its2 : List Value, Vals zs its2 → EP X pins σ Q .none { s with heap := s.heap.update l (Obj.mapSeq fun x => x ++ its2.toArray), toks := s.toks } := fun its2 r2 => by
    refine ⟨.non, _, I.lset (its' := its ++ its2) hH e (by simp) (r.append r2) ?_, rfl, q⟩
    rw [List.length_append]
    omega
  have small : ∀ its2 : List Value, Vals zs its2 → its.toArray.size + its2.toArray.size ≤ sizeLine := fun its2 r2 => by
    have l2 := r2.length
    rw [List.size_toArray, List.size_toArray]; omega
  have long : ∀ its2 : List Value, Vals zs its2 → ¬ (!its.toArray.isEmpty && Builtin.List.listTooLong (its.toArray.size + its2.toArray.size)) = true := fun its2 r2 => by
    rw [notLongL (small its2 r2), Bool.and_false]
    exact Bool.false_ne_true
  rcases hB with hB | hB
  · obtain ⟨its2, r2, ⟨⟨_, dd, _, sl⟩, m, e2, c2, d2, t2⟩, _⟩ := I.list hB
    simp only at c2 d2 t2
    subst c2 d2 t2
    have sm := small its2 r2
    exact call_meets F.slot_list_extend ⟨_, e, rfl⟩ F.entry_list_extend (F.args_list_extend_2 _ _)
      (ext_lst l its.toArray n b its2.toArray m _ sl (long its2 r2) (by rw [List.size_toArray]; omega) (by omega)) ⟨e, e2, fin its2 r2⟩
  · obtain ⟨its2, r2, pT, _⟩ := I.tuple hB
    obtain ⟨⟨_, dd, _, sl⟩, e2, hc, m, hd⟩ := pT
    simp only at hc hd
    subst hc hd
    have sm := small its2 r2
    exact call_meets F.slot_list_extend ⟨_, e, rfl⟩ F.entry_list_extend (F.args_list_extend_2 _ _)
      (ext_tup l its.toArray n b its2.toArray m dd sl (long its2 r2) (by rw [List.size_toArray]; omega) (by omega)) ⟨e, e2, fin its2 r2⟩
theorem d_ext : MtD K cl fExt "list" (rExtG K) := by
  intro S B F φ H d ds x xs Q s r l rs ls o
  unfold fExt at o
  split at o
  · rename_i n v e0
    split at o
    · rename_i ys zs q e1
      split at o
      · rename_i ps ep
        split at o
        · rename_i hz
          injection e0 with e2 e3
          subst e2 e3
          obtain ⟨y, rfl, ry⟩ := dra1 rs
          obtain ⟨a, ws, rfl, qw, tw, mw⟩ := asQ_ok s e1 ry (ls v List.mem_cons_self)
          obtain ⟨vs, ev, rv⟩ := (s.ob n _ q).2
          have hzs := toPs_of ep
          subst hzs
          have hl := rv.length
          have hl2 := tw.length
          rw [List.length_map] at hl2
          obtain ⟨s2, x2⟩ := putGen (o := .lst (ys ++ ps.map D.p)) (x := .lst (vs ++ ws)) s q (fun z hz => by
            rcases List.mem_append.mp hz with hz | hz
            · exact .inr (.inl hz)
            · exact .inl fun k => lt_map z hz) ⟨_, rfl, DRA.append rv tw⟩
          exact ⟨φ n, a, vs, ws, r, rfl, ev, qw, by omega, o.fin rfl s2 x2 .non trivial⟩
        · exact o.no
      · exact o.no
    · exact o.no
  · exact o.no
end
end Pv
namespace Pv
open PySem PySem.Spec PyProof.Rows L2
section
variable {X : Cx} {K : PySem.W.Frag} {cl : Nat → Addr}
/-! ### isinstance of built-in types -/
def tyName (d : D) (S : SH) : Option String := match d with
  | .p .non => some "NoneType"
  | .p (.bl _) => some "bool"
  | .p (.int _) => some "int"
  | .p (.str _) => some "str"
  | .p (.tup _) => some "tuple"
  | .p (.lst _) => some "list"
  | .p (.dK _) => some "dict"
  | .p (.dT _) => some "dict"
  | .p (.ins _ _) => none
  | .ref n => match S.os[n]? with
    | some (.lst _) => some "list"
    | some (.dK _) => some "dict"
    | some (.dT _) => some "dict"
    | _ => none
def isSub (a b : String) : Bool := a == b || (a == "bool" && b == "int")
def tyOk (b : String) : Bool := ["bool", "int", "str", "tuple", "list", "dict"].contains b
theorem kit_tab : ∀ a ∈ ["NoneType", "bool", "int", "str", "tuple", "list", "dict"], ∀ b ∈ ["bool", "int", "str", "tuple", "list", "dict"], kitB a b = some (isSub a b) := by decide +kernel
theorem tyName_mem {d : D} {S : SH} {t : String} (h : tyName d S = some t) : t ∈ ["NoneType", "bool", "int", "str", "tuple", "list", "dict"] := by
  unfold tyName at h
  split at h <;> first | (cases h; decide) | (cases h; done) | skip
  split at h <;> first | (cases h; decide) | (cases h; done)
theorem tyName_ok {S : SH} {B : List Nat} {F : Hp} {φ : Nat → Addr} {H : Hp} {d : D} {x : V} {t : String} (s : Sim K cl S B F φ H) (h : tyName d S = some t) (r : DR K cl F φ d x) : TyX K H x (.type t) := by
  cases d with
  | p y =>
    have r : Rp K cl F y x := r
    cases r with
    | non => cases h; exact .base .non
    | bl b => cases h; exact .base (.bl b)
    | int i => cases h; exact .base (.int i)
    | str z => cases h; exact .base (.str z)
    | tup q t =>
      cases h
      rcases SqT.mono s.le q with (q | ⟨o, q⟩) | ⟨o, its, n, hk, hc, _⟩
      · exact .base (.tup q)
      · exact .fTuple q
      · exact .kTuple hk hc
    | lst q t =>
      cases h
      rcases SqL.mono s.le q with (q | ⟨o, q⟩) | ⟨o, its, n, hk, hc, _⟩
      · exact .base (.lst q)
      · exact .base (.frz q)
      · exact .kList hk hc
    | dK q t => cases h; exact .base (.dK (s.le _ _ q))
    | dT q t => cases h; exact .base (.dT (s.le _ _ q))
    | ins q t => cases h
  | ref n =>
    have r : x = .ref (φ n) := r
    subst r
    unfold tyName at h
    dsimp only at h
    cases q : S.os[n]? with
    | none => rw [q] at h; cases h
    | some o =>
      rw [q] at h
      have ob := (s.ob n _ q).2
      cases o with
      | lst ds => cases h; obtain ⟨vs, ev, _⟩ := ob; exact .base (.lst ev)
      | dK ds => cases h; obtain ⟨vs, ev, _⟩ := ob; exact .base (.dK ev)
      | dT ds => cases h; obtain ⟨vs, ev, _⟩ := ob; exact .base (.dT ev)
      | ins _ _ => cases h
def fIsi (bs : List String) (d : D) (S : SH) : Option (D × SH) := match tyName d S with
  | some t => if bs.all tyOk = true then some (.p (.bl (bs.any (isSub t))), S) else none
  | none => none
theorem k_isi {e : Expr} {me : ME} {T : Str} {Tn : String} {p p2 pos : Pos} (he : PE X e (LE X.K cl me)) (hg : Gl X "isinstance") (hm : X.mg "isinstance" = none) (hT : Gl X T) (hmT : X.mg T = none) (hvT : bootBuiltins T = some (.type Tn)) (hn : T ≠ "__name__" := by decide) (hd : (T == ("__debug__" : Str)) = false := by decide)
    (h1 : starEach [e, .Name T p2] X.env = (false, eval e X.env) :: starEach [.Name T p2] X.env := by rfl) (h2 : starEach [Expr.Name T p2] X.env = (false, eval (.Name T p2) X.env) :: starEach [] X.env := by rfl) (hpl : (backTo pos (starEach [Expr.Name T p2] X.env)).any (·.1) = false := by rfl) :
    PE X (.Call (.Name "isinstance" p) [e, .Name T p2] [] pos) (LE X.K cl (dUn (fIsi [Tn]) me)) := by
  refine (pe_callB call_isi hg hm (by decide +kernel : bootBuiltins "isinstance" = some (.builtin "isinstance")) (pa_cons he (pa_cons (pe_bltn hT hmT hvT (show RelV (.ty Tn) _ from rfl) hn hd) pa_nil h2) h1) (by decide) (by decide) h1 hpl).imp fun σ H Q q => ?_
  obtain ⟨σd, S, B, F, φ, s, rs, o⟩ := q
  obtain ⟨d, S1, e1, o1⟩ := okE_bnd o
  refine LE.then_ s rs e1 fun F1 φ1 H1 x s1 x1 rs1 dr1 l1 => ?_
  have o1 := o1.ext x1
  unfold fIsi at o1
  split at o1
  · rename_i t ht
    split at o1
    · rename_i hb
      have hb1 : tyOk Tn = true := by simpa using hb
      refine ⟨x, .ty Tn, _, _, isSub t Tn, rfl, .ty Tn, tyName_ok s1 ht dr1, kit_ty (kit_tab t (tyName_mem ht) Tn (by simpa [tyOk] using hb1)), ?_⟩
      have := o1.fin0 rfl s1 (Rp.bl _) trivial
      simpa using this
    · exact o1.no
  · exact o1.no
theorem k_isi2 {e : Expr} {me : ME} {T U : Str} {Tn Un : String} {p p2 p3 p4 pos : Pos} {kk : Nat} (he : PE X e (LE X.K cl me)) (hg : Gl X "isinstance") (hm : X.mg "isinstance" = none) (hT : Gl X T) (hmT : X.mg T = none) (hvT : bootBuiltins T = some (.type Tn)) (hU : Gl X U) (hmU : X.mg U = none) (hvU : bootBuiltins U = some (.type Un))
    (hn : T ≠ "__name__" := by decide) (hd : (T == ("__debug__" : Str)) = false := by decide) (hnU : U ≠ "__name__" := by decide) (hdU : (U == ("__debug__" : Str)) = false := by decide)
    (h1 : starEach [e, .Tuple [.Name T p2, .Name U p3] kk p4] X.env = (false, eval e X.env) :: starEach [.Tuple [.Name T p2, .Name U p3] kk p4] X.env := by rfl) (h2 : starEach [Expr.Tuple [.Name T p2, .Name U p3] kk p4] X.env = (false, eval (.Tuple [.Name T p2, .Name U p3] kk p4) X.env) :: starEach [] X.env := by rfl)
    (h3 : starEach [Expr.Name T p2, .Name U p3] X.env = (false, eval (.Name T p2) X.env) :: starEach [.Name U p3] X.env := by rfl) (h4 : starEach [Expr.Name U p3] X.env = (false, eval (.Name U p3) X.env) :: starEach [] X.env := by rfl) (hpl : (backTo pos (starEach [Expr.Tuple [.Name T p2, .Name U p3] kk p4] X.env)).any (·.1) = false := by rfl) :
    PE X (.Call (.Name "isinstance" p) [e, .Tuple [.Name T p2, .Name U p3] kk p4] [] pos) (LE X.K cl (dUn (fIsi [Tn, Un]) me)) := by
  refine (pe_callB call_isiT hg hm (by decide +kernel : bootBuiltins "isinstance" = some (.builtin "isinstance")) (pa_cons he (pa_cons (pe_tup (pa_cons (pe_bltn hT hmT hvT (show RelV (.ty Tn) _ from rfl) hn hd) (pa_cons (pe_bltn hU hmU hvU (show RelV (.ty Un) _ from rfl) hnU hdU) pa_nil h4) h3)) pa_nil h2) h1) (by decide) (by decide) h1 hpl).imp fun σ H Q q => ?_
  obtain ⟨σd, S, B, F, φ, s, rs, o⟩ := q
  obtain ⟨d, S1, e1, o1⟩ := okE_bnd o
  refine LE.then_ s rs e1 fun F1 φ1 H1 x s1 x1 rs1 dr1 l1 => ?_
  refine ⟨by show 2 ≤ sizeLine; decide, fun tp htp => ?_⟩
  have o1 := o1.ext x1
  unfold fIsi at o1
  split at o1
  · rename_i t ht
    split at o1
    · rename_i hb
      obtain ⟨hb1, hb2⟩ : tyOk Tn = true ∧ tyOk Un = true := by simpa using hb
      have sm : Same H1 (upd H1 tp (.tup [.ty Tn, .ty Un])) := Same.new (Same.refl _) htp
      have s2 := s1.keep sm
      have fin := o1.fin rfl s2 (Ext.ofSame s1 sm) (Rp.bl _) trivial
      have k1 := kit_tab t (tyName_mem ht) Tn (by simpa [tyOk] using hb1)
      have k2 := kit_tab t (tyName_mem ht) Un (by simpa [tyOk] using hb2)
      refine ⟨x, tp, [.ty Tn, .ty Un], _, [.type Tn, .type Un], isSub t Tn || isSub t Un, rfl, upd_same, .cons (.ty Tn) (.cons (.ty Un) .nil), tyName_ok s2 ht dr1, ?_, by simpa using fin⟩
      refine kitAny_cons (kit_ty k1) (fun h => ?_) (fun h => by rw [h, Bool.true_or])
      rw [h, Bool.false_or]
      exact kitAny_cons (kit_ty k2) (fun h => by rw [h]; exact kitAny_nil) (fun h => h)
    · exact o1.no
  · exact o1.no
/-! ### a module's constant -/
theorem k_glob {x : Str} {v : V} {u : Value} {q : P} {pos : Pos} (hg : Gl X x) (hm : X.mg x = some u) (r : RelV v u) (hq : ∀ F, Rp X.K cl F q v) (hd : (x == ("__debug__" : Str)) = false := by decide) : PE X (.Name x pos) (LE X.K cl (dC q)) :=
  (pe_glob hg hm r hd).imp fun _ _ _ h => e_c h hq
/-! ### truth -/
def truD (d : D) (S : SH) : Option (Bool × SH) := match d with
  | .p .non => some (false, S)
  | .p (.bl b) => some (b, S)
  | .p (.int i) => some (i != 0, S)
  | .p (.str z) => if z.length ≤ sizeLine then some ((z.length : Int) != 0, S) else none
  | d => match asQ d S with | some xs => some (!xs.isEmpty, S) | none => none
def dTru (a : ME) : MT := fun σ S => bnd (a σ S) truD
theorem truD_ok {S S1 : SH} {B : List Nat} {F : Hp} {φ : Nat → Addr} {H : Hp} {d : D} {x : V} {b : Bool} (s : Sim K cl S B F φ H) (e : truD d S = some (b, S1)) (r : DR K cl F φ d x) (l : d.lt S.len) : S1 = S ∧ TruV K x H b := by
  unfold truD at e
  split at e
  · cases e; exact ⟨rfl, by rw [drN r]; rfl⟩
  · cases e; exact ⟨rfl, by rw [drB r]; rfl⟩
  · cases e; exact ⟨rfl, by rw [drI r]; rfl⟩
  · split at e
    · rename_i z hz
      cases e
      exact ⟨rfl, by rw [drS r]; exact ⟨hz, rfl⟩⟩
    · cases e
  · split at e
    · rename_i xs h
      cases e
      obtain ⟨a, vs, rfl, q, t, m⟩ := asQ_ok s h r l
      refine ⟨rfl, ?_⟩
      have he : xs.isEmpty = vs.isEmpty := by cases t <;> rfl
      rcases q with q | q
      · exact .inl ⟨vs, q, by rw [he]⟩
      · exact .inr (.inl ⟨vs, q, by rw [he]⟩)
    · cases e
theorem t_tru {a : Expr} {ma : ME} (ha : PE X a (LE X.K cl ma)) (he : ∀ whole, isTrue a X.env whole = (do let v ← whole; standAt a.pos; holding [v] (truthy v)) := by intro _; rfl) : PT X a (LT X.K cl (dTru ma)) := by
  refine (pt_truth ha he).imp fun σ H Q q => ?_
  obtain ⟨σd, S, B, F, φ, s, rs, o⟩ := q
  obtain ⟨d, S1, e1, b, S2, e2, k⟩ := okT_bnd o
  refine LE.then_ s rs e1 fun F1 φ1 H1 x s1 x1 rs1 dr1 l1 => ?_
  obtain ⟨rfl, h⟩ := truD_ok s1 e2 dr1 l1
  exact ⟨b, h, k F1 φ1 H1 s1 x1⟩
/-- x or y, x and y by truth -/
def dOrT (a b : ME) : ME := fun σ S => bnd (a σ S) fun d S1 => bnd (truD d S1) fun t S2 => if t = true then some (d, S2) else b σ S2
def dAndT (a b : ME) : ME := fun σ S => bnd (a σ S) fun d S1 => bnd (truD d S1) fun t S2 => if t = true then b σ S2 else some (d, S2)
theorem k_orT {a b : Expr} {rest : List Expr} {ma mb : ME} {pos : Pos} (ha : PE X a (LE X.K cl ma)) (hb : PE X (.BoolOp .Or (b :: rest) pos) (LE X.K cl mb)) : PE X (.BoolOp .Or (a :: b :: rest) pos) (LE X.K cl (dOrT ma mb)) := by
  refine (pe_orT ha hb).imp fun σ H Q q => ?_
  obtain ⟨σd, S, B, F, φ, s, rs, o⟩ := q
  obtain ⟨d, S1, e1, o1⟩ := okE_bnd o
  obtain ⟨t, S2, e2, o2⟩ := okE_bnd o1
  refine LE.then_ s rs e1 fun F1 φ1 H1 x s1 x1 rs1 dr1 l1 => ?_
  obtain ⟨rfl, h⟩ := truD_ok s1 e2 dr1 l1
  refine ⟨t, h, ?_⟩
  split
  · rename_i ht; rw [if_pos ht] at o2; exact o2.fin rfl s1 x1 dr1 l1
  · rename_i ht; rw [if_neg ht] at o2; exact ⟨σd, S2, B, F1, φ1, s1, rs1, o2.ext x1⟩
theorem k_andT {a b : Expr} {rest : List Expr} {ma mb : ME} {pos : Pos} (ha : PE X a (LE X.K cl ma)) (hb : PE X (.BoolOp .And (b :: rest) pos) (LE X.K cl mb)) : PE X (.BoolOp .And (a :: b :: rest) pos) (LE X.K cl (dAndT ma mb)) := by
  refine (pe_andT ha hb).imp fun σ H Q q => ?_
  obtain ⟨σd, S, B, F, φ, s, rs, o⟩ := q
  obtain ⟨d, S1, e1, o1⟩ := okE_bnd o
  obtain ⟨t, S2, e2, o2⟩ := okE_bnd o1
  refine LE.then_ s rs e1 fun F1 φ1 H1 x s1 x1 rs1 dr1 l1 => ?_
  obtain ⟨rfl, h⟩ := truD_ok s1 e2 dr1 l1
  refine ⟨t, h, ?_⟩
  split
  · rename_i ht; rw [if_pos ht] at o2; exact ⟨σd, S2, B, F1, φ1, s1, rs1, o2.ext x1⟩
  · rename_i ht; rw [if_neg ht] at o2; exact o2.fin rfl s1 x1 dr1 l1
/-! ### chains of comparisons -/
def dChain (f g : D → D → SH → Option (D × SH)) (a b c : ME) : ME := fun σ S => bnd (a σ S) fun x S1 => bnd (b σ S1) fun y S2 => bnd (f x y S2) fun z S3 => bnd (toB z S3) fun t S4 => if t = true then bnd (c σ S4) fun w S5 => g y w S5 else some (.p (.bl false), S4)
theorem e_chain {f g : D → D → SH → Option (D × SH)} {r r' : R2} {ma mb mc : ME} {σ : L2.St} {H : Hp} {Q : VK} (h1 : OpD K cl f r) (h2 : OpD K cl g r') (q : LE K cl (dChain f g ma mb mc) σ H Q) :
    tChain r r' (LE K cl ma) (LE K cl mb) (LE K cl mc) σ H Q := by
  obtain ⟨σd, S, B, F, φ, s, rs, o⟩ := q
  obtain ⟨d1, S1, e1, o1⟩ := okE_bnd o
  obtain ⟨d2, S2, e2, o2⟩ := okE_bnd o1
  obtain ⟨d3, S3, e3, o3⟩ := okE_bnd o2
  obtain ⟨t, S4, e4, o4⟩ := okE_bnd o3
  obtain ⟨ed, es⟩ := toB_of e4
  subst ed es
  refine LE.then_ s rs e1 fun F1 φ1 H1 x s1 x1 rs1 dr1 l1 => LE.then_ s1 rs1 e2 fun F2 φ2 H2 y s2 x2 rs2 dr2 l2 => ?_
  refine h1 S2 B F2 φ2 H2 d1 d2 x y _ s2 (x2.dr l1 dr1) dr2 (x2.lt l1) l2 ⟨_, _, e3, fun F3 φ3 H3 z s3 x3 dr3 l3 => ⟨t, drB dr3, ?_⟩⟩
  have x123 := (x1.trans x2).trans x3
  split
  · rename_i ht; rw [if_pos ht] at o4
    obtain ⟨d5, S5, e5, o5⟩ := okE_bnd (o4.ext x123)
    refine LE.then_ s3 (x3.rs rs2) e5 fun F5 φ5 H5 w s5 x5 rs5 dr5 l5 => ?_
    have x35 := x3.trans x5
    exact h2 S5 B F5 φ5 H5 d2 d5 y w Q s5 (x35.dr l2 dr2) dr5 (x35.lt l2) l5 (o5.ext x5)
  · rename_i ht; rw [if_neg ht] at o4
    exact o4.fin rfl s3 x123 (Rp.bl _) trivial
theorem k_chain {op op' : CmpOp} {r r' : R2} {f g : D → D → SH → Option (D × SH)} {a b c : Expr} {ma mb mc : ME} {pos : Pos} (h1 : OpD X.K cl f r) (h2 : OpD X.K cl g r') (ho : OpR X (compareOp op) r) (ho' : OpR X (compareOp op') r') (ha : PE X a (LE X.K cl ma)) (hb : PE X b (LE X.K cl mb)) (hc : PE X c (LE X.K cl mc))
    (hm : lastMarks [op, op'] [b, c] = false := by with_unfolding_all rfl) : PE X (.Compare a [op, op'] [b, c] pos) (LE X.K cl (dChain f g ma mb mc)) :=
  (pe_chain ho ho' ha hb hc hm).imp fun _ _ _ q => e_chain h1 h2 q
theorem t_chain {op op' : CmpOp} {r r' : R2} {f g : D → D → SH → Option (D × SH)} {a b c : Expr} {ma mb mc : ME} {pos : Pos} (h1 : OpD X.K cl f r) (h2 : OpD X.K cl g r') (ho : OpR X (compareOp op) r) (ho' : OpR X (compareOp op') r') (ha : PE X a (LE X.K cl ma)) (hb : PE X b (LE X.K cl mb)) (hc : PE X c (LE X.K cl mc))
    (hm : lastMarks [op, op'] [b, c] = false := by with_unfolding_all rfl) : PT X (.Compare a [op, op'] [b, c] pos) (LT X.K cl (dTest (dChain f g ma mb mc))) :=
  (pt_chain ho ho' ha hb hc hm).imp fun _ _ _ q => e_chain h1 h2 (e_test q)
/-! ### name op= e, o[i] op= e -/
def dAug (i : Nat) (f : D → D → SH → Option (D × SH)) (e : ME) : MS := fun σ S => match σ[i]? with
  | some (some d) => bnd (e σ S) fun y S1 => bnd (f d y S1) fun z S2 => some (.nx (σ.set i (some z)), S2)
  | _ => none
theorem PIp.of {op : Operator} {r : R2} (h : OpR X (inplaceOp op) r) : PIp X op r := fun pins s σ H x y v u Q I rx ry q => h pins s σ H x y v u Q I rx ry q
theorem s_aug {i : Nat} {x : Str} {e : Expr} {me : ME} {op : Operator} {f : D → D → SH → Option (D × SH)} {r : R2} {pos pos' : Pos} (hd : OpD X.K cl f r) (ho : OpR X (inplaceOp op) r) (hN : X.N.Nodup) (hi : X.N[i]? = some x) (hx : Loc X.env.scope x) (he : PE X e (LE X.K cl me)) (hf : X.fn x = true ∨ X.env.scope.names.lookup x = some .local := by first | exact .inl rfl | exact .inr rfl | assumption) :
    PS X (.AugAssign (.Name x pos') op e pos) (LS X.K cl (dAug i f me)) := by
  refine (ps_aug hN hi hx he (PIp.of ho) hf).imp fun Z σ H q => ?_
  obtain ⟨σd, S, B, F, φ, s, rs, o⟩ := q
  unfold dAug at o
  split at o
  · rename_i d hd'
    obtain ⟨y, S1, e1, o1⟩ := okS_bnd o
    obtain ⟨z, S2, e2, o2⟩ := okS_bnd o1
    obtain ⟨_, _, ez, k⟩ := o2
    cases ez
    obtain ⟨l, v, hv, dr⟩ := rs.2 i d hd'
    refine ⟨v, hv, LE.then_ s rs e1 fun F1 φ1 H1 u s1 x1 rs1 dr1 l1 => ?_⟩
    exact hd S1 B F1 φ1 H1 d y v u _ s1 (x1.dr l dr) dr1 (x1.lt l) l1 ⟨z, S2, e2, fun F2 φ2 H2 w s2 x2 dr2 l2 => k F2 φ2 H2 _ s2 (x1.trans x2) ((x2.rs rs1).set i dr2 l2)⟩
  · obtain ⟨_, _, z, _⟩ := o; cases z
theorem i_add {live : Bool} : True := trivial
def ixL (o i : D) (S : SH) : Option D := match o, i with
  | .ref n, .p (.int k) => (match S.os[n]? with | some (.lst ds) => atI ds k | _ => none)
  | _, _ => none
theorem ixL_ok {S : SH} {B : List Nat} {F : Hp} {φ : Nat → Addr} {H : Hp} {o i d : D} {x y : V} (s : Sim K cl S B F φ H) (e : ixL o i S = some d) (r1 : DR K cl F φ o x) (r2 : DR K cl F φ i y) : ∃ a vs k v, x = .ref a ∧ y = .int k ∧ SqL K H a vs ∧ atI vs k = some v ∧ DR K cl F φ d v ∧ d.lt S.len := by
  unfold ixL at e
  split at e
  · rename_i n k
    split at e
    · rename_i ds q
      obtain ⟨vs, ev, rv⟩ := (s.ob n _ q).2
      obtain ⟨v, hv, rv', hm⟩ := atI_dra rv e
      exact ⟨φ n, vs, k, v, r1, drI r2, .inl (.inl ev), hv, rv', s.wf n _ q d hm⟩
    · cases e
  · cases e
def dAugS (o i e : ME) (f : D → D → SH → Option (D × SH)) : MS := fun σ S => bnd (o σ S) fun x S1 => bnd (i σ S1) fun y S2 => match ixL x y S2 with
  | some old => bnd (e σ S2) fun v S4 => bnd (f old v S4) fun z S5 => match setIx x y z S5 with | some S6 => some (.nx σ, S6) | none => none
  | none => none
theorem get_seqL : PGet X (rIxL X.K) := by
  intro pins s σ H x y v u Q I rx ry h
  obtain ⟨p, xs, i, z, rfl, rfl, hq, he, q⟩ := h
  cases rx
  obtain ⟨t, rfl⟩ := ry
  obtain ⟨its, r, pl, hz⟩ := I.list hq
  obtain ⟨j, h1, h2, h3, h4, h5⟩ := atI_get he
  obtain ⟨w, ew, rw'⟩ := r.get h2
  have hl := r.length
  have hn := line63
  have fin : EP X pins σ Q w s := ⟨z, H, I, rw', q⟩
  by_cases h0 : 0 ≤ i
  · have hj : i.toNat = j := by
      rw [seqIndex_of h0 h5] at h1
      exact Option.some.inj h1
    exact getItem_listL pl.isList h0 (by omega) (by rw [hj]; exact ew) fin
  · have hj : (i + (its.toArray.size : Int)).toNat = j := by
      rw [seqIndex_neg (by omega) h4] at h1
      rw [List.size_toArray, ← hl]
      exact Option.some.inj h1
    exact wpAny_getItem_list_neg pl.isList (by omega) (by rw [List.size_toArray] <;> omega) (by omega) (by rw [hj]; simpa using ew) fin
theorem s_augS {o i e : Expr} {mo mi me : ME} {op : Operator} {f : D → D → SH → Option (D × SH)} {r : R2} {pos tpos : Pos} (hd : OpD X.K cl f r) (hop : OpR X (inplaceOp op) r) (ho : PE X o (LE X.K cl mo)) (hi : PE X i (LE X.K cl mi)) (he : PE X e (LE X.K cl me))
    (ha : ∀ ov iv new, augStore i ov iv new = (do holding [new, ov, iv] (setItem ov iv new); release [new, ov, iv] []; pure .next) := by intros; rfl) : PS X (.AugAssign (.Subscript o i tpos) op e pos) (LS X.K cl (dAugS mo mi me f)) := by
  refine (ps_augS ho hi get_seqL he (PIp.of hop) set_list ha).imp fun Z σ H q => ?_
  obtain ⟨σd, S, B, F, φ, s, rs, o0⟩ := q
  obtain ⟨x, S1, e1, o1⟩ := okS_bnd o0
  obtain ⟨y, S2, e2, o2⟩ := okS_bnd o1
  split at o2
  · rename_i old e3
    obtain ⟨v, S4, e4, o4⟩ := okS_bnd o2
    obtain ⟨z, S5, e5, o5⟩ := okS_bnd o4
    refine LE.then_ s rs e1 fun F1 φ1 H1 u s1 x1 rs1 dr1 l1 => LE.then_ s1 rs1 e2 fun F2 φ2 H2 w s2 x2 rs2 dr2 l2 => ?_
    cases e6 : setIx x y z S5 with
    | none => rw [e6] at o5; obtain ⟨_, _, z, _⟩ := o5; cases z
    | some S6 =>
      rw [e6] at o5
      obtain ⟨_, _, ez, k⟩ := o5
      cases ez
      obtain ⟨a, vs, i0, v0, eu, ew, q, hv0, rv0, l0⟩ := ixL_ok s2 e3 (x2.dr l1 dr1) dr2
      refine ⟨a, vs, i0, v0, eu, ew, q, hv0, ?_⟩
      refine LE.then_ s2 rs2 e4 fun F4 φ4 H4 y' s4 x4 rs4 dr4 l4 => ?_
      refine hd S4 B F4 φ4 H4 old v v0 y' _ s4 (x4.dr l0 rv0) dr4 (x4.lt l0) l4 ⟨z, S5, e5, fun F5 φ5 H5 z' s5 x5 dr5 l5 => ?_⟩
      have x45 := x4.trans x5
      obtain ⟨p, xs, k0, j, h1, h2, h3, h4, s6, x6⟩ := setIx_ok e6 s5 ((x2.trans x45).dr l1 dr1) (x45.dr l2 dr2) dr5 l5
      exact ⟨p, xs, k0, j, h1, h2, h3, h4, k _ _ _ σ s6 (((x1.trans x2).trans x45).trans x6) ((x5.trans x6).rs rs4)⟩
  · obtain ⟨_, _, z, _⟩ := o2; cases z
/-! ### the in-place operators -/
theorem iop_mulG : OpR X (inplaceOp .Mult) (rI (fun i j => CMul i j ∨ CMulW i j) fun i j => .int (i * j)) := opI fun i j _ _ _ _ _ hc q => imul_int q (hc.elim (fun h => h.ok) fun h => h.ok)
theorem iop_fdivW : OpR X (inplaceOp .FloorDiv) (rI CDivW fun i j => .int (i / j)) := opI fun i j _ _ _ _ _ hc q => by
  have h1 : (0 : Int) < j := hc.1
  exact ifloordiv_int (by omega) (by rw [Int.fdiv_eq_ediv_of_nonneg i (by omega)]; exact q) (.inl (PyProof.noPylong_of_log2 hc.2))
/-- int += int, text += text (a list's += changes the list: not here) -/
def fAug (d e : D) (S : SH) : Option (D × SH) := match d, e with
  | .p (.int i), .p (.int j) => some (.p (.int (i + j)), S)
  | .p (.str a), .p (.str b) => if a.length + b.length ≤ sizeLine then some (.p (.str (a ++ b)), S) else none
  | _, _ => none
def rAugG : R2 := fun x y H Q => rI0 (fun i j => .int (i + j)) x y H Q ∨ (∃ i j, x = .str i ∧ y = .str j ∧ i.length + j.length ≤ sizeLine ∧ Q (.str (i ++ j)) H)
theorem io_add : OpR X (inplaceOp .Add) rAugG := iop_add.or iop_add_str
theorem d_aug : OpD K cl fAug rAugG := by
  intro S B F φ H d1 d2 x y Q s r1 r2 l1 l2 o
  unfold fAug at o
  split at o
  · exact .inl ⟨_, _, drI r1, drI r2, o.fin0 rfl s (Rp.int _) trivial⟩
  · split at o
    · rename_i h
      exact .inr ⟨_, _, drS r1, drS r2, h, o.fin0 rfl s (Rp.str _) trivial⟩
    · exact o.no
  · exact o.no
/-! ### signs -/
def fOrd : MF := fun ds S => match ds with
  | [.p (.str z)] => if z.length = 1 then some (.p (.int (z.cps.getD 0 0 : Nat)), S) else none
  | _ => none
def rOrdG : List V → Hp → VK → Prop := fun xs H Q => ∃ x, xs = [.str x] ∧ x.length = 1 ∧ Q (.int (x.cps.getD 0 0 : Nat)) H
theorem c_ord : CallR X (.builtin "ord") rOrdG := call_ord
theorem d_ord : CallD K cl fOrd rOrdG := by
  intro S B F φ H ds xs Q s r l o
  unfold fOrd at o
  split at o
  · split at o
    · rename_i z h
      obtain ⟨x, rfl, rx⟩ := dra1 r
      exact ⟨z, by rw [drS rx], h, o.fin0 rfl s (Rp.int _) trivial⟩
    · exact o.no
  · exact o.no
def fChr : MF := fun ds S => match ds with
  | [.p (.int i)] => if 0 ≤ i ∧ i ≤ 1114111 then some (.p (.str ⟨#[i.toNat]⟩), S) else none
  | _ => none
def rChrG : List V → Hp → VK → Prop := fun xs H Q => ∃ i, xs = [.int i] ∧ 0 ≤ i ∧ i ≤ 1114111 ∧ Q (.str ⟨#[i.toNat]⟩) H
theorem c_chr : CallR X (.builtin "chr") rChrG := call_chr
theorem d_chr : CallD K cl fChr rChrG := by
  intro S B F φ H ds xs Q s r l o
  unfold fChr at o
  split at o
  · split at o
    · rename_i i h
      obtain ⟨x, rfl, rx⟩ := dra1 r
      exact ⟨i, by rw [drI rx], h.1, h.2, o.fin0 rfl s (Rp.str _) trivial⟩
    · exact o.no
  · exact o.no
/-- one sign in a text -/
def fInS (neg : Bool) (d e : D) (S : SH) : Option (D × SH) := match d, e with
  | .p (.str y), .p (.str z) => if y.cps.size = 1 then some (.p (.bl (if neg = true then !decide (y.cps.getD 0 0 ∈ z.cps.toList) else decide (y.cps.getD 0 0 ∈ z.cps.toList))), S) else none
  | _, _ => none
def rInSG (neg : Bool) : R2 := fun x y H Q => ∃ (c : Nat) (z : Str), x = .str ⟨#[c]⟩ ∧ y = .str z ∧ Q (.bl (if neg = true then !decide (c ∈ z.cps.toList) else decide (c ∈ z.cps.toList))) H
theorem o_inS : OpR X (compareOp .In) (rInSG false) := by
  intro pins s σ H x y v u Q I rx ry h
  obtain ⟨c, z, h1, h2, q⟩ := h
  exact op_in_sign pins s σ H x y v u Q I rx ry ⟨c, z, h1, h2, by simpa using q⟩
theorem o_notinS : OpR X (compareOp .NotIn) (rInSG true) := by
  intro pins s σ H x y v u Q I rx ry h
  obtain ⟨c, z, h1, h2, q⟩ := h
  exact op_notIn_sign pins s σ H x y v u Q I rx ry ⟨c, z, h1, h2, by simpa using q⟩
theorem d_inS {neg : Bool} : OpD K cl (fInS neg) (rInSG neg) := by
  intro S B F φ H d1 d2 x y Q s r1 r2 l1 l2 o
  unfold fInS at o
  split at o
  · rename_i w z
    split at o
    · rename_i hs
      refine ⟨w.cps.getD 0 0, z, ?_, drS r2, o.fin0 rfl s (Rp.bl _) trivial⟩
      rw [drS r1]
      obtain ⟨cs⟩ := w
      have hs : cs.size = 1 := hs
      congr 2
      apply Array.ext
      · simpa using hs
      · intro i h1 h2
        have : i = 0 := by simp at h2; omega
        subst this
        simp [Array.getD, hs]
    · exact o.no
  · exact o.no
/-- sep.join(texts) -/
def strsOf : List D → Option (List Str)
  | [] => some []
  | .p (.str i) :: r => (strsOf r).map (i :: ·)
  | _ => none
@[simp] theorem strsOf_map (ns : List Str) : strsOf (ns.map fun n => D.p (.str n)) = some ns := by
  induction ns with
  | nil => rfl
  | cons x r ih => simp [strsOf, ih]
theorem strsOf_of : ∀ {ds : List D} {ns : List Str} {F : Hp} {φ : Nat → Addr} {vs : List V}, strsOf ds = some ns → DRA K cl F φ ds vs → vs = ns.map V.str
  | [], ns, F, φ, vs, h, r => by cases h; cases r; rfl
  | .p (.str i) :: r, ns, F, φ, vs, h, q => by
    unfold strsOf at h
    cases e : strsOf r with
    | none => rw [e] at h; cases h
    | some ms =>
      rw [e] at h; cases h
      cases q with
      | cons a b => rw [List.map_cons, ← strsOf_of e b, drS a]
  | .ref n :: r, _, _, _, _, h, _ => by cases h
  | .p .non :: r, _, _, _, _, h, _ => by cases h
  | .p (.bl _) :: r, _, _, _, _, h, _ => by cases h
  | .p (.int _) :: r, _, _, _, _, h, _ => by cases h
  | .p (.tup _) :: r, _, _, _, _, h, _ => by cases h
  | .p (.lst _) :: r, _, _, _, _, h, _ => by cases h
  | .p (.dK _) :: r, _, _, _, _, h, _ => by cases h
  | .p (.dT _) :: r, _, _, _, _, h, _ => by cases h
  | .p (.ins _ _) :: r, _, _, _, _, h, _ => by cases h
def fJoin (d e : D) (S : SH) : Option (D × SH) := match d with
  | .p (.str a) => (match asQ e S with
    | some xs => (match strsOf xs with
      | some ys => if (ys.map (·.length)).sum + ys.length * a.length ≤ 16777216 then some (.p (.str (Txt.join a ys)), S) else none
      | none => none)
    | none => none)
  | _ => none
theorem k_join {o e : Expr} {mo me : ME} {apos pos : Pos} (ho : PE X o (LE X.K cl mo)) (he : PE X e (LE X.K cl me)) (hs : starEach [e] X.env = [(false, eval e X.env)] := by rfl) (hbase : attributeBase o "join" X.env (eval o X.env) = eval o X.env := by rfl) (hline : (apos.endLine == pos.line) = true := by rfl) :
    PE X (.Call (.Attribute o "join" apos) [e] [] pos) (LE X.K cl (dOp fJoin mo me)) := by
  refine (pe_join ho he hs hbase hline).imp fun σ H Q q => ?_
  obtain ⟨σd, S, B, F, φ, s, rs, o⟩ := q
  obtain ⟨d, S1, e1, o1⟩ := okE_bnd o
  obtain ⟨y, S2, e2, o2⟩ := okE_bnd o1
  refine LE.then_ s rs e1 fun F1 φ1 H1 x s1 x1 rs1 dr1 l1 => ?_
  unfold fJoin at o2
  split at o2
  · rename_i a
    refine ⟨⟨a, drS dr1⟩, LE.then_ s1 rs1 e2 fun F2 φ2 H2 v s2 x2 rs2 dr2 l2 => ?_⟩
    split at o2
    · rename_i xs ex
      split at o2
      · rename_i ys ey
        split at o2
        · rename_i hz
          obtain ⟨p, vs, rfl, q, t, m⟩ := asQ_ok s2 ex dr2 l2
          have := strsOf_of ey t
          subst this
          exact ⟨a, p, ys, drS dr1, rfl, q, hz, o2.fin rfl s2 (x1.trans x2) (Rp.str _) trivial⟩
        · exact o2.no
      · exact o2.no
    · exact o2.no
  · exact o2.no
end
end Pv
namespace Pv
open PySem PySem.Spec PyProof.Rows L2
theorem cs_nil {p : Nat → Prop} : ∀ c ∈ ([] : List Nat), p c := fun _ h => absurd h (by simp)
theorem cs_cons {p : Nat → Prop} {a : Nat} {l : List Nat} (h : p a) (t : ∀ c ∈ l, p c) : ∀ c ∈ a :: l, p c := fun c hc => by
  rcases List.mem_cons.mp hc with rfl | hc
  · exact h
  · exact t c hc
abbrev wFuel : Nat := 1000000
theorem u65 {k : Nat} {A : Around} (hr : Room k A) : A.units + 65 < cLine := by have := hr.un; omega
theorem fn_no {P : Program} {w : World} {K : PySem.W.Frag} {mg : Str → Option Value} {base : Heap} {k : Nat} {f : Addr} {fd : FuncData} {ps : List Str} {cl : Nat → Addr} : FnOk P w K mg base CX0 k f fd ps (spOf K cl fun _ _ => none) :=
  ⟨fun vs H Q E h => (by
    obtain ⟨_, _, _, _, _, _, _, _, _, _, z, _⟩ := h; cases z), fun A outer s H args us vs Q E _ _ _ _ h => (by
    obtain ⟨_, _, _, _, _, _, _, _, _, _, z, _⟩ := h; cases z)⟩
section
variable {X : Cx} {K : PySem.W.Frag} {cl : Nat → Addr}
/-- in: a sign in a text, or a datum in a list or tuple -/
def fInG (neg : Bool) (d e : D) (S : SH) : Option (D × SH) := match d, e with
  | .p (.str y), .p (.str z) => fInS neg (.p (.str y)) (.p (.str z)) S
  | d, e => fIn neg d e S
def rInG (K : PySem.W.Frag) (cl : Nat → Addr) (neg : Bool) : R2 := fun x y H Q => rInSG neg x y H Q ∨ rInP K cl neg x y H Q
theorem o_inG (hu : X.A.units + 65 < cLine) : OpR X (compareOp .In) (rInG X.K cl false) := o_inS.or (o_in hu)
theorem o_notinG (hu : X.A.units + 65 < cLine) : OpR X (compareOp .NotIn) (rInG X.K cl true) := o_notinS.or (o_notin hu)
theorem d_inG {neg : Bool} : OpD K cl (fInG neg) (rInG K cl neg) := by
  intro S B F φ H d1 d2 x y Q s r1 r2 l1 l2 o
  unfold fInG at o
  split at o
  · exact .inl (d_inS S B F φ H _ _ x y Q s r1 r2 l1 l2 o)
  · exact .inr (d_in S B F φ H _ _ x y Q s r1 r2 l1 l2 o)
theorem d_addI : OpD K cl (fII (fun _ _ => true) fun i j => .int (i + j)) rAdd := by
  intro S B F φ H d1 d2 x y Q s r1 r2 l1 l2 o
  obtain ⟨i, j, h1, h2, q⟩ := d_II0 (g' := fun i j => .int (i + j)) (fun _ _ _ => .int _) S B F φ H d1 d2 x y Q s r1 r2 l1 l2 o
  exact ⟨i, j, h1, h2, q⟩
theorem d_subI : OpD K cl fSub rSub := by
  intro S B F φ H d1 d2 x y Q s r1 r2 l1 l2 o
  obtain ⟨i, j, h1, h2, q⟩ := d_sub S B F φ H d1 d2 x y Q s r1 r2 l1 l2 o
  exact ⟨i, j, h1, h2, q⟩
end
/-! ### the end -/
def intsP (ns : List Int) : List P := ns.map P.int
theorem rpA_ints {K : PySem.W.Frag} {cl : Nat → Addr} {F : Hp} : ∀ ns : List Int, RpA K cl F (intsP ns) (ns.map V.int)
  | [] => .nil
  | n :: r => .cons (.int n) (rpA_ints r)
open Classical in
/-- the law's promise, from what its computation gives -/
theorem law_of {K : PySem.W.Frag} {cl : Nat → Addr} {m : MF} {a : Addr} {ns : List Int} {H : Hp} {Q : VK} {E : XK} (hs : SqL K H a (ns.map V.int)) (h : m [.p (.lst (intsP ns))] ⟨0, []⟩ = some (.p (.bl true), ⟨0, []⟩)) (q : ∀ H', Q (.bl true) H') : spOf K cl m [.ref a] H Q E := by
  refine ⟨[.p (.lst (intsP ns))], ⟨0, []⟩, [], H, fun _ => 0, ⟨Same.refl _, fun n o e => by simp at e, fun n m h => absurd h (Nat.not_lt_zero _), fun n o e => by simp at e, fun b hb => absurd hb (by simp), Nat.le_refl _⟩, .cons (Rp.lst hs (rpA_ints ns)) .nil, fun d hd => ?_, .p (.bl true), ⟨0, []⟩, h, fun F1 φ1 H1 u s x r l => ?_⟩
  · rw [List.mem_singleton.mp hd]; trivial
  · rw [drB r]; exact q H1
theorem rel_ref {a : Addr} : RelV (.ref a) (.ref a) := rfl
end Pv
/-! sorted(list, key=a def) -/
namespace Pv
open PySem PySem.Spec PyProof.Rows L2
def allSome {α : Type} : List (Option α) → Option (List α)
  | [] => some []
  | some a :: r => (allSome r).map (a :: ·)
  | none :: _ => none
/-- atoms and tuples of these, as the kit's data -/
def pyOf : Nat → P → Option PyData
  | _, .non => some .none
  | _, .bl b => some (.bool b)
  | _, .int i => some (.int i)
  | _, .str x => some (.str x)
  | k + 1, .tup ps => (allSome (ps.map (pyOf k))).map .tuple
  | _, _ => none
def isTup1 : PyData → Bool
  | .tuple (_ :: _) => true
  | _ => false
def noTup : PyData → Bool
  | .tuple _ => false
  | .none => false
  | _ => true
def okKeys (ks : List PyData) : Bool := ks.all (fun a => ks.all (PySem.W.alike a)) && (ks.all isTup1 || ks.all noTup) && ks.all fun a => decide (a.depth ≤ 60)
theorem okKeys_of {ks : List PyData} (h : okKeys ks = true) : PySem.W.AllAlike ks ∧ PySem.W.Sortable ks ∧ ∀ d ∈ ks, d.depth ≤ 60 := by
  unfold okKeys at h
  simp only [Bool.and_eq_true, Bool.or_eq_true, List.all_eq_true, decide_eq_true_eq] at h
  obtain ⟨⟨h1, h2⟩, h3⟩ := h
  refine ⟨h1, ?_, h3⟩
  rcases h2 with h2 | h2
  · refine .inl fun d hd => ?_
    have q := h2 d hd
    unfold isTup1 at q
    split at q
    · exact ⟨_, _, rfl⟩
    · cases q
  · refine .inr fun d hd => ?_
    have q := h2 d hd
    unfold noTup at q
    split at q
    · cases q
    · cases q
    · rename_i n1 n2
      exact ⟨n2, fun xs z => n1 xs z⟩
def keysL (m : MF) : List P → SH → Option (List (P × PyData) × SH)
  | [], S => some ([], S)
  | p :: r, S => bnd (m [.p p] S) fun k S1 => match k with
    | .p q => match pyOf 60 q with
      | some d => bnd (keysL m r S1) fun l S2 => some ((p, d) :: l, S2)
      | none => none
    | _ => none
def sortK (live : Bool) (m : MF) (d : D) (S : SH) : Option (D × SH) := match asL d S with
  | some ds => match toPs ds with
    | some ps => bnd (keysL m ps S) fun l S1 => if okKeys (l.map (·.2)) = true then newL live ((l.mergeSort (PySem.W.dataLe false (·.2))).map fun x => D.p x.1) S1 else none
    | none => none
  | none => none
def dSortK (live : Bool) (m : MF) (me : ME) : ME := fun σ S => bnd (me σ S) (sortK live m)
section
variable {X : Cx} {cl : Nat → Addr} {pins : List (Addr × Obj)} {σ : L2.St} {F H : Hp} {s : Shared}
theorem rdAll (I : L2.Inv X pins σ H s) (sf : Same F H) {k : Nat} (ih : ∀ (p : P) (d : PyData) (v : V) (u : Value), pyOf k p = some d → Rp X.K cl F p v → RelV v u → Reads s.heap u d []) :
    ∀ (ps : List P) (ds : List PyData) (vs : List V) (us : List Value), allSome (ps.map (pyOf k)) = some ds → RpA X.K cl F ps vs → Vals vs us → ReadsAll s.heap us ds [] := by
  intro ps
  induction ps with
  | nil =>
    intro ds vs us e r q
    cases r; cases q
    have e' : ([] : List PyData) = ds := Option.some.inj e
    subst e'
    exact .nil
  | cons p ps hi =>
    intro ds vs us e r q
    cases r with
    | cons r1 r2 =>
      cases q with
      | cons q1 q2 =>
        rw [List.map_cons] at e
        cases e1 : pyOf k p with
        | none => rw [e1] at e; cases e
        | some d =>
          rw [e1] at e
          cases e2 : allSome (ps.map (pyOf k)) with
          | none => rw [allSome, e2] at e; cases e
          | some ds' =>
            rw [allSome, e2] at e
            have e' : d :: ds' = ds := Option.some.inj e
            subst e'
            have q := ReadsAll.cons (ih _ _ _ _ e1 r1 q1) (hi _ _ _ e2 r2 q2)
            exact q
theorem rdR (I : L2.Inv X pins σ H s) (sf : Same F H) : ∀ (k : Nat) (p : P) (d : PyData) (v : V) (u : Value), pyOf k p = some d → Rp X.K cl F p v → RelV v u → Reads s.heap u d [] := by
  intro k
  induction k with
  | zero =>
    intro p d v u e r q
    cases r <;> first | (cases e; done) | skip
    · cases e; cases q; exact .none
    · cases e; cases q; exact .bool _
    · cases e; obtain ⟨t, rfl⟩ := q; exact .int _ t
    · cases e; obtain ⟨t, rfl⟩ := q; exact .str _ t
  | succ k ih =>
    intro p d v u e r q
    cases r <;> first | (cases e; done) | skip
    · cases e; cases q; exact .none
    · cases e; cases q; exact .bool _
    · cases e; obtain ⟨t, rfl⟩ := q; exact .int _ t
    · cases e; obtain ⟨t, rfl⟩ := q; exact .str _ t
    · rename_i a ps vs st ra
      cases q
      rw [pyOf] at e
      cases e1 : allSome (ps.map (pyOf k)) with
      | none => rw [e1] at e; cases e
      | some ds =>
        rw [e1] at e
        have e' : PyData.tuple ds = d := Option.some.inj e
        subst e'
        obtain ⟨its, rv, ⟨o, n, h1, h2, h3⟩, _⟩ := I.tuple (SqT.mono sf st)
        exact .tuple ‹_› ‹_› ‹_› (rdAll I sf ih ps ds vs its e1 ra rv)
theorem map_fst_of {α β : Type} {l : List (α × β)} : ∀ {ps : List α}, l.map (·.1) = ps → l.length = ps.length := fun h => by rw [← h, List.length_map]
theorem keysL_fst {m : MF} : ∀ {ps : List P} {S S1 : SH} {l : List (P × PyData)}, keysL m ps S = some (l, S1) → l.map (·.1) = ps
  | [], S, S1, l, h => by cases h; rfl
  | p :: r, S, S1, l, h => by
    unfold keysL at h
    obtain ⟨k, S2, e1, h⟩ := bnd_of h
    cases k with
    | ref n => cases h
    | p q =>
      dsimp only at h
      cases e2 : pyOf 60 q with
      | none => rw [e2] at h; cases h
      | some d =>
        rw [e2] at h
        obtain ⟨l', S3, e3, h⟩ := bnd_of h
        cases h
        rw [List.map_cons, keysL_fst e3]

theorem vals_at : ∀ {xs : List V} {us : List Value} {i : Nat} {u : Value}, Vals xs us → us[i]? = some u → ∃ x, xs[i]? = some x ∧ RelV x u
  | _, _, _, _, .nil, e => by simp at e
  | _, _, 0, _, .cons r _, e => by simp at e; subst e; exact ⟨_, rfl, r⟩
  | _, _, i + 1, u, .cons _ t, e => by
    obtain ⟨x, h1, h2⟩ := vals_at (i := i) (u := u) t (by simpa using e)
    exact ⟨x, by simpa using h1, h2⟩
theorem rpa_snoc {K : PySem.W.Frag} {p : P} {v : V} (r : Rp K cl F p v) : ∀ {ps : List P} {vs : List V}, RpA K cl F ps vs → RpA K cl F (ps ++ [p]) (vs ++ [v])
  | _, _, .nil => .cons r .nil
  | _, _, .cons a b => .cons a (rpa_snoc r b)
theorem upd_none {h : Heap} {a b : Addr} {o : Obj} (e : h.get? b = some o) (n : b ≠ a) {f : Obj → Obj} : (h.update a f).get? b = some o := (Heap.get?_update_ne _ _ _ _ n).trans e
/-- a heap without the object at a -/
def lessH (h : Heap) (a : Addr) : Heap := h.update a fun o => { o with data := .freed }
theorem lessH_at (h : Heap) (a : Addr) : (lessH h a).get? a = none := by
  unfold lessH Heap.get?
  rw [Heap.objs_update_self]
  cases h.objs[a]? <;> rfl
theorem rp_each {K : PySem.W.Frag} : ∀ {l : List (P × PyData)} {vs : List V} {us : List Value}, RpA K cl F (l.map (·.1)) vs → Vals vs us → PySem.W.EachIs (fun (u : Value) (x : P × PyData) => ∃ v, RelV v u ∧ Rp K cl F x.1 v) us l
  | [], _, _, r, q => by
    cases r; cases q; exact .nil
  | x :: l, _, _, r, q => by
    rw [List.map_cons] at r
    cases r with
    | cons r1 r2 =>
      cases q with
      | cons q1 q2 => exact .cons ⟨_, q1, r1⟩ (rp_each r2 q2)
theorem each_rp {K : PySem.W.Frag} : ∀ {l : List (P × PyData)} {us : List Value}, PySem.W.EachIs (fun (u : Value) (x : P × PyData) => ∃ v, RelV v u ∧ Rp K cl F x.1 v) us l → ∃ vs : List V, Vals vs us ∧ RpA K cl F (l.map (·.1)) vs
  | _, _, .nil => ⟨[], .nil, .nil⟩
  | _, _, .cons ⟨v, q1, r1⟩ e => by
    obtain ⟨vs, q2, r2⟩ := each_rp e
    exact ⟨v :: vs, .cons q1 q2, .cons r1 r2⟩
theorem key_each (I : L2.Inv X pins σ H s) (sf : Same F H) : ∀ {l : List (P × PyData)} {kps : List P} {kv : List V} {us : List Value}, kps.map (pyOf 60) = l.map (fun x => some x.2) → RpA X.K cl F kps kv → Vals kv us → PySem.W.EachIs (fun v d => ∃ as, Reads s.heap v d as) us (l.map (·.2))
  | [], [], _, _, _, r, q => by
    cases r; cases q; exact .nil
  | [], _ :: _, _, _, e, _, _ => by cases e
  | _ :: _, [], _, _, e, _, _ => by cases e
  | x :: l, p :: kps, _, _, e, r, q => by
    rw [List.map_cons, List.map_cons] at e
    injection e with e1 e2
    cases r with
    | cons r1 r2 =>
      cases q with
      | cons q1 q2 => exact .cons ⟨[], rdR I sf 60 _ _ _ _ e1 r1 q1⟩ (key_each I sf e2 r2 q2)
def rSortK (K : PySem.W.Frag) (cl : Nat → Addr) (live : Bool) (m : MF) (f : Addr) : List V → List V → Hp → VK → Prop := fun vs zs H Q => zs = [V.ref f] ∧ ∃ d v S B F φ, vs = [v] ∧ Sim K cl S B F φ H ∧ DR K cl F φ d v ∧ d.lt S.len ∧ OkE K cl S B F φ H (sortK live m d S) Q
theorem fpAt {H' : Hp} {b : Addr} (f : FpOk X pins H b) (n : H' b = none) : FpOk X pins H' b := ⟨n, f.2⟩
theorem pins2 {a b : Addr} {oa ob : Obj} (I : L2.Inv X pins σ H s) (fa : FpOk X pins H a) (fb : FpOk X pins H b) (ha : s.heap.get? a = some oa) (hb : s.heap.get? b = some ob) (ca : ∀ v, oa.data ≠ .cell v) (cb : ∀ v, ob.data ≠ .cell v) : L2.Inv X (pins ++ [(a, oa), (b, ob)]) σ H s := by
  refine I.pins_of fun p hp => ?_
  rcases List.mem_append.mp hp with hp | hp
  · exact I.pin p (List.mem_append_right _ hp)
  · rcases List.mem_cons.mp hp with rfl | hp
    · exact ⟨ha, fa.1, fa.2.1, fa.2.2.1, ca⟩
    · rw [List.mem_singleton.mp hp]
      exact ⟨hb, fb.1, fb.2.1, fb.2.2.1, cb⟩
theorem sortK_run {k : Nat} {f : Addr} {fd : FuncData} {ps0 : List Str} {m : MF} {live : Bool} (FN : FnOk X.prog X.w X.K X.mg X.base CX0 k f fd ps0 (spOf X.K cl m)) (hr : Room (k + 2) X.A) (hb : Binds X.K fd ps0 []) : CallRK X (.builtin "sorted") [Str.ofString "key"] (rSortK X.K cl live m f) := by
  intro pins s σ H vs zs us ws Q I rv rz h
  obtain ⟨rfl, d, v, S, B, F0, φ, rfl, sim, dr, l, o⟩ := h
  obtain rfl := Vals.ref1 rz
  unfold sortK at o
  cases e1 : asL d S with
  | none => rw [e1] at o; obtain ⟨_, _, z, _⟩ := o; cases z
  | some ds =>
  rw [e1] at o
  dsimp only at o
  cases e2 : toPs ds with
  | none => rw [e2] at o; obtain ⟨_, _, z, _⟩ := o; cases z
  | some ps =>
  rw [e2] at o
  dsimp only at o
  obtain ⟨la, xs, rfl, hs, ra, lx⟩ := asL_ok sim e1 dr l
  obtain rfl := toPs_of e2
  obtain ⟨l0, S1, ek, o⟩ := okE_bnd o
  by_cases hok : okKeys (l0.map (·.2)) = true
  case neg => rw [if_neg hok] at o; obtain ⟨_, _, z, _⟩ := o; cases z
  rw [if_pos hok] at o
  obtain ⟨hal, hsk, hdp⟩ := okKeys_of hok
  obtain ⟨its, rvi, hl, hz⟩ := I.list hs
  obtain rfl := Vals.ref1 rv
  have ra0 : RpA X.K cl F0 ps xs := ra.rpa
  have hil : its.length = xs.length := rvi.length.symm
  have hpl : ps.length = xs.length := ra0.len
  have hl0 : l0.map (·.1) = ps := keysL_fst ek
  have hll : l0.length = ps.length := map_fst_of hl0
  refine PySem.W.sorted_of_sort hl.isList (by omega) (ksk_s1 _ _) (fun _ => ksk_l1 _ _) fun E' => ?_
  show wpAny (model X.prog X.w) X.A.in1.in1 (ksk_tree (s.heap.objs.size + 1) (.ref f) false) _ E' _
  have n1 := PySem.W.copyHeap_at s.heap its
  generalize hG : PySem.W.copyHeap s.heap its = G at n1
  have kG : ∀ b u, s.heap.get? b = some u → G.get? b = some u := fun b u e => by rw [← hG]; exact PySem.W.copyHeap_old e
  have zG : s.heap.objs.size + 1 < G.objs.size := Heap.lt_size n1
  generalize hA : s.heap.objs.size + 1 = A1 at n1 zG
  have nA : ∀ b u, s.heap.get? b = some u → b ≠ A1 := fun b u e z => absurd (Heap.lt_size e) (by rw [z, ← hA]; exact Nat.not_lt.mpr (Nat.le_succ _))
  obtain ⟨e1', n2⟩ : ∃ q, (G.update A1 (Obj.mapSeq fun _ => (#[] : Array Value))).get? A1 = some (seqObj "list" #[] q) := ⟨_, get?_update_seq n1 fun _ => #[]⟩
  unfold ksk_tree
  refine wpAny_bind (listItems_at n1 rfl ?_)
  refine wpAny_bind (listUpdate_at n1 rfl ?_ (by rw [List.size_toArray]; omega) (Nat.zero_le _))
  refine wpAny_bind (seqEpoch_at n2 rfl ?_)
  refine wpAny_bind (wpAny_newTuple ?_ (by show its.length ≤ _; omega))
  refine wpAny_bind (wpAny_newList ?_ (Nat.zero_le _))
  refine wpAny_holding ?_
  have n3 := Heap.get?_push_size (((G.update A1 (Obj.mapSeq fun _ => (#[] : Array Value))).push (seqObj "tuple" its.toArray 0))) (o := seqObj "list" #[] 0) rfl
  have zU : (G.update A1 (Obj.mapSeq fun _ => (#[] : Array Value))).objs.size = G.objs.size := Heap.size_update _ _ _
  have zP : ((G.update A1 (Obj.mapSeq fun _ => (#[] : Array Value))).push (seqObj "tuple" its.toArray 0)).objs.size = G.objs.size + 1 := by rw [size_push', zU]
  have n4 : (((G.update A1 (Obj.mapSeq fun _ => (#[] : Array Value))).push (seqObj "tuple" its.toArray 0)).push (seqObj "list" #[] 0)).get? A1 = some (seqObj "list" #[] e1') := Heap.get?_push_of_some _ (Heap.get?_push_of_some _ n2)
  have kT : ∀ b u, s.heap.get? b = some u → (((G.update A1 (Obj.mapSeq fun _ => (#[] : Array Value))).push (seqObj "tuple" its.toArray 0)).push (seqObj "list" #[] 0)).get? b = some u := fun b u e =>
    Heap.get?_push_of_some _ (Heap.get?_push_of_some _ (upd_none (kG b u e) (nA b u e)))
  show wpAny _ _ (ksk_rest A1 (.ref f) false its.toArray e1' (.ref ((G.update A1 (Obj.mapSeq fun _ => (#[] : Array Value))).push (seqObj "tuple" its.toArray 0)).objs.size)) _ _ { s with heap := ((G.update A1 (Obj.mapSeq fun _ => (#[] : Array Value))).push (seqObj "tuple" its.toArray 0)).push (seqObj "list" #[] 0) }
  rw [zP] at n3 ⊢
  generalize (((G.update A1 (Obj.mapSeq fun _ => (#[] : Array Value))).push (seqObj "tuple" its.toArray 0)).push (seqObj "list" #[] 0)) = T at n3 n4 kT ⊢
  have hne : A1 ≠ G.objs.size + 1 := by omega
  generalize hK : G.objs.size + 1 = KS at n3 hne ⊢
  have fA : FpOk X pins H A1 := I.fpOk (by omega) (I.hok.fresh (by omega))
  have fK : FpOk X pins H KS := I.fpOk (by omega) (I.hok.fresh (by omega))
  have I0 := I.kept (t' := s.toks) kT
  have nc : ∀ (xs : Array Value) (n : Nat) (v : Option Value), (seqObj "list" xs n).data ≠ .cell v := fun xs n v z => by cases z
  unfold ksk_rest
  refine wpAny_bind (wpAny_rule ?_)
  first
    | rw [List.forIn_toArray]
    | (rw [← Array.forIn_toList]; simp only [List.toList_toArray])
  refine wpAny_bind (ksk_fold (fun i s' => ∃ S2 F2 φ2 H2 kA e l1 l2 kps kv, L2.Inv X (pins ++ [(A1, seqObj "list" #[] e1'), (KS, seqObj "list" kA e)]) σ H2 s' ∧ Sim X.K cl S2 B F2 φ2 H2 ∧ Ext S F0 φ H S2 F2 φ2 H2 ∧ keysL m (ps.drop i) S2 = some (l2, S1) ∧ l0 = l1 ++ l2 ∧ l1.length = i ∧ Vals kv kA.toList ∧ RpA X.K cl F2 kps kv ∧ kps.map (pyOf 60) = l1.map (fun x => some x.2)) its 0 _
    ⟨S, F0, φ, H, #[], 0, [], l0, [], [], pins2 I0 fA fK n4 n3 (nc _ _) (nc _ _), sim, .refl sim, ek, rfl, rfl, .nil, .nil, rfl⟩ ?step ?done)
  case step =>
    rintro j x s' hx ⟨S2, F2, φ2, H2, kA, e, l1, l2, kps, kv, I2, sm, ex, ek2, hla, hlb, rk, rpk, hkp⟩
    simp only [Nat.zero_add] at ek2 hlb ⊢
    have hj : j < its.length := (List.getElem?_eq_some_iff.mp hx).1
    obtain ⟨y, hy, ry⟩ := vals_at rvi hx
    obtain ⟨p, hp, rp⟩ := ra0.get hy
    have hd : ps.drop j = p :: ps.drop (j + 1) := by
      obtain ⟨hp1, hp2⟩ := List.getElem?_eq_some_iff.mp hp
      rw [List.drop_eq_getElem_cons hp1, hp2]
    rw [hd] at ek2
    unfold keysL at ek2
    obtain ⟨kd, S3, em, ek2⟩ := bnd_of ek2
    cases kd with
    | ref n => cases ek2
    | p q =>
    dsimp only at ek2
    cases e3 : pyOf 60 q with
    | none => rw [e3] at ek2; cases ek2
    | some dk =>
    rw [e3] at ek2
    obtain ⟨l3, S4, e4, ek2⟩ := bnd_of ek2
    cases ek2
    have hsp : spOf X.K cl m [y] H2 (fun w H3 => ∃ F3 φ3, Sim X.K cl S3 B F3 φ3 H3 ∧ Ext S2 F2 φ2 H2 S3 F3 φ3 H3 ∧ Rp X.K cl F3 q w) (fun _ _ _ => False) :=
      ⟨[.p p], S2, B, F2, φ2, sm, .cons (Rp.mono ex.fz rp) .nil, fun z hz => by rw [List.mem_singleton.mp hz]; trivial, .p q, S3, em, fun F3 φ3 H3 u s3 x3 r3 l3 => ⟨F3, φ3, s3, x3, r3⟩⟩
    have hlen : [x].length = ps0.length := FN.len _ _ _ _ hsp
    have pA := I2.pin (A1, seqObj "list" #[] e1') (by simp)
    refine wpAny_bind (wpAny_attempt (wpAny_mono (Q := EP X (pins ++ [(A1, seqObj "list" #[] e1'), (KS, seqObj "list" kA e)]) σ (fun w H3 => ∃ F3 φ3, Sim X.K cl S3 B F3 φ3 H3 ∧ Ext S2 F2 φ2 H2 S3 F3 φ3 H3 ∧ Rp X.K cl F3 q w)) (E := fun _ _ => False) (wpAny_call (codeAny_mono (FN.run X.A.in1.in1 X.stack s' H2 ⟨[x], []⟩ [x] [y] _ _ hr.in1.in1 I2.env0.in1.in1 (by
      have bb := hb s' [x] I2.kIn (by rw [List.append_nil]; exact hlen)
      rw [List.append_nil] at bb
      exact bb) (.cons ry .nil) hsp) fun r s'' hq => ?_)) (fun u s'' he => ?_) fun _ _ hF => hF.elim))
    · cases r with
      | error e => exact hq.elim
      | ok fl =>
        cases fl with
        | ret u => exact I2.after hq
        | next => exact False.elim hq
        | brk => exact False.elim hq
        | cont => exact False.elim hq
    · obtain ⟨w, H3, I3, rw', F3, φ3, sm3, ex3, rq⟩ := he
      dsimp only
      have qA := I3.pin (A1, seqObj "list" #[] e1') (by simp)
      have qK := I3.pin (KS, seqObj "list" kA e) (by simp)
      have nk2 : s''.heap.get? KS = some (seqObj "list" kA e) := qK.1
      have na2 : s''.heap.get? A1 = some (seqObj "list" #[] e1') := qA.1
      have hks : kA.size = j := by
        have t1 : kv.length = kA.size := rk.length
        have t2 : kps.length = kv.length := rpk.len
        have t3 := congrArg List.length hkp
        rw [List.length_map, List.length_map] at t3
        rw [← t1, ← t2, t3, hlb]
      obtain ⟨c2, hc2⟩ : ∃ c2, (s''.heap.update KS (Obj.mapSeq (·.push u))).get? KS = some (seqObj "list" (kA.push u) c2) := ⟨_, get?_update_seq nk2 (·.push u)⟩
      refine wpAny_bind (listUpdate_at nk2 rfl ?_ (by omega) (by rw [Array.size_push]; omega))
      refine wpAny_pure ⟨rfl, S3, F3, φ3, H3, kA.push u, c2, l1 ++ [(p, dk)], l3, kps ++ [q], kv ++ [w], ?_, sm3, ex.trans ex3, e4, by rw [hla, List.append_assoc]; rfl, by rw [List.length_append, hlb]; rfl, ?_, ?_, by rw [List.map_append, List.map_append, hkp]; simp [e3]⟩
      · have I4 : L2.Inv X pins σ H3 s'' := I3.pins_of fun p hp => I3.pin p (by simp [hp])
        have fK3 : FpOk X pins H3 KS := fpAt fK qK.2.1
        have I5 := I4.turned (t' := s''.toks) (h' := s''.heap.update KS (Obj.mapSeq (·.push u))) (it := KS) (fun b o hb e => upd_none e hb) qK.2.1 fK3.2.1 fK3.2.2.2.1 fK3.2.2.2.2.1 fK3.2.2.2.2.2
        exact pins2 I5 (fpAt fA qA.2.1) fK3 (upd_none na2 hne) hc2 (nc _ _) (nc _ _)
      · rw [Array.toList_push]
        exact rk.append (.cons rw' .nil)
      · exact rpa_snoc rq (RpA.mono ex3.fz rpk)
  case done =>
    rintro s' ⟨S2, F2, φ2, H2, kA, e, l1, l2, kps, kv, I2, sm, ex, ek2, hla, hlb, rk, rpk, hkp⟩
    have hdn : ps.drop (0 + its.length) = [] := List.drop_eq_nil_of_le (by omega)
    rw [hdn] at ek2
    cases ek2
    rw [List.append_nil] at hla
    subst hla
    have qA := I2.pin (A1, seqObj "list" #[] e1') (by simp)
    have qK := I2.pin (KS, seqObj "list" kA e) (by simp)
    have nk : s'.heap.get? KS = some (seqObj "list" kA e) := qK.1
    have na : s'.heap.get? A1 = some (seqObj "list" #[] e1') := qA.1
    have hea := key_each I2 sm.le hkp rpk rk
    have hsz : kA.size = its.length := by
      have t1 := hea.length
      rw [Array.length_toList, List.length_map] at t1
      omega
    have kp : PySem.W.KeepsBut A1 (lessH s'.heap KS) s'.heap := fun b o hb q => by
      by_cases hbk : b = KS
      · rw [hbk, lessH_at] at q; cases q
      · rw [← q]; exact (Heap.get?_update_ne _ _ _ _ hbk).symm
    refine wpAny_bind (listItems_at nk rfl ?_)
    have un : X.A.in1.in1.units = X.A.units + 2 := rfl
    refine PySem.W.keyH_end (κ := PySem.W.dataKind s'.heap (l0.map (·.2))) (h₁ := lessH s'.heap KS) kp (lessH_at _ _) nk na hne.symm (PySem.W.SortsAt.data (s := s') hea hal hsk fun d hd => by
      have t1 := hdp d hd
      have t2 := hr.un
      omega) hsz (by omega) fun h' tk c k' n' => ?_
    have keep : ∀ b o, b ∉ [A1, KS] → s'.heap.get? b = some o → h'.get? b = some o := fun b o hb q => by
      rw [List.mem_cons, List.mem_singleton, not_or] at hb
      exact k' b o hb.1 (upd_none q hb.2)
    have ko : PySem.W.KeyedOut false (l0.map (·.2)) its (PySem.W.sortVals (PySem.W.dataKind s'.heap (l0.map (·.2))) false kA.toList its) := ⟨s'.heap, kA.toList, hal, rfl, hea⟩
    have ra2 : RpA X.K cl F2 (l0.map (·.1)) xs := by rw [hl0]; exact RpA.mono ex.fz ra0
    obtain ⟨vs', rv', rp'⟩ := each_rp (PySem.W.keyedOut_each (fun x : P × PyData => x.2) ko (rp_each ra2 rvi))
    have I4 : L2.Inv X pins σ H2 s' := I2.pins_of fun p hp => I2.pin p (by simp [hp])
    have fA2 : FpOk X pins H2 A1 := fpAt fA qA.2.1
    have I5 := I4.turnedL (t' := tk) (h' := h') keep fun b hb => by
      rcases List.mem_cons.mp hb with rfl | hb
      · exact fA2
      · rw [List.mem_singleton.mp hb]; exact fpAt fK qK.2.1
    have dr' : DRA X.K cl F2 φ2 ((l0.mergeSort (PySem.W.dataLe false (·.2))).map fun x => D.p x.1) vs' := by
      have q := rp'.dra (φ := φ2)
      rw [List.map_map] at q
      exact q
    have o' := OkE.ext ex o
    obtain ⟨hz', w'⟩ := newL_ok1 o' sm dr' (fun z hz => by
      obtain ⟨y, _, rfl⟩ := List.mem_map.mp hz
      trivial)
    refine ⟨rfl, .ref A1, upd H2 A1 (.lst vs'), ?_, rfl, w' A1 qA.2.1⟩
    exact I5.take (fun _ _ _ q => q) fA2 ⟨hz', _, c, rv', n'⟩

theorem k_sortK {k : Nat} {f : Addr} {fd : FuncData} {ps0 : List Str} {m : MF} {live : Bool} {x y : Str} {p q kpos pos : Pos} {e : Expr} {me : ME} (FN : FnOk X.prog X.w X.K X.mg X.base CX0 k f fd ps0 (spOf X.K cl m)) (hr : Room (k + 2) X.A)
    (hg : Gl X x) (hm : X.mg x = none) (hv : bootBuiltins x = some (.builtin "sorted")) (hg2 : Gl X y) (hm2 : X.mg y = some (.ref f)) (hb : Binds X.K fd ps0 []) (he : PE X e (LE X.K cl me))
    (hn : x ≠ "__name__" := by decide) (hdb : (x == ("__debug__" : Str)) = false := by decide) (hdb2 : (y == ("__debug__" : Str)) = false := by decide)
    (hs : starEach [e] X.env = (false, eval e X.env) :: starEach [] X.env := by rfl) (he1 : backTo pos (starEach [e] X.env) = (false, eval e X.env) :: backTo pos (starEach [] X.env) := by rfl) (hpl : (backTo pos (starEach [e] X.env)).any (·.1) = false := by rfl)
    (hall : (backToKw pos (keywordEach [⟨some (Str.ofString "key"), .Name y q, kpos⟩] X.env)).all (·.1.isSome) = true := by rfl) (hnone : (backToKw pos (keywordEach [⟨some (Str.ofString "key"), .Name y q, kpos⟩] X.env)).any (·.1.isNone) = false := by rfl) (hks : (backToKw pos (keywordEach [⟨some (Str.ofString "key"), .Name y q, kpos⟩] X.env)).filterMap (·.1) = [Str.ofString "key"] := by rfl) :
    PE X (.Call (.Name x p) [e] [⟨some (Str.ofString "key"), .Name y q, kpos⟩] pos) (LE X.K cl (dSortK live m me)) := by
  refine (pe_callBK (sortK_run (live := live) FN hr hb) hg hm hv (pa_cons he pa_nil hs) (pk_cons (pe_glob hg2 hm2 (v := V.ref f) rfl hdb2) pk_nil) hn hdb he1 hpl hall hnone hks).imp fun σ H Q h => ?_
  obtain ⟨σd, S, B, F, φ, s, rs, o⟩ := h
  obtain ⟨d, S1, e1, o⟩ := okE_bnd o
  exact LE.then_ s rs e1 fun F1 φ1 H1 v s1 x1 rs1 dr l => ⟨rfl, d, v, S1, B, F1, φ1, rfl, s1, dr, l, OkE.ext x1 o⟩
end
end Pv
/-! a comprehension with two loops -/
namespace Pv
open PySem PySem.Spec PyProof.Rows L2
def compL2 (fin : SH → Bool) (g : MG) (c : MT) (m1 : MI) (g1 : MG) (c1 : MT) (elt : ME) (ws1 : List Nat) (σ : En) : List (SH → Option D) → List D → SH → Option (List D × SH)
  | [], acc, S => if fin S = true then some (acc, S) else none
  | t :: ts, acc, S => match t S with
    | some d => bnd (g d σ S) fun σ1 S1 => bnd (c σ1 S1) fun b S2 => if b = true then
        bnd (m1 σ1 S2) fun src S3 => bnd (compL src.fin g1 c1 elt (wipeD ws1 σ1) src.items acc S3) fun acc' S4 => compL2 fin g c m1 g1 c1 elt ws1 σ ts acc' S4
        else compL2 fin g c m1 g1 c1 elt ws1 σ ts acc S2
    | none => none
def dComp2 (live : Bool) (m : MI) (g : MG) (c : MT) (m1 : MI) (g1 : MG) (c1 : MT) (elt : ME) (vs ws1 : List Nat) : ME := fun σ S => bnd (m σ S) fun src S1 => bnd (compL2 src.fin g c m1 g1 c1 elt ws1 (wipeD vs σ) src.items [] S1) fun ds S2 => newL live ds S2
section
variable {X : Cx} {K : PySem.W.Frag} {cl : Nat → Addr} {tg iter tg1 iter1 e : Expr} {pos : Pos} {m m1 : MI} {g g1 : MG} {vs vs1 ws ws1 : List Nat} {mt mt1 : MT} {me : ME}
theorem e_comp2 {live : Bool} {σ : L2.St} {H : Hp} {Q : VK} (hw : ∀ j ∈ vs, j ∈ ws) (hw1 : ∀ j ∈ vs1, j ∈ ws1) (q : LE K cl (dComp2 live m g mt m1 g1 mt1 me ws ws1) σ H Q) : tLc2 (LI K cl m) (LG K cl vs g) (LT K cl mt) (LI K cl m1) (LG K cl vs1 g1) (LT K cl mt1) (LE K cl me) ws ws1 σ H Q := by
  obtain ⟨σd, S, B, F, φ, s, rs, o⟩ := q
  obtain ⟨src, S1, e1, o1⟩ := okE_bnd o
  refine ⟨σd, S, B, F, φ, s, rs, src, S1, e1, fun F1 φ1 H1 J s1 x1 it => ?_⟩
  intro L hL
  have o1 := o1.ext x1
  have smL : Same H1 (upd H1 L (.lst [])) := Same.new (Same.refl _) hL
  obtain ⟨fL, pL⟩ := s1.none_p hL
  refine ⟨fun i mm H' => mm = src.items.length - i ∧ i ≤ src.items.length ∧ ∃ acc us S' F' φ', Sim K cl S' B F' φ' H' ∧ Ext S1 F1 φ1 H1 S' F' φ' H' ∧ At L us S' F' φ' H' ∧ DRA K cl F' φ' acc us ∧ (∀ d ∈ acc, d.lt S'.len) ∧
      OkE K cl S1 B F1 φ1 H1 (bnd (compL2 src.fin g mt m1 g1 mt1 me ws1 (wipeD ws σd) (src.items.drop i) acc S') fun ds S2 => newL live ds S2) Q,
    ⟨src.items.length, by simp, Nat.zero_le _, [], [], S1, F1, φ1, s1.keep smL, Ext.ofSame s1 smL, ⟨upd_same, fL, pL⟩, .nil, fun _ z => absurd z (by simp), by rw [List.drop_zero]; exact o1⟩, ?_⟩
  rintro i mm H' ⟨rfl, hi, acc, us, S', F', φ', s', x', at', ra, la, o'⟩
  obtain ⟨turn, stop⟩ := it S' B F' φ' H' s' x'.fz x'.len x'.phi i
  by_cases hlt : i < src.items.length
  · rw [List.drop_eq_getElem_cons hlt] at o'
    unfold compL2 at o'
    cases ht : src.items[i] S' with
    | none => rw [ht] at o'; obtain ⟨_, _, z, _⟩ := o'; cases z
    | some d =>
      rw [ht] at o'
      dsimp only at o'
      obtain ⟨ld, go, yld⟩ := turn _ d (List.getElem?_eq_getElem hlt) ht
      refine .inr ⟨go, fun H3 => ∃ acc us S' F' φ', Sim K cl S' B F' φ' H3 ∧ Ext S1 F1 φ1 H1 S' F' φ' H3 ∧ At L us S' F' φ' H3 ∧ DRA K cl F' φ' acc us ∧ (∀ d ∈ acc, d.lt S'.len) ∧
        OkE K cl S1 B F1 φ1 H1 (bnd (compL2 src.fin g mt m1 g1 mt1 me ws1 (wipeD ws σd) (src.items.drop (i + 1)) acc S') fun ds S2 => newL live ds S2) Q, fun H3 h => ⟨src.items.length - (i + 1), by omega, rfl, hlt, h⟩, fun x H2 y => ?_⟩
      obtain ⟨F2, s2, x2, dr⟩ := yld x H2 y
      obtain ⟨out, S9, eo, ko⟩ := okE_bnd o'
      obtain ⟨σ3, S3, e3, e4⟩ := bnd_of eo
      obtain ⟨b, S4, e5, e6⟩ := bnd_of e4
      refine ⟨d, wipeD ws σd, S', B, F2, φ', s2, (((x1.trans x').trans x2).rs rs).wipe2 ws, dr, ld, σ3, S3, e3, fun F4 φ4 H4 σ4 s4 x4 rs4 hk => ⟨?_, ?_⟩⟩
      · exact (wipe_eq hk.1 fun j hj => hk.2 j fun z => hj (hw j z)).trans wipe_wipe
      · refine LT.then_ s4 rs4 e5 fun F5 φ5 H5 s5 x5 rs5 => ?_
        have xa := (x2.trans x4).trans x5
        split
        · rename_i hb
          rw [if_pos hb] at e6
          obtain ⟨src1, S6, e7, e8⟩ := bnd_of e6
          refine ⟨σ3, S4, B, F5, φ5, s5, rs5, src1, S6, e7, fun F6 φ6 H6 J1 s6 x6 it1 => ?_⟩
          have xb := xa.trans x6
          have at6 := at'.ext xb
          have rs6 := x6.rs rs5
          refine ⟨fun j k Hj => k = src1.items.length - j ∧ j ≤ src1.items.length ∧ ∃ acc us S' F' φ', Sim K cl S' B F' φ' Hj ∧ Ext S1 F1 φ1 H1 S' F' φ' Hj ∧ Same F6 F' ∧ S6.len ≤ S'.len ∧ (∀ n, n < S6.len → φ' n = φ6 n) ∧ At L us S' F' φ' Hj ∧ DRA K cl F' φ' acc us ∧ (∀ d ∈ acc, d.lt S'.len) ∧
              (bnd (compL src1.fin g1 mt1 me (wipeD ws1 σ3) (src1.items.drop j) acc S') fun acc' S4 => compL2 src.fin g mt m1 g1 mt1 me ws1 (wipeD ws σd) (src.items.drop (i + 1)) acc' S4) = some (out, S9),
            ⟨src1.items.length, by simp, Nat.zero_le _, acc, us, S6, F6, φ6, s6, x'.trans xb, Same.refl _, Nat.le_refl _, fun _ _ => rfl, at6, xb.dra la ra, fun z hz => xb.lt (la z hz), by rw [List.drop_zero]; exact e8⟩, ?_⟩
          rintro j k Hj ⟨rfl, hj, acc1, us1, S7, F7, φ7, s7, x7, f67, l67, p67, at7, ra7, la7, o7⟩
          obtain ⟨turn1, stop1⟩ := it1 S7 B F7 φ7 Hj s7 f67 l67 p67 j
          by_cases hlt1 : j < src1.items.length
          · rw [List.drop_eq_getElem_cons hlt1] at o7
            obtain ⟨acc9, S10, o8, o9⟩ := bnd_of o7
            unfold compL at o8
            cases ht1 : src1.items[j] S7 with
            | none => rw [ht1] at o8; cases o8
            | some d1 =>
              rw [ht1] at o8
              dsimp only at o8
              obtain ⟨ld1, go1, yld1⟩ := turn1 _ d1 (List.getElem?_eq_getElem hlt1) ht1
              refine .inr ⟨go1, fun H3 => ∃ acc us S' F' φ', Sim K cl S' B F' φ' H3 ∧ Ext S1 F1 φ1 H1 S' F' φ' H3 ∧ Same F6 F' ∧ S6.len ≤ S'.len ∧ (∀ n, n < S6.len → φ' n = φ6 n) ∧ At L us S' F' φ' H3 ∧ DRA K cl F' φ' acc us ∧ (∀ d ∈ acc, d.lt S'.len) ∧
                  (bnd (compL src1.fin g1 mt1 me (wipeD ws1 σ3) (src1.items.drop (j + 1)) acc S') fun acc' S4 => compL2 src.fin g mt m1 g1 mt1 me ws1 (wipeD ws σd) (src.items.drop (i + 1)) acc' S4) = some (out, S9), fun H3 h => ⟨src1.items.length - (j + 1), by omega, rfl, hlt1, h⟩, fun x1' H8 y1 => ?_⟩
              obtain ⟨F8, s8, x8, dr8⟩ := yld1 x1' H8 y1
              obtain ⟨σ9, S11, e9, e10⟩ := bnd_of o8
              obtain ⟨b1, S12, e11, e12⟩ := bnd_of e10
              refine ⟨d1, wipeD ws1 σ3, S7, B, F8, φ7, s8, (x8.rs (rs6.mono f67 l67 p67)).wipe2 ws1, dr8, ld1, σ9, S11, e9, fun F13 φ13 H13 σ13 s13 x13 rs13 hk1 => ⟨?_, ?_⟩⟩
              · exact (wipe_eq hk1.1 fun j hj => hk1.2 j fun z => hj (hw1 j z)).trans wipe_wipe
              · refine LT.then_ s13 rs13 e11 fun F14 φ14 H14 s14 x14 rs14 => ?_
                have xc := (x8.trans x13).trans x14
                split
                · rename_i hb1
                  rw [if_pos hb1] at e12
                  by_cases hz : acc1.length < sizeLine
                  · rw [if_pos hz] at e12
                    obtain ⟨y2, S15, e13, e14⟩ := bnd_of e12
                    refine LE.then_ s14 rs14 e13 fun F15 φ15 H15 u s15 x15 rs15 dr15 l15 => ?_
                    have xd := xc.trans x15
                    have at15 := at7.ext xd
                    have hlen := ra7.length
                    refine ⟨us1, at15.1, by omega, acc1 ++ [y2], us1 ++ [u], S15, F15, φ15, s15.other _ at15.2.1 at15.2.2, (x7.trans xd).other _ hL, f67.trans xd.fz, Nat.le_trans l67 xd.len, fun n hn => (xd.phi n (Nat.lt_of_lt_of_le hn l67)).trans (p67 n hn), ⟨upd_same, at15.2⟩, ?_, fun z hz' => ?_, ?_⟩
                    · exact DRA.append (xd.dra la7 ra7) (.cons dr15 .nil)
                    · rcases List.mem_append.mp hz' with h | h
                      · exact xd.lt (la7 z h)
                      · rw [List.mem_singleton.mp h]; exact l15
                    · rw [e14]; exact o9
                  · rw [if_neg hz] at e12; cases e12
                · rename_i hb1
                  rw [if_neg hb1] at e12
                  exact ⟨acc1, us1, S12, F14, φ14, s14, x7.trans xc, f67.trans xc.fz, Nat.le_trans l67 xc.len, fun n hn => (xc.phi n (Nat.lt_of_lt_of_le hn l67)).trans (p67 n hn), at7.ext xc, xc.dra la7 ra7, fun z hz' => xc.lt (la7 z hz'), by rw [e12]; exact o9⟩
          · have hd : src1.items.drop j = [] := List.drop_eq_nil_iff.mpr (by omega)
            rw [hd] at o7
            obtain ⟨acc9, S10, o8, o9⟩ := bnd_of o7
            unfold compL at o8
            by_cases hf : src1.fin S7 = true
            · rw [if_pos hf] at o8
              cases o8
              exact .inl ⟨stop1 (by omega) hf, acc1, us1, S7, F7, φ7, s7, x7, at7, ra7, la7, by rw [o9]; exact ko⟩
            · rw [if_neg hf] at o8; cases o8
        · rename_i hb
          rw [if_neg hb] at e6
          exact ⟨acc, us, S4, F5, φ5, s5, x'.trans xa, at'.ext xa, xa.dra la ra, fun z hz' => xa.lt (la z hz'), by rw [e6]; exact ko⟩
  · have hd : src.items.drop i = [] := List.drop_eq_nil_iff.mpr (by omega)
    rw [hd] at o'
    unfold compL2 at o'
    by_cases hf : src.fin S' = true
    · rw [if_pos hf] at o'
      exact .inl ⟨stop (by omega) hf, newL_at o' s' x' ra la at' hL⟩
    · rw [if_neg hf] at o'; obtain ⟨_, _, z, _⟩ := o'; cases z
theorem k_comp2 {elt : Expr} {ifs ifs1 : List Expr} {scope : Scope} {own : List (Str × Nat)} {live : Bool} (hc : X.calm = true) (hN : X.N.Nodup) (hi : PI X tg iter (LI X.K cl m)) (ok : BlkOk X.N X.env.scope scope own)
    (hg : ∀ (s : Shared) (H : Hp) (C : Addr) (cs : List (Str × Addr)) (fp : List Addr), PG (X.blk s H scope (compEnvC scope cs C X.env) fp) tg (LG X.K cl vs g)) (ht : ∀ (s : Shared) (H : Hp) (C : Addr) (cs : List (Str × Addr)) (fp : List Addr), PTs (X.blk s H scope (compEnvC scope cs C X.env) fp) ifs (LT X.K cl mt))
    (hi1 : ∀ (s : Shared) (H : Hp) (C : Addr) (cs : List (Str × Addr)) (fp : List Addr), PI (X.blk s H scope (compEnvC scope cs C X.env) fp) tg1 iter1 (LI X.K cl m1))
    (hg1 : ∀ (s : Shared) (H : Hp) (C : Addr) (cs : List (Str × Addr)) (fp : List Addr), PG (X.blk s H scope (compEnvC scope cs C X.env) fp) tg1 (LG X.K cl vs1 g1)) (ht1 : ∀ (s : Shared) (H : Hp) (C : Addr) (cs : List (Str × Addr)) (fp : List Addr), PTs (X.blk s H scope (compEnvC scope cs C X.env) fp) ifs1 (LT X.K cl mt1))
    (he : ∀ (s : Shared) (H : Hp) (C : Addr) (cs : List (Str × Addr)) (fp : List Addr), PE (X.blk s H scope (compEnvC scope cs C X.env) fp) elt (LE X.K cl me)) (hw : ∀ j ∈ vs, j ∈ own.map (·.2) := by decide) (hw1 : ∀ j ∈ vs1, j ∈ ws1 := by decide) (hw2 : ∀ j ∈ ws1, j ∈ own.map (·.2) := by decide)
    (hs : ∀ x, foldedSetIterable iter X.env x = pure x := by intro _; rfl) (hs1 : ∀ env x, foldedSetIterable iter1 env x = pure x := by intro _ _; rfl) :
    PE X (.ListComp elt [⟨tg, iter, ifs, 0⟩, ⟨tg1, iter1, ifs1, 0⟩] scope pos) (LE X.K cl (dComp2 live m g mt m1 g1 mt1 me (own.map (·.2)) ws1)) :=
  (pe_lc2 hc hN hi ok hw2 hg ht hi1 hg1 ht1 he hs hs1).imp fun _ _ _ q => e_comp2 hw hw1 q
theorem s_setComp2 {i : Nat} {y : Str} {py spos : Pos} {elt : Expr} {ifs ifs1 : List Expr} {scope : Scope} {own : List (Str × Nat)} {live : Bool} (hc : X.calm = true) (hN : X.N.Nodup) (hy : X.N[i]? = some y) (hyl : X.env.scope.names.lookup y = some .local)
    (hsw : swapsWith (.ListComp elt [⟨tg, iter, ifs, 0⟩, ⟨tg1, iter1, ifs1, 0⟩] scope pos) (some (.Name y py)) spos.line X.env = pure true) (hi : PI X tg iter (LI X.K cl m)) (ok : BlkOk X.N X.env.scope scope own)
    (hg : ∀ (s : Shared) (H : Hp) (C : Addr) (cs : List (Str × Addr)) (fp : List Addr), PG (X.blk s H scope (compEnvC scope cs C X.env) fp) tg (LG X.K cl vs g)) (ht : ∀ (s : Shared) (H : Hp) (C : Addr) (cs : List (Str × Addr)) (fp : List Addr), PTs (X.blk s H scope (compEnvC scope cs C X.env) fp) ifs (LT X.K cl mt))
    (hi1 : ∀ (s : Shared) (H : Hp) (C : Addr) (cs : List (Str × Addr)) (fp : List Addr), PI (X.blk s H scope (compEnvC scope cs C X.env) fp) tg1 iter1 (LI X.K cl m1))
    (hg1 : ∀ (s : Shared) (H : Hp) (C : Addr) (cs : List (Str × Addr)) (fp : List Addr), PG (X.blk s H scope (compEnvC scope cs C X.env) fp) tg1 (LG X.K cl vs1 g1)) (ht1 : ∀ (s : Shared) (H : Hp) (C : Addr) (cs : List (Str × Addr)) (fp : List Addr), PTs (X.blk s H scope (compEnvC scope cs C X.env) fp) ifs1 (LT X.K cl mt1))
    (he : ∀ (s : Shared) (H : Hp) (C : Addr) (cs : List (Str × Addr)) (fp : List Addr), PE (X.blk s H scope (compEnvC scope cs C X.env) fp) elt (LE X.K cl me)) (hw : ∀ j ∈ vs, j ∈ own.map (·.2) := by decide) (hw1 : ∀ j ∈ vs1, j ∈ ws1 := by decide) (hw2 : ∀ j ∈ ws1, j ∈ own.map (·.2) := by decide)
    (hs : ∀ x, foldedSetIterable iter X.env x = pure x := by intro _; rfl) (hs1 : ∀ env x, foldedSetIterable iter1 env x = pure x := by intro _ _; rfl) :
    PS X (.Assign [.Name y py] (.ListComp elt [⟨tg, iter, ifs, 0⟩, ⟨tg1, iter1, ifs1, 0⟩] scope pos) spos) (LS X.K cl (dSet i (dComp2 live m g mt m1 g1 mt1 me (own.map (·.2)) ws1))) := by
  refine (ps_setLc2 hc hN hy hyl hsw hi ok hw2 hg ht hi1 hg1 ht1 he hs hs1).imp fun Z σ H q => ?_
  obtain ⟨σd, S, B, F, φ, s, rs, o⟩ := q
  obtain ⟨d, S1, e1, o1⟩ := okS_bnd o
  obtain ⟨_, _, z, k⟩ := o1
  cases z
  exact e_comp2 hw hw1 ⟨σd, S, B, F, φ, s, rs, d, S1, e1, fun F1 φ1 H1 u s1 x1 dr l => k F1 φ1 H1 _ s1 x1 ((x1.rs rs).set i dr l)⟩
end
end Pv
/-! .index of texts; tuples of the module -/
namespace Pv
open PySem PySem.Spec PyProof.Rows L2
def idxS (z : Str) : List Str → Option Nat
  | [] => none
  | y :: r => if y = z then some 0 else (idxS z r).map (· + 1)
theorem idxS_ok {z : Str} : ∀ {ys : List Str} {j : Nat}, idxS z ys = some j → ys[j]? = some z ∧ ∀ m, m < j → ys[m]? ≠ some z
  | [], j, h => by cases h
  | y :: r, j, h => by
    unfold idxS at h
    by_cases e : y = z
    · rw [if_pos e] at h
      cases h
      exact ⟨by rw [e]; rfl, fun m hm => absurd hm (Nat.not_lt_zero _)⟩
    · rw [if_neg e] at h
      cases e1 : idxS z r with
      | none => rw [e1] at h; cases h
      | some i =>
        rw [e1] at h
        cases h
        obtain ⟨h1, h2⟩ := idxS_ok e1
        refine ⟨h1, fun m hm => ?_⟩
        cases m with
        | zero => intro q; exact e (Option.some.inj q)
        | succ m => exact h2 m (Nat.lt_of_succ_lt_succ hm)
def fIndex : MF := fun ds S => match ds with
  | [d, .p (.str z)] => match asL d S with
    | some xs => match strsOf xs with
      | some zs => match idxS z zs with
        | some j => some (.p (.int (j : Nat)), S)
        | none => none
      | none => none
    | none => none
  | _ => none
section
variable {X : Cx} {K : PySem.W.Frag} {cl : Nat → Addr}
theorem flat_str (ys : List Str) : (ys.map V.str).all flatV = true := by
  rw [List.all_map, List.all_eq_true]
  exact fun _ _ => rfl
theorem d_index : MtD K cl fIndex "list" (rIndex K) := by
  intro S B F φ H d ds x xs Q s r l rs ls o
  unfold fIndex at o
  split at o
  · rename_i d' z e0
    obtain ⟨rfl, rfl⟩ := List.cons.inj e0
    cases e1 : asL d S with
    | none => rw [e1] at o; exact o.no
    | some us =>
    rw [e1] at o
    dsimp only at o
    cases e2 : strsOf us with
    | none => rw [e2] at o; exact o.no
    | some zs =>
    rw [e2] at o
    dsimp only at o
    cases e3 : idxS z zs with
    | none => rw [e3] at o; exact o.no
    | some j =>
    rw [e3] at o
    obtain ⟨a, vs, rfl, hq, ra, _⟩ := asL_ok s e1 r l
    have ev := strsOf_of e2 ra
    subst ev
    cases rs with
    | cons r1 r2 =>
      cases r2
      have ex := drS r1
      subst ex
      obtain ⟨h1, h2⟩ := idxS_ok e3
      refine ⟨a, zs.map V.str, .str z, j, .str z, rfl, rfl, hq, rfl, flat_str zs, by rw [List.getElem?_map, h1]; rfl, by simp [eqV], fun m z' hm hz => ?_, o.fin0 rfl s (.int _) trivial⟩
      rw [List.getElem?_map] at hz
      cases e4 : zs[m]? with
      | none => rw [e4] at hz; cases hz
      | some y =>
        rw [e4] at hz
        cases hz
        have hne : y ≠ z := fun q => h2 m hm (by rw [e4, q])
        simpa [eqV] using hne
  · exact o.no
/-- a tuple of the module -/
def TupC (K : PySem.W.Frag) (v : V) : Prop := ∃ (a : Addr) (o : Obj), v = .ref a ∧ K.lookup a = some o ∧ o.cls = .type "tuple" ∧ o.dict = none
theorem rp_const {F : Hp} {a : Addr} {o : Obj} {its : Array Value} {n : Nat} {ps : List P} {vs : List V} (h : K.lookup a = some o) (hc : o.cls = .type "tuple") (hd : o.data = .seq its n) (hz : its.size ≤ sizeLine) (hv : Vals vs its.toList) (hp : RpA K cl F ps vs) : Rp K cl F (.tup ps) (.ref a) :=
  .tup (.inr ⟨o, its, n, h, hc, hd, hz, hv⟩) hp
def strsP (ps : List P) : Option (List Str) := strsOf (ps.map D.p)
def idxC (q : P) (ds : List D) : Option Nat := match q, ds with
  | .tup ps, [.p (.str z)] => (strsP ps).bind (idxS z)
  | _, _ => none
theorem idxC_of {q : P} {ds : List D} {j : Nat} (h : idxC q ds = some j) : ∃ ps z zs, q = .tup ps ∧ ds = [.p (.str z)] ∧ strsP ps = some zs ∧ idxS z zs = some j := by
  unfold idxC at h
  split at h
  · rename_i ps z
    cases e : strsP ps with
    | none => rw [e] at h; cases h
    | some zs => rw [e] at h; exact ⟨ps, z, zs, rfl, rfl, e, h⟩
  · cases h
def dIdxC (q : P) (ma : MA) : ME := fun σ S => bnd (ma σ S) fun ds S1 => match idxC q ds with
  | some j => some (.p (.int (j : Nat)), S1)
  | none => none
theorem k_idxC {x : Str} {v : V} {u : Value} {q : P} {p apos cpos : Pos} {e : Expr} {ma : MA} (hg : Gl X x) (hm : X.mg x = some u) (r : RelV v u) (hq : ∀ F, Rp X.K cl F q v) (ht : TupC X.K v) (ha : PA X [e] (LA X.K cl ma)) (hdb : (x == ("__debug__" : Str)) = false := by decide)
    (hbase : attributeBase (.Name x p) "index" X.env (eval (.Name x p) X.env) = eval (.Name x p) X.env := by rfl)
    (hfew : ((backTo cpos (starEach [e] X.env)).all (fun x => !x.1) && (backToKw cpos (keywordEach [] X.env)).all (fun x => x.1.isSome)
      && decide (([e] : List Expr).length + ([] : List Keyword).length + (if ([] : List Keyword).isEmpty then 0 else 1) < 30)) = true := by rfl)
    (hline : (apos.endLine == cpos.line) = true := by rfl) (hs : starEach [e] X.env = (false, eval e X.env) :: starEach [] X.env := by rfl) (hplain : (backTo cpos (starEach [] X.env)).any (·.1) = false := by rfl) :
    PE X (.Call (.Attribute (.Name x p) "index" apos) [e] [] cpos) (LE X.K cl (dIdxC q ma)) := by
  refine (pe_bm PySem.F.plainAttrs_tuple PySem.F.slot_tuple_index PySem.F.type_tuple_index mt_tup_index (pe_glob hg hm r hdb) ha hbase hfew hline hs hplain).imp fun σ H Q h => ?_
  obtain ⟨σd, S, B, F, φ, s, rs, o⟩ := h
  obtain ⟨ds, S1, e1, o⟩ := okE_bnd o
  obtain ⟨a, ob, rfl, hk, hc, hd⟩ := ht
  refine ⟨.inr (.inl ⟨rfl, ob, hk, hc, hd⟩), LA.then_ s rs e1 fun F1 φ1 H1 us s1 x1 rs1 dr l => ?_⟩
  have o2 := o.ext x1
  clear o
  have hq1 := hq F1
  cases e0 : idxC q ds with
  | none => rw [e0] at o2; exact o2.no
  | some j =>
  rw [e0] at o2
  obtain ⟨ps, z, zs, rfl, rfl, e2, e3⟩ := idxC_of e0
  cases hq1 with
  | tup st ra =>
    cases dr with
    | cons r1 r2 =>
      cases r2
      have ex := drS r1
      subst ex
      have ev := strsOf_of (F := F1) (φ := φ1) e2 ra.dra
      subst ev
      obtain ⟨h1, h2⟩ := idxS_ok e3
      exact ⟨_, zs, z, j, rfl, rfl, SqT.mono s1.le st, h1, h2, o2.fin0 rfl s1 (.int _) trivial⟩
/-! ### a text, walked -/
def charsP (z : Str) : List P := z.cps.toList.map fun c => P.str ⟨#[c]⟩
def srcS (d : D) (S : SH) : Option (Src × SH) := match d with
  | .p (.str z) => some (srcP (charsP z), S)
  | _ => none
def dItS (m : ME) : MI := fun σ S => bnd (m σ S) srcS
theorem rpA_chars {F : Hp} : ∀ l : List Nat, RpA K cl F (l.map fun c => P.str ⟨#[c]⟩) (l.map fun c => V.str ⟨#[c]⟩)
  | [] => .nil
  | c :: l => .cons (.str _) (rpA_chars l)
theorem pi_strD {tg e : Expr} {me : ME} (he : PE X e (LE X.K cl me)) : PI X tg e (LI X.K cl (dItS me)) := by
  refine ⟨fun pins s σ H R I h => (pi_str he).run pins s σ H R I ?_⟩
  obtain ⟨σd, S, B, F, φ, sm, rs, src, S1, e0, k⟩ := h
  obtain ⟨d, S2, e1, e2⟩ := bnd_of e0
  refine LE.then_ sm rs e1 fun F1 φ1 H1 x s1 x1 rs1 dr l => ?_
  unfold srcS at e2
  split at e2
  · rename_i z
    cases e2
    have ex := drS dr
    subst ex
    refine ⟨z, rfl, k F1 φ1 H1 _ s1 x1 (itD_seq (rpA_chars z.cps.toList) (fun H sf i y hy => ?_) (fun H sf i y hy v H2 hv => ?_) fun H sf i hi => ?_)⟩
    · have h1 := (List.getElem?_eq_some_iff.mp hy).1
      rw [List.length_map, Array.length_toList] at h1
      exact h1
    · obtain ⟨h1, c, h2, h3⟩ := hv
      refine ⟨h1, ?_⟩
      rw [List.getElem?_map, Array.getElem?_toList, h2] at hy
      rw [h3]
      exact (Option.some.inj hy)
    · rw [List.length_map, Array.length_toList] at hi
      exact hi
  · cases e2
/-! ### a text times a number -/
def repS (z : Str) (n : Nat) : Str := ⟨(List.replicate n z.cps).foldl (· ++ ·) #[]⟩
theorem rep_size (x : Array Nat) : ∀ (n : Nat) (acc : Array Nat), ((List.replicate n x).foldl (· ++ ·) acc).size = acc.size + n * x.size
  | 0, acc => by simp
  | n + 1, acc => by
    rw [List.replicate_succ, List.foldl_cons, rep_size x n, Array.size_append, Nat.succ_mul]
    omega
theorem repS_len (z : Str) (n : Nat) : (repS z n).length = n * z.length := by
  show ((List.replicate n z.cps).foldl (· ++ ·) #[]).size = n * z.cps.size
  rw [rep_size]
  simp
def rMulS : R2 := fun x y H Q => ∃ (z : Str) (n : Nat), x = .str z ∧ y = .int (n : Int) ∧ n ≤ 10000 ∧ z.length ≤ 100 ∧ Q (.str (repS z n)) H
theorem o_mulS : OpR X (binaryOp .Mult) rMulS := by
  intro pins s σ H x y v u Q I rx ry h
  obtain ⟨z, n, rfl, rfl, hn, z2, q⟩ := h
  obtain ⟨t, rfl⟩ := rx
  obtain ⟨t', rfl⟩ := ry
  have hm : z.length * n ≤ 1000000 := Nat.le_trans (Nat.mul_le_mul z2 hn) (by decide)
  have line : 1000000 ≤ sizeLine := by unfold sizeLine; decide
  have fin0 : ∀ (r : Str), r.cps = (repS z n).cps → r = repS z n := fun r e => by
    cases r
    exact congrArg Str.mk e
  refine PySem.P.mul_str (by rw [decide_eq_false (by omega), decide_eq_false (by omega)]; rfl) (fun h1 _ => ?_) (fun _ _ => ?_) ?_
  · have hd : ((2 : Int) ^ 63 - 1) / (10000 : Int) ≤ (2 ^ 63 - 1) / (n : Int) := Int.le_ediv_of_mul_le (by omega) (by
      have : ((2 : Int) ^ 63 - 1) / 10000 = 922337203685477 := by decide
      rw [this]
      have hq : (922337203685477 : Int) * (n : Int) ≤ 922337203685477 * 10000 := Int.mul_le_mul_of_nonneg_left (by omega) (by decide)
      omega)
    have hc : ((2 : Int) ^ 63 - 1) / 10000 = 922337203685477 := by decide
    omega
  · rw [Int.toNat_natCast]
    unfold Builtin.Str.tooLong
    exact decide_eq_false (by omega)
  · by_cases h1 : (n : Int) < 1
    · rw [if_pos h1]
      have e : n = 0 := by omega
      subst e
      refine ⟨by show (0 : Nat) ≤ _; exact Nat.zero_le _, .str (repS z 0), H, I.tok _, ⟨_, rfl⟩, q⟩
    · rw [if_neg h1]
      by_cases h2 : ((n : Int) == 1 || z.length == 0) = true
      · rw [if_pos h2]
        have e : z = repS z n := by
          refine fin0 z ?_
          rw [Bool.or_eq_true] at h2
          rcases h2 with h2 | h2
          · have e : n = 1 := by
              have := beq_iff_eq.mp h2
              omega
            subst e
            show z.cps = #[] ++ z.cps
            simp
          · have e0 : z.cps.size = 0 := beq_iff_eq.mp h2
            have e1 : z.cps = #[] := Array.eq_empty_of_size_eq_zero e0
            have e2 : (repS z n).cps.size = 0 := by
              have := repS_len z n
              have h : (repS z n).cps.size = n * z.cps.size := this
              rw [h, e0, Nat.mul_zero]
            rw [e1, Array.eq_empty_of_size_eq_zero e2]
        exact ⟨.str (repS z n), H, I, ⟨t, by rw [← e]⟩, q⟩
      · rw [if_neg h2]
        refine ⟨?_, .str (repS z n), H, I.tok _, ⟨_, rfl⟩, q⟩
        show (repS z n).length ≤ sizeLine
        rw [repS_len, Nat.mul_comm]
        exact Nat.le_trans hm line
/-- * of ints, or of a text and an int -/
def fMulS (d e : D) (S : SH) : Option (D × SH) := match d, e with
  | .p (.str z), .p (.int n) => if 0 ≤ n ∧ n ≤ 10000 ∧ z.length ≤ 100 then some (.p (.str (repS z n.toNat)), S) else none
  | _, _ => none
theorem d_mulS : OpD K cl fMulS rMulS := by
  intro S B F φ H d1 d2 x y Q s r1 r2 l1 l2 o
  unfold fMulS at o
  split at o
  · rename_i z n
    split at o
    · rename_i h
      refine ⟨z, n.toNat, drS r1, by rw [drI r2]; congr 1; omega, by omega, h.2.2, o.fin0 rfl s (.str _) trivial⟩
    · exact o.no
  · exact o.no
end
end Pv
/-! a, b = a list -/
namespace Pv
open PySem PySem.Spec PyProof.Rows L2
def gTl (n : Nat) (gs : MGs) : MG := fun d σ S => match asL d S with
  | some ds => if ds.length = n then gs ds σ S else none
  | none => none
section
variable {X : Cx} {cl : Nat → Addr} {pos : Pos} {es : List Expr} {vs : List Nat} {gs : MGs}
theorem g_lst {k n : Nat} (hc : X.calm = true) (h : PGs X es (LGs X.K cl vs gs)) (hn : (assignEach es X.env).length = n := by rfl) (hst : (assignEach es X.env).findIdx? (·.1) = none := by rfl) : PG X (.Tuple es k pos) (LG X.K cl vs (gTl n gs)) := by
  have z := pg_unl (k := k) (pos := pos) hc h hn hst
  refine ⟨fun pins s σ H v u Q I r q => z.run pins s σ H v u Q I r ?_⟩
  obtain ⟨d, σd, S, B, F, φ, sm, rs, dr, l, ok⟩ := q
  unfold gTl at ok
  cases e : asL d S with
  | none => rw [e] at ok; obtain ⟨_, _, z, _⟩ := ok; cases z
  | some ds =>
    rw [e] at ok
    dsimp only at ok
    obtain ⟨a, us, rfl, hq, tr, hl⟩ := asL_ok sm e dr l
    by_cases hp : ds.length = n
    · rw [if_pos hp] at ok
      exact ⟨a, us, rfl, hq, by rw [← tr.length]; exact hp, ds, σd, S, B, F, φ, sm, rs, tr, hl, ok⟩
    · rw [if_neg hp] at ok; obtain ⟨_, _, z, _⟩ := ok; cases z
end
/-! xs.pop() -/
def fPop : MF := fun ds S => match ds with
  | [.ref n] => match S.os[n]? with
    | some (.lst xs) => match xs[xs.length - 1]? with
      | some y => some (y, S.put n (.lst xs.dropLast))
      | none => none
    | _ => none
  | _ => none
theorem DRA.dropL {K : PySem.W.Frag} {cl : Nat → Addr} {F : Hp} {φ : Nat → Addr} : ∀ {ds : List D} {vs : List V}, DRA K cl F φ ds vs → DRA K cl F φ ds.dropLast vs.dropLast
  | [], _, .nil => .nil
  | [_], _, .cons _ .nil => .nil
  | _ :: _ :: _, _, .cons a (.cons b t) => .cons a (DRA.dropL (.cons b t))
theorem d_pop1 {K : PySem.W.Frag} {cl : Nat → Addr} : MtD K cl fPop "list" rPop := by
  intro S B F φ H d ds x xs Q s r l rs ls o
  unfold fPop at o
  split at o
  · rename_i n e0
    split at o
    · rename_i ys q
      split at o
      · rename_i y hy
        injection e0 with e1 e2
        subst e1 e2
        cases rs
        obtain ⟨vs, ev, rv⟩ := (s.ob n _ q).2
        have hl := rv.length
        obtain ⟨v, hv, rvv⟩ := rv.get hy
        have hm := List.mem_of_getElem? hy
        have ly := s.wf n _ q y hm
        obtain ⟨s2, x2⟩ := putGen (o := .lst ys.dropLast) (x := .lst vs.dropLast) s q (fun z hz => .inr (.inl (List.dropLast_subset _ hz))) ⟨_, rfl, DRA.dropL rv⟩
        exact ⟨φ n, vs, v, r, rfl, ev, by rw [← hl]; exact hv, o.fin rfl s2 x2 rvv (by simpa [SH.put, SH.len] using ly)⟩
      · exact o.no
    · exact o.no
  · exact o.no
end Pv
/-! reading the computations by simp -/
namespace Pv
open PySem PySem.Spec PyProof.Rows L2
section
variable {f g : D → D → SH → Option (D × SH)} {u : D → SH → Option (D × SH)} {a b c : ME} {t t1 t2 : MT} {r : MA} {m : MF} {s1 s2 : MS} {σ : En} {S S' : SH}
@[simp] theorem at_dC (x : P) : dC x σ S = some (.p x, S) := id rfl
@[simp] theorem at_dVar (i : Nat) : dVar i σ S = match σ[i]? with | some (some d) => some (d, S) | _ => none := id rfl
@[simp] theorem at_dOp : dOp f a b σ S = bnd (a σ S) fun x S1 => bnd (b σ S1) fun y S2 => f x y S2 := id rfl
@[simp] theorem at_dUn : dUn u a σ S = bnd (a σ S) fun x S1 => u x S1 := id rfl
@[simp] theorem at_dTest : dTest a σ S = bnd (a σ S) toB := id rfl
@[simp] theorem at_dAnd : dAnd t1 t2 σ S = bnd (t1 σ S) fun t S1 => if t = true then t2 σ S1 else some (false, S1) := id rfl
@[simp] theorem at_dOr : dOr t1 t2 σ S = bnd (t1 σ S) fun t S1 => if t = true then some (true, S1) else t2 σ S1 := id rfl
@[simp] theorem at_dNot : dNot t σ S = bnd (t σ S) fun x S1 => some (!x, S1) := id rfl
@[simp] theorem at_dNotV : dNotV a σ S = bnd (a σ S) fun d S1 => bnd (toB d S1) fun t S2 => some (.p (.bl (!t)), S2) := id rfl
@[simp] theorem at_dAndV : dAndV a b σ S = bnd (a σ S) fun d S1 => bnd (toB d S1) fun t S2 => if t = true then b σ S2 else some (.p (.bl false), S2) := id rfl
@[simp] theorem at_dOrV : dOrV a b σ S = bnd (a σ S) fun d S1 => bnd (toB d S1) fun t S2 => if t = true then some (.p (.bl true), S2) else b σ S2 := id rfl
@[simp] theorem at_dIfE : dIfE t a b σ S = bnd (t σ S) fun t S1 => if t = true then a σ S1 else b σ S1 := id rfl
@[simp] theorem at_dNil : dNil σ S = some ([], S) := id rfl
@[simp] theorem at_dCons : dCons a r σ S = bnd (a σ S) fun x S1 => bnd (r σ S1) fun xs S2 => some (x :: xs, S2) := id rfl
@[simp] theorem at_dCall : dCall m r σ S = bnd (r σ S) fun xs S1 => m xs S1 := id rfl
@[simp] theorem at_dNx : dNx σ S = some (.nx σ, S) := id rfl
def seqK (b : MS) : Fl → SH → Option (Fl × SH)
  | .nx σ1, S1 => b σ1 S1
  | r, S1 => some (r, S1)
@[simp] theorem seqK_nx (σ1 : En) : seqK s2 (.nx σ1) S = s2 σ1 S := id rfl
@[simp] theorem seqK_ret (d : D) : seqK s2 (.ret d) S = some (.ret d, S) := id rfl
@[simp] theorem seqK_brk (σ1 : En) : seqK s2 (.brk σ1) S = some (.brk σ1, S) := id rfl
@[simp] theorem seqK_ct (σ1 : En) : seqK s2 (.ct σ1) S = some (.ct σ1, S) := id rfl
@[simp] theorem at_dSeq : dSeq s1 s2 σ S = bnd (s1 σ S) (seqK s2) := by
  unfold dSeq
  congr 1
  funext f S1
  cases f <;> rfl
@[simp] theorem at_dBrk : dBrk σ S = some (.brk σ, S) := id rfl
@[simp] theorem at_dCt : dCt σ S = some (.ct σ, S) := id rfl
@[simp] theorem at_dDrop : dDrop a σ S = bnd (a σ S) fun _ S1 => some (.nx σ, S1) := id rfl
@[simp] theorem at_dRet : dRet a σ S = bnd (a σ S) fun d S1 => some (.ret d, S1) := id rfl
@[simp] theorem at_dRetN : dRetN σ S = some (.ret (.p .non), S) := id rfl
@[simp] theorem at_dIf : dIf t s1 s2 σ S = bnd (t σ S) fun t S1 => if t = true then s1 σ S1 else s2 σ S1 := id rfl
@[simp] theorem at_dSet (i : Nat) : dSet i a σ S = bnd (a σ S) fun d S1 => some (.nx (σ.set i (some d)), S1) := id rfl
@[simp] theorem at_dTup : dTup r σ S = bnd (r σ S) fun ds S1 => newT ds S1 := id rfl
@[simp] theorem at_dLst (live : Bool) : dLst live r σ S = bnd (r σ S) fun ds S1 => newL live ds S1 := id rfl
@[simp] theorem at_dYes : dYes σ S = some (true, S) := id rfl
@[simp] theorem at_dTru : dTru a σ S = bnd (a σ S) truD := id rfl
@[simp] theorem at_dChain : dChain f g a b c σ S = bnd (a σ S) fun x S1 => bnd (b σ S1) fun y S2 => bnd (f x y S2) fun z S3 => bnd (toB z S3) fun t S4 => if t = true then bnd (c σ S4) fun w S5 => g y w S5 else some (.p (.bl false), S4) := id rfl
@[simp] theorem at_dMeth (k : Nat) (nm : Str) : dMeth k nm m a r σ S = bnd (a σ S) fun d S1 => match fldsOf d S1 with
  | some (c', fs) => if c' = k ∧ fs.lookup nm = none then bnd (r σ S1) fun xs S2 => m (d :: xs) S2 else none
  | none => none := id rfl
@[simp] theorem at_dBM (T : String) : dBM T m a r σ S = bnd (a σ S) fun d S1 => if isTy T d S1 = true then bnd (r σ S1) fun ds S2 => m (d :: ds) S2 else none := id rfl
@[simp] theorem at_gNm (i : Nat) (d : D) : gNm i d σ S = some (σ.set i (some d), S) := id rfl
@[simp] theorem at_dAsg {gg : MG} : dAsg a gg σ S = bnd (a σ S) fun d S1 => bnd (gg d σ S1) fun σ2 S2 => some (.nx σ2, S2) := id rfl
@[simp] theorem at_gSb (d : D) : gSb a b d σ S = bnd (a σ S) fun x S1 => bnd (b σ S1) fun y S2 => match setIx x y d S2 with | some S3 => some (σ, S3) | none => none := id rfl
@[simp] theorem at_gNl : gNl [] σ S = some (σ, S) := id rfl
@[simp] theorem at_gCn {g1 : MG} {g2 : MGs} (d : D) (ds : List D) : gCn g1 g2 (d :: ds) σ S = bnd (g1 d σ S) fun σ1 S1 => g2 ds σ1 S1 := id rfl
@[simp] theorem at_gTp (n : Nat) {g2 : MGs} (ps : List P) : gTp n g2 (.p (.tup ps)) σ S = if ps.length = n then g2 (ps.map .p) σ S else none := id rfl
@[simp] theorem at_dFor (ws : List Nat) {mi : MI} {gg : MG} : dFor ws mi gg s1 σ S = bnd (mi σ S) fun src S1 => forL ws src.fin gg s1 src.items (wipeD ws σ) S1 := id rfl
@[simp] theorem at_dComp (live : Bool) {mi : MI} {gg : MG} (vs : List Nat) : dComp live mi gg t a vs σ S = bnd (mi σ S) fun src S1 => bnd (compL src.fin gg t a (wipeD vs σ) src.items [] S1) fun ds S2 => newL live ds S2 := id rfl
@[simp] theorem at_dIt : dIt a σ S = bnd (a σ S) srcOf := id rfl
@[simp] theorem at_dRng1 : dRng1 r σ S = bnd (r σ S) rng1 := id rfl
@[simp] theorem at_dRng2 : dRng2 r σ S = bnd (r σ S) rng2 := id rfl
@[simp] theorem at_fn (k n : Nat) (ds : List D) : dFn k n s1 ds S = if ds.length = k then frameF S (s1 (startD n ds) ⟨S.os.length, S.os⟩) else none := id rfl
@[simp] theorem at_fnL (k n : Nat) (ds : List D) : dFnL k n s1 ds S = if ds.length = k then liveF (s1 (startD n ds) S) else none := id rfl
theorem fn_at {k n : Nat} {ds : List D} (h : ds.length = k) : dFn k n s1 ds S = frameF S (s1 (startD n ds) ⟨S.os.length, S.os⟩) := if_pos h
theorem fnL_at {k n : Nat} {ds : List D} (h : ds.length = k) : dFnL k n s1 ds S = liveF (s1 (startD n ds) S) := if_pos h
@[simp] theorem live_ret (d : D) : liveF (some (.ret d, S)) = some (d, S) := id rfl
@[simp] theorem live_nx (σ : En) : liveF (some (.nx σ, S)) = some (.p .non, S) := id rfl
@[simp] theorem frame_p (x : P) (S1 : SH) : frameF S (some (.ret (.p x), S1)) = some (.p x, cutS S S1) := id rfl
@[simp] theorem frame_nx (σ : En) (S1 : SH) : frameF S (some (.nx σ, S1)) = some (.p .non, cutS S S1) := id rfl
@[simp] theorem cut_self (k : Nat) : cutS S ⟨k, S.os⟩ = S := by
  unfold cutS SH.len
  rw [List.take_length]
@[simp] theorem cut_app (k : Nat) (l : List Ob) : cutS S ⟨k, S.os ++ l⟩ = S := by
  unfold cutS SH.len
  simp
/-- a new list comes back as data -/
theorem frame_ref {n : Nat} {S1 : SH} {ps : List P} (hn : S.os.length ≤ n) (e : S1.os[n]? = some (.lst (ps.map D.p))) : frameF S (some (.ret (.ref n), S1)) = some (.p (.lst ps), cutS S S1) := by
  have h : ∀ (k : Nat), (ps.map D.p).mapM (toP k S.len S1) = some ps := fun k => by
    induction ps with
    | nil => rfl
    | cons p ps ih =>
      have q : (ps.map D.p).mapM (toP k S.len S1) = some ps := by
        clear e ih
        induction ps with
        | nil => rfl
        | cons p ps ih => rw [List.map_cons, List.mapM_cons, ih]; cases k <;> rfl
      rw [List.map_cons, List.mapM_cons, q]; cases k <;> rfl
  have h2 : outD S.len S1 (.ref n) = some (.p (.lst ps)) := by
    unfold outD
    dsimp only
    rw [if_neg (by unfold SH.len; omega)]
    unfold toP
    rw [if_neg (by unfold SH.len; omega), e]
    dsimp only
    rw [h]
    rfl
  show (match outD S.len S1 (.ref n) with | some d' => some (d', cutS S S1) | none => none) = _
  rw [h2]
@[simp] theorem newT_p (ps : List P) (h : ps.length ≤ sizeLine) : newT (ps.map D.p) S = some (.p (.tup ps), S) := by
  unfold newT
  rw [toPs_map]
  exact if_pos h
theorem newL_f (ps : List P) (h : ps.length ≤ sizeLine) : newL false (ps.map D.p) S = some (.p (.lst ps), S) := by
  unfold newL
  rw [List.length_map, if_pos h, if_neg Bool.false_ne_true, toPs_map]
theorem newL_t (ds : List D) (h : ds.length ≤ sizeLine) : newL true ds S = some (.ref S.os.length, ⟨S.b, S.os ++ [.lst ds]⟩) := by
  unfold newL
  rw [if_pos h, if_pos rfl]
end
theorem line_ge : 1000000 ≤ sizeLine := by unfold sizeLine; decide
/-! loops and comprehensions -/
section
variable {body : MS} {t : MT} {elt : ME} {ws : List Nat} {fin : SH → Bool} {g : MG}
/-- a loop whose turns all go on -/
theorem forL_all (st : Nat → En) (Ss : Nat → SH) : ∀ (items : List (SH → Option D)) (k : Nat), fin (Ss (k + items.length)) = true →
    (∀ i it, items[i]? = some it → ∃ d σ1 S1, it (Ss (k + i)) = some d ∧ g d (st (k + i)) (Ss (k + i)) = some (σ1, S1) ∧ ∃ σ2, (body σ1 S1 = some (.nx σ2, Ss (k + i + 1)) ∨ body σ1 S1 = some (.ct σ2, Ss (k + i + 1))) ∧ wipeD ws σ2 = st (k + i + 1)) →
    forL ws fin g body items (st k) (Ss k) = some (.nx (st (k + items.length)), Ss (k + items.length))
  | [], k, hf, _ => by
    have hf' : fin (Ss k) = true := hf
    rw [forL, if_pos hf']; rfl
  | it :: items, k, hf, h => by
    obtain ⟨d, σ1, S1, h1, h2, σ2, h3, h4⟩ := h 0 it rfl
    rw [Nat.add_zero] at h1 h2 h3 h4
    have e : k + (it :: items).length = (k + 1) + items.length := by rw [List.length_cons]; omega
    have ih := forL_all st Ss items (k + 1) (by rw [← e]; exact hf) fun i it' hi => by
      have q := h (i + 1) it' (by simpa using hi)
      have e2 : k + (i + 1) = k + 1 + i := by omega
      rw [e2] at q
      exact q
    rw [forL, h1]
    dsimp only
    rw [h2, bnd_some]
    rw [e]
    rcases h3 with h3 | h3
    · rw [h3, bnd_some]; dsimp only; rw [h4]; exact ih
    · rw [h3, bnd_some]; dsimp only; rw [h4]; exact ih
/-- .. over a range -/
theorem for_rng {j : Nat} (st : Nat → En) (Ss : Nat → SH) (lo : Int) (n : Nat)
    (h : ∀ i, i < n → ∃ σ2, (body ((st i).set j (some (.p (.int (lo + (i : Int)))))) (Ss i) = some (.nx σ2, Ss (i + 1)) ∨ body ((st i).set j (some (.p (.int (lo + (i : Int)))))) (Ss i) = some (.ct σ2, Ss (i + 1))) ∧ wipeD ws σ2 = st (i + 1)) :
    forL ws (srcN lo n).fin (gNm j) body (srcN lo n).items (st 0) (Ss 0) = some (.nx (st n), Ss n) := by
  have hl : (srcN lo n).items.length = n := by simp [srcN]
  have q := forL_all (body := body) (ws := ws) (g := gNm j) (fin := (srcN lo n).fin) st Ss (srcN lo n).items 0 rfl fun i it hi => by
    simp only [srcN, List.getElem?_map] at hi
    cases e : (List.range n)[i]? with
    | none => rw [e] at hi; cases hi
    | some i' =>
      rw [e] at hi
      cases hi
      obtain ⟨h1, h2⟩ := List.getElem?_eq_some_iff.mp e
      rw [List.getElem_range] at h2
      subst h2
      rw [List.length_range] at h1
      rw [Nat.zero_add]
      obtain ⟨σ2, a, b⟩ := h i h1
      exact ⟨_, _, _, rfl, rfl, σ2, a, b⟩
  rw [hl, Nat.zero_add] at q
  exact q
/-- .. over data -/
theorem for_p {j : Nat} (st : Nat → En) (Ss : Nat → SH) (ps : List P)
    (h : ∀ i p, ps[i]? = some p → ∃ σ2, (body ((st i).set j (some (.p p))) (Ss i) = some (.nx σ2, Ss (i + 1)) ∨ body ((st i).set j (some (.p p))) (Ss i) = some (.ct σ2, Ss (i + 1))) ∧ wipeD ws σ2 = st (i + 1)) :
    forL ws (srcP ps).fin (gNm j) body (srcP ps).items (st 0) (Ss 0) = some (.nx (st ps.length), Ss ps.length) := by
  have hl : (srcP ps).items.length = ps.length := by simp [srcP]
  have q := forL_all (body := body) (ws := ws) (g := gNm j) (fin := (srcP ps).fin) st Ss (srcP ps).items 0 rfl fun i it hi => by
    simp only [srcP, List.getElem?_map] at hi
    cases e : ps[i]? with
    | none => rw [e] at hi; cases hi
    | some p =>
      rw [e] at hi
      cases hi
      rw [Nat.zero_add]
      obtain ⟨σ2, a, b⟩ := h i p e
      exact ⟨_, _, _, rfl, rfl, σ2, a, b⟩
  rw [hl, Nat.zero_add] at q
  exact q
/-- a loop by an invariant -/
theorem forL_inv (J : Nat → En → SH → Prop) : ∀ (items : List (SH → Option D)) (k : Nat) (σ : En) (S : SH), J k σ S → (∀ σ S, J (k + items.length) σ S → fin S = true) →
    (∀ i it σ S, items[i]? = some it → J (k + i) σ S → ∃ d σ1 S1, it S = some d ∧ g d σ S = some (σ1, S1) ∧ ∃ σ2 S2, (body σ1 S1 = some (.nx σ2, S2) ∨ body σ1 S1 = some (.ct σ2, S2)) ∧ J (k + i + 1) (wipeD ws σ2) S2) →
    ∃ σ' S', forL ws fin g body items σ S = some (.nx σ', S') ∧ J (k + items.length) σ' S'
  | [], k, σ, S, hj, hf, _ => ⟨σ, S, by rw [forL, if_pos (hf σ S hj)], hj⟩
  | it :: items, k, σ, S, hj, hf, h => by
    obtain ⟨d, σ1, S1, h1, h2, σ2, S2, h3, h4⟩ := h 0 it σ S rfl hj
    have e : k + (it :: items).length = (k + 1) + items.length := by rw [List.length_cons]; omega
    rw [e] at hf ⊢
    obtain ⟨σ', S', r1, r2⟩ := forL_inv J items (k + 1) _ S2 h4 hf fun i it' σ S hi hj => by
      have e2 : k + 1 + i = k + (i + 1) := by omega
      rw [e2] at hj ⊢
      exact h (i + 1) it' σ S (by simpa using hi) hj
    refine ⟨σ', S', ?_, r2⟩
    rw [forL, h1]
    dsimp only
    rw [h2, bnd_some]
    rcases h3 with h3 | h3 <;> (rw [h3, bnd_some]; exact r1)
theorem rng_inv {j : Nat} (J : Nat → En → SH → Prop) (lo : Int) (n : Nat) {σ : En} {S : SH} (h0 : J 0 σ S)
    (h : ∀ i σ S, i < n → J i σ S → ∃ σ2 S2, (body (σ.set j (some (.p (.int (lo + (i : Int)))))) S = some (.nx σ2, S2) ∨ body (σ.set j (some (.p (.int (lo + (i : Int)))))) S = some (.ct σ2, S2)) ∧ J (i + 1) (wipeD ws σ2) S2) :
    ∃ σ' S', forL ws (srcN lo n).fin (gNm j) body (srcN lo n).items σ S = some (.nx σ', S') ∧ J n σ' S' := by
  have hl : (srcN lo n).items.length = n := by simp [srcN]
  have q := forL_inv (body := body) (ws := ws) (g := gNm j) (fin := (srcN lo n).fin) J (srcN lo n).items 0 σ S h0 (fun _ _ _ => rfl) fun i it σ S hi hj => by
    simp only [srcN, List.getElem?_map] at hi
    cases e : (List.range n)[i]? with
    | none => rw [e] at hi; cases hi
    | some i' =>
      rw [e] at hi
      cases hi
      obtain ⟨h1, h2⟩ := List.getElem?_eq_some_iff.mp e
      rw [List.getElem_range] at h2
      subst h2
      rw [List.length_range] at h1
      rw [Nat.zero_add] at hj ⊢
      obtain ⟨σ2, S2, a, b⟩ := h i σ S h1 hj
      exact ⟨_, _, _, rfl, rfl, σ2, S2, a, b⟩
  rw [hl, Nat.zero_add] at q
  exact q
theorem rng0_inv {j : Nat} (J : Nat → En → SH → Prop) (n : Nat) {σ : En} {S : SH} (h0 : J 0 σ S)
    (h : ∀ i σ S, i < n → J i σ S → ∃ σ2 S2, (body (σ.set j (some (.p (.int (i : Int))))) S = some (.nx σ2, S2) ∨ body (σ.set j (some (.p (.int (i : Int))))) S = some (.ct σ2, S2)) ∧ J (i + 1) (wipeD ws σ2) S2) :
    ∃ σ' S', forL ws (srcN 0 n).fin (gNm j) body (srcN 0 n).items σ S = some (.nx σ', S') ∧ J n σ' S' :=
  rng_inv J 0 n h0 fun i σ S hi hj => by
    rw [Int.zero_add]
    exact h i σ S hi hj
theorem p_inv {j : Nat} (J : Nat → En → SH → Prop) (ps : List P) {σ : En} {S : SH} (h0 : J 0 σ S)
    (h : ∀ i p σ S, ps[i]? = some p → J i σ S → ∃ σ2 S2, (body (σ.set j (some (.p p))) S = some (.nx σ2, S2) ∨ body (σ.set j (some (.p p))) S = some (.ct σ2, S2)) ∧ J (i + 1) (wipeD ws σ2) S2) :
    ∃ σ' S', forL ws (srcP ps).fin (gNm j) body (srcP ps).items σ S = some (.nx σ', S') ∧ J ps.length σ' S' := by
  have hl : (srcP ps).items.length = ps.length := by simp [srcP]
  have q := forL_inv (body := body) (ws := ws) (g := gNm j) (fin := (srcP ps).fin) J (srcP ps).items 0 σ S h0 (fun _ _ _ => rfl) fun i it σ S hi hj => by
    simp only [srcP, List.getElem?_map] at hi
    cases e : ps[i]? with
    | none => rw [e] at hi; cases hi
    | some p =>
      rw [e] at hi
      cases hi
      rw [Nat.zero_add] at hj ⊢
      obtain ⟨σ2, S2, a, b⟩ := h i p σ S e hj
      exact ⟨_, _, _, rfl, rfl, σ2, S2, a, b⟩
  rw [hl, Nat.zero_add] at q
  exact q
theorem put_last (b : Nat) (os : List Ob) (x y : Ob) : SH.put ⟨b, os ++ [x]⟩ os.length y = ⟨b, os ++ [y]⟩ := by
  unfold SH.put
  simp
theorem at_last (b : Nat) (os : List Ob) (x : Ob) : (SH.mk b (os ++ [x])).os[os.length]? = some x := by simp
/-- a comprehension whose element changes nothing: its items as a filter and a map -/
theorem comp_all {S : SH} {σ : En} {α : Type} (fs : α → Bool) (fv : α → D) (it : α → SH → Option D) (hf : fin S = true) : ∀ (xs : List α) (acc : List D), acc.length + xs.length ≤ sizeLine →
    (∀ x ∈ xs, ∃ d σ1, it x S = some d ∧ g d σ S = some (σ1, S) ∧ t σ1 S = some (fs x, S) ∧ (fs x = true → elt σ1 S = some (fv x, S))) →
    compL fin g t elt σ (xs.map it) acc S = some (acc ++ (xs.filter fs).map fv, S)
  | [], acc, _, _ => by
    rw [List.map_nil, compL, if_pos hf]; simp
  | x :: xs, acc, hl, h => by
    obtain ⟨d, σ1, h1, h2, h3, h4⟩ := h x (by simp)
    rw [List.length_cons] at hl
    rw [List.map_cons, compL, h1]
    dsimp only
    rw [h2, bnd_some, h3, bnd_some]
    have ih := fun acc' (q : acc'.length + xs.length ≤ sizeLine) => comp_all (S := S) (σ := σ) fs fv it hf xs acc' q fun y hy => h y (by simp [hy])
    by_cases c : fs x = true
    · rw [if_pos c, if_pos (by omega), h4 c, bnd_some, ih _ (by rw [List.length_append, List.length_singleton]; omega), List.filter_cons_of_pos c, List.map_cons, List.append_assoc]; rfl
    · rw [if_neg c, ih _ (by omega), List.filter_cons_of_neg c]
end
end Pv
/-! what the built-ins give on data -/
namespace Pv
open PySem PySem.Spec PyProof.Rows L2
section
variable {S : SH} {ps qs : List P} {ds : List D}
theorem mulOk_r {i j : Int} (h : j.natAbs < 2 ^ 64) : mulOk i j = true := by
  unfold mulOk
  simp [h]
theorem mulOk_l {i j : Int} (h : i.natAbs < 2 ^ 64) : mulOk i j = true := by
  unfold mulOk
  simp [h]
theorem divOk_c {i j : Int} (h : 0 < j) (h2 : j < 2 ^ 64) : divOk i j = true := by
  unfold divOk
  have a : j.natAbs ≠ 0 := by omega
  have b : j.natAbs.log2 < 64 := (Nat.log2_lt a).mpr (by omega)
  simp only [Bool.and_eq_true, decide_eq_true_eq]
  omega
@[simp] theorem asL_l : asL (.p (.lst ps)) S = some (ps.map .p) := id rfl
@[simp] theorem asQ_l : asQ (.p (.lst ps)) S = some (ps.map .p) := id rfl
@[simp] theorem asQ_t : asQ (.p (.tup ps)) S = some (ps.map .p) := id rfl
@[simp] theorem fLen_l : fLen [.p (.lst ps)] S = some (.p (.int ps.length), S) := by simp [fLen]
@[simp] theorem fLen_t : fLen [.p (.tup ps)] S = some (.p (.int ps.length), S) := by simp [fLen]
@[simp] theorem fTuple_t : fTuple [.p (.tup ps)] S = some (.p (.tup ps), S) := id rfl
theorem fTuple_l (h : ps.length ≤ sizeLine) : fTuple [.p (.lst ps)] S = some (.p (.tup ps), S) := by
  show newT (ps.map D.p) S = _
  rw [newT_p ps h]
theorem fList_l (h : ps.length ≤ sizeLine) : fList false [.p (.lst ps)] S = some (.p (.lst ps), S) := by
  show newL false (ps.map D.p) S = _
  rw [newL_f ps h]
@[simp] theorem fInt_i (i : Int) : fInt [.p (.int i)] S = some (.p (.int i), S) := id rfl
@[simp] theorem fMin_i (i j : Int) : fMin [.p (.int i), .p (.int j)] S = some (.p (.int (if j < i then j else i)), S) := id rfl
@[simp] theorem fMax_i (i j : Int) : fMax [.p (.int i), .p (.int j)] S = some (.p (.int (if j > i then j else i)), S) := id rfl
@[simp] theorem fAdd_i (l : Bool) (i j : Int) : fAdd l (.p (.int i)) (.p (.int j)) S = some (.p (.int (i + j)), S) := id rfl
@[simp] theorem fNeg_i (i : Int) : fNeg (.p (.int i)) S = some (.p (.int (-i)), S) := id rfl
@[simp] theorem fSum_l (ns : List Int) : fSum [.p (.lst (intsP ns))] S = some (.p (.int ns.sum), S) := by
  have h : ∀ l : List Int, intsOf ((intsP l).map D.p) = some l := by
    intro l
    induction l with
    | nil => rfl
    | cons a l ih =>
      show (intsOf (D.p (.int a) :: (intsP l).map D.p)) = _
      simp [intsOf, ih]
  unfold fSum
  simp [h]
theorem atI_nat {α : Type} {l : List α} {n : Nat} {x : α} (h : l[n]? = some x) : atI l (n : Int) = some x := by
  obtain ⟨h1, h2⟩ := List.getElem?_eq_some_iff.mp h
  unfold atI
  have e : ixN l.length (n : Int) = some n := by
    unfold ixN
    simp
    omega
  rw [e]
  exact h
theorem fIx_l {n : Nat} {x : P} (h : ps[n]? = some x) : fIx (.p (.lst ps)) (.p (.int (n : Int))) S = some (.p x, S) := by
  have q := atI_nat (l := ps.map D.p) (n := n) (x := D.p x) (by rw [List.getElem?_map, h]; rfl)
  show (match asQ (.p (.lst ps)) S with
    | some xs => (match atI xs (n : Int) with | some x => some (x, S) | none => none)
    | none => none) = _
  simp only [asQ_l, q]
theorem fIx_t {n : Nat} {x : P} (h : ps[n]? = some x) : fIx (.p (.tup ps)) (.p (.int (n : Int))) S = some (.p x, S) := by
  have q := atI_nat (l := ps.map D.p) (n := n) (x := D.p x) (by rw [List.getElem?_map, h]; rfl)
  show (match asQ (.p (.tup ps)) S with
    | some xs => (match atI xs (n : Int) with | some x => some (x, S) | none => none)
    | none => none) = _
  simp only [asQ_t, q]
/-- by a plain int -/
theorem fIx_li {i : Int} {x : P} (h0 : 0 ≤ i) (h : ps[i.toNat]? = some x) : fIx (.p (.lst ps)) (.p (.int i)) S = some (.p x, S) := by
  have e : i = (i.toNat : Int) := by omega
  rw [e]
  exact fIx_l h
theorem fIx_ti {i : Int} {x : P} (h0 : 0 ≤ i) (h : ps[i.toNat]? = some x) : fIx (.p (.tup ps)) (.p (.int i)) S = some (.p x, S) := by
  have e : i = (i.toNat : Int) := by omega
  rw [e]
  exact fIx_t h
theorem fIx_ri {m : Nat} {i : Int} {d : D} (hm : S.os[m]? = some (.lst ds)) (h0 : 0 ≤ i) (h : ds[i.toNat]? = some d) : fIx (.ref m) (.p (.int i)) S = some (d, S) := by
  have e : i = (i.toNat : Int) := by omega
  have q := atI_nat (l := ds) h
  rw [← e] at q
  show (match asQ (.ref m) S with
    | some xs => (match atI xs i with | some x => some (x, S) | none => none)
    | none => none) = _
  have e2 : asQ (.ref m) S = some ds := by unfold asQ; dsimp only; rw [hm]
  simp only [e2, q]
theorem fApp_p {n : Nat} {x : P} (h : S.os[n]? = some (.lst ds)) (hl : ds.length < sizeLine) : fApp [.ref n, .p x] S = some (.p .non, S.put n (.lst (ds ++ [.p x]))) := by
  unfold fApp
  dsimp only
  rw [h]
  dsimp only
  rw [if_pos ⟨hl, rfl⟩]
theorem isTy_ref {n : Nat} (h : S.os[n]? = some (.lst ds)) : isTy "list" (.ref n) S = true := by
  unfold isTy
  dsimp only
  rw [h]
  rfl
theorem intsP_len (ns : List Int) : (intsP ns).length = ns.length := List.length_map _
theorem intsP_at {ns : List Int} {n : Nat} {i : Int} (h : ns[n]? = some i) : (intsP ns)[n]? = some (.int i) := by
  unfold intsP
  rw [List.getElem?_map, h]
  rfl
theorem srt_rng (n : Nat) (h : (n : Int) < 2 ^ 62) : rng1 [.p (.int n)] S = some (srcN 0 n, S) := by
  unfold rng1
  dsimp only
  rw [if_pos ⟨by omega, h⟩]
  rfl

/-- a field of the newest object is set -/
theorem setF_last {cs : List Nat} {c b : Nat} {os : List Ob} {f : Str} {v : P} {fs : List (Str × D)} (hc : cs.contains c = true) (hl : fs.length < 1000) : setFld cs f (.ref os.length) (.p v) ⟨b, os ++ [.ins c fs]⟩ = some ⟨b, os ++ [.ins c (putFD f (.p v) fs)]⟩ := by
  unfold setFld
  dsimp only
  rw [at_last b]
  dsimp only
  rw [if_pos ⟨hc, hl, rfl⟩, put_last]
theorem mapM_flds {k : Nat} {b : Nat} {S1 : SH} : ∀ (gs : List (Str × P)), (gs.map fun p => (p.1, D.p p.2)).mapM (fun p => (toP k b S1 p.2).map fun x => (p.1, x)) = some gs
  | [] => rfl
  | (f, x) :: gs => by
    rw [List.map_cons, List.mapM_cons, mapM_flds gs]
    cases k <;> rfl
/-- a new object of data comes back as data -/
theorem out_ins {k c n : Nat} {S1 : SH} {gs : List (Str × P)} (hn : k ≤ n) (e : S1.os[n]? = some (.ins c (gs.map fun p => (p.1, D.p p.2)))) : outD k S1 (.ref n) = some (.p (.ins c gs)) := by
  unfold outD
  dsimp only
  rw [if_neg (by omega)]
  unfold toP
  rw [if_neg (by omega), e]
  dsimp only
  rw [mapM_flds]
  rfl
theorem at_dSetF {cs : List Nat} {f : Str} {o v : ME} {σ : En} : dSetF cs f o v σ S = bnd (v σ S) fun y S1 => bnd (o σ S1) fun x S2 => match setFld cs f x y S2 with | some S3 => some (.nx σ, S3) | none => none := id rfl
@[simp] theorem fldsOf_p (c : Nat) (gs : List (Str × P)) : fldsOf (.p (.ins c gs)) S = some (c, gs.map fun p => (p.1, .p p.2)) := id rfl
theorem at_dMakeF {c : Nat} {init : MF} {a : MA} {σ : En} : dMake false c init a σ S = bnd (a σ S) fun xs S1 => bnd (init (.ref S1.os.length :: xs) ⟨S1.os.length, S1.os ++ [.ins c []]⟩) fun d S2 => match d with
    | .p .non => match outD S1.os.length S2 (.ref S1.os.length) with | some d' => some (d', cutS S1 S2) | none => none
    | _ => none := by
  unfold dMake
  rfl
theorem itP (ps : List P) {p : P} (h : p = .lst ps ∨ p = .tup ps) : srcOf (.p p) S = some (srcP ps, S) := by
  rcases h with rfl | rfl <;> rfl
/-- a comprehension over data -/
theorem comp_p {j : Nat} {t : MT} {elt : ME} {σ : En} (fs : P → Bool) (fv : P → D) (ps : List P) (hl : ps.length ≤ sizeLine)
    (h : ∀ p ∈ ps, t (σ.set j (some (.p p))) S = some (fs p, S) ∧ (fs p = true → elt (σ.set j (some (.p p))) S = some (fv p, S))) :
    compL (srcP ps).fin (gNm j) t elt σ (srcP ps).items [] S = some ((ps.filter fs).map fv, S) := by
  have q := comp_all (t := t) (elt := elt) (g := gNm j) (fin := (srcP ps).fin) (S := S) (σ := σ) fs fv (fun p _ => some (D.p p)) rfl ps [] (by simpa using hl) fun p hp => ⟨_, _, rfl, rfl, h p hp⟩
  rw [List.nil_append] at q
  exact q
/-- .. over a range from 0 -/
theorem comp_rng {j : Nat} {t : MT} {elt : ME} {σ : En} (fs : Nat → Bool) (fv : Nat → D) (n : Nat) (hl : n ≤ sizeLine)
    (h : ∀ i, i < n → t (σ.set j (some (.p (.int (i : Int))))) S = some (fs i, S) ∧ (fs i = true → elt (σ.set j (some (.p (.int (i : Int))))) S = some (fv i, S))) :
    compL (srcN 0 n).fin (gNm j) t elt σ (srcN 0 n).items [] S = some (((List.range n).filter fs).map fv, S) := by
  have q := comp_all (t := t) (elt := elt) (g := gNm j) (fin := (srcN 0 n).fin) (S := S) (σ := σ) fs fv (fun (i : Nat) _ => some (.p (.int (0 + (i : Int))))) rfl (List.range n) [] (by simpa using hl) fun i hi => ⟨_, _, rfl, rfl, by
    rw [Int.zero_add]
    exact h i (List.mem_range.mp hi)⟩
  rw [List.nil_append] at q
  exact q
end
end Pv
namespace Pv
open PySem PySem.Spec PyProof.Rows L2
section
variable {S : SH} {ps qs : List P} {ds : List D}
theorem setIx_ri {m : Nat} {i : Int} {v : P} (hm : S.os[m]? = some (.lst ds)) (h0 : 0 ≤ i) (h : i.toNat < ds.length) : setIx (.ref m) (.p (.int i)) (.p v) S = some (S.put m (.lst (ds.set i.toNat (.p v)))) := by
  have e : ixN ds.length i = some i.toNat := by
    unfold ixN
    rw [if_pos h0, if_pos (by omega)]
  unfold setIx
  dsimp only
  rw [hm]
  dsimp only
  rw [e]
  dsimp only
  rw [if_pos (okRef_p S m v)]
theorem sl_hi {live : Bool} {a m : ME} {σ : En} {d : D} {i : Int} (ha : a σ S = some (d, S)) (hm : m σ S = some (.p (.int i), S)) : dSl live a none (some m) σ S = fSl live d none (some i) S := by
  unfold dSl
  rw [ha, bnd_some, bnd_some]
  dsimp only
  rw [hm, bnd_some, bnd_some]
theorem two_0 (b : Nat) (os : List Ob) (x y : Ob) : (SH.mk b (os ++ [x, y])).os[os.length]? = some x := by simp
theorem two_1 (b : Nat) (os : List Ob) (x y : Ob) : (SH.mk b (os ++ [x, y])).os[os.length + 1]? = some y := by simp
theorem put_0 (b : Nat) (os : List Ob) (x y z : Ob) : SH.put ⟨b, os ++ [x, y]⟩ os.length z = ⟨b, os ++ [z, y]⟩ := by
  unfold SH.put
  simp
theorem put_1 (b : Nat) (os : List Ob) (x y z : Ob) : SH.put ⟨b, os ++ [x, y]⟩ (os.length + 1) z = ⟨b, os ++ [x, z]⟩ := by
  unfold SH.put
  simp
end
end Pv
/-! loops over lists that may change; loops that end early -/
namespace Pv
open PySem PySem.Spec PyProof.Rows L2
section
variable {body : MS} {ws : List Nat}
theorem item_r {n i : Nat} {ds : List D} {d : D} {S : SH} (h : S.os[n]? = some (.lst ds)) (hd : ds[i]? = some d) : itemR n ds.length i S = some d := by
  unfold itemR
  rw [h]
  dsimp only
  rw [if_pos rfl, hd]
theorem fin_r {n : Nat} {ds : List D} {S : SH} (h : S.os[n]? = some (.lst ds)) : (srcR n ds.length).fin S = true := by
  show finR n ds.length S = true
  unfold finR
  rw [h]
  dsimp only
  rw [decide_eq_true rfl]
theorem r_inv {g : MG} (J : Nat → En → SH → Prop) (n : Nat) (ds : List D) {σ : En} {S : SH} (h0 : J 0 σ S) (hk : ∀ i σ S, J i σ S → S.os[n]? = some (.lst ds))
    (h : ∀ i d σ S, ds[i]? = some d → J i σ S → ∃ σ1, g d σ S = some (σ1, S) ∧ ∃ σ2 S2, (body σ1 S = some (.nx σ2, S2) ∨ body σ1 S = some (.ct σ2, S2)) ∧ J (i + 1) (wipeD ws σ2) S2) :
    ∃ σ' S', forL ws (srcR n ds.length).fin g body (srcR n ds.length).items σ S = some (.nx σ', S') ∧ J ds.length σ' S' := by
  have hl : (srcR n ds.length).items.length = ds.length := by simp [srcR]
  have q := forL_inv (body := body) (ws := ws) (g := g) (fin := (srcR n ds.length).fin) J (srcR n ds.length).items 0 σ S h0 (fun σ S hj => fin_r (hk _ σ S hj)) fun i it σ S hi hj => by
    simp only [srcR, List.getElem?_map] at hi
    cases e : (List.range ds.length)[i]? with
    | none => rw [e] at hi; cases hi
    | some i' =>
      rw [e] at hi
      cases hi
      obtain ⟨h1, h2⟩ := List.getElem?_eq_some_iff.mp e
      rw [List.getElem_range] at h2
      subst h2
      rw [List.length_range] at h1
      rw [Nat.zero_add] at hj ⊢
      have hd : ds[i]? = some ds[i] := List.getElem?_eq_getElem h1
      obtain ⟨σ1, a0, σ2, S2, a, b⟩ := h i ds[i] σ S hd hj
      exact ⟨_, σ1, S, item_r (hk _ _ _ hj) hd, a0, σ2, S2, a, b⟩
  rw [hl, Nat.zero_add] at q
  exact q
end
theorem p_invg {body : MS} {ws : List Nat} {g : MG} (J : Nat → En → SH → Prop) (ps : List P) {σ : En} {S : SH} (h0 : J 0 σ S)
    (h : ∀ i p σ S, ps[i]? = some p → J i σ S → ∃ σ1, g (.p p) σ S = some (σ1, S) ∧ ∃ σ2 S2, (body σ1 S = some (.nx σ2, S2) ∨ body σ1 S = some (.ct σ2, S2)) ∧ J (i + 1) (wipeD ws σ2) S2) :
    ∃ σ' S', forL ws (srcP ps).fin g body (srcP ps).items σ S = some (.nx σ', S') ∧ J ps.length σ' S' := by
  have hl : (srcP ps).items.length = ps.length := by simp [srcP]
  have q := forL_inv (body := body) (ws := ws) (g := g) (fin := (srcP ps).fin) J (srcP ps).items 0 σ S h0 (fun _ _ _ => rfl) fun i it σ S hi hj => by
    simp only [srcP, List.getElem?_map] at hi
    cases e : ps[i]? with
    | none => rw [e] at hi; cases hi
    | some p =>
      rw [e] at hi
      cases hi
      rw [Nat.zero_add] at hj ⊢
      obtain ⟨σ1, a0, σ2, S2, a, b⟩ := h i p σ S e hj
      exact ⟨_, σ1, S, rfl, a0, σ2, S2, a, b⟩
  rw [hl, Nat.zero_add] at q
  exact q
section
variable {body : MS} {ws : List Nat} {fin : SH → Bool} {g : MG}
/-- a loop that checks: it goes on, or it returns r -/
theorem forL_chk {α : Type} {σ : En} {S : SH} {r : D} (it : α → SH → Option D) (ok : α → Bool) (hf : fin S = true) : ∀ (xs : List α),
    (∀ x ∈ xs, ∃ d σ1, it x S = some d ∧ g d σ S = some (σ1, S) ∧ (ok x = true → ∃ σ2, (body σ1 S = some (.nx σ2, S) ∨ body σ1 S = some (.ct σ2, S)) ∧ wipeD ws σ2 = σ) ∧ (ok x = false → body σ1 S = some (.ret r, S))) →
    forL ws fin g body (xs.map it) σ S = if xs.all ok = true then some (.nx σ, S) else some (.ret r, S)
  | [], _ => by rw [List.map_nil, forL, if_pos hf]; rfl
  | x :: xs, h => by
    obtain ⟨d, σ1, h1, h2, h3, h4⟩ := h x List.mem_cons_self
    have ih := forL_chk it ok hf xs fun y hy => h y (List.mem_cons_of_mem _ hy)
    rw [List.map_cons, forL, h1]
    dsimp only
    rw [h2, bnd_some, List.all_cons]
    cases e : ok x with
    | true =>
      obtain ⟨σ2, h5, h6⟩ := h3 e
      rcases h5 with h5 | h5 <;> (rw [h5, bnd_some]; dsimp only; rw [h6, ih]; rfl)
    | false =>
      rw [h4 e, bnd_some]
      rfl
theorem rng_chk {σ : En} {S : SH} {r : D} {j : Nat} (ok : Nat → Bool) (n : Nat) (h : ∀ i, i < n → (ok i = true → ∃ σ2, (body (σ.set j (some (.p (.int (i : Int))))) S = some (.nx σ2, S) ∨ body (σ.set j (some (.p (.int (i : Int))))) S = some (.ct σ2, S)) ∧ wipeD ws σ2 = σ) ∧ (ok i = false → body (σ.set j (some (.p (.int (i : Int))))) S = some (.ret r, S))) :
    forL ws (srcN 0 n).fin (gNm j) body (srcN 0 n).items σ S = if (List.range n).all ok = true then some (.nx σ, S) else some (.ret r, S) :=
  forL_chk (g := gNm j) (fin := (srcN 0 n).fin) (fun (i : Nat) _ => some (.p (.int (0 + (i : Int))))) ok rfl (List.range n) fun i hi => ⟨_, _, rfl, rfl, by
    rw [Int.zero_add]
    exact h i (List.mem_range.mp hi)⟩
theorem p_chk {α : Type} {σ : En} {S : SH} {r : D} {j : Nat} (f : α → P) (ok : α → Bool) (xs : List α) (h : ∀ x ∈ xs, (ok x = true → ∃ σ2, (body (σ.set j (some (.p (f x)))) S = some (.nx σ2, S) ∨ body (σ.set j (some (.p (f x)))) S = some (.ct σ2, S)) ∧ wipeD ws σ2 = σ) ∧ (ok x = false → body (σ.set j (some (.p (f x)))) S = some (.ret r, S))) :
    forL ws (srcP (xs.map f)).fin (gNm j) body (srcP (xs.map f)).items σ S = if xs.all ok = true then some (.nx σ, S) else some (.ret r, S) := by
  have q := forL_chk (body := body) (ws := ws) (g := gNm j) (fin := (srcP (xs.map f)).fin) (σ := σ) (S := S) (r := r) (fun (x : α) _ => some (D.p (f x))) ok rfl xs fun x hx => ⟨_, _, rfl, rfl, h x hx⟩
  have e : (srcP (xs.map f)).items = xs.map fun (x : α) (_ : SH) => some (D.p (f x)) := by simp [srcP]
  rw [← e] at q
  exact q
theorem all_range {α : Type} (xs : List α) (ok : α → Bool) : ((List.range xs.length).all fun i => match xs[i]? with | some x => ok x | none => true) = xs.all ok := by
  rw [Bool.eq_iff_iff]
  simp only [List.all_eq_true, List.mem_range]
  constructor
  · intro h x hx
    obtain ⟨i, hi, rfl⟩ := List.getElem_of_mem hx
    have q := h i hi
    rw [List.getElem?_eq_getElem hi] at q
    exact q
  · intro h i hi
    rw [List.getElem?_eq_getElem hi]
    exact h _ (List.getElem_mem hi)
theorem r_chk {α : Type} {σ : En} {S : SH} {r : D} {j n : Nat} (f : α → D) (ok : α → Bool) (xs : List α) (hn : S.os[n]? = some (.lst (xs.map f))) (h : ∀ x ∈ xs, (ok x = true → ∃ σ2, (body (σ.set j (some (f x))) S = some (.nx σ2, S) ∨ body (σ.set j (some (f x))) S = some (.ct σ2, S)) ∧ wipeD ws σ2 = σ) ∧ (ok x = false → body (σ.set j (some (f x))) S = some (.ret r, S))) :
    forL ws (srcR n xs.length).fin (gNm j) body (srcR n xs.length).items σ S = if xs.all ok = true then some (.nx σ, S) else some (.ret r, S) := by
  have hlen : (xs.map f).length = xs.length := List.length_map _
  have hf : (srcR n xs.length).fin S = true := by
    rw [← hlen]
    exact fin_r hn
  have q := forL_chk (body := body) (ws := ws) (g := gNm j) (fin := (srcR n xs.length).fin) (σ := σ) (S := S) (r := r) (itemR n xs.length) (fun i => match xs[i]? with | some x => ok x | none => true) hf (List.range xs.length) fun i hi => by
    have h1 : i < xs.length := List.mem_range.mp hi
    have hd : xs[i]? = some xs[i] := List.getElem?_eq_getElem h1
    have hd2 : (xs.map f)[i]? = some (f xs[i]) := by rw [List.getElem?_map, hd]; rfl
    have ir := item_r (S := S) hn hd2
    rw [hlen] at ir
    refine ⟨f xs[i], _, ir, rfl, ?_⟩
    rw [hd]
    exact h _ (List.getElem_mem h1)
  rw [all_range] at q
  exact q
/-- a comprehension that changes nothing over a list that may change -/
theorem comp_rf {α : Type} {t : MT} {elt : ME} {σ : En} {S : SH} {j n : Nat} (fd : α → D) (fs : α → Bool) (fv : α → D) (xs : List α) (hl : xs.length ≤ sizeLine) (hn : S.os[n]? = some (.lst (xs.map fd))) (h : ∀ x ∈ xs, t (σ.set j (some (fd x))) S = some (fs x, S) ∧ (fs x = true → elt (σ.set j (some (fd x))) S = some (fv x, S))) :
    compL (srcR n xs.length).fin (gNm j) t elt σ (srcR n xs.length).items [] S = some ((xs.filter fs).map fv, S) := by
  have hlen : (xs.map fd).length = xs.length := List.length_map _
  have hf : (srcR n xs.length).fin S = true := by
    rw [← hlen]
    exact fin_r hn
  let at' : Nat → Option α := fun i => xs[i]?
  have cp := comp_all (t := t) (elt := elt) (g := gNm j) (fin := (srcR n xs.length).fin) (S := S) (σ := σ) (fun i : Nat => match xs[i]? with | some x => fs x | none => false) (fun i : Nat => match xs[i]? with | some x => fv x | none => .p .non) (itemR n xs.length) hf (List.range xs.length) [] (by rw [List.length_nil, Nat.zero_add, List.length_range]; exact hl) (fun i hi => by
    have h1 : i < xs.length := List.mem_range.mp hi
    have hd : xs[i]? = some xs[i] := List.getElem?_eq_getElem h1
    have hd2 : (xs.map fd)[i]? = some (fd xs[i]) := by rw [List.getElem?_map, hd]; rfl
    have ir := item_r (S := S) hn hd2
    rw [hlen] at ir
    refine ⟨fd xs[i], _, ir, rfl, ?_⟩
    rw [hd]
    exact h _ (List.getElem_mem h1))
  have ei : (srcR n xs.length).items = (List.range xs.length).map (itemR n xs.length) := rfl
  rw [← ei, List.nil_append] at cp
  rw [cp]
  congr 2
  have key : ∀ (k : Nat) (ys : List α), (∀ i, i < ys.length → xs[k + i]? = ys[i]?) → ((List.range' k ys.length).filter fun i : Nat => match xs[i]? with | some x => fs x | none => false).map (fun i : Nat => match xs[i]? with | some x => fv x | none => .p .non) = (ys.filter fs).map fv := by
    intro k ys
    induction ys generalizing k with
    | nil => intro _; rfl
    | cons y ys ih =>
      intro hy
      have h0 := hy 0 (by simp)
      rw [Nat.add_zero, List.getElem?_cons_zero] at h0
      have ih' := ih (k + 1) fun i hi => by
        have := hy (i + 1) (by simpa using hi)
        rw [List.getElem?_cons_succ] at this
        rw [← this]
        congr 1
        omega
      rw [List.length_cons, List.range'_succ]
      by_cases c : fs y = true
      · rw [List.filter_cons_of_pos (by rw [h0]; exact c), List.filter_cons_of_pos c, List.map_cons, List.map_cons, ih', h0]
      · rw [List.filter_cons_of_neg (by rw [h0]; exact c), List.filter_cons_of_neg c, ih']
  have := key 0 xs fun i hi => by rw [Nat.zero_add]
  rw [← List.range_eq_range'] at this
  exact this
end
end Pv
namespace Kb
open PySem PySem.Spec PyProof.Rows L2 Pv
def u_SPACES : P := (.int 4)
def m_as_tuple : MF := dFn 1 1
    (dSeq (dIf (dTest (dOp (fIs false) (dVar 0) (dC .non)))
      (dRet (dC .non))
      dNx)
    (dRet (dCall fTuple (dCons (dVar 0) dNil))))
def m_Change_init : MF := dFnL 7 8
    (dSeq (dSetF [0] "author" (dVar 0) (dVar 1))
    (dSeq (dSetF [0] "number" (dVar 0) (dVar 2))
    (dSeq (dSetF [0] "heard" (dVar 0) (dCall fTuple (dCons (dVar 3) dNil)))
    (dSeq (dSetF [0] "capability" (dVar 0) (dVar 4))
    (dSeq (dSetF [0] "publics" (dVar 0) (dCall fTuple (dCons (dVar 5) dNil)))
    (dSetF [0] "parts" (dVar 0) (dCall fTuple (dCons (dComp false (dIt (dVar 6)) (gNm 7) dYes (dCall m_as_tuple (dCons (dVar 7) dNil)) [7]) dNil))))))))
def m_Change_header : MF := dFn 1 1
    (dRet (dTup (dCons (dUn (dFld [0] "author") (dVar 0)) (dCons (dUn (dFld [0] "number") (dVar 0)) (dCons (dUn (dFld [0] "heard") (dVar 0)) (dCons (dUn (dFld [0] "capability") (dVar 0)) (dCons (dUn (dFld [0] "publics") (dVar 0)) dNil)))))))
def m_order_key : MF := dFn 1 1
    (dRet (dTup (dCons (dCall fSum (dCons (dUn (dFld [0] "heard") (dVar 0)) dNil)) (dCons (dUn (dFld [0] "author") (dVar 0)) (dCons (dUn (dFld [0] "number") (dVar 0)) dNil)))))
def m_in_order : MF := dFn 1 1
    (dRet (dSortK false m_order_key (dVar 0)))
def m_Kept_init : MF := dFnL 4 11
    (dSeq (dSetF [1] "acts" (dVar 0) (dComp false (dIt (dVar 1)) (gTp 2 (gCn (gNm 4) (gCn (gNm 5) gNl))) dYes (dTup (dCons (dVar 4) (dCons (dVar 5) dNil))) [4, 5]))
    (dSeq (dSetF [1] "sums" (dVar 0) (dComp false (dIt (dVar 2)) (gTp 2 (gCn (gNm 6) (gCn (gNm 7) gNl))) dYes (dTup (dCons (dVar 6) (dCons (dVar 7) dNil))) [6, 7]))
    (dSetF [1] "texts" (dVar 0) (dComp false (dIt (dVar 3)) (gTp 2 (gCn (gNm 6) (gCn (gNm 8) gNl))) dYes (dTup (dCons (dVar 6) (dCons (dComp false (dIt (dVar 8)) (gTp 2 (gCn (gNm 9) (gCn (gNm 10) gNl))) dYes (dTup (dCons (dVar 9) (dCons (dVar 10) dNil))) [9, 10]) dNil))) [6, 8]))))
def m_Kept_data : MF := dFn 1 4
    (dSeq (dSet 1 (dComp false (dIt (dUn (dFld [1] "texts") (dVar 0))) (gTp 2 (gCn (gNm 2) (gCn (gNm 3) gNl))) dYes (dTup (dCons (dVar 2) (dCons (dCall fTuple (dCons (dVar 3) dNil)) dNil))) [2, 3]))
    (dRet (dTup (dCons (dCall fTuple (dCons (dUn (dFld [1] "acts") (dVar 0)) dNil)) (dCons (dCall fTuple (dCons (dUn (dFld [1] "sums") (dVar 0)) dNil)) (dCons (dCall fTuple (dCons (dVar 1) dNil)) dNil))))))
def m_Store_init : MF := dFnL 2 3
    (dSeq (dSetF [2] "members" (dVar 0) (dVar 1))
    (dSeq (dSetF [2] "cut" (dVar 0) (dComp true (dRng1 (dCons (dVar 1) dNil)) (gNm 2) dYes (dC (.int 0)) [2]))
    (dSeq (dSetF [2] "capabilities" (dVar 0) (dLst false dNil))
    (dSeq (dSetF [2] "kept" (dVar 0) (dComp false (dRng1 (dCons (dC u_SPACES) dNil)) (gNm 2) dYes (dMake false 1 m_Kept_init (dCons (dLst false dNil) (dCons (dLst false dNil) (dCons (dLst false dNil) dNil)))) [2]))
    (dSetF [2] "changes" (dVar 0) (dComp true (dRng1 (dCons (dVar 1) dNil)) (gNm 2) dYes (dLst true dNil) [2]))))))
def m_Store_count : MF := dFn 2 2
    (dRet (dOp (fAdd false) (dOp fIx (dUn (dFld [2] "cut") (dVar 0)) (dVar 1)) (dCall fLen (dCons (dOp fIx (dUn (dFld [2] "changes") (dVar 0)) (dVar 1)) dNil))))
def m_Store_find : MF := dFn 2 5
    (dSeq (dAsg (dVar 1) (gTp 2 (gCn (gNm 2) (gCn (gNm 3) gNl))))
    (dSeq (dIf (dNot (dTest (dChain fLe fLt (dC (.int 0)) (dVar 2) (dUn (dFld [2] "members") (dVar 0)))))
      (dRet (dC .non))
      dNx)
    (dSeq (dSet 4 (dOp fSub (dOp fSub (dVar 3) (dOp fIx (dUn (dFld [2] "cut") (dVar 0)) (dVar 2))) (dC (.int 1))))
    (dSeq (dIf (dTest (dChain fLe fLt (dC (.int 0)) (dVar 4) (dCall fLen (dCons (dOp fIx (dUn (dFld [2] "changes") (dVar 0)) (dVar 2)) dNil))))
      (dRet (dOp fIx (dOp fIx (dUn (dFld [2] "changes") (dVar 0)) (dVar 2)) (dVar 4)))
      dNx)
    (dRet (dC .non))))))
def m_Store_all_changes : MF := dFn 1 3
    (dRet (dCall m_in_order (dCons (dComp2 false (dIt (dUn (dFld [2] "changes") (dVar 0))) (gNm 1) dYes (dIt (dVar 1)) (gNm 2) dYes (dVar 2) [1, 2] [2]) dNil)))
def m_Store_add : MF := dFn 2 2
    (dDrop (dBM "list" fApp (dOp fIx (dUn (dFld [2] "changes") (dVar 0)) (dUn (dFld [0] "author") (dVar 1))) (dCons (dVar 1) dNil)))
def m_kept_data : MF := dFn 1 1
    (dSeq (dIf (dTest (dOp (fIs false) (dVar 0) (dC .non)))
      (dRet (dC .non))
      dNx)
    (dRet (dMeth 1 "data" m_Kept_data (dVar 0) dNil)))
def m_Store_data : MF := dFn 1 5
    (dSeq (dSet 1 (dComp false (dIt (dUn (dFld [2] "kept") (dVar 0))) (gNm 3) dYes (dCall m_kept_data (dCons (dVar 3) dNil)) [3]))
    (dSeq (dSet 2 (dComp false (dIt (dUn (dFld [2] "changes") (dVar 0))) (gNm 3) dYes (dCall fTuple (dCons (dComp false (dIt (dVar 3)) (gNm 4) dYes (dOp (fAdd false) (dMeth 0 "header" m_Change_header (dVar 4) dNil) (dTup (dCons (dUn (dFld [0] "parts") (dVar 4)) dNil))) [4]) dNil)) [3]))
    (dRet (dTup (dCons (dCall fTuple (dCons (dUn (dFld [2] "cut") (dVar 0)) dNil)) (dCons (dCall fTuple (dCons (dUn (dFld [2] "capabilities") (dVar 0)) dNil)) (dCons (dCall fTuple (dCons (dVar 1) dNil)) (dCons (dCall fTuple (dCons (dVar 2) dNil)) dNil))))))))
def m_covers : MF := dFn 2 3
    (dSeq (dIf (dTest (dOp (fEq true) (dCall fLen (dCons (dUn (dFld [0] "heard") (dVar 1)) dNil)) (dCall fLen (dCons (dUn (dFld [0] "heard") (dVar 0)) dNil))))
      (dRet (dC (.bl false)))
      dNx)
    (dSeq (dFor [2] (dRng1 (dCons (dCall fLen (dCons (dUn (dFld [0] "heard") (dVar 0)) dNil)) dNil)) (gNm 2)
      (dIf (dTest (dOp fGt (dOp fIx (dUn (dFld [0] "heard") (dVar 1)) (dVar 2)) (dOp fIx (dUn (dFld [0] "heard") (dVar 0)) (dVar 2))))
      (dRet (dC (.bl false)))
      dNx))
    (dRet (dC (.bl true)))))
def m_is_sound : MF := dFn 2 4
    (dSeq (dIf (dOr (dTest (dOp (fEq true) (dCall fLen (dCons (dUn (dFld [0] "heard") (dVar 1)) dNil)) (dUn (dFld [2] "members") (dVar 0)))) (dTest (dOp (fEq true) (dOp fIx (dUn (dFld [0] "heard") (dVar 1)) (dUn (dFld [0] "author") (dVar 1))) (dOp fSub (dUn (dFld [0] "number") (dVar 1)) (dC (.int 1))))))
      (dRet (dC (.bl false)))
      dNx)
    (dSeq (dFor [2, 3] (dRng1 (dCons (dUn (dFld [2] "members") (dVar 0)) dNil)) (gNm 2)
      (dSeq (dIf (dTest (dOp fGt (dOp fIx (dUn (dFld [0] "heard") (dVar 1)) (dVar 2)) (dMeth 2 "count" m_Store_count (dVar 0) (dCons (dVar 2) dNil))))
      (dRet (dC (.bl false)))
      dNx)
    (dSeq (dSet 3 (dMeth 2 "find" m_Store_find (dVar 0) (dCons (dTup (dCons (dVar 2) (dCons (dOp fIx (dUn (dFld [0] "heard") (dVar 1)) (dVar 2)) dNil))) dNil)))
    (dIf (dAnd (dTest (dOp (fIs true) (dVar 3) (dC .non))) (dNot (dTest (dCall m_covers (dCons (dVar 1) (dCons (dVar 3) dNil))))))
      (dRet (dC (.bl false)))
      dNx))))
    (dRet (dC (.bl true)))))
def m_is_whole : MF := dFn 1 2
    (dSeq (dFor [1] (dIt (dMeth 2 "all_changes" m_Store_all_changes (dVar 0) dNil)) (gNm 1)
      (dIf (dNot (dTest (dCall m_is_sound (dCons (dVar 0) (dCons (dVar 1) dNil)))))
      (dRet (dC (.bl false)))
      dNx))
    (dRet (dC (.bl true))))
def m_mix : MF := dFn 2 3
    (dSeq (dSet 2 (dOp fMod (dCall fInt (dCons (dOp (fAdd false) (dOp (fAdd false) (dOp fMul (dCall fInt (dCons (dVar 0) dNil)) (dC (.int 48271))) (dOp fMul (dVar 1) (dC (.int 69621)))) (dC (.int 12345))) dNil)) (dC (.int 2147483647))))
    (dSeq (dSet 2 (dOp fMod (dCall fInt (dCons (dOp (fAdd false) (dOp (fAdd false) (dOp fMul (dVar 2) (dVar 2)) (dOp fMul (dVar 1) (dC (.int 40692)))) (dC (.int 1))) dNil)) (dC (.int 2147483399))))
    (dRet (dOp fMod (dOp fDiv (dVar 2) (dC (.int 5))) (dC (.int 9973))))))
def m_draws : MF := dFn 1 5
    (dSeq (dSet 1 (dLst true dNil))
    (dSeq (dFor [2, 3, 4] (dRng1 (dCons (dCall fMin (dCons (dC (.int 63)) (dCons (dCall fLen (dCons (dVar 0) dNil)) dNil))) dNil)) (gNm 2)
      (dSeq (dSet 3 (dCall fInt (dCons (dOp fIx (dVar 0) (dVar 2)) dNil)))
    (dIf (dTest (dOp fLt (dVar 3) (dOp fPow (dC (.int 10)) (dC (.int 18)))))
      (dDrop (dBM "list" fApp (dVar 1) (dCons (dCall m_mix (dCons (dVar 3) (dCons (dVar 2) dNil))) dNil)))
      (dFor [2, 4] (dRng1 (dCons (dC (.int 60)) dNil)) (gNm 4)
      (dIf (dTest (dOp fGt (dVar 3) (dC (.int 0))))
      (dSeq (dDrop (dBM "list" fApp (dVar 1) (dCons (dOp fMod (dCall fInt (dCons (dVar 3) dNil)) (dC (.int 9973))) dNil)))
    (dSet 3 (dOp fDiv (dVar 3) (dC (.int 9973)))))
      dNx)))))
    (dRet (dVar 1))))
def m_at : MF := dFn 2 2
    (dSeq (dIf (dTest (dOp fLt (dVar 1) (dCall fLen (dCons (dVar 0) dNil))))
      (dRet (dOp fIx (dVar 0) (dVar 1)))
      dNx)
    (dSeq (dIf (dTest (dOp (fEq false) (dCall fLen (dCons (dVar 0) dNil)) (dC (.int 0))))
      (dRet (dCall m_mix (dCons (dVar 1) (dCons (dC (.int 77)) dNil))))
      dNx)
    (dRet (dCall m_mix (dCons (dOp (fAdd false) (dOp fIx (dVar 0) (dOp fMod (dCall fInt (dCons (dVar 1) dNil)) (dCall fLen (dCons (dVar 0) dNil)))) (dOp fMul (dVar 1) (dC (.int 131)))) (dCons (dVar 1) dNil))))))
def m_told : MF := dFnL 1 8
    (dSeq (dSet 1 (dOp (fAdd false) (dC (.int 1)) (dOp fMod (dOp fMod (dCall m_at (dCons (dVar 0) (dCons (dC (.int 0)) dNil))) (dC (.int 8))) (dC (.int 6)))))
    (dSeq (dSet 2 (dLst true dNil))
    (dSeq (dFor [3, 4, 5, 6] (dRng1 (dCons (dVar 1) dNil)) (gNm 3)
      (dDrop (dBM "list" fApp (dVar 2) (dCons (dComp true (dRng1 (dCons (dVar 1) dNil)) (gNm 7) dYes (dC (.int 0)) [7]) dNil))))
    (dSeq (dSet 4 (dLst true dNil))
    (dSeq (dFor [3, 5, 6] (dRng1 (dCons (dOp fMod (dCall m_at (dCons (dVar 0) (dCons (dC (.int 1)) dNil))) (dC (.int 13))) dNil)) (gNm 3)
      (dSeq (dSet 5 (dOp fMod (dCall m_at (dCons (dVar 0) (dCons (dOp (fAdd false) (dC (.int 10)) (dOp fMul (dC (.int 3)) (dVar 3))) dNil))) (dVar 1)))
    (dSeq (dSet 6 (dOp fMod (dCall m_at (dCons (dVar 0) (dCons (dOp (fAdd false) (dC (.int 11)) (dOp fMul (dC (.int 3)) (dVar 3))) dNil))) (dOp fMul (dC (.int 2)) (dVar 1))))
    (dSeq (dIf (dTest (dOp fLt (dVar 6) (dVar 1)))
      (dAsg (dComp true (dRng1 (dCons (dVar 1) dNil)) (gNm 7) dYes (dCall fMax (dCons (dOp fIx (dOp fIx (dVar 2) (dVar 5)) (dVar 7)) (dCons (dOp fIx (dOp fIx (dVar 2) (dVar 6)) (dVar 7)) dNil))) [7]) (gSb (dVar 2) (dVar 5)))
      dNx)
    (dSeq (dDrop (dBM "list" fApp (dVar 4) (dCons (dLst true (dCons (dVar 5) (dCons (dOp (fAdd false) (dOp fIx (dOp fIx (dVar 2) (dVar 5)) (dVar 5)) (dC (.int 1))) (dCons (dCall (fList true) (dCons (dOp fIx (dVar 2) (dVar 5)) dNil)) dNil)))) dNil)))
    (dAsg (dOp (fAdd false) (dOp fIx (dOp fIx (dVar 2) (dVar 5)) (dVar 5)) (dC (.int 1))) (gSb (dOp fIx (dVar 2) (dVar 5)) (dVar 5))))))))
    (dRet (dLst true (dCons (dVar 1) (dCons (dVar 4) dNil)))))))))
def m_cut : MF := dFn 3 6
    (dSeq (dIf (dOr (dTest (dOp (fEq false) (dCall fLen (dCons (dVar 2) dNil)) (dC (.int 0)))) (dTest (dOp (fEq true) (dOp fMod (dCall m_at (dCons (dVar 0) (dCons (dC (.int 2)) dNil))) (dC (.int 3))) (dC (.int 2)))))
      (dRet (dComp false (dRng1 (dCons (dVar 1) dNil)) (gNm 5) dYes (dC (.int 0)) [5]))
      dNx)
    (dSeq (dSet 3 (dOp fIx (dVar 2) (dOp fMod (dCall m_at (dCons (dVar 0) (dCons (dC (.int 3)) dNil))) (dCall fLen (dCons (dVar 2) dNil)))))
    (dSeq (dSet 4 (dCall (fList true) (dCons (dOp fIx (dVar 3) (dC (.int 2))) dNil)))
    (dSeq (dAsg (dOp (fAdd false) (dOp fIx (dVar 4) (dOp fIx (dVar 3) (dC (.int 0)))) (dOp fMod (dCall m_at (dCons (dVar 0) (dCons (dC (.int 4)) dNil))) (dC (.int 2)))) (gSb (dVar 4) (dOp fIx (dVar 3) (dC (.int 0)))))
    (dRet (dVar 4))))))
def m_spoil : MF := dFn 3 6
    (dSeq (dSet 3 (dOp fMod (dCall m_at (dCons (dVar 0) (dCons (dC (.int 5)) dNil))) (dC (.int 7))))
    (dSeq (dIf (dOr (dTest (dOp (fEq false) (dCall fLen (dCons (dVar 2) dNil)) (dC (.int 0)))) (dTest (dOp (fEq false) (dVar 3) (dC (.int 0)))))
      dRetN
      dNx)
    (dSeq (dSet 4 (dOp fIx (dVar 2) (dOp fMod (dCall m_at (dCons (dVar 0) (dCons (dC (.int 6)) dNil))) (dCall fLen (dCons (dVar 2) dNil)))))
    (dSeq (dSet 5 (dOp fMod (dCall m_at (dCons (dVar 0) (dCons (dC (.int 7)) dNil))) (dVar 1)))
    (dSeq (dIf (dTest (dOp (fEq false) (dVar 3) (dC (.int 1))))
      (dDrop (dBM "list" fApp (dOp fIx (dVar 4) (dC (.int 2))) (dCons (dC (.int 0)) dNil)))
      dNx)
    (dSeq (dIf (dTest (dOp (fEq false) (dVar 3) (dC (.int 2))))
      (dDrop (dBM "list" fPop (dOp fIx (dVar 4) (dC (.int 2))) dNil))
      dNx)
    (dSeq (dIf (dTest (dOp (fEq false) (dVar 3) (dC (.int 3))))
      (dAsg (dCall fMax (dCons (dC (.int 0)) (dCons (dOp fSub (dOp (fAdd false) (dOp fIx (dOp fIx (dVar 4) (dC (.int 2))) (dOp fIx (dVar 4) (dC (.int 0)))) (dC (.int 1))) (dOp fMul (dC (.int 2)) (dOp fMod (dCall m_at (dCons (dVar 0) (dCons (dC (.int 8)) dNil))) (dC (.int 2))))) dNil))) (gSb (dOp fIx (dVar 4) (dC (.int 2))) (dOp fIx (dVar 4) (dC (.int 0)))))
      dNx)
    (dSeq (dIf (dTest (dOp (fEq false) (dVar 3) (dC (.int 4))))
      (dAsg (dOp (fAdd false) (dCall fLen (dCons (dVar 2) dNil)) (dOp fMod (dCall m_at (dCons (dVar 0) (dCons (dC (.int 8)) dNil))) (dC (.int 3)))) (gSb (dOp fIx (dVar 4) (dC (.int 2))) (dVar 5)))
      dNx)
    (dSeq (dIf (dTest (dOp (fEq false) (dVar 3) (dC (.int 5))))
      (dAsg (dCall fMax (dCons (dC (.int 0)) (dCons (dOp fSub (dOp fIx (dOp fIx (dVar 4) (dC (.int 2))) (dVar 5)) (dC (.int 1))) dNil))) (gSb (dOp fIx (dVar 4) (dC (.int 2))) (dVar 5)))
      dNx)
    (dIf (dTest (dOp (fEq false) (dVar 3) (dC (.int 6))))
      (dAsg (dOp (fAdd false) (dOp fIx (dOp fIx (dVar 4) (dC (.int 2))) (dVar 5)) (dC (.int 1))) (gSb (dOp fIx (dVar 4) (dC (.int 2))) (dVar 5)))
      dNx))))))))))
def m_lis_sound : MF := dFn 4 7
    (dSeq (dIf (dOr (dTest (dOp (fEq true) (dCall fLen (dCons (dOp fIx (dVar 3) (dC (.int 2))) dNil)) (dVar 0))) (dTest (dOp (fEq true) (dOp fIx (dOp fIx (dVar 3) (dC (.int 2))) (dOp fIx (dVar 3) (dC (.int 0)))) (dOp fSub (dOp fIx (dVar 3) (dC (.int 1))) (dC (.int 1))))))
      (dRet (dC (.bl false)))
      dNx)
    (dSeq (dFor [4, 5, 6] (dRng1 (dCons (dVar 0) dNil)) (gNm 4)
      (dSeq (dIf (dTest (dOp fGt (dOp fIx (dOp fIx (dVar 3) (dC (.int 2))) (dVar 4)) (dOp fIx (dVar 1) (dVar 4))))
      (dRet (dC (.bl false)))
      dNx)
    (dFor [5, 6] (dIt (dVar 2)) (gNm 5)
      (dIf (dAnd (dTest (dOp (fEq false) (dOp fIx (dVar 5) (dC (.int 0))) (dVar 4))) (dTest (dOp (fEq false) (dOp fIx (dVar 5) (dC (.int 1))) (dOp fIx (dOp fIx (dVar 3) (dC (.int 2))) (dVar 4)))))
      (dFor [6] (dRng1 (dCons (dVar 0) dNil)) (gNm 6)
      (dIf (dAnd (dTest (dOp fLt (dVar 6) (dCall fLen (dCons (dOp fIx (dVar 5) (dC (.int 2))) dNil)))) (dTest (dOp fGt (dOp fIx (dOp fIx (dVar 5) (dC (.int 2))) (dVar 6)) (dOp fIx (dOp fIx (dVar 3) (dC (.int 2))) (dVar 6)))))
      (dRet (dC (.bl false)))
      dNx))
      dNx))))
    (dRet (dC (.bl true)))))
def m_law : MF := dFn 1 12
    (dSeq (dSet 1 (dCall m_draws (dCons (dVar 0) dNil)))
    (dSeq (dAsg (dCall m_told (dCons (dVar 1) dNil)) (gTl 2 (gCn (gNm 2) (gCn (gNm 3) gNl))))
    (dSeq (dSet 4 (dCall m_cut (dCons (dVar 1) (dCons (dVar 2) (dCons (dVar 3) dNil)))))
    (dSeq (dSet 6 (dComp true (dRng1 (dCons (dVar 2) dNil)) (gNm 5) dYes (dC (.int 0)) [5]))
    (dSeq (dFor [0, 5, 8, 9, 10, 11] (dIt (dVar 3)) (gNm 7)
      (dAsg (dCall fMax (dCons (dOp fIx (dVar 6) (dOp fIx (dVar 7) (dC (.int 0)))) (dCons (dOp fIx (dVar 7) (dC (.int 1))) dNil))) (gSb (dVar 6) (dOp fIx (dVar 7) (dC (.int 0))))))
    (dSeq (dSet 3 (dComp true (dIt (dVar 3)) (gNm 7) (dTest (dOp fGt (dOp fIx (dVar 7) (dC (.int 1))) (dOp fIx (dVar 4) (dOp fIx (dVar 7) (dC (.int 0)))))) (dVar 7) [7]))
    (dSeq (dDrop (dCall m_spoil (dCons (dVar 1) (dCons (dVar 2) (dCons (dVar 3) dNil)))))
    (dSeq (dSet 8 (dMake true 2 m_Store_init (dCons (dVar 2) dNil)))
    (dSeq (dFor [0, 1, 5, 7, 9, 10, 11] (dRng1 (dCons (dVar 2) dNil)) (gNm 5)
      (dAsg (dOp fIx (dVar 4) (dVar 5)) (gSb (dUn (dFld [2] "cut") (dVar 8)) (dVar 5))))
    (dSeq (dFor [0, 1, 4, 5, 7, 9, 10, 11] (dIt (dVar 3)) (gNm 7)
      (dDrop (dMeth 2 "add" m_Store_add (dVar 8) (dCons (dMake false 0 m_Change_init (dCons (dOp fIx (dVar 7) (dC (.int 0))) (dCons (dOp fIx (dVar 7) (dC (.int 1))) (dCons (dCall (fList false) (dCons (dOp fIx (dVar 7) (dC (.int 2))) dNil)) (dCons (dC .non) (dCons (dTup dNil) (dCons (dTup (dCons (dTup dNil) (dCons (dTup dNil) (dCons (dTup dNil) (dCons (dTup dNil) dNil))))) dNil))))))) dNil))))
    (dSeq (dSet 9 (dC (.bl true)))
    (dSeq (dFor [0, 1, 4, 5, 7, 10, 11] (dIt (dVar 3)) (gNm 7)
      (dIf (dNot (dTest (dCall m_lis_sound (dCons (dVar 2) (dCons (dVar 6) (dCons (dVar 3) (dCons (dVar 7) dNil)))))))
      (dSet 9 (dC (.bl false)))
      dNx))
    (dSeq (dSet 10 (dMeth 2 "data" m_Store_data (dVar 8) dNil))
    (dSeq (dSet 11 (dCall m_is_whole (dCons (dVar 8) dNil)))
    (dSeq (dIf (dOr (dNot (dTest (dUn (fIsi ["bool"]) (dVar 11)))) (dTest (dOp (fEq true) (dVar 11) (dVar 9))))
      (dRet (dC (.bl false)))
      dNx)
    (dRet (dAndV (dOp (fEq false) (dMeth 2 "data" m_Store_data (dVar 8) dNil) (dVar 10)) (dOp (fEq false) (dCall m_is_whole (dCons (dVar 8) dNil)) (dVar 9)))))))))))))))))))
end Kb
namespace Kb
open PySem PySem.Spec PyProof.Rows L2 Pv
def mixI (c k : Int) : Int :=
  let v := (c * 48271 + k * 69621 + 12345) % 2147483647
  (v * v + k * 40692 + 1) % 2147483399 / 5 % 9973
theorem mixI_r (c k : Int) : 0 ≤ mixI c k ∧ mixI c k < 9973 := by
  unfold mixI
  exact ⟨Int.emod_nonneg _ (by decide), Int.emod_lt_of_pos _ (by decide)⟩
theorem mix_eq (c k : Int) (S : SH) : m_mix [.p (.int c), .p (.int k)] S = some (.p (.int (mixI c k)), S) := by
  have h1 := mulOk_r (i := c) (j := 48271) (by decide)
  have h2 := mulOk_r (i := k) (j := 69621) (by decide)
  have h3 := mulOk_r (i := k) (j := 40692) (by decide)
  have h4 : mulOk ((c * 48271 + k * 69621 + 12345) % 2147483647) ((c * 48271 + k * 69621 + 12345) % 2147483647) = true := mulOk_r (by
    have a := Int.emod_nonneg (c * 48271 + k * 69621 + 12345) (b := 2147483647) (by decide)
    have b := Int.emod_lt_of_pos (c * 48271 + k * 69621 + 12345) (b := 2147483647) (by decide)
    omega)
  have h5 : ∀ i, divOk i 5 = true := fun i => divOk_c (by decide) (by decide)
  simp [m_mix, startD, h1, h2, h3, h4, h5]
  rfl
def atD (ds : List Int) (i : Int) : Int := if i < ds.length then ds.getD i.toNat 0 else if ds.length = 0 then mixI i 77 else mixI (ds.getD (i % ds.length).toNat 0 + i * 131) i
theorem atD_r {ds : List Int} (h : ∀ d ∈ ds, 0 ≤ d ∧ d < 9973) {i : Int} (h0 : 0 ≤ i) : 0 ≤ atD ds i ∧ atD ds i < 9973 := by
  unfold atD
  split
  · rename_i q
    have hl : i.toNat < ds.length := by omega
    rw [List.getD_eq_getElem?_getD, List.getElem?_eq_getElem hl]
    exact h _ (List.getElem_mem hl)
  · split <;> exact mixI_r _ _
theorem getD_at {ds : List Int} {n : Nat} (h : n < ds.length) : ds[n]? = some (ds.getD n 0) := by
  rw [List.getD_eq_getElem?_getD, List.getElem?_eq_getElem h]; rfl
theorem at_eq (ds : List Int) (i : Int) (h0 : 0 ≤ i) (S : SH) : m_at [.p (.lst (intsP ds)), .p (.int i)] S = some (.p (.int (atD ds i)), S) := by
  unfold atD
  by_cases h1 : i < ds.length
  · have h2 : i.toNat < ds.length := by omega
    have q := fIx_li (S := ⟨S.os.length, S.os⟩) h0 (intsP_at (getD_at h2))
    simp [m_at, startD, intsP_len, h1, q]
  · by_cases h2 : ds.length = 0
    · have h3 : ¬ i < 0 := by omega
      simp [m_at, startD, intsP_len, h1, h2, h3, fEq, okd, peq, mix_eq]
    · have h3 : 0 < (ds.length : Int) := by omega
      have h4 : (i % (ds.length : Int)).toNat < ds.length := by
        have := Int.emod_nonneg i (b := (ds.length : Int)) (by omega)
        have := Int.emod_lt_of_pos i h3
        omega
      have q := fIx_li (S := ⟨S.os.length, S.os⟩) (Int.emod_nonneg i (b := (ds.length : Int)) (by omega)) (intsP_at (getD_at h4))
      have h5 := mulOk_r (i := i) (j := 131) (by decide)
      have h6 : ¬ ds = [] := fun z => h2 (by rw [z]; rfl)
      have h7 : 0 < ds.length := by omega
      simp [m_at, startD, intsP_len, h1, h2, h3, h5, h6, h7, q, fEq, okd, peq, mix_eq]
def drJ (S : SH) (sc : D) (K : Nat) (S' : SH) : Prop := ∃ ds : List Int, S' = ⟨S.os.length, S.os ++ [.lst ((intsP ds).map D.p)]⟩ ∧ (∀ d ∈ ds, 0 ≤ d ∧ d < 9973) ∧ ds.length ≤ K
theorem drJ_app {S : SH} {sc : D} {K : Nat} {S' : SH} {d : Int} (h : drJ S sc K S') (hd : 0 ≤ d ∧ d < 9973) (hk : K < 100000) : isTy "list" (.ref S.os.length) S' = true ∧ ∃ S2, fApp [.ref S.os.length, .p (.int d)] S' = some (.p .non, S2) ∧ drJ S sc (K + 1) S2 := by
  obtain ⟨ds, rfl, h1, h2⟩ := h
  have e := at_last S.os.length S.os (.lst ((intsP ds).map D.p))
  refine ⟨isTy_ref e, _, fApp_p e (by rw [List.length_map, intsP_len]; have := line_ge; omega), ds ++ [d], ?_, fun x hx => ?_, by rw [List.length_append, List.length_singleton]; omega⟩
  · rw [put_last]
    unfold intsP
    simp
  · rcases List.mem_append.mp hx with hx | hx
    · exact h1 x hx
    · rw [List.mem_singleton.mp hx]; exact hd
theorem drJ_mono {S : SH} {sc : D} {K K' : Nat} {S' : SH} (h : drJ S sc K S') (hk : K ≤ K') : drJ S sc K' S' := by
  obtain ⟨ds, h0, h1, h2⟩ := h
  exact ⟨ds, h0, h1, by omega⟩
abbrev inB : MS := dIf (dTest (dOp fGt (dVar 3) (dC (.int 0))))
      (dSeq (dDrop (dBM "list" fApp (dVar 1) (dCons (dOp fMod (dCall fInt (dCons (dVar 3) dNil)) (dC (.int 9973))) dNil)))
    (dSet 3 (dOp fDiv (dVar 3) (dC (.int 9973)))))
      dNx
theorem in_ok (S : SH) (x : D) (K : Nat) (hK : K < 5000) (c : Int) (S1 : SH) (hj : drJ S (.p .non) K S1) : ∃ c2 S2, forL [2, 4] (srcN 0 60).fin (gNm 4) inB (srcN 0 60).items [some x, some (.ref S.os.length), none, some (.p (.int c)), none] S1 = some (.nx [some x, some (.ref S.os.length), none, some (.p (.int c2)), none], S2) ∧ drJ S (.p .non) (K + 60) S2 := by
  obtain ⟨σ2, S2, hr, ⟨c2, rfl⟩, hj2⟩ := rng0_inv (body := inB) (ws := [2, 4]) (j := 4) (fun i' σ S' => (∃ c, σ = [some x, some (.ref S.os.length), none, some (.p (.int c)), none]) ∧ drJ S (.p .non) (K + i') S') 60 (σ := [some x, some (.ref S.os.length), none, some (.p (.int c)), none]) (S := S1) ⟨⟨c, rfl⟩, hj⟩ (by
        rintro i' σ S3 hi' ⟨⟨c, rfl⟩, hj⟩
        by_cases hc : 0 < c
        · obtain ⟨t, S4, ha, hj4⟩ := drJ_app hj (d := c % 9973) ⟨Int.emod_nonneg _ (by decide), Int.emod_lt_of_pos _ (by decide)⟩ (by omega)
          refine ⟨[some x, some (.ref S.os.length), none, some (.p (.int (c / 9973))), some (.p (.int (i' : Int)))], S4, .inl ?_, ⟨_, rfl⟩, hj4⟩
          have hdv : divOk c 9973 = true := divOk_c (by decide) (by decide)
          simp [hc, t, ha, hdv]
        · refine ⟨[some x, some (.ref S.os.length), none, some (.p (.int c)), some (.p (.int (i' : Int)))], S3, .inl ?_, ⟨_, rfl⟩, drJ_mono hj (by omega)⟩
          simp [hc])
  exact ⟨c2, S2, hr, hj2⟩

abbrev outB : MS := (dSeq (dSet 3 (dCall fInt (dCons (dOp fIx (dVar 0) (dVar 2)) dNil)))
    (dIf (dTest (dOp fLt (dVar 3) (dOp fPow (dC (.int 10)) (dC (.int 18)))))
      (dDrop (dBM "list" fApp (dVar 1) (dCons (dCall m_mix (dCons (dVar 3) (dCons (dVar 2) dNil))) dNil)))
      (dFor [2, 4] (dRng1 (dCons (dC (.int 60)) dNil)) (gNm 4) inB)))
theorem r60 (S1 : SH) : rng1 [.p (.int 60)] S1 = some (srcN 0 60, S1) := srt_rng 60 (by omega)
theorem lt18 {c : Int} : (powOk 10 18 = true) := by simp [powOk]
theorem out_ok (S : SH) (ns : List Int) (i : Nat) (hi : i < ns.length) (hn : ns.length ≤ 63) (S1 : SH) (hj : drJ S (.p .non) (60 * i) S1) : ∃ σ2 S2, outB ([some (.p (.lst (intsP ns))), some (.ref S.os.length), some (.p (.int (i : Int))), none, none]) S1 = some (.nx σ2, S2) ∧ wipeD [2, 3, 4] σ2 = [some (.p (.lst (intsP ns))), some (.ref S.os.length), none, none, none] ∧ drJ S (.p .non) (60 * (i + 1)) S2 := by
  have q := fIx_li (S := S1) (i := (i : Int)) (by omega) (intsP_at (getD_at (ds := ns) (n := (i : Int).toNat) (by omega)))
  generalize ns.getD (i : Int).toNat 0 = c at q
  by_cases hc : c < 1000000000000000000
  · obtain ⟨t, S2, ha, hj2⟩ := drJ_app hj (mixI_r c i) (by omega)
    refine ⟨[some (.p (.lst (intsP ns))), some (.ref S.os.length), some (.p (.int (i : Int))), some (.p (.int c)), none], S2, ?_, rfl, drJ_mono hj2 (by omega)⟩
    have hp : powOk 10 18 = true := lt18 (c := 0)
    simp [outB, q, hp, hc, t, mix_eq, ha]
  · obtain ⟨c2, S2, hr, hj2⟩ := in_ok S (.p (.lst (intsP ns))) (60 * i) (by omega) c S1 hj
    refine ⟨[some (.p (.lst (intsP ns))), some (.ref S.os.length), none, some (.p (.int c2)), none], S2, ?_, rfl, drJ_mono hj2 (by omega)⟩
    have hp : powOk 10 18 = true := lt18 (c := 0)
    simp [outB, q, hp, hc, r60, wipeD, hr]


theorem dr1 (ns : List Int) (hn : ns.length ≤ 63) (S : SH) : ∃ ds S', forL [2, 3, 4] (srcN 0 ns.length).fin (gNm 2) outB (srcN 0 ns.length).items [some (.p (.lst (intsP ns))), some (.ref S.os.length), none, none, none] ⟨S.os.length, S.os ++ [.lst []]⟩ = some (.nx [some (.p (.lst (intsP ns))), some (.ref S.os.length), none, none, none], S') ∧ S' = ⟨S.os.length, S.os ++ [.lst ((intsP ds).map D.p)]⟩ ∧ ∀ d ∈ ds, 0 ≤ d ∧ d < 9973 := by
  obtain ⟨σ', S', hr, rfl, ds, rfl, hd, _⟩ := rng0_inv (body := outB) (ws := [2, 3, 4]) (j := 2)
    (fun i σ S' => σ = [some (.p (.lst (intsP ns))), some (.ref S.os.length), none, none, none] ∧ drJ S (.p .non) (60 * i) S') ns.length (σ := [some (.p (.lst (intsP ns))), some (.ref S.os.length), none, none, none]) (S := ⟨S.os.length, S.os ++ [.lst []]⟩) ⟨rfl, [], rfl, fun d h => absurd h (by simp), by simp⟩ (by
      rintro i σ S1 hi ⟨rfl, hj⟩
      obtain ⟨σ2, S2, h1, h2, h3⟩ := out_ok S ns i hi hn S1 hj
      exact ⟨σ2, S2, .inl h1, h2, h3⟩)
  exact ⟨ds, _, hr, rfl, hd⟩

theorem dr2 (ns : List Int) (hn : ns.length ≤ 63) (S : SH) : rng1 [.p (.int ns.length)] S = some (srcN 0 ns.length, S) := srt_rng _ (by omega)
theorem dr3 (S : SH) : newL true [] S = some (.ref S.os.length, ⟨S.b, S.os ++ [.lst []]⟩) := newL_t [] (Nat.zero_le _)
theorem dr4 (n : Nat) (hn : n ≤ 63) : (if (n : Int) < 63 then (n : Int) else 63) = n := by
    split
    · rfl
    · omega

theorem draws_eq (ns : List Int) (hn : ns.length ≤ 63) (S : SH) : ∃ ds : List Int, m_draws [.p (.lst (intsP ns))] S = some (.p (.lst (intsP ds)), S) ∧ ∀ d ∈ ds, 0 ≤ d ∧ d < 9973 := by
  obtain ⟨ds, S', hr, hS, hd⟩ := dr1 ns hn S
  refine ⟨ds, ?_, hd⟩
  have e6 := frame_ref (S := S) (n := S.os.length) (S1 := S') (ps := intsP ds) (Nat.le_refl _) (by rw [hS]; exact at_last _ _ _)
  have e7 : Pv.cutS S S' = S := by rw [hS]; exact cut_app _ _
  rw [e7] at e6
  have e8 : dRng1 (dCons (dCall fMin (dCons (dC (.int 63)) (dCons (dCall fLen (dCons (dVar 0) dNil)) dNil))) dNil) [some (.p (.lst (intsP ns))), some (.ref S.os.length), none, none, none] ⟨S.os.length, S.os ++ [.lst []]⟩ = some (srcN 0 ns.length, ⟨S.os.length, S.os ++ [.lst []]⟩) := by
    simp only [at_dRng1, at_dCons, at_dCall, at_dC, at_dVar, at_dNil, fLen_l, fMin_i, intsP_len, bnd_some, List.getElem?_cons_zero]
    rw [dr4 _ hn, dr2 ns hn]
  have e9 : startD 5 [.p (.lst (intsP ns))] = [some (.p (.lst (intsP ns))), none, none, none, none] := rfl
  have e10 : ([some (.p (.lst (intsP ns))), none, none, none, none] : En).set 1 (some (.ref S.os.length)) = [some (.p (.lst (intsP ns))), some (.ref S.os.length), none, none, none] := rfl
  have e11 : wipeD [2, 3, 4] [some (D.p (.lst (intsP ns))), some (.ref S.os.length), none, none, none] = [some (D.p (.lst (intsP ns))), some (.ref S.os.length), none, none, none] := rfl
  simp only [m_draws, at_fn, List.length_singleton, if_true, at_dSeq, at_dSet, at_dLst, at_dNil, bnd_some, dr3, seqK_nx, e9, e10, at_dFor, e8, e11, hr, at_dRet, at_dVar, List.getElem?_cons_succ, List.getElem?_cons_zero, e6]
end Kb
namespace Kb
open PySem PySem.Spec PyProof.Rows L2 Pv
def insG (au nu cap : P) (hd pb pt : List P) : List (Str × P) := [("author", au), ("number", nu), ("heard", .tup hd), ("capability", cap), ("publics", .tup pb), ("parts", .tup pt)]
def insP (au nu cap : P) (hd pb pt : List P) : P := .ins 0 (insG au nu cap hd pb pt)
def partOk : P → Bool
  | .non => true
  | .tup _ => true
  | _ => false
theorem as_tuple_eq {p : P} (h : partOk p = true) (S : SH) : m_as_tuple [.p p] S = some (.p p, S) := by
  cases p <;> first | (cases h; done) | skip
  · simp [m_as_tuple, startD, fIs, isNon]
  · simp [m_as_tuple, startD, fIs, isNon]
theorem fTuple_s {ps : List P} {p : P} (h : p = .lst ps ∨ p = .tup ps) (hl : ps.length ≤ sizeLine) {S : SH} : fTuple [.p p] S = some (.p (.tup ps), S) := by
  rcases h with rfl | rfl
  · exact fTuple_l hl
  · exact fTuple_t
theorem init_eq (S : SH) (au nu cap : P) {hd pb pt : List P} {hp pp qp : P} (h1 : hp = .lst hd ∨ hp = .tup hd) (h2 : pp = .lst pb ∨ pp = .tup pb) (h3 : qp = .lst pt ∨ qp = .tup pt) (l1 : hd.length ≤ sizeLine) (l2 : pb.length ≤ sizeLine) (l3 : pt.length ≤ sizeLine) (ho : ∀ p ∈ pt, partOk p = true) :
    m_Change_init [.ref S.os.length, .p au, .p nu, .p hp, .p cap, .p pp, .p qp] ⟨S.os.length, S.os ++ [.ins 0 []]⟩ = some (.p .non, ⟨S.os.length, S.os ++ [.ins 0 ((insG au nu cap hd pb pt).map fun p => (p.1, .p p.2))]⟩) := by
  have c0 : ([0] : List Nat).contains 0 = true := by decide
  have ev : startD 8 [.ref S.os.length, .p au, .p nu, .p hp, .p cap, .p pp, .p qp] = [some (.ref S.os.length), some (.p au), some (.p nu), some (.p hp), some (.p cap), some (.p pp), some (.p qp), none] := rfl
  have e1 := fun S => fTuple_s (S := S) h1 l1
  have e2 := fun S => fTuple_s (S := S) h2 l2
  have e3 := fun S => itP (S := S) pt h3
  have e4 := fun (T : SH) => comp_p (S := T) (j := 7) (t := dYes) (elt := dCall m_as_tuple (dCons (dVar 7) dNil)) (σ := [some (.ref S.os.length), some (.p au), some (.p nu), some (.p hp), some (.p cap), some (.p pp), some (.p qp), none]) (fun _ => true) (fun p => D.p p) pt l3 fun p hp => ⟨rfl, fun _ => by simp [as_tuple_eq (ho p hp)]⟩
  unfold m_Change_init
  simp only [at_fnL, ev, at_dSeq, at_dSetF, at_dCall, at_dCons, at_dNil, at_dVar, at_dComp, at_dIt, bnd_some, seqK_nx, List.length_cons, List.length_nil, if_true, List.getElem?_cons_succ, List.getElem?_cons_zero, e1, e2, e3]
  have q1 : putFD "author" (.p au) ([] : List (Str × D)) = ([("author", .p au)] : List (Str × D)) := rfl
  have q2 : putFD "number" (.p nu) ([("author", .p au)] : List (Str × D)) = ([("author", .p au), ("number", .p nu)] : List (Str × D)) := rfl
  have q3 : putFD "heard" (.p (.tup hd)) ([("author", .p au), ("number", .p nu)] : List (Str × D)) = ([("author", .p au), ("number", .p nu), ("heard", .p (.tup hd))] : List (Str × D)) := rfl
  have q4 : putFD "capability" (.p cap) ([("author", .p au), ("number", .p nu), ("heard", .p (.tup hd))] : List (Str × D)) = ([("author", .p au), ("number", .p nu), ("heard", .p (.tup hd)), ("capability", .p cap)] : List (Str × D)) := rfl
  have q5 : putFD "publics" (.p (.tup pb)) ([("author", .p au), ("number", .p nu), ("heard", .p (.tup hd)), ("capability", .p cap)] : List (Str × D)) = ([("author", .p au), ("number", .p nu), ("heard", .p (.tup hd)), ("capability", .p cap), ("publics", .p (.tup pb))] : List (Str × D)) := rfl
  have q6 : putFD "parts" (.p (.tup pt)) ([("author", .p au), ("number", .p nu), ("heard", .p (.tup hd)), ("capability", .p cap), ("publics", .p (.tup pb))] : List (Str × D)) = ([("author", .p au), ("number", .p nu), ("heard", .p (.tup hd)), ("capability", .p cap), ("publics", .p (.tup pb)), ("parts", .p (.tup pt))] : List (Str × D)) := rfl
  have sl : ∀ {f : Str} {v : P} {fs : List (Str × D)}, fs.length < 1000 → setFld [0] f (.ref S.os.length) (.p v) ⟨S.os.length, S.os ++ [.ins 0 fs]⟩ = some ⟨S.os.length, S.os ++ [.ins 0 (putFD f (.p v) fs)]⟩ := fun hl => setF_last c0 hl
  rw [sl (by simp only [List.length_cons, List.length_nil]; omega), q1]
  simp only [bnd_some, seqK_nx, at_dSeq, at_dSetF, at_dCall, at_dCons, at_dNil, at_dVar, at_dComp, at_dIt, List.getElem?_cons_succ, List.getElem?_cons_zero]
  rw [sl (by simp only [List.length_cons, List.length_nil]; omega), q2]
  simp only [bnd_some, seqK_nx, at_dSeq, at_dSetF, at_dCall, at_dCons, at_dNil, at_dVar, at_dComp, at_dIt, List.getElem?_cons_succ, List.getElem?_cons_zero, e1]
  rw [sl (by simp only [List.length_cons, List.length_nil]; omega), q3]
  simp only [bnd_some, seqK_nx, at_dSeq, at_dSetF, at_dCall, at_dCons, at_dNil, at_dVar, at_dComp, at_dIt, List.getElem?_cons_succ, List.getElem?_cons_zero]
  rw [sl (by simp only [List.length_cons, List.length_nil]; omega), q4]
  simp only [bnd_some, seqK_nx, at_dSeq, at_dSetF, at_dCall, at_dCons, at_dNil, at_dVar, at_dComp, at_dIt, List.getElem?_cons_succ, List.getElem?_cons_zero, e2]
  rw [sl (by simp only [List.length_cons, List.length_nil]; omega), q5]
  have hw : wipeD [7] [some (.ref S.os.length), some (.p au), some (.p nu), some (.p hp), some (.p cap), some (.p pp), some (.p qp), none] = [some (.ref S.os.length), some (.p au), some (.p nu), some (.p hp), some (.p cap), some (.p pp), some (.p qp), none] := rfl
  have ef : pt.filter (fun _ => true) = pt := List.filter_eq_self.mpr fun _ _ => rfl
  simp only [bnd_some, seqK_nx, at_dSeq, at_dSetF, at_dCall, at_dCons, at_dNil, at_dVar, at_dComp, at_dIt, List.getElem?_cons_succ, List.getElem?_cons_zero, e3, hw]
  rw [e4, ef, bnd_some, newL_f pt l3]
  simp only [bnd_some, fTuple_l l3]
  rw [sl (by simp only [List.length_cons, List.length_nil]; omega), q6]
  rfl
theorem mk_eq (S : SH) {a : MA} {σ : En} (au nu cap : P) {hd pb pt : List P} {hp pp qp : P} (ha : a σ S = some ([.p au, .p nu, .p hp, .p cap, .p pp, .p qp], S)) (h1 : hp = .lst hd ∨ hp = .tup hd) (h2 : pp = .lst pb ∨ pp = .tup pb) (h3 : qp = .lst pt ∨ qp = .tup pt) (l1 : hd.length ≤ sizeLine) (l2 : pb.length ≤ sizeLine) (l3 : pt.length ≤ sizeLine) (ho : ∀ p ∈ pt, partOk p = true) :
    dMake false 0 m_Change_init a σ S = some (.p (insP au nu cap hd pb pt), S) := by
  rw [at_dMakeF, ha, bnd_some, init_eq S au nu cap h1 h2 h3 l1 l2 l3 ho, bnd_some]
  have e := out_ins (k := S.os.length) (c := 0) (n := S.os.length) (S1 := ⟨S.os.length, S.os ++ [.ins 0 ((insG au nu cap hd pb pt).map fun p => (p.1, .p p.2))]⟩) (gs := insG au nu cap hd pb pt) (Nat.le_refl _) (at_last _ _ _)
  dsimp only
  rw [e]
  dsimp only
  rw [cut_app]
  rfl
section
variable (au nu cap : P) (hd pb pt : List P) (S : SH)
theorem f_author : dFld [0] "author" (.p (insP au nu cap hd pb pt)) S = some (.p au, S) := rfl
theorem f_number : dFld [0] "number" (.p (insP au nu cap hd pb pt)) S = some (.p nu, S) := rfl
theorem f_heard : dFld [0] "heard" (.p (insP au nu cap hd pb pt)) S = some (.p (.tup hd), S) := rfl
theorem f_capability : dFld [0] "capability" (.p (insP au nu cap hd pb pt)) S = some (.p cap, S) := rfl
theorem f_publics : dFld [0] "publics" (.p (insP au nu cap hd pb pt)) S = some (.p (.tup pb), S) := rfl
theorem f_parts : dFld [0] "parts" (.p (insP au nu cap hd pb pt)) S = some (.p (.tup pt), S) := rfl
theorem nT (ps : List P) (h : ps.length ≤ 100) (ds : List D) (e : ds = ps.map D.p) : newT ds S = some (.p (.tup ps), S) := by
  rw [e]
  exact newT_p ps (by have := line_ge; omega)
theorem header_eq : m_Change_header [.p (insP au nu cap hd pb pt)] S = some (.p (.tup [au, nu, .tup hd, cap, .tup pb]), S) := by
  have e := nT ⟨S.os.length, S.os⟩ [au, nu, .tup hd, cap, .tup pb] (by simp) [.p au, .p nu, .p (.tup hd), .p cap, .p (.tup pb)] rfl
  simp [m_Change_header, startD, f_author, f_number, f_heard, f_capability, f_publics, e]
end
theorem sum_t (ns : List Int) (S : SH) : fSum [.p (.tup (intsP ns))] S = some (.p (.int ns.sum), S) := by
  have q := fSum_l (S := S) ns
  unfold fSum at q ⊢
  exact q
theorem key_eq (a n : Int) (cap : P) (h : List Int) (pb pt : List P) (S : SH) : m_order_key [.p (insP (.int a) (.int n) cap (intsP h) pb pt)] S = some (.p (.tup [.int h.sum, .int a, .int n]), S) := by
  have e := nT ⟨S.os.length, S.os⟩ [.int h.sum, .int a, .int n] (by simp) [.p (.int h.sum), .p (.int a), .p (.int n)] rfl
  simp [m_order_key, startD, f_author, f_number, f_heard, sum_t, e]
theorem small {n : Nat} (h : n ≤ 1000) : n ≤ sizeLine := by have := line_ge; omega
theorem meth_at {nm : Str} {m : MF} {a : ME} {r : MA} {σ : En} {S : SH} {gs : List (Str × P)} (ha : a σ S = some (.p (.ins 0 gs), S)) (hn : (gs.map fun p => (p.1, D.p p.2)).lookup nm = none) : dMeth 0 nm m a r σ S = bnd (r σ S) fun xs S2 => m (.p (.ins 0 gs) :: xs) S2 := by
  rw [at_dMeth, ha, bnd_some, fldsOf_p]
  dsimp only
  rw [if_pos ⟨rfl, hn⟩]
theorem at_gTl (n : Nat) {g2 : MGs} (d : D) (σ : En) (S : SH) : gTl n g2 d σ S = match asL d S with
  | some ds => if ds.length = n then g2 ds σ S else none
  | none => none := id rfl
end Kb
namespace Kb
open PySem PySem.Spec PyProof.Rows L2 Pv
structure R4 where
  a : Nat
  n : Nat
  h : List Int
abbrev X4 := R4 × Nat × Nat
def rowO (x : X4) : Ob := .lst [.p (.int (x.1.a : Int)), .p (.int (x.1.n : Int)), .ref x.2.2]
abbrev liO (l : List Int) : Ob := .lst ((intsP l).map D.p)
def RowAt (S : SH) (x : X4) : Prop := S.os[x.2.1]? = some (rowO x) ∧ S.os[x.2.2]? = some (liO x.1.h)
def updF {α : Type} (f : Nat → α) (a : Nat) (v : α) : Nat → α := fun n => if n = a then v else f n
theorem updF_eq {α : Type} (f : Nat → α) (a : Nat) (v : α) : updF f a v a = v := if_pos rfl
theorem updF_ne {α : Type} (f : Nat → α) {a n : Nat} (v : α) (h : n ≠ a) : updF f a v n = f n := if_neg h
def tab {α : Type} (m : Nat) (f : Nat → α) : List α := (List.range m).map f
theorem tab_len {α : Type} (m : Nat) (f : Nat → α) : (tab m f).length = m := by simp [tab]
theorem tab_at {α : Type} {m j : Nat} (f : Nat → α) (h : j < m) : (tab m f)[j]? = some (f j) := by simp [tab, h]
theorem tab_set {α : Type} (m : Nat) (f : Nat → α) (a : Nat) (v : α) : (tab m f).set a v = tab m (updF f a v) := by
  apply List.ext_getElem?
  intro i
  by_cases h : i < m
  · by_cases e : a = i
    · subst e
      rw [List.getElem?_set_self (by rw [tab_len]; exact h), tab_at _ h, updF_eq]
    · rw [List.getElem?_set_ne e, tab_at _ h, tab_at _ h, updF_ne _ _ (Ne.symm e)]
  · rw [List.getElem?_eq_none (by rw [List.length_set, tab_len]; omega), List.getElem?_eq_none (by rw [tab_len]; omega)]
theorem intsP_tab (m : Nat) (f : Nat → Int) : (intsP (tab m f)).map D.p = tab m fun j => D.p (.int (f j)) := by
  unfold intsP tab
  rw [List.map_map, List.map_map]
  rfl
/-! the pure side -/
def cnt (rs : List R4) (j : Nat) : Nat := (rs.filter fun r => r.a = j).length
theorem cnt_app (rs : List R4) (r : R4) (j : Nat) : cnt (rs ++ [r]) j = cnt rs j + (if r.a = j then 1 else 0) := by
  unfold cnt
  rw [List.filter_append, List.length_append]
  by_cases h : r.a = j
  · rw [if_pos h, List.filter_cons_of_pos (by simpa using h)]; rfl
  · rw [if_neg h, List.filter_cons_of_neg (by simpa using h)]; rfl
structure Told (m : Nat) (rs : List R4) : Prop where
  al : ∀ r ∈ rs, r.a < m
  hl : ∀ r ∈ rs, r.h.length = m
  own : ∀ r ∈ rs, r.h[r.a]? = some ((r.n : Int) - 1) ∧ 1 ≤ r.n
  le : ∀ r ∈ rs, ∀ (j : Nat) (x : Int), r.h[j]? = some x → 0 ≤ x ∧ x ≤ cnt rs j
  num : ∀ j, (rs.filter fun r => r.a = j).map (·.n) = List.range' 1 (cnt rs j)
  ord : ∀ (i : Nat) (r : R4), rs[i]? = some r → r.n = cnt (rs.take i) r.a + 1
structure SeenOk (m : Nat) (rs : List R4) (s : Nat → Nat → Int) : Prop where
  le : ∀ i j, i < m → j < m → 0 ≤ s i j ∧ s i j ≤ cnt rs j
  own : ∀ i, i < m → s i i = cnt rs i
theorem told_nil (m : Nat) : Told m [] := ⟨by simp, by simp, by simp, by simp, fun _ => rfl, fun i r h => by cases h⟩
theorem seen_nil (m : Nat) : SeenOk m [] fun _ _ => 0 := ⟨fun _ _ _ _ => ⟨Int.le_refl _, by simp [cnt]⟩, fun _ _ => by simp [cnt]⟩
def mx (u v : Nat → Int) (j : Nat) : Int := if v j > u j then v j else u j
theorem SeenOk.mx {m : Nat} {rs : List R4} {s : Nat → Nat → Int} (h : SeenOk m rs s) {a p : Nat} (ha : a < m) (hp : p < m) : SeenOk m rs (updF s a (mx (s a) (s p))) := by
  refine ⟨fun i j hi hj => ?_, fun i hi => ?_⟩
  · by_cases e : i = a
    · subst e
      rw [updF_eq]
      unfold Kb.mx
      split
      · exact h.le p j hp hj
      · exact h.le i j hi hj
    · rw [updF_ne _ _ e]
      exact h.le i j hi hj
  · by_cases e : i = a
    · subst e
      rw [updF_eq]
      unfold Kb.mx
      have a1 := h.own i hi
      have a2 := (h.le p i hp hi).2
      rw [if_neg (by omega), a1]
    · rw [updF_ne _ _ e]
      exact h.own i hi
theorem told_step {m : Nat} {rs : List R4} {s : Nat → Nat → Int} (t : Told m rs) (h : SeenOk m rs s) {a : Nat} (ha : a < m) : Told m (rs ++ [⟨a, cnt rs a + 1, tab m (s a)⟩]) ∧ SeenOk m (rs ++ [⟨a, cnt rs a + 1, tab m (s a)⟩]) (updF s a (updF (s a) a (s a a + 1))) := by
  have ca : ∀ j, cnt rs j ≤ cnt (rs ++ [⟨a, cnt rs a + 1, tab m (s a)⟩]) j := fun j => by rw [cnt_app]; omega
  refine ⟨⟨fun r hr => ?_, fun r hr => ?_, fun r hr => ?_, fun r hr j x hx => ?_, fun j => ?_, fun i r hr => ?_⟩, ⟨fun i j hi hj => ?_, fun i hi => ?_⟩⟩
  · rcases List.mem_append.mp hr with hr | hr
    · exact t.al r hr
    · rw [List.mem_singleton.mp hr]; exact ha
  · rcases List.mem_append.mp hr with hr | hr
    · exact t.hl r hr
    · rw [List.mem_singleton.mp hr]; exact tab_len _ _
  · rcases List.mem_append.mp hr with hr | hr
    · exact t.own r hr
    · rw [List.mem_singleton.mp hr]
      refine ⟨?_, by show 1 ≤ cnt rs a + 1; omega⟩
      show (tab m (s a))[a]? = some (((cnt rs a + 1 : Nat) : Int) - 1)
      rw [tab_at _ ha, h.own a ha]
      congr 1
      omega
  · have c := ca j
    rcases List.mem_append.mp hr with hr | hr
    · have := t.le r hr j x hx
      omega
    · rw [List.mem_singleton.mp hr] at hx
      have hx' : (tab m (s a))[j]? = some x := hx
      have hj : j < m := by
        have := (List.getElem?_eq_some_iff.mp hx').1
        rwa [tab_len] at this
      rw [tab_at _ hj] at hx'
      cases hx'
      have := h.le a j ha hj
      omega
  · rw [cnt_app, List.filter_append, List.map_append, t.num j]
    by_cases e : a = j
    · subst e
      rw [if_pos rfl, List.filter_cons_of_pos (by simp), List.range'_concat]
      simp
      omega
    · rw [if_neg e, List.filter_cons_of_neg (by simpa using e)]
      simp
  · by_cases hi : i < rs.length
    · rw [List.getElem?_append_left hi] at hr
      rw [List.take_append_of_le_length (by omega)]
      exact t.ord i r hr
    · have hi2 : i = rs.length := by
        have := (List.getElem?_eq_some_iff.mp hr).1
        rw [List.length_append, List.length_singleton] at this
        omega
      subst hi2
      rw [List.getElem?_append_right (Nat.le_refl _), Nat.sub_self] at hr
      cases hr
      rw [List.take_append_of_le_length (Nat.le_refl _), List.take_length]
  · have c := ca j
    have q := h.le i j hi hj
    by_cases e : i = a
    · subst e
      rw [updF_eq]
      by_cases e2 : j = i
      · subst e2
        rw [updF_eq, cnt_app, if_pos rfl]
        omega
      · rw [updF_ne _ _ e2]
        omega
    · rw [updF_ne _ _ e]
      omega
  · rw [cnt_app]
    by_cases e : i = a
    · subst e
      rw [updF_eq, updF_eq, h.own i hi, if_pos rfl]
      omega
    · rw [updF_ne _ _ e, h.own i hi]
      rw [if_neg (fun z => e z.symm)]
      omega
/-! the objects -/
theorem put_ne {S : SH} {p q : Nat} {o x : Ob} (h : q ≠ p) (e : S.os[q]? = some x) : (S.put p o).os[q]? = some x := by
  show (S.os.set p o)[q]? = _
  rw [List.getElem?_set_ne (Ne.symm h), e]
theorem put_eq {S : SH} {p : Nat} {o x : Ob} (e : S.os[p]? = some x) : (S.put p o).os[p]? = some o := by
  show (S.os.set p o)[p]? = _
  exact List.getElem?_set_self (List.getElem?_eq_some_iff.mp e).1
theorem get_lt {S : SH} {q : Nat} {x : Ob} (e : S.os[q]? = some x) : q < S.os.length := (List.getElem?_eq_some_iff.mp e).1
theorem push_old {S : SH} {q : Nat} {x y : Ob} (e : S.os[q]? = some x) : (S.push y).os[q]? = some x := by
  show (S.os ++ [y])[q]? = _
  rw [List.getElem?_append_left (get_lt e), e]
theorem push_new (S : SH) (y : Ob) : (S.push y).os[S.os.length]? = some y := by simp
structure TJ (S : SH) (m : Nat) (s : Nat → Nat → Int) (ids : Nat → Nat) (L : Nat) (xs : List X4) (κ : Nat → Nat × Nat) : Prop where
  b : S.b = 0
  root : S.os[0]? = some (.lst (tab m fun j => .ref (ids j)))
  k0 : κ 0 = (0, 0)
  rows : S.os[L]? = some (.lst (xs.map fun x => .ref x.2.1))
  kL : κ L = (1, 0)
  sn : ∀ j, j < m → κ (ids j) = (2, j) ∧ S.os[ids j]? = some (liO (tab m (s j)))
  rw : ∀ (k : Nat) (x : X4), xs[k]? = some x → κ x.2.1 = (3, k) ∧ κ x.2.2 = (4, k) ∧ RowAt S x
section
variable {S : SH} {m : Nat} {s : Nat → Nat → Int} {ids : Nat → Nat} {L : Nat} {xs : List X4} {κ : Nat → Nat × Nat}
theorem kne {i j : Nat} {x y : Nat × Nat} (h1 : κ i = x) (h2 : κ j = y) (h : x ≠ y) : i ≠ j := fun e => by
  subst e
  exact h (h1.symm.trans h2)
theorem kn {n : Nat} {x : Ob} {v : Nat × Nat} (e : S.os[n]? = some x) : updF κ S.os.length v n = κ n := updF_ne _ _ (Nat.ne_of_lt (get_lt e))
theorem TJ.seenPut (h : TJ S m s ids L xs κ) {a : Nat} (ha : a < m) (f : Nat → Int) : TJ (S.put (ids a) (liO (tab m f))) m (updF s a f) ids L xs κ := by
  obtain ⟨ka, ea⟩ := h.sn a ha
  refine ⟨h.b, put_ne (kne h.k0 ka (by simp)) h.root, h.k0, put_ne (kne h.kL ka (by simp)) h.rows, h.kL, fun j hj => ?_, fun k x hx => ?_⟩
  · obtain ⟨kj, ej⟩ := h.sn j hj
    refine ⟨kj, ?_⟩
    by_cases e : j = a
    · subst e
      rw [updF_eq]
      exact put_eq ea
    · rw [updF_ne _ _ e]
      exact put_ne (kne kj ka (by simpa using e)) ej
  · obtain ⟨k1, k2, r1, r2⟩ := h.rw k x hx
    exact ⟨k1, k2, put_ne (kne k1 ka (by simp)) r1, put_ne (kne k2 ka (by simp)) r2⟩
theorem TJ.seenNew (h : TJ S m s ids L xs κ) {a : Nat} (ha : a < m) (f : Nat → Int) : TJ ((S.push (liO (tab m f))).put 0 (.lst (tab m fun j => .ref (updF ids a S.os.length j)))) m (updF s a f) (updF ids a S.os.length) L xs (updF κ S.os.length (2, a)) := by
  have e0 : updF κ S.os.length (2, a) 0 = (0, 0) := (kn h.root).trans h.k0
  have eL : updF κ S.os.length (2, a) L = (1, 0) := (kn h.rows).trans h.kL
  refine ⟨h.b, put_eq (push_old h.root), e0, put_ne (kne eL e0 (by simp)) (push_old h.rows), eL, fun j hj => ?_, fun k x hx => ?_⟩
  · by_cases e : j = a
    · subst e
      rw [updF_eq, updF_eq, updF_eq]
      exact ⟨rfl, put_ne (Nat.ne_of_gt (get_lt h.root)) (push_new _ _)⟩
    · obtain ⟨kj, ej⟩ := h.sn j hj
      rw [updF_ne _ _ e, updF_ne _ _ e]
      exact ⟨(kn ej).trans kj, put_ne (kne kj h.k0 (by simp)) (push_old ej)⟩
  · obtain ⟨k1, k2, r1, r2⟩ := h.rw k x hx
    exact ⟨(kn r1).trans k1, (kn r2).trans k2, put_ne (kne k1 h.k0 (by simp)) (push_old r1), put_ne (kne k2 h.k0 (by simp)) (push_old r2)⟩
theorem TJ.addRow (h : TJ S m s ids L xs κ) (r : R4) : TJ (((S.push (liO r.h)).push (rowO (r, S.os.length + 1, S.os.length))).put L (.lst ((xs ++ [(r, S.os.length + 1, S.os.length)]).map fun x => .ref x.2.1))) m s ids L (xs ++ [(r, S.os.length + 1, S.os.length)]) (updF (updF κ S.os.length (4, xs.length)) (S.os.length + 1) (3, xs.length)) := by
  have kk : ∀ {n : Nat} {x : Ob}, S.os[n]? = some x → updF (updF κ S.os.length (4, xs.length)) (S.os.length + 1) (3, xs.length) n = κ n := fun {n x} e => by
    have := get_lt e
    rw [updF_ne _ _ (by omega), updF_ne _ _ (by omega)]
  have e0 := (kk h.root).trans h.k0
  have eL := (kk h.rows).trans h.kL
  refine ⟨h.b, put_ne (kne h.k0 h.kL (by simp)) (push_old (push_old h.root)), e0, put_eq (push_old (push_old h.rows)), eL, fun j hj => ?_, fun k x hx => ?_⟩
  · obtain ⟨kj, ej⟩ := h.sn j hj
    exact ⟨(kk ej).trans kj, put_ne (kne kj h.kL (by simp)) (push_old (push_old ej))⟩
  · by_cases hk : k < xs.length
    · rw [List.getElem?_append_left hk] at hx
      obtain ⟨k1, k2, r1, r2⟩ := h.rw k x hx
      exact ⟨(kk r1).trans k1, (kk r2).trans k2, put_ne (kne k1 h.kL (by simp)) (push_old (push_old r1)), put_ne (kne k2 h.kL (by simp)) (push_old (push_old r2))⟩
    · have hk2 : k = xs.length := by
        have := (List.getElem?_eq_some_iff.mp hx).1
        rw [List.length_append, List.length_singleton] at this
        omega
      subst hk2
      rw [List.getElem?_append_right (Nat.le_refl _), Nat.sub_self] at hx
      cases hx
      have lL := get_lt h.rows
      have l2 : (S.push (liO r.h)).os.length = S.os.length + 1 := by simp
      refine ⟨updF_eq _ _ _, ?_, ?_, ?_⟩
      · show updF _ _ _ S.os.length = _
        rw [updF_ne _ _ (by omega), updF_eq]
      · refine put_ne (show S.os.length + 1 ≠ L by omega) ?_
        rw [← l2]
        exact push_new _ _
      · exact put_ne (show S.os.length ≠ L by omega) (push_old (push_new _ _))
end
end Kb
namespace Kb
open PySem PySem.Spec PyProof.Rows L2 Pv
theorem at_nat {ds : List Int} (hd : ∀ d ∈ ds, 0 ≤ d ∧ d < 9973) (i : Int) (h0 : 0 ≤ i) : ∃ u : Nat, u < 9973 ∧ ∀ S, m_at [.p (.lst (intsP ds)), .p (.int i)] S = some (.p (.int (u : Int)), S) := by
  have h := atD_r hd h0
  refine ⟨(atD ds i).toNat, by omega, fun S => ?_⟩
  rw [at_eq ds i h0 S, Int.toNat_of_nonneg h.1]
theorem mod_eq {n m : Nat} (hm : 0 < m) (S : SH) : fMod (.p (.int (n : Int))) (.p (.int (m : Int))) S = some (.p (.int ((n % m : Nat) : Int)), S) := by
  have h : (0 : Int) < (m : Int) := by omega
  refine (fII_eq _ _ _ _ S).trans ?_
  rw [if_pos (decide_eq_true h), Int.natCast_emod]
section
variable {S : SH} {n : Nat} {ds : List D}
theorem setIx_rr {i : Nat} {v : D} (hm : S.os[n]? = some (.lst ds)) (h : i < ds.length) (hv : okRef S n v = true) : setIx (.ref n) (.p (.int (i : Int))) v S = some (S.put n (.lst (ds.set i v))) := by
  have e : ixN ds.length (i : Int) = some i := by
    unfold ixN
    rw [if_pos (by omega), if_pos (by omega)]
    simp
  unfold setIx
  dsimp only
  rw [hm]
  dsimp only
  rw [e]
  dsimp only
  rw [if_pos hv]
theorem fApp_r {v : D} (hm : S.os[n]? = some (.lst ds)) (hl : ds.length < sizeLine) (hv : okRef S n v = true) : fApp [.ref n, v] S = some (.p .non, S.put n (.lst (ds ++ [v]))) := by
  unfold fApp
  dsimp only
  rw [hm]
  dsimp only
  rw [if_pos ⟨hl, hv⟩]
theorem fIx_rn {i : Nat} {d : D} (hm : S.os[n]? = some (.lst ds)) (h : ds[i]? = some d) : fIx (.ref n) (.p (.int (i : Int))) S = some (d, S) := fIx_ri hm (by omega) (by simpa using h)
theorem okRef_0 {k : Nat} {v : D} (hb : S.b = 0) : okRef S k v = true := by
  cases v with
  | p x => rfl
  | ref j => show decide (S.b ≤ k) = true; rw [hb]; simp
theorem fList_r {live : Bool} (hm : S.os[n]? = some (.lst ds)) : fList live [.ref n] S = newL live ds S := by
  unfold fList asQ
  dsimp only
  rw [hm]
end
theorem ints_at {m j : Nat} {f : Nat → Int} (h : j < m) : ((intsP (tab m f)).map D.p)[j]? = some (.p (.int (f j))) := by
  rw [intsP_tab, tab_at _ h]
/-! the first loop of told -/
abbrev z4 (m : Nat) : Ob := liO (tab m fun _ => 0)
def S0 (m k : Nat) : SH := ⟨0, .lst (tab k fun j => .ref (1 + j)) :: List.replicate k (z4 m)⟩
abbrev t1B : MS := dDrop (dBM "list" fApp (dVar 2) (dCons (dComp true (dRng1 (dCons (dVar 1) dNil)) (gNm 7) dYes (dC (.int 0)) [7]) dNil))
theorem tab_succ {α : Type} (k : Nat) (f : Nat → α) : tab (k + 1) f = tab k f ++ [f k] := by
  unfold tab
  rw [List.range_succ, List.map_append]
  rfl
theorem rng_nat (m : Nat) (h : m ≤ 1000000) (S : SH) : rng1 [.p (.int (m : Int))] S = some (srcN 0 m, S) := srt_rng m (by omega)
theorem comp_tab {elt : ME} {σ : En} {S : SH} {j m : Nat} (f : Nat → D) (hm : m ≤ 1000) (h : ∀ i, i < m → elt (σ.set j (some (.p (.int (i : Int))))) S = some (f i, S)) :
    compL (srcN 0 m).fin (gNm j) dYes elt σ (srcN 0 m).items [] S = some (tab m f, S) := by
  rw [comp_rng (S := S) (j := j) (t := dYes) (elt := elt) (σ := σ) (fun _ => true) f m (small hm) fun i hi => ⟨rfl, fun _ => h i hi⟩, List.filter_eq_self.mpr fun _ _ => rfl]
  rfl
theorem t1_step (dp : P) (m k : Nat) (hm : m ≤ 6) (hk : k < m) : t1B [some (.p dp), some (.p (.int (m : Int))), some (.ref 0), some (.p (.int (k : Int))), none, none, none, none] (S0 m k) =
    some (.nx [some (.p dp), some (.p (.int (m : Int))), some (.ref 0), some (.p (.int (k : Int))), none, none, none, none], S0 m (k + 1)) := by
  have e0 : (S0 m k).os[0]? = some (.lst (tab k fun j => .ref (1 + j))) := rfl
  have cp := comp_tab (S := S0 m k) (j := 7) (elt := dC (.int 0)) (σ := [some (.p dp), some (.p (.int (m : Int))), some (.ref 0), some (.p (.int (k : Int))), none, none, none, none]) (fun _ => .p (.int 0)) (m := m) (by omega) fun i hi => rfl
  have ln : (S0 m k).os.length = 1 + k := by simp [S0]; omega
  have nl := newL_t (S := S0 m k) (tab m fun _ => .p (.int 0)) (small (by rw [tab_len]; omega))
  rw [ln] at nl
  have ap := fApp_r (S := (S0 m k).push (z4 m)) (n := 0) (ds := tab k fun j => .ref (1 + j)) (v := .ref (1 + k)) (push_old e0) (Nat.lt_of_le_of_lt (by rw [tab_len]; omega : _ ≤ 6) (Nat.lt_of_lt_of_le (by decide : 6 < 1000000) line_ge)) rfl
  have ez : (⟨(S0 m k).b, (S0 m k).os ++ [.lst (tab m fun _ => .p (.int 0))]⟩ : SH) = (S0 m k).push (z4 m) := by
    unfold z4 liO
    rw [intsP_tab]
  rw [ez] at nl
  rw [← tab_succ k fun j => D.ref (1 + j)] at ap
  have es : ((S0 m k).push (z4 m)).put 0 (.lst (tab (k + 1) fun j => .ref (1 + j))) = S0 m (k + 1) := by
    unfold S0 SH.put
    show (⟨0, (Ob.lst _ :: (List.replicate k (z4 m) ++ [z4 m]))⟩ : SH) = _
    rw [← List.replicate_succ']
  rw [es] at ap
  unfold t1B
  simp only [at_dDrop, at_dBM, at_dVar, bnd_some, List.getElem?_cons_zero, List.getElem?_cons_succ, isTy_ref e0, if_true, at_dCons, at_dComp, at_dRng1, at_dNil, rng_nat m (by omega), wipeD, List.set_cons_zero, List.set_cons_succ, cp, nl, ap]
theorem t1_loop (dp : P) (m : Nat) (hm : m ≤ 6) : forL [3, 4, 5, 6] (srcN 0 m).fin (gNm 3) t1B (srcN 0 m).items [some (.p dp), some (.p (.int (m : Int))), some (.ref 0), none, none, none, none, none] (S0 m 0) =
    some (.nx [some (.p dp), some (.p (.int (m : Int))), some (.ref 0), none, none, none, none, none], S0 m m) := by
  obtain ⟨σ', S', h1, rfl, rfl⟩ := rng0_inv (body := t1B) (ws := [3, 4, 5, 6]) (j := 3) (fun k σ S => σ = [some (.p dp), some (.p (.int (m : Int))), some (.ref 0), none, none, none, none, none] ∧ S = S0 m k) m (σ := [some (.p dp), some (.p (.int (m : Int))), some (.ref 0), none, none, none, none, none]) (S := S0 m 0) ⟨rfl, rfl⟩ (by
    rintro k σ S hk ⟨rfl, rfl⟩
    exact ⟨_, _, .inl (t1_step dp m k hm hk), rfl, rfl⟩)
  exact h1
theorem tj_init (m : Nat) (hm : 1 ≤ m) : TJ ((S0 m m).push (.lst [])) m (fun _ _ => 0) (fun j => 1 + j) (m + 1) [] (fun n => if n = 0 then (0, 0) else if n = m + 1 then (1, 0) else (2, n - 1)) := by
  have ln : (S0 m m).os.length = m + 1 := by simp [S0]
  refine ⟨rfl, rfl, rfl, ?_, by simp, fun j hj => ⟨?_, ?_⟩, fun k x hx => by cases hx⟩
  · rw [← ln]
    exact push_new _ _
  · show (if 1 + j = 0 then _ else if 1 + j = m + 1 then _ else _) = _
    rw [if_neg (by omega), if_neg (by omega), show 1 + j - 1 = j by omega]
  · refine push_old ?_
    show (Ob.lst _ :: List.replicate m (z4 m))[1 + j]? = _
    rw [show 1 + j = j + 1 by omega, List.getElem?_cons_succ, List.getElem?_replicate, if_pos hj]
/-! the second loop -/
abbrev t2A : MS := dIf (dTest (dOp fLt (dVar 6) (dVar 1)))
      (dAsg (dComp true (dRng1 (dCons (dVar 1) dNil)) (gNm 7) dYes (dCall fMax (dCons (dOp fIx (dOp fIx (dVar 2) (dVar 5)) (dVar 7)) (dCons (dOp fIx (dOp fIx (dVar 2) (dVar 6)) (dVar 7)) dNil))) [7]) (gSb (dVar 2) (dVar 5)))
      dNx
abbrev t2R : MS := dSeq (dDrop (dBM "list" fApp (dVar 4) (dCons (dLst true (dCons (dVar 5) (dCons (dOp (fAdd false) (dOp fIx (dOp fIx (dVar 2) (dVar 5)) (dVar 5)) (dC (.int 1))) (dCons (dCall (fList true) (dCons (dOp fIx (dVar 2) (dVar 5)) dNil)) dNil)))) dNil)))
    (dAsg (dOp (fAdd false) (dOp fIx (dOp fIx (dVar 2) (dVar 5)) (dVar 5)) (dC (.int 1))) (gSb (dOp fIx (dVar 2) (dVar 5)) (dVar 5)))
abbrev t2B : MS := (dSeq (dSet 5 (dOp fMod (dCall m_at (dCons (dVar 0) (dCons (dOp (fAdd false) (dC (.int 10)) (dOp fMul (dC (.int 3)) (dVar 3))) dNil))) (dVar 1)))
    (dSeq (dSet 6 (dOp fMod (dCall m_at (dCons (dVar 0) (dCons (dOp (fAdd false) (dC (.int 11)) (dOp fMul (dC (.int 3)) (dVar 3))) dNil))) (dOp fMul (dC (.int 2)) (dVar 1))))
    (dSeq t2A t2R)))
section
variable {S : SH} {m : Nat} {s : Nat → Nat → Int} {ids : Nat → Nat} {L : Nat} {xs : List X4} {κ : Nat → Nat × Nat}
theorem TJ.ix (h : TJ S m s ids L xs κ) {a : Nat} (ha : a < m) : fIx (.ref 0) (.p (.int (a : Int))) S = some (.ref (ids a), S) := fIx_rn h.root (tab_at _ ha)
theorem TJ.ix2 (h : TJ S m s ids L xs κ) {a j : Nat} (ha : a < m) (hj : j < m) : fIx (.ref (ids a)) (.p (.int (j : Int))) S = some (.p (.int (s a j)), S) := fIx_rn (h.sn a ha).2 (ints_at hj)
theorem t2a_eq (h : TJ S m s ids L xs κ) {rs : List R4} (o : SeenOk m rs s) (hm : m ≤ 6) (dp kp : P) {a p : Nat} (ha : a < m) : ∃ S' s' ids' κ', t2A [some (.p dp), some (.p (.int (m : Int))), some (.ref 0), some (.p kp), some (.ref L), some (.p (.int (a : Int))), some (.p (.int (p : Int))), none] S =
    some (.nx [some (.p dp), some (.p (.int (m : Int))), some (.ref 0), some (.p kp), some (.ref L), some (.p (.int (a : Int))), some (.p (.int (p : Int))), none], S') ∧ TJ S' m s' ids' L xs κ' ∧ SeenOk m rs s' := by
  by_cases hp : p < m
  · have hp2 : (p : Int) < (m : Int) := by omega
    refine ⟨_, _, _, _, ?_, h.seenNew ha (mx (s a) (s p)), o.mx ha hp⟩
    have cp := comp_tab (S := S) (j := 7) (elt := dCall fMax (dCons (dOp fIx (dOp fIx (dVar 2) (dVar 5)) (dVar 7)) (dCons (dOp fIx (dOp fIx (dVar 2) (dVar 6)) (dVar 7)) dNil))) (σ := [some (.p dp), some (.p (.int (m : Int))), some (.ref 0), some (.p kp), some (.ref L), some (.p (.int (a : Int))), some (.p (.int (p : Int))), none]) (fun j => .p (.int (mx (s a) (s p) j))) (m := m) (by omega) fun i hi => by
      simp only [at_dCall, at_dCons, at_dOp, at_dVar, at_dNil, bnd_some, List.set_cons_zero, List.set_cons_succ, List.getElem?_cons_zero, List.getElem?_cons_succ, h.ix ha, h.ix hp, h.ix2 ha hi, h.ix2 hp hi, fMax_i]
      rfl
    have nl := newL_t (S := S) (tab m fun j => .p (.int (mx (s a) (s p) j))) (small (by rw [tab_len]; omega))
    rw [← intsP_tab] at nl
    have st := setIx_rr (S := S.push (liO (tab m (mx (s a) (s p))))) (n := 0) (ds := tab m fun j => .ref (ids j)) (i := a) (v := .ref S.os.length) (push_old h.root) (by rw [tab_len]; exact ha) (okRef_0 h.b)
    rw [tab_set] at st
    have e2 : (updF (fun j => D.ref (ids j)) a (D.ref S.os.length)) = fun j => D.ref (updF ids a S.os.length j) := by
      funext j
      unfold updF
      split <;> rfl
    rw [e2] at st
    rw [← intsP_tab] at cp
    unfold t2A
    simp only [at_dIf, at_dTest, at_dOp, at_dVar, bnd_some, List.getElem?_cons_zero, List.getElem?_cons_succ, fII_eq, if_true, toB_p, hp2, decide_true, at_dAsg, at_dComp, at_dRng1, at_dCons, at_dNil, rng_nat m (by omega), wipeD, List.set_cons_zero, List.set_cons_succ, cp, nl, at_gSb, st]
  · have hp2 : ¬ (p : Int) < (m : Int) := by omega
    refine ⟨S, s, ids, κ, ?_, h, o⟩
    unfold t2A
    simp only [at_dIf, at_dTest, at_dOp, at_dVar, bnd_some, List.getElem?_cons_zero, List.getElem?_cons_succ, fII_eq, if_true, toB_p, hp2, decide_false, Bool.false_eq_true, if_false, at_dNx]
theorem t2r_eq (h : TJ S m s ids L xs κ) (o : SeenOk m (xs.map (·.1)) s) (t : Told m (xs.map (·.1))) (hx : xs.length ≤ 100) (hm : m ≤ 6) (dp kp pp : P) {a : Nat} (ha : a < m) : ∃ S' s' ids' x κ', t2R [some (.p dp), some (.p (.int (m : Int))), some (.ref 0), some (.p kp), some (.ref L), some (.p (.int (a : Int))), some (.p pp), none] S =
    some (.nx [some (.p dp), some (.p (.int (m : Int))), some (.ref 0), some (.p kp), some (.ref L), some (.p (.int (a : Int))), some (.p pp), none], S') ∧ TJ S' m s' ids' L (xs ++ [x]) κ' ∧ SeenOk m ((xs ++ [x]).map (·.1)) s' ∧ Told m ((xs ++ [x]).map (·.1)) := by
  have q := h.addRow ⟨a, cnt (xs.map (·.1)) a + 1, tab m (s a)⟩
  have q2 := q.seenPut ha (updF (s a) a (s a a + 1))
  obtain ⟨t2, o2⟩ := told_step t o ha
  refine ⟨_, _, _, _, _, ?_, q2, by rw [List.map_append]; exact o2, by rw [List.map_append]; exact t2⟩
  have n1 := newL_t (S := S) (tab m fun j => .p (.int (s a j))) (small (by rw [tab_len]; omega))
  rw [← intsP_tab] at n1
  have f1 := fList_r (live := true) (h.sn a ha).2
  rw [n1] at f1
  have hn : s a a + 1 = ((cnt (xs.map (·.1)) a + 1 : Nat) : Int) := by rw [o.own a ha]; omega
  have n2 : newL true [.p (.int (a : Int)), .p (.int (s a a + 1)), .ref S.os.length] (S.push (liO (tab m (s a)))) = some (.ref (S.os.length + 1), (S.push (liO (tab m (s a)))).push (rowO (⟨a, cnt (xs.map (·.1)) a + 1, tab m (s a)⟩, S.os.length + 1, S.os.length))) := by
    rw [newL_t _ (small (by simp)), hn]
    simp [rowO]
  have ap := fApp_r (S := (S.push (liO (tab m (s a)))).push (rowO (⟨a, cnt (xs.map (·.1)) a + 1, tab m (s a)⟩, S.os.length + 1, S.os.length))) (n := L) (v := .ref (S.os.length + 1)) (push_old (push_old h.rows)) (Nat.lt_of_le_of_lt (by rw [List.length_map]; omega : _ ≤ 100) (Nat.lt_of_lt_of_le (by decide : 100 < 1000000) line_ge)) (okRef_0 h.b)
  have em : (xs.map fun x => D.ref x.2.1) ++ [D.ref (S.os.length + 1)] = (xs ++ [((⟨a, cnt (xs.map (·.1)) a + 1, tab m (s a)⟩ : R4), S.os.length + 1, S.os.length)]).map fun x => D.ref x.2.1 := by
    rw [List.map_append]; rfl
  rw [em] at ap
  have ty := isTy_ref h.rows
  have st := setIx_ri (v := .int (s a a + 1)) (i := (a : Int)) (q.sn a ha).2 (by omega) (by rw [List.length_map, intsP_len, tab_len]; simpa using ha)
  rw [intsP_tab, Int.toNat_natCast, tab_set] at st
  have e2 : (updF (fun j => D.p (.int (s a j))) a (D.p (.int (s a a + 1)))) = fun j => D.p (.int (updF (s a) a (s a a + 1) j)) := by
    funext j
    unfold updF
    split <;> rfl
  rw [e2, ← intsP_tab] at st
  unfold t2R
  simp only [at_dSeq, at_dDrop, at_dBM, at_dVar, bnd_some, List.getElem?_cons_zero, List.getElem?_cons_succ, ty, if_true, at_dCons, at_dLst, at_dOp, at_dC, at_dCall, at_dNil, h.ix ha, h.ix2 ha ha, fAdd_i, f1, n2, ap, seqK_nx, at_dAsg, q.ix ha, q.ix2 ha ha, at_gSb, st]
theorem t2_step (h : TJ S m s ids L xs κ) (o : SeenOk m (xs.map (·.1)) s) (t : Told m (xs.map (·.1))) (hx : xs.length ≤ 100) (hm : 1 ≤ m ∧ m ≤ 6) {ds : List Int} (hd : ∀ d ∈ ds, 0 ≤ d ∧ d < 9973) (k : Nat) : ∃ σ2 S' s' ids' x κ', t2B [some (.p (.lst (intsP ds))), some (.p (.int (m : Int))), some (.ref 0), some (.p (.int (k : Int))), some (.ref L), none, none, none] S =
    some (.nx σ2, S') ∧ wipeD [3, 5, 6] σ2 = [some (.p (.lst (intsP ds))), some (.p (.int (m : Int))), some (.ref 0), none, some (.ref L), none, none, none] ∧ TJ S' m s' ids' L (xs ++ [x]) κ' ∧ SeenOk m ((xs ++ [x]).map (·.1)) s' ∧ Told m ((xs ++ [x]).map (·.1)) := by
  obtain ⟨u, hu, a1⟩ := at_nat hd (10 + 3 * (k : Int)) (by omega)
  obtain ⟨v, hv, a2⟩ := at_nat hd (11 + 3 * (k : Int)) (by omega)
  have ha : u % m < m := Nat.mod_lt _ (by omega)
  obtain ⟨S1, s1, ids1, κ1, e1, h1, o1⟩ := t2a_eq h o hm.2 (.lst (intsP ds)) (.int (k : Int)) (a := u % m) (p := v % (2 * m)) ha
  obtain ⟨S2, s2, ids2, x, κ2, e2, h2, o2, t2⟩ := t2r_eq h1 o1 t hx hm.2 (.lst (intsP ds)) (.int (k : Int)) (.int ((v % (2 * m) : Nat) : Int)) ha
  refine ⟨[some (.p (.lst (intsP ds))), some (.p (.int (m : Int))), some (.ref 0), some (.p (.int (k : Int))), some (.ref L), some (.p (.int ((u % m : Nat) : Int))), some (.p (.int ((v % (2 * m) : Nat) : Int))), none], S2, s2, ids2, x, κ2, ?_, ?_, h2, o2, t2⟩
  · have m1 : mulOk 3 (k : Int) = true := mulOk_l (by decide)
    have m2 : mulOk 2 (m : Int) = true := mulOk_l (by decide)
    have c2 : (2 : Int) * (m : Int) = ((2 * m : Nat) : Int) := by omega
    have r1 := fun T => mod_eq (n := u) (m := m) (by omega) T
    have r2 := fun T => mod_eq (n := v) (m := 2 * m) (by omega) T
    have w3 : ∀ T, fMul (.p (.int 3)) (.p (.int (k : Int))) T = some (.p (.int (3 * (k : Int))), T) := fun T => (fII_eq _ _ _ _ T).trans (if_pos m1)
    have w2 : ∀ T, fMul (.p (.int 2)) (.p (.int (m : Int))) T = some (.p (.int ((2 * m : Nat) : Int)), T) := fun T => (fII_eq _ _ _ _ T).trans (by rw [if_pos m2, c2])
    unfold t2B
    rw [at_dSeq]
    simp only [at_dSet, at_dOp, at_dCall, at_dCons, at_dVar, at_dC, at_dNil, bnd_some, List.getElem?_cons_zero, List.getElem?_cons_succ, w3, fAdd_i, a1, r1, seqK_nx, List.set_cons_zero, List.set_cons_succ]
    rw [at_dSeq]
    simp only [at_dSet, at_dOp, at_dCall, at_dCons, at_dVar, at_dC, at_dNil, bnd_some, List.getElem?_cons_zero, List.getElem?_cons_succ, w3, w2, fAdd_i, a2, r2, seqK_nx, List.set_cons_zero, List.set_cons_succ]
    rw [at_dSeq, e1, bnd_some, seqK_nx, e2]
  · rfl
end
end Kb
namespace Kb
open PySem PySem.Spec PyProof.Rows L2 Pv
structure RW (S : SH) (L : Nat) (xs : List X4) : Prop where
  rows : S.os[L]? = some (.lst (xs.map fun x => .ref x.2.1))
  ats : ∀ x ∈ xs, RowAt S x
  nd : (xs.map fun x => x.2.2).Nodup
theorem TJ.rws {S : SH} {m : Nat} {s : Nat → Nat → Int} {ids : Nat → Nat} {L : Nat} {xs : List X4} {κ : Nat → Nat × Nat} (h : TJ S m s ids L xs κ) : RW S L xs := by
  refine ⟨h.rows, fun x hx => ?_, ?_⟩
  · obtain ⟨k, hk, rfl⟩ := List.getElem_of_mem hx
    exact (h.rw k _ (List.getElem?_eq_getElem hk)).2.2
  · refine List.pairwise_iff_getElem.mpr fun i j hi hj hij e => ?_
    rw [List.length_map] at hi hj
    have e' : (xs[i]).2.2 = (xs[j]).2.2 := by simpa using e
    have k1 := (h.rw i _ (List.getElem?_eq_getElem (by omega))).2.1
    have k2 := (h.rw j _ (List.getElem?_eq_getElem hj)).2.1
    rw [e', k2] at k1
    simp at k1
    omega
theorem told_eq {ds : List Int} (hd : ∀ d ∈ ds, 0 ≤ d ∧ d < 9973) : ∃ (m : Nat) (xs : List X4) (L T : Nat) (S' : SH), (1 ≤ m ∧ m ≤ 6) ∧ xs.length ≤ 12 ∧ m_told [.p (.lst (intsP ds))] ⟨0, []⟩ = some (.ref T, S') ∧ S'.b = 0 ∧ S'.os[T]? = some (.lst [.p (.int (m : Int)), .ref L]) ∧ RW S' L xs ∧ Told m (xs.map (·.1)) := by
  obtain ⟨u, hu, a1⟩ := at_nat hd 0 (by omega)
  obtain ⟨v, hv, a2⟩ := at_nat hd 1 (by omega)
  have hm : 1 ≤ 1 + u % 8 % 6 ∧ 1 + u % 8 % 6 ≤ 6 := by omega
  generalize em : 1 + u % 8 % 6 = m at hm
  have c1 : ∀ T, fMod (.p (.int (u : Int))) (.p (.int 8)) T = some (.p (.int ((u % 8 : Nat) : Int)), T) := fun T => mod_eq (by decide) T
  have c2 : ∀ T, fMod (.p (.int ((u % 8 : Nat) : Int))) (.p (.int 6)) T = some (.p (.int ((u % 8 % 6 : Nat) : Int)), T) := fun T => mod_eq (by decide) T
  have c3 : (1 : Int) + ((u % 8 % 6 : Nat) : Int) = (m : Int) := by omega
  have c4 : ∀ T, fMod (.p (.int (v : Int))) (.p (.int 13)) T = some (.p (.int ((v % 13 : Nat) : Int)), T) := fun T => mod_eq (by decide) T
  have ln : (S0 m m).os.length = m + 1 := by simp [S0]
  have n0 : newL true [] (⟨0, []⟩ : SH) = some (.ref 0, S0 m 0) := by
    rw [newL_t _ (small (by simp))]
    rfl
  have n1 : newL true [] (S0 m m) = some (.ref (m + 1), (S0 m m).push (.lst [])) := by
    rw [newL_t _ (small (by simp)), ln]
  obtain ⟨σ', S', h1, ⟨xs, s, ids, κ, rfl, hx, tj, o, t⟩⟩ := rng0_inv (body := t2B) (ws := [3, 5, 6]) (j := 3) (fun k σ S => ∃ xs s ids κ, σ = [some (.p (.lst (intsP ds))), some (.p (.int (m : Int))), some (.ref 0), none, some (.ref (m + 1)), none, none, none] ∧ xs.length = k ∧ TJ S m s ids (m + 1) xs κ ∧ SeenOk m (xs.map (·.1)) s ∧ Told m (xs.map (·.1))) (v % 13)
    (σ := [some (.p (.lst (intsP ds))), some (.p (.int (m : Int))), some (.ref 0), none, some (.ref (m + 1)), none, none, none]) (S := (S0 m m).push (.lst [])) ⟨[], _, _, _, rfl, rfl, tj_init m hm.1, seen_nil m, told_nil m⟩ (by
    rintro k σ S hk ⟨xs, s, ids, κ, rfl, hx, tj, o, t⟩
    obtain ⟨σ2, S2, s2, ids2, x, κ2, e1, e2, h2, o2, t2⟩ := t2_step tj o t (by omega) hm hd k
    exact ⟨σ2, S2, .inl e1, xs ++ [x], s2, ids2, κ2, e2, by rw [List.length_append, hx]; rfl, h2, o2, t2⟩)
  have n2 : newL true [.p (.int (m : Int)), .ref (m + 1)] S' = some (.ref S'.os.length, S'.push (.lst [.p (.int (m : Int)), .ref (m + 1)])) := newL_t _ (small (by simp))
  have r := tj.rws
  refine ⟨m, xs, m + 1, S'.os.length, S'.push (.lst [.p (.int (m : Int)), .ref (m + 1)]), hm, by omega, ?_, tj.b, push_new _ _, ⟨push_old r.rows, fun x hx => ⟨push_old (r.ats x hx).1, push_old (r.ats x hx).2⟩, r.nd⟩, t⟩
  have ev : startD 8 [.p (.lst (intsP ds))] = [some (.p (.lst (intsP ds))), none, none, none, none, none, none, none] := rfl
  unfold m_told
  rw [fnL_at (k := 1) rfl, ev, at_dSeq]
  simp only [at_dSet, at_dOp, at_dCall, at_dCons, at_dVar, at_dC, at_dNil, bnd_some, List.getElem?_cons_zero, a1, c1, c2, fAdd_i, c3, seqK_nx, List.set_cons_zero, List.set_cons_succ]
  rw [at_dSeq]
  simp only [at_dSet, at_dLst, at_dNil, bnd_some, n0, seqK_nx, List.set_cons_zero, List.set_cons_succ]
  rw [at_dSeq]
  simp only [at_dFor, at_dRng1, at_dCons, at_dNil, at_dVar, bnd_some, List.getElem?_cons_zero, List.getElem?_cons_succ, rng_nat m (by omega), wipeD, List.set_cons_zero, List.set_cons_succ, t1_loop (.lst (intsP ds)) m hm.2, seqK_nx]
  rw [at_dSeq]
  simp only [at_dSet, at_dLst, at_dNil, bnd_some, n1, seqK_nx, List.set_cons_zero, List.set_cons_succ]
  rw [at_dSeq]
  simp only [at_dFor, at_dRng1, at_dOp, at_dCall, at_dC, at_dCons, at_dNil, at_dVar, bnd_some, List.getElem?_cons_zero, List.getElem?_cons_succ, a2, c4, rng_nat (v % 13) (by omega), wipeD, List.set_cons_zero, List.set_cons_succ, h1, seqK_nx, at_dRet, at_dLst, n2, live_ret]
/-! the cut -/
structure CutOk (m : Nat) (rs : List R4) (c : List Int) : Prop where
  len : c.length = m
  le : ∀ (j : Nat) (x : Int), c[j]? = some x → 0 ≤ x ∧ x ≤ cnt rs j
theorem Told.n_le {m : Nat} {rs : List R4} (t : Told m rs) {r : R4} (hr : r ∈ rs) : r.n ≤ cnt rs r.a := by
  have h1 : r.n ∈ (rs.filter fun q => q.a = r.a).map (·.n) := List.mem_map.mpr ⟨r, List.mem_filter.mpr ⟨hr, by simp⟩, rfl⟩
  rw [t.num r.a, List.mem_range'_1] at h1
  omega
theorem intsP_setL (l : List Int) (j : Nat) (v : Int) : ((intsP l).map D.p).set j (.p (.int v)) = (intsP (l.set j v)).map D.p := by
  unfold intsP
  rw [List.map_set, List.map_set]
section
variable {S : SH} {x : X4}
theorem row_0 (h : RowAt S x) : fIx (.ref x.2.1) (.p (.int 0)) S = some (.p (.int (x.1.a : Int)), S) := fIx_rn (i := 0) h.1 rfl
theorem row_1 (h : RowAt S x) : fIx (.ref x.2.1) (.p (.int 1)) S = some (.p (.int (x.1.n : Int)), S) := fIx_rn (i := 1) h.1 rfl
theorem row_2 (h : RowAt S x) : fIx (.ref x.2.1) (.p (.int 2)) S = some (.ref x.2.2, S) := fIx_rn (i := 2) h.1 rfl
theorem row_h (h : RowAt S x) {j : Nat} {v : Int} (e : x.1.h[j]? = some v) : fIx (.ref x.2.2) (.p (.int (j : Int))) S = some (.p (.int v), S) := fIx_rn h.2 (by rw [List.getElem?_map, intsP_at e]; rfl)
theorem RowAt.push (h : RowAt S x) (o : Ob) : RowAt (S.push o) x := ⟨push_old h.1, push_old h.2⟩
end
theorem len_r {S : SH} {L : Nat} {ds : List D} (h : S.os[L]? = some (.lst ds)) : fLen [.ref L] S = some (.p (.int (ds.length : Int)), S) := by
  unfold fLen asQ
  dsimp only
  rw [h]
theorem fEq_ii (neg : Bool) (a b : Int) (S : SH) : fEq neg (.p (.int a)) (.p (.int b)) S = some (.p (.bl (if neg = true then !decide (a = b) else decide (a = b))), S) := by
  have h : peq (.int a) (.int b) = decide (a = b) := by
    show (a == b) = _
    exact Bool.eq_iff_iff.mpr (by simp)
  unfold fEq
  rw [rdP_p, rdP_p]
  dsimp only
  rw [if_pos ⟨rfl, rfl⟩, h]
theorem cut_eq {S : SH} {L m : Nat} {xs : List X4} (r : RW S L xs) (t : Told m (xs.map (·.1))) (hl : xs.length ≤ 100) (hm : 1 ≤ m ∧ m ≤ 6) {ds : List Int} (hd : ∀ d ∈ ds, 0 ≤ d ∧ d < 9973) :
    ∃ c, CutOk m (xs.map (·.1)) c ∧ m_cut [.p (.lst (intsP ds)), .p (.int (m : Int)), .ref L] S = some (.p (.lst (intsP c)), S) := by
  obtain ⟨u, hu, a2⟩ := at_nat hd 2 (by omega)
  obtain ⟨v, hv, a3⟩ := at_nat hd 3 (by omega)
  obtain ⟨w, hw, a4⟩ := at_nat hd 4 (by omega)
  have fl : ∀ b, fLen [.ref L] ⟨b, S.os⟩ = some (.p (.int (xs.length : Int)), ⟨b, S.os⟩) := fun b => by
    have q := len_r (S := ⟨b, S.os⟩) r.rows
    rw [List.length_map] at q
    exact q
  have c2 : ∀ T, fMod (.p (.int (u : Int))) (.p (.int 3)) T = some (.p (.int ((u % 3 : Nat) : Int)), T) := fun T => mod_eq (by decide) T
  have c4 : ∀ T, fMod (.p (.int (w : Int))) (.p (.int 2)) T = some (.p (.int ((w % 2 : Nat) : Int)), T) := fun T => mod_eq (by decide) T
  have ev : startD 6 [.p (.lst (intsP ds)), .p (.int (m : Int)), .ref L] = [some (.p (.lst (intsP ds))), some (.p (.int (m : Int))), some (.ref L), none, none, none] := rfl
  by_cases hz : xs.length = 0 ∨ u % 3 ≠ 2
  · refine ⟨tab m fun _ => 0, ⟨tab_len _ _, fun j x hx => ?_⟩, ?_⟩
    · have hj := (List.getElem?_eq_some_iff.mp hx).1
      rw [tab_len] at hj
      rw [tab_at _ hj] at hx
      cases hx
      omega
    · have cp := fun T => comp_tab (S := T) (j := 5) (elt := dC (.int 0)) (σ := [some (.p (.lst (intsP ds))), some (.p (.int (m : Int))), some (.ref L), none, none, none]) (fun _ => .p (.int 0)) (m := m) (by omega) fun i hi => rfl
      have nl := fun T => newL_f (S := T) (intsP (tab m fun _ => 0)) (small (by rw [intsP_len, tab_len]; omega))
      rw [intsP_tab] at nl
      have tst : dOr (dTest (dOp (fEq false) (dCall fLen (dCons (dVar 2) dNil)) (dC (.int 0)))) (dTest (dOp (fEq true) (dOp fMod (dCall m_at (dCons (dVar 0) (dCons (dC (.int 2)) dNil))) (dC (.int 3))) (dC (.int 2)))) [some (.p (.lst (intsP ds))), some (.p (.int (m : Int))), some (.ref L), none, none, none] ⟨S.os.length, S.os⟩ = some (true, ⟨S.os.length, S.os⟩) := by
        simp only [at_dOr, at_dTest, at_dOp, at_dCall, at_dCons, at_dVar, at_dC, at_dNil, bnd_some, List.getElem?_cons_zero, List.getElem?_cons_succ, fl, fEq_ii, Bool.false_eq_true, if_false, toB_p, a2, c2, if_true]
        by_cases h0 : xs.length = 0
        · rw [if_pos (decide_eq_true (by omega))]
        · have h2 : u % 3 ≠ 2 := by omega
          rw [if_neg (by simpa using h0)]
          rw [show decide (((u % 3 : Nat) : Int) = 2) = false from decide_eq_false (by omega)]
          rfl
      unfold m_cut
      rw [fn_at (k := 3) rfl, ev, at_dSeq]
      simp only [at_dIf, tst, bnd_some, if_true, at_dRet, at_dComp, at_dRng1, at_dCons, at_dVar, at_dNil, List.getElem?_cons_zero, List.getElem?_cons_succ, rng_nat m (by omega), wipeD, List.set_cons_zero, List.set_cons_succ, cp, nl, seqK_ret, frame_p, cut_self]
  · have h0 : xs.length ≠ 0 := by omega
    have h2 : u % 3 = 2 := by omega
    have hlt : v % xs.length < xs.length := Nat.mod_lt _ (by omega)
    obtain ⟨x, hx⟩ : ∃ x, xs[v % xs.length]? = some x := ⟨_, List.getElem?_eq_getElem hlt⟩
    have hmem := List.mem_of_getElem? hx
    have hr : x.1 ∈ xs.map (·.1) := List.mem_map.mpr ⟨x, hmem, rfl⟩
    have ra := r.ats x hmem
    have ha := t.al _ hr
    have hlen := t.hl _ hr
    obtain ⟨ho, hn⟩ := t.own _ hr
    have hnl := t.n_le hr
    refine ⟨x.1.h.set x.1.a ((x.1.n : Int) - 1 + ((w % 2 : Nat) : Int)), ⟨by rw [List.length_set, hlen], fun j y hy => ?_⟩, ?_⟩
    · by_cases e : x.1.a = j
      · subst e
        rw [List.getElem?_set_self (by omega)] at hy
        cases hy
        omega
      · rw [List.getElem?_set_ne e] at hy
        exact t.le _ hr j y hy
    · obtain ⟨S1, hS⟩ : ∃ S1 : SH, S1 = ⟨S.os.length, S.os⟩ := ⟨_, rfl⟩
      have hos : S1.os = S.os := by rw [hS]
      have rb : RowAt S1 x := by rw [hS]; exact ra
      have c3 : ∀ T, fMod (.p (.int (v : Int))) (.p (.int (xs.length : Int))) T = some (.p (.int ((v % xs.length : Nat) : Int)), T) := fun T => mod_eq (by omega) T
      have ix : fIx (.ref L) (.p (.int ((v % xs.length : Nat) : Int))) S1 = some (.ref x.2.1, S1) := fIx_rn (by rw [hos]; exact r.rows) (by rw [List.getElem?_map, hx]; rfl)
      have fl2 : fLen [.ref L] S1 = some (.p (.int (xs.length : Int)), S1) := by rw [hS]; exact fl _
      have tst : dOr (dTest (dOp (fEq false) (dCall fLen (dCons (dVar 2) dNil)) (dC (.int 0)))) (dTest (dOp (fEq true) (dOp fMod (dCall m_at (dCons (dVar 0) (dCons (dC (.int 2)) dNil))) (dC (.int 3))) (dC (.int 2)))) [some (.p (.lst (intsP ds))), some (.p (.int (m : Int))), some (.ref L), none, none, none] S1 = some (false, S1) := by
        have e1 : ¬ (xs.length : Int) = 0 := by omega
        have e2 : ((u % 3 : Nat) : Int) = 2 := by omega
        simp only [at_dOr, at_dTest, at_dOp, at_dCall, at_dCons, at_dVar, at_dC, at_dNil, bnd_some, List.getElem?_cons_zero, List.getElem?_cons_succ, fl2, fEq_ii, Bool.false_eq_true, if_false, toB_p, a2, c2, if_true, e1, e2, decide_false, decide_true, Bool.not_true]
      have n1 : newL true ((intsP x.1.h).map D.p) S1 = some (.ref S1.os.length, S1.push (liO x.1.h)) := newL_t _ (small (by rw [List.length_map, intsP_len]; omega))
      have f1 := fList_r (live := true) rb.2
      rw [n1] at f1
      have rc := rb.push (liO x.1.h)
      have i1 : fIx (.ref S1.os.length) (.p (.int (x.1.a : Int))) (S1.push (liO x.1.h)) = some (.p (.int ((x.1.n : Int) - 1)), S1.push (liO x.1.h)) := fIx_rn (push_new S1 _) (by rw [List.getElem?_map, intsP_at ho]; rfl)
      have st := setIx_ri (S := S1.push (liO x.1.h)) (m := S1.os.length) (i := (x.1.a : Int)) (v := .int ((x.1.n : Int) - 1 + ((w % 2 : Nat) : Int))) (push_new S1 _) (by omega) (by rw [List.length_map, intsP_len]; simp; omega)
      rw [Int.toNat_natCast, intsP_setL] at st
      have pl : (S1.push (liO x.1.h)).put S1.os.length (liO (x.1.h.set x.1.a ((x.1.n : Int) - 1 + ((w % 2 : Nat) : Int)))) = ⟨S1.b, S1.os ++ [liO (x.1.h.set x.1.a ((x.1.n : Int) - 1 + ((w % 2 : Nat) : Int)))]⟩ := put_last _ _ _ _
      rw [pl] at st
      have fr : frameF S (some (.ret (.ref S1.os.length), ⟨S1.b, S1.os ++ [liO (x.1.h.set x.1.a ((x.1.n : Int) - 1 + ((w % 2 : Nat) : Int)))]⟩)) = some (.p (.lst (intsP (x.1.h.set x.1.a ((x.1.n : Int) - 1 + ((w % 2 : Nat) : Int))))), S) := by
        have q := frame_ref (S := S) (n := S.os.length) (S1 := ⟨S.os.length, S.os ++ [liO (x.1.h.set x.1.a ((x.1.n : Int) - 1 + ((w % 2 : Nat) : Int)))]⟩) (ps := intsP (x.1.h.set x.1.a ((x.1.n : Int) - 1 + ((w % 2 : Nat) : Int)))) (Nat.le_refl _) (at_last _ _ _)
        rw [cut_app] at q
        rw [hS]
        exact q
      unfold m_cut
      rw [fn_at (k := 3) rfl, ev, ← hS, at_dSeq]
      simp only [at_dIf, tst, bnd_some, Bool.false_eq_true, if_false, at_dNx, seqK_nx]
      rw [at_dSeq]
      simp only [at_dSet, at_dOp, at_dCall, at_dCons, at_dVar, at_dC, at_dNil, bnd_some, List.getElem?_cons_zero, List.getElem?_cons_succ, a3, fl2, c3, ix, seqK_nx, List.set_cons_zero, List.set_cons_succ]
      rw [at_dSeq]
      simp only [at_dSet, at_dOp, at_dCall, at_dCons, at_dVar, at_dC, at_dNil, bnd_some, List.getElem?_cons_zero, List.getElem?_cons_succ, row_2 rb, f1, seqK_nx, List.set_cons_zero, List.set_cons_succ]
      rw [at_dSeq]
      simp only [at_dAsg, at_gSb, at_dOp, at_dCall, at_dCons, at_dVar, at_dC, at_dNil, bnd_some, List.getElem?_cons_zero, List.getElem?_cons_succ, row_0 rc, i1, a4, c4, fAdd_i, st, seqK_nx, at_dRet, fr]
end Kb
namespace Kb
open PySem PySem.Spec PyProof.Rows L2 Pv
/-! the counts -/
abbrev cB : MS := (dAsg (dCall fMax (dCons (dOp fIx (dVar 6) (dOp fIx (dVar 7) (dC (.int 0)))) (dCons (dOp fIx (dVar 7) (dC (.int 1))) dNil))) (gSb (dVar 6) (dOp fIx (dVar 7) (dC (.int 0)))))
theorem srcOf_r {S : SH} {L : Nat} {ds : List D} (h : S.os[L]? = some (.lst ds)) : srcOf (.ref L) S = some (srcR L ds.length, S) := by
  unfold srcOf
  dsimp only
  rw [h]
theorem cnt_take (rs : List R4) {i : Nat} {r : R4} (h : rs[i]? = some r) (j : Nat) : cnt (rs.take (i + 1)) j = cnt (rs.take i) j + (if r.a = j then 1 else 0) := by
  obtain ⟨hi, rfl⟩ := List.getElem?_eq_some_iff.mp h
  rw [List.take_succ_eq_append_getElem hi, cnt_app]
def cntF (rs : List R4) (i : Nat) (j : Nat) : Int := cnt (rs.take i) j
theorem counts_loop {S : SH} {L m : Nat} {xs : List X4} (r : RW S L xs) (t : Told m (xs.map (·.1))) (dr ct : P) (y : Option D) : ∃ y', forL [0, 5, 8, 9, 10, 11] (srcR L xs.length).fin (gNm 7) cB (srcR L xs.length).items [none, some (.p dr), some (.p (.int (m : Int))), some (.ref L), some (.p ct), none, some (.ref S.os.length), y, none, none, none, none] (S.push (liO (tab m fun _ => 0))) =
    some (.nx [none, some (.p dr), some (.p (.int (m : Int))), some (.ref L), some (.p ct), none, some (.ref S.os.length), y', none, none, none, none], S.push (liO (tab m (cntF (xs.map (·.1)) xs.length)))) := by
  obtain ⟨σ', S', h1, ⟨y', rfl⟩, rfl⟩ := r_inv (body := cB) (ws := [0, 5, 8, 9, 10, 11]) (g := gNm 7) (fun i σ T => (∃ y', σ = [none, some (.p dr), some (.p (.int (m : Int))), some (.ref L), some (.p ct), none, some (.ref S.os.length), y', none, none, none, none]) ∧ T = S.push (liO (tab m (cntF (xs.map (·.1)) i)))) L (xs.map fun x => D.ref x.2.1)
    (σ := [none, some (.p dr), some (.p (.int (m : Int))), some (.ref L), some (.p ct), none, some (.ref S.os.length), y, none, none, none, none]) (S := S.push (liO (tab m fun _ => 0))) ⟨⟨_, rfl⟩, rfl⟩ (by
      rintro i σ T ⟨_, rfl⟩
      exact push_old r.rows) (by
      rintro i d σ T hd ⟨⟨y', rfl⟩, rfl⟩
      rw [List.getElem?_map] at hd
      cases e : xs[i]? with
      | none => rw [e] at hd; cases hd
      | some x =>
      rw [e] at hd
      cases hd
      have hm := List.mem_of_getElem? e
      have hr : x.1 ∈ xs.map (·.1) := List.mem_map.mpr ⟨x, hm, rfl⟩
      have e2 : (xs.map (·.1))[i]? = some x.1 := by rw [List.getElem?_map, e]; rfl
      have ha := t.al _ hr
      have ho := t.ord i x.1 e2
      have ra := (r.ats x hm).push (liO (tab m (cntF (xs.map (·.1)) i)))
      have i1 : fIx (.ref S.os.length) (.p (.int (x.1.a : Int))) (S.push (liO (tab m (cntF (xs.map (·.1)) i)))) = some (.p (.int (cntF (xs.map (·.1)) i x.1.a)), S.push (liO (tab m (cntF (xs.map (·.1)) i)))) := fIx_rn (push_new S _) (ints_at ha)
      have st := setIx_ri (S := S.push (liO (tab m (cntF (xs.map (·.1)) i)))) (m := S.os.length) (i := (x.1.a : Int)) (v := .int (x.1.n : Int)) (push_new S _) (by omega) (by rw [List.length_map, intsP_len, tab_len]; simpa using ha)
      rw [Int.toNat_natCast, intsP_setL, tab_set] at st
      have pl : (S.push (liO (tab m (cntF (xs.map (·.1)) i)))).put S.os.length (liO (tab m (updF (cntF (xs.map (·.1)) i) x.1.a (x.1.n : Int)))) = S.push (liO (tab m (updF (cntF (xs.map (·.1)) i) x.1.a (x.1.n : Int)))) := put_last _ _ _ _
      rw [pl] at st
      have ef : updF (cntF (xs.map (·.1)) i) x.1.a (x.1.n : Int) = cntF (xs.map (·.1)) (i + 1) := by
        funext j
        unfold updF cntF
        rw [cnt_take _ e2]
        split
        · rename_i q
          rw [if_pos q.symm, ho, q]
        · rename_i q
          rw [if_neg (fun z => q z.symm), Nat.add_zero]
      rw [ef] at st
      have mxe : (if (x.1.n : Int) > cntF (xs.map (·.1)) i x.1.a then (x.1.n : Int) else cntF (xs.map (·.1)) i x.1.a) = (x.1.n : Int) := by
        rw [if_pos]
        unfold cntF
        omega
      refine ⟨_, rfl, [none, some (.p dr), some (.p (.int (m : Int))), some (.ref L), some (.p ct), none, some (.ref S.os.length), some (.ref x.2.1), none, none, none, none], _, .inl ?_, ⟨_, rfl⟩, rfl⟩
      unfold cB
      simp only [at_dAsg, at_gSb, at_dOp, at_dCall, at_dCons, at_dVar, at_dC, at_dNil, bnd_some, List.set_cons_zero, List.set_cons_succ, List.getElem?_cons_zero, List.getElem?_cons_succ, row_0 ra, row_1 ra, i1, fMax_i, mxe, st])
  rw [List.length_map] at h1
  exact ⟨y', h1⟩
/-! what is behind the cut -/
def keep (c : List Int) (x : X4) : Bool := decide (c.getD x.1.a 0 < (x.1.n : Int))
theorem keep_comp {S : SH} {L m : Nat} {xs : List X4} (r : RW S L xs) (t : Told m (xs.map (·.1))) {c : List Int} (hc : c.length = m) (hl : xs.length ≤ 100) (a0 a1 a2 a3 a5 a6 a8 a9 a10 a11 : Option D) :
    compL (srcR L xs.length).fin (gNm 7) (dTest (dOp fGt (dOp fIx (dVar 7) (dC (.int 1))) (dOp fIx (dVar 4) (dOp fIx (dVar 7) (dC (.int 0)))))) (dVar 7) [a0, a1, a2, a3, some (.p (.lst (intsP c))), a5, a6, none, a8, a9, a10, a11] (srcR L xs.length).items [] S = some ((xs.filter (keep c)).map fun x => .ref x.2.1, S) := by
  refine comp_rf (fun x : X4 => D.ref x.2.1) (keep c) (fun x : X4 => D.ref x.2.1) xs (small (by omega)) r.rows fun x hx => ?_
  have ra := r.ats x hx
  have hr : x.1 ∈ xs.map (·.1) := List.mem_map.mpr ⟨x, hx, rfl⟩
  have ha := t.al _ hr
  have i1 := fIx_l (S := S) (intsP_at (getD_at (ds := c) (n := x.1.a) (by omega)))
  refine ⟨?_, fun _ => ?_⟩
  · simp only [at_dTest, at_dOp, at_dVar, at_dC, bnd_some, List.set_cons_zero, List.set_cons_succ, List.getElem?_cons_zero, List.getElem?_cons_succ, row_0 ra, row_1 ra, i1, fII_eq, if_true, toB_p]
    rfl
  · simp only [at_dVar, List.set_cons_zero, List.set_cons_succ, List.getElem?_cons_zero, List.getElem?_cons_succ]
theorem RW.keep {S : SH} {L : Nat} {xs : List X4} (r : RW S L xs) (f : X4 → Bool) : RW (S.push (.lst ((xs.filter f).map fun x => .ref x.2.1))) S.os.length (xs.filter f) :=
  ⟨push_new _ _, fun x hx => (r.ats x ((List.mem_filter.mp hx).1)).push _, (r.nd).sublist ((List.filter_sublist (p := f)).map _)⟩
/-! the fault -/
theorem rowO_ne (x : X4) (l : List Int) : rowO x ≠ liO l := by
  intro e
  have e' : [D.p (.int (x.1.a : Int)), D.p (.int (x.1.n : Int)), D.ref x.2.2] = (intsP l).map D.p := by simpa [rowO] using e
  have h : (D.ref x.2.2) ∈ (intsP l).map D.p := by rw [← e']; simp
  obtain ⟨p, _, hp⟩ := List.mem_map.mp h
  cases hp
theorem refs_ne {x : X4} {xs : List X4} (hx : x ∈ xs) (l : List Int) : Ob.lst (xs.map fun x => D.ref x.2.1) ≠ liO l := by
  intro e
  have e' : (xs.map fun x => D.ref x.2.1) = (intsP l).map D.p := by simpa using e
  have h : (D.ref x.2.1) ∈ (intsP l).map D.p := by rw [← e']; exact List.mem_map.mpr ⟨x, hx, rfl⟩
  obtain ⟨p, _, hp⟩ := List.mem_map.mp h
  cases hp
theorem ob_ne {S : SH} {i j : Nat} {x y : Ob} (h1 : S.os[i]? = some x) (h2 : S.os[j]? = some y) (h : x ≠ y) : i ≠ j := fun e => by
  subst e
  exact h (Option.some.inj (h1.symm.trans h2))
theorem RW.put {S : SH} {L k : Nat} {xs : List X4} {x : X4} (r : RW S L xs) (hk : xs[k]? = some x) (h' : List Int) : RW (S.put x.2.2 (liO h')) L (xs.set k ({ x.1 with h := h' }, x.2)) := by
  have hm := List.mem_of_getElem? hk
  obtain ⟨hlt, hxe⟩ := List.getElem?_eq_some_iff.mp hk
  have ra := r.ats x hm
  have em : ∀ {β : Type} (f : X4 → β), f ({ x.1 with h := h' }, x.2) = f x → (xs.set k ({ x.1 with h := h' }, x.2)).map f = xs.map f := fun f e => by
    rw [List.map_set, e, ← hxe]
    apply List.ext_getElem?
    intro i
    by_cases q : k = i
    · subst q
      rw [List.getElem?_set_self (by rw [List.length_map]; exact hlt), List.getElem?_map, hk, hxe]; rfl
    · rw [List.getElem?_set_ne q]
  refine ⟨?_, fun y hy => ?_, ?_⟩
  · rw [em (fun x => D.ref x.2.1) rfl]
    exact put_ne (ob_ne r.rows ra.2 (refs_ne hm _)) r.rows
  · obtain ⟨i, hi, rfl⟩ := List.getElem_of_mem hy
    rw [List.length_set] at hi
    by_cases q : k = i
    · subst q
      rw [List.getElem_set_self]
      exact ⟨put_ne (ob_ne ra.1 ra.2 (rowO_ne _ _)) ra.1, put_eq ra.2⟩
    · rw [List.getElem_set_ne q]
      have rb := r.ats xs[i] (List.getElem_mem hi)
      refine ⟨put_ne (ob_ne rb.1 ra.2 (rowO_ne _ _)) rb.1, put_ne (fun e => ?_) rb.2⟩
      have nd := List.pairwise_iff_getElem.mp r.nd
      rcases Nat.lt_or_gt_of_ne q with q | q
      · exact nd k i (by rw [List.length_map]; exact hlt) (by rw [List.length_map]; exact hi) q (by rw [List.getElem_map, List.getElem_map, hxe]; exact e.symm)
      · exact nd i k (by rw [List.length_map]; exact hi) (by rw [List.length_map]; exact hlt) q (by rw [List.getElem_map, List.getElem_map, hxe]; exact e)
  · rw [em (fun x => x.2.2) rfl]
    exact r.nd
theorem cut_put {S : SH} (b k : Nat) (o : Ob) : Pv.cutS S ⟨b, S.os.set k o⟩ = S.put k o := by
  unfold Pv.cutS SH.len SH.put
  have e : (S.os.set k o).length = S.os.length := List.length_set
  rw [← e, List.take_length]
structure Spo (S : SH) (L m : Nat) (xs : List X4) (S' : SH) (ys : List X4) : Prop where
  b : S'.b = S.b
  len : S'.os.length = S.os.length
  rw : RW S' L ys
  same : ys.map (fun x => (x.1.a, x.1.n)) = xs.map (fun x => (x.1.a, x.1.n))
  hl : ∀ y ∈ ys, y.1.h.length ≤ 10
  keep : ∀ (q : Nat) (o : Ob), S.os[q]? = some o → (∀ x ∈ xs, q ≠ x.2.2) → S'.os[q]? = some o
theorem spo_put {S : SH} {L m k : Nat} {xs : List X4} {x : X4} (r : RW S L xs) (hk : xs[k]? = some x) (h' : List Int) (hl : ∀ y ∈ xs, y.1.h.length ≤ 10) (hl' : h'.length ≤ 10) : Spo S L m xs (S.put x.2.2 (liO h')) (xs.set k ({ x.1 with h := h' }, x.2)) := by
  refine ⟨rfl, List.length_set, r.put hk h', ?_, fun y hy => ?_, fun q o hq hn => put_ne (hn x (List.mem_of_getElem? hk)) hq⟩
  · obtain ⟨hlt, hxe⟩ := List.getElem?_eq_some_iff.mp hk
    rw [List.map_set]
    apply List.ext_getElem?
    intro i
    by_cases q : k = i
    · subst q
      rw [List.getElem?_set_self (by rw [List.length_map]; exact hlt), List.getElem?_map, hk]; rfl
    · rw [List.getElem?_set_ne q]
  · rcases List.mem_or_eq_of_mem_set hy with h | rfl
    · exact hl y h
    · exact hl'
end Kb
namespace Kb
open PySem PySem.Spec PyProof.Rows L2 Pv
abbrev sB1 : MS := dDrop (dBM "list" fApp (dOp fIx (dVar 4) (dC (.int 2))) (dCons (dC (.int 0)) dNil))
abbrev sB2 : MS := dDrop (dBM "list" fPop (dOp fIx (dVar 4) (dC (.int 2))) dNil)
abbrev sB3 : MS := (dAsg (dCall fMax (dCons (dC (.int 0)) (dCons (dOp fSub (dOp (fAdd false) (dOp fIx (dOp fIx (dVar 4) (dC (.int 2))) (dOp fIx (dVar 4) (dC (.int 0)))) (dC (.int 1))) (dOp fMul (dC (.int 2)) (dOp fMod (dCall m_at (dCons (dVar 0) (dCons (dC (.int 8)) dNil))) (dC (.int 2))))) dNil))) (gSb (dOp fIx (dVar 4) (dC (.int 2))) (dOp fIx (dVar 4) (dC (.int 0)))))
abbrev sB4 : MS := (dAsg (dOp (fAdd false) (dCall fLen (dCons (dVar 2) dNil)) (dOp fMod (dCall m_at (dCons (dVar 0) (dCons (dC (.int 8)) dNil))) (dC (.int 3)))) (gSb (dOp fIx (dVar 4) (dC (.int 2))) (dVar 5)))
abbrev sB5 : MS := (dAsg (dCall fMax (dCons (dC (.int 0)) (dCons (dOp fSub (dOp fIx (dOp fIx (dVar 4) (dC (.int 2))) (dVar 5)) (dC (.int 1))) dNil))) (gSb (dOp fIx (dVar 4) (dC (.int 2))) (dVar 5)))
abbrev sB6 : MS := (dAsg (dOp (fAdd false) (dOp fIx (dOp fIx (dVar 4) (dC (.int 2))) (dVar 5)) (dC (.int 1))) (gSb (dOp fIx (dVar 4) (dC (.int 2))) (dVar 5)))
abbrev sT (i : Int) : MT := dTest (dOp (fEq false) (dVar 3) (dC (.int i)))
abbrev sAll : MS := (dSeq (dIf (sT 1) sB1 dNx) (dSeq (dIf (sT 2) sB2 dNx) (dSeq (dIf (sT 3) sB3 dNx) (dSeq (dIf (sT 4) sB4 dNx) (dSeq (dIf (sT 5) sB5 dNx) (dIf (sT 6) sB6 dNx))))))
section
variable {T : SH} {L m : Nat} {xs : List X4} {x : X4} {ds : List Int}
abbrev sE (ds : List Int) (m L : Nat) (f : Nat) (x : X4) (b : Nat) : En := [some (.p (.lst (intsP ds))), some (.p (.int (m : Int))), some (.ref L), some (.p (.int (f : Int))), some (.ref x.2.1), some (.p (.int (b : Int)))]
theorem sIf (f i : Nat) (b : Nat) (B : MS) : dIf (sT (i : Int)) B dNx (sE ds m L f x b) T = if f = i then B (sE ds m L f x b) T else some (.nx (sE ds m L f x b), T) := by
  have e : decide ((f : Int) = (i : Int)) = decide (f = i) := by
    rw [Bool.eq_iff_iff, decide_eq_true_eq, decide_eq_true_eq]; omega
  simp only [at_dIf, at_dTest, at_dOp, at_dVar, at_dC, bnd_some, List.getElem?_cons_zero, List.getElem?_cons_succ, fEq_ii, Bool.false_eq_true, if_false, toB_p, at_dNx, e, decide_eq_true_eq]
theorem sAll_eq (f b : Nat) (T' : SH) (B : Nat → MS) (h1 : B 1 = sB1) (h2 : B 2 = sB2) (h3 : B 3 = sB3) (h4 : B 4 = sB4) (h5 : B 5 = sB5) (h6 : B 6 = sB6) (hf : 1 ≤ f ∧ f ≤ 6) (h : B f (sE ds m L f x b) T = some (.nx (sE ds m L f x b), T')) : sAll (sE ds m L f x b) T = some (.nx (sE ds m L f x b), T') := by
  have i1 : ∀ (T : SH) (B : MS), dIf (sT 1) B dNx (sE ds m L f x b) T = if f = 1 then B (sE ds m L f x b) T else some (.nx (sE ds m L f x b), T) := fun T B => sIf f 1 b B
  have i2 : ∀ (T : SH) (B : MS), dIf (sT 2) B dNx (sE ds m L f x b) T = if f = 2 then B (sE ds m L f x b) T else some (.nx (sE ds m L f x b), T) := fun T B => sIf f 2 b B
  have i3 : ∀ (T : SH) (B : MS), dIf (sT 3) B dNx (sE ds m L f x b) T = if f = 3 then B (sE ds m L f x b) T else some (.nx (sE ds m L f x b), T) := fun T B => sIf f 3 b B
  have i4 : ∀ (T : SH) (B : MS), dIf (sT 4) B dNx (sE ds m L f x b) T = if f = 4 then B (sE ds m L f x b) T else some (.nx (sE ds m L f x b), T) := fun T B => sIf f 4 b B
  have i5 : ∀ (T : SH) (B : MS), dIf (sT 5) B dNx (sE ds m L f x b) T = if f = 5 then B (sE ds m L f x b) T else some (.nx (sE ds m L f x b), T) := fun T B => sIf f 5 b B
  have i6 : ∀ (T : SH) (B : MS), dIf (sT 6) B dNx (sE ds m L f x b) T = if f = 6 then B (sE ds m L f x b) T else some (.nx (sE ds m L f x b), T) := fun T B => sIf f 6 b B
  unfold sAll
  have hc : f = 1 ∨ f = 2 ∨ f = 3 ∨ f = 4 ∨ f = 5 ∨ f = 6 := by omega
  rcases hc with rfl | rfl | rfl | rfl | rfl | rfl
  · rw [h1] at h
    rw [at_dSeq, i1, if_pos rfl, h, bnd_some, seqK_nx, at_dSeq, i2, if_neg (by decide), bnd_some, seqK_nx, at_dSeq, i3, if_neg (by decide), bnd_some, seqK_nx, at_dSeq, i4, if_neg (by decide), bnd_some, seqK_nx, at_dSeq, i5, if_neg (by decide), bnd_some, seqK_nx, i6, if_neg (by decide)]
  · rw [h2] at h
    rw [at_dSeq, i1, if_neg (by decide), bnd_some, seqK_nx, at_dSeq, i2, if_pos rfl, h, bnd_some, seqK_nx, at_dSeq, i3, if_neg (by decide), bnd_some, seqK_nx, at_dSeq, i4, if_neg (by decide), bnd_some, seqK_nx, at_dSeq, i5, if_neg (by decide), bnd_some, seqK_nx, i6, if_neg (by decide)]
  · rw [h3] at h
    rw [at_dSeq, i1, if_neg (by decide), bnd_some, seqK_nx, at_dSeq, i2, if_neg (by decide), bnd_some, seqK_nx, at_dSeq, i3, if_pos rfl, h, bnd_some, seqK_nx, at_dSeq, i4, if_neg (by decide), bnd_some, seqK_nx, at_dSeq, i5, if_neg (by decide), bnd_some, seqK_nx, i6, if_neg (by decide)]
  · rw [h4] at h
    rw [at_dSeq, i1, if_neg (by decide), bnd_some, seqK_nx, at_dSeq, i2, if_neg (by decide), bnd_some, seqK_nx, at_dSeq, i3, if_neg (by decide), bnd_some, seqK_nx, at_dSeq, i4, if_pos rfl, h, bnd_some, seqK_nx, at_dSeq, i5, if_neg (by decide), bnd_some, seqK_nx, i6, if_neg (by decide)]
  · rw [h5] at h
    rw [at_dSeq, i1, if_neg (by decide), bnd_some, seqK_nx, at_dSeq, i2, if_neg (by decide), bnd_some, seqK_nx, at_dSeq, i3, if_neg (by decide), bnd_some, seqK_nx, at_dSeq, i4, if_neg (by decide), bnd_some, seqK_nx, at_dSeq, i5, if_pos rfl, h, bnd_some, seqK_nx, i6, if_neg (by decide)]
  · rw [h6] at h
    rw [at_dSeq, i1, if_neg (by decide), bnd_some, seqK_nx, at_dSeq, i2, if_neg (by decide), bnd_some, seqK_nx, at_dSeq, i3, if_neg (by decide), bnd_some, seqK_nx, at_dSeq, i4, if_neg (by decide), bnd_some, seqK_nx, at_dSeq, i5, if_neg (by decide), bnd_some, seqK_nx, i6, if_pos rfl, h]
/-- each fault gives the row another list -/
theorem fault_eq (ra : RowAt T x) (hd : ∀ d ∈ ds, 0 ≤ d ∧ d < 9973) {f b : Nat} (hf : 1 ≤ f ∧ f ≤ 6) (hb : b < m) (ha : x.1.a < m) (hlen : x.1.h.length = m) (hm : 1 ≤ m ∧ m ≤ 6) {n : Nat} (fl : fLen [.ref L] T = some (.p (.int (n : Int)), T)) :
    ∃ h' : List Int, h'.length ≤ 10 ∧ sAll (sE ds m L f x b) T = some (.nx (sE ds m L f x b), T.put x.2.2 (liO h')) := by
  obtain ⟨u, hu, a8⟩ := at_nat hd 8 (by omega)
  have c2 : ∀ T, fMod (.p (.int (u : Int))) (.p (.int 2)) T = some (.p (.int ((u % 2 : Nat) : Int)), T) := fun T => mod_eq (by decide) T
  have c3 : ∀ T, fMod (.p (.int (u : Int))) (.p (.int 3)) T = some (.p (.int ((u % 3 : Nat) : Int)), T) := fun T => mod_eq (by decide) T
  have w2 : ∀ (y : Int) T, fMul (.p (.int 2)) (.p (.int y)) T = some (.p (.int (2 * y)), T) := fun y T => (fII_eq _ _ _ _ T).trans (if_pos (mulOk_l (by decide)))
  let B : Nat → MS := fun i => if i = 1 then sB1 else if i = 2 then sB2 else if i = 3 then sB3 else if i = 4 then sB4 else if i = 5 then sB5 else sB6
  have key : ∃ h' : List Int, h'.length ≤ 10 ∧ B f (sE ds m L f x b) T = some (.nx (sE ds m L f x b), T.put x.2.2 (liO h')) := by
    have iA := fIx_rn ra.2 (by rw [List.getElem?_map, intsP_at (getD_at (ds := x.1.h) (n := x.1.a) (by omega))]; rfl)
    have iB := fIx_rn ra.2 (by rw [List.getElem?_map, intsP_at (getD_at (ds := x.1.h) (n := b) (by omega))]; rfl)
    have stA := fun v => setIx_ri (S := T) (m := x.2.2) (i := (x.1.a : Int)) (v := .int v) ra.2 (by omega) (by rw [List.length_map, intsP_len]; simp; omega)
    have stB := fun v => setIx_ri (S := T) (m := x.2.2) (i := (b : Int)) (v := .int v) ra.2 (by omega) (by rw [List.length_map, intsP_len]; simp; omega)
    simp only [Int.toNat_natCast, intsP_setL] at stA stB
    have hc : f = 1 ∨ f = 2 ∨ f = 3 ∨ f = 4 ∨ f = 5 ∨ f = 6 := by omega
    rcases hc with rfl | rfl | rfl | rfl | rfl | rfl
    · refine ⟨x.1.h ++ [0], by rw [List.length_append, List.length_singleton]; omega, ?_⟩
      have ap := fApp_p (S := T) (n := x.2.2) (x := .int 0) ra.2 (by rw [List.length_map, intsP_len]; have := line_ge; omega)
      have e : (intsP x.1.h).map D.p ++ [.p (.int 0)] = (intsP (x.1.h ++ [0])).map D.p := by simp [intsP]
      rw [e] at ap
      show sB1 _ _ = _
      unfold sB1
      simp only [at_dDrop, at_dBM, at_dOp, at_dVar, at_dC, at_dCons, at_dNil, bnd_some, List.getElem?_cons_zero, List.getElem?_cons_succ, row_2 ra, isTy_ref ra.2, if_true, ap]
    · refine ⟨x.1.h.dropLast, by rw [List.length_dropLast]; omega, ?_⟩
      have e1 : ((intsP x.1.h).map D.p)[((intsP x.1.h).map D.p).length - 1]? = some (.p (.int (x.1.h.getD (m - 1) 0))) := by
        rw [List.length_map, intsP_len, hlen, List.getElem?_map, intsP_at (getD_at (ds := x.1.h) (n := m - 1) (by omega))]
        rfl
      have e2 : ((intsP x.1.h).map D.p).dropLast = (intsP x.1.h.dropLast).map D.p := by
        unfold intsP
        rw [List.map_dropLast, List.map_dropLast]
      have ap : fPop [.ref x.2.2] T = some (.p (.int (x.1.h.getD (m - 1) 0)), T.put x.2.2 (liO x.1.h.dropLast)) := by
        unfold fPop
        dsimp only
        rw [ra.2]
        dsimp only
        rw [e1, e2]
      show sB2 _ _ = _
      unfold sB2
      simp only [at_dDrop, at_dBM, at_dOp, at_dVar, at_dC, at_dCons, at_dNil, bnd_some, List.getElem?_cons_zero, List.getElem?_cons_succ, row_2 ra, isTy_ref ra.2, if_true, ap]
    · refine ⟨x.1.h.set x.1.a (if x.1.h.getD x.1.a 0 + 1 - 2 * ((u % 2 : Nat) : Int) > 0 then x.1.h.getD x.1.a 0 + 1 - 2 * ((u % 2 : Nat) : Int) else 0), by rw [List.length_set]; omega, ?_⟩
      · show sB3 _ _ = _
        unfold sB3
        simp only [at_dAsg, at_gSb, at_dOp, at_dCall, at_dVar, at_dC, at_dCons, at_dNil, bnd_some, List.getElem?_cons_zero, List.getElem?_cons_succ, row_2 ra, row_0 ra, iA, a8, c2, w2, fAdd_i, fII_eq, if_true, fMax_i, stA]
    · refine ⟨x.1.h.set b ((n : Int) + ((u % 3 : Nat) : Int)), by rw [List.length_set]; omega, ?_⟩
      · show sB4 _ _ = _
        unfold sB4
        simp only [at_dAsg, at_gSb, at_dOp, at_dCall, at_dVar, at_dC, at_dCons, at_dNil, bnd_some, List.getElem?_cons_zero, List.getElem?_cons_succ, row_2 ra, fl, a8, c3, fAdd_i, stB]
    · refine ⟨x.1.h.set b (if x.1.h.getD b 0 - 1 > 0 then x.1.h.getD b 0 - 1 else 0), by rw [List.length_set]; omega, ?_⟩
      · show sB5 _ _ = _
        unfold sB5
        simp only [at_dAsg, at_gSb, at_dOp, at_dCall, at_dVar, at_dC, at_dCons, at_dNil, bnd_some, List.getElem?_cons_zero, List.getElem?_cons_succ, row_2 ra, iB, fII_eq, if_true, fMax_i, stB]
    · refine ⟨x.1.h.set b (x.1.h.getD b 0 + 1), by rw [List.length_set]; omega, ?_⟩
      · show sB6 _ _ = _
        unfold sB6
        simp only [at_dAsg, at_gSb, at_dOp, at_dCall, at_dVar, at_dC, at_dCons, at_dNil, bnd_some, List.getElem?_cons_zero, List.getElem?_cons_succ, row_2 ra, iB, fAdd_i, stB]
  obtain ⟨h', hl, k⟩ := key
  exact ⟨h', hl, sAll_eq f b _ B rfl rfl rfl rfl rfl rfl hf k⟩
end
theorem spoil_eq {S : SH} {L m : Nat} {xs : List X4} (r : RW S L xs) (t1 : ∀ x ∈ xs, x.1.a < m) (t2 : ∀ x ∈ xs, x.1.h.length = m) (hl : xs.length ≤ 100) (hm : 1 ≤ m ∧ m ≤ 6) {ds : List Int} (hd : ∀ d ∈ ds, 0 ≤ d ∧ d < 9973) :
    ∃ S' ys, Spo S L m xs S' ys ∧ m_spoil [.p (.lst (intsP ds)), .p (.int (m : Int)), .ref L] S = some (.p .non, S') := by
  obtain ⟨u, hu, a5⟩ := at_nat hd 5 (by omega)
  obtain ⟨v, hv, a6⟩ := at_nat hd 6 (by omega)
  obtain ⟨w, hw, a7⟩ := at_nat hd 7 (by omega)
  have h10 : ∀ y ∈ xs, y.1.h.length ≤ 10 := fun y hy => by have := t2 y hy; omega
  have c7 : ∀ T, fMod (.p (.int (u : Int))) (.p (.int 7)) T = some (.p (.int ((u % 7 : Nat) : Int)), T) := fun T => mod_eq (by decide) T
  have cm : ∀ T, fMod (.p (.int (w : Int))) (.p (.int (m : Int))) T = some (.p (.int ((w % m : Nat) : Int)), T) := fun T => mod_eq (by omega) T
  have ev : startD 6 [.p (.lst (intsP ds)), .p (.int (m : Int)), .ref L] = [some (.p (.lst (intsP ds))), some (.p (.int (m : Int))), some (.ref L), none, none, none] := rfl
  obtain ⟨S1, hS⟩ : ∃ S1 : SH, S1 = ⟨S.os.length, S.os⟩ := ⟨_, rfl⟩
  have hos : S1.os = S.os := by rw [hS]
  have fl : fLen [.ref L] S1 = some (.p (.int (xs.length : Int)), S1) := by
    have q := len_r (S := S1) (by rw [hos]; exact r.rows)
    rw [List.length_map] at q
    exact q
  have tst : dOr (dTest (dOp (fEq false) (dCall fLen (dCons (dVar 2) dNil)) (dC (.int 0)))) (dTest (dOp (fEq false) (dVar 3) (dC (.int 0)))) [some (.p (.lst (intsP ds))), some (.p (.int (m : Int))), some (.ref L), some (.p (.int ((u % 7 : Nat) : Int))), none, none] S1 = some (decide (xs.length = 0 ∨ u % 7 = 0), S1) := by
    have e1 : decide ((xs.length : Int) = 0) = decide (xs.length = 0) := by rw [Bool.eq_iff_iff]; simp
    have e2 : decide (((u % 7 : Nat) : Int) = 0) = decide (u % 7 = 0) := by
      rw [Bool.eq_iff_iff, decide_eq_true_eq, decide_eq_true_eq]
      omega
    simp only [at_dOr, at_dTest, at_dOp, at_dCall, at_dCons, at_dVar, at_dC, at_dNil, bnd_some, List.getElem?_cons_zero, List.getElem?_cons_succ, fl, fEq_ii, Bool.false_eq_true, if_false, toB_p, e1, e2]
    by_cases h0 : xs.length = 0
    · simp [h0]
    · simp [h0]
  by_cases hz : xs.length = 0 ∨ u % 7 = 0
  · refine ⟨S, xs, ⟨rfl, rfl, r, rfl, h10, fun _ _ h _ => h⟩, ?_⟩
    unfold m_spoil
    rw [fn_at (k := 3) rfl, ev, ← hS, at_dSeq]
    simp only [at_dSet, at_dOp, at_dCall, at_dCons, at_dVar, at_dC, at_dNil, bnd_some, List.getElem?_cons_zero, List.getElem?_cons_succ, a5, c7, seqK_nx, List.set_cons_zero, List.set_cons_succ]
    rw [at_dSeq]
    simp only [at_dIf, tst, bnd_some, hz, decide_true, if_true, at_dRetN, seqK_ret, frame_p]
    rw [hS, cut_self]
  · have hz1 : xs.length ≠ 0 := fun e => hz (.inl e)
    have hz2 : u % 7 ≠ 0 := fun e => hz (.inr e)
    have hlt : v % xs.length < xs.length := Nat.mod_lt _ (by omega)
    obtain ⟨x, hx⟩ : ∃ x, xs[v % xs.length]? = some x := ⟨_, List.getElem?_eq_getElem hlt⟩
    have hmem := List.mem_of_getElem? hx
    have ra : RowAt S1 x := by rw [hS]; exact r.ats x hmem
    have c6 : ∀ T, fMod (.p (.int (v : Int))) (.p (.int (xs.length : Int))) T = some (.p (.int ((v % xs.length : Nat) : Int)), T) := fun T => mod_eq (by omega) T
    have ix : fIx (.ref L) (.p (.int ((v % xs.length : Nat) : Int))) S1 = some (.ref x.2.1, S1) := fIx_rn (by rw [hos]; exact r.rows) (by rw [List.getElem?_map, hx]; rfl)
    obtain ⟨h', hl', k⟩ := fault_eq (L := L) ra hd (f := u % 7) (b := w % m) (by omega) (Nat.mod_lt _ (by omega)) (t1 x hmem) (t2 x hmem) hm fl
    refine ⟨_, _, spo_put r hx h' h10 hl', ?_⟩
    unfold m_spoil
    rw [fn_at (k := 3) rfl, ev, ← hS, at_dSeq]
    simp only [at_dSet, at_dOp, at_dCall, at_dCons, at_dVar, at_dC, at_dNil, bnd_some, List.getElem?_cons_zero, List.getElem?_cons_succ, a5, c7, seqK_nx, List.set_cons_zero, List.set_cons_succ]
    rw [at_dSeq]
    simp only [at_dIf, tst, bnd_some, hz, decide_false, Bool.false_eq_true, if_false, at_dNx, seqK_nx]
    rw [at_dSeq]
    simp only [at_dSet, at_dOp, at_dCall, at_dCons, at_dVar, at_dC, at_dNil, bnd_some, List.getElem?_cons_zero, List.getElem?_cons_succ, a6, fl, c6, ix, seqK_nx, List.set_cons_zero, List.set_cons_succ]
    rw [at_dSeq]
    simp only [at_dSet, at_dOp, at_dCall, at_dCons, at_dVar, at_dC, at_dNil, bnd_some, List.getElem?_cons_zero, List.getElem?_cons_succ, a7, cm, seqK_nx, List.set_cons_zero, List.set_cons_succ]
    unfold sAll sT sB1 sB2 sB3 sB4 sB5 sB6 sE at k
    rw [k, frame_nx, hS]
    show some (D.p .non, Pv.cutS S ⟨_, S.os.set _ _⟩) = _
    rw [cut_put]
end Kb
namespace Kb
open PySem PySem.Spec PyProof.Rows L2 Pv
/-! what is kept of a space -/
def pr (xs : List (P × P)) : List P := xs.map fun x => .tup [x.1, x.2]
theorem pr_len (xs : List (P × P)) : (pr xs).length = xs.length := List.length_map _
theorem comp_pair {i j : Nat} {elt : ME} {σ : En} {S : SH} (fv : P → P → D) (xs : List (P × P)) (hl : xs.length ≤ sizeLine) (h : ∀ x ∈ xs, elt ((σ.set i (some (.p x.1))).set j (some (.p x.2))) S = some (fv x.1 x.2, S)) : compL (srcP (pr xs)).fin (gTp 2 (gCn (gNm i) (gCn (gNm j) gNl))) dYes elt σ (srcP (pr xs)).items [] S = some (xs.map fun x => fv x.1 x.2, S) := by
  have cp := comp_all (t := dYes) (elt := elt) (g := gTp 2 (gCn (gNm i) (gCn (gNm j) gNl))) (fin := (srcP (pr xs)).fin) (S := S) (σ := σ) (fun _ => true) (fun x : P × P => fv x.1 x.2) (fun x (_ : SH) => some (D.p (.tup [x.1, x.2]))) rfl xs [] (by rw [List.length_nil, Nat.zero_add]; exact hl) (fun x hx => ⟨_, (σ.set i (some (.p x.1))).set j (some (.p x.2)), rfl, rfl, rfl, fun _ => h x hx⟩)
  have ei : (srcP (pr xs)).items = xs.map fun x (_ : SH) => some (D.p (.tup [x.1, x.2])) := by simp [srcP, pr]
  rw [← ei, List.filter_eq_self.mpr fun _ _ => rfl, List.nil_append] at cp
  exact cp
theorem comp_same {i j : Nat} {σ : En} {S : SH} (xs : List (P × P)) (hl : xs.length ≤ 1000) (hij : i ≠ j) (hi : i < σ.length) (hj : j < σ.length) : compL (srcP (pr xs)).fin (gTp 2 (gCn (gNm i) (gCn (gNm j) gNl))) dYes (dTup (dCons (dVar i) (dCons (dVar j) dNil))) σ (srcP (pr xs)).items [] S = some ((pr xs).map D.p, S) := by
  rw [comp_pair (fun a b => D.p (.tup [a, b])) xs (small (by omega)) (fun x _ => by
    have g1 : ((σ.set i (some (.p x.1))).set j (some (.p x.2)))[i]? = some (some (.p x.1)) := by
      rw [List.getElem?_set_ne hij.symm]
      exact List.getElem?_set_self hi
    have g2 : ((σ.set i (some (.p x.1))).set j (some (.p x.2)))[j]? = some (some (.p x.2)) := List.getElem?_set_self (by rw [List.length_set]; exact hj)
    simp only [at_dTup, at_dCons, at_dVar, at_dNil, g1, g2, bnd_some]
    exact newT_p (S := S) [x.1, x.2] (small (by simp)))]
  unfold pr
  rw [List.map_map]
  rfl
abbrev Tx2 := List (P × List (P × P))
def txs (ts : Tx2) : List (P × P) := ts.map fun t => (t.1, .lst (pr t.2))
theorem txs_len (ts : Tx2) : (txs ts).length = ts.length := List.length_map _
def kepG (as ss : List (P × P)) (ts : Tx2) : List (Str × P) := [("acts", .lst (pr as)), ("sums", .lst (pr ss)), ("texts", .lst (pr (txs ts)))]
def kepP (as ss : List (P × P)) (ts : Tx2) : P := .ins 1 (kepG as ss ts)
theorem kinit_eq (S : SH) (as ss : List (P × P)) (ts : Tx2) (l1 : as.length ≤ 100) (l2 : ss.length ≤ 100) (l3 : ts.length ≤ 100) (l4 : ∀ t ∈ ts, t.2.length ≤ 100) :
    m_Kept_init [.ref S.os.length, .p (.lst (pr as)), .p (.lst (pr ss)), .p (.lst (pr (txs ts)))] ⟨S.os.length, S.os ++ [.ins 1 []]⟩ = some (.p .non, ⟨S.os.length, S.os ++ [.ins 1 ((kepG as ss ts).map fun p => (p.1, .p p.2))]⟩) := by
  have c0 : ([1] : List Nat).contains 1 = true := by decide
  let σ0 : En := [some (.ref S.os.length), some (.p (.lst (pr as))), some (.p (.lst (pr ss))), some (.p (.lst (pr (txs ts)))), none, none, none, none, none, none, none]
  have ev : startD 11 [.ref S.os.length, .p (.lst (pr as)), .p (.lst (pr ss)), .p (.lst (pr (txs ts)))] = σ0 := rfl
  have it : ∀ (ps : List P) (T : SH), srcOf (.p (.lst ps)) T = some (srcP ps, T) := fun _ _ => rfl
  have cp1 := fun T => comp_same (i := 4) (j := 5) (σ := σ0) (S := T) as (by omega) (by decide) (show 4 < 11 by decide) (show 5 < 11 by decide)
  have cp2 := fun T => comp_same (i := 6) (j := 7) (σ := σ0) (S := T) ss (by omega) (by decide) (show 6 < 11 by decide) (show 7 < 11 by decide)
  have nl1 := fun T => newL_f (S := T) (pr as) (small (by rw [pr_len]; omega))
  have nl2 := fun T => newL_f (S := T) (pr ss) (small (by rw [pr_len]; omega))
  have nl3 := fun T => newL_f (S := T) (pr (txs ts)) (small (by rw [pr_len, txs_len]; omega))
  have cp3 : ∀ T, compL (srcP (pr (txs ts))).fin (gTp 2 (gCn (gNm 6) (gCn (gNm 8) gNl))) dYes (dTup (dCons (dVar 6) (dCons (dComp false (dIt (dVar 8)) (gTp 2 (gCn (gNm 9) (gCn (gNm 10) gNl))) dYes (dTup (dCons (dVar 9) (dCons (dVar 10) dNil))) [9, 10]) dNil))) σ0 (srcP (pr (txs ts))).items [] T = some ((pr (txs ts)).map D.p, T) := fun T => by
    rw [comp_pair (fun a b => D.p (.tup [a, b])) (txs ts) (small (by rw [txs_len]; omega)) (fun x hx => by
      obtain ⟨t, ht, rfl⟩ := List.mem_map.mp hx
      have c4 := fun T => comp_same (i := 9) (j := 10) (σ := [some (.ref S.os.length), some (.p (.lst (pr as))), some (.p (.lst (pr ss))), some (.p (.lst (pr (txs ts)))), none, none, some (.p t.1), none, some (.p (.lst (pr t.2))), none, none]) (S := T) t.2 (by have := l4 t ht; omega) (by decide) (show 9 < 11 by decide) (show 10 < 11 by decide)
      have nl4 := fun T => newL_f (S := T) (pr t.2) (small (by rw [pr_len]; have := l4 t ht; omega))
      have nt : ∀ T, newT [.p t.1, .p (.lst (pr t.2))] T = some (.p (.tup [t.1, .lst (pr t.2)]), T) := fun T => newT_p (S := T) [t.1, .lst (pr t.2)] (small (by simp))
      show (dTup (dCons (dVar 6) (dCons (dComp false (dIt (dVar 8)) (gTp 2 (gCn (gNm 9) (gCn (gNm 10) gNl))) dYes (dTup (dCons (dVar 9) (dCons (dVar 10) dNil))) [9, 10]) dNil))) [some (.ref S.os.length), some (.p (.lst (pr as))), some (.p (.lst (pr ss))), some (.p (.lst (pr (txs ts)))), none, none, some (.p t.1), none, some (.p (.lst (pr t.2))), none, none] T = _
      simp only [at_dTup, at_dCons, at_dVar, at_dNil, at_dComp, at_dIt, bnd_some, List.getElem?_cons_zero, List.getElem?_cons_succ, it, wipeD, List.set_cons_zero, List.set_cons_succ, c4, nl4, nt])]
    unfold pr
    rw [List.map_map]
    rfl
  have q1 : putFD "acts" (.p (.lst (pr as))) ([] : List (Str × D)) = ([("acts", .p (.lst (pr as)))] : List (Str × D)) := rfl
  have q2 : putFD "sums" (.p (.lst (pr ss))) ([("acts", .p (.lst (pr as)))] : List (Str × D)) = ([("acts", .p (.lst (pr as))), ("sums", .p (.lst (pr ss)))] : List (Str × D)) := rfl
  have q3 : putFD "texts" (.p (.lst (pr (txs ts)))) ([("acts", .p (.lst (pr as))), ("sums", .p (.lst (pr ss)))] : List (Str × D)) = ([("acts", .p (.lst (pr as))), ("sums", .p (.lst (pr ss))), ("texts", .p (.lst (pr (txs ts))))] : List (Str × D)) := rfl
  have sl : ∀ {f : Str} {v : P} {fs : List (Str × D)}, fs.length < 1000 → setFld [1] f (.ref S.os.length) (.p v) ⟨S.os.length, S.os ++ [.ins 1 fs]⟩ = some ⟨S.os.length, S.os ++ [.ins 1 (putFD f (.p v) fs)]⟩ := fun hl => setF_last c0 hl
  have w1 : wipeD [4, 5] σ0 = σ0 := rfl
  have w2 : wipeD [6, 7] σ0 = σ0 := rfl
  have w3 : wipeD [6, 8] σ0 = σ0 := rfl
  have v0 : σ0[0]? = some (some (.ref S.os.length)) := rfl
  have v1 : σ0[1]? = some (some (.p (.lst (pr as)))) := rfl
  have v2 : σ0[2]? = some (some (.p (.lst (pr ss)))) := rfl
  have v3 : σ0[3]? = some (some (.p (.lst (pr (txs ts))))) := rfl
  unfold m_Kept_init
  rw [fnL_at (k := 4) rfl, ev, at_dSeq]
  simp only [at_dSetF, at_dComp, at_dIt, at_dVar, v0, v1, v2, v3, w1, w2, w3, it, bnd_some, cp1, nl1]
  rw [sl (by simp only [List.length_nil]; omega), q1]
  simp only [bnd_some, seqK_nx]
  rw [at_dSeq]
  simp only [at_dSetF, at_dComp, at_dIt, at_dVar, v0, v1, v2, v3, w1, w2, w3, it, bnd_some, cp2, nl2]
  rw [sl (by simp only [List.length_cons, List.length_nil]; omega), q2]
  simp only [bnd_some, seqK_nx]
  simp only [at_dSetF, at_dComp, at_dIt, at_dVar, v0, v1, v2, v3, w1, w2, w3, it, bnd_some, cp3, nl3]
  rw [sl (by simp only [List.length_cons, List.length_nil]; omega), q3]
  rfl
theorem kmk_eq (S : SH) {a : MA} {σ : En} (as ss : List (P × P)) (ts : Tx2) (ha : a σ S = some ([.p (.lst (pr as)), .p (.lst (pr ss)), .p (.lst (pr (txs ts)))], S)) (l1 : as.length ≤ 100) (l2 : ss.length ≤ 100) (l3 : ts.length ≤ 100) (l4 : ∀ t ∈ ts, t.2.length ≤ 100) :
    dMake false 1 m_Kept_init a σ S = some (.p (kepP as ss ts), S) := by
  rw [at_dMakeF, ha, bnd_some, kinit_eq S as ss ts l1 l2 l3 l4, bnd_some]
  have e := out_ins (k := S.os.length) (c := 1) (n := S.os.length) (S1 := ⟨S.os.length, S.os ++ [.ins 1 ((kepG as ss ts).map fun p => (p.1, .p p.2))]⟩) (gs := kepG as ss ts) (Nat.le_refl _) (at_last _ _ _)
  dsimp only
  rw [e]
  dsimp only
  rw [cut_app]
  rfl
end Kb
namespace Kb
open PySem PySem.Spec PyProof.Rows L2 Pv
/-! the store -/
abbrev k0P : P := kepP [] [] []
def stoF (n m : Nat) : List (Str × D) := [("members", .p (.int (m : Int))), ("cut", .ref (n + 1)), ("capabilities", .p (.lst [])), ("kept", .p (.lst [k0P, k0P, k0P, k0P])), ("changes", .ref (n + 2 + m))]
abbrev chO (c : List P) : Ob := .lst (c.map D.p)
abbrev ouO (n m : Nat) : Ob := .lst (tab m fun j => .ref (n + 2 + j))
def stoL (os : List Ob) (m : Nat) (cut : List Int) (chs : List (List P)) : List Ob := os ++ (.ins 2 (stoF os.length m) :: liO cut :: (chs.map chO ++ [ouO os.length m]))
structure Sto (S : SH) (n m : Nat) (cut : List Int) (chs : List (List P)) : Prop where
  o : S.os[n]? = some (.ins 2 (stoF n m))
  c : S.os[n + 1]? = some (liO cut)
  l : ∀ (j : Nat) (c : List P), chs[j]? = some c → S.os[n + 2 + j]? = some (chO c)
  d : S.os[n + 2 + m]? = some (ouO n m)
  lm : chs.length = m
  lc : cut.length = m
theorem sto_sto (b : Nat) (os : List Ob) (m : Nat) (cut : List Int) (chs : List (List P)) (lm : chs.length = m) (lc : cut.length = m) : Sto ⟨b, stoL os m cut chs⟩ os.length m cut chs := by
  refine ⟨?_, ?_, fun j c h => ?_, ?_, lm, lc⟩
  · simp [stoL]
  · simp [stoL]
  · have hj := (List.getElem?_eq_some_iff.mp h).1
    show (os ++ _)[os.length + 2 + j]? = _
    rw [List.getElem?_append_right (by omega), show os.length + 2 + j - os.length = j + 1 + 1 by omega, List.getElem?_cons_succ, List.getElem?_cons_succ, List.getElem?_append_left (by rw [List.length_map]; exact hj), List.getElem?_map, h]
    rfl
  · show (os ++ _)[os.length + 2 + m]? = _
    rw [List.getElem?_append_right (by omega), show os.length + 2 + m - os.length = m + 1 + 1 by omega, List.getElem?_cons_succ, List.getElem?_cons_succ, List.getElem?_append_right (by rw [List.length_map, lm]; exact Nat.le_refl _), List.length_map, lm, Nat.sub_self]
    rfl
theorem Sto.of {b b' : Nat} {os : List Ob} {n m : Nat} {cut : List Int} {chs : List (List P)} (h : Sto ⟨b, os⟩ n m cut chs) : Sto ⟨b', os⟩ n m cut chs := ⟨h.o, h.c, h.l, h.d, h.lm, h.lc⟩
theorem set_app {α : Type} (a : List α) (r : List α) (i : Nat) (v : α) : (a ++ r).set (a.length + i) v = a ++ r.set i v := by
  rw [List.set_append_right _ _ (by omega), Nat.add_sub_cancel_left]
theorem put_at (b : Nat) (os r : List Ob) (i : Nat) (v : Ob) : SH.put ⟨b, os ++ r⟩ (os.length + i) v = ⟨b, os ++ r.set i v⟩ := by
  unfold SH.put
  rw [set_app]
theorem sto_put_cut (b : Nat) (os : List Ob) (m : Nat) (cut cut' : List Int) (chs : List (List P)) : SH.put ⟨b, stoL os m cut chs⟩ (os.length + 1) (liO cut') = ⟨b, stoL os m cut' chs⟩ := put_at b os _ 1 _
theorem sto_put_ch (b : Nat) (os : List Ob) (m : Nat) (cut : List Int) (chs : List (List P)) (j : Nat) (hj : j < chs.length) (c : List P) : SH.put ⟨b, stoL os m cut chs⟩ (os.length + 2 + j) (chO c) = ⟨b, stoL os m cut (chs.set j c)⟩ := by
  unfold stoL
  rw [show os.length + 2 + j = os.length + (j + 1 + 1) by omega, put_at, List.set_cons_succ, List.set_cons_succ, List.set_append_left _ _ (by rw [List.length_map]; exact hj), List.map_set]
theorem flds_r {n c : Nat} {fs : List (Str × D)} {S : SH} (h : S.os[n]? = some (.ins c fs)) : fldsOf (.ref n) S = some (c, fs) := by
  unfold fldsOf
  dsimp only
  rw [h]
theorem fld_r {n : Nat} {fs : List (Str × D)} {S : SH} {f : Str} {x : D} (h : S.os[n]? = some (.ins 2 fs)) (hx : fs.lookup f = some x) : dFld [2] f (.ref n) S = some (x, S) := by
  unfold dFld
  rw [flds_r h]
  dsimp only
  rw [if_pos (by decide), hx]
section
variable {S : SH} {n m : Nat} {cut : List Int} {chs : List (List P)} (h : Sto S n m cut chs)
include h
theorem so_members : dFld [2] "members" (.ref n) S = some (.p (.int (m : Int)), S) := fld_r h.o rfl
theorem so_cut : dFld [2] "cut" (.ref n) S = some (.ref (n + 1), S) := fld_r h.o rfl
theorem so_caps : dFld [2] "capabilities" (.ref n) S = some (.p (.lst []), S) := fld_r h.o rfl
theorem so_kept : dFld [2] "kept" (.ref n) S = some (.p (.lst [k0P, k0P, k0P, k0P]), S) := fld_r h.o rfl
theorem so_changes : dFld [2] "changes" (.ref n) S = some (.ref (n + 2 + m), S) := fld_r h.o rfl
theorem so_ix {j : Nat} (hj : j < m) : fIx (.ref (n + 2 + m)) (.p (.int (j : Int))) S = some (.ref (n + 2 + j), S) := fIx_rn h.d (tab_at _ hj)
theorem so_ixc {j : Nat} {v : Int} (e : cut[j]? = some v) : fIx (.ref (n + 1)) (.p (.int (j : Int))) S = some (.p (.int v), S) := fIx_rn h.c (by rw [List.getElem?_map, intsP_at e]; rfl)
theorem so_meth {nm : Str} {mf : MF} {a : ME} {r : MA} {σ : En} (ha : a σ S = some (.ref n, S)) (hn : (stoF n m).lookup nm = none) : dMeth 2 nm mf a r σ S = bnd (r σ S) fun xs S2 => mf (.ref n :: xs) S2 := by
  rw [at_dMeth, ha, bnd_some, flds_r h.o]
  dsimp only
  rw [if_pos ⟨rfl, hn⟩]
end
/-! Store(m) -/
theorem at_dMakeT {c : Nat} {init : MF} {a : MA} {σ : En} {S : SH} : dMake true c init a σ S = bnd (a σ S) fun xs S1 => bnd (init (.ref S1.os.length :: xs) ⟨S1.b, S1.os ++ [.ins c []]⟩) fun d S2 => match d with | .p .non => some (.ref S1.os.length, S2) | _ => none := by
  unfold dMake
  rfl
theorem kept0 (T : SH) (σ : En) : dMake false 1 m_Kept_init (dCons (dLst false dNil) (dCons (dLst false dNil) (dCons (dLst false dNil) dNil))) σ T = some (.p k0P, T) := by
  have nl : ∀ T, newL false [] T = some (.p (.lst []), T) := fun T => newL_f (S := T) [] (small (by simp))
  rw [kmk_eq T [] [] [] (by simp only [at_dCons, at_dLst, at_dNil, bnd_some, nl]; rfl) (by simp) (by simp) (by simp) (by simp)]
theorem comp_new {j b : Nat} {σ : En} : ∀ (its : List (SH → Option D)) (acc : List D) (os : List Ob), (∀ it ∈ its, ∀ S, ∃ d, it S = some d) → acc.length + its.length ≤ sizeLine →
    compL (fun _ => true) (gNm j) dYes (dLst true dNil) σ its acc ⟨b, os⟩ = some (acc ++ tab its.length fun j => .ref (os.length + j), ⟨b, os ++ List.replicate its.length (.lst [])⟩)
  | [], acc, os, _, _ => by simp [compL, tab]
  | it :: its, acc, os, h, hl => by
    rw [List.length_cons] at hl
    obtain ⟨d, hd⟩ := h it List.mem_cons_self ⟨b, os⟩
    have ih := comp_new (j := j) (b := b) (σ := σ) its (acc ++ [.ref os.length]) (os ++ [.lst []]) (fun t ht => h t (List.mem_cons_of_mem _ ht)) (by rw [List.length_append, List.length_singleton]; omega)
    have nl : newL true [] ⟨b, os⟩ = some (.ref os.length, ⟨b, os ++ [.lst []]⟩) := newL_t (S := ⟨b, os⟩) [] (Nat.zero_le _)
    rw [compL, hd]
    dsimp only
    simp only [at_gNm, bnd_some, at_dYes, if_true, at_dLst, at_dNil, nl]
    rw [if_pos (by omega), ih, List.length_cons, List.replicate_succ, List.append_assoc, List.append_assoc, List.length_append, List.length_singleton]
    congr 3
    unfold tab
    rw [List.range_succ_eq_map, List.map_cons, List.map_map, Nat.add_zero]
    show D.ref os.length :: _ = _
    congr 1
    apply List.map_congr_left
    intro a _
    show D.ref (os.length + 1 + a) = D.ref (os.length + (a + 1))
    congr 1
    omega
theorem sinit (b : Nat) (os : List Ob) (hb : b ≤ os.length) (m : Nat) (hm : m ≤ 100) : m_Store_init [.ref os.length, .p (.int (m : Int))] ⟨b, os ++ [.ins 2 []]⟩ = some (.p .non, ⟨b, stoL os m (tab m fun _ => 0) (List.replicate m [])⟩) := by
  have c0 : ([2] : List Nat).contains 2 = true := by decide
  have ev : startD 3 [.ref os.length, .p (.int (m : Int))] = [some (.ref os.length), some (.p (.int (m : Int))), none] := rfl
  have rz := fun T => rng_nat m (by omega) T
  have rz4 : ∀ T, rng1 [.p u_SPACES] T = some (srcN 0 4, T) := fun T => srt_rng 4 (by decide)
  have sf : ∀ {f : Str} {v : D} {fs : List (Str × D)} {r : List Ob}, fs.length < 1000 → setFld [2] f (.ref os.length) v ⟨b, os ++ (.ins 2 fs :: r)⟩ = some ⟨b, os ++ (.ins 2 (putFD f v fs) :: r)⟩ := fun {f v fs r} hl => by
    have e : (os ++ (.ins 2 fs :: r))[os.length]? = some (.ins 2 fs) := by simp
    have o : okRef ⟨b, os ++ (.ins 2 fs :: r)⟩ os.length v = true := by
      cases v with
      | p x => rfl
      | ref j => exact decide_eq_true hb
    unfold setFld
    dsimp only
    rw [e]
    dsimp only
    rw [if_pos ⟨c0, hl, o⟩]
    have := put_at b os (.ins 2 fs :: r) 0 (.ins 2 (putFD f v fs))
    rw [Nat.add_zero] at this
    rw [this]
    rfl
  have cp1 : ∀ T, compL (srcN 0 m).fin (gNm 2) dYes (dC (.int 0)) [some (.ref os.length), some (.p (.int (m : Int))), none] (srcN 0 m).items [] T = some (tab m fun _ => .p (.int 0), T) := fun T => comp_tab (S := T) _ (by omega) fun i hi => rfl
  have cp2 : ∀ T, compL (srcN 0 4).fin (gNm 2) dYes (dMake false 1 m_Kept_init (dCons (dLst false dNil) (dCons (dLst false dNil) (dCons (dLst false dNil) dNil)))) [some (.ref os.length), some (.p (.int (m : Int))), none] (srcN 0 4).items [] T = some ([k0P, k0P, k0P, k0P].map D.p, T) := fun T => comp_tab (S := T) (m := 4) (fun _ => .p k0P) (by omega) fun i hi => kept0 T _
  have nl2 : ∀ T, newL false ([k0P, k0P, k0P, k0P].map D.p) T = some (.p (.lst [k0P, k0P, k0P, k0P]), T) := fun T => newL_f (S := T) _ (small (by simp))
  have nl0 : ∀ T, newL false [] T = some (.p (.lst []), T) := fun T => newL_f (S := T) [] (small (by simp))
  let f1 : List (Str × D) := [("members", .p (.int (m : Int)))]
  let f2 : List (Str × D) := [("members", .p (.int (m : Int))), ("cut", .ref (os.length + 1))]
  let f3 : List (Str × D) := [("members", .p (.int (m : Int))), ("cut", .ref (os.length + 1)), ("capabilities", .p (.lst []))]
  let f4 : List (Str × D) := [("members", .p (.int (m : Int))), ("cut", .ref (os.length + 1)), ("capabilities", .p (.lst [])), ("kept", .p (.lst [k0P, k0P, k0P, k0P]))]
  have n1 : newL true (tab m fun _ => .p (.int 0)) ⟨b, os ++ (.ins 2 f1 :: [])⟩ = some (.ref (os.length + 1), ⟨b, os ++ (.ins 2 f1 :: [liO (tab m fun _ => 0)])⟩) := by
    rw [newL_t _ (small (by rw [tab_len]; omega)), ← intsP_tab]
    simp
  have cp3 : compL (srcN 0 m).fin (gNm 2) dYes (dLst true dNil) [some (.ref os.length), some (.p (.int (m : Int))), none] (srcN 0 m).items [] ⟨b, os ++ (.ins 2 f4 :: [liO (tab m fun _ => 0)])⟩ = some (tab m fun j => .ref (os.length + 2 + j), ⟨b, os ++ (.ins 2 f4 :: liO (tab m fun _ => 0) :: List.replicate m (.lst []))⟩) := by
    have q := comp_new (j := 2) (b := b) (σ := [some (.ref os.length), some (.p (.int (m : Int))), none]) (srcN 0 m).items [] (os ++ (.ins 2 f4 :: [liO (tab m fun _ => 0)])) (by
      intro it hit S
      simp only [srcN, List.mem_map] at hit
      obtain ⟨i, _, rfl⟩ := hit
      exact ⟨_, rfl⟩) (by simp [srcN]; exact small (by omega))
    have e1 : (srcN 0 m).items.length = m := by simp [srcN]
    rw [e1, List.nil_append] at q
    have e2 : (os ++ (.ins 2 f4 :: [liO (tab m fun _ => 0)])).length = os.length + 2 := by simp
    rw [e2, List.append_assoc] at q
    exact q
  have n3 : newL true (tab m fun j => .ref (os.length + 2 + j)) ⟨b, os ++ (.ins 2 f4 :: liO (tab m fun _ => 0) :: List.replicate m (.lst []))⟩ = some (.ref (os.length + 2 + m), ⟨b, os ++ (.ins 2 f4 :: (liO (tab m fun _ => 0) :: (List.replicate m (.lst []) ++ [ouO os.length m])))⟩) := by
    rw [newL_t _ (small (by rw [tab_len]; omega))]
    have e : (os ++ (.ins 2 f4 :: liO (tab m fun _ => 0) :: List.replicate m (.lst []))).length = os.length + 2 + m := by simp; omega
    show some (D.ref (os ++ (.ins 2 f4 :: liO (tab m fun _ => 0) :: List.replicate m (.lst []))).length, _) = _
    rw [e]
    simp
  unfold m_Store_init
  rw [fnL_at (k := 2) rfl, ev, at_dSeq]
  simp only [at_dSetF, at_dVar, List.getElem?_cons_zero, List.getElem?_cons_succ, bnd_some]
  rw [sf (r := []) (by simp only [List.length_nil]; omega)]
  simp only [bnd_some, seqK_nx]
  rw [show (putFD "members" (.p (.int (m : Int))) ([] : List (Str × D))) = f1 from rfl, at_dSeq]
  simp only [at_dSetF, at_dVar, at_dComp, at_dRng1, at_dCons, at_dNil, List.getElem?_cons_zero, List.getElem?_cons_succ, bnd_some, rz, wipeD, List.set_cons_zero, List.set_cons_succ, cp1]
  rw [n1, bnd_some, sf (by simp [f1])]
  simp only [bnd_some, seqK_nx]
  rw [show putFD "cut" (.ref (os.length + 1)) f1 = f2 from rfl, at_dSeq]
  simp only [at_dSetF, at_dVar, at_dLst, at_dNil, List.getElem?_cons_zero, List.getElem?_cons_succ, bnd_some, nl0]
  rw [sf (by simp [f2])]
  simp only [bnd_some, seqK_nx]
  rw [show putFD "capabilities" (.p (.lst [])) f2 = f3 from rfl, at_dSeq]
  simp only [at_dSetF, at_dVar, at_dComp, at_dRng1, at_dCons, at_dNil, at_dC, List.getElem?_cons_zero, List.getElem?_cons_succ, bnd_some, rz4, wipeD, List.set_cons_zero, List.set_cons_succ, cp2, nl2]
  rw [sf (by simp [f3])]
  simp only [bnd_some, seqK_nx]
  rw [show putFD "kept" (.p (.lst [k0P, k0P, k0P, k0P])) f3 = f4 from rfl]
  simp only [at_dSetF, at_dVar, at_dComp, at_dRng1, at_dCons, at_dNil, List.getElem?_cons_zero, List.getElem?_cons_succ, bnd_some, rz, wipeD, List.set_cons_zero, List.set_cons_succ]
  rw [cp3, bnd_some, n3, bnd_some, sf (by simp [f4])]
  rw [show putFD "changes" (.ref (os.length + 2 + m)) f4 = stoF os.length m from rfl]
  unfold stoL
  rw [List.map_replicate]
  rfl
theorem smake (S : SH) (hb : S.b ≤ S.os.length) (m : Nat) (hm : m ≤ 100) {a : MA} {σ : En} (ha : a σ S = some ([.p (.int (m : Int))], S)) : dMake true 2 m_Store_init a σ S = some (.ref S.os.length, ⟨S.b, stoL S.os m (tab m fun _ => 0) (List.replicate m [])⟩) := by
  rw [at_dMakeT, ha, bnd_some, sinit S.b S.os hb m hm, bnd_some]
end Kb
namespace Kb
open PySem PySem.Spec PyProof.Rows L2 Pv
abbrev parts4 : List P := [.tup [], .tup [], .tup [], .tup []]
def chP (r : R4) : P := insP (.int (r.a : Int)) (.int (r.n : Int)) .non (intsP r.h) [] parts4
section
variable (r : R4) (S : SH)
theorem ch_author : dFld [0] "author" (.p (chP r)) S = some (.p (.int (r.a : Int)), S) := f_author _ _ _ _ _ _ S
theorem ch_number : dFld [0] "number" (.p (chP r)) S = some (.p (.int (r.n : Int)), S) := f_number _ _ _ _ _ _ S
theorem ch_heard : dFld [0] "heard" (.p (chP r)) S = some (.p (.tup (intsP r.h)), S) := f_heard _ _ _ _ _ _ S
theorem ch_parts : dFld [0] "parts" (.p (chP r)) S = some (.p (.tup parts4), S) := f_parts _ _ _ _ _ _ S
theorem ch_header (σ : En) (i : Nat) (h : σ[i]? = some (some (.p (chP r)))) : dMeth 0 "header" m_Change_header (dVar i) dNil σ S = some (.p (.tup [.int (r.a : Int), .int (r.n : Int), .tup (intsP r.h), .non, .tup []]), S) := by
  rw [meth_at (gs := insG (.int (r.a : Int)) (.int (r.n : Int)) .non (intsP r.h) [] parts4) (by rw [at_dVar, h]; rfl) rfl]
  exact header_eq _ _ _ _ _ _ S
theorem hlen : fLen [.p (.tup (intsP r.h))] S = some (.p (.int (r.h.length : Int)), S) := by rw [fLen_t, intsP_len]
theorem hix {j : Nat} (hj : j < r.h.length) : fIx (.p (.tup (intsP r.h))) (.p (.int (j : Int))) S = some (.p (.int (r.h.getD j 0)), S) := fIx_t (intsP_at (getD_at hj))
end
/-! what the store tells -/
abbrev tabC (m : Nat) (g : Nat → List R4) : List (List P) := tab m fun j => (g j).map chP
section
variable {S : SH} {n m : Nat} {c : Nat → Int} {g : Nat → List R4} (h : Sto S n m (tab m c) (tabC m g))
include h
theorem count_eq {j : Nat} (hj : j < m) : m_Store_count [.ref n, .p (.int (j : Int))] S = some (.p (.int (c j + ((g j).length : Int))), S) := by
  obtain ⟨S1, hS⟩ : ∃ S1 : SH, S1 = ⟨S.os.length, S.os⟩ := ⟨_, rfl⟩
  have h1 : Sto S1 n m (tab m c) (tabC m g) := by rw [hS]; exact h.of
  have ev : startD 2 [.ref n, .p (.int (j : Int))] = [some (.ref n), some (.p (.int (j : Int)))] := rfl
  have i1 := so_ixc h1 (tab_at c hj)
  have i2 := so_ix h1 hj
  have l1 : fLen [.ref (n + 2 + j)] S1 = some (.p (.int ((g j).length : Int)), S1) := by
    have q := len_r (h1.l j _ (tab_at _ hj))
    rw [List.length_map, List.length_map] at q
    exact q
  unfold m_Store_count
  rw [fn_at (k := 2) rfl, ev, ← hS]
  simp only [at_dRet, at_dOp, at_dUn, at_dVar, at_dCall, at_dCons, at_dNil, bnd_some, List.getElem?_cons_zero, List.getElem?_cons_succ, so_cut h1, so_changes h1, i1, i2, l1, fAdd_i, frame_p]
  rw [hS, cut_self]
end
def fnd (l : List R4) (c x : Int) : Option R4 := if 0 ≤ x - c - 1 then l[(x - c - 1).toNat]? else none
def optC : Option R4 → P
  | some r => chP r
  | none => .non
section
variable {S : SH} {n m : Nat} {c : Nat → Int} {g : Nat → List R4} (h : Sto S n m (tab m c) (tabC m g))
include h
theorem find_eq {j : Nat} (hj : j < m) (x : Int) : m_Store_find [.ref n, .p (.tup [.int (j : Int), .int x])] S = some (.p (optC (fnd (g j) (c j) x)), S) := by
  obtain ⟨S1, hS⟩ : ∃ S1 : SH, S1 = ⟨S.os.length, S.os⟩ := ⟨_, rfl⟩
  have h1 : Sto S1 n m (tab m c) (tabC m g) := by rw [hS]; exact h.of
  have ev : startD 5 [.ref n, .p (.tup [.int (j : Int), .int x])] = [some (.ref n), some (.p (.tup [.int (j : Int), .int x])), none, none, none] := rfl
  have i1 := so_ixc h1 (tab_at c hj)
  have i2 := so_ix h1 hj
  have l1 : fLen [.ref (n + 2 + j)] S1 = some (.p (.int ((g j).length : Int)), S1) := by
    have q := len_r (h1.l j _ (tab_at _ hj))
    rw [List.length_map, List.length_map] at q
    exact q
  have a0 : (0 : Int) ≤ (j : Int) := by omega
  have a1 : (j : Int) < (m : Int) := by omega
  have fin : ∀ p, frameF S (some (.ret (.p p), S1)) = some (.p p, S) := fun p => by rw [frame_p, hS, cut_self]
  unfold m_Store_find
  rw [fn_at (k := 2) rfl, ev, ← hS, at_dSeq]
  simp only [at_dAsg, at_gTp, at_gCn, at_gNm, at_gNl, at_dVar, bnd_some, List.getElem?_cons_zero, List.getElem?_cons_succ, List.length_cons, List.length_nil, if_true, List.map_cons, List.map_nil, List.set_cons_zero, List.set_cons_succ, seqK_nx]
  rw [at_dSeq]
  simp only [at_dIf, at_dNot, at_dTest, at_dChain, at_dC, at_dUn, at_dVar, bnd_some, List.getElem?_cons_zero, List.getElem?_cons_succ, fII_eq, if_true, toB_p, a0, a1, decide_true, so_members h1, Bool.not_true, Bool.false_eq_true, if_false, at_dNx, seqK_nx]
  rw [at_dSeq]
  simp only [at_dSet, at_dOp, at_dUn, at_dC, at_dVar, bnd_some, List.getElem?_cons_zero, List.getElem?_cons_succ, so_cut h1, i1, fII_eq, if_true, List.set_cons_zero, List.set_cons_succ, seqK_nx]
  rw [at_dSeq]
  unfold fnd
  by_cases q0 : 0 ≤ x - c j - 1
  · by_cases q1 : x - c j - 1 < ((g j).length : Int)
    · have hlt : (x - c j - 1).toNat < (g j).length := by omega
      have i3 : fIx (.ref (n + 2 + j)) (.p (.int (x - c j - 1))) S1 = some (.p (chP ((g j)[(x - c j - 1).toNat])), S1) := fIx_ri (h1.l j _ (tab_at _ hj)) q0 (by rw [List.getElem?_map, List.getElem?_map, List.getElem?_eq_getElem hlt]; rfl)
      simp only [at_dIf, at_dTest, at_dChain, at_dC, at_dUn, at_dOp, at_dVar, at_dCall, at_dCons, at_dNil, bnd_some, List.getElem?_cons_zero, List.getElem?_cons_succ, fII_eq, if_true, toB_p, q0, q1, decide_true, so_changes h1, i2, l1, at_dRet, i3, seqK_ret]
      rw [fin, List.getElem?_eq_getElem hlt]
      rfl
    · have hge : (g j)[(x - c j - 1).toNat]? = none := List.getElem?_eq_none (by omega)
      simp only [at_dIf, at_dTest, at_dChain, at_dC, at_dUn, at_dOp, at_dVar, at_dCall, at_dCons, at_dNil, bnd_some, List.getElem?_cons_zero, List.getElem?_cons_succ, fII_eq, if_true, toB_p, q0, q1, decide_true, decide_false, Bool.false_eq_true, if_false, so_changes h1, i2, l1, at_dNx, seqK_nx, at_dRet]
      rw [fin, hge]
      rfl
  · simp only [at_dIf, at_dTest, at_dChain, at_dC, at_dUn, at_dOp, at_dVar, at_dCall, at_dCons, at_dNil, bnd_some, List.getElem?_cons_zero, List.getElem?_cons_succ, fII_eq, if_true, toB_p, q0, decide_false, Bool.false_eq_true, if_false, at_dNx, seqK_nx, at_dRet]
    rw [fin]
    rfl
end
/-! covers -/
def cov (r q : R4) : Bool := decide (q.h.length = r.h.length) && (List.range r.h.length).all fun k => !decide (r.h.getD k 0 < q.h.getD k 0)
theorem covers_eq (r q : R4) (hl : r.h.length ≤ 100) (S : SH) : m_covers [.p (chP r), .p (chP q)] S = some (.p (.bl (cov r q)), S) := by
  have ev : startD 3 [.p (chP r), .p (chP q)] = [some (.p (chP r)), some (.p (chP q)), none] := rfl
  obtain ⟨S1, hS⟩ : ∃ S1 : SH, S1 = ⟨S.os.length, S.os⟩ := ⟨_, rfl⟩
  have fin : ∀ p, frameF S (some (.ret (.p p), S1)) = some (.p p, S) := fun p => by rw [frame_p, hS, cut_self]
  unfold m_covers cov
  rw [fn_at (k := 2) rfl, ev, ← hS, at_dSeq]
  simp only [at_dIf, at_dTest, at_dOp, at_dUn, at_dVar, at_dCall, at_dCons, at_dNil, bnd_some, List.getElem?_cons_zero, List.getElem?_cons_succ, ch_heard, hlen, fEq_ii, if_true, toB_p]
  by_cases e : q.h.length = r.h.length
  · have e' : ((q.h.length : Int) = (r.h.length : Int)) := by omega
    have lp := rng_chk (body := dIf (dTest (dOp fGt (dOp fIx (dUn (dFld [0] "heard") (dVar 1)) (dVar 2)) (dOp fIx (dUn (dFld [0] "heard") (dVar 0)) (dVar 2)))) (dRet (dC (.bl false))) dNx) (ws := [2]) (j := 2) (σ := [some (.p (chP r)), some (.p (chP q)), none]) (S := S1) (r := .p (.bl false)) (fun k => !decide (r.h.getD k 0 < q.h.getD k 0)) r.h.length fun k hk => by
      have x1 := hix r S1 hk
      have x2 := hix q S1 (j := k) (by omega)
      refine ⟨fun ok => ⟨[some (.p (chP r)), some (.p (chP q)), some (.p (.int (k : Int)))], .inl ?_, rfl⟩, fun ok => ?_⟩
      · have ok' : ¬ r.h.getD k 0 < q.h.getD k 0 := by simpa using ok
        simp only [at_dIf, at_dTest, at_dOp, at_dUn, at_dVar, bnd_some, List.set_cons_zero, List.set_cons_succ, List.getElem?_cons_zero, List.getElem?_cons_succ, ch_heard, x1, x2, fII_eq, if_true, toB_p, ok', decide_false, Bool.false_eq_true, if_false, at_dNx]
      · have ok' : r.h.getD k 0 < q.h.getD k 0 := by simpa using ok
        simp only [at_dIf, at_dTest, at_dOp, at_dUn, at_dVar, at_dC, bnd_some, List.set_cons_zero, List.set_cons_succ, List.getElem?_cons_zero, List.getElem?_cons_succ, ch_heard, x1, x2, fII_eq, if_true, toB_p, ok', decide_true, at_dRet]
    simp only [e', decide_true, Bool.not_true, Bool.false_eq_true, if_false, at_dNx]
    rw [bnd_some, seqK_nx, at_dSeq]
    simp only [at_dFor, at_dRng1, at_dCall, at_dCons, at_dUn, at_dVar, at_dNil, bnd_some, List.getElem?_cons_zero, List.getElem?_cons_succ, ch_heard, hlen, rng_nat r.h.length (by omega), wipeD, List.set_cons_zero, List.set_cons_succ, lp]
    rw [decide_eq_true e, Bool.true_and]
    by_cases al : ((List.range r.h.length).all fun k => !decide (r.h.getD k 0 < q.h.getD k 0)) = true
    · rw [if_pos al, bnd_some, seqK_nx, at_dRet, at_dC, bnd_some, fin, al]
    · rw [if_neg al, bnd_some, seqK_ret, fin]
      rw [Bool.not_eq_true] at al
      rw [al]
  · have e' : ¬ ((q.h.length : Int) = (r.h.length : Int)) := by omega
    simp only [e', decide_false, Bool.not_false, if_true, at_dRet, at_dC, bnd_some, seqK_ret]
    rw [fin, decide_eq_false e]
    rfl
/-! one change -/
def sndO (r : R4) : Option R4 → Bool
  | some q => cov r q
  | none => true
def snd1 (c : Nat → Int) (g : Nat → List R4) (r : R4) (j : Nat) : Bool := !decide (c j + ((g j).length : Int) < r.h.getD j 0) && sndO r (fnd (g j) (c j) (r.h.getD j 0))
def snd (m : Nat) (c : Nat → Int) (g : Nat → List R4) (r : R4) : Bool := decide (r.h.length = m) && (decide (r.h.getD r.a 0 = (r.n : Int) - 1) && (List.range m).all (snd1 c g r))
abbrev sndB : MS := (dSeq (dIf (dTest (dOp fGt (dOp fIx (dUn (dFld [0] "heard") (dVar 1)) (dVar 2)) (dMeth 2 "count" m_Store_count (dVar 0) (dCons (dVar 2) dNil))))
      (dRet (dC (.bl false)))
      dNx)
    (dSeq (dSet 3 (dMeth 2 "find" m_Store_find (dVar 0) (dCons (dTup (dCons (dVar 2) (dCons (dOp fIx (dUn (dFld [0] "heard") (dVar 1)) (dVar 2)) dNil))) dNil)))
    (dIf (dAnd (dTest (dOp (fIs true) (dVar 3) (dC .non))) (dNot (dTest (dCall m_covers (dCons (dVar 1) (dCons (dVar 3) dNil))))))
      (dRet (dC (.bl false)))
      dNx)))
section
variable {S : SH} {n m : Nat} {c : Nat → Int} {g : Nat → List R4} (h : Sto S n m (tab m c) (tabC m g))
include h
theorem snd1_eq (r : R4) (hl : r.h.length = m) (hm : m ≤ 100) {j : Nat} (hj : j < m) : ∃ σ2, wipeD [2, 3] σ2 = [some (.ref n), some (.p (chP r)), none, none] ∧ sndB [some (.ref n), some (.p (chP r)), some (.p (.int (j : Int))), none] S = if snd1 c g r j = true then some (.nx σ2, S) else some (.ret (.p (.bl false)), S) := by
  refine ⟨[some (.ref n), some (.p (chP r)), some (.p (.int (j : Int))), some (.p (optC (fnd (g j) (c j) (r.h.getD j 0))))], rfl, ?_⟩
  have x1 := fun S => hix r S (j := j) (by omega)
  have ct := count_eq h hj
  have fd := find_eq h hj (r.h.getD j 0)
  have nt : ∀ T, newT [.p (.int (j : Int)), .p (.int (r.h.getD j 0))] T = some (.p (.tup [.int (j : Int), .int (r.h.getD j 0)]), T) := fun T => newT_p (S := T) [.int (j : Int), .int (r.h.getD j 0)] (small (by simp))
  have mt1 := so_meth h (nm := "count") (mf := m_Store_count) (a := dVar 0) (r := dCons (dVar 2) dNil) (σ := [some (.ref n), some (.p (chP r)), some (.p (.int (j : Int))), none]) rfl rfl
  have mt2 := so_meth h (nm := "find") (mf := m_Store_find) (a := dVar 0) (r := (dCons (dTup (dCons (dVar 2) (dCons (dOp fIx (dUn (dFld [0] "heard") (dVar 1)) (dVar 2)) dNil))) dNil)) (σ := [some (.ref n), some (.p (chP r)), some (.p (.int (j : Int))), none]) rfl rfl
  simp only [at_dCons, at_dTup, at_dOp, at_dUn, at_dVar, at_dNil, bnd_some, List.getElem?_cons_zero, List.getElem?_cons_succ, ch_heard, x1, nt, ct, fd] at mt1 mt2
  unfold sndB snd1
  rw [at_dSeq]
  simp only [at_dIf, at_dTest, at_dOp, at_dUn, at_dVar, bnd_some, List.getElem?_cons_zero, List.getElem?_cons_succ, ch_heard, x1, mt1, fII_eq, if_true, toB_p]
  by_cases q : c j + ((g j).length : Int) < r.h.getD j 0
  · simp only [q, decide_true, if_true, at_dRet, at_dC, bnd_some, seqK_ret, Bool.not_true, Bool.false_and, Bool.false_eq_true, if_false]
  · simp only [q, decide_false, Bool.false_eq_true, if_false, at_dNx, Bool.not_false, Bool.true_and]
    rw [bnd_some, seqK_nx, at_dSeq]
    simp only [at_dSet, mt2, bnd_some, seqK_nx, List.set_cons_zero, List.set_cons_succ]
    cases e : fnd (g j) (c j) (r.h.getD j 0) with
    | none => simp [optC, sndO, fIs, isNon]
    | some q =>
      have cv := fun T => covers_eq r q (by omega) T
      have nn : isNon (.p (chP q)) = false := rfl
      have is' : fIs true (.p (chP q)) (.p .non) S = some (.p (.bl true), S) := by
        show some (D.p (.bl (if true = true then !isNon (.p (chP q)) else isNon (.p (chP q)))), S) = _
        rw [nn]
        rfl
      simp only [optC, sndO, at_dIf, at_dAnd, at_dNot, at_dTest, at_dOp, at_dVar, at_dC, at_dCall, at_dCons, at_dNil, bnd_some, List.getElem?_cons_zero, List.getElem?_cons_succ, is', toB_p, if_true, cv]
      by_cases cc : cov r q = true
      · simp [cc]
      · rw [Bool.not_eq_true] at cc
        simp [cc]
theorem sound_eq (r : R4) (ha : r.a < m) (hl : r.h.length ≤ 100) (hm : m ≤ 100) : m_is_sound [.ref n, .p (chP r)] S = some (.p (.bl (snd m c g r)), S) := by
  have ev : startD 4 [.ref n, .p (chP r)] = [some (.ref n), some (.p (chP r)), none, none] := rfl
  obtain ⟨S1, hS⟩ : ∃ S1 : SH, S1 = ⟨S.os.length, S.os⟩ := ⟨_, rfl⟩
  have h1 : Sto S1 n m (tab m c) (tabC m g) := by rw [hS]; exact h.of
  have fin : ∀ p, frameF S (some (.ret (.p p), S1)) = some (.p p, S) := fun p => by rw [frame_p, hS, cut_self]
  unfold m_is_sound snd
  rw [fn_at (k := 2) rfl, ev, ← hS, at_dSeq]
  by_cases e : r.h.length = m
  · have e' : (r.h.length : Int) = (m : Int) := by omega
    have x1 := hix r S1 (j := r.a) (by omega)
    rw [decide_eq_true e, Bool.true_and]
    simp only [at_dIf, at_dOr, at_dTest, at_dOp, at_dUn, at_dVar, at_dC, at_dCall, at_dCons, at_dNil, bnd_some, List.getElem?_cons_zero, List.getElem?_cons_succ, ch_heard, ch_author, ch_number, hlen, so_members h1, fEq_ii, if_true, toB_p, e', decide_true, Bool.not_true, Bool.false_eq_true, if_false, x1, fII_eq]
    by_cases e2 : r.h.getD r.a 0 = (r.n : Int) - 1
    · simp only [e2, decide_true, Bool.not_true, Bool.false_eq_true, if_false, at_dNx, Bool.true_and]
      rw [bnd_some, seqK_nx]
      have lp := rng_chk (body := sndB) (ws := [2, 3]) (j := 2) (σ := [some (.ref n), some (.p (chP r)), none, none]) (S := S1) (r := .p (.bl false)) (snd1 c g r) m fun j hj => by
        obtain ⟨σ2, w, b⟩ := snd1_eq h1 r e hm hj
        refine ⟨fun ok => ⟨σ2, .inl ?_, w⟩, fun ok => ?_⟩
        · rw [ok, if_pos rfl] at b
          exact b
        · rw [ok, if_neg Bool.false_ne_true] at b
          exact b
      rw [at_dSeq]
      simp only [at_dFor, at_dRng1, at_dCons, at_dUn, at_dVar, at_dNil, bnd_some, List.getElem?_cons_zero, List.getElem?_cons_succ, so_members h1, rng_nat m (by omega), wipeD, List.set_cons_zero, List.set_cons_succ]
      unfold sndB at lp
      rw [lp]
      by_cases al : ((List.range m).all (snd1 c g r)) = true
      · rw [if_pos al, bnd_some, seqK_nx, at_dRet, at_dC, bnd_some, fin, al]
      · rw [if_neg al, bnd_some, seqK_ret, fin]
        rw [Bool.not_eq_true] at al
        rw [al]
    · simp only [e2, decide_false, Bool.not_false, if_true, at_dRet, at_dC, bnd_some, seqK_ret, Bool.false_and]
      rw [fin]
  · have e' : ¬ (r.h.length : Int) = (m : Int) := by omega
    rw [decide_eq_false e, Bool.false_and]
    simp only [at_dIf, at_dOr, at_dTest, at_dOp, at_dUn, at_dVar, at_dC, at_dCall, at_dCons, at_dNil, bnd_some, List.getElem?_cons_zero, List.getElem?_cons_succ, ch_heard, hlen, so_members h1, fEq_ii, if_true, toB_p, e', decide_false, Bool.not_false, at_dRet, seqK_ret]
    rw [fin]
end
end Kb
namespace Kb
open PySem PySem.Spec PyProof.Rows L2 Pv
theorem comp_ra {α : Type} {σ : En} {S : SH} {j q : Nat} (fd : α → D) (xs : List α) (acc : List D) (hl : acc.length + xs.length ≤ sizeLine) (hj : j < σ.length) (hn : S.os[q]? = some (.lst (xs.map fd))) :
    compL (srcR q xs.length).fin (gNm j) dYes (dVar j) σ (srcR q xs.length).items acc S = some (acc ++ xs.map fd, S) := by
  have hlen : (xs.map fd).length = xs.length := List.length_map _
  have hf : (srcR q xs.length).fin S = true := by
    rw [← hlen]
    exact fin_r hn
  have cp := comp_all (t := dYes) (elt := dVar j) (g := gNm j) (fin := (srcR q xs.length).fin) (S := S) (σ := σ) (fun _ => true) (fun i : Nat => match xs[i]? with | some x => fd x | none => .p .non) (itemR q xs.length) hf (List.range xs.length) acc (by rw [List.length_range]; exact hl) (fun i hi => by
    have h1 : i < xs.length := List.mem_range.mp hi
    have hd : xs[i]? = some xs[i] := List.getElem?_eq_getElem h1
    have hd2 : (xs.map fd)[i]? = some (fd xs[i]) := by rw [List.getElem?_map, hd]; rfl
    have ir := item_r (S := S) hn hd2
    rw [hlen] at ir
    refine ⟨fd xs[i], _, ir, rfl, rfl, fun _ => ?_⟩
    rw [hd, at_dVar, List.getElem?_set_self hj])
  have ei : (srcR q xs.length).items = (List.range xs.length).map (itemR q xs.length) := rfl
  rw [← ei, List.filter_eq_self.mpr fun _ _ => rfl] at cp
  rw [cp]
  congr 3
  apply List.ext_getElem?
  intro i
  by_cases hi : i < xs.length
  · rw [List.getElem?_map, List.getElem?_map, List.getElem?_range hi, List.getElem?_eq_getElem hi]
    show some (match xs[i]? with | some x => fd x | none => .p .non) = _
    rw [List.getElem?_eq_getElem hi]
    rfl
  · rw [List.getElem?_eq_none (by rw [List.length_map, List.length_range]; omega), List.getElem?_eq_none (by rw [List.length_map]; omega)]
theorem at_dComp2 (live : Bool) {m m1 : MI} {g g1 : MG} {c c1 : MT} {elt : ME} (vs ws1 : List Nat) {σ : En} {S : SH} : dComp2 live m g c m1 g1 c1 elt vs ws1 σ S = bnd (m σ S) fun src S1 => bnd (compL2 src.fin g c m1 g1 c1 elt ws1 (wipeD vs σ) src.items [] S1) fun ds S2 => newL live ds S2 := id rfl
def flatG (g : Nat → List R4) (js : List Nat) : List R4 := (js.map g).flatten
section
variable {S : SH} {n m : Nat} {c : Nat → Int} {g : Nat → List R4} (h : Sto S n m (tab m c) (tabC m g))
include h
theorem comp2_eq {σ : En} (hσ : σ.length = 3) : ∀ (js : List Nat) (acc : List R4), (∀ j ∈ js, j < m) → acc.length + (flatG g js).length ≤ 1000 →
    compL2 (srcR (n + 2 + m) m).fin (gNm 1) dYes (dIt (dVar 1)) (gNm 2) dYes (dVar 2) [2] σ (js.map (itemR (n + 2 + m) m)) ((acc.map chP).map D.p) S = some (((acc ++ flatG g js).map chP).map D.p, S)
  | [], acc, _, _ => by
    have hf : (srcR (n + 2 + m) m).fin S = true := by
      have q := fin_r h.d
      rw [tab_len] at q
      exact q
    rw [List.map_nil, compL2, if_pos hf]
    simp [flatG]
  | j :: js, acc, hj, hl => by
    have j0 := hj j List.mem_cons_self
    have ef : flatG g (j :: js) = g j ++ flatG g js := by simp [flatG]
    rw [ef, List.length_append] at hl
    have ih := comp2_eq hσ js (acc ++ g j) (fun i hi => hj i (List.mem_cons_of_mem _ hi)) (by rw [List.length_append]; omega)
    have it := item_r h.d (tab_at (fun j => D.ref (n + 2 + j)) j0)
    rw [tab_len] at it
    have oj := h.l j _ (tab_at _ j0)
    have so := srcOf_r oj
    rw [List.length_map, List.length_map] at so
    rw [List.map_cons, compL2, it]
    dsimp only
    have e1 : σ[1]? = some σ[1] := List.getElem?_eq_getElem (by omega)
    have di : dIt (dVar 1) (σ.set 1 (some (.ref (n + 2 + j)))) S = some (srcR (n + 2 + j) (g j).length, S) := by
      rw [at_dIt, at_dVar, List.getElem?_set_self (by omega)]
      exact so
    have cp := comp_ra (σ := wipeD [2] (σ.set 1 (some (.ref (n + 2 + j))))) (S := S) (j := 2) (q := n + 2 + j) (fun r => D.p (chP r)) (g j) ((acc.map chP).map D.p) (by rw [List.length_map, List.length_map]; exact small (by omega)) (by simp [wipeD]; omega) (by
      rw [oj]
      show some (Ob.lst (((g j).map chP).map D.p)) = _
      rw [List.map_map]
      rfl)
    simp only [at_gNm, bnd_some, at_dYes, if_true, di]
    rw [cp, bnd_some]
    have e2 : (acc.map chP).map D.p ++ (g j).map (fun r => D.p (chP r)) = ((acc ++ g j).map chP).map D.p := by
      rw [List.map_append, List.map_append, List.map_map (l := g j)]
      rfl
    rw [e2, ih, ef, List.append_assoc]
end
/-! the order -/
def keyD (r : R4) : PyData := .tuple [.int r.h.sum, .int (r.a : Int), .int (r.n : Int)]
theorem keys_ok (rs : List R4) : okKeys ((rs.map fun r => (chP r, keyD r)).map (·.2)) = true := by
  unfold okKeys
  simp only [List.map_map, Bool.and_eq_true, Bool.or_eq_true, List.all_eq_true, List.mem_map, decide_eq_true_eq]
  refine ⟨⟨?_, .inl ?_⟩, ?_⟩
  · rintro x ⟨r, _, rfl⟩ y ⟨q, _, rfl⟩
    simp [keyD, PySem.W.alike, PySem.W.alikeAll]
  · rintro x ⟨r, _, rfl⟩
    rfl
  · rintro x ⟨r, _, rfl⟩
    show (keyD r).depth ≤ 60
    simp [keyD, PyData.depth, PyData.depthAll]
theorem keysL_eq (S : SH) : ∀ rs : List R4, keysL m_order_key (rs.map chP) S = some (rs.map fun r => (chP r, keyD r), S)
  | [] => rfl
  | r :: rs => by
    have k1 : m_order_key [.p (chP r)] S = some (.p (.tup [.int r.h.sum, .int (r.a : Int), .int (r.n : Int)]), S) := key_eq (r.a : Int) (r.n : Int) .non r.h [] parts4 S
    have k2 : pyOf 60 (.tup [.int r.h.sum, .int (r.a : Int), .int (r.n : Int)]) = some (keyD r) := rfl
    rw [List.map_cons, keysL, k1, bnd_some]
    dsimp only
    rw [k2]
    dsimp only
    rw [keysL_eq S rs, bnd_some]
    rfl
theorem order_eq (rs : List R4) (hl : rs.length ≤ 1000) : ∃ rs' : List R4, rs'.Perm rs ∧ ∀ S, m_in_order [.p (.lst (rs.map chP))] S = some (.p (.lst (rs'.map chP)), S) := by
  have pm := List.mergeSort_perm (rs.map fun r => (chP r, keyD r)) (PySem.W.dataLe false (fun x : P × PyData => x.2))
  let leA : R4 → R4 → Bool := fun a b => PySem.W.dataLe false (fun x : P × PyData => x.2) (chP a, keyD a) (chP b, keyD b)
  have em : (rs.map fun r => (chP r, keyD r)).mergeSort (PySem.W.dataLe false (fun x : P × PyData => x.2)) = (rs.mergeSort leA).map fun r => (chP r, keyD r) := (List.map_mergeSort fun a _ b _ => (show leA a b = PySem.W.dataLe false (fun x : P × PyData => x.2) (chP a, keyD a) (chP b, keyD b) from rfl)).symm
  refine ⟨rs.mergeSort leA, List.mergeSort_perm _ _, fun S => ?_⟩
  obtain ⟨S1, hS⟩ : ∃ S1 : SH, S1 = ⟨S.os.length, S.os⟩ := ⟨_, rfl⟩
  have e1 : sortK false m_order_key (.p (.lst (rs.map chP))) S1 = some (.p (.lst ((rs.mergeSort leA).map chP)), S1) := by
    unfold sortK
    rw [asL_l]
    dsimp only
    rw [toPs_map]
    dsimp only
    rw [keysL_eq, bnd_some, if_pos (keys_ok rs), em, List.map_map]
    have e : (rs.mergeSort leA).map ((fun x : P × PyData => D.p x.1) ∘ fun r => (chP r, keyD r)) = ((rs.mergeSort leA).map chP).map D.p := by
      rw [List.map_map]
      rfl
    rw [e]
    exact newL_f _ (by rw [List.length_map, List.length_mergeSort]; exact small hl)
  unfold m_in_order
  rw [fn_at (k := 1) rfl, ← hS]
  show frameF S (dRet (dSortK false m_order_key (dVar 0)) [some (.p (.lst (rs.map chP)))] S1) = _
  rw [at_dRet]
  unfold dSortK
  rw [at_dVar]
  dsimp only [List.getElem?_cons_zero]
  rw [bnd_some, e1, bnd_some, frame_p, hS, cut_self]
section
variable {n m : Nat} {c : Nat → Int} {g : Nat → List R4}
/-- all changes in an order -/
theorem all_eq (hm : m ≤ 100) (hl : (flatG g (List.range m)).length ≤ 1000) : ∃ rs' : List R4, rs'.Perm (flatG g (List.range m)) ∧ ∀ S, Sto S n m (tab m c) (tabC m g) → m_Store_all_changes [.ref n] S = some (.p (.lst (rs'.map chP)), S) := by
  obtain ⟨rs', pm, oe⟩ := order_eq (flatG g (List.range m)) hl
  refine ⟨rs', pm, fun S h => ?_⟩
  obtain ⟨S1, hS⟩ : ∃ S1 : SH, S1 = ⟨S.os.length, S.os⟩ := ⟨_, rfl⟩
  have h1 : Sto S1 n m (tab m c) (tabC m g) := by rw [hS]; exact h.of
  have ev : startD 3 [.ref n] = [some (.ref n), none, none] := rfl
  have so := srcOf_r h1.d
  rw [tab_len] at so
  have cp := comp2_eq h1 (σ := [some (.ref n), none, none]) rfl (List.range m) [] (fun j hj => List.mem_range.mp hj) (by rw [List.length_nil]; omega)
  have ei : (srcR (n + 2 + m) m).items = (List.range m).map (itemR (n + 2 + m) m) := rfl
  rw [← ei, List.nil_append, List.map_nil, List.map_nil] at cp
  have nl := newL_f (S := S1) ((flatG g (List.range m)).map chP) (small (by rw [List.length_map]; omega))
  unfold m_Store_all_changes
  rw [fn_at (k := 1) rfl, ev, ← hS]
  simp only [at_dRet, at_dCall, at_dCons, at_dNil, at_dComp2, at_dIt, at_dUn, at_dVar, bnd_some, List.getElem?_cons_zero, List.getElem?_cons_succ, so_changes h1, so, wipeD, List.set_cons_zero, List.set_cons_succ]
  rw [cp]
  simp only [bnd_some, nl, oe, frame_p]
  rw [hS, cut_self]
theorem whole_eq (hm : m ≤ 100) (hl : (flatG g (List.range m)).length ≤ 1000) (hr : ∀ r ∈ flatG g (List.range m), r.a < m ∧ r.h.length ≤ 100) {S : SH} (h : Sto S n m (tab m c) (tabC m g)) : m_is_whole [.ref n] S = some (.p (.bl ((flatG g (List.range m)).all (snd m c g))), S) := by
  obtain ⟨rs', pm, oe⟩ := all_eq (n := n) (c := c) hm hl
  obtain ⟨S1, hS⟩ : ∃ S1 : SH, S1 = ⟨S.os.length, S.os⟩ := ⟨_, rfl⟩
  have h1 : Sto S1 n m (tab m c) (tabC m g) := by rw [hS]; exact h.of
  have fin : ∀ p, frameF S (some (.ret (.p p), S1)) = some (.p p, S) := fun p => by rw [frame_p, hS, cut_self]
  have ev : startD 2 [.ref n] = [some (.ref n), none] := rfl
  have mt := so_meth h1 (nm := "all_changes") (mf := m_Store_all_changes) (a := dVar 0) (r := dNil) (σ := [some (.ref n), none]) rfl rfl
  rw [at_dNil, bnd_some, oe S1 h1] at mt
  have e : (flatG g (List.range m)).all (snd m c g) = rs'.all (snd m c g) := by
    rw [Bool.eq_iff_iff, List.all_eq_true, List.all_eq_true]
    exact ⟨fun q x hx => q x (pm.mem_iff.mp hx), fun q x hx => q x (pm.mem_iff.mpr hx)⟩
  have lp := p_chk (body := dIf (dNot (dTest (dCall m_is_sound (dCons (dVar 0) (dCons (dVar 1) dNil))))) (dRet (dC (.bl false))) dNx) (ws := [1]) (j := 1) (σ := [some (.ref n), none]) (S := S1) (r := .p (.bl false)) chP (snd m c g) rs' fun r hr' => by
    obtain ⟨ha, hh⟩ := hr r (pm.mem_iff.mp hr')
    have se := sound_eq h1 r ha hh hm
    refine ⟨fun ok => ⟨[some (.ref n), some (.p (chP r))], .inl ?_, rfl⟩, fun ok => ?_⟩
    · simp only [at_dIf, at_dNot, at_dTest, at_dCall, at_dCons, at_dVar, at_dNil, bnd_some, List.set_cons_zero, List.set_cons_succ, List.getElem?_cons_zero, List.getElem?_cons_succ, se, ok, toB_p, Bool.not_true, Bool.false_eq_true, if_false, at_dNx]
    · simp only [at_dIf, at_dNot, at_dTest, at_dCall, at_dCons, at_dVar, at_dNil, bnd_some, List.set_cons_zero, List.set_cons_succ, List.getElem?_cons_zero, List.getElem?_cons_succ, se, ok, toB_p, Bool.not_false, if_true, at_dRet, at_dC]
  have it : ∀ (ps : List P) (T : SH), srcOf (.p (.lst ps)) T = some (srcP ps, T) := fun _ _ => rfl
  unfold m_is_whole
  rw [fn_at (k := 1) rfl, ev, ← hS, at_dSeq]
  simp only [at_dFor, at_dIt, mt, bnd_some, it, wipeD, List.set_cons_zero, List.set_cons_succ]
  rw [lp, e]
  by_cases al : rs'.all (snd m c g) = true
  · rw [if_pos al, bnd_some, seqK_nx, at_dRet, at_dC, bnd_some, fin, al]
  · rw [if_neg al, bnd_some, seqK_ret, fin]
    rw [Bool.not_eq_true] at al
    rw [al]
end
end Kb
namespace Kb
open PySem PySem.Spec PyProof.Rows L2 Pv
theorem fTuple_r {k : Nat} {ps : List P} {S : SH} (h : S.os[k]? = some (.lst (ps.map D.p))) (hl : ps.length ≤ sizeLine) : fTuple [.ref k] S = some (.p (.tup ps), S) := by
  unfold fTuple asL
  dsimp only
  rw [h]
  exact newT_p (S := S) ps hl
def hdrP (r : R4) : P := .tup [.int (r.a : Int), .int (r.n : Int), .tup (intsP r.h), .non, .tup [], .tup parts4]
abbrev kdP : P := .tup [.tup [], .tup [], .tup []]
theorem kdata_eq (S : SH) : m_kept_data [.p k0P] S = some (.p kdP, S) := by
  obtain ⟨S1, hS⟩ : ∃ S1 : SH, S1 = ⟨S.os.length, S.os⟩ := ⟨_, rfl⟩
  obtain ⟨S2, hS2⟩ : ∃ S2 : SH, S2 = ⟨S1.os.length, S1.os⟩ := ⟨_, rfl⟩
  have n0 : ∀ T : SH, newT [] T = some (.p (.tup []), T) := fun T => newT_p (S := T) [] (small (by simp))
  have n3 : ∀ T : SH, newT [.p (.tup []), .p (.tup []), .p (.tup [])] T = some (.p kdP, T) := fun T => newT_p (S := T) [.tup [], .tup [], .tup []] (small (by simp))
  have l0 : ∀ T : SH, newL false [] T = some (.p (.lst []), T) := fun T => newL_f (S := T) [] (small (by simp))
  have fa : ∀ T, dFld [1] "acts" (.p k0P) T = some (.p (.lst []), T) := fun T => rfl
  have fs : ∀ T, dFld [1] "sums" (.p k0P) T = some (.p (.lst []), T) := fun T => rfl
  have ft : ∀ T, dFld [1] "texts" (.p k0P) T = some (.p (.lst []), T) := fun T => rfl
  have tu : ∀ T, fTuple [.p (.lst [])] T = some (.p (.tup []), T) := fun T => fTuple_l (S := T) (ps := []) (small (by simp))
  have cp : ∀ (g : MG) (elt : ME) (σ : En) (T : SH), compL (srcP []).fin g dYes elt σ (srcP []).items [] T = some ([], T) := fun g elt σ T => rfl
  have it : ∀ (ps : List P) (T : SH), srcOf (.p (.lst ps)) T = some (srcP ps, T) := fun _ _ => rfl
  have kd : m_Kept_data [.p k0P] S1 = some (.p kdP, S1) := by
    unfold m_Kept_data
    rw [fn_at (k := 1) rfl, ← hS2, show startD 4 [.p k0P] = [some (.p k0P), none, none, none] from rfl, at_dSeq]
    simp only [at_dSet, at_dComp, at_dIt, at_dUn, at_dVar, bnd_some, List.getElem?_cons_zero, ft, it, cp, l0, seqK_nx, List.set_cons_zero, List.set_cons_succ, at_dRet, at_dTup, at_dCons, at_dCall, at_dNil, List.getElem?_cons_succ, fa, fs, tu, n3, frame_p]
    rw [hS2, cut_self]
  have fl : fldsOf (.p k0P) S1 = some (1, (kepG [] [] []).map fun p => (p.1, .p p.2)) := rfl
  have mt : dMeth 1 "data" m_Kept_data (dVar 0) dNil [some (.p k0P)] S1 = some (.p kdP, S1) := by
    rw [at_dMeth, at_dVar, List.getElem?_cons_zero]
    dsimp only
    rw [bnd_some, fl]
    dsimp only
    rw [if_pos ⟨rfl, rfl⟩, at_dNil, bnd_some, kd]
  have is' : fIs false (.p k0P) (.p .non) S1 = some (.p (.bl false), S1) := rfl
  unfold m_kept_data
  rw [fn_at (k := 1) rfl, ← hS, show startD 1 [.p k0P] = [some (.p k0P)] from rfl, at_dSeq]
  simp only [at_dIf, at_dTest, at_dOp, at_dVar, at_dC, bnd_some, List.getElem?_cons_zero, is', toB_p, Bool.false_eq_true, if_false, at_dNx, seqK_nx, at_dRet, mt, frame_p]
  rw [hS, cut_self]
theorem okd_ints (k : Nat) (l : List Int) : (intsP l).all (okd k) = true := by
  simp only [intsP, List.all_eq_true, List.mem_map]
  rintro p ⟨r, _, rfl⟩
  cases k <;> rfl
section
variable {n m : Nat} {c : Nat → Int} {g : Nat → List R4}
def datP (m : Nat) (c : Nat → Int) (g : Nat → List R4) : P := .tup [.tup (intsP (tab m c)), .tup [], .tup [kdP, kdP, kdP, kdP], .tup (tab m fun j => .tup ((g j).map hdrP))]
theorem hdr_ok (r : R4) : okd 37 (hdrP r) = true := by
  have h := okd_ints 35 r.h
  simp only [hdrP, okd, parts4, List.all_cons, List.all_nil, Bool.and_true, Bool.true_and, h]
theorem dat_ok : okd 40 (datP m c g) = true := by
  have h1 := okd_ints 38 (tab m c)
  have h2 : (tab m fun j => P.tup ((g j).map hdrP)).all (okd 38) = true := by
    simp only [tab, List.all_eq_true, List.mem_map]
    rintro p ⟨j, _, rfl⟩
    show ((g j).map hdrP).all (okd 37) = true
    simp only [List.all_eq_true, List.mem_map]
    rintro q ⟨r, _, rfl⟩
    exact hdr_ok r
  have h3 : okd 39 (.tup [kdP, kdP, kdP, kdP]) = true := by decide
  have e1 : okd 39 (.tup (intsP (tab m c))) = true := h1
  have e2 : okd 39 (.tup (tab m fun j => .tup ((g j).map hdrP))) = true := h2
  have e3 : okd 39 (.tup []) = true := rfl
  unfold datP
  simp only [okd.eq_6, List.all_cons, List.all_nil, Bool.and_true, e1, e2, h3, e3]
theorem data_eq (hm : m ≤ 100) (hl : ∀ j, j < m → (g j).length ≤ 1000) {S : SH} (h : Sto S n m (tab m c) (tabC m g)) : m_Store_data [.ref n] S = some (.p (datP m c g), S) := by
  obtain ⟨S1, hS⟩ : ∃ S1 : SH, S1 = ⟨S.os.length, S.os⟩ := ⟨_, rfl⟩
  have h1 : Sto S1 n m (tab m c) (tabC m g) := by rw [hS]; exact h.of
  have ev : startD 5 [.ref n] = [some (.ref n), none, none, none, none] := rfl
  have it : ∀ (ps : List P) (T : SH), srcOf (.p (.lst ps)) T = some (srcP ps, T) := fun _ _ => rfl
  have cp1 : compL (srcP [k0P, k0P, k0P, k0P]).fin (gNm 3) dYes (dCall m_kept_data (dCons (dVar 3) dNil)) [some (.ref n), none, none, none, none] (srcP [k0P, k0P, k0P, k0P]).items [] S1 = some ([kdP, kdP, kdP, kdP].map D.p, S1) := by
    rw [comp_p (S := S1) (j := 3) (fun _ => true) (fun _ => D.p kdP) [k0P, k0P, k0P, k0P] (small (by simp)) fun p hp => ⟨rfl, fun _ => by
      have e : p = k0P := by simpa using hp
      subst e
      simp only [at_dCall, at_dCons, at_dVar, at_dNil, bnd_some, List.set_cons_zero, List.set_cons_succ, List.getElem?_cons_zero, List.getElem?_cons_succ, kdata_eq]⟩]
    rfl
  have nl1 := newL_f (S := S1) [kdP, kdP, kdP, kdP] (small (by simp))
  have so := srcOf_r h1.d
  rw [tab_len] at so
  have cp2 : compL (srcR (n + 2 + m) m).fin (gNm 3) dYes (dCall fTuple (dCons (dComp false (dIt (dVar 3)) (gNm 4) dYes (dOp (fAdd false) (dMeth 0 "header" m_Change_header (dVar 4) dNil) (dTup (dCons (dUn (dFld [0] "parts") (dVar 4)) dNil))) [4]) dNil)) [some (.ref n), some (.p (.lst [kdP, kdP, kdP, kdP])), none, none, none] (srcR (n + 2 + m) m).items [] S1 = some ((tab m fun j => P.tup ((g j).map hdrP)).map D.p, S1) := by
    have q := comp_rf (t := dYes) (elt := (dCall fTuple (dCons (dComp false (dIt (dVar 3)) (gNm 4) dYes (dOp (fAdd false) (dMeth 0 "header" m_Change_header (dVar 4) dNil) (dTup (dCons (dUn (dFld [0] "parts") (dVar 4)) dNil))) [4]) dNil))) (σ := [some (.ref n), some (.p (.lst [kdP, kdP, kdP, kdP])), none, none, none]) (S := S1) (j := 3) (n := n + 2 + m) (fun j => D.ref (n + 2 + j)) (fun _ => true) (fun j => D.p (.tup ((g j).map hdrP))) (List.range m) (by rw [List.length_range]; exact small (by omega)) h1.d fun j hj => ⟨rfl, fun _ => by
      have hj' := List.mem_range.mp hj
      have oj := h1.l j _ (tab_at _ hj')
      have so2 := srcOf_r oj
      rw [List.length_map, List.length_map] at so2
      have oj2 : S1.os[n + 2 + j]? = some (.lst ((g j).map fun r => D.p (chP r))) := by
        rw [oj]
        show some (Ob.lst (((g j).map chP).map D.p)) = _
        rw [List.map_map]
        rfl
      have q2 := comp_rf (t := dYes) (elt := (dOp (fAdd false) (dMeth 0 "header" m_Change_header (dVar 4) dNil) (dTup (dCons (dUn (dFld [0] "parts") (dVar 4)) dNil)))) (σ := [some (.ref n), some (.p (.lst [kdP, kdP, kdP, kdP])), none, some (.ref (n + 2 + j)), none]) (S := S1) (j := 4) (n := n + 2 + j) (fun r => D.p (chP r)) (fun _ => true) (fun r => D.p (hdrP r)) (g j) (small (hl j hj')) oj2 fun r hr => ⟨rfl, fun _ => by
        have nt : newT [.p (.tup parts4)] S1 = some (.p (.tup [.tup parts4]), S1) := newT_p (S := S1) [.tup parts4] (small (by simp))
        have hd := ch_header r S1 [some (.ref n), some (.p (.lst [kdP, kdP, kdP, kdP])), none, some (.ref (n + 2 + j)), some (.p (chP r))] 4 rfl
        have ad : fAdd false (.p (.tup [.int (r.a : Int), .int (r.n : Int), .tup (intsP r.h), .non, .tup []])) (.p (.tup [.tup parts4])) S1 = some (.p (hdrP r), S1) := by
          unfold fAdd
          dsimp only
          rw [if_pos (small (by simp))]
          rfl
        simp only [List.set_cons_zero, List.set_cons_succ, at_dOp, hd, at_dTup, at_dCons, at_dUn, at_dVar, at_dNil, bnd_some, List.getElem?_cons_zero, List.getElem?_cons_succ, ch_parts, nt, ad]⟩
      rw [List.filter_eq_self.mpr fun _ _ => rfl] at q2
      have e3 : (g j).map (fun r => D.p (hdrP r)) = ((g j).map hdrP).map D.p := by rw [List.map_map]; rfl
      rw [e3] at q2
      have nl := newL_f (S := S1) ((g j).map hdrP) (small (by rw [List.length_map]; exact hl j hj'))
      have tu := fTuple_l (S := S1) (ps := (g j).map hdrP) (small (by rw [List.length_map]; exact hl j hj'))
      simp only [at_dCall, at_dCons, at_dComp, at_dIt, at_dVar, at_dNil, bnd_some, List.set_cons_zero, List.set_cons_succ, List.getElem?_cons_zero, List.getElem?_cons_succ, so2, wipeD, q2, nl, tu]⟩
    rw [List.filter_eq_self.mpr fun _ _ => rfl, List.length_range] at q
    rw [q]
    unfold tab
    rw [List.map_map]
    rfl
  have nl2 := newL_f (S := S1) (tab m fun j => P.tup ((g j).map hdrP)) (small (by rw [tab_len]; omega))
  have t1 := fTuple_r h1.c (small (by rw [intsP_len, tab_len]; omega))
  have t2 : fTuple [.p (.lst [])] S1 = some (.p (.tup []), S1) := fTuple_l (S := S1) (ps := []) (small (by simp))
  have t3 := fTuple_l (S := S1) (ps := [kdP, kdP, kdP, kdP]) (small (by simp))
  have t4 := fTuple_l (S := S1) (ps := tab m fun j => P.tup ((g j).map hdrP)) (small (by rw [tab_len]; omega))
  have nt : newT [.p (.tup (intsP (tab m c))), .p (.tup []), .p (.tup [kdP, kdP, kdP, kdP]), .p (.tup (tab m fun j => P.tup ((g j).map hdrP)))] S1 = some (.p (datP m c g), S1) := newT_p (S := S1) [.tup (intsP (tab m c)), .tup [], .tup [kdP, kdP, kdP, kdP], .tup (tab m fun j => P.tup ((g j).map hdrP))] (small (by simp))
  unfold m_Store_data
  rw [fn_at (k := 1) rfl, ev, ← hS, at_dSeq]
  simp only [at_dSet, at_dComp, at_dIt, at_dUn, at_dVar, bnd_some, List.getElem?_cons_zero, List.getElem?_cons_succ, so_kept h1, it, wipeD, List.set_cons_zero, List.set_cons_succ, cp1, nl1, seqK_nx]
  rw [at_dSeq]
  simp only [at_dSet, at_dComp, at_dIt, at_dUn, at_dVar, bnd_some, List.getElem?_cons_zero, List.getElem?_cons_succ, so_changes h1, so, wipeD, List.set_cons_zero, List.set_cons_succ, cp2, nl2, seqK_nx]
  simp only [at_dRet, at_dTup, at_dCons, at_dCall, at_dUn, at_dVar, at_dNil, bnd_some, List.getElem?_cons_zero, List.getElem?_cons_succ, so_cut h1, so_caps h1, t1, t2, t3, t4, nt, frame_p]
  rw [hS, cut_self]
end
end Kb
namespace Kb
open PySem PySem.Spec PyProof.Rows L2 Pv
/-! filling the store -/
theorem add_eq (b : Nat) (os : List Ob) {m : Nat} (c : Nat → Int) (g : Nat → List R4) (r : R4) (ha : r.a < m) (hl : (g r.a).length ≤ 1000) : m_Store_add [.ref os.length, .p (chP r)] ⟨b, stoL os m (tab m c) (tabC m g)⟩ = some (.p .non, ⟨b, stoL os m (tab m c) (tabC m (updF g r.a (g r.a ++ [r])))⟩) := by
  obtain ⟨S, hS0⟩ : ∃ S : SH, S = ⟨b, stoL os m (tab m c) (tabC m g)⟩ := ⟨_, rfl⟩
  obtain ⟨S1, hS⟩ : ∃ S1 : SH, S1 = ⟨S.os.length, S.os⟩ := ⟨_, rfl⟩
  have h0 : Sto S os.length m (tab m c) (tabC m g) := by rw [hS0]; exact sto_sto b os m _ _ (tab_len _ _) (tab_len _ _)
  have h1 : Sto S1 os.length m (tab m c) (tabC m g) := by rw [hS]; exact h0.of
  have oj := h1.l r.a _ (tab_at _ ha)
  have ap := fApp_p (S := S1) (x := chP r) oj (by rw [List.length_map, List.length_map]; exact Nat.lt_of_le_of_lt hl (Nat.lt_of_lt_of_le (by decide : 1000 < 1000000) line_ge))
  have ty := isTy_ref oj
  rw [← hS0]
  unfold m_Store_add
  rw [fn_at (k := 2) rfl, ← hS, show startD 2 [.ref os.length, .p (chP r)] = [some (.ref os.length), some (.p (chP r))] from rfl]
  simp only [at_dDrop, at_dBM, at_dOp, at_dUn, at_dVar, at_dCons, at_dNil, bnd_some, List.getElem?_cons_zero, List.getElem?_cons_succ, so_changes h1, ch_author, so_ix h1 ha, ty, if_true, ap, frame_nx]
  have e1 : (S1.put (os.length + 2 + r.a) (.lst (((g r.a).map chP).map D.p ++ [.p (chP r)]))) = ⟨S.os.length, S.os.set (os.length + 2 + r.a) (chO ((g r.a ++ [r]).map chP))⟩ := by
    rw [hS]
    simp [chO]
  rw [e1, cut_put, hS0, sto_put_ch _ _ _ _ _ _ (by rw [tab_len]; exact ha), tab_set]
  congr 3
  congr 1
  unfold tabC
  congr 1
  funext j
  unfold updF
  split <;> rfl
abbrev cuB : MS := (dAsg (dOp fIx (dVar 4) (dVar 5)) (gSb (dUn (dFld [2] "cut") (dVar 8)) (dVar 5)))
theorem cut_loop (b : Nat) (os : List Ob) {m : Nat} {ct : List Int} (hc : ct.length = m) (chs : List (List P)) (lm : chs.length = m) (x3 x6 : Option D) :
    forL [0, 1, 5, 7, 9, 10, 11] (srcN 0 m).fin (gNm 5) cuB (srcN 0 m).items [none, none, some (.p (.int (m : Int))), x3, some (.p (.lst (intsP ct))), none, x6, none, some (.ref os.length), none, none, none] ⟨b, stoL os m (tab m fun _ => 0) chs⟩ =
    some (.nx [none, none, some (.p (.int (m : Int))), x3, some (.p (.lst (intsP ct))), none, x6, none, some (.ref os.length), none, none, none], ⟨b, stoL os m (tab m fun j => ct.getD j 0) chs⟩) := by
  obtain ⟨σ', S', h1, rfl, rfl⟩ := rng0_inv (body := cuB) (ws := [0, 1, 5, 7, 9, 10, 11]) (j := 5) (fun k σ S => σ = [none, none, some (.p (.int (m : Int))), x3, some (.p (.lst (intsP ct))), none, x6, none, some (.ref os.length), none, none, none] ∧ S = ⟨b, stoL os m (tab m fun j => if j < k then ct.getD j 0 else 0) chs⟩) m
    (σ := [none, none, some (.p (.int (m : Int))), x3, some (.p (.lst (intsP ct))), none, x6, none, some (.ref os.length), none, none, none]) (S := ⟨b, stoL os m (tab m fun _ => 0) chs⟩) ⟨rfl, by simp⟩ (by
    rintro k σ S hk ⟨rfl, rfl⟩
    have h := sto_sto b os m (tab m fun j => if j < k then ct.getD j 0 else 0) chs lm (tab_len _ _)
    have i1 := fIx_l (S := ⟨b, stoL os m (tab m fun j => if j < k then ct.getD j 0 else 0) chs⟩) (intsP_at (getD_at (ds := ct) (n := k) (by omega)))
    have st := setIx_ri (i := (k : Int)) (v := .int (ct.getD k 0)) h.c (by omega) (by rw [List.length_map, intsP_len, tab_len]; simpa using hk)
    rw [Int.toNat_natCast, intsP_setL, tab_set, sto_put_cut] at st
    have ef : updF (fun j => if j < k then ct.getD j 0 else 0) k (ct.getD k 0) = fun j => if j < k + 1 then ct.getD j 0 else 0 := by
      funext j
      unfold updF
      by_cases e : j = k
      · rw [if_pos e, if_pos (by omega), e]
      · rw [if_neg e]
        show (if j < k then ct.getD j 0 else 0) = _
        by_cases e2 : j < k
        · rw [if_pos e2, if_pos (by omega)]
        · rw [if_neg e2, if_neg (by omega)]
    rw [ef] at st
    refine ⟨[none, none, some (.p (.int (m : Int))), x3, some (.p (.lst (intsP ct))), some (.p (.int (k : Int))), x6, none, some (.ref os.length), none, none, none], _, .inl ?_, rfl, rfl⟩
    unfold cuB
    simp only [at_dAsg, at_gSb, at_dOp, at_dUn, at_dVar, bnd_some, List.set_cons_zero, List.set_cons_succ, List.getElem?_cons_zero, List.getElem?_cons_succ, i1, so_cut h, st])
  have e : (tab m fun j => if j < m then ct.getD j 0 else 0) = tab m fun j => ct.getD j 0 := by
    unfold tab
    apply List.map_congr_left
    intro j hj
    rw [if_pos (List.mem_range.mp hj)]
  rw [e] at h1
  exact h1
def gOf (rs : List R4) (j : Nat) : List R4 := rs.filter fun r => r.a = j
theorem gOf_take (rs : List R4) {i : Nat} {r : R4} (h : rs[i]? = some r) : gOf (rs.take (i + 1)) = updF (gOf (rs.take i)) r.a (gOf (rs.take i) r.a ++ [r]) := by
  obtain ⟨hi, rfl⟩ := List.getElem?_eq_some_iff.mp h
  funext j
  unfold gOf updF
  rw [List.take_succ_eq_append_getElem hi, List.filter_append]
  by_cases e : j = rs[i].a
  · rw [if_pos e, List.filter_cons_of_pos (by simpa using e.symm), e]; rfl
  · rw [if_neg e, List.filter_cons_of_neg (by simpa using fun z => e z.symm)]
    simp
theorem gOf_len (rs : List R4) (j : Nat) : (gOf rs j).length ≤ rs.length := List.length_filter_le _ _
theorem get_app {os ys : List Ob} {n : Nat} {x : Ob} (h : os[n]? = some x) : (os ++ ys)[n]? = some x := by
  rw [List.getElem?_append_left (List.getElem?_eq_some_iff.mp h).1, h]
theorem RW.app {b b' : Nat} {os : List Ob} {L : Nat} {xs : List X4} (r : RW ⟨b, os⟩ L xs) (ys : List Ob) : RW ⟨b', os ++ ys⟩ L xs := ⟨get_app r.rows, fun x hx => ⟨get_app (r.ats x hx).1, get_app (r.ats x hx).2⟩, r.nd⟩
abbrev adB : MS := dDrop (dMeth 2 "add" m_Store_add (dVar 8) (dCons (dMake false 0 m_Change_init (dCons (dOp fIx (dVar 7) (dC (.int 0))) (dCons (dOp fIx (dVar 7) (dC (.int 1))) (dCons (dCall (fList false) (dCons (dOp fIx (dVar 7) (dC (.int 2))) dNil)) (dCons (dC .non) (dCons (dTup dNil) (dCons (dTup (dCons (dTup dNil) (dCons (dTup dNil) (dCons (dTup dNil) (dCons (dTup dNil) dNil))))) dNil))))))) dNil))
theorem add_loop (b b0 : Nat) (os : List Ob) {m L : Nat} {xs : List X4} (r : RW ⟨b0, os⟩ L xs) (c : Nat → Int) (ha : ∀ x ∈ xs, x.1.a < m) (hh : ∀ x ∈ xs, x.1.h.length ≤ 10) (hl : xs.length ≤ 100) (x6 : Option D) :
    forL [0, 1, 4, 5, 7, 9, 10, 11] (srcR L xs.length).fin (gNm 7) adB (srcR L xs.length).items [none, none, some (.p (.int (m : Int))), some (.ref L), none, none, x6, none, some (.ref os.length), none, none, none] ⟨b, stoL os m (tab m c) (tabC m fun _ => [])⟩ =
    some (.nx [none, none, some (.p (.int (m : Int))), some (.ref L), none, none, x6, none, some (.ref os.length), none, none, none], ⟨b, stoL os m (tab m c) (tabC m (gOf (xs.map (·.1))))⟩) := by
  obtain ⟨σ', S', h1, rfl, rfl⟩ := r_inv (body := adB) (ws := [0, 1, 4, 5, 7, 9, 10, 11]) (g := gNm 7) (fun i σ T => σ = [none, none, some (.p (.int (m : Int))), some (.ref L), none, none, x6, none, some (.ref os.length), none, none, none] ∧ T = ⟨b, stoL os m (tab m c) (tabC m (gOf ((xs.map (·.1)).take i)))⟩) L (xs.map fun x => D.ref x.2.1)
    (σ := [none, none, some (.p (.int (m : Int))), some (.ref L), none, none, x6, none, some (.ref os.length), none, none, none]) (S := ⟨b, stoL os m (tab m c) (tabC m fun _ => [])⟩) ⟨rfl, by rw [List.take_zero]; rfl⟩ (by
      rintro i σ T ⟨rfl, rfl⟩
      exact get_app r.rows) (by
      rintro i d σ T hd ⟨rfl, rfl⟩
      rw [List.getElem?_map] at hd
      cases e : xs[i]? with
      | none => rw [e] at hd; cases hd
      | some x =>
      rw [e] at hd
      cases hd
      have hm := List.mem_of_getElem? e
      have e2 : (xs.map (·.1))[i]? = some x.1 := by rw [List.getElem?_map, e]; rfl
      have st0 := sto_sto b os m (tab m c) (tabC m (gOf ((xs.map (·.1)).take i))) (tab_len _ _) (tab_len _ _)
      have rr : RW ⟨b, stoL os m (tab m c) (tabC m (gOf ((xs.map (·.1)).take i)))⟩ L xs := r.app _
      have ad := add_eq b os c (gOf ((xs.map (·.1)).take i)) x.1 (ha x hm) (Nat.le_trans (gOf_len _ _) (by rw [List.length_take, List.length_map]; omega))
      rw [← gOf_take _ e2] at ad
      generalize (⟨b, stoL os m (tab m c) (tabC m (gOf ((xs.map (·.1)).take i)))⟩ : SH) = S1 at st0 rr ad ⊢
      have ra := rr.ats x hm
      have lh : (intsP x.1.h).length ≤ sizeLine := small (by rw [intsP_len]; have := hh x hm; omega)
      have fl : fList false [.ref x.2.2] S1 = some (.p (.lst (intsP x.1.h)), S1) := by
        rw [fList_r ra.2]
        exact newL_f _ lh
      have n0 : newT [] S1 = some (.p (.tup []), S1) := newT_p (S := S1) [] (small (by simp))
      have n4 : newT [.p (.tup []), .p (.tup []), .p (.tup []), .p (.tup [])] S1 = some (.p (.tup parts4), S1) := newT_p (S := S1) parts4 (small (by simp))
      have mk := mk_eq S1 (a := (dCons (dOp fIx (dVar 7) (dC (.int 0))) (dCons (dOp fIx (dVar 7) (dC (.int 1))) (dCons (dCall (fList false) (dCons (dOp fIx (dVar 7) (dC (.int 2))) dNil)) (dCons (dC .non) (dCons (dTup dNil) (dCons (dTup (dCons (dTup dNil) (dCons (dTup dNil) (dCons (dTup dNil) (dCons (dTup dNil) dNil))))) dNil)))))))
        (σ := [none, none, some (.p (.int (m : Int))), some (.ref L), none, none, x6, some (.ref x.2.1), some (.ref os.length), none, none, none]) (.int (x.1.a : Int)) (.int (x.1.n : Int)) .non (hd := intsP x.1.h) (pb := []) (pt := parts4)
        (by simp only [at_dCons, at_dOp, at_dVar, at_dC, at_dCall, at_dTup, at_dNil, bnd_some, List.getElem?_cons_zero, List.getElem?_cons_succ, row_0 ra, row_1 ra, row_2 ra, fl, n0, n4]) (.inl rfl) (.inr rfl) (.inr rfl) lh (small (by simp)) (small (by simp)) (by decide)
      have mt := so_meth st0 (nm := "add") (mf := m_Store_add) (a := dVar 8) (r := (dCons (dMake false 0 m_Change_init (dCons (dOp fIx (dVar 7) (dC (.int 0))) (dCons (dOp fIx (dVar 7) (dC (.int 1))) (dCons (dCall (fList false) (dCons (dOp fIx (dVar 7) (dC (.int 2))) dNil)) (dCons (dC .non) (dCons (dTup dNil) (dCons (dTup (dCons (dTup dNil) (dCons (dTup dNil) (dCons (dTup dNil) (dCons (dTup dNil) dNil))))) dNil))))))) dNil)) (σ := [none, none, some (.p (.int (m : Int))), some (.ref L), none, none, x6, some (.ref x.2.1), some (.ref os.length), none, none, none]) rfl rfl
      rw [at_dCons, mk, bnd_some, at_dNil, bnd_some, bnd_some] at mt
      refine ⟨_, rfl, [none, none, some (.p (.int (m : Int))), some (.ref L), none, none, x6, some (.ref x.2.1), some (.ref os.length), none, none, none], _, .inl ?_, rfl, rfl⟩
      unfold adB
      rw [at_dDrop]
      show bnd (dMeth 2 "add" m_Store_add _ _ [none, none, some (.p (.int (m : Int))), some (.ref L), none, none, x6, some (.ref x.2.1), some (.ref os.length), none, none, none] S1) _ = _
      rw [mt]
      show bnd (m_Store_add [.ref os.length, .p (chP x.1)] S1) _ = _
      rw [ad, bnd_some]
      rfl)
  rw [List.length_map, List.take_of_length_le (by rw [List.length_map]; exact Nat.le_refl _)] at h1
  exact h1
/-! what the law asks of a row -/
def lin (h : List Int) (m : Nat) (o : R4) : Bool := (List.range m).all fun k => !(decide (k < o.h.length) && decide (h.getD k 0 < o.h.getD k 0))
def lat (r : R4) (j : Nat) (o : R4) : Bool := decide (o.a = j) && decide ((o.n : Int) = r.h.getD j 0)
def lsnd1 (m : Nat) (cF : Nat → Int) (ys : List R4) (r : R4) (j : Nat) : Bool := !decide (cF j < r.h.getD j 0) && ys.all fun o => !lat r j o || lin r.h m o
def lsnd (m : Nat) (cF : Nat → Int) (ys : List R4) (r : R4) : Bool := decide (r.h.length = m) && (decide (r.h.getD r.a 0 = (r.n : Int) - 1) && (List.range m).all (lsnd1 m cF ys r))
abbrev laI : MS := (dIf (dAnd (dTest (dOp fLt (dVar 6) (dCall fLen (dCons (dOp fIx (dVar 5) (dC (.int 2))) dNil)))) (dTest (dOp fGt (dOp fIx (dOp fIx (dVar 5) (dC (.int 2))) (dVar 6)) (dOp fIx (dOp fIx (dVar 3) (dC (.int 2))) (dVar 6)))))
      (dRet (dC (.bl false)))
      dNx)
abbrev laM : MS := (dIf (dAnd (dTest (dOp (fEq false) (dOp fIx (dVar 5) (dC (.int 0))) (dVar 4))) (dTest (dOp (fEq false) (dOp fIx (dVar 5) (dC (.int 1))) (dOp fIx (dOp fIx (dVar 3) (dC (.int 2))) (dVar 4)))))
      (dFor [6] (dRng1 (dCons (dVar 0) dNil)) (gNm 6) laI)
      dNx)
abbrev laO : MS := (dSeq (dIf (dTest (dOp fGt (dOp fIx (dOp fIx (dVar 3) (dC (.int 2))) (dVar 4)) (dOp fIx (dVar 1) (dVar 4))))
      (dRet (dC (.bl false)))
      dNx)
    (dFor [5, 6] (dIt (dVar 2)) (gNm 5) laM))
section
variable {S : SH} {L C m : Nat} {xs : List X4} (r : RW S L xs) {cF : Nat → Int} (hC : S.os[C]? = some (liO (tab m cF))) (hm : m ≤ 100)
include r hC hm
theorem laM_eq {x y : X4} (hx : x ∈ xs) (hy : y ∈ xs) (hl : x.1.h.length = m) {j : Nat} (hj : j < m) :
    laM [some (.p (.int (m : Int))), some (.ref C), some (.ref L), some (.ref x.2.1), some (.p (.int (j : Int))), some (.ref y.2.1), none] S = if (!lat x.1 j y.1 || lin x.1.h m y.1) = true then some (.nx [some (.p (.int (m : Int))), some (.ref C), some (.ref L), some (.ref x.2.1), some (.p (.int (j : Int))), some (.ref y.2.1), none], S) else some (.ret (.p (.bl false)), S) := by
  have ra := r.ats x hx
  have rb := r.ats y hy
  have xj := row_h ra (getD_at (ds := x.1.h) (n := j) (by omega))
  have e1 : decide ((y.1.a : Int) = (j : Int)) = decide (y.1.a = j) := by
    rw [Bool.eq_iff_iff, decide_eq_true_eq, decide_eq_true_eq]; omega
  have ly : fLen [.ref y.2.2] S = some (.p (.int (y.1.h.length : Int)), S) := by
    have q := len_r rb.2
    rw [List.length_map, intsP_len] at q
    exact q
  have lp := rng_chk (body := laI) (ws := [6]) (j := 6) (σ := [some (.p (.int (m : Int))), some (.ref C), some (.ref L), some (.ref x.2.1), some (.p (.int (j : Int))), some (.ref y.2.1), none]) (S := S) (r := .p (.bl false)) (fun k => !(decide (k < y.1.h.length) && decide (x.1.h.getD k 0 < y.1.h.getD k 0))) m fun k hk => by
    have xk := row_h ra (getD_at (ds := x.1.h) (n := k) (by omega))
    have e2 : decide ((k : Int) < (y.1.h.length : Int)) = decide (k < y.1.h.length) := by
      rw [Bool.eq_iff_iff, decide_eq_true_eq, decide_eq_true_eq]; omega
    have ev : laI ([some (.p (.int (m : Int))), some (.ref C), some (.ref L), some (.ref x.2.1), some (.p (.int (j : Int))), some (.ref y.2.1), some (.p (.int (k : Int)))]) S = if (!(decide (k < y.1.h.length) && decide (x.1.h.getD k 0 < y.1.h.getD k 0))) = true then some (.nx [some (.p (.int (m : Int))), some (.ref C), some (.ref L), some (.ref x.2.1), some (.p (.int (j : Int))), some (.ref y.2.1), some (.p (.int (k : Int)))], S) else some (.ret (.p (.bl false)), S) := by
      unfold laI
      simp only [at_dIf, at_dAnd, at_dTest, at_dOp, at_dVar, at_dC, at_dCall, at_dCons, at_dNil, bnd_some, List.getElem?_cons_zero, List.getElem?_cons_succ, row_2 rb, row_2 ra, ly, xk, fII_eq, if_true, toB_p, e2]
      by_cases q : k < y.1.h.length
      · have yk := row_h rb (getD_at (ds := y.1.h) (n := k) q)
        simp only [q, decide_true, if_true, row_2 ra, row_2 rb, yk, xk, bnd_some, fII_eq, toB_p, Bool.true_and]
        by_cases q2 : x.1.h.getD k 0 < y.1.h.getD k 0
        · simp only [q2, decide_true, if_true, at_dRet, at_dC, bnd_some, Bool.not_true, Bool.false_eq_true, if_false]
        · simp only [q2, decide_false, Bool.false_eq_true, if_false, at_dNx, Bool.not_false, if_true]
      · simp only [q, decide_false, Bool.false_eq_true, if_false, bnd_some, at_dNx, Bool.false_and, Bool.not_false, if_true]
    exact ⟨fun ok => ⟨[some (.p (.int (m : Int))), some (.ref C), some (.ref L), some (.ref x.2.1), some (.p (.int (j : Int))), some (.ref y.2.1), some (.p (.int (k : Int)))], .inl (ev.trans (if_pos ok)), rfl⟩, fun ok => ev.trans (if_neg (by rw [ok]; exact Bool.false_ne_true))⟩
  unfold laM
  simp only [at_dIf, at_dAnd, at_dTest, at_dOp, at_dVar, at_dC, bnd_some, List.getElem?_cons_zero, List.getElem?_cons_succ, row_0 rb, row_1 rb, row_2 ra, xj, fEq_ii, Bool.false_eq_true, if_false, toB_p, e1]
  unfold lat
  by_cases q : y.1.a = j
  · simp only [q, decide_true, if_true, bnd_some, Bool.true_and, toB_p]
    by_cases q2 : (y.1.n : Int) = x.1.h.getD j 0
    · simp only [q2, decide_true, if_true, at_dFor, at_dRng1, at_dCons, at_dVar, at_dNil, bnd_some, List.getElem?_cons_zero, rng_nat m (by omega), wipeD, List.set_cons_zero, List.set_cons_succ, Bool.not_true, Bool.false_or]
      exact lp
    · simp only [q2, decide_false, Bool.false_eq_true, if_false, at_dNx, Bool.not_false, Bool.true_or, if_true]
  · simp only [q, decide_false, Bool.false_eq_true, if_false, bnd_some, at_dNx, Bool.false_and, Bool.not_false, Bool.true_or, if_true]
end
end Kb
namespace Kb
open PySem PySem.Spec PyProof.Rows L2 Pv
section
variable {S : SH} {L C m : Nat} {xs : List X4} (r : RW S L xs) {cF : Nat → Int} (hC : S.os[C]? = some (liO (tab m cF))) (hm : m ≤ 100)
include r hC hm
theorem laO_eq {x : X4} (hx : x ∈ xs) (hl : x.1.h.length = m) {j : Nat} (hj : j < m) : ∃ σ2, wipeD [4, 5, 6] σ2 = [some (.p (.int (m : Int))), some (.ref C), some (.ref L), some (.ref x.2.1), none, none, none] ∧
    laO [some (.p (.int (m : Int))), some (.ref C), some (.ref L), some (.ref x.2.1), some (.p (.int (j : Int))), none, none] S = if lsnd1 m cF (xs.map (·.1)) x.1 j = true then some (.nx σ2, S) else some (.ret (.p (.bl false)), S) := by
  refine ⟨[some (.p (.int (m : Int))), some (.ref C), some (.ref L), some (.ref x.2.1), some (.p (.int (j : Int))), none, none], rfl, ?_⟩
  have ra := r.ats x hx
  have xj := row_h ra (getD_at (ds := x.1.h) (n := j) (by omega))
  have cj : fIx (.ref C) (.p (.int (j : Int))) S = some (.p (.int (cF j)), S) := fIx_rn hC (ints_at hj)
  have so := srcOf_r r.rows
  rw [List.length_map] at so
  have lp := r_chk (body := laM) (ws := [5, 6]) (j := 5) (n := L) (σ := [some (.p (.int (m : Int))), some (.ref C), some (.ref L), some (.ref x.2.1), some (.p (.int (j : Int))), none, none]) (S := S) (r := .p (.bl false)) (fun y : X4 => D.ref y.2.1) (fun y => !lat x.1 j y.1 || lin x.1.h m y.1) xs r.rows fun y hy => by
    have ev := laM_eq r hC hm hx hy hl hj
    exact ⟨fun ok => ⟨_, .inl (ev.trans (if_pos ok)), rfl⟩, fun ok => ev.trans (if_neg (by rw [ok]; exact Bool.false_ne_true))⟩
  have am : (xs.map (·.1)).all (fun o => !lat x.1 j o || lin x.1.h m o) = xs.all fun y => !lat x.1 j y.1 || lin x.1.h m y.1 := by rw [List.all_map]; rfl
  unfold laO lsnd1
  rw [at_dSeq, am]
  simp only [at_dIf, at_dTest, at_dOp, at_dVar, at_dC, bnd_some, List.getElem?_cons_zero, List.getElem?_cons_succ, row_2 ra, xj, cj, fII_eq, if_true, toB_p]
  by_cases q : cF j < x.1.h.getD j 0
  · simp only [q, decide_true, if_true, at_dRet, at_dC, bnd_some, seqK_ret, Bool.not_true, Bool.false_and, Bool.false_eq_true, if_false]
  · simp only [q, decide_false, Bool.false_eq_true, if_false, at_dNx, Bool.not_false, Bool.true_and]
    rw [bnd_some, seqK_nx]
    simp only [at_dFor, at_dIt, at_dVar, bnd_some, List.getElem?_cons_zero, List.getElem?_cons_succ, so, wipeD, List.set_cons_zero, List.set_cons_succ]
    exact lp
theorem lis_eq {x : X4} (hx : x ∈ xs) (ha : x.1.a < m) (hl : x.1.h.length ≤ 100) : m_lis_sound [.p (.int (m : Int)), .ref C, .ref L, .ref x.2.1] S = some (.p (.bl (lsnd m cF (xs.map (·.1)) x.1)), S) := by
  obtain ⟨S1, hS⟩ : ∃ S1 : SH, S1 = ⟨S.os.length, S.os⟩ := ⟨_, rfl⟩
  have r1 : RW S1 L xs := by rw [hS]; exact ⟨r.rows, r.ats, r.nd⟩
  have hC1 : S1.os[C]? = some (liO (tab m cF)) := by rw [hS]; exact hC
  have fin : ∀ p, frameF S (some (.ret (.p p), S1)) = some (.p p, S) := fun p => by rw [frame_p, hS, cut_self]
  have ra := r1.ats x hx
  have lx : fLen [.ref x.2.2] S1 = some (.p (.int (x.1.h.length : Int)), S1) := by
    have q := len_r ra.2
    rw [List.length_map, intsP_len] at q
    exact q
  unfold m_lis_sound lsnd
  rw [fn_at (k := 4) rfl, ← hS, show startD 7 [.p (.int (m : Int)), .ref C, .ref L, .ref x.2.1] = [some (.p (.int (m : Int))), some (.ref C), some (.ref L), some (.ref x.2.1), none, none, none] from rfl, at_dSeq]
  by_cases e : x.1.h.length = m
  · have e' : (x.1.h.length : Int) = (m : Int) := by omega
    have x1 := row_h ra (getD_at (ds := x.1.h) (n := x.1.a) (by omega))
    rw [decide_eq_true e, Bool.true_and]
    simp only [at_dIf, at_dOr, at_dTest, at_dOp, at_dVar, at_dC, at_dCall, at_dCons, at_dNil, bnd_some, List.getElem?_cons_zero, List.getElem?_cons_succ, row_0 ra, row_1 ra, row_2 ra, lx, fEq_ii, if_true, toB_p, e', decide_true, Bool.not_true, Bool.false_eq_true, if_false, x1, fII_eq]
    by_cases e2 : x.1.h.getD x.1.a 0 = (x.1.n : Int) - 1
    · simp only [e2, decide_true, Bool.not_true, Bool.false_eq_true, if_false, at_dNx, Bool.true_and]
      rw [bnd_some, seqK_nx]
      have lp := rng_chk (body := laO) (ws := [4, 5, 6]) (j := 4) (σ := [some (.p (.int (m : Int))), some (.ref C), some (.ref L), some (.ref x.2.1), none, none, none]) (S := S1) (r := .p (.bl false)) (lsnd1 m cF (xs.map (·.1)) x.1) m fun j hj => by
        obtain ⟨σ2, w, b⟩ := laO_eq r1 hC1 hm hx e hj
        exact ⟨fun ok => ⟨σ2, .inl (b.trans (if_pos ok)), w⟩, fun ok => b.trans (if_neg (by rw [ok]; exact Bool.false_ne_true))⟩
      rw [at_dSeq]
      simp only [at_dFor, at_dRng1, at_dCons, at_dUn, at_dVar, at_dNil, bnd_some, List.getElem?_cons_zero, List.getElem?_cons_succ, rng_nat m (by omega), wipeD, List.set_cons_zero, List.set_cons_succ]
      unfold laO laM laI at lp
      rw [lp]
      by_cases al : ((List.range m).all (lsnd1 m cF (xs.map (·.1)) x.1)) = true
      · rw [if_pos al, bnd_some, seqK_nx, at_dRet, at_dC, bnd_some, fin, al]
      · rw [if_neg al, bnd_some, seqK_ret, fin]
        rw [Bool.not_eq_true] at al
        rw [al]
    · simp only [e2, decide_false, Bool.not_false, if_true, at_dRet, at_dC, bnd_some, seqK_ret, Bool.false_and]
      rw [fin]
  · have e' : ¬ (x.1.h.length : Int) = (m : Int) := by omega
    rw [decide_eq_false e, Bool.false_and]
    simp only [at_dIf, at_dOr, at_dTest, at_dOp, at_dVar, at_dC, at_dCall, at_dCons, at_dNil, bnd_some, List.getElem?_cons_zero, List.getElem?_cons_succ, row_2 ra, lx, fEq_ii, if_true, toB_p, e', decide_false, Bool.not_false, at_dRet, seqK_ret]
    rw [fin]
abbrev exB : MS := (dIf (dNot (dTest (dCall m_lis_sound (dCons (dVar 2) (dCons (dVar 6) (dCons (dVar 3) (dCons (dVar 7) dNil)))))))
      (dSet 9 (dC (.bl false)))
      dNx)
theorem ex_loop (ha : ∀ x ∈ xs, x.1.a < m) (hh : ∀ x ∈ xs, x.1.h.length ≤ 100) (x8 : Option D) :
    forL [0, 1, 4, 5, 7, 10, 11] (srcR L xs.length).fin (gNm 7) exB (srcR L xs.length).items [none, none, some (.p (.int (m : Int))), some (.ref L), none, none, some (.ref C), none, x8, some (.p (.bl true)), none, none] S =
    some (.nx [none, none, some (.p (.int (m : Int))), some (.ref L), none, none, some (.ref C), none, x8, some (.p (.bl ((xs.map (·.1)).all (lsnd m cF (xs.map (·.1)))))), none, none], S) := by
  obtain ⟨σ', S', h1, rfl, rfl⟩ := r_inv (body := exB) (ws := [0, 1, 4, 5, 7, 10, 11]) (g := gNm 7) (fun i σ T => σ = [none, none, some (.p (.int (m : Int))), some (.ref L), none, none, some (.ref C), none, x8, some (.p (.bl (((xs.map (·.1)).take i).all (lsnd m cF (xs.map (·.1)))))), none, none] ∧ T = S) L (xs.map fun x => D.ref x.2.1)
    (σ := [none, none, some (.p (.int (m : Int))), some (.ref L), none, none, some (.ref C), none, x8, some (.p (.bl true)), none, none]) (S := S) ⟨rfl, rfl⟩ (by
      rintro i σ T ⟨rfl, rfl⟩
      exact r.rows) (by
      rintro i d σ T hd ⟨rfl, rfl⟩
      rw [List.getElem?_map] at hd
      cases e : xs[i]? with
      | none => rw [e] at hd; cases hd
      | some x =>
      rw [e] at hd
      cases hd
      have hmx := List.mem_of_getElem? e
      have e2 : (xs.map (·.1))[i]? = some x.1 := by rw [List.getElem?_map, e]; rfl
      obtain ⟨hi, he⟩ := List.getElem?_eq_some_iff.mp e2
      have le := lis_eq r hC hm hmx (ha x hmx) (hh x hmx)
      have et : ((xs.map (·.1)).take (i + 1)).all (lsnd m cF (xs.map (·.1))) = (((xs.map (·.1)).take i).all (lsnd m cF (xs.map (·.1))) && lsnd m cF (xs.map (·.1)) x.1) := by
        rw [List.take_succ_eq_append_getElem hi, List.all_append, he]
        simp
      have ev : exB [none, none, some (.p (.int (m : Int))), some (.ref L), none, none, some (.ref C), some (.ref x.2.1), x8, some (.p (.bl (((xs.map (·.1)).take i).all (lsnd m cF (xs.map (·.1)))))), none, none] T = some (.nx [none, none, some (.p (.int (m : Int))), some (.ref L), none, none, some (.ref C), some (.ref x.2.1), x8, some (.p (.bl (((xs.map (·.1)).take (i + 1)).all (lsnd m cF (xs.map (·.1)))))), none, none], T) := by
        unfold exB
        simp only [at_dIf, at_dNot, at_dTest, at_dCall, at_dCons, at_dVar, at_dNil, bnd_some, List.getElem?_cons_zero, List.getElem?_cons_succ, le, toB_p]
        rw [et]
        by_cases q : lsnd m cF (xs.map (·.1)) x.1 = true
        · simp [q]
        · rw [Bool.not_eq_true] at q
          simp [q]
      exact ⟨_, rfl, _, T, .inl ev, rfl, rfl⟩)
  rw [List.length_map, List.take_of_length_le (by rw [List.length_map]; exact Nat.le_refl _)] at h1
  exact h1
end
end Kb
namespace Kb
open PySem PySem.Spec PyProof.Rows L2 Pv
/-! the two checks agree -/
theorem range_above (k c : Nat) (h : c ≤ k) : (List.range' 1 k).filter (fun n => decide (c < n)) = List.range' (c + 1) (k - c) := by
  have e : List.range' 1 k = List.range' 1 c ++ List.range' (1 + c) (k - c) := by
    rw [List.range'_append_1]
    congr 1
    omega
  rw [e, List.filter_append, List.filter_eq_nil_iff.mpr, List.filter_eq_self.mpr, List.nil_append, Nat.add_comm]
  · intro a ha
    rw [List.mem_range'_1] at ha
    exact decide_eq_true (by omega)
  · intro a ha
    rw [List.mem_range'_1] at ha
    simp
    omega
def prs (rs : List R4) : List (Nat × Nat) := rs.map fun r => (r.a, r.n)
theorem nums_prs (rs : List R4) (j : Nat) : (gOf rs j).map (·.n) = ((prs rs).filter fun p => p.1 = j).map (·.2) := by
  unfold prs gOf
  rw [List.filter_map, List.map_map]
  rfl
/-- the numbers of a member in the store -/
theorem nums_kept {m : Nat} {R rs : List R4} (t : Told m R) {ct : List Int} (hc : CutOk m R ct) (hp : prs rs = prs (R.filter fun r => decide (ct.getD r.a 0 < (r.n : Int)))) {j : Nat} (hj : j < m) : ∃ k : Nat, ct.getD j 0 = (k : Int) ∧ k ≤ cnt R j ∧ (gOf rs j).map (·.n) = List.range' (k + 1) (cnt R j - k) := by
  have hg := hc.le j _ (getD_at (ds := ct) (n := j) (by rw [hc.len]; exact hj))
  refine ⟨(ct.getD j 0).toNat, by omega, by omega, ?_⟩
  rw [nums_prs, hp, ← nums_prs]
  unfold gOf
  rw [List.filter_filter]
  have e : (R.filter fun r => (decide (r.a = j) && decide (ct.getD r.a 0 < (r.n : Int)))) = (R.filter fun r => r.a = j).filter fun r => decide ((ct.getD j 0).toNat < r.n) := by
    rw [List.filter_filter]
    apply List.filter_congr
    intro r _
    by_cases q : r.a = j
    · have : decide (ct.getD j 0 < (r.n : Int)) = decide ((ct.getD j 0).toNat < r.n) := by
        rw [Bool.eq_iff_iff, decide_eq_true_eq, decide_eq_true_eq]
        omega
      rw [q, this, Bool.and_comm]
    · rw [decide_eq_false q, Bool.false_and, Bool.and_false]
  rw [e, ← range_above _ _ (by omega), ← t.num j, List.filter_map]
  rfl
theorem fnd_mem {l : List R4} {c : Nat} {v : Int} {q : R4} (hl : l.map (·.n) = List.range' (c + 1) l.length) : fnd l (c : Int) v = some q ↔ q ∈ l ∧ (q.n : Int) = v := by
  have at' : ∀ i (hi : i < l.length), (l[i]).n = c + 1 + i := fun i hi => by
    have h : (l.map (·.n))[i]? = (List.range' (c + 1) l.length)[i]? := by rw [hl]
    rw [List.getElem?_map, List.getElem?_eq_getElem hi, List.getElem?_range' hi] at h
    simpa using h
  unfold fnd
  constructor
  · intro h
    split at h
    · rename_i h0
      obtain ⟨hi, e⟩ := List.getElem?_eq_some_iff.mp h
      have := at' _ hi
      rw [e] at this
      exact ⟨e ▸ List.getElem_mem hi, by omega⟩
    · cases h
  · rintro ⟨hq, hv⟩
    obtain ⟨i, hi, rfl⟩ := List.getElem_of_mem hq
    have := at' i hi
    rw [if_pos (by omega), show (v - (c : Int) - 1).toNat = i by omega, List.getElem?_eq_getElem hi]
theorem flat_mem {rs : List R4} {m : Nat} (ha : ∀ r ∈ rs, r.a < m) (r : R4) : r ∈ flatG (gOf rs) (List.range m) ↔ r ∈ rs := by
  unfold flatG gOf
  rw [List.mem_flatten]
  constructor
  · rintro ⟨l, hl, hr⟩
    obtain ⟨j, _, rfl⟩ := List.mem_map.mp hl
    exact (List.mem_filter.mp hr).1
  · intro hr
    exact ⟨_, List.mem_map.mpr ⟨r.a, List.mem_range.mpr (ha r hr), rfl⟩, List.mem_filter.mpr ⟨hr, by simp⟩⟩
theorem agree {m : Nat} {R rs : List R4} (t : Told m R) {ct : List Int} (hc : CutOk m R ct) (hp : prs rs = prs (R.filter fun r => decide (ct.getD r.a 0 < (r.n : Int)))) (ha : ∀ r ∈ rs, r.a < m) :
    (flatG (gOf rs) (List.range m)).all (snd m (fun j => ct.getD j 0) (gOf rs)) = rs.all (lsnd m (fun j => (cnt R j : Int)) rs) := by
  have nk := fun j (hj : j < m) => nums_kept t hc hp hj
  have len : ∀ j, j < m → ct.getD j 0 + ((gOf rs j).length : Int) = (cnt R j : Int) := fun j hj => by
    obtain ⟨k, e1, e2, e3⟩ := nk j hj
    have := congrArg List.length e3
    rw [List.length_map, List.length_range'] at this
    omega
  have fm : ∀ j, j < m → ∀ v q, fnd (gOf rs j) (ct.getD j 0) v = some q ↔ q ∈ gOf rs j ∧ (q.n : Int) = v := fun j hj v q => by
    obtain ⟨k, e1, e2, e3⟩ := nk j hj
    have hl := congrArg List.length e3
    rw [List.length_map, List.length_range'] at hl
    rw [e1]
    exact fnd_mem (by rw [e3, hl])
  rw [Bool.eq_iff_iff, List.all_eq_true, List.all_eq_true]
  constructor
  · intro h r hr
    have s := h r ((flat_mem ha r).mpr hr)
    unfold snd at s
    simp only [Bool.and_eq_true, decide_eq_true_eq, List.all_eq_true, List.mem_range] at s
    obtain ⟨s1, s2, s3⟩ := s
    unfold lsnd
    simp only [Bool.and_eq_true, decide_eq_true_eq, List.all_eq_true, List.mem_range]
    refine ⟨s1, s2, fun j hj => ?_⟩
    have s4 := s3 j hj
    unfold snd1 at s4
    simp only [Bool.and_eq_true, Bool.not_eq_true', decide_eq_false_iff_not] at s4
    unfold lsnd1
    simp only [Bool.and_eq_true, Bool.not_eq_true', decide_eq_false_iff_not, List.all_eq_true, Bool.or_eq_true]
    refine ⟨by rw [← len j hj]; exact s4.1, fun o ho => ?_⟩
    by_cases q : lat r j o = true
    · right
      unfold lat at q
      simp only [Bool.and_eq_true, decide_eq_true_eq] at q
      have fo := (fm j hj (r.h.getD j 0) o).mpr ⟨List.mem_filter.mpr ⟨ho, by simpa using q.1⟩, q.2⟩
      have s5 := s4.2
      rw [fo] at s5
      unfold sndO cov at s5
      simp only [Bool.and_eq_true, decide_eq_true_eq, List.all_eq_true, List.mem_range, Bool.not_eq_true', decide_eq_false_iff_not] at s5
      unfold lin
      simp only [List.all_eq_true, List.mem_range, Bool.not_eq_true', Bool.and_eq_false_iff, decide_eq_false_iff_not]
      intro k hk
      exact .inr (s5.2 k (by omega))
    · left
      rw [Bool.not_eq_true] at q
      exact q
  · intro h r hr'
    have hr := (flat_mem ha r).mp hr'
    have own := fun (o : R4) (ho : o ∈ rs) => by
      have s := h o ho
      unfold lsnd at s
      simp only [Bool.and_eq_true, decide_eq_true_eq, List.all_eq_true, List.mem_range] at s
      exact s
    obtain ⟨s1, s2, s3⟩ := own r hr
    unfold snd
    simp only [Bool.and_eq_true, decide_eq_true_eq, List.all_eq_true, List.mem_range]
    refine ⟨s1, s2, fun j hj => ?_⟩
    have s4 := s3 j hj
    unfold lsnd1 at s4
    simp only [Bool.and_eq_true, Bool.not_eq_true', decide_eq_false_iff_not, List.all_eq_true, Bool.or_eq_true] at s4
    unfold snd1
    simp only [Bool.and_eq_true, Bool.not_eq_true', decide_eq_false_iff_not]
    refine ⟨by rw [len j hj]; exact s4.1, ?_⟩
    cases e : fnd (gOf rs j) (ct.getD j 0) (r.h.getD j 0) with
    | none => rfl
    | some q =>
      obtain ⟨q1, q2⟩ := (fm j hj _ _).mp e
      obtain ⟨q3, q4⟩ := List.mem_filter.mp q1
      have q4' : q.a = j := by simpa using q4
      have lt : lat r j q = true := by
        unfold lat
        simp only [Bool.and_eq_true, decide_eq_true_eq]
        exact ⟨q4', q2⟩
      have s5 := s4.2 q q3
      rw [lt] at s5
      simp only [Bool.true_eq_false, false_or] at s5
      have ql := (own q q3).1
      unfold lin at s5
      simp only [List.all_eq_true, List.mem_range, Bool.not_eq_true', Bool.and_eq_false_iff, decide_eq_false_iff_not] at s5
      show cov r q = true
      unfold cov
      simp only [Bool.and_eq_true, decide_eq_true_eq, List.all_eq_true, List.mem_range, Bool.not_eq_true', decide_eq_false_iff_not]
      refine ⟨by omega, fun k hk => ?_⟩
      rcases s5 k (by omega) with z | z
      · omega
      · exact z
end Kb
namespace Kb
open PySem PySem.Spec PyProof.Rows L2 Pv
theorem flat_len {g : Nat → List R4} {B : Nat} : ∀ (js : List Nat), (∀ j ∈ js, (g j).length ≤ B) → (flatG g js).length ≤ js.length * B
  | [], _ => by simp [flatG]
  | j :: js, h => by
    have ih := flat_len js fun i hi => h i (List.mem_cons_of_mem _ hi)
    have h0 := h j List.mem_cons_self
    have e : flatG g (j :: js) = g j ++ flatG g js := by simp [flatG]
    rw [e, List.length_append, List.length_cons, Nat.succ_mul]
    omega
theorem rep_tab (m : Nat) : List.replicate m ([] : List P) = tabC m fun _ => [] := by
  unfold tabC tab
  apply List.ext_getElem?
  intro i
  by_cases h : i < m
  · simp [h]
  · rw [List.getElem?_eq_none (by rw [List.length_replicate]; omega), List.getElem?_eq_none (by rw [List.length_map, List.length_range]; omega)]
theorem fEq_bb (neg : Bool) (a b : Bool) (S : SH) : fEq neg (.p (.bl a)) (.p (.bl b)) S = some (.p (.bl (if neg = true then !(a == b) else (a == b))), S) := by
  unfold fEq
  rw [rdP_p, rdP_p]
  dsimp only
  rw [if_pos ⟨rfl, rfl⟩]
  rfl
theorem fEq_self {x : P} (h : okd 40 x = true) (S : SH) : fEq false (.p x) (.p x) S = some (.p (.bl true), S) := by
  unfold fEq
  rw [rdP_p]
  dsimp only
  rw [if_pos ⟨h, h⟩, if_neg Bool.false_ne_true, peq_refl 40 _ h]
theorem law_true (ns : List Int) (hn : ns.length ≤ 63) : m_law [.p (.lst (intsP ns))] ⟨0, []⟩ = some (.p (.bl true), ⟨0, []⟩) := by
  obtain ⟨ds, hdr, hd⟩ := draws_eq ns hn ⟨0, []⟩
  obtain ⟨m, xs, L, T, S1, hm, hx, et, b1, oT, r1, t⟩ := told_eq hd
  obtain ⟨ct, hc, ec⟩ := cut_eq r1 t (by omega) hm hd
  obtain ⟨R, hR⟩ : ∃ R, R = xs.map (·.1) := ⟨_, rfl⟩
  have cE : tab m (cntF (xs.map (·.1)) xs.length) = tab m fun j => (cnt R j : Int) := by
    congr 1
    funext j
    unfold cntF
    rw [List.take_of_length_le (by rw [List.length_map]; exact Nat.le_refl _), hR]
  -- the counts
  have n6 : newL true (tab m fun _ => .p (.int 0)) S1 = some (.ref S1.os.length, S1.push (liO (tab m fun _ => 0))) := by
    rw [newL_t _ (small (by rw [tab_len]; omega)), ← intsP_tab]
  obtain ⟨y', lp1⟩ := counts_loop r1 t (.lst (intsP ds)) (.lst (intsP ct)) none
  rw [cE] at lp1
  obtain ⟨S3, hS3⟩ : ∃ S3 : SH, S3 = S1.push (liO (tab m fun j => (cnt R j : Int))) := ⟨_, rfl⟩
  rw [← hS3] at lp1
  have b3 : S3.b = 0 := by rw [hS3]; exact b1
  have r3 : RW S3 L xs := by rw [hS3]; exact ⟨push_old r1.rows, fun x hx => (r1.ats x hx).push _, r1.nd⟩
  have oC : S3.os[S1.os.length]? = some (liO (tab m fun j => (cnt R j : Int))) := by rw [hS3]; exact push_new _ _
  -- what is kept
  have kc := keep_comp r3 t hc.len (by omega)
  have n3 : newL true ((xs.filter (keep ct)).map fun x => D.ref x.2.1) S3 = some (.ref S3.os.length, S3.push (.lst ((xs.filter (keep ct)).map fun x => .ref x.2.1))) := by
    refine newL_t _ (small ?_)
    rw [List.length_map]
    have := List.length_filter_le (keep ct) xs
    omega
  have r4 := r3.keep (keep ct)
  obtain ⟨S4, hS4⟩ : ∃ S4 : SH, S4 = S3.push (.lst ((xs.filter (keep ct)).map fun x => .ref x.2.1)) := ⟨_, rfl⟩
  rw [← hS4] at r4 n3
  have b4 : S4.b = 0 := by rw [hS4]; exact b3
  have fl := List.length_filter_le (keep ct) xs
  -- the fault
  obtain ⟨S5, ys, sp, es⟩ := spoil_eq r4 (m := m) (fun x hx => t.al _ (List.mem_map.mpr ⟨x, (List.mem_filter.mp hx).1, rfl⟩)) (fun x hx => t.hl _ (List.mem_map.mpr ⟨x, (List.mem_filter.mp hx).1, rfl⟩)) (by omega) hm hd
  have b5 : S5.b = 0 := sp.b.trans b4
  have yl : ys.length = (xs.filter (keep ct)).length := by
    have := congrArg List.length sp.same
    rwa [List.length_map, List.length_map] at this
  have oC5 : S5.os[S1.os.length]? = some (liO (tab m fun j => (cnt R j : Int))) := by
    refine sp.keep _ _ (by rw [hS4]; exact push_old oC) fun x hx => ?_
    have := get_lt (r1.ats x (List.mem_filter.mp hx).1).2
    omega
  have ya : ∀ y ∈ ys, y.1.a < m := fun y hy => by
    have h : (y.1.a, y.1.n) ∈ ys.map fun x => (x.1.a, x.1.n) := List.mem_map.mpr ⟨y, hy, rfl⟩
    rw [sp.same] at h
    obtain ⟨x, hx, e⟩ := List.mem_map.mp h
    have e1 : x.1.a = y.1.a := by simpa using congrArg Prod.fst e
    rw [← e1]
    exact t.al _ (List.mem_map.mpr ⟨x, (List.mem_filter.mp hx).1, rfl⟩)
  obtain ⟨rs, hrs⟩ : ∃ rs, rs = ys.map (·.1) := ⟨_, rfl⟩
  have hp : prs rs = prs (R.filter fun r => decide (ct.getD r.a 0 < (r.n : Int))) := by
    rw [hrs, hR, List.filter_map]
    unfold prs
    rw [List.map_map, List.map_map]
    exact sp.same
  have ra : ∀ r ∈ rs, r.a < m := fun r hr => by
    rw [hrs] at hr
    obtain ⟨y, hy, rfl⟩ := List.mem_map.mp hr
    exact ya y hy
  have rh : ∀ r ∈ rs, r.h.length ≤ 10 := fun r hr => by
    rw [hrs] at hr
    obtain ⟨y, hy, rfl⟩ := List.mem_map.mp hr
    exact sp.hl y hy
  have rl : rs.length ≤ 12 := by rw [hrs, List.length_map]; omega
  -- the store
  have lp2 := cut_loop S5.b S5.os hc.len (List.replicate m []) (List.length_replicate) (some (.ref S3.os.length)) (some (.ref S1.os.length))
  have lp3 := add_loop S5.b S5.b S5.os (L := S3.os.length) (xs := ys) sp.rw (fun j => ct.getD j 0) ya sp.hl (by omega) (some (.ref S1.os.length))
  rw [← hrs] at lp3
  have sto7 := sto_sto S5.b S5.os m (tab m fun j => ct.getD j 0) (tabC m (gOf rs)) (tab_len _ _) (tab_len _ _)
  have r7 : RW ⟨S5.b, stoL S5.os m (tab m fun j => ct.getD j 0) (tabC m (gOf rs))⟩ S3.os.length ys := RW.app (b := S5.b) sp.rw _
  have oC7 : (⟨S5.b, stoL S5.os m (tab m fun j => ct.getD j 0) (tabC m (gOf rs))⟩ : SH).os[S1.os.length]? = some (liO (tab m fun j => (cnt R j : Int))) := get_app oC5
  have r6 : RW ⟨S5.b, stoL S5.os m (tab m fun j => ct.getD j 0) (List.replicate m [])⟩ S3.os.length ys := RW.app (b := S5.b) sp.rw _
  have so6 := srcOf_r r6.rows
  rw [List.length_map] at so6
  have so7 := srcOf_r r7.rows
  rw [List.length_map] at so7
  have lp4 := ex_loop r7 oC7 (by omega) ya (fun y hy => by have := sp.hl y hy; omega) (some (.ref S5.os.length))
  rw [← hrs] at lp4
  have gl : ∀ j, (gOf rs j).length ≤ 12 := fun j => Nat.le_trans (gOf_len _ _) rl
  have fll := flat_len (g := gOf rs) (B := 12) (List.range m) fun j _ => gl j
  rw [List.length_range] at fll
  have wh := whole_eq (n := S5.os.length) (m := m) (c := fun j => ct.getD j 0) (g := gOf rs) (by omega) (by omega) (fun r hr => by
    have h := (flat_mem ra r).mp hr
    exact ⟨ra r h, by have := rh r h; omega⟩) sto7
  rw [agree (hR ▸ t) (hR ▸ hc) hp ra] at wh
  have da := data_eq (n := S5.os.length) (m := m) (c := fun j => ct.getD j 0) (g := gOf rs) (by omega) (fun j _ => by have := gl j; omega) sto7
  obtain ⟨S7, hS7⟩ : ∃ S7 : SH, S7 = ⟨S5.b, stoL S5.os m (tab m fun j => ct.getD j 0) (tabC m (gOf rs))⟩ := ⟨_, rfl⟩
  rw [← hS7] at wh da lp3 lp4 sto7 so7
  have ev : startD 12 [.p (.lst (intsP ns))] = [some (.p (.lst (intsP ns))), none, none, none, none, none, none, none, none, none, none, none] := rfl
  have fin : frameF ⟨0, []⟩ (some (.ret (.p (.bl true)), S7)) = some (.p (.bl true), ⟨0, []⟩) := by
    rw [frame_p]
    rfl
  have tg : asL (.ref T) S1 = some [.p (.int (m : Int)), .ref L] := by
    unfold asL
    dsimp only
    rw [oT]
  have so1 : srcOf (.ref L) (S1.push (liO (tab m fun _ => 0))) = some (srcR L xs.length, S1.push (liO (tab m fun _ => 0))) := by
    have q := srcOf_r (S := S1.push (liO (tab m fun _ => 0))) (push_old r1.rows)
    rw [List.length_map] at q
    exact q
  have so3 : srcOf (.ref L) S3 = some (srcR L xs.length, S3) := by
    have q := srcOf_r r3.rows
    rw [List.length_map] at q
    exact q
  have z6 := fun σ => comp_tab (S := S1) (j := 5) (elt := dC (.int 0)) (σ := σ) (fun _ => .p (.int 0)) (m := m) (by omega) fun i hi => rfl
  have dm := fun σ (h : σ[8]? = some (some (.ref S5.os.length))) => (so_meth sto7 (nm := "data") (mf := m_Store_data) (a := dVar 8) (r := dNil) (σ := σ) (by rw [at_dVar, h]) rfl).trans (by rw [at_dNil, bnd_some, da])
  have ib : ∀ b, fIsi ["bool"] (.p (.bl b)) S7 = some (.p (.bl true), S7) := fun b => rfl
  unfold m_law
  rw [fn_at (k := 1) rfl, ev, at_dSeq]
  simp only [List.length_nil]
  simp only [at_dSet, at_dCall, at_dCons, at_dVar, at_dNil, bnd_some, List.getElem?_cons_zero, hdr, seqK_nx, List.set_cons_zero, List.set_cons_succ]
  rw [at_dSeq]
  simp only [at_dAsg, at_dCall, at_dCons, at_dVar, at_dNil, bnd_some, List.getElem?_cons_zero, List.getElem?_cons_succ, et, at_gTl, tg, List.length_cons, List.length_nil, if_true, at_gCn, at_gNm, at_gNl, seqK_nx, List.set_cons_zero, List.set_cons_succ]
  rw [at_dSeq]
  simp only [at_dSet, at_dCall, at_dCons, at_dVar, at_dNil, bnd_some, List.getElem?_cons_zero, List.getElem?_cons_succ, ec, seqK_nx, List.set_cons_zero, List.set_cons_succ]
  rw [at_dSeq]
  simp only [at_dSet, at_dComp, at_dRng1, at_dCons, at_dVar, at_dNil, bnd_some, List.getElem?_cons_zero, List.getElem?_cons_succ, rng_nat m (by omega), wipeD, z6, n6, seqK_nx, List.set_cons_zero, List.set_cons_succ]
  rw [at_dSeq]
  simp only [at_dFor, at_dIt, at_dVar, bnd_some, List.getElem?_cons_zero, List.getElem?_cons_succ, so1, wipeD, List.set_cons_zero, List.set_cons_succ, lp1, seqK_nx]
  rw [at_dSeq]
  simp only [at_dSet, at_dComp, at_dIt, at_dVar, bnd_some, List.getElem?_cons_zero, List.getElem?_cons_succ, so3, wipeD, List.set_cons_zero, List.set_cons_succ, kc, n3, seqK_nx]
  rw [at_dSeq]
  simp only [at_dDrop, at_dCall, at_dCons, at_dVar, at_dNil, bnd_some, List.getElem?_cons_zero, List.getElem?_cons_succ, es, seqK_nx]
  rw [at_dSeq, at_dSet, smake S5 (by omega) m (by omega) (by simp only [at_dCons, at_dVar, at_dNil, bnd_some, List.getElem?_cons_zero, List.getElem?_cons_succ])]
  simp only [bnd_some, seqK_nx, List.set_cons_zero, List.set_cons_succ]
  rw [at_dSeq]
  simp only [at_dFor, at_dRng1, at_dCons, at_dVar, at_dNil, bnd_some, List.getElem?_cons_zero, List.getElem?_cons_succ, rng_nat m (by omega), wipeD, List.set_cons_zero, List.set_cons_succ, lp2, seqK_nx]
  rw [at_dSeq]
  rw [rep_tab] at so6
  simp only [at_dFor, at_dIt, at_dVar, bnd_some, List.getElem?_cons_zero, List.getElem?_cons_succ, rep_tab, so6, wipeD, List.set_cons_zero, List.set_cons_succ, lp3, seqK_nx]
  rw [at_dSeq]
  simp only [at_dSet, at_dC, bnd_some, seqK_nx, List.set_cons_zero, List.set_cons_succ]
  rw [at_dSeq]
  simp only [at_dFor, at_dIt, at_dVar, bnd_some, List.getElem?_cons_zero, List.getElem?_cons_succ, so7, wipeD, List.set_cons_zero, List.set_cons_succ, lp4, seqK_nx]
  rw [at_dSeq, at_dSet, dm _ rfl]
  simp only [bnd_some, seqK_nx, List.set_cons_zero, List.set_cons_succ]
  rw [at_dSeq]
  simp only [at_dSet, at_dCall, at_dCons, at_dVar, at_dNil, bnd_some, List.getElem?_cons_zero, List.getElem?_cons_succ, wh, seqK_nx, List.set_cons_zero, List.set_cons_succ]
  rw [at_dSeq]
  simp only [at_dIf, at_dOr, at_dNot, at_dTest, at_dOp, at_dUn, at_dVar, bnd_some, List.getElem?_cons_zero, List.getElem?_cons_succ, ib, toB_p, Bool.not_true, Bool.false_eq_true, if_false, fEq_bb, if_true, beq_self_eq_true, at_dNx, seqK_nx, at_dRet, at_dAndV]
  rw [dm _ rfl]
  simp only [bnd_some, at_dVar, List.getElem?_cons_zero, List.getElem?_cons_succ, fEq_self dat_ok, toB_p, if_true, at_dOp, at_dCall, at_dCons, at_dNil, wh, fEq_bb, Bool.false_eq_true, if_false, beq_self_eq_true]
  exact fin
end Kb
namespace Kb
open PySem PySem.Spec PyProof.Rows L2 Pv
def spLaw (K : PySem.W.Frag) : Sp := fun vs H Q _ => ∃ (a : Addr) (ns : List Int), vs = [V.ref a] ∧ SqL K H a (ns.map V.int) ∧ ns.length ≤ 63 ∧ ∀ H', Q (.bl true) H'
theorem law_sp {K : PySem.W.Frag} {cl : Nat → Addr} {vs : List V} {H : Hp} {Q : VK} {E : XK} (h : spLaw K vs H Q E) : spOf K cl m_law vs H Q E := by
  obtain ⟨a, ns, rfl, hs, hl, q⟩ := h
  exact law_of hs (law_true ns hl) q
end Kb
namespace Kb
open PySem PySem.Spec PyProof.Rows L2 Pv
def topS (i : Nat) : Stmt := PySem.Challenge.pw_kithbase_k04_heard_lists_fit.main.body.getD i (.Pass ⟨0, 0, 0, 0⟩)
abbrev s_as_tuple : Stmt := (topS 2)
theorem sc_as_tuple : FnScope ["part"] ["part"] (defScope s_as_tuple) := ⟨rfl, rfl, rfl, by decide +kernel, rfl, by decide +kernel, by decide +kernel⟩
abbrev s_Change_init : Stmt := (inClass (topS 3) 0)
theorem sc_Change_init : FnScope ["self", "author", "number", "heard", "capability", "publics", "parts", "part"] ["self", "author", "number", "heard", "capability", "publics", "parts"] (defScope s_Change_init) := ⟨rfl, rfl, rfl, by decide +kernel, rfl, by decide +kernel, by decide +kernel⟩
abbrev s_Change_header : Stmt := (inClass (topS 3) 2)
theorem sc_Change_header : FnScope ["self"] ["self"] (defScope s_Change_header) := ⟨rfl, rfl, rfl, by decide +kernel, rfl, by decide +kernel, by decide +kernel⟩
abbrev s_order_key : Stmt := (topS 4)
theorem sc_order_key : FnScope ["change"] ["change"] (defScope s_order_key) := ⟨rfl, rfl, rfl, by decide +kernel, rfl, by decide +kernel, by decide +kernel⟩
abbrev s_in_order : Stmt := (topS 5)
theorem sc_in_order : FnScope ["changes"] ["changes"] (defScope s_in_order) := ⟨rfl, rfl, rfl, by decide +kernel, rfl, by decide +kernel, by decide +kernel⟩
abbrev s_Kept_init : Stmt := (inClass (topS 8) 0)
theorem sc_Kept_init : FnScope ["self", "acts", "sums", "texts", "spot", "act", "cell", "total", "characters", "mark", "char"] ["self", "acts", "sums", "texts"] (defScope s_Kept_init) := ⟨rfl, rfl, rfl, by decide +kernel, rfl, by decide +kernel, by decide +kernel⟩
abbrev s_Kept_data : Stmt := (inClass (topS 8) 1)
theorem sc_Kept_data : FnScope ["self", "texts", "cell", "characters"] ["self"] (defScope s_Kept_data) := ⟨rfl, rfl, rfl, by decide +kernel, rfl, by decide +kernel, by decide +kernel⟩
abbrev s_Store_init : Stmt := (inClass (topS 9) 0)
theorem sc_Store_init : FnScope ["self", "members", "_"] ["self", "members"] (defScope s_Store_init) := ⟨rfl, rfl, rfl, by decide +kernel, rfl, by decide +kernel, by decide +kernel⟩
abbrev s_Store_count : Stmt := (inClass (topS 9) 1)
theorem sc_Store_count : FnScope ["self", "member"] ["self", "member"] (defScope s_Store_count) := ⟨rfl, rfl, rfl, by decide +kernel, rfl, by decide +kernel, by decide +kernel⟩
abbrev s_Store_find : Stmt := (inClass (topS 9) 3)
theorem sc_Store_find : FnScope ["self", "name", "author", "number", "index"] ["self", "name"] (defScope s_Store_find) := ⟨rfl, rfl, rfl, by decide +kernel, rfl, by decide +kernel, by decide +kernel⟩
abbrev s_Store_all_changes : Stmt := (inClass (topS 9) 5)
theorem sc_Store_all_changes : FnScope ["self", "changes", "change"] ["self"] (defScope s_Store_all_changes) := ⟨rfl, rfl, rfl, by decide +kernel, rfl, by decide +kernel, by decide +kernel⟩
abbrev s_Store_add : Stmt := (inClass (topS 9) 6)
theorem sc_Store_add : FnScope ["self", "change"] ["self", "change"] (defScope s_Store_add) := ⟨rfl, rfl, rfl, by decide +kernel, rfl, by decide +kernel, by decide +kernel⟩
abbrev s_Store_data : Stmt := (inClass (topS 9) 8)
theorem sc_Store_data : FnScope ["self", "kept", "changes", "each", "change"] ["self"] (defScope s_Store_data) := ⟨rfl, rfl, rfl, by decide +kernel, rfl, by decide +kernel, by decide +kernel⟩
abbrev s_kept_data : Stmt := (topS 10)
theorem sc_kept_data : FnScope ["kept"] ["kept"] (defScope s_kept_data) := ⟨rfl, rfl, rfl, by decide +kernel, rfl, by decide +kernel, by decide +kernel⟩
abbrev s_covers : Stmt := (topS 11)
theorem sc_covers : FnScope ["change", "last", "member"] ["change", "last"] (defScope s_covers) := ⟨rfl, rfl, rfl, by decide +kernel, rfl, by decide +kernel, by decide +kernel⟩
abbrev s_is_sound : Stmt := (topS 12)
theorem sc_is_sound : FnScope ["store", "change", "member", "last"] ["store", "change"] (defScope s_is_sound) := ⟨rfl, rfl, rfl, by decide +kernel, rfl, by decide +kernel, by decide +kernel⟩
abbrev s_is_whole : Stmt := (topS 13)
theorem sc_is_whole : FnScope ["store", "change"] ["store"] (defScope s_is_whole) := ⟨rfl, rfl, rfl, by decide +kernel, rfl, by decide +kernel, by decide +kernel⟩
abbrev s_mix : Stmt := (topS 15)
theorem sc_mix : FnScope ["_law_cell", "_law_k", "_law_value"] ["_law_cell", "_law_k"] (defScope s_mix) := ⟨rfl, rfl, rfl, by decide +kernel, rfl, by decide +kernel, by decide +kernel⟩
abbrev s_draws : Stmt := (topS 16)
theorem sc_draws : FnScope ["_law_script", "_law_draws_here", "_law_k", "_law_cell", "_law_place"] ["_law_script"] (defScope s_draws) := ⟨rfl, rfl, rfl, by decide +kernel, rfl, by decide +kernel, by decide +kernel⟩
abbrev s_at : Stmt := (topS 17)
theorem sc_at : FnScope ["_law_draws_here", "_law_index"] ["_law_draws_here", "_law_index"] (defScope s_at) := ⟨rfl, rfl, rfl, by decide +kernel, rfl, by decide +kernel, by decide +kernel⟩
abbrev s_told : Stmt := (topS 18)
theorem sc_told : FnScope ["_law_draws_here", "_law_members", "_law_seen", "_law_k", "_law_rows", "_law_author", "_law_partner", "_law_j"] ["_law_draws_here"] (defScope s_told) := ⟨rfl, rfl, rfl, by decide +kernel, rfl, by decide +kernel, by decide +kernel⟩
abbrev s_cut : Stmt := (topS 19)
theorem sc_cut : FnScope ["_law_draws_here", "_law_members", "_law_rows", "_law_row", "_law_cut_here", "_law_k"] ["_law_draws_here", "_law_members", "_law_rows"] (defScope s_cut) := ⟨rfl, rfl, rfl, by decide +kernel, rfl, by decide +kernel, by decide +kernel⟩
abbrev s_spoil : Stmt := (topS 20)
theorem sc_spoil : FnScope ["_law_draws_here", "_law_members", "_law_rows", "_law_fault", "_law_row", "_law_member"] ["_law_draws_here", "_law_members", "_law_rows"] (defScope s_spoil) := ⟨rfl, rfl, rfl, by decide +kernel, rfl, by decide +kernel, by decide +kernel⟩
abbrev s_lis_sound : Stmt := (topS 21)
theorem sc_lis_sound : FnScope ["_law_members", "_law_counts", "_law_rows", "_law_row", "_law_member", "_law_other", "_law_k"] ["_law_members", "_law_counts", "_law_rows", "_law_row"] (defScope s_lis_sound) := ⟨rfl, rfl, rfl, by decide +kernel, rfl, by decide +kernel, by decide +kernel⟩
abbrev s_law : Stmt := (topS 22)
theorem sc_law : FnScope ["_law_script", "_law_draws_here", "_law_members", "_law_rows", "_law_cut_here", "_law_k", "_law_counts", "_law_row", "_law_store", "_law_expected", "_law_data", "_law_actual"] ["_law_script"] (defScope s_law) := ⟨rfl, rfl, rfl, by decide +kernel, rfl, by decide +kernel, by decide +kernel⟩
theorem bt_bool : bootBuiltins "bool" = some (.type "bool") := by decide +kernel
theorem bt_int : bootBuiltins "int" = some (.type "int") := by decide +kernel
theorem bt_isinstance : bootBuiltins "isinstance" = some (.builtin "isinstance") := by decide +kernel
theorem bt_len : bootBuiltins "len" = some (.builtin "len") := by decide +kernel
theorem bt_list : bootBuiltins "list" = some (.type "list") := by decide +kernel
theorem bt_max : bootBuiltins "max" = some (.builtin "max") := by decide +kernel
theorem bt_min : bootBuiltins "min" = some (.builtin "min") := by decide +kernel
theorem bt_range : bootBuiltins "range" = some (.type "range") := by decide +kernel
theorem bt_sorted : bootBuiltins "sorted" = some (.builtin "sorted") := by decide +kernel
theorem bt_sum : bootBuiltins "sum" = some (.builtin "sum") := by decide +kernel
theorem bt_tuple : bootBuiltins "tuple" = some (.type "tuple") := by decide +kernel
structure Txt (K : PySem.W.Frag) (mg : Str → Option Value) where
  c_Change : Addr
  cl_Change : Cls K c_Change
  g_Change : mg "Change" = some (.ref c_Change)
  n_Change_author : NoAttr K c_Change "author"
  n_Change_capability : NoAttr K c_Change "capability"
  n_Change_heard : NoAttr K c_Change "heard"
  n_Change_number : NoAttr K c_Change "number"
  n_Change_parts : NoAttr K c_Change "parts"
  n_Change_publics : NoAttr K c_Change "publics"
  c_Kept : Addr
  cl_Kept : Cls K c_Kept
  g_Kept : mg "Kept" = some (.ref c_Kept)
  n_Kept_acts : NoAttr K c_Kept "acts"
  n_Kept_sums : NoAttr K c_Kept "sums"
  n_Kept_texts : NoAttr K c_Kept "texts"
  c_Store : Addr
  cl_Store : Cls K c_Store
  g_Store : mg "Store" = some (.ref c_Store)
  n_Store_capabilities : NoAttr K c_Store "capabilities"
  n_Store_changes : NoAttr K c_Store "changes"
  n_Store_cut : NoAttr K c_Store "cut"
  n_Store_kept : NoAttr K c_Store "kept"
  n_Store_members : NoAttr K c_Store "members"
  a_as_tuple : Addr
  d_as_tuple : FuncData
  F_as_tuple : Fun K "_as_tuple" "_as_tuple" s_as_tuple a_as_tuple d_as_tuple
  b_as_tuple : Binds K d_as_tuple ["part"] []
  g_as_tuple : mg "_as_tuple" = some (.ref a_as_tuple)
  a_Change_init : Addr
  d_Change_init : FuncData
  F_Change_init : Fun K "__init__" "Change.__init__" s_Change_init a_Change_init d_Change_init
  b_Change_init : Binds K d_Change_init ["self", "author", "number", "heard", "capability", "publics", "parts"] []
  M_Change : Mk K c_Change a_Change_init
  a_Change_header : Addr
  d_Change_header : FuncData
  F_Change_header : Fun K "header" "Change.header" s_Change_header a_Change_header d_Change_header
  b_Change_header : Binds K d_Change_header ["self"] []
  m_Change_header : Meth K c_Change "header" a_Change_header
  a_order_key : Addr
  d_order_key : FuncData
  F_order_key : Fun K "order_key" "order_key" s_order_key a_order_key d_order_key
  b_order_key : Binds K d_order_key ["change"] []
  g_order_key : mg "order_key" = some (.ref a_order_key)
  a_in_order : Addr
  d_in_order : FuncData
  F_in_order : Fun K "in_order" "in_order" s_in_order a_in_order d_in_order
  b_in_order : Binds K d_in_order ["changes"] []
  g_in_order : mg "in_order" = some (.ref a_in_order)
  a_Kept_init : Addr
  d_Kept_init : FuncData
  F_Kept_init : Fun K "__init__" "Kept.__init__" s_Kept_init a_Kept_init d_Kept_init
  b_Kept_init : Binds K d_Kept_init ["self", "acts", "sums", "texts"] []
  M_Kept : Mk K c_Kept a_Kept_init
  a_Kept_data : Addr
  d_Kept_data : FuncData
  F_Kept_data : Fun K "data" "Kept.data" s_Kept_data a_Kept_data d_Kept_data
  b_Kept_data : Binds K d_Kept_data ["self"] []
  m_Kept_data : Meth K c_Kept "data" a_Kept_data
  a_Store_init : Addr
  d_Store_init : FuncData
  F_Store_init : Fun K "__init__" "Store.__init__" s_Store_init a_Store_init d_Store_init
  b_Store_init : Binds K d_Store_init ["self", "members"] []
  M_Store : Mk K c_Store a_Store_init
  a_Store_count : Addr
  d_Store_count : FuncData
  F_Store_count : Fun K "count" "Store.count" s_Store_count a_Store_count d_Store_count
  b_Store_count : Binds K d_Store_count ["self", "member"] []
  m_Store_count : Meth K c_Store "count" a_Store_count
  a_Store_find : Addr
  d_Store_find : FuncData
  F_Store_find : Fun K "find" "Store.find" s_Store_find a_Store_find d_Store_find
  b_Store_find : Binds K d_Store_find ["self", "name"] []
  m_Store_find : Meth K c_Store "find" a_Store_find
  a_Store_all_changes : Addr
  d_Store_all_changes : FuncData
  F_Store_all_changes : Fun K "all_changes" "Store.all_changes" s_Store_all_changes a_Store_all_changes d_Store_all_changes
  b_Store_all_changes : Binds K d_Store_all_changes ["self"] []
  m_Store_all_changes : Meth K c_Store "all_changes" a_Store_all_changes
  a_Store_add : Addr
  d_Store_add : FuncData
  F_Store_add : Fun K "add" "Store.add" s_Store_add a_Store_add d_Store_add
  b_Store_add : Binds K d_Store_add ["self", "change"] []
  m_Store_add : Meth K c_Store "add" a_Store_add
  a_Store_data : Addr
  d_Store_data : FuncData
  F_Store_data : Fun K "data" "Store.data" s_Store_data a_Store_data d_Store_data
  b_Store_data : Binds K d_Store_data ["self"] []
  m_Store_data : Meth K c_Store "data" a_Store_data
  a_kept_data : Addr
  d_kept_data : FuncData
  F_kept_data : Fun K "_kept_data" "_kept_data" s_kept_data a_kept_data d_kept_data
  b_kept_data : Binds K d_kept_data ["kept"] []
  g_kept_data : mg "_kept_data" = some (.ref a_kept_data)
  a_covers : Addr
  d_covers : FuncData
  F_covers : Fun K "_covers" "_covers" s_covers a_covers d_covers
  b_covers : Binds K d_covers ["change", "last"] []
  g_covers : mg "_covers" = some (.ref a_covers)
  a_is_sound : Addr
  d_is_sound : FuncData
  F_is_sound : Fun K "_is_sound" "_is_sound" s_is_sound a_is_sound d_is_sound
  b_is_sound : Binds K d_is_sound ["store", "change"] []
  g_is_sound : mg "_is_sound" = some (.ref a_is_sound)
  a_is_whole : Addr
  d_is_whole : FuncData
  F_is_whole : Fun K "is_whole" "is_whole" s_is_whole a_is_whole d_is_whole
  b_is_whole : Binds K d_is_whole ["store"] []
  g_is_whole : mg "is_whole" = some (.ref a_is_whole)
  a_mix : Addr
  d_mix : FuncData
  F_mix : Fun K "_law_mix" "_law_mix" s_mix a_mix d_mix
  b_mix : Binds K d_mix ["_law_cell", "_law_k"] []
  g_mix : mg "_law_mix" = some (.ref a_mix)
  a_draws : Addr
  d_draws : FuncData
  F_draws : Fun K "_law_draws" "_law_draws" s_draws a_draws d_draws
  b_draws : Binds K d_draws ["_law_script"] []
  g_draws : mg "_law_draws" = some (.ref a_draws)
  a_at : Addr
  d_at : FuncData
  F_at : Fun K "_law_at" "_law_at" s_at a_at d_at
  b_at : Binds K d_at ["_law_draws_here", "_law_index"] []
  g_at : mg "_law_at" = some (.ref a_at)
  a_told : Addr
  d_told : FuncData
  F_told : Fun K "_law_told" "_law_told" s_told a_told d_told
  b_told : Binds K d_told ["_law_draws_here"] []
  g_told : mg "_law_told" = some (.ref a_told)
  a_cut : Addr
  d_cut : FuncData
  F_cut : Fun K "_law_cut" "_law_cut" s_cut a_cut d_cut
  b_cut : Binds K d_cut ["_law_draws_here", "_law_members", "_law_rows"] []
  g_cut : mg "_law_cut" = some (.ref a_cut)
  a_spoil : Addr
  d_spoil : FuncData
  F_spoil : Fun K "_law_spoil" "_law_spoil" s_spoil a_spoil d_spoil
  b_spoil : Binds K d_spoil ["_law_draws_here", "_law_members", "_law_rows"] []
  g_spoil : mg "_law_spoil" = some (.ref a_spoil)
  a_lis_sound : Addr
  d_lis_sound : FuncData
  F_lis_sound : Fun K "_law_is_sound" "_law_is_sound" s_lis_sound a_lis_sound d_lis_sound
  b_lis_sound : Binds K d_lis_sound ["_law_members", "_law_counts", "_law_rows", "_law_row"] []
  g_lis_sound : mg "_law_is_sound" = some (.ref a_lis_sound)
  a_law : Addr
  d_law : FuncData
  F_law : Fun K "law" "law" s_law a_law d_law
  b_law : Binds K d_law ["_law_script"] []
  g_law : mg "law" = some (.ref a_law)
  z_bool : mg "bool" = none
  z_int : mg "int" = none
  z_isinstance : mg "isinstance" = none
  z_len : mg "len" = none
  z_list : mg "list" = none
  z_max : mg "max" = none
  z_min : mg "min" = none
  z_range : mg "range" = none
  z_sorted : mg "sorted" = none
  z_sum : mg "sum" = none
  z_tuple : mg "tuple" = none
  v_SPACES : V
  u_SPACES : Value
  g_SPACES : mg "SPACES" = some u_SPACES
  r_SPACES : RelV v_SPACES u_SPACES
  q_SPACES : ∀ (F : Hp) (cl : Nat → Addr), Rp K cl F Kb.u_SPACES v_SPACES
def Txt.cl {K : PySem.W.Frag} {mg : Str → Option Value} (T : Txt K mg) : Nat → Addr
  | 0 => T.c_Change
  | 1 => T.c_Kept
  | 2 => T.c_Store
  | _ => 0
section
variable {P : Program} {w : World} {K : PySem.W.Frag} {mg : Str → Option Value} {base : Heap}
theorem ok_as_tuple (T : Txt K mg) : FnOk P w K mg base CX0 1 T.a_as_tuple T.d_as_tuple ["part"] (spOf K T.cl m_as_tuple) :=
  fn_ok T.F_as_tuple sc_as_tuple fun cdv A outer s H E hr => (s_cons (s_if (t_cmp d_is o_is (k_var 0) k_non (nomark _))
      (s_one (s_ret k_non))
      s_nil)
    (s_one (s_ret (k_callT d_tuple c_tuple (by rfl) T.z_tuple bt_tuple (a_cons (k_var 0) a_nil)))))
theorem ok_Change_init (T : Txt K mg) : FnOk P w K mg base CX0 2 T.a_Change_init T.d_Change_init ["self", "author", "number", "heard", "capability", "publics", "parts"] (spOf K T.cl m_Change_init) :=
  fnL_ok T.F_Change_init sc_Change_init fun cdv A outer s H E hr => (s_cons (s_fld (cs_cons ⟨T.cl_Change, T.n_Change_author⟩ cs_nil) (k_var 0) (k_var 1))
    (s_cons (s_fld (cs_cons ⟨T.cl_Change, T.n_Change_number⟩ cs_nil) (k_var 0) (k_var 2))
    (s_cons (s_fld (cs_cons ⟨T.cl_Change, T.n_Change_heard⟩ cs_nil) (k_var 0) (k_callT d_tuple c_tuple (by rfl) T.z_tuple bt_tuple (a_cons (k_var 3) a_nil)))
    (s_cons (s_fld (cs_cons ⟨T.cl_Change, T.n_Change_capability⟩ cs_nil) (k_var 0) (k_var 4))
    (s_cons (s_fld (cs_cons ⟨T.cl_Change, T.n_Change_publics⟩ cs_nil) (k_var 0) (k_callT d_tuple c_tuple (by rfl) T.z_tuple bt_tuple (a_cons (k_var 5) a_nil)))
    (s_one (s_fld (cs_cons ⟨T.cl_Change, T.n_Change_parts⟩ cs_nil) (k_var 0) (k_callT d_tuple c_tuple (by rfl) T.z_tuple bt_tuple (a_cons (k_comp (own := [("part", 7)]) (live := false) rfl sc_Change_init.nd (pi_any (k_var 6)) (blkOk_by (own := [("part", 7)]) (N := ["self", "author", "number", "heard", "capability", "publics", "parts", "part"]) (sc := defScope s_Change_init) (by decide +kernel)) (fun _ _ _ _ _ => (g_name (i := 7) sc_Change_init.nd rfl (.inl rfl))) (fun _ _ _ _ _ => ts_nil) (fun _ _ _ _ _ => (k_call (ok_as_tuple T) (hr.mono (by first | decide | omega)) (by rfl) T.g_as_tuple T.F_as_tuple.kp T.b_as_tuple pass0 (a_cons (k_var 7) a_nil)))) a_nil)))))))))
theorem ok_Change_header (T : Txt K mg) : FnOk P w K mg base CX0 1 T.a_Change_header T.d_Change_header ["self"] (spOf K T.cl m_Change_header) :=
  fn_ok T.F_Change_header sc_Change_header fun cdv A outer s H E hr => (s_one (s_ret (k_tup (a_cons (k_fld (cs_cons ⟨T.cl_Change, T.n_Change_author⟩ cs_nil) (k_var 0)) (a_cons (k_fld (cs_cons ⟨T.cl_Change, T.n_Change_number⟩ cs_nil) (k_var 0)) (a_cons (k_fld (cs_cons ⟨T.cl_Change, T.n_Change_heard⟩ cs_nil) (k_var 0)) (a_cons (k_fld (cs_cons ⟨T.cl_Change, T.n_Change_capability⟩ cs_nil) (k_var 0)) (a_cons (k_fld (cs_cons ⟨T.cl_Change, T.n_Change_publics⟩ cs_nil) (k_var 0)) a_nil))))))))
theorem ok_order_key (T : Txt K mg) : FnOk P w K mg base CX0 1 T.a_order_key T.d_order_key ["change"] (spOf K T.cl m_order_key) :=
  fn_ok T.F_order_key sc_order_key fun cdv A outer s H E hr => (s_one (s_ret (k_tup (a_cons (k_callB d_sum (c_sum rfl) (by rfl) T.z_sum bt_sum (a_cons (k_fld (cs_cons ⟨T.cl_Change, T.n_Change_heard⟩ cs_nil) (k_var 0)) a_nil)) (a_cons (k_fld (cs_cons ⟨T.cl_Change, T.n_Change_author⟩ cs_nil) (k_var 0)) (a_cons (k_fld (cs_cons ⟨T.cl_Change, T.n_Change_number⟩ cs_nil) (k_var 0)) a_nil))))))
theorem ok_in_order (T : Txt K mg) : FnOk P w K mg base CX0 4 T.a_in_order T.d_in_order ["changes"] (spOf K T.cl m_in_order) :=
  fn_ok T.F_in_order sc_in_order fun cdv A outer s H E hr => (s_one (s_ret (k_sortK (live := false) (ok_order_key T) (hr.mono (by first | decide | omega)) (by rfl) T.z_sorted bt_sorted (by rfl) T.g_order_key T.b_order_key (k_var 0))))
theorem ok_Kept_init (T : Txt K mg) : FnOk P w K mg base CX0 1 T.a_Kept_init T.d_Kept_init ["self", "acts", "sums", "texts"] (spOf K T.cl m_Kept_init) :=
  fnL_ok T.F_Kept_init sc_Kept_init fun cdv A outer s H E hr => (s_cons (s_fld (cs_cons ⟨T.cl_Kept, T.n_Kept_acts⟩ cs_nil) (k_var 0) (k_comp (own := [("spot", 4), ("act", 5)]) (live := false) rfl sc_Kept_init.nd (pi_any (k_var 1)) (blkOk_by (own := [("spot", 4), ("act", 5)]) (N := ["self", "acts", "sums", "texts", "spot", "act", "cell", "total", "characters", "mark", "char"]) (sc := defScope s_Kept_init) (by decide +kernel)) (fun _ _ _ _ _ => (g_tup rfl (gs_cons (g_name (i := 4) sc_Kept_init.nd rfl (.inl rfl)) (gs_cons (g_name (i := 5) sc_Kept_init.nd rfl (.inl rfl)) gs_nil)))) (fun _ _ _ _ _ => ts_nil) (fun _ _ _ _ _ => (k_tup (a_cons (k_var 4) (a_cons (k_var 5) a_nil))))))
    (s_cons (s_fld (cs_cons ⟨T.cl_Kept, T.n_Kept_sums⟩ cs_nil) (k_var 0) (k_comp (own := [("cell", 6), ("total", 7)]) (live := false) rfl sc_Kept_init.nd (pi_any (k_var 2)) (blkOk_by (own := [("cell", 6), ("total", 7)]) (N := ["self", "acts", "sums", "texts", "spot", "act", "cell", "total", "characters", "mark", "char"]) (sc := defScope s_Kept_init) (by decide +kernel)) (fun _ _ _ _ _ => (g_tup rfl (gs_cons (g_name (i := 6) sc_Kept_init.nd rfl (.inl rfl)) (gs_cons (g_name (i := 7) sc_Kept_init.nd rfl (.inl rfl)) gs_nil)))) (fun _ _ _ _ _ => ts_nil) (fun _ _ _ _ _ => (k_tup (a_cons (k_var 6) (a_cons (k_var 7) a_nil))))))
    (s_one (s_fld (cs_cons ⟨T.cl_Kept, T.n_Kept_texts⟩ cs_nil) (k_var 0) (k_comp (own := [("cell", 6), ("characters", 8)]) (live := false) rfl sc_Kept_init.nd (pi_any (k_var 3)) (blkOk_by (own := [("cell", 6), ("characters", 8)]) (N := ["self", "acts", "sums", "texts", "spot", "act", "cell", "total", "characters", "mark", "char"]) (sc := defScope s_Kept_init) (by decide +kernel)) (fun _ _ _ _ _ => (g_tup rfl (gs_cons (g_name (i := 6) sc_Kept_init.nd rfl (.inl rfl)) (gs_cons (g_name (i := 8) sc_Kept_init.nd rfl (.inl rfl)) gs_nil)))) (fun _ _ _ _ _ => ts_nil) (fun _ _ _ _ _ => (k_tup (a_cons (k_var 6) (a_cons (k_comp (own := [("mark", 9), ("char", 10)]) (live := false) rfl sc_Kept_init.nd (pi_any (k_var 8)) (blkOk_by (own := [("mark", 9), ("char", 10)]) (N := ["self", "acts", "sums", "texts", "spot", "act", "cell", "total", "characters", "mark", "char"]) (sc := ({ kind := .function, names := [(PySem.Str.ofString ".0", .local), (PySem.Str.ofString "cell", .local), (PySem.Str.ofString "characters", .local)], isGenerator := false, isCoroutine := false } : Scope)) (by decide +kernel)) (fun _ _ _ _ _ => (g_tup rfl (gs_cons (g_name (i := 9) sc_Kept_init.nd rfl (.inl rfl)) (gs_cons (g_name (i := 10) sc_Kept_init.nd rfl (.inl rfl)) gs_nil)))) (fun _ _ _ _ _ => ts_nil) (fun _ _ _ _ _ => (k_tup (a_cons (k_var 9) (a_cons (k_var 10) a_nil))))) a_nil)))))))))
theorem ok_Kept_data (T : Txt K mg) : FnOk P w K mg base CX0 1 T.a_Kept_data T.d_Kept_data ["self"] (spOf K T.cl m_Kept_data) :=
  fn_ok T.F_Kept_data sc_Kept_data fun cdv A outer s H E hr => (s_cons (s_setComp (i := 1) (own := [("cell", 2), ("characters", 3)]) (live := false) rfl sc_Kept_data.nd rfl rfl (sw_true rfl rfl rfl (by decide +kernel)) (pi_any (k_fld (cs_cons ⟨T.cl_Kept, T.n_Kept_texts⟩ cs_nil) (k_var 0))) (blkOk_by (own := [("cell", 2), ("characters", 3)]) (N := ["self", "texts", "cell", "characters"]) (sc := defScope s_Kept_data) (by decide +kernel)) (fun _ _ _ _ _ => (g_tup rfl (gs_cons (g_name (i := 2) sc_Kept_data.nd rfl (.inl rfl)) (gs_cons (g_name (i := 3) sc_Kept_data.nd rfl (.inl rfl)) gs_nil)))) (fun _ _ _ _ _ => ts_nil) (fun _ _ _ _ _ => (k_tup (a_cons (k_var 2) (a_cons (k_callT d_tuple c_tuple (by rfl) T.z_tuple bt_tuple (a_cons (k_var 3) a_nil)) a_nil)))))
    (s_one (s_ret (k_tup (a_cons (k_callT d_tuple c_tuple (by rfl) T.z_tuple bt_tuple (a_cons (k_fld (cs_cons ⟨T.cl_Kept, T.n_Kept_acts⟩ cs_nil) (k_var 0)) a_nil)) (a_cons (k_callT d_tuple c_tuple (by rfl) T.z_tuple bt_tuple (a_cons (k_fld (cs_cons ⟨T.cl_Kept, T.n_Kept_sums⟩ cs_nil) (k_var 0)) a_nil)) (a_cons (k_callT d_tuple c_tuple (by rfl) T.z_tuple bt_tuple (a_cons (k_var 1) a_nil)) a_nil)))))))
theorem ok_Store_init (T : Txt K mg) : FnOk P w K mg base CX0 4 T.a_Store_init T.d_Store_init ["self", "members"] (spOf K T.cl m_Store_init) :=
  fnL_ok T.F_Store_init sc_Store_init fun cdv A outer s H E hr => (s_cons (s_fld (cs_cons ⟨T.cl_Store, T.n_Store_members⟩ cs_nil) (k_var 0) (k_var 1))
    (s_cons (s_fld (cs_cons ⟨T.cl_Store, T.n_Store_cut⟩ cs_nil) (k_var 0) (k_comp (own := [("_", 2)]) (live := true) rfl sc_Store_init.nd (pi_rng1 (by rfl) T.z_range (a_cons (k_var 1) a_nil)) (blkOk_by (own := [("_", 2)]) (N := ["self", "members", "_"]) (sc := defScope s_Store_init) (by decide +kernel)) (fun _ _ _ _ _ => (g_name (i := 2) sc_Store_init.nd rfl (.inl rfl))) (fun _ _ _ _ _ => ts_nil) (fun _ _ _ _ _ => k_int)))
    (s_cons (s_fld (cs_cons ⟨T.cl_Store, T.n_Store_capabilities⟩ cs_nil) (k_var 0) (k_lst (live := false) a_nil))
    (s_cons (s_fld (cs_cons ⟨T.cl_Store, T.n_Store_kept⟩ cs_nil) (k_var 0) (k_comp (own := [("_", 2)]) (live := false) rfl sc_Store_init.nd (pi_rng1 (by rfl) T.z_range (a_cons (k_glob (by rfl) T.g_SPACES T.r_SPACES (fun F => T.q_SPACES F T.cl)) a_nil)) (blkOk_by (own := [("_", 2)]) (N := ["self", "members", "_"]) (sc := defScope s_Store_init) (by decide +kernel)) (fun _ _ _ _ _ => (g_name (i := 2) sc_Store_init.nd rfl (.inl rfl))) (fun _ _ _ _ _ => ts_nil) (fun _ _ _ _ _ => (k_make (live := false) (c := 1) T.M_Kept (ok_Kept_init T) (hr.mono (by first | decide | omega)) (by rfl) T.g_Kept T.b_Kept_init pass0 (a_cons (k_lst (live := false) a_nil) (a_cons (k_lst (live := false) a_nil) (a_cons (k_lst (live := false) a_nil) a_nil)))))))
    (s_one (s_fld (cs_cons ⟨T.cl_Store, T.n_Store_changes⟩ cs_nil) (k_var 0) (k_comp (own := [("_", 2)]) (live := true) rfl sc_Store_init.nd (pi_rng1 (by rfl) T.z_range (a_cons (k_var 1) a_nil)) (blkOk_by (own := [("_", 2)]) (N := ["self", "members", "_"]) (sc := defScope s_Store_init) (by decide +kernel)) (fun _ _ _ _ _ => (g_name (i := 2) sc_Store_init.nd rfl (.inl rfl))) (fun _ _ _ _ _ => ts_nil) (fun _ _ _ _ _ => (k_lst (live := true) a_nil)))))))))
theorem ok_Store_count (T : Txt K mg) : FnOk P w K mg base CX0 1 T.a_Store_count T.d_Store_count ["self", "member"] (spOf K T.cl m_Store_count) :=
  fn_ok T.F_Store_count sc_Store_count fun cdv A outer s H E hr => (s_one (s_ret (k_op d_add o_add (k_ix (k_fld (cs_cons ⟨T.cl_Store, T.n_Store_cut⟩ cs_nil) (k_var 0)) (k_var 1)) (k_callB d_len c_len (by rfl) T.z_len bt_len (a_cons (k_ix (k_fld (cs_cons ⟨T.cl_Store, T.n_Store_changes⟩ cs_nil) (k_var 0)) (k_var 1)) a_nil)))))
theorem ok_Store_find (T : Txt K mg) : FnOk P w K mg base CX0 1 T.a_Store_find T.d_Store_find ["self", "name"] (spOf K T.cl m_Store_find) :=
  fn_ok T.F_Store_find sc_Store_find fun cdv A outer s H E hr => (s_cons (s_asg (k_var 1) (g_tup rfl (gs_cons (g_name (i := 2) sc_Store_find.nd rfl (.inl rfl)) (gs_cons (g_name (i := 3) sc_Store_find.nd rfl (.inl rfl)) gs_nil))))
    (s_cons (s_if (t_not (t_chain d_le d_lt op_le op_lt k_int (k_var 2) (k_fld (cs_cons ⟨T.cl_Store, T.n_Store_members⟩ cs_nil) (k_var 0))))
      (s_one (s_ret k_non))
      s_nil)
    (s_cons (s_set (i := 4) sc_Store_find.nd rfl (.inl rfl) (k_op d_sub op_sub (k_op d_sub op_sub (k_var 3) (k_ix (k_fld (cs_cons ⟨T.cl_Store, T.n_Store_cut⟩ cs_nil) (k_var 0)) (k_var 2))) k_int))
    (s_cons (s_if (t_chain d_le d_lt op_le op_lt k_int (k_var 4) (k_callB d_len c_len (by rfl) T.z_len bt_len (a_cons (k_ix (k_fld (cs_cons ⟨T.cl_Store, T.n_Store_changes⟩ cs_nil) (k_var 0)) (k_var 2)) a_nil)))
      (s_one (s_ret (k_ix (k_ix (k_fld (cs_cons ⟨T.cl_Store, T.n_Store_changes⟩ cs_nil) (k_var 0)) (k_var 2)) (k_var 4))))
      s_nil)
    (s_one (s_ret k_non))))))
theorem ok_Store_all_changes (T : Txt K mg) : FnOk P w K mg base CX0 5 T.a_Store_all_changes T.d_Store_all_changes ["self"] (spOf K T.cl m_Store_all_changes) :=
  fn_ok T.F_Store_all_changes sc_Store_all_changes fun cdv A outer s H E hr => (s_one (s_ret (k_call (ok_in_order T) (hr.mono (by first | decide | omega)) (by rfl) T.g_in_order T.F_in_order.kp T.b_in_order pass0 (a_cons (k_comp2 (own := [("changes", 1), ("change", 2)]) (live := false) (ws1 := [2]) rfl sc_Store_all_changes.nd (pi_any (k_fld (cs_cons ⟨T.cl_Store, T.n_Store_changes⟩ cs_nil) (k_var 0))) (blkOk_by (own := [("changes", 1), ("change", 2)]) (N := ["self", "changes", "change"]) (sc := defScope s_Store_all_changes) (by decide +kernel)) (fun _ _ _ _ _ => (g_name (i := 1) sc_Store_all_changes.nd rfl (.inl rfl))) (fun _ _ _ _ _ => ts_nil) (fun _ _ _ _ _ => (pi_any (k_var 1))) (fun _ _ _ _ _ => (g_name (i := 2) sc_Store_all_changes.nd rfl (.inl rfl))) (fun _ _ _ _ _ => ts_nil) (fun _ _ _ _ _ => (k_var 2))) a_nil))))
theorem ok_Store_add (T : Txt K mg) : FnOk P w K mg base CX0 1 T.a_Store_add T.d_Store_add ["self", "change"] (spOf K T.cl m_Store_add) :=
  fn_ok T.F_Store_add sc_Store_add fun cdv A outer s H E hr => (s_one (s_drop (k_bm d_app PySem.F.plainAttrs_list PySem.F.slot_list_append PySem.F.type_list_append mt_append (k_ix (k_fld (cs_cons ⟨T.cl_Store, T.n_Store_changes⟩ cs_nil) (k_var 0)) (k_fld (cs_cons ⟨T.cl_Change, T.n_Change_author⟩ cs_nil) (k_var 1))) (a_cons (k_var 1) a_nil))))
theorem ok_kept_data (T : Txt K mg) : FnOk P w K mg base CX0 2 T.a_kept_data T.d_kept_data ["kept"] (spOf K T.cl m_kept_data) :=
  fn_ok T.F_kept_data sc_kept_data fun cdv A outer s H E hr => (s_cons (s_if (t_cmp d_is o_is (k_var 0) k_non (nomark _))
      (s_one (s_ret k_non))
      s_nil)
    (s_one (s_ret (k_meth0 (c := 1) (k_var 0) T.cl_Kept T.m_Kept_data (ok_Kept_data T) (hr.mono (by first | decide | omega)) T.b_Kept_data pass0))))
theorem ok_Store_data (T : Txt K mg) : FnOk P w K mg base CX0 3 T.a_Store_data T.d_Store_data ["self"] (spOf K T.cl m_Store_data) :=
  fn_ok T.F_Store_data sc_Store_data fun cdv A outer s H E hr => (s_cons (s_setComp (i := 1) (own := [("each", 3)]) (live := false) rfl sc_Store_data.nd rfl rfl (sw_true rfl rfl rfl (by decide +kernel)) (pi_any (k_fld (cs_cons ⟨T.cl_Store, T.n_Store_kept⟩ cs_nil) (k_var 0))) (blkOk_by (own := [("each", 3)]) (N := ["self", "kept", "changes", "each", "change"]) (sc := defScope s_Store_data) (by decide +kernel)) (fun _ _ _ _ _ => (g_name (i := 3) sc_Store_data.nd rfl (.inl rfl))) (fun _ _ _ _ _ => ts_nil) (fun _ _ _ _ _ => (k_call (ok_kept_data T) (hr.mono (by first | decide | omega)) (by rfl) T.g_kept_data T.F_kept_data.kp T.b_kept_data pass0 (a_cons (k_var 3) a_nil))))
    (s_cons (s_setComp (i := 2) (own := [("each", 3)]) (live := false) rfl sc_Store_data.nd rfl rfl (sw_true rfl rfl rfl (by decide +kernel)) (pi_any (k_fld (cs_cons ⟨T.cl_Store, T.n_Store_changes⟩ cs_nil) (k_var 0))) (blkOk_by (own := [("each", 3)]) (N := ["self", "kept", "changes", "each", "change"]) (sc := defScope s_Store_data) (by decide +kernel)) (fun _ _ _ _ _ => (g_name (i := 3) sc_Store_data.nd rfl (.inl rfl))) (fun _ _ _ _ _ => ts_nil) (fun _ _ _ _ _ => (k_callT d_tuple c_tuple (by rfl) T.z_tuple bt_tuple (a_cons (k_comp (own := [("change", 4)]) (live := false) rfl sc_Store_data.nd (pi_any (k_var 3)) (blkOk_by (own := [("change", 4)]) (N := ["self", "kept", "changes", "each", "change"]) (sc := ({ kind := .function, names := [(PySem.Str.ofString ".0", .local), (PySem.Str.ofString "each", .local), (PySem.Str.ofString "tuple", .globalImplicit)], isGenerator := false, isCoroutine := false } : Scope)) (by decide +kernel)) (fun _ _ _ _ _ => (g_name (i := 4) sc_Store_data.nd rfl (.inl rfl))) (fun _ _ _ _ _ => ts_nil) (fun _ _ _ _ _ => (k_op d_add o_add (k_meth0 (c := 0) (k_var 4) T.cl_Change T.m_Change_header (ok_Change_header T) (hr.mono (by first | decide | omega)) T.b_Change_header pass0) (k_tup (a_cons (k_fld (cs_cons ⟨T.cl_Change, T.n_Change_parts⟩ cs_nil) (k_var 4)) a_nil))))) a_nil))))
    (s_one (s_ret (k_tup (a_cons (k_callT d_tuple c_tuple (by rfl) T.z_tuple bt_tuple (a_cons (k_fld (cs_cons ⟨T.cl_Store, T.n_Store_cut⟩ cs_nil) (k_var 0)) a_nil)) (a_cons (k_callT d_tuple c_tuple (by rfl) T.z_tuple bt_tuple (a_cons (k_fld (cs_cons ⟨T.cl_Store, T.n_Store_capabilities⟩ cs_nil) (k_var 0)) a_nil)) (a_cons (k_callT d_tuple c_tuple (by rfl) T.z_tuple bt_tuple (a_cons (k_var 1) a_nil)) (a_cons (k_callT d_tuple c_tuple (by rfl) T.z_tuple bt_tuple (a_cons (k_var 2) a_nil)) a_nil)))))))))
theorem ok_covers (T : Txt K mg) : FnOk P w K mg base CX0 1 T.a_covers T.d_covers ["change", "last"] (spOf K T.cl m_covers) :=
  fn_ok T.F_covers sc_covers fun cdv A outer s H E hr => (s_cons (s_if (t_cmp d_eq (o_ne hr.units) (k_callB d_len c_len (by rfl) T.z_len bt_len (a_cons (k_fld (cs_cons ⟨T.cl_Change, T.n_Change_heard⟩ cs_nil) (k_var 1)) a_nil)) (k_callB d_len c_len (by rfl) T.z_len bt_len (a_cons (k_fld (cs_cons ⟨T.cl_Change, T.n_Change_heard⟩ cs_nil) (k_var 0)) a_nil)) (nomark _))
      (s_one (s_ret k_bl))
      s_nil)
    (s_cons (s_for PassesOwn.never rfl (pi_rng1 (by rfl) T.z_range (a_cons (k_callB d_len c_len (by rfl) T.z_len bt_len (a_cons (k_fld (cs_cons ⟨T.cl_Change, T.n_Change_heard⟩ cs_nil) (k_var 0)) a_nil)) a_nil)) (g_name (i := 2) sc_covers.nd rfl (.inl rfl))
      (s_one (s_if (t_cmp d_gt op_gt (k_ix (k_fld (cs_cons ⟨T.cl_Change, T.n_Change_heard⟩ cs_nil) (k_var 1)) (k_var 2)) (k_ix (k_fld (cs_cons ⟨T.cl_Change, T.n_Change_heard⟩ cs_nil) (k_var 0)) (k_var 2)) (nomark _))
      (s_one (s_ret k_bl))
      s_nil)))
    (s_one (s_ret k_bl))))
theorem ok_is_sound (T : Txt K mg) : FnOk P w K mg base CX0 2 T.a_is_sound T.d_is_sound ["store", "change"] (spOf K T.cl m_is_sound) :=
  fn_ok T.F_is_sound sc_is_sound fun cdv A outer s H E hr => (s_cons (s_if (PW.pt (w_or (t_cmp d_eq (o_ne hr.units) (k_callB d_len c_len (by rfl) T.z_len bt_len (a_cons (k_fld (cs_cons ⟨T.cl_Change, T.n_Change_heard⟩ cs_nil) (k_var 1)) a_nil)) (k_fld (cs_cons ⟨T.cl_Store, T.n_Store_members⟩ cs_nil) (k_var 0)) (nomark _)) (w_or1 (t_cmp d_eq (o_ne hr.units) (k_ix (k_fld (cs_cons ⟨T.cl_Change, T.n_Change_heard⟩ cs_nil) (k_var 1)) (k_fld (cs_cons ⟨T.cl_Change, T.n_Change_author⟩ cs_nil) (k_var 1))) (k_op d_sub op_sub (k_fld (cs_cons ⟨T.cl_Change, T.n_Change_number⟩ cs_nil) (k_var 1)) k_int) (nomark _)))))
      (s_one (s_ret k_bl))
      s_nil)
    (s_cons (s_for PassesOwn.never rfl (pi_rng1 (by rfl) T.z_range (a_cons (k_fld (cs_cons ⟨T.cl_Store, T.n_Store_members⟩ cs_nil) (k_var 0)) a_nil)) (g_name (i := 2) sc_is_sound.nd rfl (.inl rfl))
      (s_cons (s_if (t_cmp d_gt op_gt (k_ix (k_fld (cs_cons ⟨T.cl_Change, T.n_Change_heard⟩ cs_nil) (k_var 1)) (k_var 2)) (k_meth (c := 2) (k_var 0) T.cl_Store T.m_Store_count (ok_Store_count T) (hr.mono (by first | decide | omega)) T.b_Store_count pass0 (a_cons (k_var 2) a_nil)) (nomark _))
      (s_one (s_ret k_bl))
      s_nil)
    (s_cons (s_set (i := 3) sc_is_sound.nd rfl (.inl rfl) (k_meth (c := 2) (k_var 0) T.cl_Store T.m_Store_find (ok_Store_find T) (hr.mono (by first | decide | omega)) T.b_Store_find pass0 (a_cons (k_tup (a_cons (k_var 2) (a_cons (k_ix (k_fld (cs_cons ⟨T.cl_Change, T.n_Change_heard⟩ cs_nil) (k_var 1)) (k_var 2)) a_nil))) a_nil)))
    (s_one (s_if (PW.pt (w_and (t_cmp d_is o_isnot (k_var 3) k_non (nomark _)) (w_and1 (t_not (t_val (k_call (ok_covers T) (hr.mono (by first | decide | omega)) (by rfl) T.g_covers T.F_covers.kp T.b_covers pass0 (a_cons (k_var 1) (a_cons (k_var 3) a_nil))))))))
      (s_one (s_ret k_bl))
      s_nil)))))
    (s_one (s_ret k_bl))))
theorem ok_is_whole (T : Txt K mg) : FnOk P w K mg base CX0 6 T.a_is_whole T.d_is_whole ["store"] (spOf K T.cl m_is_whole) :=
  fn_ok T.F_is_whole sc_is_whole fun cdv A outer s H E hr => (s_cons (s_for PassesOwn.never rfl (pi_any (k_meth0 (c := 2) (k_var 0) T.cl_Store T.m_Store_all_changes (ok_Store_all_changes T) (hr.mono (by first | decide | omega)) T.b_Store_all_changes pass0)) (g_name (i := 1) sc_is_whole.nd rfl (.inl rfl))
      (s_one (s_if (t_not (t_val (k_call (ok_is_sound T) (hr.mono (by first | decide | omega)) (by rfl) T.g_is_sound T.F_is_sound.kp T.b_is_sound pass0 (a_cons (k_var 0) (a_cons (k_var 1) a_nil)))))
      (s_one (s_ret k_bl))
      s_nil)))
    (s_one (s_ret k_bl)))
theorem ok_mix (T : Txt K mg) : FnOk P w K mg base CX0 1 T.a_mix T.d_mix ["_law_cell", "_law_k"] (spOf K T.cl m_mix) :=
  fn_ok T.F_mix sc_mix fun cdv A outer s H E hr => (s_cons (s_set (i := 2) sc_mix.nd rfl (.inl rfl) (k_op d_mod op_mod (k_callT d_int c_int (by rfl) T.z_int bt_int (a_cons (k_op d_add o_add (k_op d_add o_add (k_op d_mul op_mulG (k_callT d_int c_int (by rfl) T.z_int bt_int (a_cons (k_var 0) a_nil)) k_int) (k_op d_mul op_mulG (k_var 1) k_int)) k_int) a_nil)) k_int))
    (s_cons (s_set (i := 2) sc_mix.nd rfl (.inl rfl) (k_op d_mod op_mod (k_callT d_int c_int (by rfl) T.z_int bt_int (a_cons (k_op d_add o_add (k_op d_add o_add (k_op d_mul op_mulG (k_var 2) (k_var 2)) (k_op d_mul op_mulG (k_var 1) k_int)) k_int) a_nil)) k_int))
    (s_one (s_ret (k_op d_mod op_mod (k_op d_div op_fdivW (k_var 2) k_int) k_int)))))
theorem ok_draws (T : Txt K mg) : FnOk P w K mg base CX0 2 T.a_draws T.d_draws ["_law_script"] (spOf K T.cl m_draws) :=
  fn_ok T.F_draws sc_draws fun cdv A outer s H E hr => (s_cons (s_set (i := 1) sc_draws.nd rfl (.inl rfl) (k_lst (live := true) a_nil))
    (s_cons (s_for PassesOwn.never rfl (pi_rng1 (by rfl) T.z_range (a_cons (k_callB d_min (c_min rfl) (by rfl) T.z_min bt_min (a_cons k_int (a_cons (k_callB d_len c_len (by rfl) T.z_len bt_len (a_cons (k_var 0) a_nil)) a_nil))) a_nil)) (g_name (i := 2) sc_draws.nd rfl (.inl rfl))
      (s_cons (s_set (i := 3) sc_draws.nd rfl (.inl rfl) (k_callT d_int c_int (by rfl) T.z_int bt_int (a_cons (k_ix (k_var 0) (k_var 2)) a_nil)))
    (s_one (s_if (t_cmp d_lt op_lt (k_var 3) (k_op d_pow op_pow k_int k_int) (nomark _))
      (s_one (s_drop (k_bm d_app PySem.F.plainAttrs_list PySem.F.slot_list_append PySem.F.type_list_append mt_append (k_var 1) (a_cons (k_call (ok_mix T) (hr.mono (by first | decide | omega)) (by rfl) T.g_mix T.F_mix.kp T.b_mix pass0 (a_cons (k_var 3) (a_cons (k_var 2) a_nil))) a_nil))))
      (s_one (s_for PassesOwn.never rfl (pi_rng1 (by rfl) T.z_range (a_cons k_int a_nil)) (g_name (i := 4) sc_draws.nd rfl (.inl rfl))
      (s_one (s_if (t_cmp d_gt op_gt (k_var 3) k_int (nomark _))
      (s_cons (s_drop (k_bm d_app PySem.F.plainAttrs_list PySem.F.slot_list_append PySem.F.type_list_append mt_append (k_var 1) (a_cons (k_op d_mod op_mod (k_callT d_int c_int (by rfl) T.z_int bt_int (a_cons (k_var 3) a_nil)) k_int) a_nil)))
    (s_one (s_set (i := 3) sc_draws.nd rfl (.inl rfl) (k_op d_div op_fdivW (k_var 3) k_int))))
      s_nil))))))))
    (s_one (s_ret (k_var 1)))))
theorem ok_at (T : Txt K mg) : FnOk P w K mg base CX0 2 T.a_at T.d_at ["_law_draws_here", "_law_index"] (spOf K T.cl m_at) :=
  fn_ok T.F_at sc_at fun cdv A outer s H E hr => (s_cons (s_if (t_cmp d_lt op_lt (k_var 1) (k_callB d_len c_len (by rfl) T.z_len bt_len (a_cons (k_var 0) a_nil)) (nomark _))
      (s_one (s_ret (k_ix (k_var 0) (k_var 1))))
      s_nil)
    (s_cons (s_if (t_cmp d_eq (o_eq hr.units) (k_callB d_len c_len (by rfl) T.z_len bt_len (a_cons (k_var 0) a_nil)) k_int (nomark _))
      (s_one (s_ret (k_call (ok_mix T) (hr.mono (by first | decide | omega)) (by rfl) T.g_mix T.F_mix.kp T.b_mix pass0 (a_cons (k_var 1) (a_cons k_int a_nil)))))
      s_nil)
    (s_one (s_ret (k_call (ok_mix T) (hr.mono (by first | decide | omega)) (by rfl) T.g_mix T.F_mix.kp T.b_mix pass0 (a_cons (k_op d_add o_add (k_ix (k_var 0) (k_op d_mod op_mod (k_callT d_int c_int (by rfl) T.z_int bt_int (a_cons (k_var 1) a_nil)) (k_callB d_len c_len (by rfl) T.z_len bt_len (a_cons (k_var 0) a_nil)))) (k_op d_mul op_mulG (k_var 1) k_int)) (a_cons (k_var 1) a_nil)))))))
theorem ok_told (T : Txt K mg) : FnOk P w K mg base CX0 3 T.a_told T.d_told ["_law_draws_here"] (spOf K T.cl m_told) :=
  fnL_ok T.F_told sc_told fun cdv A outer s H E hr => (s_cons (s_set (i := 1) sc_told.nd rfl (.inl rfl) (k_op d_add o_add k_int (k_op d_mod op_mod (k_op d_mod op_mod (k_call (ok_at T) (hr.mono (by first | decide | omega)) (by rfl) T.g_at T.F_at.kp T.b_at pass0 (a_cons (k_var 0) (a_cons k_int a_nil))) k_int) k_int)))
    (s_cons (s_set (i := 2) sc_told.nd rfl (.inr rfl) (k_lst (live := true) a_nil))
    (s_cons (s_for PassesOwn.never rfl (pi_rng1 (by rfl) T.z_range (a_cons (k_var 1) a_nil)) (g_name (i := 3) sc_told.nd rfl (.inl rfl))
      (s_one (s_drop (k_bm d_app PySem.F.plainAttrs_list PySem.F.slot_list_append PySem.F.type_list_append mt_append (k_var 2) (a_cons (k_comp (own := [("_law_j", 7)]) (live := true) rfl sc_told.nd (pi_rng1 (by rfl) T.z_range (a_cons (k_var 1) a_nil)) (blkOk_by (own := [("_law_j", 7)]) (N := ["_law_draws_here", "_law_members", "_law_seen", "_law_k", "_law_rows", "_law_author", "_law_partner", "_law_j"]) (sc := defScope s_told) (by decide +kernel)) (fun _ _ _ _ _ => (g_name (i := 7) sc_told.nd rfl (.inl rfl))) (fun _ _ _ _ _ => ts_nil) (fun _ _ _ _ _ => k_int)) a_nil)))))
    (s_cons (s_set (i := 4) sc_told.nd rfl (.inl rfl) (k_lst (live := true) a_nil))
    (s_cons (s_for PassesOwn.never rfl (pi_rng1 (by rfl) T.z_range (a_cons (k_op d_mod op_mod (k_call (ok_at T) (hr.mono (by first | decide | omega)) (by rfl) T.g_at T.F_at.kp T.b_at pass0 (a_cons (k_var 0) (a_cons k_int a_nil))) k_int) a_nil)) (g_name (i := 3) sc_told.nd rfl (.inl rfl))
      (s_cons (s_set (i := 5) sc_told.nd rfl (.inr rfl) (k_op d_mod op_mod (k_call (ok_at T) (hr.mono (by first | decide | omega)) (by rfl) T.g_at T.F_at.kp T.b_at pass0 (a_cons (k_var 0) (a_cons (k_op d_add o_add k_int (k_op d_mul op_mulG k_int (k_var 3))) a_nil))) (k_var 1)))
    (s_cons (s_set (i := 6) sc_told.nd rfl (.inr rfl) (k_op d_mod op_mod (k_call (ok_at T) (hr.mono (by first | decide | omega)) (by rfl) T.g_at T.F_at.kp T.b_at pass0 (a_cons (k_var 0) (a_cons (k_op d_add o_add k_int (k_op d_mul op_mulG k_int (k_var 3))) a_nil))) (k_op d_mul op_mulG k_int (k_var 1))))
    (s_cons (s_if (t_cmp d_lt op_lt (k_var 6) (k_var 1) (nomark _))
      (s_one (s_asg (k_comp (own := [("_law_j", 7)]) (live := true) rfl sc_told.nd (pi_rng1 (by rfl) T.z_range (a_cons (k_var 1) a_nil)) (blkOk_by (own := [("_law_j", 7)]) (N := ["_law_draws_here", "_law_members", "_law_seen", "_law_k", "_law_rows", "_law_author", "_law_partner", "_law_j"]) (sc := defScope s_told) (by decide +kernel)) (fun _ _ _ _ _ => (g_name (i := 7) sc_told.nd rfl (.inl rfl))) (fun _ _ _ _ _ => ts_nil) (fun _ _ _ _ _ => (k_callB d_max (c_max rfl) (by rfl) T.z_max bt_max (a_cons (k_ix (k_ix (k_var 2) (k_var 5)) (k_var 7)) (a_cons (k_ix (k_ix (k_var 2) (k_var 6)) (k_var 7)) a_nil))))) (g_sub (k_var 2) (k_var 5))))
      s_nil)
    (s_cons (s_drop (k_bm d_app PySem.F.plainAttrs_list PySem.F.slot_list_append PySem.F.type_list_append mt_append (k_var 4) (a_cons (k_lst (live := true) (a_cons (k_var 5) (a_cons (k_op d_add o_add (k_ix (k_ix (k_var 2) (k_var 5)) (k_var 5)) k_int) (a_cons (k_callT (d_list (live := true)) c_list (by rfl) T.z_list bt_list (a_cons (k_ix (k_var 2) (k_var 5)) a_nil)) a_nil)))) a_nil)))
    (s_one (s_asg (k_op d_add o_add (k_ix (k_ix (k_var 2) (k_var 5)) (k_var 5)) k_int) (g_sub (k_ix (k_var 2) (k_var 5)) (k_var 5)))))))))
    (s_one (s_ret (k_lst (live := true) (a_cons (k_var 1) (a_cons (k_var 4) a_nil))))))))))
theorem ok_cut (T : Txt K mg) : FnOk P w K mg base CX0 3 T.a_cut T.d_cut ["_law_draws_here", "_law_members", "_law_rows"] (spOf K T.cl m_cut) :=
  fn_ok T.F_cut sc_cut fun cdv A outer s H E hr => (s_cons (s_if (PW.pt (w_or (t_cmp d_eq (o_eq hr.units) (k_callB d_len c_len (by rfl) T.z_len bt_len (a_cons (k_var 2) a_nil)) k_int (nomark _)) (w_or1 (t_cmp d_eq (o_ne hr.units) (k_op d_mod op_mod (k_call (ok_at T) (hr.mono (by first | decide | omega)) (by rfl) T.g_at T.F_at.kp T.b_at pass0 (a_cons (k_var 0) (a_cons k_int a_nil))) k_int) k_int (nomark _)))))
      (s_one (s_ret (k_comp (own := [("_law_k", 5)]) (live := false) rfl sc_cut.nd (pi_rng1 (by rfl) T.z_range (a_cons (k_var 1) a_nil)) (blkOk_by (own := [("_law_k", 5)]) (N := ["_law_draws_here", "_law_members", "_law_rows", "_law_row", "_law_cut_here", "_law_k"]) (sc := defScope s_cut) (by decide +kernel)) (fun _ _ _ _ _ => (g_name (i := 5) sc_cut.nd rfl (.inl rfl))) (fun _ _ _ _ _ => ts_nil) (fun _ _ _ _ _ => k_int))))
      s_nil)
    (s_cons (s_set (i := 3) sc_cut.nd rfl (.inl rfl) (k_ix (k_var 2) (k_op d_mod op_mod (k_call (ok_at T) (hr.mono (by first | decide | omega)) (by rfl) T.g_at T.F_at.kp T.b_at pass0 (a_cons (k_var 0) (a_cons k_int a_nil))) (k_callB d_len c_len (by rfl) T.z_len bt_len (a_cons (k_var 2) a_nil)))))
    (s_cons (s_set (i := 4) sc_cut.nd rfl (.inl rfl) (k_callT (d_list (live := true)) c_list (by rfl) T.z_list bt_list (a_cons (k_ix (k_var 3) k_int) a_nil)))
    (s_cons (s_asg (k_op d_add o_add (k_ix (k_var 4) (k_ix (k_var 3) k_int)) (k_op d_mod op_mod (k_call (ok_at T) (hr.mono (by first | decide | omega)) (by rfl) T.g_at T.F_at.kp T.b_at pass0 (a_cons (k_var 0) (a_cons k_int a_nil))) k_int)) (g_sub (k_var 4) (k_ix (k_var 3) k_int)))
    (s_one (s_ret (k_var 4)))))))
theorem ok_spoil (T : Txt K mg) : FnOk P w K mg base CX0 3 T.a_spoil T.d_spoil ["_law_draws_here", "_law_members", "_law_rows"] (spOf K T.cl m_spoil) :=
  fn_ok T.F_spoil sc_spoil fun cdv A outer s H E hr => (s_cons (s_set (i := 3) sc_spoil.nd rfl (.inl rfl) (k_op d_mod op_mod (k_call (ok_at T) (hr.mono (by first | decide | omega)) (by rfl) T.g_at T.F_at.kp T.b_at pass0 (a_cons (k_var 0) (a_cons k_int a_nil))) k_int))
    (s_cons (s_if (PW.pt (w_or (t_cmp d_eq (o_eq hr.units) (k_callB d_len c_len (by rfl) T.z_len bt_len (a_cons (k_var 2) a_nil)) k_int (nomark _)) (w_or1 (t_cmp d_eq (o_eq hr.units) (k_var 3) k_int (nomark _)))))
      (s_one s_retN)
      s_nil)
    (s_cons (s_set (i := 4) sc_spoil.nd rfl (.inl rfl) (k_ix (k_var 2) (k_op d_mod op_mod (k_call (ok_at T) (hr.mono (by first | decide | omega)) (by rfl) T.g_at T.F_at.kp T.b_at pass0 (a_cons (k_var 0) (a_cons k_int a_nil))) (k_callB d_len c_len (by rfl) T.z_len bt_len (a_cons (k_var 2) a_nil)))))
    (s_cons (s_set (i := 5) sc_spoil.nd rfl (.inl rfl) (k_op d_mod op_mod (k_call (ok_at T) (hr.mono (by first | decide | omega)) (by rfl) T.g_at T.F_at.kp T.b_at pass0 (a_cons (k_var 0) (a_cons k_int a_nil))) (k_var 1)))
    (s_cons (s_if (t_cmp d_eq (o_eq hr.units) (k_var 3) k_int (nomark _))
      (s_one (s_drop (k_bm d_app PySem.F.plainAttrs_list PySem.F.slot_list_append PySem.F.type_list_append mt_append (k_ix (k_var 4) k_int) (a_cons k_int a_nil))))
      s_nil)
    (s_cons (s_if (t_cmp d_eq (o_eq hr.units) (k_var 3) k_int (nomark _))
      (s_one (s_drop (k_bm0 d_pop1 PySem.F.plainAttrs_list PySem.F.slot_list_pop PySem.F.type_list_pop mt_pop (k_ix (k_var 4) k_int))))
      s_nil)
    (s_cons (s_if (t_cmp d_eq (o_eq hr.units) (k_var 3) k_int (nomark _))
      (s_one (s_asg (k_callB d_max (c_max rfl) (by rfl) T.z_max bt_max (a_cons k_int (a_cons (k_op d_sub op_sub (k_op d_add o_add (k_ix (k_ix (k_var 4) k_int) (k_ix (k_var 4) k_int)) k_int) (k_op d_mul op_mulG k_int (k_op d_mod op_mod (k_call (ok_at T) (hr.mono (by first | decide | omega)) (by rfl) T.g_at T.F_at.kp T.b_at pass0 (a_cons (k_var 0) (a_cons k_int a_nil))) k_int))) a_nil))) (g_sub (k_ix (k_var 4) k_int) (k_ix (k_var 4) k_int))))
      s_nil)
    (s_cons (s_if (t_cmp d_eq (o_eq hr.units) (k_var 3) k_int (nomark _))
      (s_one (s_asg (k_op d_add o_add (k_callB d_len c_len (by rfl) T.z_len bt_len (a_cons (k_var 2) a_nil)) (k_op d_mod op_mod (k_call (ok_at T) (hr.mono (by first | decide | omega)) (by rfl) T.g_at T.F_at.kp T.b_at pass0 (a_cons (k_var 0) (a_cons k_int a_nil))) k_int)) (g_sub (k_ix (k_var 4) k_int) (k_var 5))))
      s_nil)
    (s_cons (s_if (t_cmp d_eq (o_eq hr.units) (k_var 3) k_int (nomark _))
      (s_one (s_asg (k_callB d_max (c_max rfl) (by rfl) T.z_max bt_max (a_cons k_int (a_cons (k_op d_sub op_sub (k_ix (k_ix (k_var 4) k_int) (k_var 5)) k_int) a_nil))) (g_sub (k_ix (k_var 4) k_int) (k_var 5))))
      s_nil)
    (s_one (s_if (t_cmp d_eq (o_eq hr.units) (k_var 3) k_int (nomark _))
      (s_one (s_asg (k_op d_add o_add (k_ix (k_ix (k_var 4) k_int) (k_var 5)) k_int) (g_sub (k_ix (k_var 4) k_int) (k_var 5))))
      s_nil)))))))))))
theorem ok_lis_sound (T : Txt K mg) : FnOk P w K mg base CX0 1 T.a_lis_sound T.d_lis_sound ["_law_members", "_law_counts", "_law_rows", "_law_row"] (spOf K T.cl m_lis_sound) :=
  fn_ok T.F_lis_sound sc_lis_sound fun cdv A outer s H E hr => (s_cons (s_if (PW.pt (w_or (t_cmp d_eq (o_ne hr.units) (k_callB d_len c_len (by rfl) T.z_len bt_len (a_cons (k_ix (k_var 3) k_int) a_nil)) (k_var 0) (nomark _)) (w_or1 (t_cmp d_eq (o_ne hr.units) (k_ix (k_ix (k_var 3) k_int) (k_ix (k_var 3) k_int)) (k_op d_sub op_sub (k_ix (k_var 3) k_int) k_int) (nomark _)))))
      (s_one (s_ret k_bl))
      s_nil)
    (s_cons (s_for PassesOwn.never rfl (pi_rng1 (by rfl) T.z_range (a_cons (k_var 0) a_nil)) (g_name (i := 4) sc_lis_sound.nd rfl (.inl rfl))
      (s_cons (s_if (t_cmp d_gt op_gt (k_ix (k_ix (k_var 3) k_int) (k_var 4)) (k_ix (k_var 1) (k_var 4)) (nomark _))
      (s_one (s_ret k_bl))
      s_nil)
    (s_one (s_for PassesOwn.never rfl (pi_any (k_var 2)) (g_name (i := 5) sc_lis_sound.nd rfl (.inl rfl))
      (s_one (s_if (PW.pt (w_and (t_cmp d_eq (o_eq hr.units) (k_ix (k_var 5) k_int) (k_var 4) (nomark _)) (w_and1 (t_cmp d_eq (o_eq hr.units) (k_ix (k_var 5) k_int) (k_ix (k_ix (k_var 3) k_int) (k_var 4)) (nomark _)))))
      (s_one (s_for PassesOwn.never rfl (pi_rng1 (by rfl) T.z_range (a_cons (k_var 0) a_nil)) (g_name (i := 6) sc_lis_sound.nd rfl (.inl rfl))
      (s_one (s_if (PW.pt (w_and (t_cmp d_lt op_lt (k_var 6) (k_callB d_len c_len (by rfl) T.z_len bt_len (a_cons (k_ix (k_var 5) k_int) a_nil)) (nomark _)) (w_and1 (t_cmp d_gt op_gt (k_ix (k_ix (k_var 5) k_int) (k_var 6)) (k_ix (k_ix (k_var 3) k_int) (k_var 6)) (nomark _)))))
      (s_one (s_ret k_bl))
      s_nil))))
      s_nil))))))
    (s_one (s_ret k_bl))))
theorem ok_law (T : Txt K mg) : FnOk P w K mg base CX0 7 T.a_law T.d_law ["_law_script"] (spOf K T.cl m_law) :=
  fn_ok T.F_law sc_law fun cdv A outer s H E hr => (s_cons (s_set (i := 1) sc_law.nd rfl (.inl rfl) (k_call (ok_draws T) (hr.mono (by first | decide | omega)) (by rfl) T.g_draws T.F_draws.kp T.b_draws pass0 (a_cons (k_var 0) a_nil)))
    (s_cons (s_asg (k_call (ok_told T) (hr.mono (by first | decide | omega)) (by rfl) T.g_told T.F_told.kp T.b_told pass0 (a_cons (k_var 1) a_nil)) (g_lst rfl (gs_cons (g_name (i := 2) sc_law.nd rfl (.inl rfl)) (gs_cons (g_name (i := 3) sc_law.nd rfl (.inl rfl)) gs_nil))))
    (s_cons (s_set (i := 4) sc_law.nd rfl (.inr rfl) (k_call (ok_cut T) (hr.mono (by first | decide | omega)) (by rfl) T.g_cut T.F_cut.kp T.b_cut pass0 (a_cons (k_var 1) (a_cons (k_var 2) (a_cons (k_var 3) a_nil)))))
    (s_cons (s_setComp (i := 6) (own := [("_law_k", 5)]) (live := true) rfl sc_law.nd rfl rfl (sw_true rfl rfl rfl (by decide +kernel)) (pi_rng1 (by rfl) T.z_range (a_cons (k_var 2) a_nil)) (blkOk_by (own := [("_law_k", 5)]) (N := ["_law_script", "_law_draws_here", "_law_members", "_law_rows", "_law_cut_here", "_law_k", "_law_counts", "_law_row", "_law_store", "_law_expected", "_law_data", "_law_actual"]) (sc := defScope s_law) (by decide +kernel)) (fun _ _ _ _ _ => (g_name (i := 5) sc_law.nd rfl (.inl rfl))) (fun _ _ _ _ _ => ts_nil) (fun _ _ _ _ _ => k_int))
    (s_cons (s_for PassesOwn.never rfl (pi_any (k_var 3)) (g_name (i := 7) sc_law.nd rfl (.inl rfl))
      (s_one (s_asg (k_callB d_max (c_max rfl) (by rfl) T.z_max bt_max (a_cons (k_ix (k_var 6) (k_ix (k_var 7) k_int)) (a_cons (k_ix (k_var 7) k_int) a_nil))) (g_sub (k_var 6) (k_ix (k_var 7) k_int)))))
    (s_cons (s_setComp (i := 3) (own := [("_law_row", 7)]) (live := true) rfl sc_law.nd rfl rfl (sw_true rfl rfl rfl (by decide +kernel)) (pi_any (k_var 3)) (blkOk_by (own := [("_law_row", 7)]) (N := ["_law_script", "_law_draws_here", "_law_members", "_law_rows", "_law_cut_here", "_law_k", "_law_counts", "_law_row", "_law_store", "_law_expected", "_law_data", "_law_actual"]) (sc := defScope s_law) (by decide +kernel)) (fun _ _ _ _ _ => (g_name (i := 7) sc_law.nd rfl (.inl rfl))) (fun _ _ _ _ _ => (ts_one (t_cmp d_gt op_gt (k_ix (k_var 7) k_int) (k_ix (k_var 4) (k_ix (k_var 7) k_int)) (nomark _)))) (fun _ _ _ _ _ => (k_var 7)))
    (s_cons (s_drop (k_call (ok_spoil T) (hr.mono (by first | decide | omega)) (by rfl) T.g_spoil T.F_spoil.kp T.b_spoil pass0 (a_cons (k_var 1) (a_cons (k_var 2) (a_cons (k_var 3) a_nil)))))
    (s_cons (s_set (i := 8) sc_law.nd rfl (.inl rfl) (k_make (live := true) (c := 2) T.M_Store (ok_Store_init T) (hr.mono (by first | decide | omega)) (by rfl) T.g_Store T.b_Store_init pass0 (a_cons (k_var 2) a_nil)))
    (s_cons (s_for PassesOwn.never rfl (pi_rng1 (by rfl) T.z_range (a_cons (k_var 2) a_nil)) (g_name (i := 5) sc_law.nd rfl (.inl rfl))
      (s_one (s_asg (k_ix (k_var 4) (k_var 5)) (g_sub (k_fld (cs_cons ⟨T.cl_Store, T.n_Store_cut⟩ cs_nil) (k_var 8)) (k_var 5)))))
    (s_cons (s_for PassesOwn.never rfl (pi_any (k_var 3)) (g_name (i := 7) sc_law.nd rfl (.inl rfl))
      (s_one (s_drop (k_meth (c := 2) (k_var 8) T.cl_Store T.m_Store_add (ok_Store_add T) (hr.mono (by first | decide | omega)) T.b_Store_add pass0 (a_cons (k_make (live := false) (c := 0) T.M_Change (ok_Change_init T) (hr.mono (by first | decide | omega)) (by rfl) T.g_Change T.b_Change_init pass0 (a_cons (k_ix (k_var 7) k_int) (a_cons (k_ix (k_var 7) k_int) (a_cons (k_callT (d_list (live := false)) c_list (by rfl) T.z_list bt_list (a_cons (k_ix (k_var 7) k_int) a_nil)) (a_cons k_non (a_cons (k_tup a_nil) (a_cons (k_tup (a_cons (k_tup a_nil) (a_cons (k_tup a_nil) (a_cons (k_tup a_nil) (a_cons (k_tup a_nil) a_nil))))) a_nil))))))) a_nil)))))
    (s_cons (s_set (i := 9) sc_law.nd rfl (.inl rfl) k_bl)
    (s_cons (s_for PassesOwn.never rfl (pi_any (k_var 3)) (g_name (i := 7) sc_law.nd rfl (.inl rfl))
      (s_one (s_if (t_not (t_val (k_call (ok_lis_sound T) (hr.mono (by first | decide | omega)) (by rfl) T.g_lis_sound T.F_lis_sound.kp T.b_lis_sound pass0 (a_cons (k_var 2) (a_cons (k_var 6) (a_cons (k_var 3) (a_cons (k_var 7) a_nil)))))))
      (s_one (s_set (i := 9) sc_law.nd rfl (.inl rfl) k_bl))
      s_nil)))
    (s_cons (s_set (i := 10) sc_law.nd rfl (.inl rfl) (k_meth0 (c := 2) (k_var 8) T.cl_Store T.m_Store_data (ok_Store_data T) (hr.mono (by first | decide | omega)) T.b_Store_data pass0))
    (s_cons (s_set (i := 11) sc_law.nd rfl (.inl rfl) (k_call (ok_is_whole T) (hr.mono (by first | decide | omega)) (by rfl) T.g_is_whole T.F_is_whole.kp T.b_is_whole pass0 (a_cons (k_var 8) a_nil)))
    (s_cons (s_if (PW.pt (w_or (t_not (t_val (k_isi (k_var 11) (by rfl) T.z_isinstance (by rfl) T.z_bool bt_bool))) (w_or1 (t_cmp d_eq (o_ne hr.units) (k_var 11) (k_var 9) (nomark _)))))
      (s_one (s_ret k_bl))
      s_nil)
    (s_one (s_ret (k_and (k_cmp d_eq (o_eq hr.units) (k_meth0 (c := 2) (k_var 8) T.cl_Store T.m_Store_data (ok_Store_data T) (hr.mono (by first | decide | omega)) T.b_Store_data pass0) (k_var 10) (nomark _)) (k_one (k_cmp d_eq (o_eq hr.units) (k_call (ok_is_whole T) (hr.mono (by first | decide | omega)) (by rfl) T.g_is_whole T.F_is_whole.kp T.b_is_whole pass0 (a_cons (k_var 8) a_nil)) (k_var 9) (nomark _)))))))))))))))))))))
end
theorem all_mk {l : PySem.W.OpenLaw} {w : World} {K : PySem.W.Frag} {h : Heap} {mg : Str → Option Value} {fa C_Change C_Kept C_Store f_as_tuple f_Change_init f_Change_header f_order_key f_in_order f_Kept_init f_Kept_data f_Store_init f_Store_count f_Store_find f_Store_all_changes f_Store_add f_Store_data f_kept_data f_covers f_is_sound f_is_whole f_mix f_draws f_at f_told f_cut f_spoil f_lis_sound f_law : Addr} (X : K.In h) (G : h.Ns mainGlobals mg) (hfa : mg "law" = some (.ref fa))
    {od_as_tuple an_as_tuple : Option Addr} {sl_as_tuple : Array (Option Value)} {oc_as_tuple kV_as_tuple dc_as_tuple pm_as_tuple cd_as_tuple ct_as_tuple : Value}
    {od_Change_init an_Change_init : Option Addr} {sl_Change_init : Array (Option Value)} {oc_Change_init kV_Change_init dc_Change_init pm_Change_init cd_Change_init ct_Change_init : Value}
    {od_Change_header an_Change_header : Option Addr} {sl_Change_header : Array (Option Value)} {oc_Change_header kV_Change_header dc_Change_header pm_Change_header cd_Change_header ct_Change_header : Value}
    {od_order_key an_order_key : Option Addr} {sl_order_key : Array (Option Value)} {oc_order_key kV_order_key dc_order_key pm_order_key cd_order_key ct_order_key : Value}
    {od_in_order an_in_order : Option Addr} {sl_in_order : Array (Option Value)} {oc_in_order kV_in_order dc_in_order pm_in_order cd_in_order ct_in_order : Value}
    {od_Kept_init an_Kept_init : Option Addr} {sl_Kept_init : Array (Option Value)} {oc_Kept_init kV_Kept_init dc_Kept_init pm_Kept_init cd_Kept_init ct_Kept_init : Value}
    {od_Kept_data an_Kept_data : Option Addr} {sl_Kept_data : Array (Option Value)} {oc_Kept_data kV_Kept_data dc_Kept_data pm_Kept_data cd_Kept_data ct_Kept_data : Value}
    {od_Store_init an_Store_init : Option Addr} {sl_Store_init : Array (Option Value)} {oc_Store_init kV_Store_init dc_Store_init pm_Store_init cd_Store_init ct_Store_init : Value}
    {od_Store_count an_Store_count : Option Addr} {sl_Store_count : Array (Option Value)} {oc_Store_count kV_Store_count dc_Store_count pm_Store_count cd_Store_count ct_Store_count : Value}
    {od_Store_find an_Store_find : Option Addr} {sl_Store_find : Array (Option Value)} {oc_Store_find kV_Store_find dc_Store_find pm_Store_find cd_Store_find ct_Store_find : Value}
    {od_Store_all_changes an_Store_all_changes : Option Addr} {sl_Store_all_changes : Array (Option Value)} {oc_Store_all_changes kV_Store_all_changes dc_Store_all_changes pm_Store_all_changes cd_Store_all_changes ct_Store_all_changes : Value}
    {od_Store_add an_Store_add : Option Addr} {sl_Store_add : Array (Option Value)} {oc_Store_add kV_Store_add dc_Store_add pm_Store_add cd_Store_add ct_Store_add : Value}
    {od_Store_data an_Store_data : Option Addr} {sl_Store_data : Array (Option Value)} {oc_Store_data kV_Store_data dc_Store_data pm_Store_data cd_Store_data ct_Store_data : Value}
    {od_kept_data an_kept_data : Option Addr} {sl_kept_data : Array (Option Value)} {oc_kept_data kV_kept_data dc_kept_data pm_kept_data cd_kept_data ct_kept_data : Value}
    {od_covers an_covers : Option Addr} {sl_covers : Array (Option Value)} {oc_covers kV_covers dc_covers pm_covers cd_covers ct_covers : Value}
    {od_is_sound an_is_sound : Option Addr} {sl_is_sound : Array (Option Value)} {oc_is_sound kV_is_sound dc_is_sound pm_is_sound cd_is_sound ct_is_sound : Value}
    {od_is_whole an_is_whole : Option Addr} {sl_is_whole : Array (Option Value)} {oc_is_whole kV_is_whole dc_is_whole pm_is_whole cd_is_whole ct_is_whole : Value}
    {od_mix an_mix : Option Addr} {sl_mix : Array (Option Value)} {oc_mix kV_mix dc_mix pm_mix cd_mix ct_mix : Value}
    {od_draws an_draws : Option Addr} {sl_draws : Array (Option Value)} {oc_draws kV_draws dc_draws pm_draws cd_draws ct_draws : Value}
    {od_at an_at : Option Addr} {sl_at : Array (Option Value)} {oc_at kV_at dc_at pm_at cd_at ct_at : Value}
    {od_told an_told : Option Addr} {sl_told : Array (Option Value)} {oc_told kV_told dc_told pm_told cd_told ct_told : Value}
    {od_cut an_cut : Option Addr} {sl_cut : Array (Option Value)} {oc_cut kV_cut dc_cut pm_cut cd_cut ct_cut : Value}
    {od_spoil an_spoil : Option Addr} {sl_spoil : Array (Option Value)} {oc_spoil kV_spoil dc_spoil pm_spoil cd_spoil ct_spoil : Value}
    {od_lis_sound an_lis_sound : Option Addr} {sl_lis_sound : Array (Option Value)} {oc_lis_sound kV_lis_sound dc_lis_sound pm_lis_sound cd_lis_sound ct_lis_sound : Value}
    {od_law an_law : Option Addr} {sl_law : Array (Option Value)} {oc_law kV_law dc_law pm_law cd_law ct_law : Value}
    (aC_Change : PySem.W.nsIn K mainGlobals "Change" = some (some (.ref C_Change)))
    (pg_Change : PySem.W.plainGet K C_Change Str.empty = true)
    (hd_Change : PySem.W.hasDictIn K C_Change = true)
    (po_Change : PySem.W.plainOver K C_Change = true)
    (sa_Change : PySem.W.findIn K (.ref C_Change) "__setattr__" = some (some (.builtin "object.__setattr__")))
    (mk_Change : PySem.W.makesIn K C_Change = true)
    (kc_Change : PySem.W.keepIn K (.ref C_Change) = true)
    (n_Change_author : PySem.W.findIn K (.ref C_Change) "author" = some none)
    (n_Change_capability : PySem.W.findIn K (.ref C_Change) "capability" = some none)
    (n_Change_heard : PySem.W.findIn K (.ref C_Change) "heard" = some none)
    (n_Change_number : PySem.W.findIn K (.ref C_Change) "number" = some none)
    (n_Change_parts : PySem.W.findIn K (.ref C_Change) "parts" = some none)
    (n_Change_publics : PySem.W.findIn K (.ref C_Change) "publics" = some none)
    (aC_Kept : PySem.W.nsIn K mainGlobals "Kept" = some (some (.ref C_Kept)))
    (pg_Kept : PySem.W.plainGet K C_Kept Str.empty = true)
    (hd_Kept : PySem.W.hasDictIn K C_Kept = true)
    (po_Kept : PySem.W.plainOver K C_Kept = true)
    (sa_Kept : PySem.W.findIn K (.ref C_Kept) "__setattr__" = some (some (.builtin "object.__setattr__")))
    (mk_Kept : PySem.W.makesIn K C_Kept = true)
    (kc_Kept : PySem.W.keepIn K (.ref C_Kept) = true)
    (n_Kept_acts : PySem.W.findIn K (.ref C_Kept) "acts" = some none)
    (n_Kept_sums : PySem.W.findIn K (.ref C_Kept) "sums" = some none)
    (n_Kept_texts : PySem.W.findIn K (.ref C_Kept) "texts" = some none)
    (aC_Store : PySem.W.nsIn K mainGlobals "Store" = some (some (.ref C_Store)))
    (pg_Store : PySem.W.plainGet K C_Store Str.empty = true)
    (hd_Store : PySem.W.hasDictIn K C_Store = true)
    (po_Store : PySem.W.plainOver K C_Store = true)
    (sa_Store : PySem.W.findIn K (.ref C_Store) "__setattr__" = some (some (.builtin "object.__setattr__")))
    (mk_Store : PySem.W.makesIn K C_Store = true)
    (kc_Store : PySem.W.keepIn K (.ref C_Store) = true)
    (n_Store_capabilities : PySem.W.findIn K (.ref C_Store) "capabilities" = some none)
    (n_Store_changes : PySem.W.findIn K (.ref C_Store) "changes" = some none)
    (n_Store_cut : PySem.W.findIn K (.ref C_Store) "cut" = some none)
    (n_Store_kept : PySem.W.findIn K (.ref C_Store) "kept" = some none)
    (n_Store_members : PySem.W.findIn K (.ref C_Store) "members" = some none)
    (a_as_tuple : PySem.W.nsIn K mainGlobals "_as_tuple" = some (some (.ref f_as_tuple)))
    (l_as_tuple : K.lookup f_as_tuple = some ⟨oc_as_tuple, od_as_tuple, .func (PySem.W.fnOf "_as_tuple" "_as_tuple" (defArgs s_as_tuple) (defBody s_as_tuple) (defScope s_as_tuple) .none kV_as_tuple dc_as_tuple pm_as_tuple an_as_tuple cd_as_tuple ct_as_tuple), sl_as_tuple⟩)
    (c_as_tuple : PySem.W.codeIn K cd_as_tuple "_as_tuple" = true)
    (k_as_tuple : PySem.W.keepIn K (.ref f_as_tuple) = true)
    (a_Change_init : PySem.W.findIn K (.ref C_Change) "__init__" = some (some (.ref f_Change_init)))
    (i_Change_init : PySem.W.isFn K (.ref f_Change_init) = true)
    (l_Change_init : K.lookup f_Change_init = some ⟨oc_Change_init, od_Change_init, .func (PySem.W.fnOf "__init__" "Change.__init__" (defArgs s_Change_init) (defBody s_Change_init) (defScope s_Change_init) .none kV_Change_init dc_Change_init pm_Change_init an_Change_init cd_Change_init ct_Change_init), sl_Change_init⟩)
    (c_Change_init : PySem.W.codeIn K cd_Change_init "Change.__init__" = true)
    (k_Change_init : PySem.W.keepIn K (.ref f_Change_init) = true)
    (a_Change_header : PySem.W.findIn K (.ref C_Change) "header" = some (some (.ref f_Change_header)))
    (i_Change_header : PySem.W.isFn K (.ref f_Change_header) = true)
    (l_Change_header : K.lookup f_Change_header = some ⟨oc_Change_header, od_Change_header, .func (PySem.W.fnOf "header" "Change.header" (defArgs s_Change_header) (defBody s_Change_header) (defScope s_Change_header) .none kV_Change_header dc_Change_header pm_Change_header an_Change_header cd_Change_header ct_Change_header), sl_Change_header⟩)
    (c_Change_header : PySem.W.codeIn K cd_Change_header "Change.header" = true)
    (k_Change_header : PySem.W.keepIn K (.ref f_Change_header) = true)
    (a_order_key : PySem.W.nsIn K mainGlobals "order_key" = some (some (.ref f_order_key)))
    (l_order_key : K.lookup f_order_key = some ⟨oc_order_key, od_order_key, .func (PySem.W.fnOf "order_key" "order_key" (defArgs s_order_key) (defBody s_order_key) (defScope s_order_key) .none kV_order_key dc_order_key pm_order_key an_order_key cd_order_key ct_order_key), sl_order_key⟩)
    (c_order_key : PySem.W.codeIn K cd_order_key "order_key" = true)
    (k_order_key : PySem.W.keepIn K (.ref f_order_key) = true)
    (a_in_order : PySem.W.nsIn K mainGlobals "in_order" = some (some (.ref f_in_order)))
    (l_in_order : K.lookup f_in_order = some ⟨oc_in_order, od_in_order, .func (PySem.W.fnOf "in_order" "in_order" (defArgs s_in_order) (defBody s_in_order) (defScope s_in_order) .none kV_in_order dc_in_order pm_in_order an_in_order cd_in_order ct_in_order), sl_in_order⟩)
    (c_in_order : PySem.W.codeIn K cd_in_order "in_order" = true)
    (k_in_order : PySem.W.keepIn K (.ref f_in_order) = true)
    (a_Kept_init : PySem.W.findIn K (.ref C_Kept) "__init__" = some (some (.ref f_Kept_init)))
    (i_Kept_init : PySem.W.isFn K (.ref f_Kept_init) = true)
    (l_Kept_init : K.lookup f_Kept_init = some ⟨oc_Kept_init, od_Kept_init, .func (PySem.W.fnOf "__init__" "Kept.__init__" (defArgs s_Kept_init) (defBody s_Kept_init) (defScope s_Kept_init) .none kV_Kept_init dc_Kept_init pm_Kept_init an_Kept_init cd_Kept_init ct_Kept_init), sl_Kept_init⟩)
    (c_Kept_init : PySem.W.codeIn K cd_Kept_init "Kept.__init__" = true)
    (k_Kept_init : PySem.W.keepIn K (.ref f_Kept_init) = true)
    (a_Kept_data : PySem.W.findIn K (.ref C_Kept) "data" = some (some (.ref f_Kept_data)))
    (i_Kept_data : PySem.W.isFn K (.ref f_Kept_data) = true)
    (l_Kept_data : K.lookup f_Kept_data = some ⟨oc_Kept_data, od_Kept_data, .func (PySem.W.fnOf "data" "Kept.data" (defArgs s_Kept_data) (defBody s_Kept_data) (defScope s_Kept_data) .none kV_Kept_data dc_Kept_data pm_Kept_data an_Kept_data cd_Kept_data ct_Kept_data), sl_Kept_data⟩)
    (c_Kept_data : PySem.W.codeIn K cd_Kept_data "Kept.data" = true)
    (k_Kept_data : PySem.W.keepIn K (.ref f_Kept_data) = true)
    (a_Store_init : PySem.W.findIn K (.ref C_Store) "__init__" = some (some (.ref f_Store_init)))
    (i_Store_init : PySem.W.isFn K (.ref f_Store_init) = true)
    (l_Store_init : K.lookup f_Store_init = some ⟨oc_Store_init, od_Store_init, .func (PySem.W.fnOf "__init__" "Store.__init__" (defArgs s_Store_init) (defBody s_Store_init) (defScope s_Store_init) .none kV_Store_init dc_Store_init pm_Store_init an_Store_init cd_Store_init ct_Store_init), sl_Store_init⟩)
    (c_Store_init : PySem.W.codeIn K cd_Store_init "Store.__init__" = true)
    (k_Store_init : PySem.W.keepIn K (.ref f_Store_init) = true)
    (a_Store_count : PySem.W.findIn K (.ref C_Store) "count" = some (some (.ref f_Store_count)))
    (i_Store_count : PySem.W.isFn K (.ref f_Store_count) = true)
    (l_Store_count : K.lookup f_Store_count = some ⟨oc_Store_count, od_Store_count, .func (PySem.W.fnOf "count" "Store.count" (defArgs s_Store_count) (defBody s_Store_count) (defScope s_Store_count) .none kV_Store_count dc_Store_count pm_Store_count an_Store_count cd_Store_count ct_Store_count), sl_Store_count⟩)
    (c_Store_count : PySem.W.codeIn K cd_Store_count "Store.count" = true)
    (k_Store_count : PySem.W.keepIn K (.ref f_Store_count) = true)
    (a_Store_find : PySem.W.findIn K (.ref C_Store) "find" = some (some (.ref f_Store_find)))
    (i_Store_find : PySem.W.isFn K (.ref f_Store_find) = true)
    (l_Store_find : K.lookup f_Store_find = some ⟨oc_Store_find, od_Store_find, .func (PySem.W.fnOf "find" "Store.find" (defArgs s_Store_find) (defBody s_Store_find) (defScope s_Store_find) .none kV_Store_find dc_Store_find pm_Store_find an_Store_find cd_Store_find ct_Store_find), sl_Store_find⟩)
    (c_Store_find : PySem.W.codeIn K cd_Store_find "Store.find" = true)
    (k_Store_find : PySem.W.keepIn K (.ref f_Store_find) = true)
    (a_Store_all_changes : PySem.W.findIn K (.ref C_Store) "all_changes" = some (some (.ref f_Store_all_changes)))
    (i_Store_all_changes : PySem.W.isFn K (.ref f_Store_all_changes) = true)
    (l_Store_all_changes : K.lookup f_Store_all_changes = some ⟨oc_Store_all_changes, od_Store_all_changes, .func (PySem.W.fnOf "all_changes" "Store.all_changes" (defArgs s_Store_all_changes) (defBody s_Store_all_changes) (defScope s_Store_all_changes) .none kV_Store_all_changes dc_Store_all_changes pm_Store_all_changes an_Store_all_changes cd_Store_all_changes ct_Store_all_changes), sl_Store_all_changes⟩)
    (c_Store_all_changes : PySem.W.codeIn K cd_Store_all_changes "Store.all_changes" = true)
    (k_Store_all_changes : PySem.W.keepIn K (.ref f_Store_all_changes) = true)
    (a_Store_add : PySem.W.findIn K (.ref C_Store) "add" = some (some (.ref f_Store_add)))
    (i_Store_add : PySem.W.isFn K (.ref f_Store_add) = true)
    (l_Store_add : K.lookup f_Store_add = some ⟨oc_Store_add, od_Store_add, .func (PySem.W.fnOf "add" "Store.add" (defArgs s_Store_add) (defBody s_Store_add) (defScope s_Store_add) .none kV_Store_add dc_Store_add pm_Store_add an_Store_add cd_Store_add ct_Store_add), sl_Store_add⟩)
    (c_Store_add : PySem.W.codeIn K cd_Store_add "Store.add" = true)
    (k_Store_add : PySem.W.keepIn K (.ref f_Store_add) = true)
    (a_Store_data : PySem.W.findIn K (.ref C_Store) "data" = some (some (.ref f_Store_data)))
    (i_Store_data : PySem.W.isFn K (.ref f_Store_data) = true)
    (l_Store_data : K.lookup f_Store_data = some ⟨oc_Store_data, od_Store_data, .func (PySem.W.fnOf "data" "Store.data" (defArgs s_Store_data) (defBody s_Store_data) (defScope s_Store_data) .none kV_Store_data dc_Store_data pm_Store_data an_Store_data cd_Store_data ct_Store_data), sl_Store_data⟩)
    (c_Store_data : PySem.W.codeIn K cd_Store_data "Store.data" = true)
    (k_Store_data : PySem.W.keepIn K (.ref f_Store_data) = true)
    (a_kept_data : PySem.W.nsIn K mainGlobals "_kept_data" = some (some (.ref f_kept_data)))
    (l_kept_data : K.lookup f_kept_data = some ⟨oc_kept_data, od_kept_data, .func (PySem.W.fnOf "_kept_data" "_kept_data" (defArgs s_kept_data) (defBody s_kept_data) (defScope s_kept_data) .none kV_kept_data dc_kept_data pm_kept_data an_kept_data cd_kept_data ct_kept_data), sl_kept_data⟩)
    (c_kept_data : PySem.W.codeIn K cd_kept_data "_kept_data" = true)
    (k_kept_data : PySem.W.keepIn K (.ref f_kept_data) = true)
    (a_covers : PySem.W.nsIn K mainGlobals "_covers" = some (some (.ref f_covers)))
    (l_covers : K.lookup f_covers = some ⟨oc_covers, od_covers, .func (PySem.W.fnOf "_covers" "_covers" (defArgs s_covers) (defBody s_covers) (defScope s_covers) .none kV_covers dc_covers pm_covers an_covers cd_covers ct_covers), sl_covers⟩)
    (c_covers : PySem.W.codeIn K cd_covers "_covers" = true)
    (k_covers : PySem.W.keepIn K (.ref f_covers) = true)
    (a_is_sound : PySem.W.nsIn K mainGlobals "_is_sound" = some (some (.ref f_is_sound)))
    (l_is_sound : K.lookup f_is_sound = some ⟨oc_is_sound, od_is_sound, .func (PySem.W.fnOf "_is_sound" "_is_sound" (defArgs s_is_sound) (defBody s_is_sound) (defScope s_is_sound) .none kV_is_sound dc_is_sound pm_is_sound an_is_sound cd_is_sound ct_is_sound), sl_is_sound⟩)
    (c_is_sound : PySem.W.codeIn K cd_is_sound "_is_sound" = true)
    (k_is_sound : PySem.W.keepIn K (.ref f_is_sound) = true)
    (a_is_whole : PySem.W.nsIn K mainGlobals "is_whole" = some (some (.ref f_is_whole)))
    (l_is_whole : K.lookup f_is_whole = some ⟨oc_is_whole, od_is_whole, .func (PySem.W.fnOf "is_whole" "is_whole" (defArgs s_is_whole) (defBody s_is_whole) (defScope s_is_whole) .none kV_is_whole dc_is_whole pm_is_whole an_is_whole cd_is_whole ct_is_whole), sl_is_whole⟩)
    (c_is_whole : PySem.W.codeIn K cd_is_whole "is_whole" = true)
    (k_is_whole : PySem.W.keepIn K (.ref f_is_whole) = true)
    (a_mix : PySem.W.nsIn K mainGlobals "_law_mix" = some (some (.ref f_mix)))
    (l_mix : K.lookup f_mix = some ⟨oc_mix, od_mix, .func (PySem.W.fnOf "_law_mix" "_law_mix" (defArgs s_mix) (defBody s_mix) (defScope s_mix) .none kV_mix dc_mix pm_mix an_mix cd_mix ct_mix), sl_mix⟩)
    (c_mix : PySem.W.codeIn K cd_mix "_law_mix" = true)
    (k_mix : PySem.W.keepIn K (.ref f_mix) = true)
    (a_draws : PySem.W.nsIn K mainGlobals "_law_draws" = some (some (.ref f_draws)))
    (l_draws : K.lookup f_draws = some ⟨oc_draws, od_draws, .func (PySem.W.fnOf "_law_draws" "_law_draws" (defArgs s_draws) (defBody s_draws) (defScope s_draws) .none kV_draws dc_draws pm_draws an_draws cd_draws ct_draws), sl_draws⟩)
    (c_draws : PySem.W.codeIn K cd_draws "_law_draws" = true)
    (k_draws : PySem.W.keepIn K (.ref f_draws) = true)
    (a_at : PySem.W.nsIn K mainGlobals "_law_at" = some (some (.ref f_at)))
    (l_at : K.lookup f_at = some ⟨oc_at, od_at, .func (PySem.W.fnOf "_law_at" "_law_at" (defArgs s_at) (defBody s_at) (defScope s_at) .none kV_at dc_at pm_at an_at cd_at ct_at), sl_at⟩)
    (c_at : PySem.W.codeIn K cd_at "_law_at" = true)
    (k_at : PySem.W.keepIn K (.ref f_at) = true)
    (a_told : PySem.W.nsIn K mainGlobals "_law_told" = some (some (.ref f_told)))
    (l_told : K.lookup f_told = some ⟨oc_told, od_told, .func (PySem.W.fnOf "_law_told" "_law_told" (defArgs s_told) (defBody s_told) (defScope s_told) .none kV_told dc_told pm_told an_told cd_told ct_told), sl_told⟩)
    (c_told : PySem.W.codeIn K cd_told "_law_told" = true)
    (k_told : PySem.W.keepIn K (.ref f_told) = true)
    (a_cut : PySem.W.nsIn K mainGlobals "_law_cut" = some (some (.ref f_cut)))
    (l_cut : K.lookup f_cut = some ⟨oc_cut, od_cut, .func (PySem.W.fnOf "_law_cut" "_law_cut" (defArgs s_cut) (defBody s_cut) (defScope s_cut) .none kV_cut dc_cut pm_cut an_cut cd_cut ct_cut), sl_cut⟩)
    (c_cut : PySem.W.codeIn K cd_cut "_law_cut" = true)
    (k_cut : PySem.W.keepIn K (.ref f_cut) = true)
    (a_spoil : PySem.W.nsIn K mainGlobals "_law_spoil" = some (some (.ref f_spoil)))
    (l_spoil : K.lookup f_spoil = some ⟨oc_spoil, od_spoil, .func (PySem.W.fnOf "_law_spoil" "_law_spoil" (defArgs s_spoil) (defBody s_spoil) (defScope s_spoil) .none kV_spoil dc_spoil pm_spoil an_spoil cd_spoil ct_spoil), sl_spoil⟩)
    (c_spoil : PySem.W.codeIn K cd_spoil "_law_spoil" = true)
    (k_spoil : PySem.W.keepIn K (.ref f_spoil) = true)
    (a_lis_sound : PySem.W.nsIn K mainGlobals "_law_is_sound" = some (some (.ref f_lis_sound)))
    (l_lis_sound : K.lookup f_lis_sound = some ⟨oc_lis_sound, od_lis_sound, .func (PySem.W.fnOf "_law_is_sound" "_law_is_sound" (defArgs s_lis_sound) (defBody s_lis_sound) (defScope s_lis_sound) .none kV_lis_sound dc_lis_sound pm_lis_sound an_lis_sound cd_lis_sound ct_lis_sound), sl_lis_sound⟩)
    (c_lis_sound : PySem.W.codeIn K cd_lis_sound "_law_is_sound" = true)
    (k_lis_sound : PySem.W.keepIn K (.ref f_lis_sound) = true)
    (a_law : PySem.W.nsIn K mainGlobals "law" = some (some (.ref f_law)))
    (l_law : K.lookup f_law = some ⟨oc_law, od_law, .func (PySem.W.fnOf "law" "law" (defArgs s_law) (defBody s_law) (defScope s_law) .none kV_law dc_law pm_law an_law cd_law ct_law), sl_law⟩)
    (c_law : PySem.W.codeIn K cd_law "law" = true)
    (k_law : PySem.W.keepIn K (.ref f_law) = true)
    (z_bool : PySem.W.nsIn K mainGlobals "bool" = some none)
    (z_int : PySem.W.nsIn K mainGlobals "int" = some none)
    (z_isinstance : PySem.W.nsIn K mainGlobals "isinstance" = some none)
    (z_len : PySem.W.nsIn K mainGlobals "len" = some none)
    (z_list : PySem.W.nsIn K mainGlobals "list" = some none)
    (z_max : PySem.W.nsIn K mainGlobals "max" = some none)
    (z_min : PySem.W.nsIn K mainGlobals "min" = some none)
    (z_range : PySem.W.nsIn K mainGlobals "range" = some none)
    (z_sorted : PySem.W.nsIn K mainGlobals "sorted" = some none)
    (z_sum : PySem.W.nsIn K mainGlobals "sum" = some none)
    (z_tuple : PySem.W.nsIn K mainGlobals "tuple" = some none)
    {u_SPACES : Value} {v_SPACES : V}
    (gc_SPACES : PySem.W.nsIn K mainGlobals "SPACES" = some (some u_SPACES)) (rc_SPACES : RelV v_SPACES u_SPACES) (qc_SPACES : ∀ (F : Hp) (cl : Nat → Addr), Rp K cl F Kb.u_SPACES v_SPACES)
    : ∃ fd : FuncData, (∀ (s : Shared) (v : Value), BindsTo s fd ⟨[v], []⟩ [("_law_script", v)]) ∧ ∀ base : Heap, K.In base → base.Ns mainGlobals mg → FnOk l.prog w K mg base CX0 7 fa fd ["_law_script"] (spLaw K) := by
  have e := hfa.symm.trans (PySem.W.mg_of X G a_law)
  have e2 : fa = f_law := by cases e; rfl
  rw [e2]
  exact ⟨PySem.W.fnOf "law" "law" (defArgs s_law) (defBody s_law) (defScope s_law) .none kV_law dc_law pm_law an_law cd_law ct_law, fun s v => .of_eq rfl, fun base _ _ =>
    (ok_law { 
      u_SPACES := u_SPACES
      v_SPACES := v_SPACES
      g_SPACES := PySem.W.mg_of X G gc_SPACES
      r_SPACES := rc_SPACES
      q_SPACES := qc_SPACES
      c_Change := C_Change
      cl_Change := ⟨pg_Change, hd_Change, po_Change, sa_Change⟩
      g_Change := PySem.W.mg_of X G aC_Change
      n_Change_author := n_Change_author
      n_Change_capability := n_Change_capability
      n_Change_heard := n_Change_heard
      n_Change_number := n_Change_number
      n_Change_parts := n_Change_parts
      n_Change_publics := n_Change_publics
      c_Kept := C_Kept
      cl_Kept := ⟨pg_Kept, hd_Kept, po_Kept, sa_Kept⟩
      g_Kept := PySem.W.mg_of X G aC_Kept
      n_Kept_acts := n_Kept_acts
      n_Kept_sums := n_Kept_sums
      n_Kept_texts := n_Kept_texts
      c_Store := C_Store
      cl_Store := ⟨pg_Store, hd_Store, po_Store, sa_Store⟩
      g_Store := PySem.W.mg_of X G aC_Store
      n_Store_capabilities := n_Store_capabilities
      n_Store_changes := n_Store_changes
      n_Store_cut := n_Store_cut
      n_Store_kept := n_Store_kept
      n_Store_members := n_Store_members
      a_as_tuple := f_as_tuple
      d_as_tuple := PySem.W.fnOf "_as_tuple" "_as_tuple" (defArgs s_as_tuple) (defBody s_as_tuple) (defScope s_as_tuple) .none kV_as_tuple dc_as_tuple pm_as_tuple an_as_tuple cd_as_tuple ct_as_tuple
      F_as_tuple := fun_mk (st := s_as_tuple) l_as_tuple c_as_tuple k_as_tuple
      b_as_tuple := (fun_mk (st := s_as_tuple) l_as_tuple c_as_tuple k_as_tuple).binds (ps := ["part"]) fun _ _ _ _ _ _ us hl => match us, hl with | [_], _ => rfl
      g_as_tuple := PySem.W.mg_of X G a_as_tuple
      a_Change_init := f_Change_init
      d_Change_init := PySem.W.fnOf "__init__" "Change.__init__" (defArgs s_Change_init) (defBody s_Change_init) (defScope s_Change_init) .none kV_Change_init dc_Change_init pm_Change_init an_Change_init cd_Change_init ct_Change_init
      F_Change_init := fun_mk (st := s_Change_init) l_Change_init c_Change_init k_Change_init
      b_Change_init := (fun_mk (st := s_Change_init) l_Change_init c_Change_init k_Change_init).binds (ps := ["self", "author", "number", "heard", "capability", "publics", "parts"]) fun _ _ _ _ _ _ us hl => match us, hl with | [_, _, _, _, _, _, _], _ => rfl
      M_Change := ⟨mk_Change, a_Change_init, i_Change_init, kc_Change⟩
      a_Change_header := f_Change_header
      d_Change_header := PySem.W.fnOf "header" "Change.header" (defArgs s_Change_header) (defBody s_Change_header) (defScope s_Change_header) .none kV_Change_header dc_Change_header pm_Change_header an_Change_header cd_Change_header ct_Change_header
      F_Change_header := fun_mk (st := s_Change_header) l_Change_header c_Change_header k_Change_header
      b_Change_header := (fun_mk (st := s_Change_header) l_Change_header c_Change_header k_Change_header).binds (ps := ["self"]) fun _ _ _ _ _ _ us hl => match us, hl with | [_], _ => rfl
      m_Change_header := ⟨a_Change_header, i_Change_header, k_Change_header⟩
      a_order_key := f_order_key
      d_order_key := PySem.W.fnOf "order_key" "order_key" (defArgs s_order_key) (defBody s_order_key) (defScope s_order_key) .none kV_order_key dc_order_key pm_order_key an_order_key cd_order_key ct_order_key
      F_order_key := fun_mk (st := s_order_key) l_order_key c_order_key k_order_key
      b_order_key := (fun_mk (st := s_order_key) l_order_key c_order_key k_order_key).binds (ps := ["change"]) fun _ _ _ _ _ _ us hl => match us, hl with | [_], _ => rfl
      g_order_key := PySem.W.mg_of X G a_order_key
      a_in_order := f_in_order
      d_in_order := PySem.W.fnOf "in_order" "in_order" (defArgs s_in_order) (defBody s_in_order) (defScope s_in_order) .none kV_in_order dc_in_order pm_in_order an_in_order cd_in_order ct_in_order
      F_in_order := fun_mk (st := s_in_order) l_in_order c_in_order k_in_order
      b_in_order := (fun_mk (st := s_in_order) l_in_order c_in_order k_in_order).binds (ps := ["changes"]) fun _ _ _ _ _ _ us hl => match us, hl with | [_], _ => rfl
      g_in_order := PySem.W.mg_of X G a_in_order
      a_Kept_init := f_Kept_init
      d_Kept_init := PySem.W.fnOf "__init__" "Kept.__init__" (defArgs s_Kept_init) (defBody s_Kept_init) (defScope s_Kept_init) .none kV_Kept_init dc_Kept_init pm_Kept_init an_Kept_init cd_Kept_init ct_Kept_init
      F_Kept_init := fun_mk (st := s_Kept_init) l_Kept_init c_Kept_init k_Kept_init
      b_Kept_init := (fun_mk (st := s_Kept_init) l_Kept_init c_Kept_init k_Kept_init).binds (ps := ["self", "acts", "sums", "texts"]) fun _ _ _ _ _ _ us hl => match us, hl with | [_, _, _, _], _ => rfl
      M_Kept := ⟨mk_Kept, a_Kept_init, i_Kept_init, kc_Kept⟩
      a_Kept_data := f_Kept_data
      d_Kept_data := PySem.W.fnOf "data" "Kept.data" (defArgs s_Kept_data) (defBody s_Kept_data) (defScope s_Kept_data) .none kV_Kept_data dc_Kept_data pm_Kept_data an_Kept_data cd_Kept_data ct_Kept_data
      F_Kept_data := fun_mk (st := s_Kept_data) l_Kept_data c_Kept_data k_Kept_data
      b_Kept_data := (fun_mk (st := s_Kept_data) l_Kept_data c_Kept_data k_Kept_data).binds (ps := ["self"]) fun _ _ _ _ _ _ us hl => match us, hl with | [_], _ => rfl
      m_Kept_data := ⟨a_Kept_data, i_Kept_data, k_Kept_data⟩
      a_Store_init := f_Store_init
      d_Store_init := PySem.W.fnOf "__init__" "Store.__init__" (defArgs s_Store_init) (defBody s_Store_init) (defScope s_Store_init) .none kV_Store_init dc_Store_init pm_Store_init an_Store_init cd_Store_init ct_Store_init
      F_Store_init := fun_mk (st := s_Store_init) l_Store_init c_Store_init k_Store_init
      b_Store_init := (fun_mk (st := s_Store_init) l_Store_init c_Store_init k_Store_init).binds (ps := ["self", "members"]) fun _ _ _ _ _ _ us hl => match us, hl with | [_, _], _ => rfl
      M_Store := ⟨mk_Store, a_Store_init, i_Store_init, kc_Store⟩
      a_Store_count := f_Store_count
      d_Store_count := PySem.W.fnOf "count" "Store.count" (defArgs s_Store_count) (defBody s_Store_count) (defScope s_Store_count) .none kV_Store_count dc_Store_count pm_Store_count an_Store_count cd_Store_count ct_Store_count
      F_Store_count := fun_mk (st := s_Store_count) l_Store_count c_Store_count k_Store_count
      b_Store_count := (fun_mk (st := s_Store_count) l_Store_count c_Store_count k_Store_count).binds (ps := ["self", "member"]) fun _ _ _ _ _ _ us hl => match us, hl with | [_, _], _ => rfl
      m_Store_count := ⟨a_Store_count, i_Store_count, k_Store_count⟩
      a_Store_find := f_Store_find
      d_Store_find := PySem.W.fnOf "find" "Store.find" (defArgs s_Store_find) (defBody s_Store_find) (defScope s_Store_find) .none kV_Store_find dc_Store_find pm_Store_find an_Store_find cd_Store_find ct_Store_find
      F_Store_find := fun_mk (st := s_Store_find) l_Store_find c_Store_find k_Store_find
      b_Store_find := (fun_mk (st := s_Store_find) l_Store_find c_Store_find k_Store_find).binds (ps := ["self", "name"]) fun _ _ _ _ _ _ us hl => match us, hl with | [_, _], _ => rfl
      m_Store_find := ⟨a_Store_find, i_Store_find, k_Store_find⟩
      a_Store_all_changes := f_Store_all_changes
      d_Store_all_changes := PySem.W.fnOf "all_changes" "Store.all_changes" (defArgs s_Store_all_changes) (defBody s_Store_all_changes) (defScope s_Store_all_changes) .none kV_Store_all_changes dc_Store_all_changes pm_Store_all_changes an_Store_all_changes cd_Store_all_changes ct_Store_all_changes
      F_Store_all_changes := fun_mk (st := s_Store_all_changes) l_Store_all_changes c_Store_all_changes k_Store_all_changes
      b_Store_all_changes := (fun_mk (st := s_Store_all_changes) l_Store_all_changes c_Store_all_changes k_Store_all_changes).binds (ps := ["self"]) fun _ _ _ _ _ _ us hl => match us, hl with | [_], _ => rfl
      m_Store_all_changes := ⟨a_Store_all_changes, i_Store_all_changes, k_Store_all_changes⟩
      a_Store_add := f_Store_add
      d_Store_add := PySem.W.fnOf "add" "Store.add" (defArgs s_Store_add) (defBody s_Store_add) (defScope s_Store_add) .none kV_Store_add dc_Store_add pm_Store_add an_Store_add cd_Store_add ct_Store_add
      F_Store_add := fun_mk (st := s_Store_add) l_Store_add c_Store_add k_Store_add
      b_Store_add := (fun_mk (st := s_Store_add) l_Store_add c_Store_add k_Store_add).binds (ps := ["self", "change"]) fun _ _ _ _ _ _ us hl => match us, hl with | [_, _], _ => rfl
      m_Store_add := ⟨a_Store_add, i_Store_add, k_Store_add⟩
      a_Store_data := f_Store_data
      d_Store_data := PySem.W.fnOf "data" "Store.data" (defArgs s_Store_data) (defBody s_Store_data) (defScope s_Store_data) .none kV_Store_data dc_Store_data pm_Store_data an_Store_data cd_Store_data ct_Store_data
      F_Store_data := fun_mk (st := s_Store_data) l_Store_data c_Store_data k_Store_data
      b_Store_data := (fun_mk (st := s_Store_data) l_Store_data c_Store_data k_Store_data).binds (ps := ["self"]) fun _ _ _ _ _ _ us hl => match us, hl with | [_], _ => rfl
      m_Store_data := ⟨a_Store_data, i_Store_data, k_Store_data⟩
      a_kept_data := f_kept_data
      d_kept_data := PySem.W.fnOf "_kept_data" "_kept_data" (defArgs s_kept_data) (defBody s_kept_data) (defScope s_kept_data) .none kV_kept_data dc_kept_data pm_kept_data an_kept_data cd_kept_data ct_kept_data
      F_kept_data := fun_mk (st := s_kept_data) l_kept_data c_kept_data k_kept_data
      b_kept_data := (fun_mk (st := s_kept_data) l_kept_data c_kept_data k_kept_data).binds (ps := ["kept"]) fun _ _ _ _ _ _ us hl => match us, hl with | [_], _ => rfl
      g_kept_data := PySem.W.mg_of X G a_kept_data
      a_covers := f_covers
      d_covers := PySem.W.fnOf "_covers" "_covers" (defArgs s_covers) (defBody s_covers) (defScope s_covers) .none kV_covers dc_covers pm_covers an_covers cd_covers ct_covers
      F_covers := fun_mk (st := s_covers) l_covers c_covers k_covers
      b_covers := (fun_mk (st := s_covers) l_covers c_covers k_covers).binds (ps := ["change", "last"]) fun _ _ _ _ _ _ us hl => match us, hl with | [_, _], _ => rfl
      g_covers := PySem.W.mg_of X G a_covers
      a_is_sound := f_is_sound
      d_is_sound := PySem.W.fnOf "_is_sound" "_is_sound" (defArgs s_is_sound) (defBody s_is_sound) (defScope s_is_sound) .none kV_is_sound dc_is_sound pm_is_sound an_is_sound cd_is_sound ct_is_sound
      F_is_sound := fun_mk (st := s_is_sound) l_is_sound c_is_sound k_is_sound
      b_is_sound := (fun_mk (st := s_is_sound) l_is_sound c_is_sound k_is_sound).binds (ps := ["store", "change"]) fun _ _ _ _ _ _ us hl => match us, hl with | [_, _], _ => rfl
      g_is_sound := PySem.W.mg_of X G a_is_sound
      a_is_whole := f_is_whole
      d_is_whole := PySem.W.fnOf "is_whole" "is_whole" (defArgs s_is_whole) (defBody s_is_whole) (defScope s_is_whole) .none kV_is_whole dc_is_whole pm_is_whole an_is_whole cd_is_whole ct_is_whole
      F_is_whole := fun_mk (st := s_is_whole) l_is_whole c_is_whole k_is_whole
      b_is_whole := (fun_mk (st := s_is_whole) l_is_whole c_is_whole k_is_whole).binds (ps := ["store"]) fun _ _ _ _ _ _ us hl => match us, hl with | [_], _ => rfl
      g_is_whole := PySem.W.mg_of X G a_is_whole
      a_mix := f_mix
      d_mix := PySem.W.fnOf "_law_mix" "_law_mix" (defArgs s_mix) (defBody s_mix) (defScope s_mix) .none kV_mix dc_mix pm_mix an_mix cd_mix ct_mix
      F_mix := fun_mk (st := s_mix) l_mix c_mix k_mix
      b_mix := (fun_mk (st := s_mix) l_mix c_mix k_mix).binds (ps := ["_law_cell", "_law_k"]) fun _ _ _ _ _ _ us hl => match us, hl with | [_, _], _ => rfl
      g_mix := PySem.W.mg_of X G a_mix
      a_draws := f_draws
      d_draws := PySem.W.fnOf "_law_draws" "_law_draws" (defArgs s_draws) (defBody s_draws) (defScope s_draws) .none kV_draws dc_draws pm_draws an_draws cd_draws ct_draws
      F_draws := fun_mk (st := s_draws) l_draws c_draws k_draws
      b_draws := (fun_mk (st := s_draws) l_draws c_draws k_draws).binds (ps := ["_law_script"]) fun _ _ _ _ _ _ us hl => match us, hl with | [_], _ => rfl
      g_draws := PySem.W.mg_of X G a_draws
      a_at := f_at
      d_at := PySem.W.fnOf "_law_at" "_law_at" (defArgs s_at) (defBody s_at) (defScope s_at) .none kV_at dc_at pm_at an_at cd_at ct_at
      F_at := fun_mk (st := s_at) l_at c_at k_at
      b_at := (fun_mk (st := s_at) l_at c_at k_at).binds (ps := ["_law_draws_here", "_law_index"]) fun _ _ _ _ _ _ us hl => match us, hl with | [_, _], _ => rfl
      g_at := PySem.W.mg_of X G a_at
      a_told := f_told
      d_told := PySem.W.fnOf "_law_told" "_law_told" (defArgs s_told) (defBody s_told) (defScope s_told) .none kV_told dc_told pm_told an_told cd_told ct_told
      F_told := fun_mk (st := s_told) l_told c_told k_told
      b_told := (fun_mk (st := s_told) l_told c_told k_told).binds (ps := ["_law_draws_here"]) fun _ _ _ _ _ _ us hl => match us, hl with | [_], _ => rfl
      g_told := PySem.W.mg_of X G a_told
      a_cut := f_cut
      d_cut := PySem.W.fnOf "_law_cut" "_law_cut" (defArgs s_cut) (defBody s_cut) (defScope s_cut) .none kV_cut dc_cut pm_cut an_cut cd_cut ct_cut
      F_cut := fun_mk (st := s_cut) l_cut c_cut k_cut
      b_cut := (fun_mk (st := s_cut) l_cut c_cut k_cut).binds (ps := ["_law_draws_here", "_law_members", "_law_rows"]) fun _ _ _ _ _ _ us hl => match us, hl with | [_, _, _], _ => rfl
      g_cut := PySem.W.mg_of X G a_cut
      a_spoil := f_spoil
      d_spoil := PySem.W.fnOf "_law_spoil" "_law_spoil" (defArgs s_spoil) (defBody s_spoil) (defScope s_spoil) .none kV_spoil dc_spoil pm_spoil an_spoil cd_spoil ct_spoil
      F_spoil := fun_mk (st := s_spoil) l_spoil c_spoil k_spoil
      b_spoil := (fun_mk (st := s_spoil) l_spoil c_spoil k_spoil).binds (ps := ["_law_draws_here", "_law_members", "_law_rows"]) fun _ _ _ _ _ _ us hl => match us, hl with | [_, _, _], _ => rfl
      g_spoil := PySem.W.mg_of X G a_spoil
      a_lis_sound := f_lis_sound
      d_lis_sound := PySem.W.fnOf "_law_is_sound" "_law_is_sound" (defArgs s_lis_sound) (defBody s_lis_sound) (defScope s_lis_sound) .none kV_lis_sound dc_lis_sound pm_lis_sound an_lis_sound cd_lis_sound ct_lis_sound
      F_lis_sound := fun_mk (st := s_lis_sound) l_lis_sound c_lis_sound k_lis_sound
      b_lis_sound := (fun_mk (st := s_lis_sound) l_lis_sound c_lis_sound k_lis_sound).binds (ps := ["_law_members", "_law_counts", "_law_rows", "_law_row"]) fun _ _ _ _ _ _ us hl => match us, hl with | [_, _, _, _], _ => rfl
      g_lis_sound := PySem.W.mg_of X G a_lis_sound
      a_law := f_law
      d_law := PySem.W.fnOf "law" "law" (defArgs s_law) (defBody s_law) (defScope s_law) .none kV_law dc_law pm_law an_law cd_law ct_law
      F_law := fun_mk (st := s_law) l_law c_law k_law
      b_law := (fun_mk (st := s_law) l_law c_law k_law).binds (ps := ["_law_script"]) fun _ _ _ _ _ _ us hl => match us, hl with | [_], _ => rfl
      g_law := PySem.W.mg_of X G a_law
      z_bool := PySem.W.mg_none_of X G z_bool
      z_int := PySem.W.mg_none_of X G z_int
      z_isinstance := PySem.W.mg_none_of X G z_isinstance
      z_len := PySem.W.mg_none_of X G z_len
      z_list := PySem.W.mg_none_of X G z_list
      z_max := PySem.W.mg_none_of X G z_max
      z_min := PySem.W.mg_none_of X G z_min
      z_range := PySem.W.mg_none_of X G z_range
      z_sorted := PySem.W.mg_none_of X G z_sorted
      z_sum := PySem.W.mg_none_of X G z_sum
      z_tuple := PySem.W.mg_none_of X G z_tuple }).imp (fun vs H Q E q => law_sp q)⟩
end Kb
open PySem PySem.W PyProof.Rows
theorem Kb.relI (i : Int) (t : Tok) : L2.RelV (L2.V.int i) (Value.int i t) := ⟨t, rfl⟩
theorem Kb.relS (x : Str) (t : Tok) : L2.RelV (L2.V.str x) (Value.str x t) := ⟨t, rfl⟩
set_option maxRecDepth 100000 in
set_option maxHeartbeats 0 in
theorem PySem.Challenge.cw_kithbase_k04_heard_lists_fit_holds : PySem.Challenge.rw_kithbase_k04_heard_lists_fit.Holds := by
  w_on; o_law; k_head; (case hw => w_witness2)
  k_fill
  refine L2.walk_of (l := PySem.Challenge.rw_kithbase_k04_heard_lists_fit) (n := 63) (k := 7) (x := "_law_script") (CX := fun _ => L2.CX0) (sp := fun w => Kb.spLaw _) rfl (by decide) rfl ⟨rfl, by decide, by decide⟩ (fun w h Y => PySem.W.kIn_of Y) ?F (fun _ _ a ns hl _ hS => ⟨a, ns, rfl, hS, hl, fun _ => rfl⟩) (fun _ _ _ _ _ h => h)
  case F =>
    intro w mg fa h KX G hmg
    refine' Kb.all_mk KX G hmg ?aC_Change ?pg_Change ?hd_Change ?po_Change ?sa_Change ?mk_Change ?kc_Change ?n_Change_author ?n_Change_capability ?n_Change_heard ?n_Change_number ?n_Change_parts ?n_Change_publics ?aC_Kept ?pg_Kept ?hd_Kept ?po_Kept ?sa_Kept ?mk_Kept ?kc_Kept ?n_Kept_acts ?n_Kept_sums ?n_Kept_texts ?aC_Store ?pg_Store ?hd_Store ?po_Store ?sa_Store ?mk_Store ?kc_Store ?n_Store_capabilities ?n_Store_changes ?n_Store_cut ?n_Store_kept ?n_Store_members ?a_as_tuple ?l_as_tuple ?c_as_tuple ?k_as_tuple ?a_Change_init ?i_Change_init ?l_Change_init ?c_Change_init ?k_Change_init ?a_Change_header ?i_Change_header ?l_Change_header ?c_Change_header ?k_Change_header ?a_order_key ?l_order_key ?c_order_key ?k_order_key ?a_in_order ?l_in_order ?c_in_order ?k_in_order ?a_Kept_init ?i_Kept_init ?l_Kept_init ?c_Kept_init ?k_Kept_init ?a_Kept_data ?i_Kept_data ?l_Kept_data ?c_Kept_data ?k_Kept_data ?a_Store_init ?i_Store_init ?l_Store_init ?c_Store_init ?k_Store_init ?a_Store_count ?i_Store_count ?l_Store_count ?c_Store_count ?k_Store_count ?a_Store_find ?i_Store_find ?l_Store_find ?c_Store_find ?k_Store_find ?a_Store_all_changes ?i_Store_all_changes ?l_Store_all_changes ?c_Store_all_changes ?k_Store_all_changes ?a_Store_add ?i_Store_add ?l_Store_add ?c_Store_add ?k_Store_add ?a_Store_data ?i_Store_data ?l_Store_data ?c_Store_data ?k_Store_data ?a_kept_data ?l_kept_data ?c_kept_data ?k_kept_data ?a_covers ?l_covers ?c_covers ?k_covers ?a_is_sound ?l_is_sound ?c_is_sound ?k_is_sound ?a_is_whole ?l_is_whole ?c_is_whole ?k_is_whole ?a_mix ?l_mix ?c_mix ?k_mix ?a_draws ?l_draws ?c_draws ?k_draws ?a_at ?l_at ?c_at ?k_at ?a_told ?l_told ?c_told ?k_told ?a_cut ?l_cut ?c_cut ?k_cut ?a_spoil ?l_spoil ?c_spoil ?k_spoil ?a_lis_sound ?l_lis_sound ?c_lis_sound ?k_lis_sound ?a_law ?l_law ?c_law ?k_law ?z_bool ?z_int ?z_isinstance ?z_len ?z_list ?z_max ?z_min ?z_range ?z_sorted ?z_sum ?z_tuple ?gc_SPACES ?rc_SPACES ?qc_SPACES
    (case aC_Change => k_is)
    (case pg_Change => k_is)
    (case hd_Change => k_is)
    (case po_Change => k_is)
    (case sa_Change => k_is)
    (case mk_Change => k_is)
    (case kc_Change => k_is)
    (case n_Change_author => k_is)
    (case n_Change_capability => k_is)
    (case n_Change_heard => k_is)
    (case n_Change_number => k_is)
    (case n_Change_parts => k_is)
    (case n_Change_publics => k_is)
    (case aC_Kept => k_is)
    (case pg_Kept => k_is)
    (case hd_Kept => k_is)
    (case po_Kept => k_is)
    (case sa_Kept => k_is)
    (case mk_Kept => k_is)
    (case kc_Kept => k_is)
    (case n_Kept_acts => k_is)
    (case n_Kept_sums => k_is)
    (case n_Kept_texts => k_is)
    (case aC_Store => k_is)
    (case pg_Store => k_is)
    (case hd_Store => k_is)
    (case po_Store => k_is)
    (case sa_Store => k_is)
    (case mk_Store => k_is)
    (case kc_Store => k_is)
    (case n_Store_capabilities => k_is)
    (case n_Store_changes => k_is)
    (case n_Store_cut => k_is)
    (case n_Store_kept => k_is)
    (case n_Store_members => k_is)
    (case a_as_tuple => k_is)
    (case l_as_tuple => k_is)
    (case c_as_tuple => k_is)
    (case k_as_tuple => k_is)
    (case a_Change_init => k_is)
    (case i_Change_init => k_is)
    (case l_Change_init => k_is)
    (case c_Change_init => k_is)
    (case k_Change_init => k_is)
    (case a_Change_header => k_is)
    (case i_Change_header => k_is)
    (case l_Change_header => k_is)
    (case c_Change_header => k_is)
    (case k_Change_header => k_is)
    (case a_order_key => k_is)
    (case l_order_key => k_is)
    (case c_order_key => k_is)
    (case k_order_key => k_is)
    (case a_in_order => k_is)
    (case l_in_order => k_is)
    (case c_in_order => k_is)
    (case k_in_order => k_is)
    (case a_Kept_init => k_is)
    (case i_Kept_init => k_is)
    (case l_Kept_init => k_is)
    (case c_Kept_init => k_is)
    (case k_Kept_init => k_is)
    (case a_Kept_data => k_is)
    (case i_Kept_data => k_is)
    (case l_Kept_data => k_is)
    (case c_Kept_data => k_is)
    (case k_Kept_data => k_is)
    (case a_Store_init => k_is)
    (case i_Store_init => k_is)
    (case l_Store_init => k_is)
    (case c_Store_init => k_is)
    (case k_Store_init => k_is)
    (case a_Store_count => k_is)
    (case i_Store_count => k_is)
    (case l_Store_count => k_is)
    (case c_Store_count => k_is)
    (case k_Store_count => k_is)
    (case a_Store_find => k_is)
    (case i_Store_find => k_is)
    (case l_Store_find => k_is)
    (case c_Store_find => k_is)
    (case k_Store_find => k_is)
    (case a_Store_all_changes => k_is)
    (case i_Store_all_changes => k_is)
    (case l_Store_all_changes => k_is)
    (case c_Store_all_changes => k_is)
    (case k_Store_all_changes => k_is)
    (case a_Store_add => k_is)
    (case i_Store_add => k_is)
    (case l_Store_add => k_is)
    (case c_Store_add => k_is)
    (case k_Store_add => k_is)
    (case a_Store_data => k_is)
    (case i_Store_data => k_is)
    (case l_Store_data => k_is)
    (case c_Store_data => k_is)
    (case k_Store_data => k_is)
    (case a_kept_data => k_is)
    (case l_kept_data => k_is)
    (case c_kept_data => k_is)
    (case k_kept_data => k_is)
    (case a_covers => k_is)
    (case l_covers => k_is)
    (case c_covers => k_is)
    (case k_covers => k_is)
    (case a_is_sound => k_is)
    (case l_is_sound => k_is)
    (case c_is_sound => k_is)
    (case k_is_sound => k_is)
    (case a_is_whole => k_is)
    (case l_is_whole => k_is)
    (case c_is_whole => k_is)
    (case k_is_whole => k_is)
    (case a_mix => k_is)
    (case l_mix => k_is)
    (case c_mix => k_is)
    (case k_mix => k_is)
    (case a_draws => k_is)
    (case l_draws => k_is)
    (case c_draws => k_is)
    (case k_draws => k_is)
    (case a_at => k_is)
    (case l_at => k_is)
    (case c_at => k_is)
    (case k_at => k_is)
    (case a_told => k_is)
    (case l_told => k_is)
    (case c_told => k_is)
    (case k_told => k_is)
    (case a_cut => k_is)
    (case l_cut => k_is)
    (case c_cut => k_is)
    (case k_cut => k_is)
    (case a_spoil => k_is)
    (case l_spoil => k_is)
    (case c_spoil => k_is)
    (case k_spoil => k_is)
    (case a_lis_sound => k_is)
    (case l_lis_sound => k_is)
    (case c_lis_sound => k_is)
    (case k_lis_sound => k_is)
    (case a_law => k_is)
    (case l_law => k_is)
    (case c_law => k_is)
    (case k_law => k_is)
    (case z_bool => k_is)
    (case z_int => k_is)
    (case z_isinstance => k_is)
    (case z_len => k_is)
    (case z_list => k_is)
    (case z_max => k_is)
    (case z_min => k_is)
    (case z_range => k_is)
    (case z_sorted => k_is)
    (case z_sum => k_is)
    (case z_tuple => k_is)
    (case gc_SPACES => k_is)
    (case rc_SPACES => exact Kb.relI _ _)
    (case qc_SPACES => intro F cl; exact .int _)

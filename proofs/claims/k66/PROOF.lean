import PyProof.Rows.All
import Wide.All
import OpenK.AllK
import Wide.FinOn
import HandS.ForMost
import HandS.IsInst
import HandS.Wide
import HandS.TupAny
import HandS.Flow
import HandS.Text
import HandS.Codes
import KE.KTupSum
import KE.SortKeyHeap
import HandS.SortKw
import HandS.Keys
import HandS.Strs
import PySem.Challenge.RW_kithbase_k66_bytes_of_codes
set_option Elab.async false
set_option linter.all false
set_option maxRecDepth 100000
set_option maxHeartbeats 4000000
/-! values without a heap, over HandS -/
namespace Pv
open PySem PySem.Spec PyProof.Rows L2

/-- data, by value -/
inductive P where
  | non | bl (b : Bool) | int (i : Int) | str (x : Str)
  | tup (ps : List P) | lst (ps : List P)
  | dK (kvs : List (Key × P)) | dT (kvs : List (List Key × P))
  | ins (c : Nat) (fs : List (Str × P))
/-- a value of a name: data, or the place of an object that may change -/
inductive D where
  | p (x : P) | ref (n : Nat)
/-- an object that may change -/
inductive Ob where
  | lst (ds : List D) | dK (kvs : List (Key × D)) | dT (kvs : List (List Key × D)) | ins (c : Nat) (fs : List (Str × D))
/-- all objects that may change; those from b on were made by the def that runs -/
structure SH where
  b : Nat
  os : List Ob
abbrev SH.len (S : SH) : Nat := S.os.length
abbrev En := List (Option D)
def D.lt (k : Nat) : D → Prop | .p _ => True | .ref n => n < k
def Ob.ds : Ob → List D | .lst ds => ds | .dK kvs => kvs.map (·.2) | .dT kvs => kvs.map (·.2) | .ins _ fs => fs.map (·.2)
def Ob.lt (k : Nat) (o : Ob) : Prop := ∀ d ∈ o.ds, d.lt k
theorem D.lt.mono {j k : Nat} {d : D} (h : d.lt j) (l : j ≤ k) : d.lt k := by
  cases d with
  | p x => trivial
  | ref n => exact Nat.lt_of_lt_of_le h l

section
variable (K : PySem.W.Frag) (cl : Nat → Addr)
mutual
inductive Rp (F : Hp) : P → V → Prop
  | non : Rp F .non .non
  | bl (b : Bool) : Rp F (.bl b) (.bl b)
  | int (i : Int) : Rp F (.int i) (.int i)
  | str (x : Str) : Rp F (.str x) (.str x)
  | tup {a : Addr} {ps : List P} {vs : List V} : SqT K F a vs → RpA F ps vs → Rp F (.tup ps) (.ref a)
  | lst {a : Addr} {ps : List P} {vs : List V} : SqL K F a vs → RpA F ps vs → Rp F (.lst ps) (.ref a)
  | dK {a : Addr} {kvs : List (Key × P)} {vs : List (Key × V)} : F a = some (.dK vs) → RpK F kvs vs → Rp F (.dK kvs) (.ref a)
  | dT {a : Addr} {kvs : List (List Key × P)} {vs : List (List Key × V)} : F a = some (.dT vs) → RpT F kvs vs → Rp F (.dT kvs) (.ref a)
  | ins {a dx : Addr} {c : Nat} {fs : List (Str × P)} {gs : List (Str × V)} : F a = some (.ins (cl c) dx gs) → RpF F fs gs → Rp F (.ins c fs) (.ref a)
inductive RpA (F : Hp) : List P → List V → Prop
  | nil : RpA F [] []
  | cons {x : P} {xs : List P} {v : V} {vs : List V} : Rp F x v → RpA F xs vs → RpA F (x :: xs) (v :: vs)
inductive RpK (F : Hp) : List (Key × P) → List (Key × V) → Prop
  | nil : RpK F [] []
  | cons {k : Key} {x : P} {xs : List (Key × P)} {v : V} {vs : List (Key × V)} : Rp F x v → RpK F xs vs → RpK F ((k, x) :: xs) ((k, v) :: vs)
inductive RpT (F : Hp) : List (List Key × P) → List (List Key × V) → Prop
  | nil : RpT F [] []
  | cons {k : List Key} {x : P} {xs : List (List Key × P)} {v : V} {vs : List (List Key × V)} : Rp F x v → RpT F xs vs → RpT F ((k, x) :: xs) ((k, v) :: vs)
inductive RpF (F : Hp) : List (Str × P) → List (Str × V) → Prop
  | nil : RpF F [] []
  | cons {k : Str} {x : P} {xs : List (Str × P)} {v : V} {vs : List (Str × V)} : Rp F x v → RpF F xs vs → RpF F ((k, x) :: xs) ((k, v) :: vs)
end
/-- a value of a name -/
def DR (F : Hp) (φ : Nat → Addr) : D → V → Prop
  | .p x, v => Rp K cl F x v
  | .ref n, v => v = .ref (φ n)
abbrev DRA (F : Hp) (φ : Nat → Addr) : List D → List V → Prop := Paired (DR K cl F φ)
abbrev DRK {κ : Type} (F : Hp) (φ : Nat → Addr) : List (κ × D) → List (κ × V) → Prop := Paired fun p q => p.1 = q.1 ∧ DR K cl F φ p.2 q.2
def OR (F : Hp) (φ : Nat → Addr) (x : Option HO) : Ob → Prop
  | .lst ds => ∃ vs, x = some (.lst vs) ∧ DRA K cl F φ ds vs
  | .dK kvs => ∃ vs, x = some (.dK vs) ∧ DRK K cl F φ kvs vs
  | .dT kvs => ∃ vs, x = some (.dT vs) ∧ DRK K cl F φ kvs vs
  | .ins c fs => ∃ dx gs, x = some (.ins (cl c) dx gs) ∧ DRK K cl F φ fs gs
/-- the objects by place, the data, and the heap -/
structure Sim (S : SH) (B : List Nat) (F : Hp) (φ : Nat → Addr) (H : Hp) : Prop where
  le : Same F H
  ob : ∀ (n : Nat) (o : Ob), S.os[n]? = some o → F (φ n) = none ∧ OR K cl F φ (H (φ n)) o
  inj : ∀ n m, n < S.len → m < S.len → φ n = φ m → n = m
  wf : ∀ (n : Nat) (o : Ob), S.os[n]? = some o → o.lt S.len
  bs : ∀ b ∈ B, b ≤ S.b ∧ ∀ (n : Nat) (o : Ob), S.os[n]? = some o → n < b → o.lt b
  bl : S.b ≤ S.len
/-- what a step may have done -/
structure Ext (S : SH) (F : Hp) (φ : Nat → Addr) (H : Hp) (S' : SH) (F' : Hp) (φ' : Nat → Addr) (H' : Hp) : Prop where
  fz : Same F F'
  len : S.len ≤ S'.len
  b : S'.b = S.b
  phi : ∀ n, n < S.len → φ' n = φ n
  new : ∀ n, S.len ≤ n → n < S'.len → H (φ' n) = none
  keep : ∀ a o, H a = some o → (∀ n, n < S.len → φ n ≠ a) → H' a = some o
  tr : ∀ n, n < S.len → H' (φ n) ≠ none
  fr : ∀ a o, H a = some o → F a = none → (∀ n, n < S.len → φ n ≠ a) → F' a = none
/-- the names -/
def RS (F : Hp) (φ : Nat → Addr) (k : Nat) (σd : En) (σ : L2.St) : Prop :=
  σd.length = σ.length ∧ ∀ (i : Nat) (d : D), σd[i]? = some (some d) → d.lt k ∧ ∃ v : V, σ[i]? = some (some v) ∧ DR K cl F φ d v
end

section
variable {K : PySem.W.Frag} {cl : Nat → Addr} {S S' S1 S2 : SH} {B : List Nat} {F F' F1 F2 H H' H1 H2 : Hp} {φ φ' φ1 φ2 : Nat → Addr}
theorem SqL.mono (h : Same F F') {a : Addr} {xs : List V} (q : SqL K F a xs) : SqL K F' a xs := h.seq q
theorem SqT.mono (e : Same F F') {a : Addr} {xs : List V} (h : SqT K F a xs) : SqT K F' a xs := by
  rcases h with (h | ⟨o, h⟩) | h
  · exact .inl (.inl (e _ _ h))
  · exact .inl (.inr ⟨o, e _ _ h⟩)
  · exact .inr h
mutual
theorem Rp.mono (h : Same F F') {x : P} {v : V} : Rp K cl F x v → Rp K cl F' x v
  | .non => .non
  | .bl b => .bl b
  | .int i => .int i
  | .str x => .str x
  | .tup q r => .tup (SqT.mono h q) (RpA.mono h r)
  | .lst q r => .lst (SqL.mono h q) (RpA.mono h r)
  | .dK q r => .dK (h _ _ q) (RpK.mono h r)
  | .dT q r => .dT (h _ _ q) (RpT.mono h r)
  | .ins q r => .ins (h _ _ q) (RpF.mono h r)
theorem RpA.mono (h : Same F F') {x : List P} {v : List V} : RpA K cl F x v → RpA K cl F' x v
  | .nil => .nil
  | .cons a b => .cons (Rp.mono h a) (RpA.mono h b)
theorem RpK.mono (h : Same F F') {x : List (Key × P)} {v : List (Key × V)} : RpK K cl F x v → RpK K cl F' x v
  | .nil => .nil
  | .cons a b => .cons (Rp.mono h a) (RpK.mono h b)
theorem RpT.mono (h : Same F F') {x : List (List Key × P)} {v : List (List Key × V)} : RpT K cl F x v → RpT K cl F' x v
  | .nil => .nil
  | .cons a b => .cons (Rp.mono h a) (RpT.mono h b)
theorem RpF.mono (h : Same F F') {x : List (Str × P)} {v : List (Str × V)} : RpF K cl F x v → RpF K cl F' x v
  | .nil => .nil
  | .cons a b => .cons (Rp.mono h a) (RpF.mono h b)
end
theorem DR.mono (h : Same F F') {k : Nat} (p : ∀ n, n < k → φ' n = φ n) {d : D} {v : V} (l : d.lt k) (r : DR K cl F φ d v) : DR K cl F' φ' d v := by
  cases d with
  | p x => exact Rp.mono h r
  | ref n => exact r.trans (congrArg V.ref (p n l).symm)
theorem DRA.mono (h : Same F F') {k : Nat} (p : ∀ n, n < k → φ' n = φ n) : ∀ {ds : List D} {vs : List V}, (∀ d ∈ ds, d.lt k) → DRA K cl F φ ds vs → DRA K cl F' φ' ds vs
  | _, _, _, .nil => .nil
  | _, _, l, .cons a b => .cons (DR.mono h p (l _ List.mem_cons_self) a) (DRA.mono h p (fun d q => l d (List.mem_cons_of_mem _ q)) b)
theorem DRK.mono {κ : Type} (h : Same F F') {k : Nat} (p : ∀ n, n < k → φ' n = φ n) : ∀ {ds : List (κ × D)} {vs : List (κ × V)}, (∀ d ∈ ds.map (·.2), d.lt k) → DRK K cl F φ ds vs → DRK K cl F' φ' ds vs
  | _, _, _, .nil => .nil
  | _, _, l, .cons a b => .cons ⟨a.1, DR.mono h p (l _ List.mem_cons_self) a.2⟩ (DRK.mono h p (fun d q => l d (List.mem_cons_of_mem _ q)) b)
theorem OR.mono (h : Same F F') {k : Nat} (p : ∀ n, n < k → φ' n = φ n) {x : Option HO} {o : Ob} (l : o.lt k) (r : OR K cl F φ x o) : OR K cl F' φ' x o := by
  cases o with
  | lst ds => obtain ⟨vs, e, r⟩ := r; exact ⟨vs, e, DRA.mono h p l r⟩
  | dK ds => obtain ⟨vs, e, r⟩ := r; exact ⟨vs, e, DRK.mono h p l r⟩
  | dT ds => obtain ⟨vs, e, r⟩ := r; exact ⟨vs, e, DRK.mono h p l r⟩
  | ins c ds => obtain ⟨dx, vs, e, r⟩ := r; exact ⟨dx, vs, e, DRK.mono h p l r⟩
theorem OR.ne0 {x : Option HO} {o : Ob} (r : OR K cl F φ x o) : x ≠ none := by
  cases o with
  | lst ds => obtain ⟨vs, e, r⟩ := r; rw [e]; simp
  | dK ds => obtain ⟨vs, e, r⟩ := r; rw [e]; simp
  | dT ds => obtain ⟨vs, e, r⟩ := r; rw [e]; simp
  | ins c ds => obtain ⟨dx, vs, e, r⟩ := r; rw [e]; simp
theorem Sim.ne0 (s : Sim K cl S B F φ H) {n : Nat} (h : n < S.len) : H (φ n) ≠ none := (s.ob n _ (List.getElem?_eq_getElem h)).2.ne0
theorem Ext.refl (s : Sim K cl S B F φ H) : Ext S F φ H S F φ H := ⟨Same.refl _, Nat.le_refl _, rfl, fun _ _ => rfl, fun n h1 h2 => absurd h1 (Nat.not_le_of_lt h2), fun _ _ h _ => h, fun _ h => s.ne0 h, fun _ _ _ h _ => h⟩
theorem Ext.trans (a : Ext S F φ H S1 F1 φ1 H1) (b : Ext S1 F1 φ1 H1 S2 F2 φ2 H2) : Ext S F φ H S2 F2 φ2 H2 where
  fz := a.fz.trans b.fz
  len := Nat.le_trans a.len b.len
  b := b.b.trans a.b
  phi := fun n h => (b.phi n (Nat.lt_of_lt_of_le h a.len)).trans (a.phi n h)
  new := fun n h1 h2 => by
    by_cases h3 : n < S1.len
    · rw [b.phi n h3]
      exact a.new n h1 h3
    · cases e : H (φ2 n) with
      | none => rfl
      | some o =>
        have z := b.new n (Nat.le_of_not_lt h3) h2
        by_cases q : ∃ m, m < S.len ∧ φ m = φ2 n
        · obtain ⟨m, hm, ee⟩ := q
          exact absurd (by rw [ee]; exact z) (a.tr m hm)
        · rw [a.keep _ o e fun m hm ee => q ⟨m, hm, ee⟩] at z; cases z
  keep := fun c o h n => b.keep c o (a.keep c o h n) fun m hm e => by
    by_cases h3 : m < S.len
    · exact n m h3 (by rw [← a.phi m h3]; exact e)
    · have z := a.new m (Nat.le_of_not_lt h3) hm
      rw [e, h] at z; cases z
  tr := fun n h => by
    rw [← a.phi n h]
    exact b.tr n (Nat.lt_of_lt_of_le h a.len)
  fr := fun c o h f n => b.fr c o (a.keep c o h n) (a.fr c o h f n) fun m hm e => by
    by_cases h3 : m < S.len
    · exact n m h3 (by rw [← a.phi m h3]; exact e)
    · have z := a.new m (Nat.le_of_not_lt h3) hm
      rw [e, h] at z; cases z
theorem RS.mono (h : Same F F') {k k' : Nat} (l : k ≤ k') (p : ∀ n, n < k → φ' n = φ n) {σd : En} {σ : L2.St} (r : RS K cl F φ k σd σ) : RS K cl F' φ' k' σd σ :=
  ⟨r.1, fun i d e => let ⟨a, v, b, c⟩ := r.2 i d e; ⟨a.mono l, v, b, DR.mono h p a c⟩⟩
end
end Pv
namespace Pv
open PySem PySem.Spec PyProof.Rows L2

abbrev ME := En → SH → Option (D × SH)
abbrev MT := En → SH → Option (Bool × SH)
abbrev MA := En → SH → Option (List D × SH)
inductive Fl where
  | nx (σ : En) | ret (d : D) | brk (σ : En) | ct (σ : En)
abbrev MS := En → SH → Option (Fl × SH)
abbrev MF := List D → SH → Option (D × SH)

section
variable (K : PySem.W.Frag) (cl : Nat → Addr)
/-- an end as wished: a value, a truth, values -/
def OkE (S : SH) (B : List Nat) (F : Hp) (φ : Nat → Addr) (H : Hp) (r : Option (D × SH)) (Q : VK) : Prop :=
  ∃ d S1, r = some (d, S1) ∧ ∀ F1 φ1 H1 u, Sim K cl S1 B F1 φ1 H1 → Ext S F φ H S1 F1 φ1 H1 → DR K cl F1 φ1 d u → d.lt S1.len → Q u H1
def OkT (S : SH) (B : List Nat) (F : Hp) (φ : Nat → Addr) (H : Hp) (r : Option (Bool × SH)) (Q : Bool → Hp → Prop) : Prop :=
  ∃ d S1, r = some (d, S1) ∧ ∀ F1 φ1 H1, Sim K cl S1 B F1 φ1 H1 → Ext S F φ H S1 F1 φ1 H1 → Q d H1
def OkA (S : SH) (B : List Nat) (F : Hp) (φ : Nat → Addr) (H : Hp) (r : Option (List D × SH)) (Q : List V → Hp → Prop) : Prop :=
  ∃ ds S1, r = some (ds, S1) ∧ ∀ F1 φ1 H1 us, Sim K cl S1 B F1 φ1 H1 → Ext S F φ H S1 F1 φ1 H1 → DRA K cl F1 φ1 ds us → (∀ d ∈ ds, d.lt S1.len) → Q us H1
def OkF (S : SH) (B : List Nat) (F : Hp) (φ : Nat → Addr) (H : Hp) (Z : Ends) (S1 : SH) : Fl → Prop
  | .nx σd => ∀ F1 φ1 H1 σ, Sim K cl S1 B F1 φ1 H1 → Ext S F φ H S1 F1 φ1 H1 → RS K cl F1 φ1 S1.len σd σ → Z.nx σ H1
  | .ret d => ∀ F1 φ1 H1 u, Sim K cl S1 B F1 φ1 H1 → Ext S F φ H S1 F1 φ1 H1 → DR K cl F1 φ1 d u → d.lt S1.len → Z.rt u H1
  | .brk σd => ∀ F1 φ1 H1 σ, Sim K cl S1 B F1 φ1 H1 → Ext S F φ H S1 F1 φ1 H1 → RS K cl F1 φ1 S1.len σd σ → Z.bk σ H1
  | .ct σd => ∀ F1 φ1 H1 σ, Sim K cl S1 B F1 φ1 H1 → Ext S F φ H S1 F1 φ1 H1 → RS K cl F1 φ1 S1.len σd σ → Z.ct σ H1
def OkS (S : SH) (B : List Nat) (F : Hp) (φ : Nat → Addr) (H : Hp) (r : Option (Fl × SH)) (Z : Ends) : Prop :=
  ∃ f S1, r = some (f, S1) ∧ OkF K cl S B F φ H Z S1 f
/-- readings out of computations by value -/
def LE (m : ME) : TE := fun σ H Q => ∃ σd S B F φ, Sim K cl S B F φ H ∧ RS K cl F φ S.len σd σ ∧ OkE K cl S B F φ H (m σd S) Q
def LT (m : MT) : TT := fun σ H Q => ∃ σd S B F φ, Sim K cl S B F φ H ∧ RS K cl F φ S.len σd σ ∧ OkT K cl S B F φ H (m σd S) Q
def LA (m : MA) : TA := fun σ H Q => ∃ σd S B F φ, Sim K cl S B F φ H ∧ RS K cl F φ S.len σd σ ∧ OkA K cl S B F φ H (m σd S) Q
def LS (m : MS) : TS := fun Z σ H => ∃ σd S B F φ, Sim K cl S B F φ H ∧ RS K cl F φ S.len σd σ ∧ OkS K cl S B F φ H (m σd S) Z
end

/-! the combinators -/
def bnd {α β : Type} (r : Option (α × SH)) (f : α → SH → Option (β × SH)) : Option (β × SH) := match r with
  | some (a, S) => f a S
  | none => none
@[simp] theorem bnd_some {α β : Type} (a : α) (S : SH) (f : α → SH → Option (β × SH)) : bnd (some (a, S)) f = f a S := id rfl
@[simp] theorem bnd_none {α β : Type} (f : α → SH → Option (β × SH)) : bnd none f = none := id rfl
theorem bnd_of {α β : Type} {r : Option (α × SH)} {f : α → SH → Option (β × SH)} {x : β × SH} (h : bnd r f = some x) : ∃ a S, r = some (a, S) ∧ f a S = some x := by
  cases r with
  | none => cases h
  | some p => exact ⟨p.1, p.2, rfl, h⟩
def isB : D → Option Bool
  | .p (.bl b) => some b
  | _ => none
theorem isB_of {d : D} {b : Bool} (h : isB d = some b) : d = .p (.bl b) := by
  cases d with
  | ref n => cases h
  | p x => cases x <;> cases h <;> rfl
def dVar (i : Nat) : ME := fun σ S => match σ[i]? with | some (some d) => some (d, S) | _ => none
def dC (x : P) : ME := fun _ S => some (.p x, S)
def dOp (f : D → D → SH → Option (D × SH)) (a b : ME) : ME := fun σ S => bnd (a σ S) fun x S1 => bnd (b σ S1) fun y S2 => f x y S2
def dUn (f : D → SH → Option (D × SH)) (a : ME) : ME := fun σ S => bnd (a σ S) fun x S1 => f x S1
def toB (d : D) (S : SH) : Option (Bool × SH) := match isB d with | some b => some (b, S) | none => none
@[simp] theorem toB_p (b : Bool) (S : SH) : toB (.p (.bl b)) S = some (b, S) := id rfl
def dTest (a : ME) : MT := fun σ S => bnd (a σ S) toB
def dAnd (a b : MT) : MT := fun σ S => bnd (a σ S) fun t S1 => if t = true then b σ S1 else some (false, S1)
def dOr (a b : MT) : MT := fun σ S => bnd (a σ S) fun t S1 => if t = true then some (true, S1) else b σ S1
def dNot (a : MT) : MT := fun σ S => bnd (a σ S) fun t S1 => some (!t, S1)
def dNotV (a : ME) : ME := fun σ S => bnd (a σ S) fun d S1 => bnd (toB d S1) fun t S2 => some (.p (.bl (!t)), S2)
def dAndV (a b : ME) : ME := fun σ S => bnd (a σ S) fun d S1 => bnd (toB d S1) fun t S2 => if t = true then b σ S2 else some (.p (.bl false), S2)
def dOrV (a b : ME) : ME := fun σ S => bnd (a σ S) fun d S1 => bnd (toB d S1) fun t S2 => if t = true then some (.p (.bl true), S2) else b σ S2
def dIfE (t : MT) (a b : ME) : ME := fun σ S => bnd (t σ S) fun t S1 => if t = true then a σ S1 else b σ S1
def dNil : MA := fun _ S => some ([], S)
def dCons (a : ME) (r : MA) : MA := fun σ S => bnd (a σ S) fun x S1 => bnd (r σ S1) fun xs S2 => some (x :: xs, S2)
def dCall (f : MF) (a : MA) : ME := fun σ S => bnd (a σ S) fun xs S1 => f xs S1
def dNx : MS := fun σ S => some (.nx σ, S)
def dSeq (a b : MS) : MS := fun σ S => bnd (a σ S) fun f S1 => match f with | .nx σ1 => b σ1 S1 | r => some (r, S1)
def dBrk : MS := fun σ S => some (.brk σ, S)
def dCt : MS := fun σ S => some (.ct σ, S)
def dDrop (a : ME) : MS := fun σ S => bnd (a σ S) fun _ S1 => some (.nx σ, S1)
def dRet (a : ME) : MS := fun σ S => bnd (a σ S) fun d S1 => some (.ret d, S1)
def dRetN : MS := fun _ S => some (.ret (.p .non), S)
def dIf (t : MT) (a b : MS) : MS := fun σ S => bnd (t σ S) fun t S1 => if t = true then a σ S1 else b σ S1
def dNever : MS := fun _ _ => none
def dSet (i : Nat) (a : ME) : MS := fun σ S => bnd (a σ S) fun d S1 => some (.nx (σ.set i (some d)), S1)
/-- forget what some names hold -/
def wipeD : List Nat → En → En
  | [], σ => σ
  | i :: r, σ => wipeD r (σ.set i none)
def dWipe (vs : List Nat) (a : MS) : MS := fun σ S => a (wipeD vs σ) S

section
variable {K : PySem.W.Frag} {cl : Nat → Addr} {S S' S1 S2 : SH} {B : List Nat} {F F' F1 F2 H H' H1 H2 : Hp} {φ φ' φ1 φ2 : Nat → Addr}
theorem Ext.rs (e : Ext S F φ H S1 F1 φ1 H1) {σd : En} {σ : L2.St} (r : RS K cl F φ S.len σd σ) : RS K cl F1 φ1 S1.len σd σ := r.mono e.fz e.len e.phi
theorem Ext.dr (e : Ext S F φ H S1 F1 φ1 H1) {d : D} {v : V} (l : d.lt S.len) (r : DR K cl F φ d v) : DR K cl F1 φ1 d v := DR.mono e.fz e.phi l r
theorem Ext.lt (e : Ext S F φ H S1 F1 φ1 H1) {d : D} (l : d.lt S.len) : d.lt S1.len := l.mono e.len
theorem Ext.dra (e : Ext S F φ H S1 F1 φ1 H1) {d : List D} {v : List V} (l : ∀ x ∈ d, x.lt S.len) (r : DRA K cl F φ d v) : DRA K cl F1 φ1 d v := DRA.mono e.fz e.phi l r
theorem OkE.ext (e : Ext S F φ H S1 F1 φ1 H1) {r : Option (D × SH)} {Q : VK} (h : OkE K cl S B F φ H r Q) : OkE K cl S1 B F1 φ1 H1 r Q := by
  obtain ⟨d, S2, er, k⟩ := h
  exact ⟨d, S2, er, fun F2 φ2 H2 u s x => k F2 φ2 H2 u s (e.trans x)⟩
theorem OkT.ext (e : Ext S F φ H S1 F1 φ1 H1) {r : Option (Bool × SH)} {Q : Bool → Hp → Prop} (h : OkT K cl S B F φ H r Q) : OkT K cl S1 B F1 φ1 H1 r Q := by
  obtain ⟨d, S2, er, k⟩ := h
  exact ⟨d, S2, er, fun F2 φ2 H2 s x => k F2 φ2 H2 s (e.trans x)⟩
theorem OkA.ext (e : Ext S F φ H S1 F1 φ1 H1) {r : Option (List D × SH)} {Q : List V → Hp → Prop} (h : OkA K cl S B F φ H r Q) : OkA K cl S1 B F1 φ1 H1 r Q := by
  obtain ⟨d, S2, er, k⟩ := h
  exact ⟨d, S2, er, fun F2 φ2 H2 u s x => k F2 φ2 H2 u s (e.trans x)⟩
theorem OkF.ext (e : Ext S F φ H S1 F1 φ1 H1) {f : Fl} {Z : Ends} (h : OkF K cl S B F φ H Z S2 f) : OkF K cl S1 B F1 φ1 H1 Z S2 f := by
  cases f with
  | nx σ => exact fun F2 φ2 H2 u s x => h F2 φ2 H2 u s (e.trans x)
  | ret d => exact fun F2 φ2 H2 u s x => h F2 φ2 H2 u s (e.trans x)
  | brk σ => exact fun F2 φ2 H2 u s x => h F2 φ2 H2 u s (e.trans x)
  | ct σ => exact fun F2 φ2 H2 u s x => h F2 φ2 H2 u s (e.trans x)
theorem OkS.ext (e : Ext S F φ H S1 F1 φ1 H1) {r : Option (Fl × SH)} {Z : Ends} (h : OkS K cl S B F φ H r Z) : OkS K cl S1 B F1 φ1 H1 r Z := by
  obtain ⟨f, S2, er, k⟩ := h
  exact ⟨f, S2, er, k.ext e⟩
/-- one after the other: what the first one leaves -/
theorem LE.then_ {m : ME} {σ : L2.St} {σd : En} {Q : VK} {d : D} (s : Sim K cl S B F φ H) (r : RS K cl F φ S.len σd σ) (e : m σd S = some (d, S1))
    (k : ∀ F1 φ1 H1 u, Sim K cl S1 B F1 φ1 H1 → Ext S F φ H S1 F1 φ1 H1 → RS K cl F1 φ1 S1.len σd σ → DR K cl F1 φ1 d u → d.lt S1.len → Q u H1) : LE K cl m σ H Q :=
  ⟨σd, S, B, F, φ, s, r, d, S1, e, fun F1 φ1 H1 u s1 x dr l => k F1 φ1 H1 u s1 x (x.rs r) dr l⟩
theorem LT.then_ {m : MT} {σ : L2.St} {σd : En} {Q : Bool → Hp → Prop} {d : Bool} (s : Sim K cl S B F φ H) (r : RS K cl F φ S.len σd σ) (e : m σd S = some (d, S1))
    (k : ∀ F1 φ1 H1, Sim K cl S1 B F1 φ1 H1 → Ext S F φ H S1 F1 φ1 H1 → RS K cl F1 φ1 S1.len σd σ → Q d H1) : LT K cl m σ H Q :=
  ⟨σd, S, B, F, φ, s, r, d, S1, e, fun F1 φ1 H1 s1 x => k F1 φ1 H1 s1 x (x.rs r)⟩
theorem LA.then_ {m : MA} {σ : L2.St} {σd : En} {Q : List V → Hp → Prop} {d : List D} (s : Sim K cl S B F φ H) (r : RS K cl F φ S.len σd σ) (e : m σd S = some (d, S1))
    (k : ∀ F1 φ1 H1 u, Sim K cl S1 B F1 φ1 H1 → Ext S F φ H S1 F1 φ1 H1 → RS K cl F1 φ1 S1.len σd σ → DRA K cl F1 φ1 d u → (∀ x ∈ d, x.lt S1.len) → Q u H1) : LA K cl m σ H Q :=
  ⟨σd, S, B, F, φ, s, r, d, S1, e, fun F1 φ1 H1 u s1 x dr l => k F1 φ1 H1 u s1 x (x.rs r) dr l⟩
theorem LS.then_ {m : MS} {σ : L2.St} {σd : En} {Z : Ends} {f : Fl} (s : Sim K cl S B F φ H) (r : RS K cl F φ S.len σd σ) (e : m σd S = some (f, S1))
    (k : OkF K cl S B F φ H Z S1 f) : LS K cl m Z σ H := ⟨σd, S, B, F, φ, s, r, f, S1, e, k⟩
/-- the end as it is -/
theorem OkE.fin {r : Option (D × SH)} {Q : VK} {d : D} {u : V} (h : OkE K cl S B F φ H r Q) (e : r = some (d, S1)) (s : Sim K cl S1 B F1 φ1 H1) (x : Ext S F φ H S1 F1 φ1 H1) (dr : DR K cl F1 φ1 d u) (l : d.lt S1.len) : Q u H1 := by
  obtain ⟨d', S', e', k⟩ := h
  rw [e] at e'; cases e'
  exact k F1 φ1 H1 u s x dr l
theorem OkE.fin0 {r : Option (D × SH)} {Q : VK} {d : D} {u : V} (h : OkE K cl S B F φ H r Q) (e : r = some (d, S)) (s : Sim K cl S B F φ H) (dr : DR K cl F φ d u) (l : d.lt S.len) : Q u H := h.fin e s (.refl s) dr l
end

theorem _root_.L2.PE.imp {X : Cx} {e : Expr} {t t' : TE} (h : PE X e t) (i : ∀ σ H Q, t' σ H Q → t σ H Q) : PE X e t' := ⟨fun pins s σ H Q I q => h.run pins s σ H Q I (i σ H Q q)⟩
theorem _root_.L2.PT.imp {X : Cx} {e : Expr} {t t' : TT} (h : PT X e t) (i : ∀ σ H Q, t' σ H Q → t σ H Q) : PT X e t' := ⟨fun pins s σ H Q I q => h.run pins s σ H Q I (i σ H Q q)⟩
theorem _root_.L2.PW.imp {X : Cx} {e : Expr} {t t' : TT} (h : PW X e t) (i : ∀ σ H Q, t' σ H Q → t σ H Q) : PW X e t' := ⟨fun w pins s σ H Q I q => h.run w pins s σ H Q I (i σ H Q q)⟩
theorem _root_.L2.PA.imp {X : Cx} {e : List Expr} {t t' : TA} (h : PA X e t) (i : ∀ σ H Q, t' σ H Q → t σ H Q) : PA X e t' := ⟨fun p pins s σ H Q I q => h.run p pins s σ H Q I (i σ H Q q)⟩
theorem _root_.L2.PS.imp {X : Cx} {e : Stmt} {t t' : TS} (h : PS X e t) (i : ∀ Z σ H, t' Z σ H → t Z σ H) : PS X e t' := ⟨fun pins s σ H Z I q => h.run pins s σ H Z I (i Z σ H q)⟩
theorem _root_.L2.PSs.imp {X : Cx} {e : List Stmt} {t t' : TS} (h : PSs X e t) (i : ∀ Z σ H, t' Z σ H → t Z σ H) : PSs X e t' := ⟨fun pins s σ H Z I q => h.run pins s σ H Z I (i Z σ H q)⟩

/-! the rules -/
section
variable {X : Cx} {cl : Nat → Addr}
/-- an operation by values: its reading follows from its computation -/
def OpD (K : PySem.W.Frag) (cl : Nat → Addr) (f : D → D → SH → Option (D × SH)) (r : R2) : Prop :=
  ∀ S B F φ H d1 d2 x y Q, Sim K cl S B F φ H → DR K cl F φ d1 x → DR K cl F φ d2 y → d1.lt S.len → d2.lt S.len → OkE K cl S B F φ H (f d1 d2 S) Q → r x y H Q
def UnD (K : PySem.W.Frag) (cl : Nat → Addr) (f : D → SH → Option (D × SH)) (r : V → Hp → VK → Prop) : Prop :=
  ∀ S B F φ H d x Q, Sim K cl S B F φ H → DR K cl F φ d x → d.lt S.len → OkE K cl S B F φ H (f d S) Q → r x H Q
def CallD (K : PySem.W.Frag) (cl : Nat → Addr) (f : MF) (r : List V → Hp → VK → Prop) : Prop :=
  ∀ S B F φ H ds xs Q, Sim K cl S B F φ H → DRA K cl F φ ds xs → (∀ d ∈ ds, d.lt S.len) → OkE K cl S B F φ H (f ds S) Q → r xs H Q

theorem okE_bnd {K : PySem.W.Frag} {α : Type} {S : SH} {B : List Nat} {F : Hp} {φ : Nat → Addr} {H : Hp} {r : Option (α × SH)} {f : α → SH → Option (D × SH)} {Q : VK} (h : OkE K cl S B F φ H (bnd r f) Q) : ∃ a S1, r = some (a, S1) ∧ OkE K cl S B F φ H (f a S1) Q := by
  cases r with
  | none => obtain ⟨_, _, z, _⟩ := h; cases z
  | some p => exact ⟨p.1, p.2, rfl, h⟩
theorem okT_bnd {K : PySem.W.Frag} {α : Type} {S : SH} {B : List Nat} {F : Hp} {φ : Nat → Addr} {H : Hp} {r : Option (α × SH)} {f : α → SH → Option (Bool × SH)} {Q : Bool → Hp → Prop} (h : OkT K cl S B F φ H (bnd r f) Q) : ∃ a S1, r = some (a, S1) ∧ OkT K cl S B F φ H (f a S1) Q := by
  cases r with
  | none => obtain ⟨_, _, z, _⟩ := h; cases z
  | some p => exact ⟨p.1, p.2, rfl, h⟩
theorem okA_bnd {K : PySem.W.Frag} {α : Type} {S : SH} {B : List Nat} {F : Hp} {φ : Nat → Addr} {H : Hp} {r : Option (α × SH)} {f : α → SH → Option (List D × SH)} {Q : List V → Hp → Prop} (h : OkA K cl S B F φ H (bnd r f) Q) : ∃ a S1, r = some (a, S1) ∧ OkA K cl S B F φ H (f a S1) Q := by
  cases r with
  | none => obtain ⟨_, _, z, _⟩ := h; cases z
  | some p => exact ⟨p.1, p.2, rfl, h⟩
theorem okS_bnd {K : PySem.W.Frag} {α : Type} {S : SH} {B : List Nat} {F : Hp} {φ : Nat → Addr} {H : Hp} {r : Option (α × SH)} {f : α → SH → Option (Fl × SH)} {Q : Ends} (h : OkS K cl S B F φ H (bnd r f) Q) : ∃ a S1, r = some (a, S1) ∧ OkS K cl S B F φ H (f a S1) Q := by
  cases r with
  | none => obtain ⟨_, _, z, _⟩ := h; cases z
  | some p => exact ⟨p.1, p.2, rfl, h⟩
theorem toB_of {d : D} {S S' : SH} {b : Bool} (h : toB d S = some (b, S')) : d = .p (.bl b) ∧ S' = S := by
  unfold toB at h
  cases e : isB d with
  | none => rw [e] at h; cases h
  | some c => rw [e] at h; cases h; exact ⟨isB_of e, rfl⟩
theorem rp_bl {K : PySem.W.Frag} {F : Hp} {φ : Nat → Addr} {b : Bool} {x : V} (h : DR K cl F φ (.p (.bl b)) x) : x = .bl b := by
  cases (show Rp K cl F (.bl b) x from h); rfl
theorem e_op {K : PySem.W.Frag} {f : D → D → SH → Option (D × SH)} {r : R2} (h : OpD K cl f r) {ma mb : ME} {σ : L2.St} {H : Hp} {Q : VK} (q : LE K cl (dOp f ma mb) σ H Q) : tOp r (LE K cl ma) (LE K cl mb) σ H Q := by
  obtain ⟨σd, S, B, F, φ, s, rs, o⟩ := q
  obtain ⟨d1, S1, ea, o⟩ := okE_bnd o
  obtain ⟨d2, S2, eb, o⟩ := okE_bnd o
  refine LE.then_ s rs ea fun F1 φ1 H1 x s1 x1 rs1 dr1 l1 => ?_
  refine LE.then_ s1 rs1 eb fun F2 φ2 H2 y s2 x2 rs2 dr2 l2 => ?_
  exact h S2 B F2 φ2 H2 d1 d2 x y Q s2 (x2.dr l1 dr1) dr2 (x2.lt l1) l2 (o.ext (x1.trans x2))
theorem e_un {K : PySem.W.Frag} {f : D → SH → Option (D × SH)} {r : V → Hp → VK → Prop} (h : UnD K cl f r) {ma : ME} {σ : L2.St} {H : Hp} {Q : VK} (q : LE K cl (dUn f ma) σ H Q) : tUn r (LE K cl ma) σ H Q := by
  obtain ⟨σd, S, B, F, φ, s, rs, o⟩ := q
  obtain ⟨d1, S1, ea, o⟩ := okE_bnd o
  exact LE.then_ s rs ea fun F1 φ1 H1 x s1 x1 rs1 dr1 l1 => h S1 B F1 φ1 H1 d1 x Q s1 dr1 l1 (o.ext x1)
theorem k_var (i : Nat) {x : Str} {pos : Pos} (hN : X.N[i]? = some x := by rfl) (hv : Vis X.env.scope x := by first | exact Or.inl rfl | exact Or.inr (Or.inl rfl) | exact Or.inr (Or.inr rfl)) (hd : (x == ("__debug__" : Str)) = false := by decide)
    (hcd : (x == ("__classdict__" : Str)) = false := by decide) : PE X (.Name x pos) (LE X.K cl (dVar i)) := by
  refine (pe_var hN hv hd hcd).imp fun σ H Q q => ?_
  obtain ⟨σd, S, B, F, φ, s, rs, d, S1, e, k⟩ := q
  unfold dVar at e
  split at e
  · rename_i d' h
    cases e
    obtain ⟨l, v, hv, dr⟩ := rs.2 i _ h
    exact ⟨v, hv, k F φ H v s (.refl s) dr l⟩
  · cases e
theorem e_c {K : PySem.W.Frag} {p : P} {v : V} {σ : L2.St} {H : Hp} {Q : VK} (q : LE K cl (dC p) σ H Q) (h : ∀ F, Rp K cl F p v) : Q v H := by
  obtain ⟨σd, S, B, F, φ, s, rs, o⟩ := q
  exact o.fin0 rfl s (h F) trivial
theorem k_int {i j pos} : PE X (.Constant (.int i) j pos) (LE X.K cl (dC (.int i))) := pe_int.imp fun _ _ _ q => e_c q fun _ => .int _
theorem k_bl {i j pos} : PE X (.Constant (.bool i) j pos) (LE X.K cl (dC (.bl i))) := pe_bl.imp fun _ _ _ q => e_c q fun _ => .bl _
theorem k_str {i j pos} : PE X (.Constant (.str i) j pos) (LE X.K cl (dC (.str i))) := pe_str.imp fun _ _ _ q => e_c q fun _ => .str _
theorem k_non {j pos} : PE X (.Constant .none j pos) (LE X.K cl (dC .non)) := pe_non.imp fun _ _ _ q => e_c q fun _ => .non
variable {a b c : Expr} {ma mb mc : ME} {ta tb : MT} {pos : Pos}
theorem k_op {op : Operator} {f : D → D → SH → Option (D × SH)} {r : R2} (hd : OpD X.K cl f r) (ho : OpR X (binaryOp op) r) (ha : PE X a (LE X.K cl ma)) (hb : PE X b (LE X.K cl mb)) : PE X (.BinOp a op b pos) (LE X.K cl (dOp f ma mb)) :=
  (pe_op ho ha hb).imp fun _ _ _ q => e_op hd q
theorem k_un {op : UnaryOp} {f : D → SH → Option (D × SH)} {r : V → Hp → VK → Prop} (hd : UnD X.K cl f r) (ho : UnR X (unaryOp op) r) (ha : PE X a (LE X.K cl ma)) : PE X (.UnaryOp op a pos) (LE X.K cl (dUn f ma)) :=
  (pe_un ho ha).imp fun _ _ _ q => e_un hd q
theorem k_cmp {op : CmpOp} {f : D → D → SH → Option (D × SH)} {r : R2} (hd : OpD X.K cl f r) (ho : OpR X (compareOp op) r) (ha : PE X a (LE X.K cl ma)) (hb : PE X b (LE X.K cl mb)) (hm : behindInMarks op b = false) : PE X (.Compare a [op] [b] pos) (LE X.K cl (dOp f ma mb)) :=
  (pe_cmpR ho ha hb hm).imp fun _ _ _ q => e_op hd q
theorem e_test {K : PySem.W.Frag} {ma : ME} {σ : L2.St} {H : Hp} {Q : Bool → Hp → Prop} (q : LT K cl (dTest ma) σ H Q) : LE K cl ma σ H fun x H' => ∃ k, x = .bl k ∧ Q k H' := by
  obtain ⟨σd, S, B, F, φ, s, rs, o⟩ := q
  obtain ⟨d, S1, e, o⟩ := okT_bnd o
  obtain ⟨b, S2, e2, k⟩ := o
  obtain ⟨rfl, rfl⟩ := toB_of e2
  exact LE.then_ s rs e fun F1 φ1 H1 x s1 x1 rs1 dr1 l1 => ⟨b, rp_bl dr1, k F1 φ1 H1 s1 x1⟩
theorem e_test2 {K : PySem.W.Frag} {f : D → D → SH → Option (D × SH)} {r : R2} (h : OpD K cl f r) {ma mb : ME} {σ : L2.St} {H : Hp} {Q : Bool → Hp → Prop} (q : LT K cl (dTest (dOp f ma mb)) σ H Q) : tTest (tOp r (LE K cl ma) (LE K cl mb)) σ H Q := by
  refine e_op h ?_
  exact e_test q
theorem t_cmp {op : CmpOp} {f : D → D → SH → Option (D × SH)} {r : R2} (hd : OpD X.K cl f r) (ho : OpR X (compareOp op) r) (ha : PE X a (LE X.K cl ma)) (hb : PE X b (LE X.K cl mb)) (hm : behindInMarks op b = false) : PT X (.Compare a [op] [b] pos) (LT X.K cl (dTest (dOp f ma mb))) :=
  (pt_cmpR ho ha hb hm).imp fun _ _ _ q => e_test2 hd q
theorem t_val {e : Expr} {m : ME} (h : PE X e (LE X.K cl m)) (he : ∀ whole, isTrue e X.env whole = (do let v ← whole; standAt e.pos; holding [v] (truthy v)) := by intro _; rfl) : PT X e (LT X.K cl (dTest m)) :=
  (pt_val h he).imp fun σ H Q q => e_test q
theorem w_and1 (ha : PT X a (LT X.K cl ta)) : PW X (.BoolOp .And [a] pos) (LT X.K cl ta) := pw_and1 ha
theorem w_or1 (ha : PT X a (LT X.K cl ta)) : PW X (.BoolOp .Or [a] pos) (LT X.K cl ta) := pw_or1 ha
variable {rest : List Expr}
theorem w_and (ha : PT X a (LT X.K cl ta)) (hb : PW X (.BoolOp .And (b :: rest) pos) (LT X.K cl tb)) : PW X (.BoolOp .And (a :: b :: rest) pos) (LT X.K cl (dAnd ta tb)) := by
  refine (pw_and ha hb).imp fun σ H Q q => ?_
  obtain ⟨σd, S, B, F, φ, s, rs, o⟩ := q
  obtain ⟨t, S1, e, o⟩ := okT_bnd o
  refine LT.then_ s rs e fun F1 φ1 H1 s1 x1 rs1 => ?_
  split
  · rename_i ht; rw [if_pos ht] at o; exact ⟨σd, S1, B, F1, φ1, s1, rs1, o.ext x1⟩
  · rename_i ht; rw [if_neg ht] at o
    obtain ⟨_, _, z, k⟩ := o
    cases z
    exact k F1 φ1 H1 s1 x1
theorem w_or (ha : PT X a (LT X.K cl ta)) (hb : PW X (.BoolOp .Or (b :: rest) pos) (LT X.K cl tb)) : PW X (.BoolOp .Or (a :: b :: rest) pos) (LT X.K cl (dOr ta tb)) := by
  refine (pw_or ha hb).imp fun σ H Q q => ?_
  obtain ⟨σd, S, B, F, φ, s, rs, o⟩ := q
  obtain ⟨t, S1, e, o⟩ := okT_bnd o
  refine LT.then_ s rs e fun F1 φ1 H1 s1 x1 rs1 => ?_
  split
  · rename_i ht; rw [if_pos ht] at o
    obtain ⟨_, _, z, k⟩ := o
    cases z
    exact k F1 φ1 H1 s1 x1
  · rename_i ht; rw [if_neg ht] at o; exact ⟨σd, S1, B, F1, φ1, s1, rs1, o.ext x1⟩
theorem t_not (ha : PT X a (LT X.K cl ta)) : PT X (.UnaryOp .Not a pos) (LT X.K cl (dNot ta)) := by
  refine (pt_not ha).imp fun σ H Q q => ?_
  obtain ⟨σd, S, B, F, φ, s, rs, o⟩ := q
  obtain ⟨t, S1, e, o⟩ := okT_bnd o
  refine LT.then_ s rs e fun F1 φ1 H1 s1 x1 rs1 => ?_
  obtain ⟨_, _, z, k⟩ := o
  cases z
  exact k F1 φ1 H1 s1 x1
theorem k_not (ha : PE X a (LE X.K cl ma)) : PE X (.UnaryOp .Not a pos) (LE X.K cl (dNotV ma)) := by
  refine (pe_not ha).imp fun σ H Q q => ?_
  obtain ⟨σd, S, B, F, φ, s, rs, o⟩ := q
  obtain ⟨d, S1, e, o⟩ := okE_bnd o
  obtain ⟨b, S2, e2, o2⟩ := okE_bnd o
  clear o
  obtain ⟨rfl, rfl⟩ := toB_of e2
  have o := o2
  clear o2
  exact LE.then_ s rs e fun F1 φ1 H1 x s1 x1 rs1 dr1 l1 => ⟨b, rp_bl dr1, o.fin rfl s1 x1 (Rp.bl _) trivial⟩
theorem k_one {op} (h : PE X a (LE X.K cl ma)) : PE X (.BoolOp op [a] pos) (LE X.K cl ma) := pe_one h
theorem k_and (ha : PE X a (LE X.K cl ma)) (hb : PE X (.BoolOp .And (b :: rest) pos) (LE X.K cl mb)) : PE X (.BoolOp .And (a :: b :: rest) pos) (LE X.K cl (dAndV ma mb)) := by
  refine (pe_and ha hb).imp fun σ H Q q => ?_
  obtain ⟨σd, S, B, F, φ, s, rs, o⟩ := q
  obtain ⟨d, S1, e, o⟩ := okE_bnd o
  obtain ⟨b, S2, e2, o2⟩ := okE_bnd o
  clear o
  obtain ⟨rfl, rfl⟩ := toB_of e2
  have o := o2
  clear o2
  refine LE.then_ s rs e fun F1 φ1 H1 x s1 x1 rs1 dr1 l1 => ⟨b, rp_bl dr1, ?_⟩
  split
  · rename_i ht; rw [if_pos ht] at o; exact ⟨σd, S2, B, F1, φ1, s1, rs1, o.ext x1⟩
  · rename_i ht; rw [if_neg ht] at o; exact o.fin rfl s1 x1 (Rp.bl _) trivial
theorem k_or (ha : PE X a (LE X.K cl ma)) (hb : PE X (.BoolOp .Or (b :: rest) pos) (LE X.K cl mb)) : PE X (.BoolOp .Or (a :: b :: rest) pos) (LE X.K cl (dOrV ma mb)) := by
  refine (pe_or ha hb).imp fun σ H Q q => ?_
  obtain ⟨σd, S, B, F, φ, s, rs, o⟩ := q
  obtain ⟨d, S1, e, o⟩ := okE_bnd o
  obtain ⟨b, S2, e2, o2⟩ := okE_bnd o
  clear o
  obtain ⟨rfl, rfl⟩ := toB_of e2
  have o := o2
  clear o2
  refine LE.then_ s rs e fun F1 φ1 H1 x s1 x1 rs1 dr1 l1 => ⟨b, rp_bl dr1, ?_⟩
  split
  · rename_i ht; rw [if_pos ht] at o; exact o.fin rfl s1 x1 (Rp.bl _) trivial
  · rename_i ht; rw [if_neg ht] at o; exact ⟨σd, S2, B, F1, φ1, s1, rs1, o.ext x1⟩
theorem k_if {t : Expr} (ht : PT X t (LT X.K cl ta)) (ha : PE X a (LE X.K cl ma)) (hb : PE X b (LE X.K cl mb)) : PE X (.IfExp t a b pos) (LE X.K cl (dIfE ta ma mb)) := by
  refine (pe_ifExp ht ha hb).imp fun σ H Q q => ?_
  obtain ⟨σd, S, B, F, φ, s, rs, o⟩ := q
  obtain ⟨t, S1, e, o⟩ := okE_bnd o
  refine LT.then_ s rs e fun F1 φ1 H1 s1 x1 rs1 => ?_
  split
  · rename_i ht; rw [if_pos ht] at o; exact ⟨σd, S1, B, F1, φ1, s1, rs1, o.ext x1⟩
  · rename_i ht; rw [if_neg ht] at o; exact ⟨σd, S1, B, F1, φ1, s1, rs1, o.ext x1⟩
variable {e : Expr} {es : List Expr} {mr : MA}
theorem a_nil : PA X [] (LA X.K cl dNil) := pa_nil.imp fun σ H Q q => by
  obtain ⟨σd, S, B, F, φ, s, rs, d, S1, e, k⟩ := q
  cases e
  exact k F φ H [] s (.refl s) .nil (fun _ z => absurd z (by simp))
theorem a_cons (he : PE X e (LE X.K cl ma)) (hr : PA X es (LA X.K cl mr)) (hs : starEach (e :: es) X.env = (false, eval e X.env) :: starEach es X.env := by rfl) : PA X (e :: es) (LA X.K cl (dCons ma mr)) := by
  refine (pa_cons he hr hs).imp fun σ H Q q => ?_
  obtain ⟨σd, S, B, F, φ, s, rs, o⟩ := q
  obtain ⟨d1, S1, ea, o⟩ := okA_bnd o
  obtain ⟨d2, S2, eb, o⟩ := okA_bnd o
  refine LE.then_ s rs ea fun F1 φ1 H1 x s1 x1 rs1 dr1 l1 => ?_
  refine LA.then_ s1 rs1 eb fun F2 φ2 H2 y s2 x2 rs2 dr2 l2 => ?_
  obtain ⟨_, _, z, k⟩ := o
  cases z
  exact k F2 φ2 H2 (x :: y) s2 (x1.trans x2) (.cons (x2.dr l1 dr1) dr2) fun d hd => by
    rcases List.mem_cons.mp hd with rfl | hd
    · exact x2.lt l1
    · exact l2 d hd
theorem e_call {K : PySem.W.Frag} {f : MF} {r : List V → Hp → VK → Prop} (h : CallD K cl f r) {m : MA} {σ : L2.St} {H : Hp} {Q : VK} (q : LE K cl (dCall f m) σ H Q) : LA K cl m σ H fun vs H1 => r vs H1 Q := by
  obtain ⟨σd, S, B, F, φ, s, rs, o⟩ := q
  obtain ⟨d1, S1, ea, o⟩ := okE_bnd o
  exact LA.then_ s rs ea fun F1 φ1 H1 x s1 x1 rs1 dr1 l1 => h S1 B F1 φ1 H1 d1 x Q s1 dr1 l1 (o.ext x1)
end
end Pv
namespace Pv
open PySem PySem.Spec PyProof.Rows L2

/-! ### what a def leaves behind: the objects that it made are data from then on -/
def toP : Nat → Nat → SH → D → Option P
  | _, _, _, .p x => some x
  | 0, _, _, .ref _ => none
  | k + 1, b, S, .ref n => if n < b then none else match S.os[n]? with
    | some (.lst ds) => (ds.mapM (toP k b S)).map .lst
    | some (.dK kvs) => (kvs.mapM fun p => (toP k b S p.2).map fun x => (p.1, x)).map .dK
    | some (.dT kvs) => (kvs.mapM fun p => (toP k b S p.2).map fun x => (p.1, x)).map .dT
    | some (.ins c fs) => (fs.mapM fun p => (toP k b S p.2).map fun x => (p.1, x)).map (.ins c)
    | none => none
/-- a value as it is behind the end of a def that began at b -/
def outD (b : Nat) (S : SH) (d : D) : Option D := match d with
  | .p x => some (.p x)
  | .ref n => if n < b then some (.ref n) else (toP 8 b S (.ref n)).map .p
def cutS (S0 S1 : SH) : SH := ⟨S0.b, S1.os.take S0.len⟩
/-- a def's call: what it made becomes data, or goes -/
def frameF (S : SH) (r : Option (Fl × SH)) : Option (D × SH) := bnd r fun f S1 => match f with
  | .ret d => match outD S.len S1 d with | some d' => some (d', cutS S S1) | none => none
  | .nx _ => some (.p .non, cutS S S1)
  | _ => none
/-- a def's call where what it made stays -/
def liveF (r : Option (Fl × SH)) : Option (D × SH) := bnd r fun f S1 => match f with
  | .ret d => some (d, S1)
  | .nx _ => some (.p .non, S1)
  | _ => none
/-- a block whose new objects become data at its end; a name that can't be data is forgotten -/
def outO (b : Nat) (S : SH) : Option D → Option D
  | some d => outD b S d
  | none => none
def outE (b : Nat) (S : SH) (σ : En) : En := σ.map (outO b S)
def dBlock (m : MS) : MS := fun σ S => bnd (m σ ⟨S.len, S.os⟩) fun f S1 => match f with
  | .nx σ1 => some (.nx (outE S.len S1 σ1), cutS S S1)
  | .ct σ1 => some (.ct (outE S.len S1 σ1), cutS S S1)
  | .brk σ1 => some (.brk (outE S.len S1 σ1), cutS S S1)
  | .ret d => match outD S.len S1 d with | some d' => some (.ret d', cutS S S1) | none => none

section
variable {K : PySem.W.Frag} {cl : Nat → Addr} {S S' S1 S2 : SH} {B : List Nat} {F F' F0 F1 F2 H H' H0 H1 H2 : Hp} {φ φ' φ0 φ1 φ2 : Nat → Addr}
open Classical in
/-- the heap of data with the objects from b on -/
noncomputable def addF (b k : Nat) (F H : Hp) (φ : Nat → Addr) : Hp := fun a => if ∃ n, b ≤ n ∧ n < k ∧ φ n = a then H a else F a
theorem addF_in {b k n : Nat} (h1 : b ≤ n) (h2 : n < k) : addF b k F H φ (φ n) = H (φ n) := by unfold addF; rw [if_pos ⟨n, h1, h2, rfl⟩]
theorem addF_out {b k : Nat} {a : Addr} (h : ∀ n, b ≤ n → n < k → φ n ≠ a) : addF b k F H φ a = F a := by
  unfold addF; rw [if_neg]; rintro ⟨n, h1, h2, e⟩; exact h n h1 h2 e
theorem addF_le (s : Sim K cl S B F φ H) (b : Nat) : Same F (addF b S.len F H φ) := fun a o e => by
  rw [addF_out]
  · exact e
  · intro n h1 h2 q
    have z := (s.ob n _ (List.getElem?_eq_getElem h2)).1
    rw [q, e] at z; cases z
theorem addF_heap (s : Sim K cl S B F φ H) (b : Nat) : Same (addF b S.len F H φ) H := fun a o e => by
  by_cases h : ∃ n, b ≤ n ∧ n < S.len ∧ φ n = a
  · obtain ⟨n, h1, h2, rfl⟩ := h
    rw [addF_in h1 h2] at e; exact e
  · rw [addF_out fun n h1 h2 q => h ⟨n, h1, h2, q⟩] at e
    exact s.le _ _ e
theorem mapM_rp {α : Type} {g : α → Option P} {R : α → V → Prop} {F : Hp} (hR : ∀ a x v, g a = some x → R a v → Rp K cl F x v) : ∀ {l : List α} {xs : List P} {vs : List V}, l.mapM g = some xs → Paired R l vs → RpA K cl F xs vs
  | [], xs, vs, e, r => by
    cases r
    simp at e
    subst e
    exact .nil
  | a :: l, xs, vs, e, r => by
    cases r with
    | cons r1 r2 =>
      rw [List.mapM_cons] at e
      cases e1 : g a with
      | none => rw [e1] at e; cases e
      | some x =>
        rw [e1] at e
        cases e2 : l.mapM g with
        | none => rw [e2] at e; cases e
        | some ys =>
          rw [e2] at e
          cases e
          exact .cons (hR a x _ e1 r1) (mapM_rp hR e2 r2)
theorem mapM_rpk {κ : Type} {g : D → Option P} {R : D → V → Prop} {F : Hp} {Z : List (κ × P) → List (κ × V) → Prop} (z0 : Z [] []) (z1 : ∀ k x v xs vs, Rp K cl F x v → Z xs vs → Z ((k, x) :: xs) ((k, v) :: vs))
    (hR : ∀ a x v, g a = some x → R a v → Rp K cl F x v) : ∀ {l : List (κ × D)} {xs : List (κ × P)} {vs : List (κ × V)}, l.mapM (fun p => (g p.2).map fun x => (p.1, x)) = some xs → Paired (fun p q => p.1 = q.1 ∧ R p.2 q.2) l vs → Z xs vs
  | [], xs, vs, e, r => by
    cases r
    simp at e
    subst e
    exact z0
  | (k, a) :: l, xs, vs, e, r => by
    cases r with
    | cons r1 r2 =>
      rename_i q vs'
      obtain ⟨k', v⟩ := q
      obtain ⟨rfl, r1⟩ := r1
      rw [List.mapM_cons] at e
      cases e1 : g a with
      | none => rw [e1] at e; cases e
      | some x =>
        rw [e1] at e
        cases e2 : l.mapM (fun p => (g p.2).map fun x => (p.1, x)) with
        | none =>
          simp only [Option.map_some] at e
          rw [e2] at e; cases e
        | some ys =>
          simp only [Option.map_some] at e
          rw [e2] at e
          cases e
          exact z1 _ _ _ _ _ (hR a x _ e1 r1) (mapM_rpk z0 z1 hR e2 r2)
theorem toP_ok (s : Sim K cl S B F φ H) (b : Nat) : ∀ (k : Nat) (d : D) (x : P) (v : V), toP k b S d = some x → DR K cl F φ d v → Rp K cl (addF b S.len F H φ) x v
  | k, .p y, x, v, e, r => by
    have e : y = x := by cases k <;> (simp [toP] at e; exact e)
    subst e
    exact Rp.mono (addF_le s b) r
  | 0, .ref n, x, v, e, r => by simp [toP] at e
  | k + 1, .ref n, x, v, e, r => by
    have r' : v = .ref (φ n) := r
    subst r'
    unfold toP at e
    by_cases hb : n < b
    · rw [if_pos hb] at e; cases e
    · rw [if_neg hb] at e
      have ih : ∀ (a : D) (x : P) (v : V), toP k b S a = some x → DR K cl F φ a v → Rp K cl (addF b S.len F H φ) x v := toP_ok s b k
      cases ho : S.os[n]? with
      | none => rw [ho] at e; cases e
      | some o =>
        rw [ho] at e
        have hn : n < S.len := (List.getElem?_eq_some_iff.mp ho).1
        have hF : addF b S.len F H φ (φ n) = H (φ n) := addF_in (Nat.le_of_not_lt hb) hn
        have ob := (s.ob n o ho).2
        cases o with
        | lst ds =>
          obtain ⟨vs, ev, rv⟩ := ob
          dsimp only at e
          cases e2 : ds.mapM (toP k b S) with
          | none => rw [e2] at e; cases e
          | some xs =>
            rw [e2] at e
            cases e
            exact .lst (.inl (.inl (hF.trans ev))) (mapM_rp ih e2 rv)
        | dK kvs =>
          obtain ⟨vs, ev, rv⟩ := ob
          dsimp only at e
          cases e2 : kvs.mapM fun p => (toP k b S p.2).map fun x => (p.1, x) with
          | none => rw [e2] at e; cases e
          | some xs =>
            rw [e2] at e
            cases e
            exact .dK (hF.trans ev) (mapM_rpk (Z := RpK K cl _) .nil (fun _ _ _ _ _ h1 h2 => .cons h1 h2) ih e2 rv)
        | dT kvs =>
          obtain ⟨vs, ev, rv⟩ := ob
          dsimp only at e
          cases e2 : kvs.mapM fun p => (toP k b S p.2).map fun x => (p.1, x) with
          | none => rw [e2] at e; cases e
          | some xs =>
            rw [e2] at e
            cases e
            exact .dT (hF.trans ev) (mapM_rpk (Z := RpT K cl _) .nil (fun _ _ _ _ _ h1 h2 => .cons h1 h2) ih e2 rv)
        | ins c fs =>
          obtain ⟨dx, vs, ev, rv⟩ := ob
          dsimp only at e
          cases e2 : fs.mapM fun p => (toP k b S p.2).map fun x => (p.1, x) with
          | none => rw [e2] at e; cases e
          | some xs =>
            rw [e2] at e
            cases e
            exact .ins (hF.trans ev) (mapM_rpk (Z := RpF K cl _) .nil (fun _ _ _ _ _ h1 h2 => .cons h1 h2) ih e2 rv)
/-- a block, a def's body begins -/
theorem Sim.begin (s : Sim K cl S B F φ H) : Sim K cl ⟨S.len, S.os⟩ (S.len :: B) F φ H := by
  refine ⟨s.le, s.ob, s.inj, s.wf, fun b hb => ?_, Nat.le_refl _⟩
  rcases List.mem_cons.mp hb with rfl | hb
  · exact ⟨Nat.le_refl _, fun n o e _ => s.wf n o e⟩
  · exact ⟨Nat.le_trans (s.bs b hb).1 s.bl, (s.bs b hb).2⟩
theorem cutS_len (h : S.len ≤ S1.len) : (cutS S S1).len = S.len := by
  show (S1.os.take S.len).length = _
  rw [List.length_take]
  exact Nat.min_eq_left h
theorem cutS_get {n : Nat} {o : Ob} (e : (cutS S S1).os[n]? = some o) : n < S.len ∧ S1.os[n]? = some o := by
  have e : (S1.os.take S.len)[n]? = some o := e
  rw [List.getElem?_take] at e
  split at e
  · rename_i h; exact ⟨h, e⟩
  · cases e
/-- .. and ends -/
theorem Sim.end_ (s0 : Sim K cl S B F0 φ0 H0) (s : Sim K cl S1 (S.len :: B) F φ H) (h : S.len ≤ S1.len) : Sim K cl (cutS S S1) B (addF S.len S1.len F H φ) φ H := by
  have hl := cutS_len h
  refine ⟨addF_heap s _, fun n o e => ?_, fun n m h1 h2 => ?_, fun n o e => ?_, fun b hb => ⟨(s0.bs b hb).1, fun n o e hn => ?_⟩, ?_⟩
  · obtain ⟨hn, e⟩ := cutS_get e
    refine ⟨?_, ?_⟩
    · rw [addF_out fun m h1 h2 q => ?_]
      · exact (s.ob n o e).1
      · have := s.inj m n h2 (Nat.lt_of_lt_of_le hn h) q
        omega
    · exact OR.mono (addF_le s _) (fun _ _ => rfl) (s.wf n o e) (s.ob n o e).2
  · exact s.inj n m (by omega) (by omega)
  · obtain ⟨hn, e⟩ := cutS_get e
    rw [hl]
    exact (s.bs S.len List.mem_cons_self).2 n o e hn
  · obtain ⟨_, e⟩ := cutS_get e
    exact (s.bs b (List.mem_cons_of_mem _ hb)).2 n o e hn
  · rw [hl]; exact s0.bl
theorem Ext.end_ (s : Sim K cl S1 (S.len :: B) F φ H) (x : Ext ⟨S.len, S.os⟩ F0 φ0 H0 S1 F φ H) : Ext S F0 φ0 H0 (cutS S S1) (addF S.len S1.len F H φ) φ H := by
  have hl := cutS_len (S := S) (S1 := S1) x.len
  refine ⟨x.fz.trans (addF_le s _), Nat.le_of_eq hl.symm, rfl, x.phi, fun n h1 h2 => by omega, x.keep, x.tr, fun a o h f n => ?_⟩
  rw [addF_out fun m h1 h2 q => ?_]
  · exact x.fr a o h f n
  · have := x.new m h1 h2
    rw [q, h] at this; cases this
theorem outD_ok (s : Sim K cl S1 (S.len :: B) F φ H) (h : S.len ≤ S1.len) {d d' : D} {v : V} (e : outD S.len S1 d = some d') (r : DR K cl F φ d v) (l : d.lt S1.len) : DR K cl (addF S.len S1.len F H φ) φ d' v ∧ d'.lt (cutS S S1).len := by
  rw [cutS_len h]
  cases d with
  | p x => cases e; exact ⟨Rp.mono (addF_le s _) r, trivial⟩
  | ref n =>
    unfold outD at e
    dsimp only at e
    by_cases hn : n < S.len
    · rw [if_pos hn] at e; cases e; exact ⟨r, hn⟩
    · rw [if_neg hn] at e
      cases e2 : toP 8 S.len S1 (.ref n) with
      | none => rw [e2] at e; cases e
      | some x => rw [e2] at e; cases e; exact ⟨toP_ok s _ _ _ _ _ e2 r, trivial⟩
theorem outE_ok (s : Sim K cl S1 (S.len :: B) F φ H) (h : S.len ≤ S1.len) {σd : En} {σ : L2.St} (r : RS K cl F φ S1.len σd σ) : RS K cl (addF S.len S1.len F H φ) φ (cutS S S1).len (outE S.len S1 σd) σ := by
  refine ⟨by unfold outE; rw [List.length_map]; exact r.1, fun i d e => ?_⟩
  unfold outE at e
  rw [List.getElem?_map] at e
  cases e1 : σd[i]? with
  | none => rw [e1] at e; cases e
  | some o =>
    rw [e1] at e
    cases o with
    | none => cases e
    | some d0 =>
      have e : outD S.len S1 d0 = some d := Option.some.inj e
      obtain ⟨l, v, ev, rv⟩ := r.2 i d0 e1
      obtain ⟨a, b⟩ := outD_ok s h e rv l
      exact ⟨b, v, ev, a⟩
end
section
variable {X : Cx} {cl : Nat → Addr} {st : Stmt} {rest : List Stmt} {m n : MS} {me : ME} {mt : MT} {e : Expr} {pos : Pos}
theorem s_nil : PSs X [] (LS X.K cl dNx) := pss_nil.imp fun Z σ H q => by
  obtain ⟨σd, S, B, F, φ, s, rs, f, S1, e, k⟩ := q
  cases e
  exact k F φ H σ s (.refl s) rs
theorem s_pass : PS X (.Pass pos) (LS X.K cl dNx) := ps_pass.imp fun Z σ H q => by
  obtain ⟨σd, S, B, F, φ, s, rs, f, S1, e, k⟩ := q
  cases e
  exact k F φ H σ s (.refl s) rs
theorem s_brk : PS X (.Break pos) (LS X.K cl dBrk) := ps_break.imp fun Z σ H q => by
  obtain ⟨σd, S, B, F, φ, s, rs, f, S1, e, k⟩ := q
  cases e
  exact k F φ H σ s (.refl s) rs
theorem s_ct : PS X (.Continue pos) (LS X.K cl dCt) := ps_continue.imp fun Z σ H q => by
  obtain ⟨σd, S, B, F, φ, s, rs, f, S1, e, k⟩ := q
  cases e
  exact k F φ H σ s (.refl s) rs
theorem s_doc {x j pos'} : PS X (.Expr (.Constant (.str x) j pos) pos') (LS X.K cl dNx) := ps_doc.imp fun Z σ H q => by
  obtain ⟨σd, S, B, F, φ, s, rs, f, S1, e, k⟩ := q
  cases e
  exact k F φ H σ s (.refl s) rs
theorem s_one (h : PS X st (LS X.K cl m)) : PSs X [st] (LS X.K cl m) := pss_one h
theorem s_cons (h1 : PS X st (LS X.K cl m)) (h2 : PSs X rest (LS X.K cl n)) : PSs X (st :: rest) (LS X.K cl (dSeq m n)) := by
  refine (pss_cons h1 h2).imp fun Z σ H q => ?_
  obtain ⟨σd, S, B, F, φ, s, rs, o⟩ := q
  obtain ⟨f, S1, e, o⟩ := okS_bnd o
  refine LS.then_ s rs e ?_
  cases f with
  | nx σ1 => exact fun F1 φ1 H1 σ' s1 x1 rs1 => ⟨σ1, S1, B, F1, φ1, s1, rs1, o.ext x1⟩
  | ret d => obtain ⟨_, _, z, k⟩ := o; cases z; exact k
  | brk d => obtain ⟨_, _, z, k⟩ := o; cases z; exact k
  | ct d => obtain ⟨_, _, z, k⟩ := o; cases z; exact k
theorem s_never : PS X st (LS X.K cl dNever) := ps_never.imp fun Z σ H q => by
  obtain ⟨σd, S, B, F, φ, s, rs, f, S1, e, k⟩ := q
  cases e
theorem ss_never {sts : List Stmt} : PSs X sts (LS X.K cl dNever) := pss_never.imp fun Z σ H q => by
  obtain ⟨σd, S, B, F, φ, s, rs, f, S1, e, k⟩ := q
  cases e
theorem s_if {c : Expr} {a b : List Stmt} (hc : PT X c (LT X.K cl mt)) (ha : PSs X a (LS X.K cl m)) (hb : PSs X b (LS X.K cl n)) : PS X (.If c a b pos) (LS X.K cl (dIf mt m n)) := by
  refine (ps_if hc ha hb).imp fun Z σ H q => ?_
  obtain ⟨σd, S, B, F, φ, s, rs, o⟩ := q
  obtain ⟨t, S1, e, o⟩ := okS_bnd o
  refine LT.then_ s rs e fun F1 φ1 H1 s1 x1 rs1 => ?_
  split
  · rename_i ht; rw [if_pos ht] at o; exact ⟨σd, S1, B, F1, φ1, s1, rs1, o.ext x1⟩
  · rename_i ht; rw [if_neg ht] at o; exact ⟨σd, S1, B, F1, φ1, s1, rs1, o.ext x1⟩
theorem s_ret (he : PE X e (LE X.K cl me)) : PS X (.Return (some e) pos) (LS X.K cl (dRet me)) := by
  refine (ps_ret he).imp fun Z σ H q => ?_
  obtain ⟨σd, S, B, F, φ, s, rs, o⟩ := q
  obtain ⟨d, S1, e, o⟩ := okS_bnd o
  obtain ⟨_, _, z, k⟩ := o
  cases z
  exact LE.then_ s rs e fun F1 φ1 H1 u s1 x1 _ dr l => k F1 φ1 H1 u s1 x1 dr l
theorem s_retN : PS X (.Return none pos) (LS X.K cl dRetN) := ps_retN.imp fun Z σ H q => by
  obtain ⟨σd, S, B, F, φ, s, rs, f, S1, e, k⟩ := q
  cases e
  exact k F φ H .non s (.refl s) .non trivial
theorem s_drop (he : PE X e (LE X.K cl me)) (hs : swapsWith e none pos.line X.env = pure false := by rfl) : PS X (.Expr e pos) (LS X.K cl (dDrop me)) := by
  refine (ps_expr he hs).imp fun Z σ H q => ?_
  obtain ⟨σd, S, B, F, φ, s, rs, o⟩ := q
  obtain ⟨d, S1, e, o⟩ := okS_bnd o
  obtain ⟨_, _, z, k⟩ := o
  cases z
  exact LE.then_ s rs e fun F1 φ1 H1 u s1 x1 rs1 dr l => k F1 φ1 H1 σ s1 x1 rs1
theorem RS.set {K : PySem.W.Frag} {F : Hp} {φ : Nat → Addr} {k : Nat} {σd : En} {σ : L2.St} (r : RS K cl F φ k σd σ) (i : Nat) {d : D} {v : V} (dr : DR K cl F φ d v) (l : d.lt k) : RS K cl F φ k (σd.set i (some d)) (σ.set i (some v)) := by
  refine ⟨by rw [List.length_set, List.length_set]; exact r.1, fun j d' e => ?_⟩
  by_cases h : i = j
  · subst h
    rw [List.getElem?_set] at e
    rw [if_pos rfl] at e
    by_cases hi : i < σd.length
    · rw [if_pos hi] at e
      cases e
      exact ⟨l, v, by rw [List.getElem?_set_self (by rw [← r.1]; exact hi)], dr⟩
    · rw [if_neg hi] at e; cases e
  · rw [List.getElem?_set_ne h] at e
    obtain ⟨a, v', b, c⟩ := r.2 j d' e
    exact ⟨a, v', by rw [List.getElem?_set_ne h]; exact b, c⟩
theorem RS.unset {K : PySem.W.Frag} {F : Hp} {φ : Nat → Addr} {k : Nat} {σd : En} {σ : L2.St} (r : RS K cl F φ k σd σ) (i : Nat) : RS K cl F φ k (σd.set i none) σ := by
  refine ⟨by rw [List.length_set]; exact r.1, fun j d' e => ?_⟩
  by_cases h : i = j
  · subst h
    rw [List.getElem?_set, if_pos rfl] at e
    split at e <;> cases e
  · rw [List.getElem?_set_ne h] at e
    exact r.2 j d' e
theorem RS.wipe {K : PySem.W.Frag} {F : Hp} {φ : Nat → Addr} {k : Nat} {σ : L2.St} : ∀ (vs : List Nat) {σd : En}, RS K cl F φ k σd σ → RS K cl F φ k (wipeD vs σd) σ
  | [], _, r => r
  | i :: vs, _, r => RS.wipe vs (r.unset i)
theorem s_set {i : Nat} {x : Str} {pos' : Pos} (hN : X.N.Nodup) (hi : X.N[i]? = some x) (hx : Loc X.env.scope x) (he : PE X e (LE X.K cl me)) (hs : swapsWith e (some (.Name x pos')) pos.line X.env = pure false := by rfl) (hf : X.fn x = true ∨ X.env.scope.names.lookup x = some .local := by first | exact .inl rfl | exact .inr rfl | assumption) :
    PS X (.Assign [.Name x pos'] e pos) (LS X.K cl (dSet i me)) := by
  refine (ps_set hN hi hx he hs hf).imp fun Z σ H q => ?_
  obtain ⟨σd, S, B, F, φ, s, rs, o⟩ := q
  obtain ⟨d, S1, e, o⟩ := okS_bnd o
  obtain ⟨_, _, z, k⟩ := o
  cases z
  exact LE.then_ s rs e fun F1 φ1 H1 u s1 x1 rs1 dr l => k F1 φ1 H1 _ s1 x1 (rs1.set i dr l)
theorem s_wipe {vs : List Nat} (h : PS X st (LS X.K cl m)) : PS X st (LS X.K cl (dWipe vs m)) := h.imp fun Z σ H q => by
  obtain ⟨σd, S, B, F, φ, s, rs, o⟩ := q
  exact ⟨_, S, B, F, φ, s, rs.wipe vs, o⟩
theorem ss_wipe {vs : List Nat} (h : PSs X rest (LS X.K cl m)) : PSs X rest (LS X.K cl (dWipe vs m)) := h.imp fun Z σ H q => by
  obtain ⟨σd, S, B, F, φ, s, rs, o⟩ := q
  exact ⟨_, S, B, F, φ, s, rs.wipe vs, o⟩
theorem ss_block (h : PSs X rest (LS X.K cl m)) : PSs X rest (LS X.K cl (dBlock m)) := h.imp fun Z σ H q => by
  obtain ⟨σd, S, B, F, φ, s, rs, o⟩ := q
  obtain ⟨f, S1, e, o⟩ := okS_bnd o
  refine ⟨σd, ⟨S.len, S.os⟩, S.len :: B, F, φ, s.begin, rs, f, S1, e, ?_⟩
  cases f with
  | nx σ1 =>
    obtain ⟨_, _, z, k⟩ := o; cases z
    exact fun F1 φ1 H1 σ' s1 x1 rs1 => k _ _ _ _ (Sim.end_ s s1 x1.len) (Ext.end_ s1 x1) (outE_ok s1 x1.len rs1)
  | ct σ1 =>
    obtain ⟨_, _, z, k⟩ := o; cases z
    exact fun F1 φ1 H1 σ' s1 x1 rs1 => k _ _ _ _ (Sim.end_ s s1 x1.len) (Ext.end_ s1 x1) (outE_ok s1 x1.len rs1)
  | brk σ1 =>
    obtain ⟨_, _, z, k⟩ := o; cases z
    exact fun F1 φ1 H1 σ' s1 x1 rs1 => k _ _ _ _ (Sim.end_ s s1 x1.len) (Ext.end_ s1 x1) (outE_ok s1 x1.len rs1)
  | ret d =>
    dsimp only at o
    cases ed : outD S.len S1 d with
    | none => rw [ed] at o; obtain ⟨_, _, z, _⟩ := o; cases z
    | some d' =>
      rw [ed] at o
      obtain ⟨_, _, z, k⟩ := o; cases z
      intro F1 φ1 H1 u s1 x1 dr l
      obtain ⟨a, b⟩ := outD_ok s1 x1.len ed dr l
      exact k _ _ _ _ (Sim.end_ s s1 x1.len) (Ext.end_ s1 x1) a b

/-! ### defs -/
def startD (n : Nat) (ds : List D) : En := ds.map some ++ List.replicate (n - ds.length) none
theorem DRA.length {K : PySem.W.Frag} {F : Hp} {φ : Nat → Addr} {ds : List D} {vs : List V} (h : DRA K cl F φ ds vs) : ds.length = vs.length := Paired.length h
theorem DRA.get {K : PySem.W.Frag} {F : Hp} {φ : Nat → Addr} : ∀ {ds : List D} {vs : List V} {i : Nat} {d : D}, DRA K cl F φ ds vs → ds[i]? = some d → ∃ v, vs[i]? = some v ∧ DR K cl F φ d v
  | _, _, _, _, .nil, e => by simp at e
  | _, _, 0, _, .cons r _, e => by simp at e; subst e; exact ⟨_, rfl, r⟩
  | _, _, i + 1, d, .cons _ t, e => by
    obtain ⟨u, h1, h2⟩ := DRA.get (i := i) (d := d) t (by simpa using e)
    exact ⟨u, by simpa using h1, h2⟩
theorem rs_start {K : PySem.W.Frag} {F : Hp} {φ : Nat → Addr} {k : Nat} {N : List Str} {ds : List D} {vs : List V} (r : DRA K cl F φ ds vs) (l : ∀ d ∈ ds, d.lt k) : RS K cl F φ k (startD N.length ds) (L2.start N vs) := by
  have hl := r.length
  refine ⟨by unfold startD L2.start; simp [hl], fun i d e => ?_⟩
  unfold startD at e
  by_cases hi : i < ds.length
  · rw [List.getElem?_append_left (by simpa using hi), List.getElem?_map] at e
    cases e1 : ds[i]? with
    | none => rw [e1] at e; cases e
    | some d0 =>
      rw [e1] at e; cases e
      obtain ⟨v, ev, dr⟩ := r.get e1
      refine ⟨l d (List.mem_of_getElem? e1), v, ?_, dr⟩
      unfold L2.start
      rw [List.getElem?_append_left (by simpa [← hl] using hi), List.getElem?_map, ev]
      rfl
  · rw [List.getElem?_append_right (by simpa using hi), List.getElem?_replicate] at e
    split at e <;> cases e
/-- what a def promises, by its computation -/
def spOf (K : PySem.W.Frag) (cl : Nat → Addr) (m : MF) : Sp := fun vs H Q _ => ∃ ds S B F φ, Sim K cl S B F φ H ∧ DRA K cl F φ ds vs ∧ (∀ d ∈ ds, d.lt S.len) ∧ OkE K cl S B F φ H (m ds S) Q
/-- a def by its body: what it made becomes data -/
def dFn (k n : Nat) (body : MS) : MF := fun ds S => if ds.length = k then frameF S (body (startD n ds) ⟨S.len, S.os⟩) else none
def dFnL (k n : Nat) (body : MS) : MF := fun ds S => if ds.length = k then liveF (body (startD n ds) S) else none
theorem fn_len {K : PySem.W.Frag} {S : SH} {B : List Nat} {F : Hp} {φ : Nat → Addr} {H : Hp} {Q : VK} {ds : List D} {k : Nat} {r : Option (D × SH)} (h : OkE K cl S B F φ H (if ds.length = k then r else none) Q) : ds.length = k ∧ OkE K cl S B F φ H r Q := by
  by_cases e : ds.length = k
  · rw [if_pos e] at h; exact ⟨e, h⟩
  · rw [if_neg e] at h; obtain ⟨_, _, z, _⟩ := h; cases z
theorem sp_len {K : PySem.W.Frag} {k n : Nat} {m : MS} {vs : List V} {H : Hp} {Q : VK} {E : XK} (h : spOf K cl (dFn k n m) vs H Q E) : vs.length = k := by
  obtain ⟨ds, S, B, F, φ, s, dr, l, o⟩ := h
  rw [← dr.length]
  exact (fn_len o).1
theorem spL_len {K : PySem.W.Frag} {k n : Nat} {m : MS} {vs : List V} {H : Hp} {Q : VK} {E : XK} (h : spOf K cl (dFnL k n m) vs H Q E) : vs.length = k := by
  obtain ⟨ds, S, B, F, φ, s, dr, l, o⟩ := h
  rw [← dr.length]
  exact (fn_len o).1
theorem fn_body {K : PySem.W.Frag} {N : List Str} {k : Nat} {m : MS} {vs : List V} {H : Hp} {Q : VK} {E : XK} (h : spOf K cl (dFn k N.length m) vs H Q E) : LS K cl m { nx := fun _ H' => Q .non H', rt := Q } (L2.start N vs) H := by
  obtain ⟨ds, S, B, F, φ, s, dr, l, o⟩ := h
  have o := (fn_len o).2
  obtain ⟨f, S1, e, o⟩ := okE_bnd o
  refine ⟨_, ⟨S.len, S.os⟩, S.len :: B, F, φ, s.begin, rs_start dr l, f, S1, e, ?_⟩
  cases f with
  | nx σ1 =>
    obtain ⟨_, _, z, k⟩ := o; cases z
    exact fun F1 φ1 H1 σ' s1 x1 rs1 => k _ _ _ _ (Sim.end_ s s1 x1.len) (Ext.end_ s1 x1) .non trivial
  | ret d =>
    dsimp only at o
    cases ed : outD S.len S1 d with
    | none => rw [ed] at o; obtain ⟨_, _, z, _⟩ := o; cases z
    | some d' =>
      rw [ed] at o
      obtain ⟨_, _, z, k⟩ := o; cases z
      intro F1 φ1 H1 u s1 x1 dr l
      obtain ⟨a, b⟩ := outD_ok s1 x1.len ed dr l
      exact k _ _ _ _ (Sim.end_ s s1 x1.len) (Ext.end_ s1 x1) a b
  | brk _ => obtain ⟨_, _, z, _⟩ := o; cases z
  | ct _ => obtain ⟨_, _, z, _⟩ := o; cases z
theorem fnL_body {K : PySem.W.Frag} {N : List Str} {k : Nat} {m : MS} {vs : List V} {H : Hp} {Q : VK} {E : XK} (h : spOf K cl (dFnL k N.length m) vs H Q E) : LS K cl m { nx := fun _ H' => Q .non H', rt := Q } (L2.start N vs) H := by
  obtain ⟨ds, S, B, F, φ, s, dr, l, o⟩ := h
  have o := (fn_len o).2
  obtain ⟨f, S1, e, o⟩ := okE_bnd o
  refine ⟨_, S, B, F, φ, s, rs_start dr l, f, S1, e, ?_⟩
  cases f with
  | nx σ1 =>
    obtain ⟨_, _, z, k⟩ := o; cases z
    exact fun F1 φ1 H1 σ' s1 x1 rs1 => k _ _ _ _ s1 x1 .non trivial
  | ret d => obtain ⟨_, _, z, k⟩ := o; cases z; exact k
  | brk _ => obtain ⟨_, _, z, _⟩ := o; cases z
  | ct _ => obtain ⟨_, _, z, _⟩ := o; cases z
/-- THE RULE for a def -/
theorem fn_ok {P : Program} {w : World} {K : PySem.W.Frag} {mg : Str → Option Value} {base : Heap} {x qual : Str} {st : Stmt} {f : Addr} {fd : FuncData} {N ps : List Str} {k : Nat} {m : MS} (F : Fun K x qual st f fd) (S : FnScope N ps (defScope st))
    (h : ∀ (cdv : Value) (A : Around) (outer : List Env) (s : Shared) (H : Hp) (E : XK), Room k (A.deeper (envOfC qual (defScope st) s.heap.objs.size f cdv)) →
      PSs (cxOf CX0 P w K mg base N qual (defScope st) f cdv A outer s H E).nox (defBody st) (LS K cl m)) : FnOk P w K mg base CX0 (k + 1) f fd ps (spOf K cl (dFn ps.length N.length m)) :=
  F.ok S (fun vs H Q E q => sp_len q) fun cdv A outer s H vs Q E hr q => ⟨_, h cdv A outer s H E hr, fn_body q⟩
theorem fnL_ok {P : Program} {w : World} {K : PySem.W.Frag} {mg : Str → Option Value} {base : Heap} {x qual : Str} {st : Stmt} {f : Addr} {fd : FuncData} {N ps : List Str} {k : Nat} {m : MS} (F : Fun K x qual st f fd) (S : FnScope N ps (defScope st))
    (h : ∀ (cdv : Value) (A : Around) (outer : List Env) (s : Shared) (H : Hp) (E : XK), Room k (A.deeper (envOfC qual (defScope st) s.heap.objs.size f cdv)) →
      PSs (cxOf CX0 P w K mg base N qual (defScope st) f cdv A outer s H E).nox (defBody st) (LS K cl m)) : FnOk P w K mg base CX0 (k + 1) f fd ps (spOf K cl (dFnL ps.length N.length m)) :=
  F.ok S (fun vs H Q E q => spL_len q) fun cdv A outer s H vs Q E hr q => ⟨_, h cdv A outer s H E hr, fnL_body q⟩
end
end Pv
namespace Pv
open PySem PySem.Spec PyProof.Rows L2

theorem _root_.L2.Same.new {H H1 : Hp} {q : Addr} {o : HO} (a : Same H H1) (h : H1 q = none) : Same H (L2.upd H1 q o) := fun c u e => by
  rw [upd_ne (ne_of_none (a c u e) h)]
  exact a c u e
/-! ### new objects -/
def isP : D → Option P
  | .p x => some x
  | .ref _ => none
def toPs : List D → Option (List P)
  | [] => some []
  | .p x :: r => (toPs r).map (x :: ·)
  | .ref _ :: _ => none
@[simp] theorem toPs_map (ps : List P) : toPs (ps.map D.p) = some ps := by
  induction ps with
  | nil => rfl
  | cons x r ih => simp [toPs, ih]
theorem toPs_of : ∀ {ds : List D} {ps : List P}, toPs ds = some ps → ds = ps.map D.p
  | [], ps, h => by cases h; rfl
  | .p x :: r, ps, h => by
    unfold toPs at h
    cases e : toPs r with
    | none => rw [e] at h; cases h
    | some qs => rw [e] at h; cases h; rw [List.map_cons, ← toPs_of e]
  | .ref n :: r, ps, h => by cases h
abbrev SH.push (S : SH) (o : Ob) : SH := ⟨S.b, S.os ++ [o]⟩
abbrev SH.put (S : SH) (n : Nat) (o : Ob) : SH := ⟨S.b, S.os.set n o⟩
def newT (ds : List D) (S : SH) : Option (D × SH) := match toPs ds with
  | some ps => if ps.length ≤ sizeLine then some (.p (.tup ps), S) else none
  | none => none
def newL (live : Bool) (ds : List D) (S : SH) : Option (D × SH) := if ds.length ≤ sizeLine then (if live = true then some (.ref S.len, S.push (.lst ds)) else match toPs ds with
  | some ps => some (.p (.lst ps), S)
  | none => none) else none
/-- the items of a list, wherever it stands -/
def asL (d : D) (S : SH) : Option (List D) := match d with
  | .p (.lst ps) => some (ps.map .p)
  | .ref n => match S.os[n]? with | some (.lst ds) => some ds | _ => none
  | _ => none
/-- .. of a list or a tuple -/
def asQ (d : D) (S : SH) : Option (List D) := match d with
  | .p (.lst ps) => some (ps.map .p)
  | .p (.tup ps) => some (ps.map .p)
  | .ref n => match S.os[n]? with | some (.lst ds) => some ds | _ => none
  | _ => none
section
variable {K : PySem.W.Frag} {cl : Nat → Addr} {S S' S1 S2 : SH} {B : List Nat} {F F' F0 F1 F2 H H' H0 H1 H2 : Hp} {φ φ' φ0 φ1 φ2 : Nat → Addr} {Q : VK}
theorem RpA.dra {ps : List P} {vs : List V} (h : RpA K cl F ps vs) : DRA K cl F φ (ps.map D.p) vs := by
  induction ps generalizing vs with
  | nil => cases h; exact .nil
  | cons x r ih => cases h with | cons a b => exact .cons a (ih b)
theorem DRA.rpa {ps : List P} {vs : List V} (h : DRA K cl F φ (ps.map D.p) vs) : RpA K cl F ps vs := by
  induction ps generalizing vs with
  | nil => cases h; exact .nil
  | cons x r ih => cases h with | cons a b => exact .cons a (ih b)
theorem lt_map {ps : List P} {k : Nat} : ∀ d ∈ ps.map D.p, d.lt k := fun d hd => by
  obtain ⟨x, _, rfl⟩ := List.mem_map.mp hd
  trivial
theorem Sim.keep (s : Sim K cl S B F φ H) (k : Same H H') : Sim K cl S B F φ H' := by
  refine ⟨s.le.trans k, fun n o e => ⟨(s.ob n o e).1, ?_⟩, s.inj, s.wf, s.bs, s.bl⟩
  have z := (s.ob n o e).2
  cases q : H (φ n) with
  | none => exact absurd q z.ne0
  | some u => rw [k _ _ q, ← q]; exact z
theorem Sim.none_p (s : Sim K cl S B F φ H) {p : Addr} (hp : H p = none) : F p = none ∧ ∀ n, n < S.len → φ n ≠ p := by
  refine ⟨?_, fun n h e => s.ne0 h (by rw [e]; exact hp)⟩
  cases q : F p with
  | none => rfl
  | some u => rw [s.le _ _ q] at hp; cases hp
theorem Ext.ofSame (s : Sim K cl S B F φ H) (k : Same H H') : Ext S F φ H S F φ H' :=
  ⟨Same.refl _, Nat.le_refl _, rfl, fun _ _ => rfl, fun n h1 h2 => absurd h1 (Nat.not_le_of_lt h2), fun a o e _ => k a o e, fun n h => (s.keep k).ne0 h, fun _ _ _ h _ => h⟩
/-- a new object that is data -/
theorem Sim.frz (s : Sim K cl S B F φ H) (k : Same H H') {p : Addr} {o : HO} (hp : H p = none) (ho : H' p = some o) : Sim K cl S B (upd F p o) φ H' ∧ Ext S F φ H S (upd F p o) φ H' := by
  obtain ⟨fp, np⟩ := s.none_p hp
  have sf : Same F (upd F p o) := fun a u e => by rw [upd_ne (ne_of_none e fp)]; exact e
  have s1 := s.keep k
  refine ⟨⟨fun a u e => ?_, fun n u e => ⟨?_, OR.mono sf (fun _ _ => rfl) (s1.wf n u e) (s1.ob n u e).2⟩, s1.inj, s1.wf, s1.bs, s1.bl⟩, ⟨sf, Nat.le_refl _, rfl, fun _ _ => rfl, fun n h1 h2 => absurd h1 (Nat.not_le_of_lt h2), fun a u e _ => k a u e, fun n h => s1.ne0 h, fun a u e f _ => ?_⟩⟩
  · by_cases h : a = p
    · subst h; rw [upd_same] at e; rw [ho, e]
    · rw [upd_ne h] at e; exact s1.le a u e
  · rw [upd_ne (np n (List.getElem?_eq_some_iff.mp e).1)]; exact (s1.ob n u e).1
  · rw [upd_ne (ne_of_none e hp)]; exact f
/-- a new object that may change -/
theorem Sim.push (s : Sim K cl S B F φ H) (k : Same H H') {p : Addr} {o : Ob} (hp : H p = none) (ho : OR K cl F φ (H' p) o) (hl : o.lt S.len) :
    Sim K cl (S.push o) B F (fun n => if n = S.len then p else φ n) H' ∧ Ext S F φ H (S.push o) F (fun n => if n = S.len then p else φ n) H' := by
  obtain ⟨fp, np⟩ := s.none_p hp
  have s1 := s.keep k
  have hlen : (S.push o).len = S.len + 1 := by show (S.os ++ [o]).length = _; simp
  have ph : ∀ n, n < S.len → (if n = S.len then p else φ n) = φ n := fun n h => if_neg (by omega)
  have get : ∀ (n : Nat) (u : Ob), (S.push o).os[n]? = some u → (n < S.len ∧ S.os[n]? = some u) ∨ (n = S.len ∧ u = o) := fun n u e => by
    have e : (S.os ++ [o])[n]? = some u := e
    by_cases h : n < S.len
    · rw [List.getElem?_append_left h] at e; exact .inl ⟨h, e⟩
    · have hz : S.os.length = S.len := rfl
      rw [List.getElem?_append_right (by omega)] at e
      right
      have h2 : n - S.os.length = 0 := by
        have := (List.getElem?_eq_some_iff.mp e).1
        simp at this; omega
      rw [h2] at e
      simp at e
      exact ⟨by have : S.os.length = S.len := rfl; omega, e.symm⟩
  refine ⟨⟨s1.le, fun n u e => ?_, fun n m h1 h2 e => ?_, fun n u e => ?_, fun b hb => ⟨(s1.bs b hb).1, fun n u e h => ?_⟩, by rw [hlen]; exact Nat.le_succ_of_le s.bl⟩, ⟨Same.refl _, by rw [hlen]; exact Nat.le_succ _, rfl, ph, fun n h1 h2 => ?_, fun a u e _ => k a u e, fun n h => s1.ne0 h, fun _ _ _ h _ => h⟩⟩
  · rcases get n u e with ⟨h, e'⟩ | ⟨h, e'⟩
    · rw [ph n h]; exact ⟨(s1.ob n u e').1, OR.mono (Same.refl _) ph (s1.wf n u e') (s1.ob n u e').2⟩
    · subst h; subst e'; rw [if_pos rfl]; exact ⟨fp, OR.mono (Same.refl _) ph hl ho⟩
  · rw [hlen] at h1 h2
    by_cases a : n = S.len
    · by_cases b : m = S.len
      · omega
      · rw [if_pos a, if_neg b] at e
        exact absurd e.symm (np m (by omega))
    · by_cases b : m = S.len
      · rw [if_neg a, if_pos b] at e
        exact absurd e (np n (by omega))
      · rw [if_neg a, if_neg b] at e
        exact s1.inj n m (by omega) (by omega) e
  · rw [hlen]
    rcases get n u e with ⟨h, e'⟩ | ⟨h, e'⟩
    · exact fun d hd => (s1.wf n u e' d hd).mono (Nat.le_succ _)
    · subst e'; exact fun d hd => (hl d hd).mono (Nat.le_succ _)
  · rcases get n u e with ⟨h1, e'⟩ | ⟨h1, e'⟩
    · exact (s1.bs b hb).2 n u e' h
    · have := (s1.bs b hb).1; have := s.bl; omega
  · rw [hlen] at h2
    have e : n = S.len := by omega
    rw [if_pos e]; exact hp
/-- an object that may change is changed -/
theorem Sim.put (s : Sim K cl S B F φ H) {n : Nat} {o : Ob} {x : HO} (hn : n < S.len) (ho : OR K cl F φ (some x) o) (hl : o.lt S.len) (hb : S.b ≤ n ∨ ∀ k, o.lt k) :
    Sim K cl (S.put n o) B F φ (upd H (φ n) x) ∧ Ext S F φ H (S.put n o) F φ (upd H (φ n) x) := by
  have hlen : (S.put n o).len = S.len := by show (S.os.set n o).length = _; simp
  have fn := (s.ob n _ (List.getElem?_eq_getElem hn)).1
  have get : ∀ (m : Nat) (u : Ob), (S.put n o).os[m]? = some u → (m ≠ n ∧ S.os[m]? = some u) ∨ (m = n ∧ u = o) := fun m u e => by
    have e : (S.os.set n o)[m]? = some u := e
    by_cases h : n = m
    · subst h
      rw [List.getElem?_set_self hn] at e
      cases e
      exact .inr ⟨rfl, rfl⟩
    · rw [List.getElem?_set_ne h] at e; exact .inl ⟨Ne.symm h, e⟩
  have ne : ∀ m, m < S.len → m ≠ n → φ m ≠ φ n := fun m hm h e => h (s.inj m n hm hn e)
  have all : Sim K cl (S.put n o) B F φ (upd H (φ n) x) := by
    refine ⟨fun a u e => ?_, fun m u e => ?_, fun a b h1 h2 => ?_, fun m u e => ?_, fun b hb' => ⟨(s.bs b hb').1, fun m u e h => ?_⟩, by rw [hlen]; exact s.bl⟩
    · rw [upd_ne (ne_of_none e fn)]; exact s.le a u e
    · rcases get m u e with ⟨h, e⟩ | ⟨rfl, rfl⟩
      · rw [upd_ne (ne m (List.getElem?_eq_some_iff.mp e).1 h)]; exact s.ob m u e
      · rw [upd_same]; exact ⟨fn, ho⟩
    · exact s.inj a b (by omega) (by omega)
    · rw [hlen]
      rcases get m u e with ⟨h, e⟩ | ⟨rfl, rfl⟩
      · exact s.wf m u e
      · exact hl
    · rcases get m u e with ⟨h1, e⟩ | ⟨rfl, rfl⟩
      · exact (s.bs b hb').2 m u e h
      · rcases hb with hb | hb
        · have := (s.bs b hb').1; omega
        · exact hb b
  refine ⟨all, ⟨Same.refl _, Nat.le_of_eq hlen.symm, rfl, fun _ _ => rfl, fun m h1 h2 => by omega, fun a u e h => ?_, fun m hm => all.ne0 (by omega), fun _ _ _ h _ => h⟩⟩
  rw [upd_ne (fun z => h n hn z.symm)]; exact e
theorem newT_ok {ds : List D} {vs : List V} (h : OkE K cl S B F φ H (newT ds S) Q) (s : Sim K cl S B F φ H) (r : DRA K cl F φ ds vs) : vs.length ≤ sizeLine ∧ ∀ p, H p = none → Q (.ref p) (upd H p (.tup vs)) := by
  unfold newT at h
  cases e : toPs ds with
  | none => rw [e] at h; obtain ⟨_, _, z, _⟩ := h; cases z
  | some ps =>
    rw [e] at h
    have ed := toPs_of e
    subst ed
    have hlen := r.length
    rw [List.length_map] at hlen
    dsimp only at h
    by_cases hz : ps.length ≤ sizeLine
    · rw [if_pos hz] at h
      refine ⟨by rw [← hlen]; exact hz, fun p hp => ?_⟩
      obtain ⟨s1, x1⟩ := s.frz (H' := upd H p (.tup vs)) (Same.new (Same.refl H) hp) hp upd_same
      exact h.fin rfl s1 x1 (Rp.tup (.inl (.inl upd_same)) (RpA.mono x1.fz r.rpa)) trivial
    · rw [if_neg hz] at h; obtain ⟨_, _, z, _⟩ := h; cases z
theorem newL_ok {live : Bool} {ds : List D} {vs : List V} (h : OkE K cl S B F φ H (newL live ds S) Q) (s : Sim K cl S B F φ H) (r : DRA K cl F φ ds vs) (l : ∀ d ∈ ds, d.lt S.len) : vs.length ≤ sizeLine ∧ ∀ p H', H p = none → Same H H' → H' p = some (.lst vs) → Q (.ref p) H' := by
  unfold newL at h
  have hlen := r.length
  by_cases hz : ds.length ≤ sizeLine
  · rw [if_pos hz] at h
    refine ⟨by rw [← hlen]; exact hz, fun p H' hp sm hv => ?_⟩
    cases live with
    | true =>
      rw [if_pos rfl] at h
      obtain ⟨s1, x1⟩ := s.push (H' := H') sm (o := .lst ds) hp ⟨vs, hv, r⟩ l
      exact h.fin rfl s1 x1 (show V.ref p = V.ref (if S.len = S.len then p else φ S.len) by rw [if_pos rfl]) (show S.len < (S.os ++ [Ob.lst ds]).length by simp)
    | false =>
      rw [if_neg Bool.false_ne_true] at h
      cases e : toPs ds with
      | none => rw [e] at h; obtain ⟨_, _, z, _⟩ := h; cases z
      | some ps =>
        rw [e] at h
        have ed := toPs_of e
        subst ed
        obtain ⟨s1, x1⟩ := s.frz (H' := H') sm hp hv
        exact h.fin rfl s1 x1 (Rp.lst (.inl (.inl upd_same)) (RpA.mono x1.fz r.rpa)) trivial
  · rw [if_neg hz] at h; obtain ⟨_, _, z, _⟩ := h; cases z
theorem newL_ok1 {live : Bool} {ds : List D} {vs : List V} (h : OkE K cl S B F φ H (newL live ds S) Q) (s : Sim K cl S B F φ H) (r : DRA K cl F φ ds vs) (l : ∀ d ∈ ds, d.lt S.len) : vs.length ≤ sizeLine ∧ ∀ p, H p = none → Q (.ref p) (upd H p (.lst vs)) := by
  obtain ⟨a, b⟩ := newL_ok h s r l
  exact ⟨a, fun p hp => b p _ hp (Same.new (Same.refl H) hp) upd_same⟩
/-- a list's items are there -/
theorem asL_ok (s : Sim K cl S B F φ H) {d : D} {ds : List D} {v : V} (e : asL d S = some ds) (r : DR K cl F φ d v) (l : d.lt S.len) : ∃ a vs, v = .ref a ∧ SqL K H a vs ∧ DRA K cl F φ ds vs ∧ ∀ x ∈ ds, x.lt S.len := by
  cases d with
  | p x =>
    cases x <;> try (cases e; done)
    rename_i ps
    cases e
    cases (show Rp K cl F (.lst ps) v from r) with
    | lst q t => exact ⟨_, _, rfl, SqL.mono s.le q, t.dra, lt_map⟩
  | ref n =>
    unfold asL at e
    dsimp only at e
    cases q : S.os[n]? with
    | none => rw [q] at e; cases e
    | some o =>
      rw [q] at e
      cases o <;> try (cases e; done)
      rename_i ds'
      cases e
      obtain ⟨vs, ev, rv⟩ := (s.ob n _ q).2
      exact ⟨_, vs, r, .inl (.inl ev), rv, s.wf n _ q⟩
theorem asQ_ok (s : Sim K cl S B F φ H) {d : D} {ds : List D} {v : V} (e : asQ d S = some ds) (r : DR K cl F φ d v) (l : d.lt S.len) : ∃ a vs, v = .ref a ∧ (SqL K H a vs ∨ SqT K H a vs) ∧ DRA K cl F φ ds vs ∧ ∀ x ∈ ds, x.lt S.len := by
  cases d with
  | p x =>
    cases x <;> try (cases e; done)
    · rename_i ps
      cases e
      cases (show Rp K cl F (.tup ps) v from r) with
      | tup q t => exact ⟨_, _, rfl, .inr (SqT.mono s.le q), t.dra, lt_map⟩
    · rename_i ps
      cases e
      cases (show Rp K cl F (.lst ps) v from r) with
      | lst q t => exact ⟨_, _, rfl, .inl (SqL.mono s.le q), t.dra, lt_map⟩
  | ref n =>
    obtain ⟨a, vs, h1, h2, h3⟩ := asL_ok s (d := .ref n) e r l
    exact ⟨a, vs, h1, .inl h2, h3⟩
end

/-! ### displays, calls -/
def dTup (m : MA) : ME := fun σ S => bnd (m σ S) fun ds S1 => newT ds S1
def dLst (live : Bool) (m : MA) : ME := fun σ S => bnd (m σ S) fun ds S1 => newL live ds S1
def fldsOf (d : D) (S : SH) : Option (Nat × List (Str × D)) := match d with
  | .p (.ins c fs) => some (c, fs.map fun p => (p.1, .p p.2))
  | .ref n => match S.os[n]? with | some (.ins c fs) => some (c, fs) | _ => none
  | _ => none
def dFld (cs : List Nat) (f : Str) (d : D) (S : SH) : Option (D × SH) := match fldsOf d S with
  | some (c, fs) => if cs.contains c = true then (match fs.lookup f with | some x => some (x, S) | none => none) else none
  | none => none
def dMeth (c : Nat) (nm : Str) (f : MF) (o : ME) (a : MA) : ME := fun σ S => bnd (o σ S) fun d S1 => match fldsOf d S1 with
  | some (c', fs) => if c' = c ∧ fs.lookup nm = none then bnd (a σ S1) fun xs S2 => f (d :: xs) S2 else none
  | none => none
/-- C(..) -/
def dMake (live : Bool) (c : Nat) (init : MF) (a : MA) : ME := fun σ S => bnd (a σ S) fun xs S1 =>
  if live = true then bnd (init (.ref S1.len :: xs) (S1.push (.ins c []))) fun d S2 => match d with | .p .non => some (.ref S1.len, S2) | _ => none
  else bnd (init (.ref S1.len :: xs) ⟨S1.len, S1.os ++ [.ins c []]⟩) fun d S2 => match d with
    | .p .non => match outD S1.len S2 (.ref S1.len) with | some d' => some (d', cutS S1 S2) | none => none
    | _ => none
/-- o.f = v -/
def putFD (f : Str) (v : D) : List (Str × D) → List (Str × D)
  | [] => [(f, v)]
  | (g, x) :: r => if g = f then (g, v) :: r else (g, x) :: putFD f v r
def okRef (S : SH) (n : Nat) : D → Bool
  | .p _ => true
  | .ref _ => decide (S.b ≤ n)
@[simp] theorem okRef_p (S : SH) (n : Nat) (x : P) : okRef S n (.p x) = true := id rfl
def setFld (cs : List Nat) (f : Str) (o v : D) (S : SH) : Option SH := match o with
  | .ref n => match S.os[n]? with
    | some (.ins c fs) => if cs.contains c = true ∧ fs.length < 1000 ∧ okRef S n v = true then some (S.put n (.ins c (putFD f v fs))) else none
    | _ => none
  | _ => none
def dSetF (cs : List Nat) (f : Str) (o v : ME) : MS := fun σ S => bnd (v σ S) fun y S1 => bnd (o σ S1) fun x S2 => match setFld cs f x y S2 with | some S3 => some (.nx σ, S3) | none => none

section
variable {X : Cx} {cl : Nat → Addr} {es : List Expr} {e o value : Expr} {pos pos' : Pos} {mr : MA} {me mo mv : ME}
theorem k_tup {x1} (h : PA X es (LA X.K cl mr)) : PE X (.Tuple es x1 pos) (LE X.K cl (dTup mr)) := by
  refine (pe_tup h).imp fun σ H Q q => ?_
  obtain ⟨σd, S, B, F, φ, s, rs, o⟩ := q
  obtain ⟨ds, S1, e, o⟩ := okE_bnd o
  exact LA.then_ s rs e fun F1 φ1 H1 vs s1 x1 rs1 dr l => newT_ok (o.ext x1) s1 dr
theorem k_lst {live : Bool} (h : PA X es (LA X.K cl mr)) : PE X (.List es pos) (LE X.K cl (dLst live mr)) := by
  refine (pe_lst h).imp fun σ H Q q => ?_
  obtain ⟨σd, S, B, F, φ, s, rs, o⟩ := q
  obtain ⟨ds, S1, e, o⟩ := okE_bnd o
  exact LA.then_ s rs e fun F1 φ1 H1 vs s1 x1 rs1 dr l => newL_ok1 (o.ext x1) s1 dr l
theorem lookup_drk {K : PySem.W.Frag} {F : Hp} {φ : Nat → Addr} {f : Str} : ∀ {fs : List (Str × D)} {gs : List (Str × V)}, DRK K cl F φ fs gs → (fs.lookup f = none → gs.lookup f = none) ∧ ∀ x, fs.lookup f = some x → ∃ v, gs.lookup f = some v ∧ DR K cl F φ x v
  | _, _, .nil => ⟨fun _ => rfl, fun x h => by cases h⟩
  | (k, x) :: fs, (k', v) :: gs, .cons r t => by
    obtain ⟨rfl, r⟩ := r
    obtain ⟨i1, i2⟩ := lookup_drk (f := f) t
    rw [List.lookup_cons, List.lookup_cons]
    cases hk : f == k with
    | true => exact ⟨fun z => by simp at z, fun y hy => by simp at hy; subst hy; exact ⟨v, by simp, r⟩⟩
    | false => exact ⟨fun z => by simpa using i1 (by simpa using z), fun y hy => by simpa using i2 y (by simpa using hy)⟩
theorem RpF.drk {K : PySem.W.Frag} {F : Hp} {φ : Nat → Addr} : ∀ {fs : List (Str × P)} {gs : List (Str × V)}, RpF K cl F fs gs → DRK K cl F φ (fs.map fun p => (p.1, D.p p.2)) gs
  | _, _, .nil => .nil
  | _, _, .cons a b => .cons ⟨rfl, a⟩ (RpF.drk b)
theorem flds_ok {K : PySem.W.Frag} {S : SH} {B : List Nat} {F : Hp} {φ : Nat → Addr} {H : Hp} (s : Sim K cl S B F φ H) {d : D} {c : Nat} {fs : List (Str × D)} {v : V} (e : fldsOf d S = some (c, fs)) (r : DR K cl F φ d v) : ∃ a dx gs, v = .ref a ∧ H a = some (.ins (cl c) dx gs) ∧ DRK K cl F φ fs gs ∧ ∀ x ∈ fs.map (·.2), x.lt S.len := by
  cases d with
  | p x =>
    cases x <;> try (cases e; done)
    rename_i c' fs'
    cases e
    cases (show Rp K cl F (.ins c fs') v from r) with
    | ins q t => exact ⟨_, _, _, rfl, s.le _ _ q, t.drk, fun x hx => by
        obtain ⟨p, hp, rfl⟩ := List.mem_map.mp hx
        obtain ⟨p', hp', rfl⟩ := List.mem_map.mp hp
        trivial⟩
  | ref n =>
    unfold fldsOf at e
    dsimp only at e
    cases q : S.os[n]? with
    | none => rw [q] at e; cases e
    | some o =>
      rw [q] at e
      cases o <;> try (cases e; done)
      rename_i c' fs'
      cases e
      obtain ⟨dx, gs, ev, rv⟩ := (s.ob n _ q).2
      exact ⟨_, dx, gs, r, ev, rv, s.wf n _ q⟩
theorem k_fld {f : Str} {cs : List Nat} (hc : ∀ c ∈ cs, Cls X.K (cl c) ∧ NoAttr X.K (cl c) f) (he : PE X e (LE X.K cl me)) (hb : attributeBase e f X.env (eval e X.env) = eval e X.env := by rfl) : PE X (.Attribute e f pos) (LE X.K cl (dUn (dFld cs f) me)) := by
  refine (pe_fld he hb).imp fun σ H Q q => ?_
  obtain ⟨σd, S, B, F, φ, s, rs, o⟩ := q
  obtain ⟨d, S1, e, o⟩ := okE_bnd o
  refine LE.then_ s rs e fun F1 φ1 H1 x s1 x1 rs1 dr l => ?_
  have o := o.ext x1
  unfold dFld at o
  cases e1 : fldsOf d S1 with
  | none => rw [e1] at o; obtain ⟨_, _, z, _⟩ := o; cases z
  | some p =>
    obtain ⟨c, fs⟩ := p
    rw [e1] at o
    obtain ⟨a, dx, gs, rfl, ha, rf, lf⟩ := flds_ok s1 e1 dr
    dsimp only at o
    by_cases hm : cs.contains c = true
    · rw [if_pos hm] at o
      cases e2 : fs.lookup f with
      | none => rw [e2] at o; obtain ⟨_, _, z, _⟩ := o; cases z
      | some y =>
        rw [e2] at o
        obtain ⟨v, hv, rv⟩ := (lookup_drk rf).2 y e2
        obtain ⟨h1, h2⟩ := hc c (by simpa using hm)
        exact ⟨a, cl c, dx, gs, v, rfl, ha, h1, h2, hv, o.fin0 rfl s1 rv (lf y (by
          exact List.mem_map.mpr ⟨_, PySem.mem_of_lookup e2, rfl⟩))⟩
    · rw [if_neg hm] at o; obtain ⟨_, _, z, _⟩ := o; cases z
end
section
variable {K : PySem.W.Frag} {cl : Nat → Addr} {S S' S1 S2 : SH} {B : List Nat} {F F' F1 F2 H H' H1 H2 : Hp} {φ φ' φ1 φ2 : Nat → Addr}
theorem okRef_b {n : Nat} {d : D} (h : okRef S n d = true) : S.b ≤ n ∨ ∀ k, d.lt k := by
  cases d with
  | p x => exact .inr fun _ => trivial
  | ref m => exact .inl (of_decide_eq_true h)
/-- the object at n may hold what o holds: what it held, data, or places where it is of this def -/
theorem putGen {n : Nat} {o : Ob} {x : HO} {u0 : Ob} (s : Sim K cl S B F φ H) (q : S.os[n]? = some u0) (he : ∀ y ∈ o.ds, (∀ k, y.lt k) ∨ y ∈ u0.ds ∨ (S.b ≤ n ∧ y.lt S.len)) (ho : OR K cl F φ (some x) o) :
    Sim K cl (S.put n o) B F φ (upd H (φ n) x) ∧ Ext S F φ H (S.put n o) F φ (upd H (φ n) x) := by
  have hn : n < S.len := (List.getElem?_eq_some_iff.mp q).1
  have wf := s.wf n _ q
  have lt1 : o.lt S.len := fun y hy => by
    rcases he y hy with h | h | h
    · exact h _
    · exact wf y h
    · exact h.2
  have hlen : (S.put n o).len = S.len := by show (S.os.set n o).length = _; simp
  have fn := (s.ob n _ q).1
  have get : ∀ (m : Nat) (u : Ob), (S.put n o).os[m]? = some u → (m ≠ n ∧ S.os[m]? = some u) ∨ (m = n ∧ u = o) := fun m u e => by
    have e : (S.os.set n o)[m]? = some u := e
    by_cases h : n = m
    · subst h
      rw [List.getElem?_set_self hn] at e
      cases e
      exact .inr ⟨rfl, rfl⟩
    · rw [List.getElem?_set_ne h] at e; exact .inl ⟨Ne.symm h, e⟩
  have ne : ∀ m, m < S.len → m ≠ n → φ m ≠ φ n := fun m hm h e => h (s.inj m n hm hn e)
  have all : Sim K cl (S.put n o) B F φ (upd H (φ n) x) := by
    refine ⟨fun a u e => ?_, fun m u e => ?_, fun a b h1 h2 => ?_, fun m u e => ?_, fun b hb' => ⟨(s.bs b hb').1, fun m u e h' => ?_⟩, by rw [hlen]; exact s.bl⟩
    · rw [upd_ne (ne_of_none e fn)]; exact s.le a u e
    · rcases get m u e with ⟨h, e⟩ | ⟨rfl, rfl⟩
      · rw [upd_ne (ne m (List.getElem?_eq_some_iff.mp e).1 h)]; exact s.ob m u e
      · rw [upd_same]; exact ⟨fn, ho⟩
    · exact s.inj a b (by omega) (by omega)
    · rw [hlen]
      rcases get m u e with ⟨h, e⟩ | ⟨rfl, rfl⟩
      · exact s.wf m u e
      · exact lt1
    · rcases get m u e with ⟨h1, e⟩ | ⟨rfl, rfl⟩
      · exact (s.bs b hb').2 m u e h'
      · intro y hy
        rcases he y hy with h | h | h
        · exact h b
        · exact (s.bs b hb').2 m _ q h' y h
        · have := (s.bs b hb').1; omega
  refine ⟨all, ⟨Same.refl _, Nat.le_of_eq hlen.symm, rfl, fun _ _ => rfl, fun m h1 h2 => by omega, fun a u e h => ?_, fun m hm => all.ne0 (by omega), fun _ _ _ h _ => h⟩⟩
  rw [upd_ne (fun z => h n hn z.symm)]; exact e
end
end Pv
namespace Pv
open PySem PySem.Spec PyProof.Rows L2

section
variable {X : Cx} {cl : Nat → Addr} {CX : CXT} {es : List Expr} {e o value : Expr} {pos pos' p apos : Pos} {mr : MA} {me mo mv : ME} {k : Nat} {f C : Addr} {fd : FuncData} {ps : List Str} {m : MF} {E : XK} {x nm : Str}
theorem k_call (F : FnOk X.prog X.w X.K X.mg X.base CX k f fd ps (spOf X.K cl m)) (hr : Room k X.A) (hg : Gl X x) (hm : X.mg x = some (.ref f)) (hk : PySem.W.keepIn X.K (.ref f) = true) (hb : Binds X.K fd ps []) (hx : Passes CX X E)
    (ha : PA X (e :: es) (LA X.K cl mr)) (hdb : (x == ("__debug__" : Str)) = false := by decide) (he : starEach (e :: es) X.env = (false, eval e X.env) :: starEach es X.env := by rfl) (hpl : (backTo pos (starEach es X.env)).any (·.1) = false := by rfl) :
    PE X (.Call (.Name x p) (e :: es) [] pos) (LE X.K cl (dCall m mr)) := by
  refine (pe_call F hr hg hm hk hb .nil hx ha hdb he hpl).imp fun σ H Q q => ?_
  refine e_call (r := fun vs H1 Q => spOf X.K cl m (vs ++ []) H1 Q E) (fun S B F φ H ds xs Q s dr l o => ?_) q
  show spOf X.K cl m (xs ++ []) H Q E
  rw [List.append_nil]
  exact ⟨ds, S, B, F, φ, s, dr, l, o⟩
theorem k_call0 (F : FnOk X.prog X.w X.K X.mg X.base CX k f fd ps (spOf X.K cl m)) (hr : Room k X.A) (hg : Gl X x) (hm : X.mg x = some (.ref f)) (hk : PySem.W.keepIn X.K (.ref f) = true) (hb : Binds X.K fd ps []) (hx : Passes CX X E)
    (hdb : (x == ("__debug__" : Str)) = false := by decide) : PE X (.Call (.Name x p) [] [] pos) (LE X.K cl (dCall m dNil)) := by
  refine (pe_call0 F hr hg hm hk hb .nil hx hdb).imp fun σ H Q q => ?_
  obtain ⟨σd, S, B, F, φ, s, rs, o⟩ := q
  exact ⟨[], S, B, F, φ, s, .nil, fun _ z => absurd z (by simp), o⟩
theorem e_meth {c : Nat} {σ : L2.St} {H : Hp} {Q : VK} (hx : C = cl c) (q : LE X.K cl (dMeth c nm m mo mr) σ H Q) : tMeth C nm (spOf X.K cl m) [] E (LE X.K cl mo) (LA X.K cl mr) σ H Q := by
  obtain ⟨σd, S, B, F, φ, s, rs, o⟩ := q
  obtain ⟨d, S1, e, o⟩ := okE_bnd o
  refine LE.then_ s rs e fun F1 φ1 H1 x s1 x1 rs1 dr1 l1 => ?_
  cases e1 : fldsOf d S1 with
  | none => rw [e1] at o; obtain ⟨_, _, z, _⟩ := o; cases z
  | some p =>
    obtain ⟨c', fs⟩ := p
    rw [e1] at o
    obtain ⟨a, dx, gs, rfl, ha, rf, lf⟩ := flds_ok s1 e1 dr1
    dsimp only at o
    by_cases hc : c' = c ∧ fs.lookup nm = none
    · rw [if_pos hc] at o
      obtain ⟨hc1, hn⟩ := hc
      obtain ⟨xs, S2, em, o2⟩ := okE_bnd o
      refine ⟨a, dx, gs, rfl, by rw [hx, ← hc1]; exact ha, (lookup_drk rf).1 hn, ?_⟩
      refine LA.then_ s1 rs1 em fun F2 φ2 H2 vs s2 x2 rs2 dr2 l2 => ?_
      rw [List.append_nil]
      refine ⟨d :: xs, S2, B, F2, φ2, s2, .cons (x2.dr l1 dr1) dr2, fun y hy => ?_, o2.ext (x1.trans x2)⟩
      rcases List.mem_cons.mp hy with rfl | hy
      · exact x2.lt l1
      · exact l2 y hy
    · rw [if_neg hc] at o; obtain ⟨_, _, z, _⟩ := o; cases z
theorem k_meth {c : Nat} {pl : Sem Bool} (he : PE X o (LE X.K cl mo)) (cc : Cls X.K C) (hm : Meth X.K C nm f) (F : FnOk X.prog X.w X.K X.mg X.base CX k f fd ps (spOf X.K cl m)) (hr : Room k X.A) (hb : Binds X.K fd ps []) (hx : Passes CX X E) (ha : PA X (e :: es) (LA X.K cl mr)) (hcl : C = cl c := by rfl)
    (hst : starEach (e :: es) X.env = (false, eval e X.env) :: starEach es X.env := by rfl) (hpl : (backTo pos (starEach es X.env)).any (·.1) = false := by rfl)
    (ht : eval (.Call (.Attribute o nm apos) (e :: es) [] pos) X.env = (do
      let ov ← eval o X.env
      standAt apos.atName
      let (f, first) ← holding [ov] (getMethod ov nm pl)
      callWith pos f first (backTo pos (starEach (e :: es) X.env)) (backToKw pos (keywordEach [] X.env))) := by rfl) :
    PE X (.Call (.Attribute o nm apos) (e :: es) [] pos) (LE X.K cl (dMeth c nm m mo mr)) :=
  (pe_meth (pl := pl) he cc hm F hr hb .nil hx ha hst hpl ht).imp fun _ _ _ q => e_meth hcl q
theorem k_meth0 {c : Nat} {pl : Sem Bool} (he : PE X o (LE X.K cl mo)) (cc : Cls X.K C) (hm : Meth X.K C nm f) (F : FnOk X.prog X.w X.K X.mg X.base CX k f fd ps (spOf X.K cl m)) (hr : Room k X.A) (hb : Binds X.K fd ps []) (hx : Passes CX X E) (hcl : C = cl c := by rfl)
    (ht : eval (.Call (.Attribute o nm apos) [] [] pos) X.env = (do
      let ov ← eval o X.env
      standAt apos.atName
      let (f, first) ← holding [ov] (getMethod ov nm pl)
      callWith pos f first (backTo pos (starEach [] X.env)) (backToKw pos (keywordEach [] X.env))) := by rfl) :
    PE X (.Call (.Attribute o nm apos) [] [] pos) (LE X.K cl (dMeth c nm m mo dNil)) := by
  refine (pe_meth0 (pl := pl) he cc hm F hr hb .nil hx ht).imp fun σ H Q q => ?_
  have z := e_meth (E := E) hcl q
  unfold tMeth at z ⊢
  obtain ⟨σd, S, B, F, φ, s, rs, d, S1, e, k⟩ := z
  refine ⟨σd, S, B, F, φ, s, rs, d, S1, e, fun F1 φ1 H1 u s1 x1 dr l => ?_⟩
  obtain ⟨a, dx, fs, h1, h2, h3, h4⟩ := k F1 φ1 H1 u s1 x1 dr l
  refine ⟨a, dx, fs, h1, h2, h3, ?_⟩
  obtain ⟨σd', S', B', F', φ', s', rs', d', S1', e', k'⟩ := h4
  cases e'
  exact k' F' φ' H1 [] s' (.refl s') .nil fun _ z => absurd z (by simp)
theorem e_make {live : Bool} {c : Nat} {σ : L2.St} {H : Hp} {Q : VK} (hx : C = cl c) (q : LE X.K cl (dMake live c m mr) σ H Q) : tMake C (spOf X.K cl m) [] E (LA X.K cl mr) σ H Q := by
  obtain ⟨σd, S, B, F, φ, s, rs, o⟩ := q
  obtain ⟨ds, S1, e, o⟩ := okE_bnd o
  refine LA.then_ s rs e fun F1 φ1 H1 vs s1 x1 rs1 dr l => ?_
  intro a dx na ndx nad
  rw [List.append_nil]
  have o := o.ext x1
  have sm : Same H1 (upd (upd H1 dx (.own a)) a (.ins C dx [])) := Same.new (Same.new (Same.refl _) ndx) (by rw [upd_ne (Ne.symm nad)]; exact na)
  have none_lt : (Ob.ins c []).lt S1.len := fun d hd => by simp [Ob.ds] at hd
  have hor : OR X.K cl F1 φ1 (upd (upd H1 dx (.own a)) a (.ins C dx []) a) (.ins c []) := ⟨dx, [], by rw [upd_same, hx], .nil⟩
  cases live with
  | true =>
    rw [if_pos rfl] at o
    obtain ⟨s2, x2⟩ := s1.push sm na hor none_lt
    obtain ⟨d, S2, e2, o⟩ := okE_bnd o
    refine ⟨.ref S1.len :: ds, _, B, F1, _, s2, .cons (show V.ref a = V.ref (if S1.len = S1.len then a else φ1 S1.len) by rw [if_pos rfl]) (x2.dra l dr), fun d hd => ?_, ⟨d, S2, e2, fun F3 φ3 H3 u s3 x3 dr3 l3 => ?_⟩⟩
    · rcases List.mem_cons.mp hd with rfl | hd
      · show S1.len < (S1.os ++ [_]).length
        simp
      · exact (l d hd).mono x2.len
    · cases d with
      | ref n => obtain ⟨_, _, z, _⟩ := o; cases z
      | p y =>
        cases y <;> first | (obtain ⟨_, _, z, _⟩ := o; cases z; done) | skip
        cases (show Rp X.K cl F3 .non u from dr3)
        refine ⟨rfl, o.fin rfl s3 (x2.trans x3) ?_ (Nat.lt_of_lt_of_le (show S1.len < (S1.os ++ [_]).length by simp) x3.len)⟩
        show V.ref a = V.ref (φ3 S1.len)
        rw [x3.phi S1.len (show S1.len < (S1.os ++ [_]).length by simp)]
        show V.ref a = V.ref (if S1.len = S1.len then a else φ1 S1.len)
        rw [if_pos rfl]
  | false =>
    rw [if_neg Bool.false_ne_true] at o
    obtain ⟨s2, x2⟩ := s1.begin.push sm na hor none_lt
    obtain ⟨d, S2, e2, o⟩ := okE_bnd o
    refine ⟨.ref S1.len :: ds, _, S1.len :: B, F1, _, s2, .cons (show V.ref a = V.ref (if S1.len = S1.len then a else φ1 S1.len) by rw [if_pos rfl]) (x2.dra l dr), fun d hd => ?_, ⟨d, S2, e2, fun F3 φ3 H3 u s3 x3 dr3 l3 => ?_⟩⟩
    · rcases List.mem_cons.mp hd with rfl | hd
      · show S1.len < (S1.os ++ [_]).length
        simp
      · exact (l d hd).mono x2.len
    · cases d with
      | ref n => obtain ⟨_, _, z, _⟩ := o; cases z
      | p y =>
        cases y <;> first | (obtain ⟨_, _, z, _⟩ := o; cases z; done) | skip
        cases (show Rp X.K cl F3 .non u from dr3)
        refine ⟨rfl, ?_⟩
        dsimp only at o
        cases ed : outD S1.len S2 (.ref S1.len) with
        | none => rw [ed] at o; obtain ⟨_, _, z, _⟩ := o; cases z
        | some d' =>
          rw [ed] at o
          have x4 := x2.trans x3
          have hl : S1.len < S2.len := Nat.lt_of_lt_of_le (show S1.len < (S1.os ++ [_]).length by simp) x3.len
          obtain ⟨h1, h2⟩ := outD_ok (S := S1) s3 x4.len (v := .ref (φ3 S1.len)) ed rfl hl
          have ea : φ3 S1.len = a := by
            rw [x3.phi S1.len (show S1.len < (S1.os ++ [_]).length by simp)]
            exact if_pos rfl
          rw [ea] at h1
          exact o.fin rfl (Sim.end_ s1 s3 x4.len) (Ext.end_ s3 x4) h1 h2
theorem k_make {live : Bool} {c : Nat} (M : Mk X.K C f) (F : FnOk X.prog X.w X.K X.mg X.base CX k f fd ps (spOf X.K cl m)) (hr : Room (k + 1) X.A) (hg : Gl X x) (hm : X.mg x = some (.ref C)) (hb : Binds X.K fd ps []) (hx : Passes CX X E)
    (ha : PA X (e :: es) (LA X.K cl mr)) (hcl : C = cl c := by rfl) (hdb : (x == ("__debug__" : Str)) = false := by decide) (he : starEach (e :: es) X.env = (false, eval e X.env) :: starEach es X.env := by rfl) (hpl : (backTo pos (starEach es X.env)).any (·.1) = false := by rfl) :
    PE X (.Call (.Name x p) (e :: es) [] pos) (LE X.K cl (dMake live c m mr)) :=
  (pe_make M F hr hg hm hb .nil hx ha hdb he hpl).imp fun _ _ _ q => e_make hcl q
theorem k_make0 {live : Bool} {c : Nat} (M : Mk X.K C f) (F : FnOk X.prog X.w X.K X.mg X.base CX k f fd ps (spOf X.K cl m)) (hr : Room (k + 1) X.A) (hg : Gl X x) (hm : X.mg x = some (.ref C)) (hb : Binds X.K fd ps []) (hx : Passes CX X E)
    (hcl : C = cl c := by rfl) (hdb : (x == ("__debug__" : Str)) = false := by decide) :
    PE X (.Call (.Name x p) [] [] pos) (LE X.K cl (dMake live c m dNil)) := by
  refine (pe_make0 M F hr hg hm hb .nil hx hdb).imp fun σ H Q q => ?_
  have z := e_make (E := E) hcl q
  obtain ⟨σd', S', B', F', φ', s', rs', d', S1', e', k'⟩ := z
  cases e'
  exact k' F' φ' H [] s' (.refl s') .nil fun _ z => absurd z (by simp)
theorem putFD_drk {K : PySem.W.Frag} {F : Hp} {φ : Nat → Addr} {f : Str} {d : D} {v : V} (r : DR K cl F φ d v) : ∀ {fs : List (Str × D)} {gs : List (Str × V)}, DRK K cl F φ fs gs → DRK K cl F φ (putFD f d fs) (putF f v gs)
  | _, _, .nil => .cons ⟨rfl, r⟩ .nil
  | (k, x) :: fs, (k', u) :: gs, .cons q t => by
    obtain ⟨rfl, q⟩ := q
    unfold putFD putF
    dsimp only
    by_cases h : k = f
    · rw [if_pos h, if_pos h]; exact .cons ⟨rfl, r⟩ t
    · rw [if_neg h, if_neg h]; exact .cons ⟨rfl, q⟩ (putFD_drk r t)
theorem mem_putFD {f : Str} {d : D} : ∀ {fs : List (Str × D)} {y : D}, y ∈ (putFD f d fs).map (·.2) → y = d ∨ y ∈ fs.map (·.2)
  | [], y, h => by simp [putFD] at h; exact .inl h
  | (k, x) :: r, y, h => by
    unfold putFD at h
    by_cases hk : k = f
    · rw [if_pos hk] at h
      simp only [List.map_cons, List.mem_cons] at h ⊢
      rcases h with h | h
      · exact .inl h
      · exact .inr (.inr h)
    · rw [if_neg hk] at h
      simp only [List.map_cons, List.mem_cons] at h ⊢
      rcases h with h | h
      · exact .inr (.inl h)
      · rcases mem_putFD h with h | h
        · exact .inl h
        · exact .inr (.inr h)
theorem isP_lt {d : D} {k : Nat} (h : (isP d).isSome = true) : d.lt k := by
  cases d with
  | p x => trivial
  | ref n => cases h
theorem DRK.length {K : PySem.W.Frag} {F : Hp} {φ : Nat → Addr} {κ : Type} {fs : List (κ × D)} {gs : List (κ × V)} (h : DRK K cl F φ fs gs) : fs.length = gs.length := Paired.length h
theorem setFld_ok {K : PySem.W.Frag} {cs : List Nat} {f : Str} {d v : D} {S S' : SH} {B : List Nat} {F : Hp} {φ : Nat → Addr} {H : Hp} {x y : V} (e : setFld cs f d v S = some S') (s : Sim K cl S B F φ H) (r : DR K cl F φ d x) (rv : DR K cl F φ v y) (lv : v.lt S.len) :
    ∃ a c dx gs, x = .ref a ∧ H a = some (.ins (cl c) dx gs) ∧ c ∈ cs ∧ gs.length < 1000 ∧ Sim K cl S' B F φ (upd H a (.ins (cl c) dx (putF f y gs))) ∧ Ext S F φ H S' F φ (upd H a (.ins (cl c) dx (putF f y gs))) := by
  cases d with
  | p _ => cases e
  | ref n =>
    unfold setFld at e
    dsimp only at e
    cases q : S.os[n]? with
    | none => rw [q] at e; cases e
    | some ob =>
      rw [q] at e
      cases ob <;> try (cases e; done)
      rename_i c fs
      dsimp only at e
      obtain ⟨dx, gs, ev, rf⟩ := (s.ob n _ q).2
      have hn : n < S.len := (List.getElem?_eq_some_iff.mp q).1
      have hl := rf.length
      have hor : OR K cl F φ (some (.ins (cl c) dx (putF f y gs))) (.ins c (putFD f v fs)) := ⟨dx, _, rfl, putFD_drk rv rf⟩
      have r' : x = .ref (φ n) := r
      by_cases h1 : cs.contains c = true ∧ fs.length < 1000 ∧ okRef S n v = true
      · rw [if_pos h1] at e
        cases e
        obtain ⟨h1, h2, h3⟩ := h1
        obtain ⟨s2, x2⟩ := putGen (o := .ins c (putFD f v fs)) s q (fun z hz => by
          rcases mem_putFD hz with rfl | hz
          · rcases okRef_b h3 with h | h
            · exact .inr (.inr ⟨h, lv⟩)
            · exact .inl h
          · exact .inr (.inl hz)) hor
        exact ⟨φ n, c, dx, gs, r', ev, by simpa using h1, by omega, s2, x2⟩
      · rw [if_neg h1] at e; cases e
theorem s_fld {f : Str} {cs : List Nat} (hc : ∀ c ∈ cs, Cls X.K (cl c) ∧ NoAttr X.K (cl c) f) (ha : PE X o (LE X.K cl mo)) (hv : PE X value (LE X.K cl mv)) (hs : swapsWith value (some (.Attribute o f pos')) pos.line X.env = pure false := by rfl) :
    PS X (.Assign [.Attribute o f pos'] value pos) (LS X.K cl (dSetF cs f mo mv)) := by
  refine (ps_fld ha hv hs).imp fun Z σ H q => ?_
  obtain ⟨σd, S, B, F, φ, s, rs, o⟩ := q
  obtain ⟨y, S1, e, o⟩ := okS_bnd o
  obtain ⟨d, S2, e2, o⟩ := okS_bnd o
  refine LE.then_ s rs e fun F1 φ1 H1 u s1 x1 rs1 dr1 l1 => LE.then_ s1 rs1 e2 fun F2 φ2 H2 v s2 x2 rs2 dr2 l2 => ?_
  cases e3 : setFld cs f d y S2 with
  | none => rw [e3] at o; obtain ⟨_, _, z, _⟩ := o; cases z
  | some S3 =>
    rw [e3] at o
    obtain ⟨_, _, z, k⟩ := o
    cases z
    obtain ⟨a, c, dx, gs, rfl, ha, hm, hz, s3, x3⟩ := setFld_ok e3 s2 dr2 (x2.dr l1 dr1) (x2.lt l1)
    obtain ⟨h1, h2⟩ := hc c hm
    exact ⟨a, cl c, dx, gs, rfl, ha, h1, h2, hz, k _ _ _ σ s3 ((x1.trans x2).trans x3) (x3.rs rs2)⟩
/-- o.f op= v -/
def dAugF (cs : List Nat) (f : Str) (op : D → D → SH → Option (D × SH)) (o v : ME) : MS := fun σ S => bnd (o σ S) fun x S1 => match fldsOf x S1 with
  | some (c, fs) => if cs.contains c = true then (match fs.lookup f with
    | some old => bnd (v σ S1) fun y S3 => bnd (op old y S3) fun z S4 => match setFld [c] f x z S4 with | some S5 => some (.nx σ, S5) | none => none
    | none => none) else none
  | none => none
theorem s_augF {f : Str} {cs : List Nat} {op : Operator} {fo : D → D → SH → Option (D × SH)} {rd : V → V → Hp → VK → Prop} (hd : OpD X.K cl fo rd) (ho : InOp X op rd) (hc : ∀ c ∈ cs, Cls X.K (cl c) ∧ NoAttr X.K (cl c) f) (ha : PE X o (LE X.K cl mo)) (hv : PE X value (LE X.K cl mv)) :
    PS X (.AugAssign (.Attribute o f pos') op value pos) (LS X.K cl (dAugF cs f fo mo mv)) := by
  refine (ps_fldaug ha hv ho).imp fun Z σ H q => ?_
  obtain ⟨σd, S, B, F, φ, s, rs, o0⟩ := q
  obtain ⟨d, S1, e, o1⟩ := okS_bnd o0
  refine LE.then_ s rs e fun F1 φ1 H1 u s1 x1 rs1 dr1 l1 => ?_
  cases e5 : fldsOf d S1 with
  | none => rw [e5] at o1; obtain ⟨_, _, z, _⟩ := o1; cases z
  | some p =>
    obtain ⟨c, fs⟩ := p
    rw [e5] at o1
    obtain ⟨a, dx, gs, eu, ha, rf, lf⟩ := flds_ok s1 e5 dr1
    dsimp only at o1
    by_cases hm : cs.contains c = true
    · rw [if_pos hm] at o1
      cases e6 : fs.lookup f with
      | none => rw [e6] at o1; obtain ⟨_, _, z, _⟩ := o1; cases z
      | some old =>
        rw [e6] at o1
        dsimp only at o1
        obtain ⟨y, S3, e3, o3⟩ := okS_bnd o1
        obtain ⟨z, S4, e4, o4⟩ := okS_bnd o3
        obtain ⟨v0, hv0, rv0⟩ := (lookup_drk rf).2 _ e6
        have lold : old.lt S1.len := lf _ (List.mem_map.mpr ⟨_, PySem.mem_of_lookup e6, rfl⟩)
        obtain ⟨h1, h2⟩ := hc c (by simpa using hm)
        refine ⟨a, cl c, dx, gs, v0, eu, ha, h1, h2, hv0, ?_⟩
        refine LE.then_ s1 rs1 e3 fun F3 φ3 H3 v s3 x3 rs3 dr3 l3 => ?_
        refine hd S3 B F3 φ3 H3 old y v0 v _ s3 (x3.dr lold rv0) dr3 (x3.lt lold) l3 ⟨z, S4, e4, fun F4 φ4 H4 w s4 x4 dr4 l4 => ?_⟩
        cases e7 : setFld [c] f d z S4 with
        | none => rw [e7] at o4; obtain ⟨_, _, z, _⟩ := o4; cases z
        | some S5 =>
          rw [e7] at o4
          obtain ⟨_, _, z, k⟩ := o4
          cases z
          obtain ⟨a', c', dx', gs', ea, ha', hm', hz', s5, x5⟩ := setFld_ok e7 s4 (x4.dr (x3.lt l1) (x3.dr l1 dr1)) dr4 l4
          have ec : c' = c := by simpa using hm'
          have eaa : a = a' := by rw [eu] at ea; injection ea
          subst ec
          subst eaa
          exact ⟨dx', gs', ha', hz', k _ _ _ σ s5 (((x1.trans x3).trans x4).trans x5) (x5.rs (x4.rs rs3))⟩
    · rw [if_neg hm] at o1; obtain ⟨_, _, z, _⟩ := o1; cases z
end
end Pv
namespace Pv
open PySem PySem.Spec PyProof.Rows L2

/-! ### targets -/
abbrev MG := D → En → SH → Option (En × SH)
abbrev MGs := List D → En → SH → Option (En × SH)
section
variable (K : PySem.W.Frag) (cl : Nat → Addr)
def OkG (vs : List Nat) (σ : L2.St) (S : SH) (B : List Nat) (F : Hp) (φ : Nat → Addr) (H : Hp) (r : Option (En × SH)) (Q : L2.St → Hp → Prop) : Prop :=
  ∃ σ1 S1, r = some (σ1, S1) ∧ ∀ F1 φ1 H1 σ', Sim K cl S1 B F1 φ1 H1 → Ext S F φ H S1 F1 φ1 H1 → RS K cl F1 φ1 S1.len σ1 σ' → (σ'.length = σ.length ∧ ∀ j, j ∉ vs → σ'[j]? = σ[j]?) → Q σ' H1
def LG (vs : List Nat) (g : MG) : TG := fun v σ H Q => ∃ d σd S B F φ, Sim K cl S B F φ H ∧ RS K cl F φ S.len σd σ ∧ DR K cl F φ d v ∧ d.lt S.len ∧ OkG K cl vs σ S B F φ H (g d σd S) Q
def LGs (vs : List Nat) (g : MGs) : TGs := fun us σ H Q => ∃ ds σd S B F φ, Sim K cl S B F φ H ∧ RS K cl F φ S.len σd σ ∧ DRA K cl F φ ds us ∧ (∀ d ∈ ds, d.lt S.len) ∧ OkG K cl vs σ S B F φ H (g ds σd S) Q
end
def gNm (i : Nat) : MG := fun d σ S => some (σ.set i (some d), S)
def gNl : MGs := fun ds σ S => match ds with | [] => some (σ, S) | _ => none
def gCn (g : MG) (gs : MGs) : MGs := fun ds σ S => match ds with | d :: r => bnd (g d σ S) fun σ1 S1 => gs r σ1 S1 | [] => none
def gTp (n : Nat) (gs : MGs) : MG := fun d σ S => match d with | .p (.tup ps) => if ps.length = n then gs (ps.map .p) σ S else none | _ => none
/-- o[i] = v -/
def setIx (o i v : D) (S : SH) : Option SH := match o, i with
  | .ref n, .p (.int k) => match S.os[n]? with
    | some (.lst ds) => match ixN ds.length k with
      | some j => if okRef S n v = true then some (S.put n (.lst (ds.set j v))) else none
      | none => none
    | _ => none
  | _, _ => none
def gSb (o i : ME) : MG := fun d σ S => bnd (o σ S) fun x S1 => bnd (i σ S1) fun y S2 => match setIx x y d S2 with | some S3 => some (σ, S3) | none => none
def dAsg (e : ME) (g : MG) : MS := fun σ S => bnd (e σ S) fun d S1 => bnd (g d σ S1) fun σ2 S2 => some (.nx σ2, S2)

section
variable {K : PySem.W.Frag} {cl : Nat → Addr} {S S' S1 S2 : SH} {B : List Nat} {F F' F1 F2 H H' H1 H2 : Hp} {φ φ' φ1 φ2 : Nat → Addr}
theorem okG_bnd {vs : List Nat} {σ : L2.St} {α : Type} {r : Option (α × SH)} {f : α → SH → Option (En × SH)} {Q : L2.St → Hp → Prop} (h : OkG K cl vs σ S B F φ H (bnd r f) Q) : ∃ a S1, r = some (a, S1) ∧ OkG K cl vs σ S B F φ H (f a S1) Q := by
  cases r with
  | none => obtain ⟨_, _, z, _⟩ := h; cases z
  | some p => exact ⟨p.1, p.2, rfl, h⟩
theorem DRA.set {ds : List D} {vs : List V} {d : D} {v : V} (r : DR K cl F φ d v) : ∀ {ds : List D} {vs : List V} (j : Nat), DRA K cl F φ ds vs → DRA K cl F φ (ds.set j d) (vs.set j v)
  | _, _, _, .nil => .nil
  | _, _, 0, .cons _ t => .cons r t
  | _, _, j + 1, .cons a t => .cons a (DRA.set (ds := ds) (vs := vs) r j t)
theorem DRA.append {ds es : List D} {vs us : List V} (a : DRA K cl F φ ds vs) (b : DRA K cl F φ es us) : DRA K cl F φ (ds ++ es) (vs ++ us) := by
  induction a with
  | nil => exact b
  | cons r t ih => exact .cons r ih
theorem okB_set {n : Nat} {ds : List D} {d : D} {j : Nat} (w : (Ob.lst ds).lt S.len) (l : d.lt S.len) : (Ob.lst (ds.set j d)).lt S.len := fun y hy => by
  rcases List.mem_or_eq_of_mem_set hy with h | h
  · exact w y h
  · rw [h]; exact l
theorem putOk {n : Nat} {o : Ob} {x : HO} {ds : List D} {d : D} (s : Sim K cl S B F φ H) (q : S.os[n]? = some (.lst ds)) (hd : okRef S n d = true) (l : d.lt S.len) (he : ∀ y ∈ o.ds, y = d ∨ y ∈ ds) (ho : OR K cl F φ (some x) o) :
    Sim K cl (S.put n o) B F φ (upd H (φ n) x) ∧ Ext S F φ H (S.put n o) F φ (upd H (φ n) x) :=
  putGen s q (fun y hy => by
    rcases he y hy with rfl | h
    · rcases okRef_b hd with h | h
      · exact .inr (.inr ⟨h, l⟩)
      · exact .inl h
    · exact .inr (.inl h)) ho
theorem setIx_ok {o i v : D} {x y u : V} (e : setIx o i v S = some S') (s : Sim K cl S B F φ H) (ro : DR K cl F φ o x) (ri : DR K cl F φ i y) (rv : DR K cl F φ v u) (lv : v.lt S.len) :
    ∃ p xs k j, x = .ref p ∧ y = .int k ∧ H p = some (.lst xs) ∧ ixN xs.length k = some j ∧ Sim K cl S' B F φ (upd H p (.lst (xs.set j u))) ∧ Ext S F φ H S' F φ (upd H p (.lst (xs.set j u))) := by
  cases o with
  | p _ => cases e
  | ref n =>
    cases i with
    | ref _ => cases e
    | p z =>
      cases z <;> try (cases e; done)
      rename_i k
      unfold setIx at e
      dsimp only at e
      cases q : S.os[n]? with
      | none => rw [q] at e; cases e
      | some ob =>
        rw [q] at e
        cases ob <;> try (cases e; done)
        rename_i ds
        dsimp only at e
        cases hj : ixN ds.length k with
        | none => rw [hj] at e; cases e
        | some j =>
          rw [hj] at e
          dsimp only at e
          by_cases hr : okRef S n v = true
          · rw [if_pos hr] at e
            cases e
            obtain ⟨vs, ev, rvs⟩ := (s.ob n _ q).2
            have hl := rvs.length
            cases (show Rp K cl F (.int k) y from ri)
            obtain ⟨a, b⟩ := putOk (o := .lst (ds.set j v)) (x := .lst (vs.set j u)) s q hr lv (fun y hy => by
              rcases List.mem_or_eq_of_mem_set hy with h | h
              · exact .inr h
              · exact .inl h) ⟨_, rfl, DRA.set (ds := ds) (vs := vs) rv j rvs⟩
            exact ⟨φ n, vs, k, j, ro, rfl, ev, by rw [← hl]; exact hj, a, b⟩
          · rw [if_neg hr] at e; cases e
end
section
variable {X : Cx} {cl : Nat → Addr} {tg e o ix : Expr} {es : List Expr} {pos : Pos} {g : MG} {gs : MGs} {vs us : List Nat} {me mo mi : ME}
theorem g_name {i : Nat} {x : Str} (hN : X.N.Nodup) (hi : X.N[i]? = some x) (hx : Loc X.env.scope x) (hf : X.fn x = true ∨ X.env.scope.names.lookup x = some .local := by first | exact .inl rfl | exact .inr rfl | assumption) : PG X (.Name x pos) (LG X.K cl [i] (gNm i)) := by
  have h := pg_name (pos := pos) hN hi hx hf
  refine ⟨fun pins s σ H v u Q I r q => h.run pins s σ H v u Q I r ?_⟩
  obtain ⟨d, σd, S, B, F, φ, sm, rs, dr, l, σ1, S1, e, k⟩ := q
  cases e
  refine k F φ H _ sm (.refl sm) (rs.set i dr l) ⟨by rw [List.length_set], fun j hj => ?_⟩
  rw [List.getElem?_set_ne]
  rintro rfl
  exact hj (by simp)
theorem gs_nil : PGs X [] (LGs X.K cl [] gNl) := by
  have h := pgs_nil (X := X)
  refine ⟨fun pins s σ H v u Q I r q => h.run pins s σ H v u Q I r ?_⟩
  obtain ⟨ds, σd, S, B, F, φ, sm, rs, dr, l, σ1, S1, e, k⟩ := q
  cases dr with
  | nil => cases e; exact ⟨rfl, k F φ H σ sm (.refl sm) rs ⟨rfl, fun _ _ => rfl⟩⟩
  | cons _ _ => cases e
theorem gs_cons (h1 : PG X e (LG X.K cl vs g)) (h2 : PGs X es (LGs X.K cl us gs)) (hs : (assignEach (e :: es) X.env).map (·.2) = assign e X.env :: (assignEach es X.env).map (·.2) := by rfl) : PGs X (e :: es) (LGs X.K cl (vs ++ us) (gCn g gs)) := by
  have h := pgs_cons h1 h2 hs
  refine ⟨fun pins s σ H v u Q I r q => h.run pins s σ H v u Q I r ?_⟩
  obtain ⟨ds, σd, S, B, F, φ, sm, rs, dr, l, ok⟩ := q
  cases dr with
  | nil => obtain ⟨_, _, z, _⟩ := ok; cases z
  | @cons d v0 ds' vs' r1 r2 =>
    obtain ⟨σ1, S1, e1, ok⟩ := okG_bnd ok
    refine ⟨v0, vs', rfl, d, σd, S, B, F, φ, sm, rs, r1, l d List.mem_cons_self, σ1, S1, e1, fun F1 φ1 H1 σ' s1 x1 rs1 hk => ?_⟩
    obtain ⟨σ2, S2, e2, k2⟩ := ok
    refine ⟨ds', σ1, S1, B, F1, φ1, s1, rs1, x1.dra (fun y hy => l y (List.mem_cons_of_mem _ hy)) r2, fun y hy => x1.lt (l y (List.mem_cons_of_mem _ hy)), σ2, S2, e2, fun F2 φ2 H2 σ'' s2 x2 rs2 hk2 => ?_⟩
    refine k2 F2 φ2 H2 σ'' s2 (x1.trans x2) rs2 ⟨hk2.1.trans hk.1, fun j hj => ?_⟩
    rw [List.mem_append, not_or] at hj
    exact (hk2.2 j hj.2).trans (hk.2 j hj.1)
theorem g_tup {k n : Nat} (hc : X.calm = true) (h : PGs X es (LGs X.K cl vs gs)) (hn : (assignEach es X.env).length = n := by rfl) (hst : (assignEach es X.env).findIdx? (·.1) = none := by rfl) : PG X (.Tuple es k pos) (LG X.K cl vs (gTp n gs)) := by
  have h := pg_tup (k := k) (pos := pos) hc h hn hst
  refine ⟨fun pins s σ H v u Q I r q => h.run pins s σ H v u Q I r ?_⟩
  obtain ⟨d, σd, S, B, F, φ, sm, rs, dr, l, ok⟩ := q
  cases d with
  | ref _ => obtain ⟨_, _, z, _⟩ := ok; cases z
  | p x =>
    cases x <;> try (obtain ⟨_, _, z, _⟩ := ok; cases z; done)
    rename_i ps
    unfold gTp at ok
    dsimp only at ok
    by_cases hp : ps.length = n
    · rw [if_pos hp] at ok
      cases (show Rp X.K cl F (.tup ps) v from dr) with
      | tup q t =>
        have tr : DRA X.K cl F φ (ps.map D.p) _ := t.dra
        have hl := tr.length
        rw [List.length_map] at hl
        exact ⟨_, _, rfl, SqT.mono sm.le q, by rw [← hl]; exact hp, _, σd, S, B, F, φ, sm, rs, tr, lt_map, ok⟩
    · rw [if_neg hp] at ok; obtain ⟨_, _, z, _⟩ := ok; cases z
theorem g_sub (ho : PE X o (LE X.K cl mo)) (hi : PE X ix (LE X.K cl mi))
    (ha : ∀ v, assign (.Subscript o ix pos) X.env v = (do
      let ov ← holding [v] (eval o X.env)
      let iv ← holding [v, ov] (eval ix X.env)
      standAt pos
      holding [v, ov, iv] (setItem ov iv v)
      release [v, ov, iv] []) := by intro _; rfl) : PG X (.Subscript o ix pos) (LG X.K cl [] (gSb mo mi)) := by
  have h := pg_sub ho hi set_list ha
  refine ⟨fun pins s σ H v u Q I r q => h.run pins s σ H v u Q I r ?_⟩
  obtain ⟨d, σd, S, B, F, φ, sm, rs, dr, l, ok⟩ := q
  obtain ⟨a, S1, e1, ok1⟩ := okG_bnd ok
  obtain ⟨b, S2, e2, ok2⟩ := okG_bnd ok1
  refine LE.then_ sm rs e1 fun F1 φ1 H1 x s1 x1 rs1 dr1 l1 => LE.then_ s1 rs1 e2 fun F2 φ2 H2 y s2 x2 rs2 dr2 l2 => ?_
  cases e3 : setIx a b d S2 with
  | none => rw [e3] at ok2; obtain ⟨_, _, z, _⟩ := ok2; cases z
  | some S3 =>
    rw [e3] at ok2
    obtain ⟨_, _, z, k⟩ := ok2
    cases z
    have x12 := x1.trans x2
    obtain ⟨p, xs, k0, j, h1, h2, h3, h4, s5, x5⟩ := setIx_ok e3 s2 (x2.dr l1 dr1) dr2 (x12.dr l dr) (x12.lt l)
    exact ⟨p, xs, k0, j, h1, h2, h3, h4, k _ _ _ σ s5 (x12.trans x5) (x5.rs rs2) ⟨rfl, fun _ _ => rfl⟩⟩
theorem s_asg (he : PE X e (LE X.K cl me)) (hg : PG X tg (LG X.K cl vs g)) (hs : swapsWithSole [tg] e pos.line X.env = pure false := by rfl) (hw : swappedStores [tg] e X.env = pure none := by rfl)
    (h1 : (assignEach [tg] X.env).map (·.2) = [assign tg X.env] := by rfl) : PS X (.Assign [tg] e pos) (LS X.K cl (dAsg me g)) := by
  refine (ps_asg he hg hs hw h1).imp fun Z σ H q => ?_
  obtain ⟨σd, S, B, F, φ, s, rs, o⟩ := q
  obtain ⟨d, S1, e1, o1⟩ := okS_bnd o
  obtain ⟨σ2, S2, e2, o2⟩ := okS_bnd o1
  obtain ⟨_, _, z, k⟩ := o2
  cases z
  exact LE.then_ s rs e1 fun F1 φ1 H1 u s1 x1 rs1 dr l => ⟨d, σd, S1, B, F1, φ1, s1, rs1, dr, l, σ2, S2, e2, fun F2 φ2 H2 σ' s2 x2 rs2 _ => k F2 φ2 H2 σ' s2 (x1.trans x2) rs2⟩
end

/-! ### what is walked -/
structure Src where
  items : List (SH → Option D)
  fin : SH → Bool
abbrev MI := En → SH → Option (Src × SH)
def srcP (ps : List P) : Src := ⟨ps.map fun p _ => some (.p p), fun _ => true⟩
/-- the list at n, its length unchanged -/
def itemR (n len i : Nat) (S : SH) : Option D := match S.os[n]? with
  | some (.lst ds) => if ds.length = len then ds[i]? else none
  | _ => none
def finR (n len : Nat) (S : SH) : Bool := match S.os[n]? with
  | some (.lst ds) => decide (ds.length = len)
  | _ => false
def srcR (n len : Nat) : Src := ⟨(List.range len).map (itemR n len), finR n len⟩
def srcOf (d : D) (S : SH) : Option (Src × SH) := match d with
  | .p (.lst ps) => some (srcP ps, S)
  | .p (.tup ps) => some (srcP ps, S)
  | .ref n => match S.os[n]? with | some (.lst ds) => some (srcR n ds.length, S) | _ => none
  | _ => none
def dIt (m : ME) : MI := fun σ S => bnd (m σ S) srcOf
def srcN (lo : Int) (n : Nat) : Src := ⟨(List.range n).map fun (i : Nat) _ => some (.p (.int (lo + (i : Int)))), fun _ => true⟩
def rng1 (ds : List D) (S : SH) : Option (Src × SH) := match ds with
  | [.p (.int j)] => if -(2 ^ 62) ≤ j ∧ j < 2 ^ 62 then some (srcN 0 j.toNat, S) else none
  | _ => none
def rng2 (ds : List D) (S : SH) : Option (Src × SH) := match ds with
  | [.p (.int i), .p (.int j)] => if -(2 ^ 62) ≤ i ∧ i < 2 ^ 62 ∧ -(2 ^ 62) ≤ j ∧ j < 2 ^ 62 then some (srcN i (j - i).toNat, S) else none
  | _ => none
def dRng1 (m : MA) : MI := fun σ S => bnd (m σ S) rng1
def dRng2 (m : MA) : MI := fun σ S => bnd (m σ S) rng2

section
variable (K : PySem.W.Frag) (cl : Nat → Addr)
def ItD (S1 : SH) (F1 : Hp) (φ1 : Nat → Addr) (J : It) (src : Src) : Prop :=
  ∀ S' B' F' φ' H', Sim K cl S' B' F' φ' H' → Same F1 F' → S1.len ≤ S'.len → (∀ n, n < S1.len → φ' n = φ1 n) → ∀ i : Nat,
    (∀ t d, src.items[i]? = some t → t S' = some d → d.lt S'.len ∧ J.go i H' ∧ ∀ x H2, J.yld i H' x H2 → ∃ F2, Sim K cl S' B' F2 φ' H2 ∧ Ext S' F' φ' H' S' F2 φ' H2 ∧ DR K cl F2 φ' d x) ∧
    (src.items.length ≤ i → src.fin S' = true → J.stop i H')
def LI (m : MI) : TI := fun σ H R => ∃ σd S B F φ, Sim K cl S B F φ H ∧ RS K cl F φ S.len σd σ ∧ ∃ src S1, m σd S = some (src, S1) ∧
  ∀ F1 φ1 H1 J, Sim K cl S1 B F1 φ1 H1 → Ext S F φ H S1 F1 φ1 H1 → ItD K cl S1 F1 φ1 J src → R J H1
end
section
variable {X : Cx} {cl : Nat → Addr} {tg e l : Expr} {pos p : Pos} {me : ME} {ma : MA}
theorem itD_seq {K : PySem.W.Frag} {S : SH} {F : Hp} {φ : Nat → Addr} {ps : List P} {vs : List V} {J : It} (hr : RpA K cl F ps vs)
    (hg : ∀ H, Same F H → ∀ (i : Nat) (x : V), vs[i]? = some x → J.go i H) (hy : ∀ H, Same F H → ∀ (i : Nat) (x : V), vs[i]? = some x → ∀ y H2, J.yld i H y H2 → H2 = H ∧ y = x) (hs : ∀ H, Same F H → ∀ i : Nat, vs.length ≤ i → J.stop i H) : ItD K cl S F φ J (srcP ps) := by
  intro S' B' F' φ' H' s sf hl hp i
  have dr : DRA K cl F' φ' (ps.map D.p) vs := (RpA.mono sf hr).dra
  have hlen := dr.length
  rw [List.length_map] at hlen
  refine ⟨fun t d ht htd => ?_, fun hi _ => ?_⟩
  · have ht : (ps.map fun p (_ : SH) => some (D.p p))[i]? = some t := ht
    rw [List.getElem?_map] at ht
    cases e : ps[i]? with
    | none => rw [e] at ht; cases ht
    | some q =>
      rw [e] at ht
      cases ht
      cases htd
      obtain ⟨v, hv, rv⟩ := dr.get (i := i) (d := .p q) (by rw [List.getElem?_map, e]; rfl)
      refine ⟨trivial, hg H' (sf.trans s.le) i v hv, fun x H2 y => ?_⟩
      obtain ⟨rfl, rfl⟩ := hy H' (sf.trans s.le) i v hv x H2 y
      exact ⟨F', s, .refl s, rv⟩
  · have hi : (ps.map fun p (_ : SH) => some (D.p p)).length ≤ i := hi
    rw [List.length_map] at hi
    exact hs H' (sf.trans s.le) i (by omega)
theorem sqL_inj {P : Program} {w : World} {h : Heap} {K : PySem.W.Frag} {H : Hp} {a : Addr} {xs ys : List V} : True := trivial
/-- any list or tuple, walked -/
theorem pi_any (hl : PE X l (LE X.K cl me)) : PI X tg l (LI X.K cl (dIt me)) := by
  refine ⟨fun pins s σ H R I h => ?_⟩
  obtain ⟨σd, S, B, F, φ, sm, rs, src, S1, e, k⟩ := h
  obtain ⟨d, S2, e1, e2⟩ := bnd_of e
  have base : LE X.K cl me σ H fun x H1 => ∃ F1 φ1, Sim X.K cl S2 B F1 φ1 H1 ∧ Ext S F φ H S2 F1 φ1 H1 ∧ DR X.K cl F1 φ1 d x ∧ d.lt S2.len :=
    LE.then_ sm rs e1 fun F1 φ1 H1 x s1 x1 rs1 dr1 l1 => ⟨F1, φ1, s1, x1, dr1, l1⟩
  refine thn (hl.run pins s σ H _ I base) fun v s1 ⟨x, H1, I1, r1, F1, φ1, sm1, x1, dr1, l1⟩ => ?_
  -- a list at a
  have lst : ∀ (a : Addr) (xs : List V), x = .ref a → SqL X.K H1 a xs → R (Itl X.K a) H1 → wpAny (model X.prog X.w) X.A (pyIter v) (PIE X pins σ tg R) X.xe s1 := by
    intro a xs ex hq hR
    subst ex
    cases r1
    obtain ⟨its, rv, p, hz⟩ := I1.list hq
    refine wpAny_pyIter_list p.isList ?_
    refine ⟨s1.heap.objs.size, [s1.heap.objs.size], _, _, H1, rfl, I1.kept (t' := s1.toks) fun b o e => Heap.get?_push_of_some _ e, turn_list a _, ⟨_, Heap.get?_push_size _ rfl, rfl, rfl⟩, fun b hb => ?_, hR⟩
    have e : b = s1.heap.objs.size := by simpa using hb
    subst e
    exact I1.fpOk (Nat.le_refl _) (I1.hok.fresh (Nat.le_refl _))
  have tup : ∀ (a : Addr) (xs : List V), x = .ref a → SqT X.K H1 a xs → R (Itt X.K a) H1 → wpAny (model X.prog X.w) X.A (pyIter v) (PIE X pins σ tg R) X.xe s1 := by
    intro a xs ex hq hR
    subst ex
    cases r1
    obtain ⟨its, rv, p, hz⟩ := I1.tuple hq
    refine wpAny_pyIter_tuple (show s1.heap.IsTuple a its.toArray from p) ?_
    refine ⟨s1.heap.objs.size, [s1.heap.objs.size], _, _, H1, rfl, I1.kept (t' := s1.toks) fun b o e => Heap.get?_push_of_some _ e, turn_tuple a _, ⟨_, Heap.get?_push_size _ rfl, rfl, rfl⟩, fun b hb => ?_, hR⟩
    have e : b = s1.heap.objs.size := by simpa using hb
    subst e
    exact I1.fpOk (Nat.le_refl _) (I1.hok.fresh (Nat.le_refl _))
  cases d with
  | p y =>
    cases y with
    | tup zs =>
      simp only [srcOf, Option.some.injEq, Prod.mk.injEq] at e2
      obtain ⟨rfl, rfl⟩ := e2
      cases (show Rp X.K cl F1 (.tup zs) x from dr1) with
      | @tup a _ vs q t =>
        refine tup a vs rfl (SqT.mono sm1.le q) (k F1 φ1 H1 _ sm1 x1 (itD_seq t (fun H sf i x hx => ⟨vs, x, SqT.mono sf q, hx⟩) (fun H sf i x hx y H2 hy => ⟨hy.1, ?_⟩) fun H sf i hi => ⟨vs, SqT.mono sf q, hi⟩))
        have := hy.2 vs (SqT.mono sf q)
        rw [hx] at this
        exact (Option.some.inj this).symm
    | lst zs =>
      simp only [srcOf, Option.some.injEq, Prod.mk.injEq] at e2
      obtain ⟨rfl, rfl⟩ := e2
      cases (show Rp X.K cl F1 (.lst zs) x from dr1) with
      | @lst a _ vs q t =>
        refine lst a vs rfl (SqL.mono sm1.le q) (k F1 φ1 H1 _ sm1 x1 (itD_seq t (fun H sf i x hx => ⟨vs, x, SqL.mono sf q, hx⟩) (fun H sf i x hx y H2 hy => ⟨hy.1, ?_⟩) fun H sf i hi => ⟨vs, SqL.mono sf q, hi⟩))
        have := hy.2 vs (SqL.mono sf q)
        rw [hx] at this
        exact (Option.some.inj this).symm
    | _ => cases e2
  | ref n =>
    unfold srcOf at e2
    dsimp only at e2
    cases q : S2.os[n]? with
    | none => rw [q] at e2; cases e2
    | some ob =>
      rw [q] at e2
      cases ob <;> try (cases e2; done)
      rename_i ds
      simp only [Option.some.injEq, Prod.mk.injEq] at e2
      obtain ⟨rfl, rfl⟩ := e2
      have hn : n < S2.len := (List.getElem?_eq_some_iff.mp q).1
      obtain ⟨vs, ev, rv⟩ := (sm1.ob n _ q).2
      refine lst (φ1 n) vs dr1 (.inl (.inl ev)) (k F1 φ1 H1 _ sm1 x1 ?_)
      intro S' B' F' φ' H' s' sf hl hp i
      have at_ : ∀ ds', S'.os[n]? = some (.lst ds') → ∃ vs', SqL X.K H' (φ1 n) vs' ∧ H' (φ1 n) = some (.lst vs') ∧ DRA X.K cl F' φ' ds' vs' := fun ds' q' => by
        obtain ⟨vs', ev', rv'⟩ := (s'.ob n _ q').2
        rw [hp n hn] at ev'
        exact ⟨vs', .inl (.inl ev'), ev', rv'⟩
      refine ⟨fun t d ht htd => ?_, fun hi hf => ?_⟩
      · have ht : ((List.range ds.length).map (itemR n ds.length))[i]? = some t := ht
        rw [List.getElem?_map] at ht
        cases er : (List.range ds.length)[i]? with
        | none => rw [er] at ht; cases ht
        | some j =>
          rw [er] at ht
          cases ht
          have hj : j = i := by
            have := List.getElem?_eq_some_iff.mp er
            obtain ⟨h1, h2⟩ := this
            rw [List.getElem_range] at h2
            exact h2.symm
          subst hj
          unfold itemR at htd
          cases q' : S'.os[n]? with
          | none => rw [q'] at htd; cases htd
          | some ob' =>
            rw [q'] at htd
            cases ob' <;> try (cases htd; done)
            rename_i ds'
            dsimp only at htd
            by_cases hlen : ds'.length = ds.length
            · rw [if_pos hlen] at htd
              obtain ⟨vs', h1, h2, h3⟩ := at_ ds' q'
              obtain ⟨v', hv', rv'⟩ := h3.get htd
              refine ⟨s'.wf n _ q' d (List.mem_of_getElem? htd), ⟨vs', v', h1, hv'⟩, fun x H2 hy => ?_⟩
              obtain ⟨rfl, hy⟩ := hy
              have := hy vs' h1
              rw [hv'] at this
              cases this
              exact ⟨F', s', .refl s', rv'⟩
            · rw [if_neg hlen] at htd; cases htd
      · have hf : finR n ds.length S' = true := hf
        unfold finR at hf
        cases q' : S'.os[n]? with
        | none => rw [q'] at hf; cases hf
        | some ob' =>
          rw [q'] at hf
          cases ob' <;> try (cases hf; done)
          rename_i ds'
          have hlen : ds'.length = ds.length := of_decide_eq_true hf
          obtain ⟨vs', h1, h2, h3⟩ := at_ ds' q'
          refine ⟨vs', h1, ?_⟩
          have := h3.length
          have hi : ((List.range ds.length).map (itemR n ds.length)).length ≤ i := hi
          rw [List.length_map, List.length_range] at hi
          omega
theorem itD_rng {K : PySem.W.Frag} {S : SH} {F : Hp} {φ : Nat → Addr} {lo : Int} {n : Nat} : ItD K cl S F φ (Itr lo n) (srcN lo n) := by
  intro S' B' F' φ' H' s sf hl hp i
  refine ⟨fun t d ht htd => ?_, fun hi _ => ?_⟩
  · have ht : ((List.range n).map fun (i : Nat) (_ : SH) => some (D.p (.int (lo + (i : Int)))))[i]? = some t := ht
    rw [List.getElem?_map] at ht
    cases er : (List.range n)[i]? with
    | none => rw [er] at ht; cases ht
    | some j =>
      rw [er] at ht
      cases ht
      obtain ⟨h1, h2⟩ := List.getElem?_eq_some_iff.mp er
      rw [List.getElem_range] at h2
      rw [List.length_range] at h1
      subst h2
      cases htd
      refine ⟨trivial, h1, fun x H2 y => ?_⟩
      obtain ⟨rfl, rfl⟩ := y
      exact ⟨F', s, .refl s, Rp.int _⟩
  · have hi : ((List.range n).map fun (i : Nat) (_ : SH) => some (D.p (.int (lo + (i : Int))))).length ≤ i := hi
    rw [List.length_map, List.length_range] at hi
    exact hi
theorem drInt {K : PySem.W.Frag} {F : Hp} {φ : Nat → Addr} {i : Int} {x : V} (h : DR K cl F φ (.p (.int i)) x) : x = .int i := by
  cases (show Rp K cl F (.int i) x from h); rfl
theorem pi_rng1 {a : Expr} (hg : Gl X "range") (hm : X.mg "range" = none) (ha : PA X [a] (LA X.K cl ma)) (hs : starEach [a] X.env = [(false, eval a X.env)] := by rfl) : PI X tg (.Call (.Name "range" p) [a] [] pos) (LI X.K cl (dRng1 ma)) := by
  have h := pi_range1 (tg := tg) (p := p) (pos := pos) hg hm ha hs
  refine ⟨fun pins s σ H R I q => h.run pins s σ H R I ?_⟩
  obtain ⟨σd, S, B, F, φ, sm, rs, src, S1, e, k⟩ := q
  obtain ⟨ds, S2, e1, e2⟩ := bnd_of e
  refine LA.then_ sm rs e1 fun F1 φ1 H1 us s1 x1 rs1 dr l => ?_
  unfold rng1 at e2
  split at e2
  · rename_i j
    split at e2
    · rename_i hj
      cases e2
      cases dr with
      | cons r t =>
        cases t
        exact ⟨j, by rw [drInt r], hj.1, hj.2, k F1 φ1 H1 _ s1 x1 itD_rng⟩
    · cases e2
  · cases e2
theorem pi_rng2 {a b : Expr} (hg : Gl X "range") (hm : X.mg "range" = none) (ha : PA X [a, b] (LA X.K cl ma)) (hs : starEach [a, b] X.env = [(false, eval a X.env), (false, eval b X.env)] := by rfl) (hs2 : starEach [b] X.env = [(false, eval b X.env)] := by rfl) : PI X tg (.Call (.Name "range" p) [a, b] [] pos) (LI X.K cl (dRng2 ma)) := by
  have h := pi_range2 (tg := tg) (p := p) (pos := pos) hg hm ha hs hs2
  refine ⟨fun pins s σ H R I q => h.run pins s σ H R I ?_⟩
  obtain ⟨σd, S, B, F, φ, sm, rs, src, S1, e, k⟩ := q
  obtain ⟨ds, S2, e1, e2⟩ := bnd_of e
  refine LA.then_ sm rs e1 fun F1 φ1 H1 us s1 x1 rs1 dr l => ?_
  unfold rng2 at e2
  split at e2
  · rename_i i j
    split at e2
    · rename_i hj
      cases e2
      cases dr with
      | cons r t =>
        cases t with
        | cons r2 t =>
          cases t
          exact ⟨i, j, by rw [drInt r, drInt r2], hj, k F1 φ1 H1 _ s1 x1 itD_rng⟩
    · cases e2
  · cases e2
end

/-! ### loops -/
def forL (ws : List Nat) (fin : SH → Bool) (g : MG) (body : MS) : List (SH → Option D) → MS
  | [], σ, S => if fin S = true then some (.nx σ, S) else none
  | t :: ts, σ, S => match t S with
    | some d => bnd (g d σ S) fun σ1 S1 => bnd (body σ1 S1) fun f S2 => match f with
      | .nx σ2 => forL ws fin g body ts (wipeD ws σ2) S2
      | .ct σ2 => forL ws fin g body ts (wipeD ws σ2) S2
      | .brk σ2 => some (.nx (wipeD ws σ2), S2)
      | .ret d => some (.ret d, S2)
    | none => none
/-- ws: the names that no turn needs from the one before, nor what follows -/
def dFor (ws : List Nat) (m : MI) (g : MG) (body : MS) : MS := fun σ S => bnd (m σ S) fun src S1 => forL ws src.fin g body src.items (wipeD ws σ) S1
def whL (ws : List Nat) (t : MT) (body : MS) : Nat → MS
  | 0, _, _ => none
  | k + 1, σ, S => bnd (t σ S) fun b S1 => if b = true then bnd (body σ S1) fun f S2 => match f with
      | .nx σ2 => whL ws t body k (wipeD ws σ2) S2
      | .ct σ2 => whL ws t body k (wipeD ws σ2) S2
      | .brk σ2 => some (.nx (wipeD ws σ2), S2)
      | .ret d => some (.ret d, S2)
    else some (.nx σ, S1)
def dWhile (ws : List Nat) (fuel : Nat) (t : MT) (body : MS) : MS := fun σ S => whL ws t body fuel (wipeD ws σ) S
def compL (fin : SH → Bool) (g : MG) (c : MT) (elt : ME) (σ : En) : List (SH → Option D) → List D → SH → Option (List D × SH)
  | [], acc, S => if fin S = true then some (acc, S) else none
  | t :: ts, acc, S => match t S with
    | some d => bnd (g d σ S) fun σ1 S1 => bnd (c σ1 S1) fun b S2 => if b = true then
        (if acc.length < sizeLine then bnd (elt σ1 S2) fun y S3 => compL fin g c elt σ ts (acc ++ [y]) S3 else none)
        else compL fin g c elt σ ts acc S2
    | none => none
def dComp (live : Bool) (m : MI) (g : MG) (c : MT) (elt : ME) (vs : List Nat) : ME := fun σ S => bnd (m σ S) fun src S1 => bnd (compL src.fin g c elt (wipeD vs σ) src.items [] S1) fun ds S2 => newL live ds S2
def dYes : MT := fun _ S => some (true, S)
section
variable {X : Cx} {cl : Nat → Addr} {tg iter e : Expr} {body : List Stmt} {pos : Pos} {m : MI} {g : MG} {vs : List Nat} {mb : MS} {mt : MT} {me : ME}
theorem s_for {ws : List Nat} (hp : PassesOwn (model X.prog X.w) X.A X.env X.xe) (hc : X.calm = true) (hi : PI X tg iter (LI X.K cl m)) (hg : PG X tg (LG X.K cl vs g)) (hb : PSs X body (LS X.K cl mb))
    (hs : ∀ x, foldedSetIterable iter X.env x = pure x := by intro _; rfl) : PS X (.For tg iter body [] pos) (LS X.K cl (dFor ws m g mb)) := by
  refine (ps_for hp hc hi hg hb hs).imp fun Z σ H q => ?_
  obtain ⟨σd, S, B, F, φ, s, rs, o⟩ := q
  obtain ⟨src, S1, e1, o1⟩ := okS_bnd o
  refine ⟨σd, S, B, F, φ, s, rs, src, S1, e1, fun F1 φ1 H1 J s1 x1 it => ?_⟩
  refine ⟨fun i mm σ' H' => mm = src.items.length - i ∧ i ≤ src.items.length ∧ ∃ σd' S' F' φ', Sim X.K cl S' B F' φ' H' ∧ Ext S1 F1 φ1 H1 S' F' φ' H' ∧ RS X.K cl F' φ' S'.len σd' σ' ∧ OkS X.K cl S' B F' φ' H' (forL ws src.fin g mb (src.items.drop i) σd' S') Z,
    ⟨src.items.length, by simp, Nat.zero_le _, wipeD ws σd, S1, F1, φ1, s1, .refl s1, (x1.rs rs).wipe ws, by rw [List.drop_zero]; exact o1.ext x1⟩, ?_⟩
  rintro i mm σ' H' ⟨rfl, hi, σd', S', F', φ', s', x', rs', o'⟩
  obtain ⟨turn, stop⟩ := it S' B F' φ' H' s' x'.fz x'.len x'.phi i
  by_cases hlt : i < src.items.length
  · rw [List.drop_eq_getElem_cons hlt] at o'
    unfold forL at o'
    cases ht : src.items[i] S' with
    | none => rw [ht] at o'; obtain ⟨_, _, z, _⟩ := o'; cases z
    | some d =>
      rw [ht] at o'
      dsimp only at o'
      obtain ⟨ld, go, yld⟩ := turn _ d (List.getElem?_eq_getElem hlt) ht
      refine .inr ⟨go, fun σ3 H3 => ∃ σd3 S3 F3 φ3, Sim X.K cl S3 B F3 φ3 H3 ∧ Ext S1 F1 φ1 H1 S3 F3 φ3 H3 ∧ RS X.K cl F3 φ3 S3.len σd3 σ3 ∧ OkS X.K cl S3 B F3 φ3 H3 (forL ws src.fin g mb (src.items.drop (i + 1)) σd3 S3) Z, fun σ3 H3 h => ⟨src.items.length - (i + 1), by omega, rfl, hlt, h⟩, fun x H2 y => ?_⟩
      obtain ⟨F2, s2, x2, dr⟩ := yld x H2 y
      have o2 := o'.ext x2
      obtain ⟨σ3, S3, e3, o3⟩ := okS_bnd o2
      refine ⟨d, σd', S', B, F2, φ', s2, x2.rs rs', dr, ld, σ3, S3, e3, fun F4 φ4 H4 σ4 s4 x4 rs4 _ => ?_⟩
      obtain ⟨f, S5, e5, o5⟩ := okS_bnd (o3.ext x4)
      refine ⟨σ3, S3, B, F4, φ4, s4, rs4, f, S5, e5, ?_⟩
      cases f with
      | nx σ5 => exact fun F6 φ6 H6 σ6 s6 x6 rs6 => ⟨wipeD ws σ5, S5, F6, φ6, s6, x'.trans (x2.trans (x4.trans x6)), rs6.wipe ws, o5.ext x6⟩
      | ct σ5 => exact fun F6 φ6 H6 σ6 s6 x6 rs6 => ⟨wipeD ws σ5, S5, F6, φ6, s6, x'.trans (x2.trans (x4.trans x6)), rs6.wipe ws, o5.ext x6⟩
      | brk σ5 => obtain ⟨_, _, z, k⟩ := o5; cases z; exact fun F6 φ6 H6 σ6 s6 x6 rs6 => k F6 φ6 H6 σ6 s6 x6 (rs6.wipe ws)
      | ret d => obtain ⟨_, _, z, k⟩ := o5; cases z; exact k
  · have hd : src.items.drop i = [] := List.drop_eq_nil_iff.mpr (by omega)
    rw [hd] at o'
    unfold forL at o'
    by_cases hf : src.fin S' = true
    · rw [if_pos hf] at o'
      obtain ⟨_, _, z, k⟩ := o'
      cases z
      exact .inl ⟨stop (by omega) hf, k F' φ' H' σ' s' (.refl s') rs'⟩
    · rw [if_neg hf] at o'; obtain ⟨_, _, z, _⟩ := o'; cases z
theorem s_while {ws : List Nat} {c : Expr} {fuel : Nat} (hp : PassesOwn (model X.prog X.w) X.A X.env X.xe) (hc : PT X c (LT X.K cl mt)) (hb : PSs X body (LS X.K cl mb)) : PS X (.While c body [] pos) (LS X.K cl (dWhile ws fuel mt mb)) := by
  refine (ps_while hp hc hb).imp fun Z σ H q => ?_
  obtain ⟨σd, S, B, F, φ, s, rs, o⟩ := q
  refine ⟨fun k σ' H' => ∃ σd' S' F' φ', Sim X.K cl S' B F' φ' H' ∧ RS X.K cl F' φ' S'.len σd' σ' ∧ OkS X.K cl S' B F' φ' H' (whL ws mt mb k σd' S') Z, ⟨fuel, wipeD ws σd, S, F, φ, s, rs.wipe ws, o⟩, ?_⟩
  rintro k σ' H' ⟨σd', S', F', φ', s', rs', o'⟩
  cases k with
  | zero => obtain ⟨_, _, z, _⟩ := o'; cases z
  | succ k =>
    unfold whL at o'
    obtain ⟨b, S1, e1, o1⟩ := okS_bnd o'
    refine LT.then_ s' rs' e1 fun F1 φ1 H1 s1 x1 rs1 => ?_
    split
    · rename_i hb; rw [if_pos hb] at o1
      obtain ⟨f, S2, e2, o2⟩ := okS_bnd (o1.ext x1)
      refine ⟨fun σ3 H3 => ∃ σd3 S3 F3 φ3, Sim X.K cl S3 B F3 φ3 H3 ∧ RS X.K cl F3 φ3 S3.len σd3 σ3 ∧ OkS X.K cl S3 B F3 φ3 H3 (whL ws mt mb k σd3 S3) Z, fun σ3 H3 h => ⟨k, Nat.lt_succ_self _, h⟩, ?_⟩
      refine ⟨σd', S1, B, F1, φ1, s1, rs1, f, S2, e2, ?_⟩
      cases f with
      | nx σ5 => exact fun F6 φ6 H6 σ6 s6 x6 rs6 => ⟨wipeD ws σ5, S2, F6, φ6, s6, rs6.wipe ws, o2.ext x6⟩
      | ct σ5 => exact fun F6 φ6 H6 σ6 s6 x6 rs6 => ⟨wipeD ws σ5, S2, F6, φ6, s6, rs6.wipe ws, o2.ext x6⟩
      | brk σ5 => obtain ⟨_, _, z, k⟩ := o2; cases z; exact fun F6 φ6 H6 σ6 s6 x6 rs6 => k F6 φ6 H6 σ6 s6 x6 (rs6.wipe ws)
      | ret d => obtain ⟨_, _, z, k⟩ := o2; cases z; exact k
    · rename_i hb; rw [if_neg hb] at o1
      obtain ⟨_, _, z, k⟩ := o1
      cases z
      exact k F1 φ1 H1 σ' s1 x1 rs1
theorem wipe_get {σ : L2.St} {i : Nat} : ∀ {vs : List Nat}, i ∉ vs → (wipe σ vs)[i]? = σ[i]?
  | [], _ => rfl
  | v :: vs, h => by
    unfold wipe
    rw [List.mem_cons, not_or] at h
    rw [List.getElem?_set_ne (fun e => h.1 e.symm)]
    exact wipe_get h.2
theorem wipe_in {σ : L2.St} {i : Nat} : ∀ {vs : List Nat}, i ∈ vs → i < σ.length → (wipe σ vs)[i]? = some none
  | v :: vs, h, hl => by
    unfold wipe
    by_cases e : v = i
    · subst e
      rw [List.getElem?_set_self (by rw [wipe_length]; exact hl)]
    · rw [List.getElem?_set_ne e]
      rcases List.mem_cons.mp h with h | h
      · exact absurd h.symm e
      · exact wipe_in h hl
theorem wipe_eq {σ σ' : L2.St} {vs : List Nat} (h : σ'.length = σ.length) (k : ∀ j, j ∉ vs → σ'[j]? = σ[j]?) : wipe σ' vs = wipe σ vs := by
  apply List.ext_getElem?
  intro i
  by_cases hi : i ∈ vs
  · by_cases hl : i < σ.length
    · rw [wipe_in hi (by omega), wipe_in hi hl]
    · rw [List.getElem?_eq_none (by rw [wipe_length]; omega), List.getElem?_eq_none (by rw [wipe_length]; omega)]
  · rw [wipe_get hi, wipe_get hi]; exact k i hi
theorem wipe_wipe {σ : L2.St} {vs : List Nat} : wipe (wipe σ vs) vs = wipe σ vs := wipe_eq (wipe_length _ _) fun j h => wipe_get h
theorem wipeD_len : ∀ (vs : List Nat) (σd : En), (wipeD vs σd).length = σd.length
  | [], _ => rfl
  | i :: r, σd => by unfold wipeD; rw [wipeD_len r, List.length_set]
theorem wipeD_some : ∀ {vs : List Nat} {σd : En} {i : Nat} {d : D}, (wipeD vs σd)[i]? = some (some d) → σd[i]? = some (some d) ∧ i ∉ vs
  | [], _, _, _, h => ⟨h, by simp⟩
  | v :: vs, σd, i, d, h => by
    unfold wipeD at h
    obtain ⟨h1, h2⟩ := wipeD_some h
    by_cases e : v = i
    · subst e
      rw [List.getElem?_set, if_pos rfl] at h1
      split at h1 <;> cases h1
    · rw [List.getElem?_set_ne e] at h1
      exact ⟨h1, by rw [List.mem_cons, not_or]; exact ⟨fun z => e z.symm, h2⟩⟩
theorem RS.wipe2 {K : PySem.W.Frag} {F : Hp} {φ : Nat → Addr} {k : Nat} {σd : En} {σ : L2.St} (r : RS K cl F φ k σd σ) (vs : List Nat) : RS K cl F φ k (wipeD vs σd) (L2.wipe σ vs) := by
  refine ⟨by rw [wipeD_len, wipe_length]; exact r.1, fun i d e => ?_⟩
  obtain ⟨h1, h2⟩ := wipeD_some e
  obtain ⟨a, v, b, c⟩ := r.2 i d h1
  exact ⟨a, v, by rw [wipe_get h2]; exact b, c⟩
/-- another object, neither data nor one that may change here -/
def At (L : Addr) (us : List V) (S : SH) (F : Hp) (φ : Nat → Addr) (H : Hp) : Prop := H L = some (.lst us) ∧ F L = none ∧ ∀ n, n < S.len → φ n ≠ L
theorem At.ext {L : Addr} {us : List V} {S S' : SH} {F F' H H' : Hp} {φ φ' : Nat → Addr} (x : Ext S F φ H S' F' φ' H') (a : At L us S F φ H) : At L us S' F' φ' H' := by
  refine ⟨x.keep L _ a.1 a.2.2, x.fr L _ a.1 a.2.1 a.2.2, fun n hn e => ?_⟩
  by_cases h : n < S.len
  · exact a.2.2 n h ((x.phi n h).symm.trans e)
  · have := x.new n (Nat.le_of_not_lt h) hn
    rw [e, a.1] at this; cases this
theorem Sim.other {K : PySem.W.Frag} {S : SH} {B : List Nat} {F H : Hp} {φ : Nat → Addr} (s : Sim K cl S B F φ H) {L : Addr} (o : HO) (fL : F L = none) (np : ∀ n, n < S.len → φ n ≠ L) : Sim K cl S B F φ (upd H L o) := by
  refine ⟨fun a u e => ?_, fun n u e => ⟨(s.ob n u e).1, ?_⟩, s.inj, s.wf, s.bs, s.bl⟩
  · rw [upd_ne (ne_of_none e fL)]; exact s.le a u e
  · rw [upd_ne (np n (List.getElem?_eq_some_iff.mp e).1)]; exact (s.ob n u e).2
theorem Ext.other {S S' : SH} {F F' H H' : Hp} {φ φ' : Nat → Addr} (x : Ext S F φ H S' F' φ' H') {L : Addr} (o : HO) (h : H L = none) : Ext S F φ H S' F' φ' (upd H' L o) :=
  ⟨x.fz, x.len, x.b, x.phi, x.new, fun a u e n => by rw [upd_ne (ne_of_none e h)]; exact x.keep a u e n, fun n hn => by
    by_cases e : φ n = L
    · rw [e, upd_same]; simp
    · rw [upd_ne e]; exact x.tr n hn, x.fr⟩
theorem newL_at {K : PySem.W.Frag} {S0 S : SH} {B : List Nat} {F0 F H0 H : Hp} {φ0 φ : Nat → Addr} {Q : VK} {live : Bool} {ds : List D} {us : List V} {L : Addr} (h : OkE K cl S0 B F0 φ0 H0 (newL live ds S) Q) (s : Sim K cl S B F φ H) (x : Ext S0 F0 φ0 H0 S F φ H)
    (r : DRA K cl F φ ds us) (l : ∀ d ∈ ds, d.lt S.len) (a : At L us S F φ H) (h0 : H0 L = none) : Q (.ref L) H := by
  -- as if the object were laid just now
  obtain ⟨aL, fL, np⟩ := a
  let Hm : Hp := fun b => if b = L then none else H b
  have hm : Hm L = none := if_pos rfl
  have ne : ∀ b, b ≠ L → Hm b = H b := fun b hb => if_neg hb
  have sm : Sim K cl S B F φ Hm := ⟨fun b o e => by rw [ne b (ne_of_none e fL)]; exact s.le b o e, fun n o e => ⟨(s.ob n o e).1, by rw [ne _ (np n (List.getElem?_eq_some_iff.mp e).1)]; exact (s.ob n o e).2⟩, s.inj, s.wf, s.bs, s.bl⟩
  have xm : Ext S0 F0 φ0 H0 S F φ Hm := ⟨x.fz, x.len, x.b, x.phi, x.new, fun b o e n => by rw [ne b (ne_of_none e h0)]; exact x.keep b o e n, fun n hn e => by
      by_cases q : φ0 n = L
      · exact np n (Nat.lt_of_lt_of_le hn x.len) ((x.phi n hn).trans q)
      · rw [ne _ q] at e; exact x.tr n hn e, x.fr⟩
  have same : Same Hm H := fun b o e => by
    by_cases q : b = L
    · rw [q, hm] at e; cases e
    · rw [ne b q] at e; exact e
  exact (newL_ok (h.ext xm) sm r l).2 L H hm same aL
theorem e_comp {K : PySem.W.Frag} {live : Bool} {σ : L2.St} {H : Hp} {Q : VK} {ws : List Nat} (hw : ∀ j ∈ vs, j ∈ ws) (q : LE K cl (dComp live m g mt me ws) σ H Q) : tLc (LI K cl m) (LG K cl vs g) (LT K cl mt) (LE K cl me) ws σ H Q := by
  obtain ⟨σd, S, B, F, φ, s, rs, o⟩ := q
  obtain ⟨src, S1, e1, o1⟩ := okE_bnd o
  refine ⟨σd, S, B, F, φ, s, rs, src, S1, e1, fun F1 φ1 H1 J s1 x1 it => ?_⟩
  intro L hL
  have o1 := o1.ext x1
  have smL : Same H1 (upd H1 L (.lst [])) := Same.new (Same.refl _) hL
  obtain ⟨fL, pL⟩ := s1.none_p hL
  refine ⟨fun i mm H' => mm = src.items.length - i ∧ i ≤ src.items.length ∧ ∃ acc us S' F' φ', Sim K cl S' B F' φ' H' ∧ Ext S1 F1 φ1 H1 S' F' φ' H' ∧ At L us S' F' φ' H' ∧ DRA K cl F' φ' acc us ∧ (∀ d ∈ acc, d.lt S'.len) ∧
      OkE K cl S1 B F1 φ1 H1 (bnd (compL src.fin g mt me (wipeD ws σd) (src.items.drop i) acc S') fun ds S2 => newL live ds S2) Q,
    ⟨src.items.length, by simp, Nat.zero_le _, [], [], S1, F1, φ1, s1.keep smL, Ext.ofSame s1 smL, ⟨upd_same, fL, pL⟩, .nil, fun _ z => absurd z (by simp), by rw [List.drop_zero]; exact o1⟩, ?_⟩
  rintro i mm H' ⟨rfl, hi, acc, us, S', F', φ', s', x', at', ra, la, o'⟩
  obtain ⟨turn, stop⟩ := it S' B F' φ' H' s' x'.fz x'.len x'.phi i
  by_cases hlt : i < src.items.length
  · rw [List.drop_eq_getElem_cons hlt] at o'
    unfold compL at o'
    cases ht : src.items[i] S' with
    | none => rw [ht] at o'; obtain ⟨_, _, z, _⟩ := o'; cases z
    | some d =>
      rw [ht] at o'
      dsimp only at o'
      obtain ⟨ld, go, yld⟩ := turn _ d (List.getElem?_eq_getElem hlt) ht
      refine .inr ⟨go, fun H3 => ∃ acc us S' F' φ', Sim K cl S' B F' φ' H3 ∧ Ext S1 F1 φ1 H1 S' F' φ' H3 ∧ At L us S' F' φ' H3 ∧ DRA K cl F' φ' acc us ∧ (∀ d ∈ acc, d.lt S'.len) ∧
        OkE K cl S1 B F1 φ1 H1 (bnd (compL src.fin g mt me (wipeD ws σd) (src.items.drop (i + 1)) acc S') fun ds S2 => newL live ds S2) Q, fun H3 h => ⟨src.items.length - (i + 1), by omega, rfl, hlt, h⟩, fun x H2 y => ?_⟩
      obtain ⟨F2, s2, x2, dr⟩ := yld x H2 y
      obtain ⟨out, S9, eo, ko⟩ := okE_bnd o'
      obtain ⟨σ3, S3, e3, e4⟩ := bnd_of eo
      obtain ⟨b, S4, e5, e6⟩ := bnd_of e4
      refine ⟨d, wipeD ws σd, S', B, F2, φ', s2, (((x1.trans x').trans x2).rs rs).wipe2 ws, dr, ld, σ3, S3, e3, fun F4 φ4 H4 σ4 s4 x4 rs4 hk => ⟨?_, ?_⟩⟩
      · exact (wipe_eq hk.1 fun j hj => hk.2 j fun z => hj (hw j z)).trans wipe_wipe
      · refine LT.then_ s4 rs4 e5 fun F5 φ5 H5 s5 x5 rs5 => ?_
        have xa := (x2.trans x4).trans x5
        split
        · rename_i hb
          rw [if_pos hb] at e6
          by_cases hz : acc.length < sizeLine
          · rw [if_pos hz] at e6
            obtain ⟨y1, S6, e7, e8⟩ := bnd_of e6
            refine LE.then_ s5 rs5 e7 fun F6 φ6 H6 u s6 x6 rs6 dr6 l6 => ?_
            have xb := xa.trans x6
            have at6 := at'.ext xb
            have hlen := ra.length
            refine ⟨us, at6.1, by omega, acc ++ [y1], us ++ [u], S6, F6, φ6, s6.other _ at6.2.1 at6.2.2, (x'.trans xb).other _ hL, ⟨upd_same, at6.2⟩, ?_, fun z hz' => ?_, ?_⟩
            · exact DRA.append (xb.dra la ra) (.cons dr6 .nil)
            · rcases List.mem_append.mp hz' with h | h
              · exact xb.lt (la z h)
              · rw [List.mem_singleton.mp h]; exact l6
            · rw [e8]; exact ko
          · rw [if_neg hz] at e6; cases e6
        · rename_i hb
          rw [if_neg hb] at e6
          exact ⟨acc, us, S4, F5, φ5, s5, x'.trans xa, at'.ext xa, xa.dra la ra, fun z hz' => xa.lt (la z hz'), by rw [e6]; exact ko⟩
  · have hd : src.items.drop i = [] := List.drop_eq_nil_iff.mpr (by omega)
    rw [hd] at o'
    unfold compL at o'
    by_cases hf : src.fin S' = true
    · rw [if_pos hf] at o'
      exact .inl ⟨stop (by omega) hf, newL_at o' s' x' ra la at' hL⟩
    · rw [if_neg hf] at o'; obtain ⟨_, _, z, _⟩ := o'; cases z
theorem ts_nil : PTs X [] (LT X.K cl dYes) := by
  refine ⟨fun pins s σ H Q I h => pts_nil.run pins s σ H Q I ?_⟩
  obtain ⟨σd, S, B, F, φ, s, rs, d, S1, e, k⟩ := h
  cases e
  exact k F φ H s (.refl s)
theorem ts_one {c : Expr} (h : PT X c (LT X.K cl mt)) : PTs X [c] (LT X.K cl mt) := pts_one h
theorem k_comp {elt : Expr} {ifs : List Expr} {scope : Scope} {own : List (Str × Nat)} {live : Bool} (hc : X.calm = true) (hN : X.N.Nodup) (hi : PI X tg iter (LI X.K cl m)) (ok : BlkOk X.N X.env.scope scope own)
    (hg : ∀ (s : Shared) (H : Hp) (C : Addr) (cs : List (Str × Addr)) (fp : List Addr), PG (X.blk s H scope (compEnvC scope cs C X.env) fp) tg (LG X.K cl vs g)) (ht : ∀ (s : Shared) (H : Hp) (C : Addr) (cs : List (Str × Addr)) (fp : List Addr), PTs (X.blk s H scope (compEnvC scope cs C X.env) fp) ifs (LT X.K cl mt))
    (he : ∀ (s : Shared) (H : Hp) (C : Addr) (cs : List (Str × Addr)) (fp : List Addr), PE (X.blk s H scope (compEnvC scope cs C X.env) fp) elt (LE X.K cl me)) (hw : ∀ j ∈ vs, j ∈ own.map (·.2) := by decide) (hs : ∀ x, foldedSetIterable iter X.env x = pure x := by intro _; rfl) :
    PE X (.ListComp elt [⟨tg, iter, ifs, 0⟩] scope pos) (LE X.K cl (dComp live m g mt me (own.map (·.2)))) :=
  (pe_lc hc hN hi ok hg ht he hs).imp fun _ _ _ q => e_comp hw q
theorem s_setComp {i : Nat} {y : Str} {py spos : Pos} {elt : Expr} {ifs : List Expr} {scope : Scope} {own : List (Str × Nat)} {live : Bool} (hc : X.calm = true) (hN : X.N.Nodup) (hy : X.N[i]? = some y) (hyl : X.env.scope.names.lookup y = some .local)
    (hsw : swapsWith (.ListComp elt [⟨tg, iter, ifs, 0⟩] scope pos) (some (.Name y py)) spos.line X.env = pure true) (hi : PI X tg iter (LI X.K cl m)) (ok : BlkOk X.N X.env.scope scope own)
    (hg : ∀ (s : Shared) (H : Hp) (C : Addr) (cs : List (Str × Addr)) (fp : List Addr), PG (X.blk s H scope (compEnvC scope cs C X.env) fp) tg (LG X.K cl vs g)) (ht : ∀ (s : Shared) (H : Hp) (C : Addr) (cs : List (Str × Addr)) (fp : List Addr), PTs (X.blk s H scope (compEnvC scope cs C X.env) fp) ifs (LT X.K cl mt))
    (he : ∀ (s : Shared) (H : Hp) (C : Addr) (cs : List (Str × Addr)) (fp : List Addr), PE (X.blk s H scope (compEnvC scope cs C X.env) fp) elt (LE X.K cl me)) (hw : ∀ j ∈ vs, j ∈ own.map (·.2) := by decide) (hs : ∀ x, foldedSetIterable iter X.env x = pure x := by intro _; rfl) :
    PS X (.Assign [.Name y py] (.ListComp elt [⟨tg, iter, ifs, 0⟩] scope pos) spos) (LS X.K cl (dSet i (dComp live m g mt me (own.map (·.2))))) := by
  refine (ps_setLc hc hN hy hyl hsw hi ok hg ht he hs).imp fun Z σ H q => ?_
  obtain ⟨σd, S, B, F, φ, s, rs, o⟩ := q
  obtain ⟨d, S1, e1, o1⟩ := okS_bnd o
  obtain ⟨_, _, z, k⟩ := o1
  cases z
  exact e_comp hw ⟨σd, S, B, F, φ, s, rs, d, S1, e1, fun F1 φ1 H1 u s1 x1 dr l => k F1 φ1 H1 _ s1 x1 ((x1.rs rs).set i dr l)⟩
end
end Pv
namespace Pv
open PySem PySem.Spec PyProof.Rows L2

/-! ### == of data -/
mutual
def peq : P → P → Bool
  | .non, .non => true
  | .bl a, .bl b => a == b
  | .bl a, .int j => (if a = true then 1 else 0) == j
  | .int i, .bl b => i == (if b = true then 1 else 0)
  | .int i, .int j => i == j
  | .str x, .str y => x == y
  | .lst xs, .lst ys => peqA xs ys
  | .tup xs, .tup ys => peqA xs ys
  | _, _ => false
def peqA : List P → List P → Bool
  | [], [] => true
  | x :: xs, y :: ys => peq x y && peqA xs ys
  | _, _ => false
end
/-- data of nested lists and tuples, so deep at most -/
def okd : Nat → P → Bool
  | _, .non => true
  | _, .bl _ => true
  | _, .int _ => true
  | _, .str _ => true
  | k + 1, .lst ps => ps.all (okd k)
  | k + 1, .tup ps => ps.all (okd k)
  | _, _ => false
theorem peqA_len : ∀ {xs ys : List P}, xs.length ≠ ys.length → peqA xs ys = false
  | [], [], h => absurd rfl h
  | [], _ :: _, _ => by simp [peqA]
  | _ :: _, [], _ => by simp [peqA]
  | x :: xs, y :: ys, h => by
    rw [peqA, peqA_len (xs := xs) (ys := ys) (fun e => h (by rw [List.length_cons, List.length_cons, e])), Bool.and_false]
def pAt (xs ys : List P) (j : Nat) : Bool := peq (xs.getD j .non) (ys.getD j .non)
theorem peqA_all : ∀ {xs ys : List P}, xs.length = ys.length → peqA xs ys = (List.range xs.length).all (pAt xs ys)
  | [], [], _ => by simp [peqA]
  | [], _ :: _, h => by simp at h
  | _ :: _, [], h => by simp at h
  | x :: xs, y :: ys, h => by
    have h' : xs.length = ys.length := by simpa using h
    rw [peqA, peqA_all h', List.length_cons, List.range_succ_eq_map, List.all_cons, List.all_map]
    rfl
theorem pAt_get {xs ys : List P} {j : Nat} {x y : P} (h1 : xs[j]? = some x) (h2 : ys[j]? = some y) : pAt xs ys j = peq x y := by
  unfold pAt
  rw [List.getD_eq_getElem?_getD, List.getD_eq_getElem?_getD, h1, h2]
  rfl
section
variable {X : Cx} {cl : Nat → Addr} {pins : List (Addr × Obj)} {σ : L2.St} {H F : Hp} {s : Shared}
theorem RpA.get {K : PySem.W.Frag} : ∀ {ps : List P} {vs : List V} {i : Nat} {v : V}, RpA K cl F ps vs → vs[i]? = some v → ∃ p, ps[i]? = some p ∧ Rp K cl F p v
  | _, _, _, _, .nil, e => by simp at e
  | _, _, 0, _, .cons r _, e => by simp at e; subst e; exact ⟨_, rfl, r⟩
  | _, _, i + 1, _, .cons _ t, e => by
    obtain ⟨u, h1, h2⟩ := RpA.get (i := i) t (by simpa using e)
    exact ⟨u, by simpa using h1, h2⟩
theorem RpA.len {K : PySem.W.Frag} {ps : List P} {vs : List V} (h : RpA K cl F ps vs) : ps.length = vs.length := by
  induction ps generalizing vs with
  | nil => cases h; rfl
  | cons x r ih => cases h with | cons a b => rw [List.length_cons, List.length_cons, ih b]
/-- a list's, a tuple's items, by place -/
theorem lst_items (I : L2.Inv X pins σ H s) (sf : Same F H) {ps : List P} {v : V} {u : Value} (r : Rp X.K cl F (.lst ps) v) (ru : RelV v u) : ∃ a its, u = .ref a ∧ v = .ref a ∧ s.heap.IsList a its ∧ its.size = ps.length ∧ ∀ j (hj : j < its.size), ∃ p w, ps[j]? = some p ∧ Rp X.K cl F p w ∧ RelV w its[j] := by
  cases r with
  | @lst a _ vs q t =>
    cases ru
    obtain ⟨its, rv, pl, hz⟩ := I.list (SqL.mono sf q)
    have e1 := rv.length
    have e2 := t.len
    refine ⟨a, its.toArray, rfl, rfl, pl.isList, by rw [List.size_toArray]; omega, fun j hj => ?_⟩
    have hj2 : j < its.length := by simpa using hj
    have hv : vs[j]? = some vs[j] := List.getElem?_eq_getElem (by omega)
    obtain ⟨p, hp, rp⟩ := t.get hv
    obtain ⟨w, hw, rw'⟩ := rv.get hv
    refine ⟨p, vs[j], hp, rp, ?_⟩
    have : its[j] = w := by
      rw [List.getElem?_eq_getElem hj2] at hw
      exact Option.some.inj hw
    rw [List.getElem_toArray, this]
    exact rw'
theorem tup_items (I : L2.Inv X pins σ H s) (sf : Same F H) {ps : List P} {v : V} {u : Value} (r : Rp X.K cl F (.tup ps) v) (ru : RelV v u) : ∃ a its, u = .ref a ∧ v = .ref a ∧ s.heap.IsTuple a its ∧ its.size = ps.length ∧ ∀ j (hj : j < its.size), ∃ p w, ps[j]? = some p ∧ Rp X.K cl F p w ∧ RelV w its[j] := by
  cases r with
  | @tup a _ vs q t =>
    cases ru
    obtain ⟨its, rv, pl, hz⟩ := I.tuple (SqT.mono sf q)
    have e1 := rv.length
    have e2 := t.len
    refine ⟨a, its.toArray, rfl, rfl, pl, by rw [List.size_toArray]; omega, fun j hj => ?_⟩
    have hj2 : j < its.length := by simpa using hj
    have hv : vs[j]? = some vs[j] := List.getElem?_eq_getElem (by omega)
    obtain ⟨p, hp, rp⟩ := t.get hv
    obtain ⟨w, hw, rw'⟩ := rv.get hv
    refine ⟨p, vs[j], hp, rp, ?_⟩
    have : its[j] = w := by
      rw [List.getElem?_eq_getElem hj2] at hw
      exact Option.some.inj hw
    rw [List.getElem_toArray, this]
    exact rw'
theorem okd_at {k : Nat} {ps : List P} (h : ps.all (okd k) = true) {j : Nat} {p : P} (e : ps[j]? = some p) : okd k p = true := List.all_eq_true.mp h p (List.mem_of_getElem? e)
mutual
theorem peq_refl : ∀ (k : Nat) (p : P), okd k p = true → peq p p = true
  | _, .non, _ => rfl
  | _, .bl b, _ => by simp [peq]
  | _, .int i, _ => by simp [peq]
  | _, .str x, _ => by simp [peq]
  | 0, .lst _, h => by simp [okd] at h
  | 0, .tup _, h => by simp [okd] at h
  | k + 1, .lst ps, h => by rw [peq]; exact peqA_refl k ps (by simpa [okd] using h)
  | k + 1, .tup ps, h => by rw [peq]; exact peqA_refl k ps (by simpa [okd] using h)
  | 0, .dK _, h => by simp [okd] at h
  | _ + 1, .dK _, h => by simp [okd] at h
  | 0, .dT _, h => by simp [okd] at h
  | _ + 1, .dT _, h => by simp [okd] at h
  | 0, .ins _ _, h => by simp [okd] at h
  | _ + 1, .ins _ _, h => by simp [okd] at h
theorem peqA_refl : ∀ (k : Nat) (ps : List P), (∀ x, x ∈ ps → okd k x = true) → peqA ps ps = true
  | _, [], _ => rfl
  | k, p :: ps, h => by rw [peqA, peq_refl k p (h p List.mem_cons_self), peqA_refl k ps (fun x hx => h x (List.mem_cons_of_mem _ hx))]; rfl
end
/-- one address holds one datum -/
theorem Rp.uniq (I : L2.Inv X pins σ H s) (sf : Same F H) : ∀ (k : Nat) (p q : P) (v : V), okd k p = true → okd k q = true → Rp X.K cl F p v → Rp X.K cl F q v → p = q := by
  intro k
  induction k with
  | zero =>
    intro p q v hp hq r1 r2
    cases p <;> cases q <;> first | (simp [okd] at hp; done) | (simp [okd] at hq; done) | (cases r1; cases r2; rfl) | (cases r1; cases r2)
  | succ k ih =>
    have all : ∀ (ps qs : List P) (vs : List V), ps.all (okd k) = true → qs.all (okd k) = true → RpA X.K cl F ps vs → RpA X.K cl F qs vs → ps = qs := by
      intro ps
      induction ps with
      | nil => intro qs vs _ _ r1 r2; cases r1; cases r2; rfl
      | cons p ps ihp =>
        intro qs vs h1 h2 r1 r2
        cases r1 with
        | cons a b =>
          cases r2 with
          | cons c d =>
            simp only [List.all_cons, Bool.and_eq_true] at h1 h2
            rw [ih _ _ _ h1.1 h2.1 a c, ihp _ _ h1.2 h2.2 b d]
    intro p q v hp hq r1 r2
    have lt : ∀ {a : Addr} {xs ys : List V}, SqL X.K F a xs → SqT X.K F a ys → False := fun {a xs ys} h1 h2 => by
      obtain ⟨its, _, ⟨o, n, e, c, _⟩, _⟩ := I.list (SqL.mono sf h1)
      obtain ⟨its2, _, ⟨o2, e2, c2, _⟩, _⟩ := I.tuple (SqT.mono sf h2)
      rw [e] at e2; cases e2
      rw [c] at c2
      injection c2 with c3
      exact absurd c3 (by decide)
    cases p <;> cases q <;> first | (simp [okd] at hp; done) | (simp [okd] at hq; done) | (cases r1; cases r2; rfl) | (cases r1; cases r2; done) | skip
    · cases r1 with
      | tup q1 t1 =>
        cases r2 with
        | tup q2 t2 =>
          have e := I.tuple_inj (SqT.mono sf q1) (SqT.mono sf q2)
          subst e
          rw [all _ _ _ (by simpa [okd] using hp) (by simpa [okd] using hq) t1 t2]
    · cases r1 with
      | tup q1 t1 => cases r2 with | lst q2 t2 => exact (lt q2 q1).elim
    · cases r1 with
      | lst q1 t1 => cases r2 with | tup q2 t2 => exact (lt q1 q2).elim
    · cases r1 with
      | lst q1 t1 =>
        cases r2 with
        | lst q2 t2 =>
          have e := I.list_inj (SqL.mono sf q1) (SqL.mono sf q2)
          subst e
          rw [all _ _ _ (by simpa [okd] using hp) (by simpa [okd] using hq) t1 t2]
theorem flat_V {K : PySem.W.Frag} : ∀ {p : P} {v : V}, okd 0 p = true → Rp K cl F p v → flatV v = true ∧ ∀ {q : P} {w : V}, okd 0 q = true → Rp K cl F q w → eqV v w = peq p q
  | .non, _, _, .non => ⟨rfl, fun {q w} hq r => by cases q <;> first | (simp [okd] at hq; done) | (cases r; simp [eqV, peq])⟩
  | .bl a, _, _, .bl _ => ⟨rfl, fun {q w} hq r => by cases q <;> first | (simp [okd] at hq; done) | (cases r; simp [eqV, peq])⟩
  | .int i, _, _, .int _ => ⟨rfl, fun {q w} hq r => by cases q <;> first | (simp [okd] at hq; done) | (cases r; simp [eqV, peq])⟩
  | .str x, _, _, .str _ => ⟨rfl, fun {q w} hq r => by cases q <;> first | (simp [okd] at hq; done) | (cases r; simp [eqV, peq])⟩
theorem eqAt_flat (p q : P) (v w : V) (u z : Value) (A : Around) (hp : okd 0 p = true) (hq : okd 0 q = true) (r1 : Rp X.K cl F p v) (e1 : RelV v u) (r2 : Rp X.K cl F q w) (e2 : RelV w z) : SeqAt.EqAt A s u z (peq p q) := by
  obtain ⟨f1, h⟩ := flat_V hp r1
  rw [← h hq r2]
  exact eqAt_V e1 e2 f1 (flat_V hq r2).1
theorem eqAt_P (I : L2.Inv X pins σ H s) (sf : Same F H) : ∀ (k : Nat) (p q : P) (v w : V) (u z : Value) (A : Around), okd k p = true → okd k q = true → Rp X.K cl F p v → RelV v u → Rp X.K cl F q w → RelV w z → A.units + k < cLine → SeqAt.EqAt A s u z (peq p q) := by
  intro k
  induction k with
  | zero =>
    intro p q v w u z A hp hq r1 e1 r2 e2 hu
    exact eqAt_flat p q v w u z A hp hq r1 e1 r2 e2
  | succ k ih =>
    intro p q v w u z A hp hq r1 e1 r2 e2 hu
    have hu0 : A.units < cLine := by omega
    have flat : okd 0 p = true → okd 0 q = true → SeqAt.EqAt A s u z (peq p q) := fun h1 h2 => by
      have up : ∀ x : P, okd 0 x = true → okd k x = true := fun x h => by cases x <;> first | (simp [okd] at h; done) | (cases k <;> rfl)
      exact ih p q v w u z A (up p h1) (up q h2) r1 e1 r2 e2 (by omega)
    cases p with
    | dK _ => simp [okd] at hp
    | dT _ => simp [okd] at hp
    | ins _ _ => simp [okd] at hp
    | lst ps =>
      obtain ⟨a, its, eu, ev, il, hs, hi⟩ := lst_items I sf r1 e1
      subst eu
      cases q with
      | dK _ => simp [okd] at hq
      | dT _ => simp [okd] at hq
      | ins _ _ => simp [okd] at hq
      | non => cases r2; cases e2; exact SeqAt.EqAt.list_none il hu0
      | bl b => cases r2; cases e2; exact SeqAt.EqAt.list_bool b il hu0
      | int i => cases r2; obtain ⟨t, rfl⟩ := e2; exact SeqAt.EqAt.list_int i t il hu0
      | str i => cases r2; obtain ⟨t, rfl⟩ := e2; exact SeqAt.EqAt.list_str i t il hu0
      | tup qs =>
        obtain ⟨b, its2, eu2, ev2, il2, hs2, hi2⟩ := tup_items I sf r2 e2
        subst eu2
        exact SeqAt.EqAt.list_tuple il il2 hu0
      | lst qs =>
        obtain ⟨b, its2, eu2, ev2, il2, hs2, hi2⟩ := lst_items I sf r2 e2
        subst eu2
        by_cases hab : a = b
        · subst hab
          rw [ev] at r1
          rw [ev2] at r2
          rw [Rp.uniq I sf _ _ _ _ hp hq r1 r2, peq_refl _ _ hq]
          exact SeqAt.EqAt.same _
        · rw [peq]
          by_cases hsz : its.size = its2.size
          · rw [peqA_all (by omega : ps.length = qs.length), ← hs]
            refine SeqAt.EqAt.of_refs hab (SeqAt.RcAt.lists il il2 hsz hu0 fun j h1 h2 => ?_)
            obtain ⟨x, w1, hx, rx, ex⟩ := hi j h1
            obtain ⟨y, w2, hy, ry, ey⟩ := hi2 j h2
            rw [pAt_get hx hy]
            exact ih x y w1 w2 _ _ A.in1 (okd_at (by simpa only [okd] using hp) hx) (okd_at (by simpa only [okd] using hq) hy) rx ex ry ey (by show A.units + 1 + k < cLine; omega)
          · rw [peqA_len (by omega : ps.length ≠ qs.length)]
            exact SeqAt.EqAt.of_refs hab (SeqAt.RcAt.lists_lengths il il2 (by simpa using hsz) hu0)
    | tup ps =>
      obtain ⟨a, its, eu, ev, il, hs, hi⟩ := tup_items I sf r1 e1
      subst eu
      cases q with
      | dK _ => simp [okd] at hq
      | dT _ => simp [okd] at hq
      | ins _ _ => simp [okd] at hq
      | non => cases r2; cases e2; exact SeqAt.EqAt.tuple_none il hu0
      | bl b => cases r2; cases e2; exact SeqAt.EqAt.tuple_bool b il hu0
      | int i => cases r2; obtain ⟨t, rfl⟩ := e2; exact SeqAt.EqAt.tuple_int i t il hu0
      | str i => cases r2; obtain ⟨t, rfl⟩ := e2; exact SeqAt.EqAt.tuple_str i t il hu0
      | lst qs =>
        obtain ⟨b, its2, eu2, ev2, il2, hs2, hi2⟩ := lst_items I sf r2 e2
        subst eu2
        exact SeqAt.EqAt.tuple_list il il2 hu0
      | tup qs =>
        obtain ⟨b, its2, eu2, ev2, il2, hs2, hi2⟩ := tup_items I sf r2 e2
        subst eu2
        by_cases hab : a = b
        · subst hab
          rw [ev] at r1
          rw [ev2] at r2
          rw [Rp.uniq I sf _ _ _ _ hp hq r1 r2, peq_refl _ _ hq]
          exact SeqAt.EqAt.same _
        · rw [peq]
          have main := SeqAt.RcAt.tuples (A := A) (s := s) (e := pAt ps qs) il il2 hu0 fun j h1 h2 => by
            obtain ⟨x, w1, hx, rx, ex⟩ := hi j h1
            obtain ⟨y, w2, hy, ry, ey⟩ := hi2 j h2
            rw [pAt_get hx hy]
            exact ih x y w1 w2 _ _ A.in1 (okd_at (by simpa only [okd] using hp) hx) (okd_at (by simpa only [okd] using hq) hy) rx ex ry ey (by show A.units + 1 + k < cLine; omega)
          by_cases hsz : its.size = its2.size
          · rw [peqA_all (by omega : ps.length = qs.length), ← hs]
            rw [hsz, Nat.min_self, beq_self_eq_true, Bool.and_true, ← hsz] at main
            exact SeqAt.EqAt.of_refs hab main
          · rw [peqA_len (by omega : ps.length ≠ qs.length)]
            have : (its.size == its2.size) = false := beq_eq_false_iff_ne.mpr hsz
            rw [this, Bool.and_false] at main
            exact SeqAt.EqAt.of_refs hab main
    | non =>
      cases q with
      | lst qs => obtain ⟨b, its2, eu2, ev2, il2, hs2, hi2⟩ := lst_items I sf r2 e2; subst eu2; cases r1; cases e1; exact SeqAt.EqAt.none_list il2 hu0
      | tup qs => obtain ⟨b, its2, eu2, ev2, il2, hs2, hi2⟩ := tup_items I sf r2 e2; subst eu2; cases r1; cases e1; exact SeqAt.EqAt.none_tuple il2 hu0
      | dK _ => simp [okd] at hq
      | dT _ => simp [okd] at hq
      | ins _ _ => simp [okd] at hq
      | _ => exact flat rfl rfl
    | bl c =>
      cases q with
      | lst qs => obtain ⟨b, its2, eu2, ev2, il2, hs2, hi2⟩ := lst_items I sf r2 e2; subst eu2; cases r1; cases e1; exact SeqAt.EqAt.bool_list c il2 hu0
      | tup qs => obtain ⟨b, its2, eu2, ev2, il2, hs2, hi2⟩ := tup_items I sf r2 e2; subst eu2; cases r1; cases e1; exact SeqAt.EqAt.bool_tuple c il2 hu0
      | dK _ => simp [okd] at hq
      | dT _ => simp [okd] at hq
      | ins _ _ => simp [okd] at hq
      | _ => exact flat rfl rfl
    | int c =>
      cases q with
      | lst qs => obtain ⟨b, its2, eu2, ev2, il2, hs2, hi2⟩ := lst_items I sf r2 e2; subst eu2; cases r1; obtain ⟨t, rfl⟩ := e1; exact SeqAt.EqAt.int_list c t il2 hu0
      | tup qs => obtain ⟨b, its2, eu2, ev2, il2, hs2, hi2⟩ := tup_items I sf r2 e2; subst eu2; cases r1; obtain ⟨t, rfl⟩ := e1; exact SeqAt.EqAt.int_tuple c t il2 hu0
      | dK _ => simp [okd] at hq
      | dT _ => simp [okd] at hq
      | ins _ _ => simp [okd] at hq
      | _ => exact flat rfl rfl
    | str c =>
      cases q with
      | lst qs => obtain ⟨b, its2, eu2, ev2, il2, hs2, hi2⟩ := lst_items I sf r2 e2; subst eu2; cases r1; obtain ⟨t, rfl⟩ := e1; exact SeqAt.EqAt.str_list c t il2 hu0
      | tup qs => obtain ⟨b, its2, eu2, ev2, il2, hs2, hi2⟩ := tup_items I sf r2 e2; subst eu2; cases r1; obtain ⟨t, rfl⟩ := e1; exact SeqAt.EqAt.str_tuple c t il2 hu0
      | dK _ => simp [okd] at hq
      | dT _ => simp [okd] at hq
      | ins _ _ => simp [okd] at hq
      | _ => exact flat rfl rfl
theorem rcAt_P (I : L2.Inv X pins σ H s) (sf : Same F H) (k : Nat) (p q : P) (v w : V) (u z : Value) (A : Around) (hp : okd (k + 1) p = true) (hq : okd (k + 1) q = true) (r1 : Rp X.K cl F p v) (e1 : RelV v u) (r2 : Rp X.K cl F q w) (e2 : RelV w z) (hu : A.units + k + 1 < cLine) : SeqAt.RcAt A s u z (peq p q) := by
  have hu0 : A.units < cLine := by omega
  cases p with
  | non =>
    cases r1; cases e1
    cases q with
    | non =>
      cases r2; cases e2
      exact SeqAt.RcAt.none_none
    | bl c2 =>
      cases r2; cases e2
      exact SeqAt.RcAt.none_bool c2
    | int c2 =>
      cases r2; obtain ⟨t2, rfl⟩ := e2
      exact SeqAt.RcAt.none_int c2 t2
    | str c2 =>
      cases r2; obtain ⟨t2, rfl⟩ := e2
      exact SeqAt.RcAt.none_str c2 t2
    | lst qs =>
      obtain ⟨b, its2, eu2, ev2, il2, hs2, hi2⟩ := lst_items I sf r2 e2
      subst eu2
      exact SeqAt.RcAt.none_list il2 hu0
    | tup qs =>
      obtain ⟨b, its2, eu2, ev2, il2, hs2, hi2⟩ := tup_items I sf r2 e2
      subst eu2
      exact SeqAt.RcAt.none_tuple il2 hu0
    | dK _ => simp [okd] at hq
    | dT _ => simp [okd] at hq
    | ins _ _ => simp [okd] at hq
  | bl c =>
    cases r1; cases e1
    cases q with
    | non =>
      cases r2; cases e2
      exact SeqAt.RcAt.bool_none c
    | bl c2 =>
      cases r2; cases e2
      exact SeqAt.RcAt.bool_bool c c2
    | int c2 =>
      cases r2; obtain ⟨t2, rfl⟩ := e2
      exact SeqAt.RcAt.bool_int c c2 t2
    | str c2 =>
      cases r2; obtain ⟨t2, rfl⟩ := e2
      exact SeqAt.RcAt.bool_str c c2 t2
    | lst qs =>
      obtain ⟨b, its2, eu2, ev2, il2, hs2, hi2⟩ := lst_items I sf r2 e2
      subst eu2
      exact SeqAt.RcAt.bool_list c il2 hu0
    | tup qs =>
      obtain ⟨b, its2, eu2, ev2, il2, hs2, hi2⟩ := tup_items I sf r2 e2
      subst eu2
      exact SeqAt.RcAt.bool_tuple c il2 hu0
    | dK _ => simp [okd] at hq
    | dT _ => simp [okd] at hq
    | ins _ _ => simp [okd] at hq
  | int c =>
    cases r1; obtain ⟨t, rfl⟩ := e1
    cases q with
    | non =>
      cases r2; cases e2
      exact SeqAt.RcAt.int_none c t
    | bl c2 =>
      cases r2; cases e2
      exact SeqAt.RcAt.int_bool c t c2
    | int c2 =>
      cases r2; obtain ⟨t2, rfl⟩ := e2
      exact SeqAt.RcAt.int_int c t c2 t2
    | str c2 =>
      cases r2; obtain ⟨t2, rfl⟩ := e2
      exact SeqAt.RcAt.int_str c t c2 t2
    | lst qs =>
      obtain ⟨b, its2, eu2, ev2, il2, hs2, hi2⟩ := lst_items I sf r2 e2
      subst eu2
      exact SeqAt.RcAt.int_list c t il2 hu0
    | tup qs =>
      obtain ⟨b, its2, eu2, ev2, il2, hs2, hi2⟩ := tup_items I sf r2 e2
      subst eu2
      exact SeqAt.RcAt.int_tuple c t il2 hu0
    | dK _ => simp [okd] at hq
    | dT _ => simp [okd] at hq
    | ins _ _ => simp [okd] at hq
  | str c =>
    cases r1; obtain ⟨t, rfl⟩ := e1
    cases q with
    | non =>
      cases r2; cases e2
      exact SeqAt.RcAt.str_none c t
    | bl c2 =>
      cases r2; cases e2
      exact SeqAt.RcAt.str_bool c t c2
    | int c2 =>
      cases r2; obtain ⟨t2, rfl⟩ := e2
      exact SeqAt.RcAt.str_int c t c2 t2
    | str c2 =>
      cases r2; obtain ⟨t2, rfl⟩ := e2
      exact SeqAt.RcAt.str_str c t c2 t2
    | lst qs =>
      obtain ⟨b, its2, eu2, ev2, il2, hs2, hi2⟩ := lst_items I sf r2 e2
      subst eu2
      exact SeqAt.RcAt.str_list c t il2 hu0
    | tup qs =>
      obtain ⟨b, its2, eu2, ev2, il2, hs2, hi2⟩ := tup_items I sf r2 e2
      subst eu2
      exact SeqAt.RcAt.str_tuple c t il2 hu0
    | dK _ => simp [okd] at hq
    | dT _ => simp [okd] at hq
    | ins _ _ => simp [okd] at hq
  | lst ps =>
    obtain ⟨a, its, eu, ev, il, hs, hi⟩ := lst_items I sf r1 e1
    subst eu
    cases q with
    | non =>
      cases r2; cases e2
      exact SeqAt.RcAt.list_none il hu0
    | bl c2 =>
      cases r2; cases e2
      exact SeqAt.RcAt.list_bool c2 il hu0
    | int c2 =>
      cases r2; obtain ⟨t2, rfl⟩ := e2
      exact SeqAt.RcAt.list_int c2 t2 il hu0
    | str c2 =>
      cases r2; obtain ⟨t2, rfl⟩ := e2
      exact SeqAt.RcAt.list_str c2 t2 il hu0
    | lst qs =>
      obtain ⟨b, its2, eu2, ev2, il2, hs2, hi2⟩ := lst_items I sf r2 e2
      subst eu2
      have he : ∀ j (h1 : j < its.size) (h2 : j < its2.size), SeqAt.EqAt A.in1 s its[j] its2[j] (pAt ps qs j) := fun j h1 h2 => by
        obtain ⟨x, w1, hx, rx, ex⟩ := hi j h1
        obtain ⟨y, w2, hy, ry, ey⟩ := hi2 j h2
        rw [pAt_get hx hy]
        exact eqAt_P I sf k x y w1 w2 _ _ A.in1 (okd_at (by simpa only [okd] using hp) hx) (okd_at (by simpa only [okd] using hq) hy) rx ex ry ey (by show A.units + 1 + k < cLine; omega)
      rw [peq]
      by_cases hsz : its.size = its2.size
      · rw [peqA_all (by omega : ps.length = qs.length), ← hs]
        exact SeqAt.RcAt.lists il il2 hsz hu0 he
      · rw [peqA_len (by omega : ps.length ≠ qs.length)]
        exact SeqAt.RcAt.lists_lengths il il2 (by simpa using hsz) hu0
    | tup qs =>
      obtain ⟨b, its2, eu2, ev2, il2, hs2, hi2⟩ := tup_items I sf r2 e2
      subst eu2
      exact SeqAt.RcAt.list_tuple il il2 hu0
    | dK _ => simp [okd] at hq
    | dT _ => simp [okd] at hq
    | ins _ _ => simp [okd] at hq
  | tup ps =>
    obtain ⟨a, its, eu, ev, il, hs, hi⟩ := tup_items I sf r1 e1
    subst eu
    cases q with
    | non =>
      cases r2; cases e2
      exact SeqAt.RcAt.tuple_none il hu0
    | bl c2 =>
      cases r2; cases e2
      exact SeqAt.RcAt.tuple_bool c2 il hu0
    | int c2 =>
      cases r2; obtain ⟨t2, rfl⟩ := e2
      exact SeqAt.RcAt.tuple_int c2 t2 il hu0
    | str c2 =>
      cases r2; obtain ⟨t2, rfl⟩ := e2
      exact SeqAt.RcAt.tuple_str c2 t2 il hu0
    | lst qs =>
      obtain ⟨b, its2, eu2, ev2, il2, hs2, hi2⟩ := lst_items I sf r2 e2
      subst eu2
      exact SeqAt.RcAt.tuple_list il il2 hu0
    | tup qs =>
      obtain ⟨b, its2, eu2, ev2, il2, hs2, hi2⟩ := tup_items I sf r2 e2
      subst eu2
      have he : ∀ j (h1 : j < its.size) (h2 : j < its2.size), SeqAt.EqAt A.in1 s its[j] its2[j] (pAt ps qs j) := fun j h1 h2 => by
        obtain ⟨x, w1, hx, rx, ex⟩ := hi j h1
        obtain ⟨y, w2, hy, ry, ey⟩ := hi2 j h2
        rw [pAt_get hx hy]
        exact eqAt_P I sf k x y w1 w2 _ _ A.in1 (okd_at (by simpa only [okd] using hp) hx) (okd_at (by simpa only [okd] using hq) hy) rx ex ry ey (by show A.units + 1 + k < cLine; omega)
      rw [peq]
      have main := SeqAt.RcAt.tuples (A := A) (s := s) (e := pAt ps qs) il il2 hu0 he
      by_cases hsz : its.size = its2.size
      · rw [peqA_all (by omega : ps.length = qs.length), ← hs]
        rw [hsz, Nat.min_self, beq_self_eq_true, Bool.and_true, ← hsz] at main
        exact main
      · rw [peqA_len (by omega : ps.length ≠ qs.length)]
        have z : (its.size == its2.size) = false := beq_eq_false_iff_ne.mpr hsz
        rw [z, Bool.and_false] at main
        exact main
    | dK _ => simp [okd] at hq
    | dT _ => simp [okd] at hq
    | ins _ _ => simp [okd] at hq
  | dK _ => simp [okd] at hp
  | dT _ => simp [okd] at hp
  | ins _ _ => simp [okd] at hp
theorem rcNe_P (I : L2.Inv X pins σ H s) (sf : Same F H) (k : Nat) (p q : P) (v w : V) (u z : Value) (A : Around) (hp : okd (k + 1) p = true) (hq : okd (k + 1) q = true) (r1 : Rp X.K cl F p v) (e1 : RelV v u) (r2 : Rp X.K cl F q w) (e2 : RelV w z) (hu : A.units + k + 1 < cLine) : SeqAt.RcNeAt A s u z (!peq p q) := by
  have hu0 : A.units < cLine := by omega
  cases p with
  | non =>
    cases r1; cases e1
    cases q with
    | non =>
      cases r2; cases e2
      exact SeqAt.RcNeAt.none_none
    | bl c2 =>
      cases r2; cases e2
      exact SeqAt.RcNeAt.none_bool c2
    | int c2 =>
      cases r2; obtain ⟨t2, rfl⟩ := e2
      exact SeqAt.RcNeAt.none_int c2 t2
    | str c2 =>
      cases r2; obtain ⟨t2, rfl⟩ := e2
      exact SeqAt.RcNeAt.none_str c2 t2
    | lst qs =>
      obtain ⟨b, its2, eu2, ev2, il2, hs2, hi2⟩ := lst_items I sf r2 e2
      subst eu2
      exact SeqAt.RcNeAt.none_list il2 hu0
    | tup qs =>
      obtain ⟨b, its2, eu2, ev2, il2, hs2, hi2⟩ := tup_items I sf r2 e2
      subst eu2
      exact SeqAt.RcNeAt.none_tuple il2 hu0
    | dK _ => simp [okd] at hq
    | dT _ => simp [okd] at hq
    | ins _ _ => simp [okd] at hq
  | bl c =>
    cases r1; cases e1
    cases q with
    | non =>
      cases r2; cases e2
      exact SeqAt.RcNeAt.bool_none c
    | bl c2 =>
      cases r2; cases e2
      exact SeqAt.RcNeAt.bool_bool c c2
    | int c2 =>
      cases r2; obtain ⟨t2, rfl⟩ := e2
      exact SeqAt.RcNeAt.bool_int c c2 t2
    | str c2 =>
      cases r2; obtain ⟨t2, rfl⟩ := e2
      exact SeqAt.RcNeAt.bool_str c c2 t2
    | lst qs =>
      obtain ⟨b, its2, eu2, ev2, il2, hs2, hi2⟩ := lst_items I sf r2 e2
      subst eu2
      exact SeqAt.RcNeAt.bool_list c il2 hu0
    | tup qs =>
      obtain ⟨b, its2, eu2, ev2, il2, hs2, hi2⟩ := tup_items I sf r2 e2
      subst eu2
      exact SeqAt.RcNeAt.bool_tuple c il2 hu0
    | dK _ => simp [okd] at hq
    | dT _ => simp [okd] at hq
    | ins _ _ => simp [okd] at hq
  | int c =>
    cases r1; obtain ⟨t, rfl⟩ := e1
    cases q with
    | non =>
      cases r2; cases e2
      exact SeqAt.RcNeAt.int_none c t
    | bl c2 =>
      cases r2; cases e2
      exact SeqAt.RcNeAt.int_bool c t c2
    | int c2 =>
      cases r2; obtain ⟨t2, rfl⟩ := e2
      exact SeqAt.RcNeAt.int_int c t c2 t2
    | str c2 =>
      cases r2; obtain ⟨t2, rfl⟩ := e2
      exact SeqAt.RcNeAt.int_str c t c2 t2
    | lst qs =>
      obtain ⟨b, its2, eu2, ev2, il2, hs2, hi2⟩ := lst_items I sf r2 e2
      subst eu2
      exact SeqAt.RcNeAt.int_list c t il2 hu0
    | tup qs =>
      obtain ⟨b, its2, eu2, ev2, il2, hs2, hi2⟩ := tup_items I sf r2 e2
      subst eu2
      exact SeqAt.RcNeAt.int_tuple c t il2 hu0
    | dK _ => simp [okd] at hq
    | dT _ => simp [okd] at hq
    | ins _ _ => simp [okd] at hq
  | str c =>
    cases r1; obtain ⟨t, rfl⟩ := e1
    cases q with
    | non =>
      cases r2; cases e2
      exact SeqAt.RcNeAt.str_none c t
    | bl c2 =>
      cases r2; cases e2
      exact SeqAt.RcNeAt.str_bool c t c2
    | int c2 =>
      cases r2; obtain ⟨t2, rfl⟩ := e2
      exact SeqAt.RcNeAt.str_int c t c2 t2
    | str c2 =>
      cases r2; obtain ⟨t2, rfl⟩ := e2
      exact SeqAt.RcNeAt.str_str c t c2 t2
    | lst qs =>
      obtain ⟨b, its2, eu2, ev2, il2, hs2, hi2⟩ := lst_items I sf r2 e2
      subst eu2
      exact SeqAt.RcNeAt.str_list c t il2 hu0
    | tup qs =>
      obtain ⟨b, its2, eu2, ev2, il2, hs2, hi2⟩ := tup_items I sf r2 e2
      subst eu2
      exact SeqAt.RcNeAt.str_tuple c t il2 hu0
    | dK _ => simp [okd] at hq
    | dT _ => simp [okd] at hq
    | ins _ _ => simp [okd] at hq
  | lst ps =>
    obtain ⟨a, its, eu, ev, il, hs, hi⟩ := lst_items I sf r1 e1
    subst eu
    cases q with
    | non =>
      cases r2; cases e2
      exact SeqAt.RcNeAt.list_none il hu0
    | bl c2 =>
      cases r2; cases e2
      exact SeqAt.RcNeAt.list_bool c2 il hu0
    | int c2 =>
      cases r2; obtain ⟨t2, rfl⟩ := e2
      exact SeqAt.RcNeAt.list_int c2 t2 il hu0
    | str c2 =>
      cases r2; obtain ⟨t2, rfl⟩ := e2
      exact SeqAt.RcNeAt.list_str c2 t2 il hu0
    | lst qs =>
      obtain ⟨b, its2, eu2, ev2, il2, hs2, hi2⟩ := lst_items I sf r2 e2
      subst eu2
      have he : ∀ j (h1 : j < its.size) (h2 : j < its2.size), SeqAt.EqAt A.in1 s its[j] its2[j] (pAt ps qs j) := fun j h1 h2 => by
        obtain ⟨x, w1, hx, rx, ex⟩ := hi j h1
        obtain ⟨y, w2, hy, ry, ey⟩ := hi2 j h2
        rw [pAt_get hx hy]
        exact eqAt_P I sf k x y w1 w2 _ _ A.in1 (okd_at (by simpa only [okd] using hp) hx) (okd_at (by simpa only [okd] using hq) hy) rx ex ry ey (by show A.units + 1 + k < cLine; omega)
      rw [peq]
      by_cases hsz : its.size = its2.size
      · rw [peqA_all (by omega : ps.length = qs.length), ← hs]
        exact SeqAt.RcNeAt.lists il il2 hsz hu0 he
      · rw [peqA_len (by omega : ps.length ≠ qs.length)]
        exact SeqAt.RcNeAt.lists_lengths il il2 (by simpa using hsz) hu0
    | tup qs =>
      obtain ⟨b, its2, eu2, ev2, il2, hs2, hi2⟩ := tup_items I sf r2 e2
      subst eu2
      exact SeqAt.RcNeAt.list_tuple il il2 hu0
    | dK _ => simp [okd] at hq
    | dT _ => simp [okd] at hq
    | ins _ _ => simp [okd] at hq
  | tup ps =>
    obtain ⟨a, its, eu, ev, il, hs, hi⟩ := tup_items I sf r1 e1
    subst eu
    cases q with
    | non =>
      cases r2; cases e2
      exact SeqAt.RcNeAt.tuple_none il hu0
    | bl c2 =>
      cases r2; cases e2
      exact SeqAt.RcNeAt.tuple_bool c2 il hu0
    | int c2 =>
      cases r2; obtain ⟨t2, rfl⟩ := e2
      exact SeqAt.RcNeAt.tuple_int c2 t2 il hu0
    | str c2 =>
      cases r2; obtain ⟨t2, rfl⟩ := e2
      exact SeqAt.RcNeAt.tuple_str c2 t2 il hu0
    | lst qs =>
      obtain ⟨b, its2, eu2, ev2, il2, hs2, hi2⟩ := lst_items I sf r2 e2
      subst eu2
      exact SeqAt.RcNeAt.tuple_list il il2 hu0
    | tup qs =>
      obtain ⟨b, its2, eu2, ev2, il2, hs2, hi2⟩ := tup_items I sf r2 e2
      subst eu2
      have he : ∀ j (h1 : j < its.size) (h2 : j < its2.size), SeqAt.EqAt A.in1 s its[j] its2[j] (pAt ps qs j) := fun j h1 h2 => by
        obtain ⟨x, w1, hx, rx, ex⟩ := hi j h1
        obtain ⟨y, w2, hy, ry, ey⟩ := hi2 j h2
        rw [pAt_get hx hy]
        exact eqAt_P I sf k x y w1 w2 _ _ A.in1 (okd_at (by simpa only [okd] using hp) hx) (okd_at (by simpa only [okd] using hq) hy) rx ex ry ey (by show A.units + 1 + k < cLine; omega)
      rw [peq]
      have main := SeqAt.RcNeAt.tuples (A := A) (s := s) (e := pAt ps qs) il il2 hu0 he
      by_cases hsz : its.size = its2.size
      · rw [peqA_all (by omega : ps.length = qs.length), ← hs]
        rw [hsz, Nat.min_self, beq_self_eq_true, Bool.and_true, ← hsz] at main
        exact main
      · rw [peqA_len (by omega : ps.length ≠ qs.length)]
        have z : (its.size == its2.size) = false := beq_eq_false_iff_ne.mpr hsz
        rw [z, Bool.and_false] at main
        exact main
    | dK _ => simp [okd] at hq
    | dT _ => simp [okd] at hq
    | ins _ _ => simp [okd] at hq
  | dK _ => simp [okd] at hp
  | dT _ => simp [okd] at hp
  | ins _ _ => simp [okd] at hp
/-- what a value is as data, read where it stands -/
abbrev rdP (S : SH) (d : D) : Option P := toP 8 0 S d
@[simp] theorem rdP_p (S : SH) (x : P) : rdP S (.p x) = some x := id rfl
theorem rdP_ok {K : PySem.W.Frag} {S : SH} {B : List Nat} {F : Hp} {φ : Nat → Addr} {H : Hp} {d : D} {x : P} {v : V} (s : Sim K cl S B F φ H) (e : rdP S d = some x) (r : DR K cl F φ d v) : ∃ F', Same F F' ∧ Same F' H ∧ Rp K cl F' x v :=
  ⟨_, addF_le s 0, addF_heap s 0, toP_ok s 0 8 d x v e r⟩
/-- two at once -/
theorem rdP_ok2 {K : PySem.W.Frag} {S : SH} {B : List Nat} {F : Hp} {φ : Nat → Addr} {H : Hp} {d e : D} {x y : P} {v w : V} (s : Sim K cl S B F φ H) (e1 : rdP S d = some x) (e2 : rdP S e = some y) (r1 : DR K cl F φ d v) (r2 : DR K cl F φ e w) : ∃ F', Same F' H ∧ Rp K cl F' x v ∧ Rp K cl F' y w :=
  ⟨_, addF_heap s 0, toP_ok s 0 8 d x v e1 r1, toP_ok s 0 8 e y w e2 r2⟩
def fEq (neg : Bool) (d e : D) (S : SH) : Option (D × SH) := match rdP S d, rdP S e with
  | some x, some y => if okd 40 x = true ∧ okd 40 y = true then some (.p (.bl (if neg = true then !peq x y else peq x y)), S) else none
  | _, _ => none
def rEqP (K : PySem.W.Frag) (cl : Nat → Addr) (neg : Bool) : R2 := fun v w H Q => ∃ F x y, Same F H ∧ Rp K cl F x v ∧ Rp K cl F y w ∧ okd 40 x = true ∧ okd 40 y = true ∧ Q (.bl (if neg = true then !peq x y else peq x y)) H
theorem o_eq (hu : X.A.units + 64 < cLine) : OpR X (compareOp .Eq) (rEqP X.K cl false) := by
  intro pins s σ H x y v u Q I rx ry h
  obtain ⟨F, p, q, sf, r1, r2, h1, h2, k⟩ := h
  exact rcAt_P I sf 39 p q x y v u X.A h1 h2 r1 rx r2 ry (by omega) X.prog X.w X.xe _ ⟨.bl _, H, I, rfl, k⟩
theorem o_ne (hu : X.A.units + 64 < cLine) : OpR X (compareOp .NotEq) (rEqP X.K cl true) := by
  intro pins s σ H x y v u Q I rx ry h
  obtain ⟨F, p, q, sf, r1, r2, h1, h2, k⟩ := h
  exact rcNe_P I sf 39 p q x y v u X.A h1 h2 r1 rx r2 ry (by omega) X.prog X.w X.xe _ ⟨.bl _, H, I, rfl, k⟩
theorem d_eq {K : PySem.W.Frag} {neg : Bool} : OpD K cl (fEq neg) (rEqP K cl neg) := by
  intro S B F φ H d1 d2 x y Q s r1 r2 l1 l2 o
  unfold fEq at o
  cases e1 : rdP S d1 with
  | none => rw [e1] at o; obtain ⟨_, _, z, _⟩ := o; cases z
  | some p =>
    cases e2 : rdP S d2 with
    | none => rw [e1, e2] at o; obtain ⟨_, _, z, _⟩ := o; cases z
    | some q =>
      rw [e1, e2] at o
      dsimp only at o
      by_cases h : okd 40 p = true ∧ okd 40 q = true
      · rw [if_pos h] at o
        obtain ⟨F', sf, ra, rb⟩ := rdP_ok2 s e1 e2 r1 r2
        exact ⟨F', p, q, sf, ra, rb, h.1, h.2, o.fin0 rfl s (Rp.bl _) trivial⟩
      · rw [if_neg h] at o; obtain ⟨_, _, z, _⟩ := o; cases z
/-! ### in -/
def fIn (neg : Bool) (d e : D) (S : SH) : Option (D × SH) := match rdP S d, rdP S e with
  | some x, some (.lst ys) => if okd 40 x = true ∧ ys.all (okd 40) = true then some (.p (.bl (if neg = true then !ys.any (fun y => peq y x) else ys.any fun y => peq y x)), S) else none
  | some x, some (.tup ys) => if okd 40 x = true ∧ ys.all (okd 40) = true then some (.p (.bl (if neg = true then !ys.any (fun y => peq y x) else ys.any fun y => peq y x)), S) else none
  | _, _ => none
def rInP (K : PySem.W.Frag) (cl : Nat → Addr) (neg : Bool) : R2 := fun v w H Q => ∃ F x ys, Same F H ∧ Rp K cl F x v ∧ (Rp K cl F (.lst ys) w ∨ Rp K cl F (.tup ys) w) ∧ okd 40 x = true ∧ ys.all (okd 40) = true ∧ Q (.bl (if neg = true then !ys.any (fun y => peq y x) else ys.any fun y => peq y x)) H
theorem in_core {neg : Bool} {op : CmpOp} (hu : X.A.units + 65 < cLine)
    (hl : ∀ (s : Shared) (l : Addr) (items : Array Value) (x : Value) (e : Value → Bool) (Q : Value → Shared → Prop), s.heap.IsList l items → (∀ y, y ∈ items → SeqAt.EqAt X.A.in1 s y x (e y)) → Q (.bool (if neg = true then !items.any e else items.any e)) s → wpAny (model X.prog X.w) X.A (compareOp op x (.ref l)) Q X.xe s)
    (ht : ∀ (s : Shared) (l : Addr) (items : Array Value) (x : Value) (e : Value → Bool) (Q : Value → Shared → Prop), s.heap.IsTuple l items → (∀ y, y ∈ items → SeqAt.EqAt X.A.in1 s y x (e y)) → Q (.bool (if neg = true then !items.any e else items.any e)) s → wpAny (model X.prog X.w) X.A (compareOp op x (.ref l)) Q X.xe s) : OpR X (compareOp op) (rInP X.K cl neg) := by
  intro pins s σ H x y v u Q I rx ry h
  obtain ⟨F, p, ys, sf, r1, r2, h1, h2, k⟩ := h
  -- the items' answers, by the value
  classical
  have go : ∀ (its : Array Value), its.size = ys.length → (∀ j (hj : j < its.size), ∃ q w, ys[j]? = some q ∧ Rp X.K cl F q w ∧ RelV w its[j]) →
      ∃ e : Value → Bool, (∀ z, z ∈ its → SeqAt.EqAt X.A.in1 s z v (e z)) ∧ its.any e = ys.any fun q => peq q p := fun its hs hi => by
    have key : ∀ z, z ∈ its → ∃ b, (∀ j (hj : j < its.size), its[j] = z → ∀ q, ys[j]? = some q → peq q p = b) ∧ SeqAt.EqAt X.A.in1 s z v b := fun z hz => by
      obtain ⟨j, hj, ej⟩ := Array.mem_iff_getElem.mp hz
      obtain ⟨q, w, hq, rq, rw'⟩ := hi j hj
      refine ⟨peq q p, fun j2 hj2 e2 q2 hq2 => ?_, ?_⟩
      · obtain ⟨q', w', hq', rq', rw''⟩ := hi j2 hj2
        rw [hq'] at hq2; cases hq2
        rw [e2] at rw''
        rw [ej] at rw'
        have : w' = w := rw''.inj rw'
        subst this
        rw [Rp.uniq I sf 40 _ _ _ (okd_at h2 hq') (okd_at h2 hq) rq' rq]
      · rw [← ej]
        exact eqAt_P I sf 40 q p w x _ _ X.A.in1 (okd_at h2 hq) h1 rq rw' r1 rx (by show X.A.units + 1 + 40 < cLine; omega)
    refine ⟨fun z => if hz : z ∈ its then (key z hz).choose else false, fun z hz => ?_, ?_⟩
    · show SeqAt.EqAt X.A.in1 s z v (if hz : z ∈ its then (key z hz).choose else false)
      rw [dif_pos hz]; exact (key z hz).choose_spec.2
    · rw [Bool.eq_iff_iff]
      simp only [Array.any_eq_true, List.any_eq_true]
      constructor
      · rintro ⟨j, hj, e⟩
        obtain ⟨q, w, hq, _, _⟩ := hi j hj
        have hm : its[j] ∈ its := Array.getElem_mem hj
        rw [dif_pos hm] at e
        exact ⟨q, List.mem_of_getElem? hq, ((key _ hm).choose_spec.1 j hj rfl q hq).trans e⟩
      · rintro ⟨q, hq, e⟩
        obtain ⟨j, hj⟩ := List.getElem?_of_mem hq
        have hjl : j < its.size := by rw [hs]; exact (List.getElem?_eq_some_iff.mp hj).1
        have hm : its[j] ∈ its := Array.getElem_mem hjl
        refine ⟨j, hjl, ?_⟩
        rw [dif_pos hm]
        exact ((key _ hm).choose_spec.1 j hjl rfl q hj).symm.trans e
  rcases r2 with r2 | r2
  · obtain ⟨a, its, eu, ev, il, hs, hi⟩ := lst_items I sf r2 ry
    subst eu
    obtain ⟨e, he, hany⟩ := go its hs hi
    exact hl s a its v e _ il he ⟨.bl (if neg = true then !its.any e else its.any e), H, I, rfl, by rw [hany]; exact k⟩
  · obtain ⟨a, its, eu, ev, il, hs, hi⟩ := tup_items I sf r2 ry
    subst eu
    obtain ⟨e, he, hany⟩ := go its hs hi
    exact ht s a its v e _ il he ⟨.bl (if neg = true then !its.any e else its.any e), H, I, rfl, by rw [hany]; exact k⟩
theorem o_in (hu : X.A.units + 65 < cLine) : OpR X (compareOp .In) (rInP X.K cl false) :=
  in_core hu (fun s l items x e Q h he q => SeqAt.in_listAt e h he (by simpa using q)) (fun s l items x e Q h he q => SeqAt.in_tupleAt e h he (by simpa using q))
theorem o_notin (hu : X.A.units + 65 < cLine) : OpR X (compareOp .NotIn) (rInP X.K cl true) :=
  in_core hu (fun s l items x e Q h he q => SeqAt.notIn_listAt e h he (by simpa using q)) (fun s l items x e Q h he q => SeqAt.notIn_tupleAt e h he (by simpa using q))
theorem d_in {K : PySem.W.Frag} {neg : Bool} : OpD K cl (fIn neg) (rInP K cl neg) := by
  intro S B F φ H d1 d2 x y Q s r1 r2 l1 l2 o
  unfold fIn at o
  split at o
  · rename_i p ys e1 e2
    split at o
    · rename_i h
      obtain ⟨F', sf, ra, rb⟩ := rdP_ok2 s e1 e2 r1 r2
      exact ⟨F', p, ys, sf, ra, .inl rb, h.1, h.2, o.fin0 rfl s (Rp.bl _) trivial⟩
    · obtain ⟨_, _, z, _⟩ := o; cases z
  · rename_i p ys e1 e2
    split at o
    · rename_i h
      obtain ⟨F', sf, ra, rb⟩ := rdP_ok2 s e1 e2 r1 r2
      exact ⟨F', p, ys, sf, ra, .inr rb, h.1, h.2, o.fin0 rfl s (Rp.bl _) trivial⟩
    · obtain ⟨_, _, z, _⟩ := o; cases z
  · obtain ⟨_, _, z, _⟩ := o; cases z
end
end Pv
namespace Pv
open PySem PySem.Spec PyProof.Rows L2
section
variable {X : Cx} {K : PySem.W.Frag} {cl : Nat → Addr}
theorem OkE.no {S : SH} {B : List Nat} {F : Hp} {φ : Nat → Addr} {H : Hp} {Q : VK} {p : Prop} (h : OkE K cl S B F φ H none Q) : p := by obtain ⟨_, _, z, _⟩ := h; cases z
theorem drI {F : Hp} {φ : Nat → Addr} {i : Int} {x : V} (h : DR K cl F φ (.p (.int i)) x) : x = .int i := by cases (show Rp K cl F (.int i) x from h); rfl
theorem drS {F : Hp} {φ : Nat → Addr} {i : Str} {x : V} (h : DR K cl F φ (.p (.str i)) x) : x = .str i := by cases (show Rp K cl F (.str i) x from h); rfl
theorem drB {F : Hp} {φ : Nat → Addr} {i : Bool} {x : V} (h : DR K cl F φ (.p (.bl i)) x) : x = .bl i := by cases (show Rp K cl F (.bl i) x from h); rfl
theorem drN {F : Hp} {φ : Nat → Addr} {x : V} (h : DR K cl F φ (.p .non) x) : x = .non := by cases (show Rp K cl F .non x from h); rfl

/-! ### ints -/
/-- two ints under a test, a datum out -/
def fII (c : Int → Int → Bool) (g : Int → Int → P) (d e : D) (S : SH) : Option (D × SH) := match d, e with
  | .p (.int i), .p (.int j) => if c i j = true then some (.p (g i j), S) else none
  | _, _ => none
@[simp] theorem fII_eq (c : Int → Int → Bool) (g : Int → Int → P) (i j : Int) (S : SH) : fII c g (.p (.int i)) (.p (.int j)) S = if c i j = true then some (.p (g i j), S) else none := id rfl
theorem d_II {c : Int → Int → Bool} {C : Int → Int → Prop} {g : Int → Int → P} {g' : Int → Int → V} (hc : ∀ i j, c i j = true → C i j) (hg : ∀ F i j, Rp K cl F (g i j) (g' i j)) : OpD K cl (fII c g) (rI C g') := by
  intro S B F φ H d1 d2 x y Q s r1 r2 l1 l2 o
  unfold fII at o
  split at o
  · rename_i i j
    split at o
    · rename_i h
      exact ⟨i, j, drI r1, drI r2, hc i j h, o.fin0 rfl s (hg F i j) trivial⟩
    · exact o.no
  · exact o.no
theorem d_II0 {g : Int → Int → P} {g' : Int → Int → V} (hg : ∀ F i j, Rp K cl F (g i j) (g' i j)) : OpD K cl (fII (fun _ _ => true) g) (rI0 g') := by
  intro S B F φ H d1 d2 x y Q s r1 r2 l1 l2 o
  obtain ⟨i, j, h1, h2, _, q⟩ := d_II (C := fun _ _ => True) (fun _ _ _ => trivial) hg S B F φ H d1 d2 x y Q s r1 r2 l1 l2 o
  exact ⟨i, j, h1, h2, q⟩
abbrev fSub := fII (fun _ _ => true) fun i j => .int (i - j)
def mulOk (i j : Int) : Bool := decide (i.natAbs < 2 ^ 64) || decide (j.natAbs < 2 ^ 64) || decide (i.natAbs.log2 + j.natAbs.log2 < 1000000)
abbrev fMul := fII mulOk fun i j => .int (i * j)
def divOk (i j : Int) : Bool := decide (0 < j) && decide (j.natAbs.log2 < 9000)
abbrev fDiv := fII divOk fun i j => .int (i / j)
abbrev fMod := fII (fun _ j => decide (0 < j)) fun i j => .int (i % j)
def powOk (i j : Int) : Bool := decide (0 ≤ j) && decide (j ≤ 1000000) && decide (i.natAbs < 2 ^ 64)
abbrev fPow := fII powOk fun i j => .int (i ^ j.toNat)
abbrev fLt := fII (fun _ _ => true) fun i j => .bl (decide (i < j))
abbrev fLe := fII (fun _ _ => true) fun i j => .bl (decide (i ≤ j))
abbrev fGt := fII (fun _ _ => true) fun i j => .bl (decide (j < i))
abbrev fGe := fII (fun _ _ => true) fun i j => .bl (decide (j ≤ i))
theorem d_sub : OpD K cl fSub (rI0 fun i j => .int (i - j)) := d_II0 fun _ _ _ => .int _
theorem op_mulG : OpR X (binaryOp .Mult) (rI (fun i j => CMul i j ∨ CMulW i j) fun i j => .int (i * j)) := opI fun i j _ _ _ _ _ hc q => mul_int q (hc.elim (fun h => h.ok) fun h => h.ok)
theorem mulOk_c {i j : Int} (h : mulOk i j = true) : CMul i j ∨ CMulW i j := by
  unfold mulOk at h
  simp only [Bool.or_eq_true, decide_eq_true_eq] at h
  rcases h with (h | h) | h
  · exact .inl (.inl ⟨by omega, by omega⟩)
  · exact .inl (.inr ⟨by omega, by omega⟩)
  · exact .inr h
theorem d_mul : OpD K cl fMul (rI (fun i j => CMul i j ∨ CMulW i j) fun i j => .int (i * j)) := d_II (fun _ _ h => mulOk_c h) fun _ _ _ => .int _
theorem d_div : OpD K cl fDiv (rI CDivW fun i j => .int (i / j)) := d_II (fun _ _ h => by
  unfold divOk at h; simp only [Bool.and_eq_true, decide_eq_true_eq] at h; exact h) fun _ _ _ => .int _
theorem d_mod : OpD K cl fMod (rI (fun _ j => 0 < j) fun i j => .int (i % j)) := d_II (fun _ _ h => of_decide_eq_true h) fun _ _ _ => .int _
theorem d_pow : OpD K cl fPow (rI CPow fun i j => .int (i ^ j.toNat)) := d_II (fun _ _ h => by
  unfold powOk at h; simp only [Bool.and_eq_true, decide_eq_true_eq] at h; exact ⟨h.1.1, h.1.2, h.2⟩) fun _ _ _ => .int _
theorem d_lt : OpD K cl fLt (rI0 fun i j => .bl (decide (i < j))) := d_II0 fun _ _ _ => .bl _
theorem d_le : OpD K cl fLe (rI0 fun i j => .bl (decide (i ≤ j))) := d_II0 fun _ _ _ => .bl _
theorem d_gt : OpD K cl fGt (rI0 fun i j => .bl (decide (j < i))) := d_II0 fun _ _ _ => .bl _
theorem d_ge : OpD K cl fGe (rI0 fun i j => .bl (decide (j ≤ i))) := d_II0 fun _ _ _ => .bl _
def fNeg (d : D) (S : SH) : Option (D × SH) := match d with | .p (.int i) => some (.p (.int (-i)), S) | _ => none
theorem d_neg : UnD K cl fNeg (rU fun i => .int (-i)) := by
  intro S B F φ H d x Q s r l o
  unfold fNeg at o
  split at o
  · exact ⟨_, drI r, o.fin0 rfl s (Rp.int _) trivial⟩
  · exact o.no

/-! ### + -/
def fAdd (live : Bool) (d e : D) (S : SH) : Option (D × SH) := match d, e with
  | .p (.int i), .p (.int j) => some (.p (.int (i + j)), S)
  | .p (.str a), .p (.str b) => if a.length + b.length ≤ sizeLine then some (.p (.str (a ++ b)), S) else none
  | .p (.tup a), .p (.tup b) => if a.length + b.length ≤ sizeLine then some (.p (.tup (a ++ b)), S) else none
  | d, e => match asL d S, asL e S with
    | some a, some b => newL live (a ++ b) S
    | _, _ => none
def rCatL (K : PySem.W.Frag) : R2 := fun x y H Q => ∃ l b xs zs, x = .ref l ∧ y = .ref b ∧ SqL K H l xs ∧ SqL K H b zs ∧ xs.length + zs.length ≤ sizeLine ∧ ∀ p, H p = none → Q (.ref p) (upd H p (.lst (xs ++ zs)))
open PySem.AutoSeq1 (wpAny_loadPart') in
open PySem.MeetsSeq PySem.MeetsSeq2 PySem.MeetsSeq3 in
theorem list_add_any (l : Addr) (items : Array Value) (n : Nat) (b : Addr) (items2 : Array Value) (n2 : Nat) (dd dd2 : Option Addr) (sl sl2 : Array (Option Value)) (hz : items.size + items2.size ≤ sizeLine) :
    Meets (Builtin.«list.__add__» ⟨[.ref l, .ref b], []⟩) (fun _ R s => s.heap.get? l = some { cls := .type "list", dict := dd, data := .seq items n, slots := sl } ∧ s.heap.get? b = some { cls := .type "list", dict := dd2, data := .seq items2 n2, slots := sl2 } ∧
      R (.ok (.ret (Value.ref s.heap.objs.size))) { s with heap := s.heap.push { cls := Value.type "list", data := Data.seq (items ++ items2) }, toks := s.toks }) :=
  .of_wp fun prog w A R s h => by
    obtain ⟨hp, g, d, tk, os⟩ := s
    obtain ⟨hl, hb, h⟩ := h
    have f1 := AutoSeq1.sub_list_list
    have f2 := AutoSeq1.sub_tuple_list
    wp_walk using wpAny_loadPart' hl, wpAny_loadPart' hb
    exact ⟨_, rfl, h⟩
theorem op_catL : OpR X (binaryOp .Add) (rCatL X.K) := by
  intro pins s σ H x y v u Q I rx ry h
  obtain ⟨l, b, xs, zs, rfl, rfl, hH, hB, hz, q⟩ := h
  cases rx
  cases ry
  obtain ⟨its, r, ⟨o1, n1, e1, c1, d1, t1⟩, _⟩ := I.list hH
  obtain ⟨its2, r2, ⟨o2, n2, e2, c2, d2, t2⟩, _⟩ := I.list hB
  have hl := r.length
  have hl2 := r2.length
  obtain ⟨_, dd1, _, sl1⟩ := o1
  obtain ⟨_, dd2, _, sl2⟩ := o2
  simp only at c1 d1 t1 c2 d2 t2
  subst c1 d1 t1 c2 d2 t2
  refine PySem.concat_meets ⟨_, e1, rfl⟩ ⟨_, e2, rfl⟩ PySem.noFill_list_add PySem.seq_list_add F.slot_list_add F.entry_list_add (F.args_list_add_2 _ _) (list_add_any l its.toArray n1 b its2.toArray n2 _ _ _ _ (by rw [List.size_toArray, List.size_toArray]; omega)) ⟨e1, e2, ?_⟩
  have ea : its.toArray ++ its2.toArray = (its ++ its2).toArray := by simp
  rw [ea]
  exact ⟨.ref _, _, I.lnew (t' := s.toks) (r.append r2) (by rw [List.length_append]; omega), rfl, q _ I.fresh⟩
def rAddG (K : PySem.W.Frag) : R2 := fun x y H Q => rI0 (fun i j => .int (i + j)) x y H Q ∨ (∃ i j, x = .str i ∧ y = .str j ∧ i.length + j.length ≤ sizeLine ∧ Q (.str (i ++ j)) H) ∨ rCatA K x y H Q ∨ rCatL K x y H Q
theorem o_add : OpR X (binaryOp .Add) (rAddG X.K) := op_add.or (op_add_str.or (op_catA.or op_catL))
theorem d_add {live : Bool} : OpD K cl (fAdd live) (rAddG K) := by
  intro S B F φ H d1 d2 x y Q s r1 r2 l1 l2 o
  unfold fAdd at o
  split at o
  · exact .inl ⟨_, _, drI r1, drI r2, o.fin0 rfl s (Rp.int _) trivial⟩
  · split at o
    · rename_i h
      exact .inr (.inl ⟨_, _, drS r1, drS r2, h, o.fin0 rfl s (Rp.str _) trivial⟩)
    · exact o.no
  · rename_i a b
    split at o
    · rename_i h
      cases (show Rp K cl F (.tup a) x from r1) with
      | @tup p _ vs q1 t1 =>
        cases (show Rp K cl F (.tup b) y from r2) with
        | @tup p2 _ us q2 t2 =>
          have e1 := t1.len
          have e2 := t2.len
          have al : ∀ {ps qs : List P} {vs us : List V} {F : Hp}, RpA K cl F ps vs → RpA K cl F qs us → RpA K cl F (ps ++ qs) (vs ++ us) := by
            intro ps
            induction ps with
            | nil => intro qs vs us F a b; cases a; exact b
            | cons p ps ih => intro qs vs us F a b; cases a with | cons a a2 => exact .cons a (ih a2 b)
          refine .inr (.inr (.inl ⟨p, p2, vs, us, rfl, rfl, SqT.mono s.le q1, SqT.mono s.le q2, by omega, fun h1 => ?_, fun h1 h2 => ?_, fun h1 h2 r hr => ?_⟩))
          · subst h1
            cases t1
            exact o.fin0 rfl s (Rp.tup q2 t2) trivial
          · subst h2
            cases t2
            rw [List.append_nil] at o
            exact o.fin0 rfl s (Rp.tup q1 t1) trivial
          · obtain ⟨s1, x1⟩ := s.frz (H' := upd H r (.tup (vs ++ us))) (Same.new (Same.refl H) hr) hr upd_same
            exact o.fin rfl s1 x1 (Rp.tup (.inl (.inl upd_same)) (RpA.mono x1.fz (al t1 t2))) trivial
    · exact o.no
  · split at o
    · rename_i a b e1 e2
      obtain ⟨p, vs, rfl, q1, t1, m1⟩ := asL_ok s e1 r1 l1
      obtain ⟨p2, us, rfl, q2, t2, m2⟩ := asL_ok s e2 r2 l2
      obtain ⟨hz, k⟩ := newL_ok1 o s (DRA.append t1 t2) fun z hz => (List.mem_append.mp hz).elim (m1 z) (m2 z)
      exact .inr (.inr (.inr ⟨p, p2, vs, us, rfl, rfl, q1, q2, by rw [List.length_append] at hz; exact hz, k⟩))
    · exact o.no

/-! ### is -/
def isNon : D → Bool
  | .p .non => true
  | _ => false
def isBl (b : Bool) : D → Bool
  | .p (.bl c) => c == b
  | _ => false
def fIs (neg : Bool) (d e : D) (S : SH) : Option (D × SH) := match e with
  | .p .non => some (.p (.bl (if neg = true then !isNon d else isNon d)), S)
  | .p (.bl b) => some (.p (.bl (if neg = true then !isBl b d else isBl b d)), S)
  | _ => none
theorem RelV.bl_iff {x : V} {v : Value} (b : Bool) (r : RelV x v) : (v == Value.bool b) = decide (x = .bl b) := by
  cases x <;> first
    | (obtain ⟨t, rfl⟩ := r; rfl)
    | (cases r; rfl)
    | skip
  cases r
  rename_i c
  cases b <;> cases c <;> rfl
theorem plain_bool {x : V} {v : Value} (b : Bool) (r : RelV x v) : plainIs v (.bool b) = true := by
  cases x <;> first
    | (obtain ⟨t, rfl⟩ := r; rfl)
    | (cases r; rfl)
def rIsG (neg : Bool) : R2 := fun x y H Q => (y = .non ∧ Q (.bl (if neg = true then !decide (x = .non) else decide (x = .non))) H) ∨ ∃ b, y = .bl b ∧ Q (.bl (if neg = true then !decide (x = .bl b) else decide (x = .bl b))) H
theorem o_is : OpR X (compareOp .Is) (rIsG false) := by
  intro pins s σ H x y v u Q I rx ry h
  rcases h with ⟨rfl, q⟩ | ⟨b, rfl, q⟩
  · exact op_isN pins s σ H x .non v u Q I rx ry ⟨rfl, q⟩
  · cases (show u = Value.bool b from ry)
    exact wpAny_is_plain (plain_bool b rx) (fin_bl I (by rw [if_neg Bool.false_ne_true] at q; exact q) (RelV.bl_iff b rx).symm)
theorem o_isnot : OpR X (compareOp .IsNot) (rIsG true) := by
  intro pins s σ H x y v u Q I rx ry h
  rcases h with ⟨rfl, q⟩ | ⟨b, rfl, q⟩
  · exact op_notN pins s σ H x .non v u Q I rx ry ⟨rfl, q⟩
  · cases (show u = Value.bool b from ry)
    exact wpAny_isNot_plain (plain_bool b rx) (fin_bl I (by rw [if_pos rfl] at q; exact q) (by rw [RelV.bl_iff b rx]))
theorem isNon_ok {F : Hp} {φ : Nat → Addr} {d : D} {x : V} (r : DR K cl F φ d x) : isNon d = decide (x = .non) := by
  cases d with
  | ref n => cases (show x = .ref (φ n) from r); rfl
  | p y =>
    have r : Rp K cl F y x := r
    cases r <;> rfl
theorem isBl_ok {F : Hp} {φ : Nat → Addr} {d : D} {x : V} (b : Bool) (r : DR K cl F φ d x) : isBl b d = decide (x = .bl b) := by
  cases d with
  | ref n => cases (show x = .ref (φ n) from r); rfl
  | p y =>
    have r : Rp K cl F y x := r
    cases r <;> first | rfl | (rename_i c; cases b <;> cases c <;> rfl)
theorem d_is {neg : Bool} : OpD K cl (fIs neg) (rIsG neg) := by
  intro S B F φ H d1 d2 x y Q s r1 r2 l1 l2 o
  unfold fIs at o
  split at o
  · refine .inl ⟨drN r2, ?_⟩
    rw [← isNon_ok r1]
    exact o.fin0 rfl s (Rp.bl _) trivial
  · rename_i b
    refine .inr ⟨b, drB r2, ?_⟩
    rw [← isBl_ok b r1]
    exact o.fin0 rfl s (Rp.bl _) trivial
  · exact o.no

/-! ### built-in functions -/
theorem k_callB {x : Str} {p pos : Pos} {e : Expr} {es : List Expr} {m : MA} {id : String} {f : MF} {r : List V → Hp → VK → Prop} (hd : CallD X.K cl f r) (hc : CallR X (.builtin id) r) (hg : Gl X x) (hm : X.mg x = none) (hv : bootBuiltins x = some (.builtin id)) (ha : PA X (e :: es) (LA X.K cl m)) (hn : x ≠ "__name__" := by decide) (hdb : (x == ("__debug__" : Str)) = false := by decide)
    (he : starEach (e :: es) X.env = (false, eval e X.env) :: starEach es X.env := by rfl) (hpl : (backTo pos (starEach es X.env)).any (·.1) = false := by rfl) : PE X (.Call (.Name x p) (e :: es) [] pos) (LE X.K cl (dCall f m)) :=
  (pe_callB hc hg hm hv ha hn hdb he hpl).imp fun _ _ _ q => e_call hd q
theorem k_callT {x : Str} {p pos : Pos} {e : Expr} {es : List Expr} {m : MA} {T : String} {f : MF} {r : List V → Hp → VK → Prop} (hd : CallD X.K cl f r) (hc : CallR X (.type T) r) (hg : Gl X x) (hm : X.mg x = none) (hv : bootBuiltins x = some (.type T)) (ha : PA X (e :: es) (LA X.K cl m)) (hn : x ≠ "__name__" := by decide) (hdb : (x == ("__debug__" : Str)) = false := by decide)
    (he : starEach (e :: es) X.env = (false, eval e X.env) :: starEach es X.env := by rfl) (hpl : (backTo pos (starEach es X.env)).any (·.1) = false := by rfl) : PE X (.Call (.Name x p) (e :: es) [] pos) (LE X.K cl (dCall f m)) :=
  (pe_callTy hc hg hm hv ha hn hdb he hpl).imp fun _ _ _ q => e_call hd q
theorem dra1 {F : Hp} {φ : Nat → Addr} {d : D} {xs : List V} (r : DRA K cl F φ [d] xs) : ∃ x, xs = [x] ∧ DR K cl F φ d x := by
  cases r with | cons a b => cases b; exact ⟨_, rfl, a⟩
theorem dra2 {F : Hp} {φ : Nat → Addr} {d e : D} {xs : List V} (r : DRA K cl F φ [d, e] xs) : ∃ x y, xs = [x, y] ∧ DR K cl F φ d x ∧ DR K cl F φ e y := by
  cases r with | cons a b => cases b with | cons b c => cases c; exact ⟨_, _, rfl, a, b⟩
def fLen : MF := fun ds S => match ds with
  | [.p (.str z)] => if z.length ≤ sizeLine then some (.p (.int z.length), S) else none
  | [d] => match asQ d S with | some xs => some (.p (.int xs.length), S) | none => none
  | _ => none
def rLenG (K : PySem.W.Frag) : List V → Hp → VK → Prop := fun xs H Q => (∃ z, xs = [.str z] ∧ z.length ≤ sizeLine ∧ Q (.int z.length) H) ∨ ∃ p ys, xs = [.ref p] ∧ (SqL K H p ys ∨ SqT K H p ys) ∧ Q (.int ys.length) H
theorem c_len : CallR X (.builtin "len") (rLenG X.K) := call_len_str.or call_len_seq
theorem d_len : CallD K cl fLen (rLenG K) := by
  intro S B F φ H ds xs Q s r l o
  unfold fLen at o
  split at o
  · split at o
    · rename_i z h
      obtain ⟨x, rfl, rx⟩ := dra1 r
      exact .inl ⟨z, by rw [drS rx], h, o.fin0 rfl s (Rp.int _) trivial⟩
    · exact o.no
  · split at o
    · rename_i d hd ys e
      obtain ⟨x, rfl, rx⟩ := dra1 r
      obtain ⟨a, vs, rfl, q, t, _⟩ := asQ_ok s e rx (l _ List.mem_cons_self)
      exact .inr ⟨a, vs, rfl, q, by rw [← t.length]; exact o.fin0 rfl s (Rp.int _) trivial⟩
    · exact o.no
  · exact o.no
def fList (live : Bool) : MF := fun ds S => match ds with
  | [d] => match asQ d S with | some xs => newL live xs S | none => none
  | _ => none
def rListG (K : PySem.W.Frag) : List V → Hp → VK → Prop := fun xs H Q => ∃ p ys, xs = [.ref p] ∧ (SqL K H p ys ∨ SqT K H p ys) ∧ ∀ l, H l = none → Q (.ref l) (upd H l (.lst ys))
theorem c_list : CallR X (.type "list") (rListG X.K) := call_list_of
theorem d_list {live : Bool} : CallD K cl (fList live) (rListG K) := by
  intro S B F φ H ds xs Q s r l o
  unfold fList at o
  split at o
  · split at o
    · rename_i d ys e
      obtain ⟨x, rfl, rx⟩ := dra1 r
      obtain ⟨a, vs, rfl, q, t, m⟩ := asQ_ok s e rx (l _ List.mem_cons_self)
      exact ⟨a, vs, rfl, q, (newL_ok1 o s t m).2⟩
    · exact o.no
  · exact o.no
def fTuple : MF := fun ds S => match ds with
  | [.p (.tup ps)] => some (.p (.tup ps), S)
  | [d] => match asL d S with | some xs => newT xs S | none => none
  | _ => none
def rTupG (K : PySem.W.Frag) : List V → Hp → VK → Prop := fun xs H Q => ∃ p ys, xs = [.ref p] ∧ ((SqL K H p ys ∧ ∀ l, H l = none → Q (.ref l) (upd H l (.tup ys))) ∨ (SqT K H p ys ∧ Q (.ref p) H))
theorem c_tuple : CallR X (.type "tuple") (rTupG X.K) := call_tuple_of
theorem d_tuple : CallD K cl fTuple (rTupG K) := by
  intro S B F φ H ds xs Q s r l o
  unfold fTuple at o
  split at o
  · rename_i ps
    obtain ⟨x, rfl, rx⟩ := dra1 r
    cases (show Rp K cl F (.tup ps) x from rx) with
    | tup q t => exact ⟨_, _, rfl, .inr ⟨SqT.mono s.le q, o.fin0 rfl s (Rp.tup q t) trivial⟩⟩
  · split at o
    · rename_i d hd ys e
      obtain ⟨x, rfl, rx⟩ := dra1 r
      obtain ⟨a, vs, rfl, q, t, m⟩ := asL_ok s e rx (l _ List.mem_cons_self)
      exact ⟨a, vs, rfl, .inl ⟨q, (newT_ok o s t).2⟩⟩
    · exact o.no
  · exact o.no
def fInt : MF := fun ds S => match ds with
  | [.p (.int i)] => some (.p (.int i), S)
  | [.p (.bl b)] => some (.p (.int (if b = true then 1 else 0)), S)
  | _ => none
def rIntG : List V → Hp → VK → Prop := fun xs H Q => (∃ i, xs = [.int i] ∧ Q (.int i) H) ∨ ∃ k, xs = [.bl k] ∧ Q (.int (if k then 1 else 0)) H
theorem c_int : CallR X (.type "int") rIntG := call_int1
theorem d_int : CallD K cl fInt rIntG := by
  intro S B F φ H ds xs Q s r l o
  unfold fInt at o
  split at o
  · obtain ⟨x, rfl, rx⟩ := dra1 r
    exact .inl ⟨_, by rw [drI rx], o.fin0 rfl s (Rp.int _) trivial⟩
  · obtain ⟨x, rfl, rx⟩ := dra1 r
    exact .inr ⟨_, by rw [drB rx], o.fin0 rfl s (Rp.int _) trivial⟩
  · exact o.no
def fAbs : MF := fun ds S => match ds with
  | [.p (.int i)] => some (.p (.int (if i < 0 then -i else i)), S)
  | _ => none
def rAbsG : List V → Hp → VK → Prop := fun xs H Q => ∃ i, xs = [.int i] ∧ Q (.int (if i < 0 then -i else i)) H
theorem c_abs : CallR X (.builtin "abs") rAbsG := call_abs
theorem d_abs : CallD K cl fAbs rAbsG := by
  intro S B F φ H ds xs Q s r l o
  unfold fAbs at o
  split at o
  · obtain ⟨x, rfl, rx⟩ := dra1 r
    exact ⟨_, by rw [drI rx], o.fin0 rfl s (Rp.int _) trivial⟩
  · exact o.no
/-- max(i, j), min(i, j) -/
def fMax : MF := fun ds S => match ds with
  | [.p (.int i), .p (.int j)] => some (.p (.int (if j > i then j else i)), S)
  | _ => none
def fMin : MF := fun ds S => match ds with
  | [.p (.int i), .p (.int j)] => some (.p (.int (if j < i then j else i)), S)
  | _ => none
def rMaxG : List V → Hp → VK → Prop := fun xs H Q => ∃ i j, xs = [.int i, .int j] ∧ Q (.int (if j > i then j else i)) H
def rMinG : List V → Hp → VK → Prop := fun xs H Q => ∃ i j, xs = [.int i, .int j] ∧ Q (.int (if j < i then j else i)) H
theorem c_max (hc : X.calm = true) : CallR X (.builtin "max") rMaxG := call_max2 hc
theorem c_min (hc : X.calm = true) : CallR X (.builtin "min") rMinG := call_min2 hc
theorem d_max : CallD K cl fMax rMaxG := by
  intro S B F φ H ds xs Q s r l o
  unfold fMax at o
  split at o
  · obtain ⟨x, y, rfl, rx, ry⟩ := dra2 r
    exact ⟨_, _, by rw [drI rx, drI ry], o.fin0 rfl s (Rp.int _) trivial⟩
  · exact o.no
theorem d_min : CallD K cl fMin rMinG := by
  intro S B F φ H ds xs Q s r l o
  unfold fMin at o
  split at o
  · obtain ⟨x, y, rfl, rx, ry⟩ := dra2 r
    exact ⟨_, _, by rw [drI rx, drI ry], o.fin0 rfl s (Rp.int _) trivial⟩
  · exact o.no
def fStr : MF := fun ds S => match ds with
  | [.p (.int i)] => if i.natAbs.log2 < 1920 then some (.p (.str (toString i)), S) else none
  | _ => none
def rStrG : List V → Hp → VK → Prop := fun xs H Q => ∃ i, xs = [.int i] ∧ i.natAbs.log2 < 1920 ∧ Q (.str (toString i)) H
theorem c_str : CallR X (.type "str") rStrG := call_str_int
theorem d_str : CallD K cl fStr rStrG := by
  intro S B F φ H ds xs Q s r l o
  unfold fStr at o
  split at o
  · split at o
    · rename_i i h
      obtain ⟨x, rfl, rx⟩ := dra1 r
      exact ⟨i, by rw [drI rx], h, o.fin0 rfl s (Rp.str _) trivial⟩
    · exact o.no
  · exact o.no
/-- ints out of a list of data -/
def intsOf : List D → Option (List Int)
  | [] => some []
  | .p (.int i) :: r => (intsOf r).map (i :: ·)
  | _ => none
@[simp] theorem intsOf_map (ns : List Int) : intsOf (ns.map fun n => D.p (.int n)) = some ns := by
  induction ns with
  | nil => rfl
  | cons x r ih => simp [intsOf, ih]
theorem intsOf_of : ∀ {ds : List D} {ns : List Int} {F : Hp} {φ : Nat → Addr} {vs : List V}, intsOf ds = some ns → DRA K cl F φ ds vs → vs = ns.map V.int
  | [], ns, F, φ, vs, h, r => by cases h; cases r; rfl
  | .p (.int i) :: r, ns, F, φ, vs, h, q => by
    unfold intsOf at h
    cases e : intsOf r with
    | none => rw [e] at h; cases h
    | some ms =>
      rw [e] at h; cases h
      cases q with
      | cons a b => rw [List.map_cons, ← intsOf_of e b, drI a]
  | .ref n :: r, _, _, _, _, h, _ => by cases h
  | .p .non :: r, _, _, _, _, h, _ => by cases h
  | .p (.bl _) :: r, _, _, _, _, h, _ => by cases h
  | .p (.str _) :: r, _, _, _, _, h, _ => by cases h
  | .p (.tup _) :: r, _, _, _, _, h, _ => by cases h
  | .p (.lst _) :: r, _, _, _, _, h, _ => by cases h
  | .p (.dK _) :: r, _, _, _, _, h, _ => by cases h
  | .p (.dT _) :: r, _, _, _, _, h, _ => by cases h
  | .p (.ins _ _) :: r, _, _, _, _, h, _ => by cases h
def fSum : MF := fun ds S => match ds with
  | [d] => match asQ d S with | some xs => (match intsOf xs with | some ns => some (.p (.int ns.sum), S) | none => none) | none => none
  | _ => none
def rSumG (K : PySem.W.Frag) : List V → Hp → VK → Prop := fun vs H Q => ∃ (a : Addr) (ns : List Int), vs = [V.ref a] ∧ (SqL K H a (ns.map V.int) ∨ SqT K H a (ns.map V.int)) ∧ Q (.int ns.sum) H
theorem c_sum (hc : X.calm = true) : CallR X (.builtin "sum") (rSumG X.K) := by
  intro pins s σ H vs us Q I r h
  obtain ⟨a, ns, rfl, hs | hs, q⟩ := h
  · exact cr_sum hc pins s σ H _ us Q I r ⟨a, ns, rfl, hs, q⟩
  · obtain ⟨its, rv, ht, _⟩ := I.tuple hs
    rw [Vals.ref1 r]
    obtain ⟨xs, e⟩ := rv.ints.allInts.items
    have hn : numsOf (intItems xs).toList = ns := by rw [← e]; exact rv.ints.numsOf
    rw [nums_intItems] at hn
    have ht2 : s.heap.IsTuple a (intItems xs) := by rw [← e]; exact ht
    refine PySem.W.ktm_sumG (I.ok.hd hc) ht2 fun h' tk t' hk => ⟨.int ns.sum, H, I.kept hk, ⟨t', ?_⟩, q⟩
    rw [preSum_eq, List.take_of_length_le (by simp), hn]
theorem d_sum : CallD K cl fSum (rSumG K) := by
  intro S B F φ H ds xs Q s r l o
  unfold fSum at o
  split at o
  · split at o
    · rename_i d ys e
      split at o
      · rename_i ns e2
        obtain ⟨x, rfl, rx⟩ := dra1 r
        obtain ⟨a, vs, rfl, q, t, m⟩ := asQ_ok s e rx (l _ List.mem_cons_self)
        have := intsOf_of e2 t
        subst this
        exact ⟨a, ns, rfl, q, o.fin0 rfl s (Rp.int _) trivial⟩
      · exact o.no
    · exact o.no
  · exact o.no
end
end Pv
namespace Pv
open PySem PySem.Spec PyProof.Rows L2
section
variable {X : Cx} {K : PySem.W.Frag} {cl : Nat → Addr}
/-! ### o[i], o[i:j] -/
def fIx (d e : D) (S : SH) : Option (D × SH) := match d, e with
  | .p (.str z), .p (.int i) => if z.length ≤ sizeLine then (match atI z.cps.toList i with | some c => some (.p (.str ⟨#[c]⟩), S) | none => none) else none
  | d, .p (.int i) => match asQ d S with
    | some xs => (match atI xs i with | some x => some (x, S) | none => none)
    | none => none
  | _, _ => none
theorem atI_dra {F : Hp} {φ : Nat → Addr} {ds : List D} {vs : List V} {i : Int} {d : D} (r : DRA K cl F φ ds vs) (e : atI ds i = some d) : ∃ v, atI vs i = some v ∧ DR K cl F φ d v ∧ d ∈ ds := by
  unfold atI at e ⊢
  rw [← r.length]
  cases h : ixN ds.length i with
  | none => rw [h] at e; cases e
  | some j =>
    rw [h] at e
    obtain ⟨v, hv, rv⟩ := r.get e
    exact ⟨v, hv, rv, List.mem_of_getElem? e⟩
theorem o_ix : IxR X (rIx X.K) := ix_seq
theorem d_ix : OpD K cl fIx (rIx K) := by
  intro S B F φ H d1 d2 x y Q s r1 r2 l1 l2 o
  unfold fIx at o
  split at o
  · rename_i z i
    split at o
    · rename_i hz
      split at o
      · rename_i c e
        exact .inr (.inr ⟨z, i, c, drS r1, drI r2, hz, e, o.fin0 rfl s (Rp.str _) trivial⟩)
      · exact o.no
    · exact o.no
  · rename_i i _
    split at o
    · rename_i xs e
      split at o
      · rename_i d e2
        obtain ⟨a, vs, rfl, q, t, m⟩ := asQ_ok s e r1 l1
        obtain ⟨v, hv, rv, hm⟩ := atI_dra t e2
        have fin := o.fin0 rfl s rv (m d hm)
        rcases q with q | q
        · exact .inl ⟨a, vs, i, v, rfl, drI r2, q, hv, fin⟩
        · exact .inr (.inl ⟨a, vs, i, v, rfl, drI r2, q, hv, fin⟩)
      · exact o.no
    · exact o.no
  · exact o.no
theorem k_ix {a b : Expr} {ma mb : ME} {pos : Pos} (ha : PE X a (LE X.K cl ma)) (hb : PE X b (LE X.K cl mb)) (hs : PlainIx b := by exact fun _ _ => rfl) : PE X (.Subscript a b pos) (LE X.K cl (dOp fIx ma mb)) :=
  (pe_ix o_ix ha hb hs).imp fun _ _ _ q => e_op d_ix q
/-- the items between two places -/
def cutD {α : Type} (xs : List α) (lo hi : Option Int) : List α := (xs.drop (HT.sIx xs.length 0 lo)).take (HT.sIx xs.length xs.length hi - HT.sIx xs.length 0 lo)
def optI : Option D → Option (Option Int)
  | none => some none
  | some (.p (.int i)) => some (some i)
  | _ => none
def fSl (live : Bool) (d : D) (lo hi : Option Int) (S : SH) : Option (D × SH) := match d with
  | .p (.str z) => if z.length ≤ sizeLine then some (.p (.str (L2.cutS z lo hi)), S) else none
  | .p (.tup ps) => some (.p (.tup (cutD ps lo hi)), S)
  | d => match asL d S with
    | some xs => newL live (cutD xs lo hi) S
    | none => none
def dSl (live : Bool) (a : ME) (lo hi : Option ME) : ME := fun σ S => bnd (a σ S) fun d S1 =>
  bnd (match lo with | some m => bnd (m σ S1) fun x S2 => (match x with | .p (.int i) => some (some i, S2) | _ => none) | none => some (none, S1)) fun l S2 =>
  bnd (match hi with | some m => bnd (m σ S2) fun x S3 => (match x with | .p (.int i) => some (some i, S3) | _ => none) | none => some (none, S2)) fun h S3 => fSl live d l h S3
/-- a part of a slice -/
def LO (K : PySem.W.Frag) (cl : Nat → Addr) : Option ME → TO
  | some m => tPart (LE K cl m)
  | none => tNoPart
theorem o_none : PO X none (LO X.K cl none) := po_none
theorem o_some {e : Expr} {m : ME} (h : PE X e (LE X.K cl m)) : PO X (some e) (LO X.K cl (some m)) := po_some h
def rSlG (K : PySem.W.Frag) : V → Option Int → Option Int → Hp → VK → Prop := fun x lo hi H Q => rSlL K x lo hi H Q ∨ rSlA K x lo hi H Q ∨ rSlS x lo hi H Q
theorem o_sl : SlR X (rSlG X.K) := sl_list.or (sl_tupA.or sl_str)
theorem cut_dra {F : Hp} {φ : Nat → Addr} {ds : List D} {vs : List V} (r : DRA K cl F φ ds vs) (lo hi : Option Int) : DRA K cl F φ (cutD ds lo hi) (cutV vs lo hi) := by
  have td : ∀ {ds : List D} {vs : List V} (n : Nat), DRA K cl F φ ds vs → DRA K cl F φ (ds.drop n) (vs.drop n) := by
    intro ds vs n r
    induction n generalizing ds vs with
    | zero => exact r
    | succ n ih => cases r with | nil => exact .nil | cons a b => exact ih b
  have tt : ∀ {ds : List D} {vs : List V} (n : Nat), DRA K cl F φ ds vs → DRA K cl F φ (ds.take n) (vs.take n) := by
    intro ds vs n r
    induction n generalizing ds vs with
    | zero => exact .nil
    | succ n ih => cases r with | nil => exact .nil | cons a b => exact .cons a (ih b)
  unfold cutD cutV
  rw [r.length]
  exact tt _ (td _ r)
theorem cut_mem {α : Type} {xs : List α} {lo hi : Option Int} {x : α} (h : x ∈ cutD xs lo hi) : x ∈ xs := List.mem_of_mem_drop (List.mem_of_mem_take h)
theorem cut_map {α β : Type} (f : α → β) (xs : List α) (lo hi : Option Int) : cutD (xs.map f) lo hi = (cutD xs lo hi).map f := by
  unfold cutD
  rw [List.length_map, List.map_take, List.map_drop]
theorem d_sl {live : Bool} {S : SH} {B : List Nat} {F : Hp} {φ : Nat → Addr} {H : Hp} {d : D} {x : V} {lo hi : Option Int} {Q : VK} (s : Sim K cl S B F φ H) (r : DR K cl F φ d x) (l : d.lt S.len) (o : OkE K cl S B F φ H (fSl live d lo hi S) Q) : rSlG K x lo hi H Q := by
  unfold fSl at o
  split at o
  · split at o
    · rename_i z hz
      exact .inr (.inr ⟨z, drS r, hz, o.fin0 rfl s (Rp.str _) trivial⟩)
    · exact o.no
  · rename_i ps
    cases (show Rp K cl F (.tup ps) x from r) with
    | @tup a _ vs q t =>
      have tr : DRA K cl F φ (ps.map D.p) vs := t.dra
      have hl := t.len
      refine .inr (.inl ⟨a, vs, rfl, SqT.mono s.le q, fun h => ?_, fun h p hp => ?_⟩)
      · have e : cutD ps lo hi = ps := by
          unfold cutD
          rw [hl, h.1, h.2, List.drop_zero, List.take_of_length_le (by omega)]
        rw [e] at o
        exact o.fin0 rfl s (Rp.tup q t) trivial
      · obtain ⟨s1, x1⟩ := s.frz (H' := upd H p (.tup (cutV vs lo hi))) (Same.new (Same.refl H) hp) hp upd_same
        have := cut_dra tr lo hi
        rw [cut_map] at this
        exact o.fin rfl s1 x1 (Rp.tup (.inl (.inl upd_same)) (RpA.mono x1.fz this.rpa)) trivial
  · split at o
    · rename_i xs e
      obtain ⟨a, vs, rfl, q, t, m⟩ := asL_ok s e r l
      exact .inl ⟨a, vs, rfl, q, (newL_ok1 o s (cut_dra t lo hi) fun z hz => m z (cut_mem hz)).2⟩
    · exact o.no
theorem k_sl {live : Bool} {e : Expr} {lo hi : Option Expr} {me : ME} {ml mh : Option ME} {pos p2 : Pos} (he : PE X e (LE X.K cl me)) (hl : PO X lo (LO X.K cl ml)) (hh : PO X hi (LO X.K cl mh)) : PE X (.Subscript e (.Slice lo hi none p2) pos) (LE X.K cl (dSl live me ml mh)) := by
  refine (pe_slice o_sl he hl hh).imp fun σ H Q q => ?_
  obtain ⟨σd, S, B, F, φ, s, rs, o⟩ := q
  obtain ⟨d, S1, e1, o1⟩ := okE_bnd o
  obtain ⟨l, S2, e2, o2⟩ := okE_bnd o1
  obtain ⟨h, S3, e3, o3⟩ := okE_bnd o2
  refine LE.then_ s rs e1 fun F1 φ1 H1 x s1 x1 rs1 dr1 l1 => ?_
  have part : ∀ (m : Option ME) (S4 S5 : SH) (B : List Nat) (F4 : Hp) (φ4 : Nat → Addr) (H4 : Hp) (k : Option Int) (R : Option Int → Hp → Prop), Sim X.K cl S4 B F4 φ4 H4 → RS X.K cl F4 φ4 S4.len σd σ →
      (match m with | some m => bnd (m σd S4) fun x S2 => (match x with | .p (.int i) => some (some i, S2) | _ => none) | none => some (none, S4)) = some (k, S5) →
      (∀ F5 φ5 H5, Sim X.K cl S5 B F5 φ5 H5 → Ext S4 F4 φ4 H4 S5 F5 φ5 H5 → RS X.K cl F5 φ5 S5.len σd σ → R k H5) → LO X.K cl m σ H4 R := by
    intro m S4 S5 B F4 φ4 H4 k R s4 rs4 e kk
    cases m with
    | none => cases e; exact kk F4 φ4 H4 s4 (.refl s4) rs4
    | some m =>
      obtain ⟨y, S6, e6, e7⟩ := bnd_of e
      refine LE.then_ s4 rs4 e6 fun F6 φ6 H6 u s6 x6 rs6 dr6 l6 => ?_
      split at e7
      · cases e7
        exact ⟨_, drI dr6, kk F6 φ6 H6 s6 x6 rs6⟩
      · cases e7
  refine part ml S1 S2 B F1 φ1 H1 l _ s1 rs1 e2 fun F2 φ2 H2 s2 x2 rs2 => ?_
  refine part mh S2 S3 B F2 φ2 H2 h _ s2 rs2 e3 fun F3 φ3 H3 s3 x3 rs3 => ?_
  have x23 := x2.trans x3
  exact d_sl s3 (x23.dr l1 dr1) (x23.lt l1) (o3.ext (x1.trans x23))

/-! ### methods of lists -/
def MtD (K : PySem.W.Frag) (cl : Nat → Addr) (f : MF) (T : String) (r : V → List V → Hp → VK → Prop) : Prop :=
  ∀ S B F φ H d ds x xs Q, Sim K cl S B F φ H → DR K cl F φ d x → d.lt S.len → DRA K cl F φ ds xs → (∀ y ∈ ds, y.lt S.len) → OkE K cl S B F φ H (f (d :: ds) S) Q → r x xs H Q
def isTy (T : String) (d : D) (S : SH) : Bool := match d with
  | .p (.str _) => T == "str"
  | .p (.lst _) => T == "list"
  | .p (.dK _) => T == "dict"
  | .p (.dT _) => T == "dict"
  | .ref n => match S.os[n]? with
    | some (.lst _) => T == "list"
    | some (.dK _) => T == "dict"
    | some (.dT _) => T == "dict"
    | _ => false
  | _ => false
theorem isTy_ok {S : SH} {B : List Nat} {F : Hp} {φ : Nat → Addr} {H : Hp} {T : String} {d : D} {x : V} (s : Sim K cl S B F φ H) (e : isTy T d S = true) (r : DR K cl F φ d x) : tyV K T x H := by
  cases d with
  | p y =>
    have r : Rp K cl F y x := r
    cases r with
    | str z => exact (beq_iff_eq.mp e)
    | lst q t => exact .inl ⟨beq_iff_eq.mp e, _, SqL.mono s.le q⟩
    | dK q t => exact .inr (.inr (.inl ⟨beq_iff_eq.mp e, .inl ⟨_, s.le _ _ q⟩⟩))
    | dT q t => exact .inr (.inr (.inl ⟨beq_iff_eq.mp e, .inr ⟨_, s.le _ _ q⟩⟩))
    | _ => cases e
  | ref n =>
    unfold isTy at e
    dsimp only at e
    have r : x = .ref (φ n) := r
    subst r
    cases q : S.os[n]? with
    | none => rw [q] at e; cases e
    | some o =>
      rw [q] at e
      have ob := (s.ob n _ q).2
      cases o with
      | lst ds => obtain ⟨vs, ev, _⟩ := ob; exact .inl ⟨beq_iff_eq.mp e, _, .inl (.inl ev)⟩
      | dK ds => obtain ⟨vs, ev, _⟩ := ob; exact .inr (.inr (.inl ⟨beq_iff_eq.mp e, .inl ⟨_, ev⟩⟩))
      | dT ds => obtain ⟨vs, ev, _⟩ := ob; exact .inr (.inr (.inl ⟨beq_iff_eq.mp e, .inr ⟨_, ev⟩⟩))
      | ins _ _ => cases e
def dBM (T : String) (f : MF) (o : ME) (a : MA) : ME := fun σ S => bnd (o σ S) fun d S1 => if isTy T d S1 = true then bnd (a σ S1) fun ds S2 => f (d :: ds) S2 else none
theorem e_bm {T : String} {f : MF} {r : V → List V → Hp → VK → Prop} {mo : ME} {ma : MA} {σ : L2.St} {H : Hp} {Q : VK} (hd : MtD K cl f T r) (q : LE K cl (dBM T f mo ma) σ H Q) : tBM K T r (LE K cl mo) (LA K cl ma) σ H Q := by
  obtain ⟨σd, S, B, F, φ, s, rs, o⟩ := q
  obtain ⟨d, S1, e1, o1⟩ := okE_bnd o
  refine LE.then_ s rs e1 fun F1 φ1 H1 x s1 x1 rs1 dr1 l1 => ?_
  split at o1
  · rename_i ht
    obtain ⟨ds, S2, e2, o2⟩ := okE_bnd o1
    refine ⟨isTy_ok s1 ht dr1, LA.then_ s1 rs1 e2 fun F2 φ2 H2 vs s2 x2 rs2 dr2 l2 => ?_⟩
    exact hd S2 B F2 φ2 H2 d ds x vs Q s2 (x2.dr l1 dr1) (x2.lt l1) dr2 l2 (o2.ext (x1.trans x2))
  · exact o1.no
theorem k_bm {o e : Expr} {es : List Expr} {name : Str} {apos cpos : Pos} {T id : String} {f : MF} {r : V → List V → Hp → VK → Prop} {mo : ME} {ma : MA} (hd : MtD X.K cl f T r) (pa : PlainAttrs T) (slot : Slot T name id) (hty : typeOf (.builtin id) = pure (.type "method_descriptor")) (hm : MtR X id r) (ho : PE X o (LE X.K cl mo)) (ha : PA X (e :: es) (LA X.K cl ma))
    (hbase : attributeBase o name X.env (eval o X.env) = eval o X.env := by rfl)
    (hfew : ((backTo cpos (starEach (e :: es) X.env)).all (fun x => !x.1) && (backToKw cpos (keywordEach [] X.env)).all (fun x => x.1.isSome)
      && decide ((e :: es).length + ([] : List Keyword).length + (if ([] : List Keyword).isEmpty then 0 else 1) < 30)) = true := by rfl)
    (hline : (apos.endLine == cpos.line) = true := by rfl) (hs : starEach (e :: es) X.env = (false, eval e X.env) :: starEach es X.env := by rfl) (hplain : (backTo cpos (starEach es X.env)).any (·.1) = false := by rfl) :
    PE X (.Call (.Attribute o name apos) (e :: es) [] cpos) (LE X.K cl (dBM T f mo ma)) :=
  (pe_bm pa slot hty hm ho ha hbase hfew hline hs hplain).imp fun _ _ _ q => e_bm hd q
theorem k_bm0 {o : Expr} {name : Str} {apos cpos : Pos} {T id : String} {f : MF} {r : V → List V → Hp → VK → Prop} {mo : ME} (hd : MtD X.K cl f T r) (pa : PlainAttrs T) (slot : Slot T name id) (hty : typeOf (.builtin id) = pure (.type "method_descriptor")) (hm : MtR X id r) (ho : PE X o (LE X.K cl mo))
    (hbase : attributeBase o name X.env (eval o X.env) = eval o X.env := by rfl) (hline : (apos.endLine == cpos.line) = true := by rfl) : PE X (.Call (.Attribute o name apos) [] [] cpos) (LE X.K cl (dBM T f mo dNil)) := by
  refine (pe_bm0 pa slot hty hm ho hbase hline).imp fun σ H Q q => ?_
  have z := e_bm hd q
  unfold tBM at z
  obtain ⟨σd, S, B, F, φ, s, rs, d, S1, e, k⟩ := z
  refine ⟨σd, S, B, F, φ, s, rs, d, S1, e, fun F1 φ1 H1 u s1 x1 dr l => ?_⟩
  obtain ⟨h1, h2⟩ := k F1 φ1 H1 u s1 x1 dr l
  obtain ⟨σd', S', B', F', φ', s', rs', d', S1', e', k'⟩ := h2
  cases e'
  exact ⟨h1, k' F' φ' H1 [] s' (.refl s') .nil fun _ z => absurd z (by simp)⟩
/-- xs.append(v) -/
def fApp : MF := fun ds S => match ds with
  | [.ref n, v] => match S.os[n]? with
    | some (.lst xs) => if xs.length < sizeLine ∧ okRef S n v = true then some (.p .non, S.put n (.lst (xs ++ [v]))) else none
    | _ => none
  | _ => none
theorem d_app : MtD K cl fApp "list" rAppend := by
  intro S B F φ H d ds x xs Q s r l rs ls o
  unfold fApp at o
  split at o
  · rename_i n v e0
    split at o
    · rename_i ys q
      split at o
      · rename_i h
        injection e0 with e1 e2
        subst e1 e2
        obtain ⟨y, rfl, ry⟩ := dra1 rs
        obtain ⟨vs, ev, rv⟩ := (s.ob n _ q).2
        have hl := rv.length
        obtain ⟨s2, x2⟩ := putOk (o := .lst (ys ++ [v])) (x := .lst (vs ++ [y])) s q h.2 (ls v List.mem_cons_self) (fun z hz => by
          rcases List.mem_append.mp hz with hz | hz
          · exact .inr hz
          · exact .inl (List.mem_singleton.mp hz)) ⟨_, rfl, DRA.append rv (.cons ry .nil)⟩
        exact ⟨φ n, vs, y, r, rfl, ev, by omega, o.fin rfl s2 x2 .non trivial⟩
      · exact o.no
    · exact o.no
  · exact o.no
/-- xs.extend(ys) of a list or a tuple -/
def fExt : MF := fun ds S => match ds with
  | [.ref n, v] => match S.os[n]?, asQ v S with
    | some (.lst xs), some ys => match toPs ys with
      | some ps => if xs.length + ps.length ≤ sizeLine then some (.p .non, S.put n (.lst (xs ++ ps.map D.p))) else none
      | none => none
    | _, _ => none
  | _ => none
open PySem.AutoSeq1 (wpAny_loadPart') in
open PySem.MeetsSeq PySem.MeetsSeq2 PySem.MeetsSeq3 in
theorem ext_tup (l : Addr) (xs : Array Value) (n : Nat) (b : Addr) (ys : Array Value) (m : Nat) (dd : Option Addr) (sl : Array (Option Value)) (h0 : ¬(!xs.isEmpty && Builtin.List.listTooLong (xs.size + ys.size)) = true) (h1 : xs.size ≤ sizeLine) (h2 : xs.size + ys.size ≤ sizeLine + 1) :
    Meets (Builtin.«list.extend» ⟨[.ref l, .ref b], []⟩) (fun _ R s => s.heap.get? l = some { cls := .type "list", dict := none, data := .seq xs n, slots := #[] } ∧ s.heap.get? b = some { cls := .type "tuple", dict := dd, data := .seq ys m, slots := sl } ∧
      R (.ok (.ret Value.none)) { s with heap := s.heap.update l (Obj.mapSeq fun x => x ++ ys), toks := s.toks }) :=
  .of_wp fun prog w A R s h => by
    obtain ⟨hp, g, d, tk, os⟩ := s; obtain ⟨hl, hb, h⟩ := h
    have e1 := AutoSeq1.sub_tuple_tuple
    have e2 := AutoSeq1.sub_list_list
    have e3 := AutoSeq1.sub_tuple_list
    have e4 := AutoSeq1.sub_list_tuple
    have hz' : (xs ++ ys).size ≤ sizeLine + 1 := by rw [Array.size_append]; exact h2
    wp_walk using (wpAny_updateSeq hl rfl (hz := h1) (_hz' := hz')), wpAny_loadPart' hl, wpAny_loadPart' hb
    exact ⟨_, rfl, h⟩
open PySem.AutoSeq1 (wpAny_loadPart') in
open PySem.MeetsSeq PySem.MeetsSeq2 PySem.MeetsSeq3 in
theorem ext_lst (l : Addr) (xs : Array Value) (n : Nat) (b : Addr) (ys : Array Value) (m : Nat) (dd : Option Addr) (sl : Array (Option Value)) (h0 : ¬(!xs.isEmpty && Builtin.List.listTooLong (xs.size + ys.size)) = true) (h1 : xs.size ≤ sizeLine) (h2 : xs.size + ys.size ≤ sizeLine + 1) :
    Meets (Builtin.«list.extend» ⟨[.ref l, .ref b], []⟩) (fun _ R s => s.heap.get? l = some { cls := .type "list", dict := none, data := .seq xs n, slots := #[] } ∧ s.heap.get? b = some { cls := .type "list", dict := dd, data := .seq ys m, slots := sl } ∧
      R (.ok (.ret Value.none)) { s with heap := s.heap.update l (Obj.mapSeq fun x => x ++ ys), toks := s.toks }) :=
  .of_wp fun prog w A R s h => by
    obtain ⟨hp, g, d, tk, os⟩ := s; obtain ⟨hl, hb, h⟩ := h
    have e1 := AutoSeq1.sub_tuple_tuple
    have e2 := AutoSeq1.sub_list_list
    have e3 := AutoSeq1.sub_tuple_list
    have e4 := AutoSeq1.sub_list_tuple
    have hz' : (xs ++ ys).size ≤ sizeLine + 1 := by rw [Array.size_append]; exact h2
    wp_walk using (wpAny_updateSeq hl rfl (hz := h1) (_hz' := hz')), wpAny_loadPart' hl, wpAny_loadPart' hb
    exact ⟨_, rfl, h⟩
def rExtG (K : PySem.W.Frag) : V → List V → Hp → VK → Prop := fun x vs H Q => ∃ l b xs zs, x = .ref l ∧ vs = [.ref b] ∧ H l = some (.lst xs) ∧ (SqL K H b zs ∨ SqT K H b zs) ∧ xs.length + zs.length ≤ sizeLine ∧ Q .non (upd H l (.lst (xs ++ zs)))
theorem mt_extG : MtM X "list.extend" (rExtG X.K) := by
  intro pins s σ H x vs v us Q I rx rv h
  obtain ⟨l, b, xs, zs, rfl, rfl, hH, hB, hz, q⟩ := h
  cases rx
  obtain ⟨u, rfl, ru⟩ := rv.one
  cases ru
  obtain ⟨z, its, n, r, hl, e⟩ := I.lstM hH
  have l1 := r.length
  have fin : ∀ its2 : List Value, Vals zs its2 → EP X pins σ Q .none { s with heap := s.heap.update l (Obj.mapSeq fun x => x ++ its2.toArray), toks := s.toks } := fun its2 r2 => by
    refine ⟨.non, _, I.lset (its' := its ++ its2) hH e (by simp) (r.append r2) ?_, rfl, q⟩
    rw [List.length_append]
    omega
  have small : ∀ its2 : List Value, Vals zs its2 → its.toArray.size + its2.toArray.size ≤ sizeLine := fun its2 r2 => by
    have l2 := r2.length
    rw [List.size_toArray, List.size_toArray]; omega
  have long : ∀ its2 : List Value, Vals zs its2 → ¬ (!its.toArray.isEmpty && Builtin.List.listTooLong (its.toArray.size + its2.toArray.size)) = true := fun its2 r2 => by
    rw [notLongL (small its2 r2), Bool.and_false]
    exact Bool.false_ne_true
  rcases hB with hB | hB
  · obtain ⟨its2, r2, ⟨⟨_, dd, _, sl⟩, m, e2, c2, d2, t2⟩, _⟩ := I.list hB
    simp only at c2 d2 t2
    subst c2 d2 t2
    have sm := small its2 r2
    exact call_meets F.slot_list_extend ⟨_, e, rfl⟩ F.entry_list_extend (F.args_list_extend_2 _ _)
      (ext_lst l its.toArray n b its2.toArray m _ sl (long its2 r2) (by rw [List.size_toArray]; omega) (by omega)) ⟨e, e2, fin its2 r2⟩
  · obtain ⟨its2, r2, pT, _⟩ := I.tuple hB
    obtain ⟨⟨_, dd, _, sl⟩, e2, hc, m, hd⟩ := pT
    simp only at hc hd
    subst hc hd
    have sm := small its2 r2
    exact call_meets F.slot_list_extend ⟨_, e, rfl⟩ F.entry_list_extend (F.args_list_extend_2 _ _)
      (ext_tup l its.toArray n b its2.toArray m dd sl (long its2 r2) (by rw [List.size_toArray]; omega) (by omega)) ⟨e, e2, fin its2 r2⟩
theorem d_ext : MtD K cl fExt "list" (rExtG K) := by
  intro S B F φ H d ds x xs Q s r l rs ls o
  unfold fExt at o
  split at o
  · rename_i n v e0
    split at o
    · rename_i ys zs q e1
      split at o
      · rename_i ps ep
        split at o
        · rename_i hz
          injection e0 with e2 e3
          subst e2 e3
          obtain ⟨y, rfl, ry⟩ := dra1 rs
          obtain ⟨a, ws, rfl, qw, tw, mw⟩ := asQ_ok s e1 ry (ls v List.mem_cons_self)
          obtain ⟨vs, ev, rv⟩ := (s.ob n _ q).2
          have hzs := toPs_of ep
          subst hzs
          have hl := rv.length
          have hl2 := tw.length
          rw [List.length_map] at hl2
          obtain ⟨s2, x2⟩ := putGen (o := .lst (ys ++ ps.map D.p)) (x := .lst (vs ++ ws)) s q (fun z hz => by
            rcases List.mem_append.mp hz with hz | hz
            · exact .inr (.inl hz)
            · exact .inl fun k => lt_map z hz) ⟨_, rfl, DRA.append rv tw⟩
          exact ⟨φ n, a, vs, ws, r, rfl, ev, qw, by omega, o.fin rfl s2 x2 .non trivial⟩
        · exact o.no
      · exact o.no
    · exact o.no
  · exact o.no
end
end Pv
namespace Pv
open PySem PySem.Spec PyProof.Rows L2
section
variable {X : Cx} {K : PySem.W.Frag} {cl : Nat → Addr}
/-! ### isinstance of built-in types -/
def tyName (d : D) (S : SH) : Option String := match d with
  | .p .non => some "NoneType"
  | .p (.bl _) => some "bool"
  | .p (.int _) => some "int"
  | .p (.str _) => some "str"
  | .p (.tup _) => some "tuple"
  | .p (.lst _) => some "list"
  | .p (.dK _) => some "dict"
  | .p (.dT _) => some "dict"
  | .p (.ins _ _) => none
  | .ref n => match S.os[n]? with
    | some (.lst _) => some "list"
    | some (.dK _) => some "dict"
    | some (.dT _) => some "dict"
    | _ => none
def isSub (a b : String) : Bool := a == b || (a == "bool" && b == "int")
def tyOk (b : String) : Bool := ["bool", "int", "str", "tuple", "list", "dict"].contains b
theorem kit_tab : ∀ a ∈ ["NoneType", "bool", "int", "str", "tuple", "list", "dict"], ∀ b ∈ ["bool", "int", "str", "tuple", "list", "dict"], kitB a b = some (isSub a b) := by decide +kernel
theorem tyName_mem {d : D} {S : SH} {t : String} (h : tyName d S = some t) : t ∈ ["NoneType", "bool", "int", "str", "tuple", "list", "dict"] := by
  unfold tyName at h
  split at h <;> first | (cases h; decide) | (cases h; done) | skip
  split at h <;> first | (cases h; decide) | (cases h; done)
theorem tyName_ok {S : SH} {B : List Nat} {F : Hp} {φ : Nat → Addr} {H : Hp} {d : D} {x : V} {t : String} (s : Sim K cl S B F φ H) (h : tyName d S = some t) (r : DR K cl F φ d x) : TyX K H x (.type t) := by
  cases d with
  | p y =>
    have r : Rp K cl F y x := r
    cases r with
    | non => cases h; exact .base .non
    | bl b => cases h; exact .base (.bl b)
    | int i => cases h; exact .base (.int i)
    | str z => cases h; exact .base (.str z)
    | tup q t =>
      cases h
      rcases SqT.mono s.le q with (q | ⟨o, q⟩) | ⟨o, its, n, hk, hc, _⟩
      · exact .base (.tup q)
      · exact .fTuple q
      · exact .kTuple hk hc
    | lst q t =>
      cases h
      rcases SqL.mono s.le q with (q | ⟨o, q⟩) | ⟨o, its, n, hk, hc, _⟩
      · exact .base (.lst q)
      · exact .base (.frz q)
      · exact .kList hk hc
    | dK q t => cases h; exact .base (.dK (s.le _ _ q))
    | dT q t => cases h; exact .base (.dT (s.le _ _ q))
    | ins q t => cases h
  | ref n =>
    have r : x = .ref (φ n) := r
    subst r
    unfold tyName at h
    dsimp only at h
    cases q : S.os[n]? with
    | none => rw [q] at h; cases h
    | some o =>
      rw [q] at h
      have ob := (s.ob n _ q).2
      cases o with
      | lst ds => cases h; obtain ⟨vs, ev, _⟩ := ob; exact .base (.lst ev)
      | dK ds => cases h; obtain ⟨vs, ev, _⟩ := ob; exact .base (.dK ev)
      | dT ds => cases h; obtain ⟨vs, ev, _⟩ := ob; exact .base (.dT ev)
      | ins _ _ => cases h
def fIsi (bs : List String) (d : D) (S : SH) : Option (D × SH) := match tyName d S with
  | some t => if bs.all tyOk = true then some (.p (.bl (bs.any (isSub t))), S) else none
  | none => none
theorem k_isi {e : Expr} {me : ME} {T : Str} {Tn : String} {p p2 pos : Pos} (he : PE X e (LE X.K cl me)) (hg : Gl X "isinstance") (hm : X.mg "isinstance" = none) (hT : Gl X T) (hmT : X.mg T = none) (hvT : bootBuiltins T = some (.type Tn)) (hn : T ≠ "__name__" := by decide) (hd : (T == ("__debug__" : Str)) = false := by decide)
    (h1 : starEach [e, .Name T p2] X.env = (false, eval e X.env) :: starEach [.Name T p2] X.env := by rfl) (h2 : starEach [Expr.Name T p2] X.env = (false, eval (.Name T p2) X.env) :: starEach [] X.env := by rfl) (hpl : (backTo pos (starEach [Expr.Name T p2] X.env)).any (·.1) = false := by rfl) :
    PE X (.Call (.Name "isinstance" p) [e, .Name T p2] [] pos) (LE X.K cl (dUn (fIsi [Tn]) me)) := by
  refine (pe_callB call_isi hg hm (by decide +kernel : bootBuiltins "isinstance" = some (.builtin "isinstance")) (pa_cons he (pa_cons (pe_bltn hT hmT hvT (show RelV (.ty Tn) _ from rfl) hn hd) pa_nil h2) h1) (by decide) (by decide) h1 hpl).imp fun σ H Q q => ?_
  obtain ⟨σd, S, B, F, φ, s, rs, o⟩ := q
  obtain ⟨d, S1, e1, o1⟩ := okE_bnd o
  refine LE.then_ s rs e1 fun F1 φ1 H1 x s1 x1 rs1 dr1 l1 => ?_
  have o1 := o1.ext x1
  unfold fIsi at o1
  split at o1
  · rename_i t ht
    split at o1
    · rename_i hb
      have hb1 : tyOk Tn = true := by simpa using hb
      refine ⟨x, .ty Tn, _, _, isSub t Tn, rfl, .ty Tn, tyName_ok s1 ht dr1, kit_ty (kit_tab t (tyName_mem ht) Tn (by simpa [tyOk] using hb1)), ?_⟩
      have := o1.fin0 rfl s1 (Rp.bl _) trivial
      simpa using this
    · exact o1.no
  · exact o1.no
theorem k_isi2 {e : Expr} {me : ME} {T U : Str} {Tn Un : String} {p p2 p3 p4 pos : Pos} {kk : Nat} (he : PE X e (LE X.K cl me)) (hg : Gl X "isinstance") (hm : X.mg "isinstance" = none) (hT : Gl X T) (hmT : X.mg T = none) (hvT : bootBuiltins T = some (.type Tn)) (hU : Gl X U) (hmU : X.mg U = none) (hvU : bootBuiltins U = some (.type Un))
    (hn : T ≠ "__name__" := by decide) (hd : (T == ("__debug__" : Str)) = false := by decide) (hnU : U ≠ "__name__" := by decide) (hdU : (U == ("__debug__" : Str)) = false := by decide)
    (h1 : starEach [e, .Tuple [.Name T p2, .Name U p3] kk p4] X.env = (false, eval e X.env) :: starEach [.Tuple [.Name T p2, .Name U p3] kk p4] X.env := by rfl) (h2 : starEach [Expr.Tuple [.Name T p2, .Name U p3] kk p4] X.env = (false, eval (.Tuple [.Name T p2, .Name U p3] kk p4) X.env) :: starEach [] X.env := by rfl)
    (h3 : starEach [Expr.Name T p2, .Name U p3] X.env = (false, eval (.Name T p2) X.env) :: starEach [.Name U p3] X.env := by rfl) (h4 : starEach [Expr.Name U p3] X.env = (false, eval (.Name U p3) X.env) :: starEach [] X.env := by rfl) (hpl : (backTo pos (starEach [Expr.Tuple [.Name T p2, .Name U p3] kk p4] X.env)).any (·.1) = false := by rfl) :
    PE X (.Call (.Name "isinstance" p) [e, .Tuple [.Name T p2, .Name U p3] kk p4] [] pos) (LE X.K cl (dUn (fIsi [Tn, Un]) me)) := by
  refine (pe_callB call_isiT hg hm (by decide +kernel : bootBuiltins "isinstance" = some (.builtin "isinstance")) (pa_cons he (pa_cons (pe_tup (pa_cons (pe_bltn hT hmT hvT (show RelV (.ty Tn) _ from rfl) hn hd) (pa_cons (pe_bltn hU hmU hvU (show RelV (.ty Un) _ from rfl) hnU hdU) pa_nil h4) h3)) pa_nil h2) h1) (by decide) (by decide) h1 hpl).imp fun σ H Q q => ?_
  obtain ⟨σd, S, B, F, φ, s, rs, o⟩ := q
  obtain ⟨d, S1, e1, o1⟩ := okE_bnd o
  refine LE.then_ s rs e1 fun F1 φ1 H1 x s1 x1 rs1 dr1 l1 => ?_
  refine ⟨by show 2 ≤ sizeLine; decide, fun tp htp => ?_⟩
  have o1 := o1.ext x1
  unfold fIsi at o1
  split at o1
  · rename_i t ht
    split at o1
    · rename_i hb
      obtain ⟨hb1, hb2⟩ : tyOk Tn = true ∧ tyOk Un = true := by simpa using hb
      have sm : Same H1 (upd H1 tp (.tup [.ty Tn, .ty Un])) := Same.new (Same.refl _) htp
      have s2 := s1.keep sm
      have fin := o1.fin rfl s2 (Ext.ofSame s1 sm) (Rp.bl _) trivial
      have k1 := kit_tab t (tyName_mem ht) Tn (by simpa [tyOk] using hb1)
      have k2 := kit_tab t (tyName_mem ht) Un (by simpa [tyOk] using hb2)
      refine ⟨x, tp, [.ty Tn, .ty Un], _, [.type Tn, .type Un], isSub t Tn || isSub t Un, rfl, upd_same, .cons (.ty Tn) (.cons (.ty Un) .nil), tyName_ok s2 ht dr1, ?_, by simpa using fin⟩
      refine kitAny_cons (kit_ty k1) (fun h => ?_) (fun h => by rw [h, Bool.true_or])
      rw [h, Bool.false_or]
      exact kitAny_cons (kit_ty k2) (fun h => by rw [h]; exact kitAny_nil) (fun h => h)
    · exact o1.no
  · exact o1.no
/-! ### a module's constant -/
theorem k_glob {x : Str} {v : V} {u : Value} {q : P} {pos : Pos} (hg : Gl X x) (hm : X.mg x = some u) (r : RelV v u) (hq : ∀ F, Rp X.K cl F q v) (hd : (x == ("__debug__" : Str)) = false := by decide) : PE X (.Name x pos) (LE X.K cl (dC q)) :=
  (pe_glob hg hm r hd).imp fun _ _ _ h => e_c h hq
/-! ### truth -/
def truD (d : D) (S : SH) : Option (Bool × SH) := match d with
  | .p .non => some (false, S)
  | .p (.bl b) => some (b, S)
  | .p (.int i) => some (i != 0, S)
  | .p (.str z) => if z.length ≤ sizeLine then some ((z.length : Int) != 0, S) else none
  | d => match asQ d S with | some xs => some (!xs.isEmpty, S) | none => none
def dTru (a : ME) : MT := fun σ S => bnd (a σ S) truD
theorem truD_ok {S S1 : SH} {B : List Nat} {F : Hp} {φ : Nat → Addr} {H : Hp} {d : D} {x : V} {b : Bool} (s : Sim K cl S B F φ H) (e : truD d S = some (b, S1)) (r : DR K cl F φ d x) (l : d.lt S.len) : S1 = S ∧ TruV K x H b := by
  unfold truD at e
  split at e
  · cases e; exact ⟨rfl, by rw [drN r]; rfl⟩
  · cases e; exact ⟨rfl, by rw [drB r]; rfl⟩
  · cases e; exact ⟨rfl, by rw [drI r]; rfl⟩
  · split at e
    · rename_i z hz
      cases e
      exact ⟨rfl, by rw [drS r]; exact ⟨hz, rfl⟩⟩
    · cases e
  · split at e
    · rename_i xs h
      cases e
      obtain ⟨a, vs, rfl, q, t, m⟩ := asQ_ok s h r l
      refine ⟨rfl, ?_⟩
      have he : xs.isEmpty = vs.isEmpty := by cases t <;> rfl
      rcases q with q | q
      · exact .inl ⟨vs, q, by rw [he]⟩
      · exact .inr (.inl ⟨vs, q, by rw [he]⟩)
    · cases e
theorem t_tru {a : Expr} {ma : ME} (ha : PE X a (LE X.K cl ma)) (he : ∀ whole, isTrue a X.env whole = (do let v ← whole; standAt a.pos; holding [v] (truthy v)) := by intro _; rfl) : PT X a (LT X.K cl (dTru ma)) := by
  refine (pt_truth ha he).imp fun σ H Q q => ?_
  obtain ⟨σd, S, B, F, φ, s, rs, o⟩ := q
  obtain ⟨d, S1, e1, b, S2, e2, k⟩ := okT_bnd o
  refine LE.then_ s rs e1 fun F1 φ1 H1 x s1 x1 rs1 dr1 l1 => ?_
  obtain ⟨rfl, h⟩ := truD_ok s1 e2 dr1 l1
  exact ⟨b, h, k F1 φ1 H1 s1 x1⟩
/-- x or y, x and y by truth -/
def dOrT (a b : ME) : ME := fun σ S => bnd (a σ S) fun d S1 => bnd (truD d S1) fun t S2 => if t = true then some (d, S2) else b σ S2
def dAndT (a b : ME) : ME := fun σ S => bnd (a σ S) fun d S1 => bnd (truD d S1) fun t S2 => if t = true then b σ S2 else some (d, S2)
theorem k_orT {a b : Expr} {rest : List Expr} {ma mb : ME} {pos : Pos} (ha : PE X a (LE X.K cl ma)) (hb : PE X (.BoolOp .Or (b :: rest) pos) (LE X.K cl mb)) : PE X (.BoolOp .Or (a :: b :: rest) pos) (LE X.K cl (dOrT ma mb)) := by
  refine (pe_orT ha hb).imp fun σ H Q q => ?_
  obtain ⟨σd, S, B, F, φ, s, rs, o⟩ := q
  obtain ⟨d, S1, e1, o1⟩ := okE_bnd o
  obtain ⟨t, S2, e2, o2⟩ := okE_bnd o1
  refine LE.then_ s rs e1 fun F1 φ1 H1 x s1 x1 rs1 dr1 l1 => ?_
  obtain ⟨rfl, h⟩ := truD_ok s1 e2 dr1 l1
  refine ⟨t, h, ?_⟩
  split
  · rename_i ht; rw [if_pos ht] at o2; exact o2.fin rfl s1 x1 dr1 l1
  · rename_i ht; rw [if_neg ht] at o2; exact ⟨σd, S2, B, F1, φ1, s1, rs1, o2.ext x1⟩
theorem k_andT {a b : Expr} {rest : List Expr} {ma mb : ME} {pos : Pos} (ha : PE X a (LE X.K cl ma)) (hb : PE X (.BoolOp .And (b :: rest) pos) (LE X.K cl mb)) : PE X (.BoolOp .And (a :: b :: rest) pos) (LE X.K cl (dAndT ma mb)) := by
  refine (pe_andT ha hb).imp fun σ H Q q => ?_
  obtain ⟨σd, S, B, F, φ, s, rs, o⟩ := q
  obtain ⟨d, S1, e1, o1⟩ := okE_bnd o
  obtain ⟨t, S2, e2, o2⟩ := okE_bnd o1
  refine LE.then_ s rs e1 fun F1 φ1 H1 x s1 x1 rs1 dr1 l1 => ?_
  obtain ⟨rfl, h⟩ := truD_ok s1 e2 dr1 l1
  refine ⟨t, h, ?_⟩
  split
  · rename_i ht; rw [if_pos ht] at o2; exact ⟨σd, S2, B, F1, φ1, s1, rs1, o2.ext x1⟩
  · rename_i ht; rw [if_neg ht] at o2; exact o2.fin rfl s1 x1 dr1 l1
/-! ### chains of comparisons -/
def dChain (f g : D → D → SH → Option (D × SH)) (a b c : ME) : ME := fun σ S => bnd (a σ S) fun x S1 => bnd (b σ S1) fun y S2 => bnd (f x y S2) fun z S3 => bnd (toB z S3) fun t S4 => if t = true then bnd (c σ S4) fun w S5 => g y w S5 else some (.p (.bl false), S4)
theorem e_chain {f g : D → D → SH → Option (D × SH)} {r r' : R2} {ma mb mc : ME} {σ : L2.St} {H : Hp} {Q : VK} (h1 : OpD K cl f r) (h2 : OpD K cl g r') (q : LE K cl (dChain f g ma mb mc) σ H Q) :
    tChain r r' (LE K cl ma) (LE K cl mb) (LE K cl mc) σ H Q := by
  obtain ⟨σd, S, B, F, φ, s, rs, o⟩ := q
  obtain ⟨d1, S1, e1, o1⟩ := okE_bnd o
  obtain ⟨d2, S2, e2, o2⟩ := okE_bnd o1
  obtain ⟨d3, S3, e3, o3⟩ := okE_bnd o2
  obtain ⟨t, S4, e4, o4⟩ := okE_bnd o3
  obtain ⟨ed, es⟩ := toB_of e4
  subst ed es
  refine LE.then_ s rs e1 fun F1 φ1 H1 x s1 x1 rs1 dr1 l1 => LE.then_ s1 rs1 e2 fun F2 φ2 H2 y s2 x2 rs2 dr2 l2 => ?_
  refine h1 S2 B F2 φ2 H2 d1 d2 x y _ s2 (x2.dr l1 dr1) dr2 (x2.lt l1) l2 ⟨_, _, e3, fun F3 φ3 H3 z s3 x3 dr3 l3 => ⟨t, drB dr3, ?_⟩⟩
  have x123 := (x1.trans x2).trans x3
  split
  · rename_i ht; rw [if_pos ht] at o4
    obtain ⟨d5, S5, e5, o5⟩ := okE_bnd (o4.ext x123)
    refine LE.then_ s3 (x3.rs rs2) e5 fun F5 φ5 H5 w s5 x5 rs5 dr5 l5 => ?_
    have x35 := x3.trans x5
    exact h2 S5 B F5 φ5 H5 d2 d5 y w Q s5 (x35.dr l2 dr2) dr5 (x35.lt l2) l5 (o5.ext x5)
  · rename_i ht; rw [if_neg ht] at o4
    exact o4.fin rfl s3 x123 (Rp.bl _) trivial
theorem k_chain {op op' : CmpOp} {r r' : R2} {f g : D → D → SH → Option (D × SH)} {a b c : Expr} {ma mb mc : ME} {pos : Pos} (h1 : OpD X.K cl f r) (h2 : OpD X.K cl g r') (ho : OpR X (compareOp op) r) (ho' : OpR X (compareOp op') r') (ha : PE X a (LE X.K cl ma)) (hb : PE X b (LE X.K cl mb)) (hc : PE X c (LE X.K cl mc))
    (hm : lastMarks [op, op'] [b, c] = false := by with_unfolding_all rfl) : PE X (.Compare a [op, op'] [b, c] pos) (LE X.K cl (dChain f g ma mb mc)) :=
  (pe_chain ho ho' ha hb hc hm).imp fun _ _ _ q => e_chain h1 h2 q
theorem t_chain {op op' : CmpOp} {r r' : R2} {f g : D → D → SH → Option (D × SH)} {a b c : Expr} {ma mb mc : ME} {pos : Pos} (h1 : OpD X.K cl f r) (h2 : OpD X.K cl g r') (ho : OpR X (compareOp op) r) (ho' : OpR X (compareOp op') r') (ha : PE X a (LE X.K cl ma)) (hb : PE X b (LE X.K cl mb)) (hc : PE X c (LE X.K cl mc))
    (hm : lastMarks [op, op'] [b, c] = false := by with_unfolding_all rfl) : PT X (.Compare a [op, op'] [b, c] pos) (LT X.K cl (dTest (dChain f g ma mb mc))) :=
  (pt_chain ho ho' ha hb hc hm).imp fun _ _ _ q => e_chain h1 h2 (e_test q)
/-! ### name op= e, o[i] op= e -/
def dAug (i : Nat) (f : D → D → SH → Option (D × SH)) (e : ME) : MS := fun σ S => match σ[i]? with
  | some (some d) => bnd (e σ S) fun y S1 => bnd (f d y S1) fun z S2 => some (.nx (σ.set i (some z)), S2)
  | _ => none
theorem PIp.of {op : Operator} {r : R2} (h : OpR X (inplaceOp op) r) : PIp X op r := fun pins s σ H x y v u Q I rx ry q => h pins s σ H x y v u Q I rx ry q
theorem s_aug {i : Nat} {x : Str} {e : Expr} {me : ME} {op : Operator} {f : D → D → SH → Option (D × SH)} {r : R2} {pos pos' : Pos} (hd : OpD X.K cl f r) (ho : OpR X (inplaceOp op) r) (hN : X.N.Nodup) (hi : X.N[i]? = some x) (hx : Loc X.env.scope x) (he : PE X e (LE X.K cl me)) (hf : X.fn x = true ∨ X.env.scope.names.lookup x = some .local := by first | exact .inl rfl | exact .inr rfl | assumption) :
    PS X (.AugAssign (.Name x pos') op e pos) (LS X.K cl (dAug i f me)) := by
  refine (ps_aug hN hi hx he (PIp.of ho) hf).imp fun Z σ H q => ?_
  obtain ⟨σd, S, B, F, φ, s, rs, o⟩ := q
  unfold dAug at o
  split at o
  · rename_i d hd'
    obtain ⟨y, S1, e1, o1⟩ := okS_bnd o
    obtain ⟨z, S2, e2, o2⟩ := okS_bnd o1
    obtain ⟨_, _, ez, k⟩ := o2
    cases ez
    obtain ⟨l, v, hv, dr⟩ := rs.2 i d hd'
    refine ⟨v, hv, LE.then_ s rs e1 fun F1 φ1 H1 u s1 x1 rs1 dr1 l1 => ?_⟩
    exact hd S1 B F1 φ1 H1 d y v u _ s1 (x1.dr l dr) dr1 (x1.lt l) l1 ⟨z, S2, e2, fun F2 φ2 H2 w s2 x2 dr2 l2 => k F2 φ2 H2 _ s2 (x1.trans x2) ((x2.rs rs1).set i dr2 l2)⟩
  · obtain ⟨_, _, z, _⟩ := o; cases z
theorem i_add {live : Bool} : True := trivial
def ixL (o i : D) (S : SH) : Option D := match o, i with
  | .ref n, .p (.int k) => (match S.os[n]? with | some (.lst ds) => atI ds k | _ => none)
  | _, _ => none
theorem ixL_ok {S : SH} {B : List Nat} {F : Hp} {φ : Nat → Addr} {H : Hp} {o i d : D} {x y : V} (s : Sim K cl S B F φ H) (e : ixL o i S = some d) (r1 : DR K cl F φ o x) (r2 : DR K cl F φ i y) : ∃ a vs k v, x = .ref a ∧ y = .int k ∧ SqL K H a vs ∧ atI vs k = some v ∧ DR K cl F φ d v ∧ d.lt S.len := by
  unfold ixL at e
  split at e
  · rename_i n k
    split at e
    · rename_i ds q
      obtain ⟨vs, ev, rv⟩ := (s.ob n _ q).2
      obtain ⟨v, hv, rv', hm⟩ := atI_dra rv e
      exact ⟨φ n, vs, k, v, r1, drI r2, .inl (.inl ev), hv, rv', s.wf n _ q d hm⟩
    · cases e
  · cases e
def dAugS (o i e : ME) (f : D → D → SH → Option (D × SH)) : MS := fun σ S => bnd (o σ S) fun x S1 => bnd (i σ S1) fun y S2 => match ixL x y S2 with
  | some old => bnd (e σ S2) fun v S4 => bnd (f old v S4) fun z S5 => match setIx x y z S5 with | some S6 => some (.nx σ, S6) | none => none
  | none => none
theorem get_seqL : PGet X (rIxL X.K) := by
  intro pins s σ H x y v u Q I rx ry h
  obtain ⟨p, xs, i, z, rfl, rfl, hq, he, q⟩ := h
  cases rx
  obtain ⟨t, rfl⟩ := ry
  obtain ⟨its, r, pl, hz⟩ := I.list hq
  obtain ⟨j, h1, h2, h3, h4, h5⟩ := atI_get he
  obtain ⟨w, ew, rw'⟩ := r.get h2
  have hl := r.length
  have hn := line63
  have fin : EP X pins σ Q w s := ⟨z, H, I, rw', q⟩
  by_cases h0 : 0 ≤ i
  · have hj : i.toNat = j := by
      rw [seqIndex_of h0 h5] at h1
      exact Option.some.inj h1
    exact getItem_listL pl.isList h0 (by omega) (by rw [hj]; exact ew) fin
  · have hj : (i + (its.toArray.size : Int)).toNat = j := by
      rw [seqIndex_neg (by omega) h4] at h1
      rw [List.size_toArray, ← hl]
      exact Option.some.inj h1
    exact wpAny_getItem_list_neg pl.isList (by omega) (by rw [List.size_toArray] <;> omega) (by omega) (by rw [hj]; simpa using ew) fin
theorem s_augS {o i e : Expr} {mo mi me : ME} {op : Operator} {f : D → D → SH → Option (D × SH)} {r : R2} {pos tpos : Pos} (hd : OpD X.K cl f r) (hop : OpR X (inplaceOp op) r) (ho : PE X o (LE X.K cl mo)) (hi : PE X i (LE X.K cl mi)) (he : PE X e (LE X.K cl me))
    (ha : ∀ ov iv new, augStore i ov iv new = (do holding [new, ov, iv] (setItem ov iv new); release [new, ov, iv] []; pure .next) := by intros; rfl) : PS X (.AugAssign (.Subscript o i tpos) op e pos) (LS X.K cl (dAugS mo mi me f)) := by
  refine (ps_augS ho hi get_seqL he (PIp.of hop) set_list ha).imp fun Z σ H q => ?_
  obtain ⟨σd, S, B, F, φ, s, rs, o0⟩ := q
  obtain ⟨x, S1, e1, o1⟩ := okS_bnd o0
  obtain ⟨y, S2, e2, o2⟩ := okS_bnd o1
  split at o2
  · rename_i old e3
    obtain ⟨v, S4, e4, o4⟩ := okS_bnd o2
    obtain ⟨z, S5, e5, o5⟩ := okS_bnd o4
    refine LE.then_ s rs e1 fun F1 φ1 H1 u s1 x1 rs1 dr1 l1 => LE.then_ s1 rs1 e2 fun F2 φ2 H2 w s2 x2 rs2 dr2 l2 => ?_
    cases e6 : setIx x y z S5 with
    | none => rw [e6] at o5; obtain ⟨_, _, z, _⟩ := o5; cases z
    | some S6 =>
      rw [e6] at o5
      obtain ⟨_, _, ez, k⟩ := o5
      cases ez
      obtain ⟨a, vs, i0, v0, eu, ew, q, hv0, rv0, l0⟩ := ixL_ok s2 e3 (x2.dr l1 dr1) dr2
      refine ⟨a, vs, i0, v0, eu, ew, q, hv0, ?_⟩
      refine LE.then_ s2 rs2 e4 fun F4 φ4 H4 y' s4 x4 rs4 dr4 l4 => ?_
      refine hd S4 B F4 φ4 H4 old v v0 y' _ s4 (x4.dr l0 rv0) dr4 (x4.lt l0) l4 ⟨z, S5, e5, fun F5 φ5 H5 z' s5 x5 dr5 l5 => ?_⟩
      have x45 := x4.trans x5
      obtain ⟨p, xs, k0, j, h1, h2, h3, h4, s6, x6⟩ := setIx_ok e6 s5 ((x2.trans x45).dr l1 dr1) (x45.dr l2 dr2) dr5 l5
      exact ⟨p, xs, k0, j, h1, h2, h3, h4, k _ _ _ σ s6 (((x1.trans x2).trans x45).trans x6) ((x5.trans x6).rs rs4)⟩
  · obtain ⟨_, _, z, _⟩ := o2; cases z
/-! ### the in-place operators -/
theorem iop_mulG : OpR X (inplaceOp .Mult) (rI (fun i j => CMul i j ∨ CMulW i j) fun i j => .int (i * j)) := opI fun i j _ _ _ _ _ hc q => imul_int q (hc.elim (fun h => h.ok) fun h => h.ok)
theorem iop_fdivW : OpR X (inplaceOp .FloorDiv) (rI CDivW fun i j => .int (i / j)) := opI fun i j _ _ _ _ _ hc q => by
  have h1 : (0 : Int) < j := hc.1
  exact ifloordiv_int (by omega) (by rw [Int.fdiv_eq_ediv_of_nonneg i (by omega)]; exact q) (.inl (PyProof.noPylong_of_log2 hc.2))
/-- int += int, text += text (a list's += changes the list: not here) -/
def fAug (d e : D) (S : SH) : Option (D × SH) := match d, e with
  | .p (.int i), .p (.int j) => some (.p (.int (i + j)), S)
  | .p (.str a), .p (.str b) => if a.length + b.length ≤ sizeLine then some (.p (.str (a ++ b)), S) else none
  | _, _ => none
def rAugG : R2 := fun x y H Q => rI0 (fun i j => .int (i + j)) x y H Q ∨ (∃ i j, x = .str i ∧ y = .str j ∧ i.length + j.length ≤ sizeLine ∧ Q (.str (i ++ j)) H)
theorem io_add : OpR X (inplaceOp .Add) rAugG := iop_add.or iop_add_str
theorem d_aug : OpD K cl fAug rAugG := by
  intro S B F φ H d1 d2 x y Q s r1 r2 l1 l2 o
  unfold fAug at o
  split at o
  · exact .inl ⟨_, _, drI r1, drI r2, o.fin0 rfl s (Rp.int _) trivial⟩
  · split at o
    · rename_i h
      exact .inr ⟨_, _, drS r1, drS r2, h, o.fin0 rfl s (Rp.str _) trivial⟩
    · exact o.no
  · exact o.no
/-! ### signs -/
def fOrd : MF := fun ds S => match ds with
  | [.p (.str z)] => if z.length = 1 then some (.p (.int (z.cps.getD 0 0 : Nat)), S) else none
  | _ => none
def rOrdG : List V → Hp → VK → Prop := fun xs H Q => ∃ x, xs = [.str x] ∧ x.length = 1 ∧ Q (.int (x.cps.getD 0 0 : Nat)) H
theorem c_ord : CallR X (.builtin "ord") rOrdG := call_ord
theorem d_ord : CallD K cl fOrd rOrdG := by
  intro S B F φ H ds xs Q s r l o
  unfold fOrd at o
  split at o
  · split at o
    · rename_i z h
      obtain ⟨x, rfl, rx⟩ := dra1 r
      exact ⟨z, by rw [drS rx], h, o.fin0 rfl s (Rp.int _) trivial⟩
    · exact o.no
  · exact o.no
def fChr : MF := fun ds S => match ds with
  | [.p (.int i)] => if 0 ≤ i ∧ i ≤ 1114111 then some (.p (.str ⟨#[i.toNat]⟩), S) else none
  | _ => none
def rChrG : List V → Hp → VK → Prop := fun xs H Q => ∃ i, xs = [.int i] ∧ 0 ≤ i ∧ i ≤ 1114111 ∧ Q (.str ⟨#[i.toNat]⟩) H
theorem c_chr : CallR X (.builtin "chr") rChrG := call_chr
theorem d_chr : CallD K cl fChr rChrG := by
  intro S B F φ H ds xs Q s r l o
  unfold fChr at o
  split at o
  · split at o
    · rename_i i h
      obtain ⟨x, rfl, rx⟩ := dra1 r
      exact ⟨i, by rw [drI rx], h.1, h.2, o.fin0 rfl s (Rp.str _) trivial⟩
    · exact o.no
  · exact o.no
/-- one sign in a text -/
def fInS (neg : Bool) (d e : D) (S : SH) : Option (D × SH) := match d, e with
  | .p (.str y), .p (.str z) => if y.cps.size = 1 then some (.p (.bl (if neg = true then !decide (y.cps.getD 0 0 ∈ z.cps.toList) else decide (y.cps.getD 0 0 ∈ z.cps.toList))), S) else none
  | _, _ => none
def rInSG (neg : Bool) : R2 := fun x y H Q => ∃ (c : Nat) (z : Str), x = .str ⟨#[c]⟩ ∧ y = .str z ∧ Q (.bl (if neg = true then !decide (c ∈ z.cps.toList) else decide (c ∈ z.cps.toList))) H
theorem o_inS : OpR X (compareOp .In) (rInSG false) := by
  intro pins s σ H x y v u Q I rx ry h
  obtain ⟨c, z, h1, h2, q⟩ := h
  exact op_in_sign pins s σ H x y v u Q I rx ry ⟨c, z, h1, h2, by simpa using q⟩
theorem o_notinS : OpR X (compareOp .NotIn) (rInSG true) := by
  intro pins s σ H x y v u Q I rx ry h
  obtain ⟨c, z, h1, h2, q⟩ := h
  exact op_notIn_sign pins s σ H x y v u Q I rx ry ⟨c, z, h1, h2, by simpa using q⟩
theorem d_inS {neg : Bool} : OpD K cl (fInS neg) (rInSG neg) := by
  intro S B F φ H d1 d2 x y Q s r1 r2 l1 l2 o
  unfold fInS at o
  split at o
  · rename_i w z
    split at o
    · rename_i hs
      refine ⟨w.cps.getD 0 0, z, ?_, drS r2, o.fin0 rfl s (Rp.bl _) trivial⟩
      rw [drS r1]
      obtain ⟨cs⟩ := w
      have hs : cs.size = 1 := hs
      congr 2
      apply Array.ext
      · simpa using hs
      · intro i h1 h2
        have : i = 0 := by simp at h2; omega
        subst this
        simp [Array.getD, hs]
    · exact o.no
  · exact o.no
/-- sep.join(texts) -/
def strsOf : List D → Option (List Str)
  | [] => some []
  | .p (.str i) :: r => (strsOf r).map (i :: ·)
  | _ => none
@[simp] theorem strsOf_map (ns : List Str) : strsOf (ns.map fun n => D.p (.str n)) = some ns := by
  induction ns with
  | nil => rfl
  | cons x r ih => simp [strsOf, ih]
theorem strsOf_of : ∀ {ds : List D} {ns : List Str} {F : Hp} {φ : Nat → Addr} {vs : List V}, strsOf ds = some ns → DRA K cl F φ ds vs → vs = ns.map V.str
  | [], ns, F, φ, vs, h, r => by cases h; cases r; rfl
  | .p (.str i) :: r, ns, F, φ, vs, h, q => by
    unfold strsOf at h
    cases e : strsOf r with
    | none => rw [e] at h; cases h
    | some ms =>
      rw [e] at h; cases h
      cases q with
      | cons a b => rw [List.map_cons, ← strsOf_of e b, drS a]
  | .ref n :: r, _, _, _, _, h, _ => by cases h
  | .p .non :: r, _, _, _, _, h, _ => by cases h
  | .p (.bl _) :: r, _, _, _, _, h, _ => by cases h
  | .p (.int _) :: r, _, _, _, _, h, _ => by cases h
  | .p (.tup _) :: r, _, _, _, _, h, _ => by cases h
  | .p (.lst _) :: r, _, _, _, _, h, _ => by cases h
  | .p (.dK _) :: r, _, _, _, _, h, _ => by cases h
  | .p (.dT _) :: r, _, _, _, _, h, _ => by cases h
  | .p (.ins _ _) :: r, _, _, _, _, h, _ => by cases h
def fJoin (d e : D) (S : SH) : Option (D × SH) := match d with
  | .p (.str a) => (match asQ e S with
    | some xs => (match strsOf xs with
      | some ys => if (ys.map (·.length)).sum + ys.length * a.length ≤ 16777216 then some (.p (.str (Txt.join a ys)), S) else none
      | none => none)
    | none => none)
  | _ => none
theorem k_join {o e : Expr} {mo me : ME} {apos pos : Pos} (ho : PE X o (LE X.K cl mo)) (he : PE X e (LE X.K cl me)) (hs : starEach [e] X.env = [(false, eval e X.env)] := by rfl) (hbase : attributeBase o "join" X.env (eval o X.env) = eval o X.env := by rfl) (hline : (apos.endLine == pos.line) = true := by rfl) :
    PE X (.Call (.Attribute o "join" apos) [e] [] pos) (LE X.K cl (dOp fJoin mo me)) := by
  refine (pe_join ho he hs hbase hline).imp fun σ H Q q => ?_
  obtain ⟨σd, S, B, F, φ, s, rs, o⟩ := q
  obtain ⟨d, S1, e1, o1⟩ := okE_bnd o
  obtain ⟨y, S2, e2, o2⟩ := okE_bnd o1
  refine LE.then_ s rs e1 fun F1 φ1 H1 x s1 x1 rs1 dr1 l1 => ?_
  unfold fJoin at o2
  split at o2
  · rename_i a
    refine ⟨⟨a, drS dr1⟩, LE.then_ s1 rs1 e2 fun F2 φ2 H2 v s2 x2 rs2 dr2 l2 => ?_⟩
    split at o2
    · rename_i xs ex
      split at o2
      · rename_i ys ey
        split at o2
        · rename_i hz
          obtain ⟨p, vs, rfl, q, t, m⟩ := asQ_ok s2 ex dr2 l2
          have := strsOf_of ey t
          subst this
          exact ⟨a, p, ys, drS dr1, rfl, q, hz, o2.fin rfl s2 (x1.trans x2) (Rp.str _) trivial⟩
        · exact o2.no
      · exact o2.no
    · exact o2.no
  · exact o2.no
end
end Pv
namespace Pv
open PySem PySem.Spec PyProof.Rows L2
theorem cs_nil {p : Nat → Prop} : ∀ c ∈ ([] : List Nat), p c := fun _ h => absurd h (by simp)
theorem cs_cons {p : Nat → Prop} {a : Nat} {l : List Nat} (h : p a) (t : ∀ c ∈ l, p c) : ∀ c ∈ a :: l, p c := fun c hc => by
  rcases List.mem_cons.mp hc with rfl | hc
  · exact h
  · exact t c hc
abbrev wFuel : Nat := 1000000
theorem u65 {k : Nat} {A : Around} (hr : Room k A) : A.units + 65 < cLine := by have := hr.un; omega
theorem fn_no {P : Program} {w : World} {K : PySem.W.Frag} {mg : Str → Option Value} {base : Heap} {k : Nat} {f : Addr} {fd : FuncData} {ps : List Str} {cl : Nat → Addr} : FnOk P w K mg base CX0 k f fd ps (spOf K cl fun _ _ => none) :=
  ⟨fun vs H Q E h => (by
    obtain ⟨_, _, _, _, _, _, _, _, _, _, z, _⟩ := h; cases z), fun A outer s H args us vs Q E _ _ _ _ h => (by
    obtain ⟨_, _, _, _, _, _, _, _, _, _, z, _⟩ := h; cases z)⟩
section
variable {X : Cx} {K : PySem.W.Frag} {cl : Nat → Addr}
/-- in: a sign in a text, or a datum in a list or tuple -/
def fInG (neg : Bool) (d e : D) (S : SH) : Option (D × SH) := match d, e with
  | .p (.str y), .p (.str z) => fInS neg (.p (.str y)) (.p (.str z)) S
  | d, e => fIn neg d e S
def rInG (K : PySem.W.Frag) (cl : Nat → Addr) (neg : Bool) : R2 := fun x y H Q => rInSG neg x y H Q ∨ rInP K cl neg x y H Q
theorem o_inG (hu : X.A.units + 65 < cLine) : OpR X (compareOp .In) (rInG X.K cl false) := o_inS.or (o_in hu)
theorem o_notinG (hu : X.A.units + 65 < cLine) : OpR X (compareOp .NotIn) (rInG X.K cl true) := o_notinS.or (o_notin hu)
theorem d_inG {neg : Bool} : OpD K cl (fInG neg) (rInG K cl neg) := by
  intro S B F φ H d1 d2 x y Q s r1 r2 l1 l2 o
  unfold fInG at o
  split at o
  · exact .inl (d_inS S B F φ H _ _ x y Q s r1 r2 l1 l2 o)
  · exact .inr (d_in S B F φ H _ _ x y Q s r1 r2 l1 l2 o)
theorem d_addI : OpD K cl (fII (fun _ _ => true) fun i j => .int (i + j)) rAdd := by
  intro S B F φ H d1 d2 x y Q s r1 r2 l1 l2 o
  obtain ⟨i, j, h1, h2, q⟩ := d_II0 (g' := fun i j => .int (i + j)) (fun _ _ _ => .int _) S B F φ H d1 d2 x y Q s r1 r2 l1 l2 o
  exact ⟨i, j, h1, h2, q⟩
theorem d_subI : OpD K cl fSub rSub := by
  intro S B F φ H d1 d2 x y Q s r1 r2 l1 l2 o
  obtain ⟨i, j, h1, h2, q⟩ := d_sub S B F φ H d1 d2 x y Q s r1 r2 l1 l2 o
  exact ⟨i, j, h1, h2, q⟩
end
/-! ### the end -/
def intsP (ns : List Int) : List P := ns.map P.int
theorem rpA_ints {K : PySem.W.Frag} {cl : Nat → Addr} {F : Hp} : ∀ ns : List Int, RpA K cl F (intsP ns) (ns.map V.int)
  | [] => .nil
  | n :: r => .cons (.int n) (rpA_ints r)
open Classical in
/-- the law's promise, from what its computation gives -/
theorem law_of {K : PySem.W.Frag} {cl : Nat → Addr} {m : MF} {a : Addr} {ns : List Int} {H : Hp} {Q : VK} {E : XK} (hs : SqL K H a (ns.map V.int)) (h : m [.p (.lst (intsP ns))] ⟨0, []⟩ = some (.p (.bl true), ⟨0, []⟩)) (q : ∀ H', Q (.bl true) H') : spOf K cl m [.ref a] H Q E := by
  refine ⟨[.p (.lst (intsP ns))], ⟨0, []⟩, [], H, fun _ => 0, ⟨Same.refl _, fun n o e => by simp at e, fun n m h => absurd h (Nat.not_lt_zero _), fun n o e => by simp at e, fun b hb => absurd hb (by simp), Nat.le_refl _⟩, .cons (Rp.lst hs (rpA_ints ns)) .nil, fun d hd => ?_, .p (.bl true), ⟨0, []⟩, h, fun F1 φ1 H1 u s x r l => ?_⟩
  · rw [List.mem_singleton.mp hd]; trivial
  · rw [drB r]; exact q H1
theorem rel_ref {a : Addr} : RelV (.ref a) (.ref a) := rfl
end Pv
/-! sorted(list, key=a def) -/
namespace Pv
open PySem PySem.Spec PyProof.Rows L2
def allSome {α : Type} : List (Option α) → Option (List α)
  | [] => some []
  | some a :: r => (allSome r).map (a :: ·)
  | none :: _ => none
/-- atoms and tuples of these, as the kit's data -/
def pyOf : Nat → P → Option PyData
  | _, .non => some .none
  | _, .bl b => some (.bool b)
  | _, .int i => some (.int i)
  | _, .str x => some (.str x)
  | k + 1, .tup ps => (allSome (ps.map (pyOf k))).map .tuple
  | _, _ => none
def isTup1 : PyData → Bool
  | .tuple (_ :: _) => true
  | _ => false
def noTup : PyData → Bool
  | .tuple _ => false
  | .none => false
  | _ => true
def okKeys (ks : List PyData) : Bool := ks.all (fun a => ks.all (PySem.W.alike a)) && (ks.all isTup1 || ks.all noTup) && ks.all fun a => decide (a.depth ≤ 60)
theorem okKeys_of {ks : List PyData} (h : okKeys ks = true) : PySem.W.AllAlike ks ∧ PySem.W.Sortable ks ∧ ∀ d ∈ ks, d.depth ≤ 60 := by
  unfold okKeys at h
  simp only [Bool.and_eq_true, Bool.or_eq_true, List.all_eq_true, decide_eq_true_eq] at h
  obtain ⟨⟨h1, h2⟩, h3⟩ := h
  refine ⟨h1, ?_, h3⟩
  rcases h2 with h2 | h2
  · refine .inl fun d hd => ?_
    have q := h2 d hd
    unfold isTup1 at q
    split at q
    · exact ⟨_, _, rfl⟩
    · cases q
  · refine .inr fun d hd => ?_
    have q := h2 d hd
    unfold noTup at q
    split at q
    · cases q
    · cases q
    · rename_i n1 n2
      exact ⟨n2, fun xs z => n1 xs z⟩
def keysL (m : MF) : List P → SH → Option (List (P × PyData) × SH)
  | [], S => some ([], S)
  | p :: r, S => bnd (m [.p p] S) fun k S1 => match k with
    | .p q => match pyOf 60 q with
      | some d => bnd (keysL m r S1) fun l S2 => some ((p, d) :: l, S2)
      | none => none
    | _ => none
def sortK (live : Bool) (m : MF) (d : D) (S : SH) : Option (D × SH) := match asL d S with
  | some ds => match toPs ds with
    | some ps => bnd (keysL m ps S) fun l S1 => if okKeys (l.map (·.2)) = true then newL live ((l.mergeSort (PySem.W.dataLe false (·.2))).map fun x => D.p x.1) S1 else none
    | none => none
  | none => none
def dSortK (live : Bool) (m : MF) (me : ME) : ME := fun σ S => bnd (me σ S) (sortK live m)
section
variable {X : Cx} {cl : Nat → Addr} {pins : List (Addr × Obj)} {σ : L2.St} {F H : Hp} {s : Shared}
theorem rdAll (I : L2.Inv X pins σ H s) (sf : Same F H) {k : Nat} (ih : ∀ (p : P) (d : PyData) (v : V) (u : Value), pyOf k p = some d → Rp X.K cl F p v → RelV v u → Reads s.heap u d []) :
    ∀ (ps : List P) (ds : List PyData) (vs : List V) (us : List Value), allSome (ps.map (pyOf k)) = some ds → RpA X.K cl F ps vs → Vals vs us → ReadsAll s.heap us ds [] := by
  intro ps
  induction ps with
  | nil =>
    intro ds vs us e r q
    cases r; cases q
    have e' : ([] : List PyData) = ds := Option.some.inj e
    subst e'
    exact .nil
  | cons p ps hi =>
    intro ds vs us e r q
    cases r with
    | cons r1 r2 =>
      cases q with
      | cons q1 q2 =>
        rw [List.map_cons] at e
        cases e1 : pyOf k p with
        | none => rw [e1] at e; cases e
        | some d =>
          rw [e1] at e
          cases e2 : allSome (ps.map (pyOf k)) with
          | none => rw [allSome, e2] at e; cases e
          | some ds' =>
            rw [allSome, e2] at e
            have e' : d :: ds' = ds := Option.some.inj e
            subst e'
            have q := ReadsAll.cons (ih _ _ _ _ e1 r1 q1) (hi _ _ _ e2 r2 q2)
            exact q
theorem rdR (I : L2.Inv X pins σ H s) (sf : Same F H) : ∀ (k : Nat) (p : P) (d : PyData) (v : V) (u : Value), pyOf k p = some d → Rp X.K cl F p v → RelV v u → Reads s.heap u d [] := by
  intro k
  induction k with
  | zero =>
    intro p d v u e r q
    cases r <;> first | (cases e; done) | skip
    · cases e; cases q; exact .none
    · cases e; cases q; exact .bool _
    · cases e; obtain ⟨t, rfl⟩ := q; exact .int _ t
    · cases e; obtain ⟨t, rfl⟩ := q; exact .str _ t
  | succ k ih =>
    intro p d v u e r q
    cases r <;> first | (cases e; done) | skip
    · cases e; cases q; exact .none
    · cases e; cases q; exact .bool _
    · cases e; obtain ⟨t, rfl⟩ := q; exact .int _ t
    · cases e; obtain ⟨t, rfl⟩ := q; exact .str _ t
    · rename_i a ps vs st ra
      cases q
      rw [pyOf] at e
      cases e1 : allSome (ps.map (pyOf k)) with
      | none => rw [e1] at e; cases e
      | some ds =>
        rw [e1] at e
        have e' : PyData.tuple ds = d := Option.some.inj e
        subst e'
        obtain ⟨its, rv, ⟨o, n, h1, h2, h3⟩, _⟩ := I.tuple (SqT.mono sf st)
        exact .tuple ‹_› ‹_› ‹_› (rdAll I sf ih ps ds vs its e1 ra rv)
theorem map_fst_of {α β : Type} {l : List (α × β)} : ∀ {ps : List α}, l.map (·.1) = ps → l.length = ps.length := fun h => by rw [← h, List.length_map]
theorem keysL_fst {m : MF} : ∀ {ps : List P} {S S1 : SH} {l : List (P × PyData)}, keysL m ps S = some (l, S1) → l.map (·.1) = ps
  | [], S, S1, l, h => by cases h; rfl
  | p :: r, S, S1, l, h => by
    unfold keysL at h
    obtain ⟨k, S2, e1, h⟩ := bnd_of h
    cases k with
    | ref n => cases h
    | p q =>
      dsimp only at h
      cases e2 : pyOf 60 q with
      | none => rw [e2] at h; cases h
      | some d =>
        rw [e2] at h
        obtain ⟨l', S3, e3, h⟩ := bnd_of h
        cases h
        rw [List.map_cons, keysL_fst e3]

theorem vals_at : ∀ {xs : List V} {us : List Value} {i : Nat} {u : Value}, Vals xs us → us[i]? = some u → ∃ x, xs[i]? = some x ∧ RelV x u
  | _, _, _, _, .nil, e => by simp at e
  | _, _, 0, _, .cons r _, e => by simp at e; subst e; exact ⟨_, rfl, r⟩
  | _, _, i + 1, u, .cons _ t, e => by
    obtain ⟨x, h1, h2⟩ := vals_at (i := i) (u := u) t (by simpa using e)
    exact ⟨x, by simpa using h1, h2⟩
theorem rpa_snoc {K : PySem.W.Frag} {p : P} {v : V} (r : Rp K cl F p v) : ∀ {ps : List P} {vs : List V}, RpA K cl F ps vs → RpA K cl F (ps ++ [p]) (vs ++ [v])
  | _, _, .nil => .cons r .nil
  | _, _, .cons a b => .cons a (rpa_snoc r b)
theorem upd_none {h : Heap} {a b : Addr} {o : Obj} (e : h.get? b = some o) (n : b ≠ a) {f : Obj → Obj} : (h.update a f).get? b = some o := (Heap.get?_update_ne _ _ _ _ n).trans e
/-- a heap without the object at a -/
def lessH (h : Heap) (a : Addr) : Heap := h.update a fun o => { o with data := .freed }
theorem lessH_at (h : Heap) (a : Addr) : (lessH h a).get? a = none := by
  unfold lessH Heap.get?
  rw [Heap.objs_update_self]
  cases h.objs[a]? <;> rfl
theorem rp_each {K : PySem.W.Frag} : ∀ {l : List (P × PyData)} {vs : List V} {us : List Value}, RpA K cl F (l.map (·.1)) vs → Vals vs us → PySem.W.EachIs (fun (u : Value) (x : P × PyData) => ∃ v, RelV v u ∧ Rp K cl F x.1 v) us l
  | [], _, _, r, q => by
    cases r; cases q; exact .nil
  | x :: l, _, _, r, q => by
    rw [List.map_cons] at r
    cases r with
    | cons r1 r2 =>
      cases q with
      | cons q1 q2 => exact .cons ⟨_, q1, r1⟩ (rp_each r2 q2)
theorem each_rp {K : PySem.W.Frag} : ∀ {l : List (P × PyData)} {us : List Value}, PySem.W.EachIs (fun (u : Value) (x : P × PyData) => ∃ v, RelV v u ∧ Rp K cl F x.1 v) us l → ∃ vs : List V, Vals vs us ∧ RpA K cl F (l.map (·.1)) vs
  | _, _, .nil => ⟨[], .nil, .nil⟩
  | _, _, .cons ⟨v, q1, r1⟩ e => by
    obtain ⟨vs, q2, r2⟩ := each_rp e
    exact ⟨v :: vs, .cons q1 q2, .cons r1 r2⟩
theorem key_each (I : L2.Inv X pins σ H s) (sf : Same F H) : ∀ {l : List (P × PyData)} {kps : List P} {kv : List V} {us : List Value}, kps.map (pyOf 60) = l.map (fun x => some x.2) → RpA X.K cl F kps kv → Vals kv us → PySem.W.EachIs (fun v d => ∃ as, Reads s.heap v d as) us (l.map (·.2))
  | [], [], _, _, _, r, q => by
    cases r; cases q; exact .nil
  | [], _ :: _, _, _, e, _, _ => by cases e
  | _ :: _, [], _, _, e, _, _ => by cases e
  | x :: l, p :: kps, _, _, e, r, q => by
    rw [List.map_cons, List.map_cons] at e
    injection e with e1 e2
    cases r with
    | cons r1 r2 =>
      cases q with
      | cons q1 q2 => exact .cons ⟨[], rdR I sf 60 _ _ _ _ e1 r1 q1⟩ (key_each I sf e2 r2 q2)
def rSortK (K : PySem.W.Frag) (cl : Nat → Addr) (live : Bool) (m : MF) (f : Addr) : List V → List V → Hp → VK → Prop := fun vs zs H Q => zs = [V.ref f] ∧ ∃ d v S B F φ, vs = [v] ∧ Sim K cl S B F φ H ∧ DR K cl F φ d v ∧ d.lt S.len ∧ OkE K cl S B F φ H (sortK live m d S) Q
theorem fpAt {H' : Hp} {b : Addr} (f : FpOk X pins H b) (n : H' b = none) : FpOk X pins H' b := ⟨n, f.2⟩
theorem pins2 {a b : Addr} {oa ob : Obj} (I : L2.Inv X pins σ H s) (fa : FpOk X pins H a) (fb : FpOk X pins H b) (ha : s.heap.get? a = some oa) (hb : s.heap.get? b = some ob) (ca : ∀ v, oa.data ≠ .cell v) (cb : ∀ v, ob.data ≠ .cell v) : L2.Inv X (pins ++ [(a, oa), (b, ob)]) σ H s := by
  refine I.pins_of fun p hp => ?_
  rcases List.mem_append.mp hp with hp | hp
  · exact I.pin p (List.mem_append_right _ hp)
  · rcases List.mem_cons.mp hp with rfl | hp
    · exact ⟨ha, fa.1, fa.2.1, fa.2.2.1, ca⟩
    · rw [List.mem_singleton.mp hp]
      exact ⟨hb, fb.1, fb.2.1, fb.2.2.1, cb⟩
theorem sortK_run {k : Nat} {f : Addr} {fd : FuncData} {ps0 : List Str} {m : MF} {live : Bool} (FN : FnOk X.prog X.w X.K X.mg X.base CX0 k f fd ps0 (spOf X.K cl m)) (hr : Room (k + 2) X.A) (hb : Binds X.K fd ps0 []) : CallRK X (.builtin "sorted") [Str.ofString "key"] (rSortK X.K cl live m f) := by
  intro pins s σ H vs zs us ws Q I rv rz h
  obtain ⟨rfl, d, v, S, B, F0, φ, rfl, sim, dr, l, o⟩ := h
  obtain rfl := Vals.ref1 rz
  unfold sortK at o
  cases e1 : asL d S with
  | none => rw [e1] at o; obtain ⟨_, _, z, _⟩ := o; cases z
  | some ds =>
  rw [e1] at o
  dsimp only at o
  cases e2 : toPs ds with
  | none => rw [e2] at o; obtain ⟨_, _, z, _⟩ := o; cases z
  | some ps =>
  rw [e2] at o
  dsimp only at o
  obtain ⟨la, xs, rfl, hs, ra, lx⟩ := asL_ok sim e1 dr l
  obtain rfl := toPs_of e2
  obtain ⟨l0, S1, ek, o⟩ := okE_bnd o
  by_cases hok : okKeys (l0.map (·.2)) = true
  case neg => rw [if_neg hok] at o; obtain ⟨_, _, z, _⟩ := o; cases z
  rw [if_pos hok] at o
  obtain ⟨hal, hsk, hdp⟩ := okKeys_of hok
  obtain ⟨its, rvi, hl, hz⟩ := I.list hs
  obtain rfl := Vals.ref1 rv
  have ra0 : RpA X.K cl F0 ps xs := ra.rpa
  have hil : its.length = xs.length := rvi.length.symm
  have hpl : ps.length = xs.length := ra0.len
  have hl0 : l0.map (·.1) = ps := keysL_fst ek
  have hll : l0.length = ps.length := map_fst_of hl0
  refine PySem.W.sorted_of_sort hl.isList (by omega) (ksk_s1 _ _) (fun _ => ksk_l1 _ _) fun E' => ?_
  show wpAny (model X.prog X.w) X.A.in1.in1 (ksk_tree (s.heap.objs.size + 1) (.ref f) false) _ E' _
  have n1 := PySem.W.copyHeap_at s.heap its
  generalize hG : PySem.W.copyHeap s.heap its = G at n1
  have kG : ∀ b u, s.heap.get? b = some u → G.get? b = some u := fun b u e => by rw [← hG]; exact PySem.W.copyHeap_old e
  have zG : s.heap.objs.size + 1 < G.objs.size := Heap.lt_size n1
  generalize hA : s.heap.objs.size + 1 = A1 at n1 zG
  have nA : ∀ b u, s.heap.get? b = some u → b ≠ A1 := fun b u e z => absurd (Heap.lt_size e) (by rw [z, ← hA]; exact Nat.not_lt.mpr (Nat.le_succ _))
  obtain ⟨e1', n2⟩ : ∃ q, (G.update A1 (Obj.mapSeq fun _ => (#[] : Array Value))).get? A1 = some (seqObj "list" #[] q) := ⟨_, get?_update_seq n1 fun _ => #[]⟩
  unfold ksk_tree
  refine wpAny_bind (listItems_at n1 rfl ?_)
  refine wpAny_bind (listUpdate_at n1 rfl ?_ (by rw [List.size_toArray]; omega) (Nat.zero_le _))
  refine wpAny_bind (seqEpoch_at n2 rfl ?_)
  refine wpAny_bind (wpAny_newTuple ?_ (by show its.length ≤ _; omega))
  refine wpAny_bind (wpAny_newList ?_ (Nat.zero_le _))
  refine wpAny_holding ?_
  have n3 := Heap.get?_push_size (((G.update A1 (Obj.mapSeq fun _ => (#[] : Array Value))).push (seqObj "tuple" its.toArray 0))) (o := seqObj "list" #[] 0) rfl
  have zU : (G.update A1 (Obj.mapSeq fun _ => (#[] : Array Value))).objs.size = G.objs.size := Heap.size_update _ _ _
  have zP : ((G.update A1 (Obj.mapSeq fun _ => (#[] : Array Value))).push (seqObj "tuple" its.toArray 0)).objs.size = G.objs.size + 1 := by rw [size_push', zU]
  have n4 : (((G.update A1 (Obj.mapSeq fun _ => (#[] : Array Value))).push (seqObj "tuple" its.toArray 0)).push (seqObj "list" #[] 0)).get? A1 = some (seqObj "list" #[] e1') := Heap.get?_push_of_some _ (Heap.get?_push_of_some _ n2)
  have kT : ∀ b u, s.heap.get? b = some u → (((G.update A1 (Obj.mapSeq fun _ => (#[] : Array Value))).push (seqObj "tuple" its.toArray 0)).push (seqObj "list" #[] 0)).get? b = some u := fun b u e =>
    Heap.get?_push_of_some _ (Heap.get?_push_of_some _ (upd_none (kG b u e) (nA b u e)))
  show wpAny _ _ (ksk_rest A1 (.ref f) false its.toArray e1' (.ref ((G.update A1 (Obj.mapSeq fun _ => (#[] : Array Value))).push (seqObj "tuple" its.toArray 0)).objs.size)) _ _ { s with heap := ((G.update A1 (Obj.mapSeq fun _ => (#[] : Array Value))).push (seqObj "tuple" its.toArray 0)).push (seqObj "list" #[] 0) }
  rw [zP] at n3 ⊢
  generalize (((G.update A1 (Obj.mapSeq fun _ => (#[] : Array Value))).push (seqObj "tuple" its.toArray 0)).push (seqObj "list" #[] 0)) = T at n3 n4 kT ⊢
  have hne : A1 ≠ G.objs.size + 1 := by omega
  generalize hK : G.objs.size + 1 = KS at n3 hne ⊢
  have fA : FpOk X pins H A1 := I.fpOk (by omega) (I.hok.fresh (by omega))
  have fK : FpOk X pins H KS := I.fpOk (by omega) (I.hok.fresh (by omega))
  have I0 := I.kept (t' := s.toks) kT
  have nc : ∀ (xs : Array Value) (n : Nat) (v : Option Value), (seqObj "list" xs n).data ≠ .cell v := fun xs n v z => by cases z
  unfold ksk_rest
  refine wpAny_bind (wpAny_rule ?_)
  first
    | rw [List.forIn_toArray]
    | (rw [← Array.forIn_toList]; simp only [List.toList_toArray])
  refine wpAny_bind (ksk_fold (fun i s' => ∃ S2 F2 φ2 H2 kA e l1 l2 kps kv, L2.Inv X (pins ++ [(A1, seqObj "list" #[] e1'), (KS, seqObj "list" kA e)]) σ H2 s' ∧ Sim X.K cl S2 B F2 φ2 H2 ∧ Ext S F0 φ H S2 F2 φ2 H2 ∧ keysL m (ps.drop i) S2 = some (l2, S1) ∧ l0 = l1 ++ l2 ∧ l1.length = i ∧ Vals kv kA.toList ∧ RpA X.K cl F2 kps kv ∧ kps.map (pyOf 60) = l1.map (fun x => some x.2)) its 0 _
    ⟨S, F0, φ, H, #[], 0, [], l0, [], [], pins2 I0 fA fK n4 n3 (nc _ _) (nc _ _), sim, .refl sim, ek, rfl, rfl, .nil, .nil, rfl⟩ ?step ?done)
  case step =>
    rintro j x s' hx ⟨S2, F2, φ2, H2, kA, e, l1, l2, kps, kv, I2, sm, ex, ek2, hla, hlb, rk, rpk, hkp⟩
    simp only [Nat.zero_add] at ek2 hlb ⊢
    have hj : j < its.length := (List.getElem?_eq_some_iff.mp hx).1
    obtain ⟨y, hy, ry⟩ := vals_at rvi hx
    obtain ⟨p, hp, rp⟩ := ra0.get hy
    have hd : ps.drop j = p :: ps.drop (j + 1) := by
      obtain ⟨hp1, hp2⟩ := List.getElem?_eq_some_iff.mp hp
      rw [List.drop_eq_getElem_cons hp1, hp2]
    rw [hd] at ek2
    unfold keysL at ek2
    obtain ⟨kd, S3, em, ek2⟩ := bnd_of ek2
    cases kd with
    | ref n => cases ek2
    | p q =>
    dsimp only at ek2
    cases e3 : pyOf 60 q with
    | none => rw [e3] at ek2; cases ek2
    | some dk =>
    rw [e3] at ek2
    obtain ⟨l3, S4, e4, ek2⟩ := bnd_of ek2
    cases ek2
    have hsp : spOf X.K cl m [y] H2 (fun w H3 => ∃ F3 φ3, Sim X.K cl S3 B F3 φ3 H3 ∧ Ext S2 F2 φ2 H2 S3 F3 φ3 H3 ∧ Rp X.K cl F3 q w) (fun _ _ _ => False) :=
      ⟨[.p p], S2, B, F2, φ2, sm, .cons (Rp.mono ex.fz rp) .nil, fun z hz => by rw [List.mem_singleton.mp hz]; trivial, .p q, S3, em, fun F3 φ3 H3 u s3 x3 r3 l3 => ⟨F3, φ3, s3, x3, r3⟩⟩
    have hlen : [x].length = ps0.length := FN.len _ _ _ _ hsp
    have pA := I2.pin (A1, seqObj "list" #[] e1') (by simp)
    refine wpAny_bind (wpAny_attempt (wpAny_mono (Q := EP X (pins ++ [(A1, seqObj "list" #[] e1'), (KS, seqObj "list" kA e)]) σ (fun w H3 => ∃ F3 φ3, Sim X.K cl S3 B F3 φ3 H3 ∧ Ext S2 F2 φ2 H2 S3 F3 φ3 H3 ∧ Rp X.K cl F3 q w)) (E := fun _ _ => False) (wpAny_call (codeAny_mono (FN.run X.A.in1.in1 X.stack s' H2 ⟨[x], []⟩ [x] [y] _ _ hr.in1.in1 I2.env0.in1.in1 (by
      have bb := hb s' [x] I2.kIn (by rw [List.append_nil]; exact hlen)
      rw [List.append_nil] at bb
      exact bb) (.cons ry .nil) hsp) fun r s'' hq => ?_)) (fun u s'' he => ?_) fun _ _ hF => hF.elim))
    · cases r with
      | error e => exact hq.elim
      | ok fl =>
        cases fl with
        | ret u => exact I2.after hq
        | next => exact False.elim hq
        | brk => exact False.elim hq
        | cont => exact False.elim hq
    · obtain ⟨w, H3, I3, rw', F3, φ3, sm3, ex3, rq⟩ := he
      dsimp only
      have qA := I3.pin (A1, seqObj "list" #[] e1') (by simp)
      have qK := I3.pin (KS, seqObj "list" kA e) (by simp)
      have nk2 : s''.heap.get? KS = some (seqObj "list" kA e) := qK.1
      have na2 : s''.heap.get? A1 = some (seqObj "list" #[] e1') := qA.1
      have hks : kA.size = j := by
        have t1 : kv.length = kA.size := rk.length
        have t2 : kps.length = kv.length := rpk.len
        have t3 := congrArg List.length hkp
        rw [List.length_map, List.length_map] at t3
        rw [← t1, ← t2, t3, hlb]
      obtain ⟨c2, hc2⟩ : ∃ c2, (s''.heap.update KS (Obj.mapSeq (·.push u))).get? KS = some (seqObj "list" (kA.push u) c2) := ⟨_, get?_update_seq nk2 (·.push u)⟩
      refine wpAny_bind (listUpdate_at nk2 rfl ?_ (by omega) (by rw [Array.size_push]; omega))
      refine wpAny_pure ⟨rfl, S3, F3, φ3, H3, kA.push u, c2, l1 ++ [(p, dk)], l3, kps ++ [q], kv ++ [w], ?_, sm3, ex.trans ex3, e4, by rw [hla, List.append_assoc]; rfl, by rw [List.length_append, hlb]; rfl, ?_, ?_, by rw [List.map_append, List.map_append, hkp]; simp [e3]⟩
      · have I4 : L2.Inv X pins σ H3 s'' := I3.pins_of fun p hp => I3.pin p (by simp [hp])
        have fK3 : FpOk X pins H3 KS := fpAt fK qK.2.1
        have I5 := I4.turned (t' := s''.toks) (h' := s''.heap.update KS (Obj.mapSeq (·.push u))) (it := KS) (fun b o hb e => upd_none e hb) qK.2.1 fK3.2.1 fK3.2.2.2.1 fK3.2.2.2.2.1 fK3.2.2.2.2.2
        exact pins2 I5 (fpAt fA qA.2.1) fK3 (upd_none na2 hne) hc2 (nc _ _) (nc _ _)
      · rw [Array.toList_push]
        exact rk.append (.cons rw' .nil)
      · exact rpa_snoc rq (RpA.mono ex3.fz rpk)
  case done =>
    rintro s' ⟨S2, F2, φ2, H2, kA, e, l1, l2, kps, kv, I2, sm, ex, ek2, hla, hlb, rk, rpk, hkp⟩
    have hdn : ps.drop (0 + its.length) = [] := List.drop_eq_nil_of_le (by omega)
    rw [hdn] at ek2
    cases ek2
    rw [List.append_nil] at hla
    subst hla
    have qA := I2.pin (A1, seqObj "list" #[] e1') (by simp)
    have qK := I2.pin (KS, seqObj "list" kA e) (by simp)
    have nk : s'.heap.get? KS = some (seqObj "list" kA e) := qK.1
    have na : s'.heap.get? A1 = some (seqObj "list" #[] e1') := qA.1
    have hea := key_each I2 sm.le hkp rpk rk
    have hsz : kA.size = its.length := by
      have t1 := hea.length
      rw [Array.length_toList, List.length_map] at t1
      omega
    have kp : PySem.W.KeepsBut A1 (lessH s'.heap KS) s'.heap := fun b o hb q => by
      by_cases hbk : b = KS
      · rw [hbk, lessH_at] at q; cases q
      · rw [← q]; exact (Heap.get?_update_ne _ _ _ _ hbk).symm
    refine wpAny_bind (listItems_at nk rfl ?_)
    have un : X.A.in1.in1.units = X.A.units + 2 := rfl
    refine PySem.W.keyH_end (κ := PySem.W.dataKind s'.heap (l0.map (·.2))) (h₁ := lessH s'.heap KS) kp (lessH_at _ _) nk na hne.symm (PySem.W.SortsAt.data (s := s') hea hal hsk fun d hd => by
      have t1 := hdp d hd
      have t2 := hr.un
      omega) hsz (by omega) fun h' tk c k' n' => ?_
    have keep : ∀ b o, b ∉ [A1, KS] → s'.heap.get? b = some o → h'.get? b = some o := fun b o hb q => by
      rw [List.mem_cons, List.mem_singleton, not_or] at hb
      exact k' b o hb.1 (upd_none q hb.2)
    have ko : PySem.W.KeyedOut false (l0.map (·.2)) its (PySem.W.sortVals (PySem.W.dataKind s'.heap (l0.map (·.2))) false kA.toList its) := ⟨s'.heap, kA.toList, hal, rfl, hea⟩
    have ra2 : RpA X.K cl F2 (l0.map (·.1)) xs := by rw [hl0]; exact RpA.mono ex.fz ra0
    obtain ⟨vs', rv', rp'⟩ := each_rp (PySem.W.keyedOut_each (fun x : P × PyData => x.2) ko (rp_each ra2 rvi))
    have I4 : L2.Inv X pins σ H2 s' := I2.pins_of fun p hp => I2.pin p (by simp [hp])
    have fA2 : FpOk X pins H2 A1 := fpAt fA qA.2.1
    have I5 := I4.turnedL (t' := tk) (h' := h') keep fun b hb => by
      rcases List.mem_cons.mp hb with rfl | hb
      · exact fA2
      · rw [List.mem_singleton.mp hb]; exact fpAt fK qK.2.1
    have dr' : DRA X.K cl F2 φ2 ((l0.mergeSort (PySem.W.dataLe false (·.2))).map fun x => D.p x.1) vs' := by
      have q := rp'.dra (φ := φ2)
      rw [List.map_map] at q
      exact q
    have o' := OkE.ext ex o
    obtain ⟨hz', w'⟩ := newL_ok1 o' sm dr' (fun z hz => by
      obtain ⟨y, _, rfl⟩ := List.mem_map.mp hz
      trivial)
    refine ⟨rfl, .ref A1, upd H2 A1 (.lst vs'), ?_, rfl, w' A1 qA.2.1⟩
    exact I5.take (fun _ _ _ q => q) fA2 ⟨hz', _, c, rv', n'⟩

theorem k_sortK {k : Nat} {f : Addr} {fd : FuncData} {ps0 : List Str} {m : MF} {live : Bool} {x y : Str} {p q kpos pos : Pos} {e : Expr} {me : ME} (FN : FnOk X.prog X.w X.K X.mg X.base CX0 k f fd ps0 (spOf X.K cl m)) (hr : Room (k + 2) X.A)
    (hg : Gl X x) (hm : X.mg x = none) (hv : bootBuiltins x = some (.builtin "sorted")) (hg2 : Gl X y) (hm2 : X.mg y = some (.ref f)) (hb : Binds X.K fd ps0 []) (he : PE X e (LE X.K cl me))
    (hn : x ≠ "__name__" := by decide) (hdb : (x == ("__debug__" : Str)) = false := by decide) (hdb2 : (y == ("__debug__" : Str)) = false := by decide)
    (hs : starEach [e] X.env = (false, eval e X.env) :: starEach [] X.env := by rfl) (he1 : backTo pos (starEach [e] X.env) = (false, eval e X.env) :: backTo pos (starEach [] X.env) := by rfl) (hpl : (backTo pos (starEach [e] X.env)).any (·.1) = false := by rfl)
    (hall : (backToKw pos (keywordEach [⟨some (Str.ofString "key"), .Name y q, kpos⟩] X.env)).all (·.1.isSome) = true := by rfl) (hnone : (backToKw pos (keywordEach [⟨some (Str.ofString "key"), .Name y q, kpos⟩] X.env)).any (·.1.isNone) = false := by rfl) (hks : (backToKw pos (keywordEach [⟨some (Str.ofString "key"), .Name y q, kpos⟩] X.env)).filterMap (·.1) = [Str.ofString "key"] := by rfl) :
    PE X (.Call (.Name x p) [e] [⟨some (Str.ofString "key"), .Name y q, kpos⟩] pos) (LE X.K cl (dSortK live m me)) := by
  refine (pe_callBK (sortK_run (live := live) FN hr hb) hg hm hv (pa_cons he pa_nil hs) (pk_cons (pe_glob hg2 hm2 (v := V.ref f) rfl hdb2) pk_nil) hn hdb he1 hpl hall hnone hks).imp fun σ H Q h => ?_
  obtain ⟨σd, S, B, F, φ, s, rs, o⟩ := h
  obtain ⟨d, S1, e1, o⟩ := okE_bnd o
  exact LE.then_ s rs e1 fun F1 φ1 H1 v s1 x1 rs1 dr l => ⟨rfl, d, v, S1, B, F1, φ1, rfl, s1, dr, l, OkE.ext x1 o⟩
end
end Pv
/-! a comprehension with two loops -/
namespace Pv
open PySem PySem.Spec PyProof.Rows L2
def compL2 (fin : SH → Bool) (g : MG) (c : MT) (m1 : MI) (g1 : MG) (c1 : MT) (elt : ME) (ws1 : List Nat) (σ : En) : List (SH → Option D) → List D → SH → Option (List D × SH)
  | [], acc, S => if fin S = true then some (acc, S) else none
  | t :: ts, acc, S => match t S with
    | some d => bnd (g d σ S) fun σ1 S1 => bnd (c σ1 S1) fun b S2 => if b = true then
        bnd (m1 σ1 S2) fun src S3 => bnd (compL src.fin g1 c1 elt (wipeD ws1 σ1) src.items acc S3) fun acc' S4 => compL2 fin g c m1 g1 c1 elt ws1 σ ts acc' S4
        else compL2 fin g c m1 g1 c1 elt ws1 σ ts acc S2
    | none => none
def dComp2 (live : Bool) (m : MI) (g : MG) (c : MT) (m1 : MI) (g1 : MG) (c1 : MT) (elt : ME) (vs ws1 : List Nat) : ME := fun σ S => bnd (m σ S) fun src S1 => bnd (compL2 src.fin g c m1 g1 c1 elt ws1 (wipeD vs σ) src.items [] S1) fun ds S2 => newL live ds S2
section
variable {X : Cx} {K : PySem.W.Frag} {cl : Nat → Addr} {tg iter tg1 iter1 e : Expr} {pos : Pos} {m m1 : MI} {g g1 : MG} {vs vs1 ws ws1 : List Nat} {mt mt1 : MT} {me : ME}
theorem e_comp2 {live : Bool} {σ : L2.St} {H : Hp} {Q : VK} (hw : ∀ j ∈ vs, j ∈ ws) (hw1 : ∀ j ∈ vs1, j ∈ ws1) (q : LE K cl (dComp2 live m g mt m1 g1 mt1 me ws ws1) σ H Q) : tLc2 (LI K cl m) (LG K cl vs g) (LT K cl mt) (LI K cl m1) (LG K cl vs1 g1) (LT K cl mt1) (LE K cl me) ws ws1 σ H Q := by
  obtain ⟨σd, S, B, F, φ, s, rs, o⟩ := q
  obtain ⟨src, S1, e1, o1⟩ := okE_bnd o
  refine ⟨σd, S, B, F, φ, s, rs, src, S1, e1, fun F1 φ1 H1 J s1 x1 it => ?_⟩
  intro L hL
  have o1 := o1.ext x1
  have smL : Same H1 (upd H1 L (.lst [])) := Same.new (Same.refl _) hL
  obtain ⟨fL, pL⟩ := s1.none_p hL
  refine ⟨fun i mm H' => mm = src.items.length - i ∧ i ≤ src.items.length ∧ ∃ acc us S' F' φ', Sim K cl S' B F' φ' H' ∧ Ext S1 F1 φ1 H1 S' F' φ' H' ∧ At L us S' F' φ' H' ∧ DRA K cl F' φ' acc us ∧ (∀ d ∈ acc, d.lt S'.len) ∧
      OkE K cl S1 B F1 φ1 H1 (bnd (compL2 src.fin g mt m1 g1 mt1 me ws1 (wipeD ws σd) (src.items.drop i) acc S') fun ds S2 => newL live ds S2) Q,
    ⟨src.items.length, by simp, Nat.zero_le _, [], [], S1, F1, φ1, s1.keep smL, Ext.ofSame s1 smL, ⟨upd_same, fL, pL⟩, .nil, fun _ z => absurd z (by simp), by rw [List.drop_zero]; exact o1⟩, ?_⟩
  rintro i mm H' ⟨rfl, hi, acc, us, S', F', φ', s', x', at', ra, la, o'⟩
  obtain ⟨turn, stop⟩ := it S' B F' φ' H' s' x'.fz x'.len x'.phi i
  by_cases hlt : i < src.items.length
  · rw [List.drop_eq_getElem_cons hlt] at o'
    unfold compL2 at o'
    cases ht : src.items[i] S' with
    | none => rw [ht] at o'; obtain ⟨_, _, z, _⟩ := o'; cases z
    | some d =>
      rw [ht] at o'
      dsimp only at o'
      obtain ⟨ld, go, yld⟩ := turn _ d (List.getElem?_eq_getElem hlt) ht
      refine .inr ⟨go, fun H3 => ∃ acc us S' F' φ', Sim K cl S' B F' φ' H3 ∧ Ext S1 F1 φ1 H1 S' F' φ' H3 ∧ At L us S' F' φ' H3 ∧ DRA K cl F' φ' acc us ∧ (∀ d ∈ acc, d.lt S'.len) ∧
        OkE K cl S1 B F1 φ1 H1 (bnd (compL2 src.fin g mt m1 g1 mt1 me ws1 (wipeD ws σd) (src.items.drop (i + 1)) acc S') fun ds S2 => newL live ds S2) Q, fun H3 h => ⟨src.items.length - (i + 1), by omega, rfl, hlt, h⟩, fun x H2 y => ?_⟩
      obtain ⟨F2, s2, x2, dr⟩ := yld x H2 y
      obtain ⟨out, S9, eo, ko⟩ := okE_bnd o'
      obtain ⟨σ3, S3, e3, e4⟩ := bnd_of eo
      obtain ⟨b, S4, e5, e6⟩ := bnd_of e4
      refine ⟨d, wipeD ws σd, S', B, F2, φ', s2, (((x1.trans x').trans x2).rs rs).wipe2 ws, dr, ld, σ3, S3, e3, fun F4 φ4 H4 σ4 s4 x4 rs4 hk => ⟨?_, ?_⟩⟩
      · exact (wipe_eq hk.1 fun j hj => hk.2 j fun z => hj (hw j z)).trans wipe_wipe
      · refine LT.then_ s4 rs4 e5 fun F5 φ5 H5 s5 x5 rs5 => ?_
        have xa := (x2.trans x4).trans x5
        split
        · rename_i hb
          rw [if_pos hb] at e6
          obtain ⟨src1, S6, e7, e8⟩ := bnd_of e6
          refine ⟨σ3, S4, B, F5, φ5, s5, rs5, src1, S6, e7, fun F6 φ6 H6 J1 s6 x6 it1 => ?_⟩
          have xb := xa.trans x6
          have at6 := at'.ext xb
          have rs6 := x6.rs rs5
          refine ⟨fun j k Hj => k = src1.items.length - j ∧ j ≤ src1.items.length ∧ ∃ acc us S' F' φ', Sim K cl S' B F' φ' Hj ∧ Ext S1 F1 φ1 H1 S' F' φ' Hj ∧ Same F6 F' ∧ S6.len ≤ S'.len ∧ (∀ n, n < S6.len → φ' n = φ6 n) ∧ At L us S' F' φ' Hj ∧ DRA K cl F' φ' acc us ∧ (∀ d ∈ acc, d.lt S'.len) ∧
              (bnd (compL src1.fin g1 mt1 me (wipeD ws1 σ3) (src1.items.drop j) acc S') fun acc' S4 => compL2 src.fin g mt m1 g1 mt1 me ws1 (wipeD ws σd) (src.items.drop (i + 1)) acc' S4) = some (out, S9),
            ⟨src1.items.length, by simp, Nat.zero_le _, acc, us, S6, F6, φ6, s6, x'.trans xb, Same.refl _, Nat.le_refl _, fun _ _ => rfl, at6, xb.dra la ra, fun z hz => xb.lt (la z hz), by rw [List.drop_zero]; exact e8⟩, ?_⟩
          rintro j k Hj ⟨rfl, hj, acc1, us1, S7, F7, φ7, s7, x7, f67, l67, p67, at7, ra7, la7, o7⟩
          obtain ⟨turn1, stop1⟩ := it1 S7 B F7 φ7 Hj s7 f67 l67 p67 j
          by_cases hlt1 : j < src1.items.length
          · rw [List.drop_eq_getElem_cons hlt1] at o7
            obtain ⟨acc9, S10, o8, o9⟩ := bnd_of o7
            unfold compL at o8
            cases ht1 : src1.items[j] S7 with
            | none => rw [ht1] at o8; cases o8
            | some d1 =>
              rw [ht1] at o8
              dsimp only at o8
              obtain ⟨ld1, go1, yld1⟩ := turn1 _ d1 (List.getElem?_eq_getElem hlt1) ht1
              refine .inr ⟨go1, fun H3 => ∃ acc us S' F' φ', Sim K cl S' B F' φ' H3 ∧ Ext S1 F1 φ1 H1 S' F' φ' H3 ∧ Same F6 F' ∧ S6.len ≤ S'.len ∧ (∀ n, n < S6.len → φ' n = φ6 n) ∧ At L us S' F' φ' H3 ∧ DRA K cl F' φ' acc us ∧ (∀ d ∈ acc, d.lt S'.len) ∧
                  (bnd (compL src1.fin g1 mt1 me (wipeD ws1 σ3) (src1.items.drop (j + 1)) acc S') fun acc' S4 => compL2 src.fin g mt m1 g1 mt1 me ws1 (wipeD ws σd) (src.items.drop (i + 1)) acc' S4) = some (out, S9), fun H3 h => ⟨src1.items.length - (j + 1), by omega, rfl, hlt1, h⟩, fun x1' H8 y1 => ?_⟩
              obtain ⟨F8, s8, x8, dr8⟩ := yld1 x1' H8 y1
              obtain ⟨σ9, S11, e9, e10⟩ := bnd_of o8
              obtain ⟨b1, S12, e11, e12⟩ := bnd_of e10
              refine ⟨d1, wipeD ws1 σ3, S7, B, F8, φ7, s8, (x8.rs (rs6.mono f67 l67 p67)).wipe2 ws1, dr8, ld1, σ9, S11, e9, fun F13 φ13 H13 σ13 s13 x13 rs13 hk1 => ⟨?_, ?_⟩⟩
              · exact (wipe_eq hk1.1 fun j hj => hk1.2 j fun z => hj (hw1 j z)).trans wipe_wipe
              · refine LT.then_ s13 rs13 e11 fun F14 φ14 H14 s14 x14 rs14 => ?_
                have xc := (x8.trans x13).trans x14
                split
                · rename_i hb1
                  rw [if_pos hb1] at e12
                  by_cases hz : acc1.length < sizeLine
                  · rw [if_pos hz] at e12
                    obtain ⟨y2, S15, e13, e14⟩ := bnd_of e12
                    refine LE.then_ s14 rs14 e13 fun F15 φ15 H15 u s15 x15 rs15 dr15 l15 => ?_
                    have xd := xc.trans x15
                    have at15 := at7.ext xd
                    have hlen := ra7.length
                    refine ⟨us1, at15.1, by omega, acc1 ++ [y2], us1 ++ [u], S15, F15, φ15, s15.other _ at15.2.1 at15.2.2, (x7.trans xd).other _ hL, f67.trans xd.fz, Nat.le_trans l67 xd.len, fun n hn => (xd.phi n (Nat.lt_of_lt_of_le hn l67)).trans (p67 n hn), ⟨upd_same, at15.2⟩, ?_, fun z hz' => ?_, ?_⟩
                    · exact DRA.append (xd.dra la7 ra7) (.cons dr15 .nil)
                    · rcases List.mem_append.mp hz' with h | h
                      · exact xd.lt (la7 z h)
                      · rw [List.mem_singleton.mp h]; exact l15
                    · rw [e14]; exact o9
                  · rw [if_neg hz] at e12; cases e12
                · rename_i hb1
                  rw [if_neg hb1] at e12
                  exact ⟨acc1, us1, S12, F14, φ14, s14, x7.trans xc, f67.trans xc.fz, Nat.le_trans l67 xc.len, fun n hn => (xc.phi n (Nat.lt_of_lt_of_le hn l67)).trans (p67 n hn), at7.ext xc, xc.dra la7 ra7, fun z hz' => xc.lt (la7 z hz'), by rw [e12]; exact o9⟩
          · have hd : src1.items.drop j = [] := List.drop_eq_nil_iff.mpr (by omega)
            rw [hd] at o7
            obtain ⟨acc9, S10, o8, o9⟩ := bnd_of o7
            unfold compL at o8
            by_cases hf : src1.fin S7 = true
            · rw [if_pos hf] at o8
              cases o8
              exact .inl ⟨stop1 (by omega) hf, acc1, us1, S7, F7, φ7, s7, x7, at7, ra7, la7, by rw [o9]; exact ko⟩
            · rw [if_neg hf] at o8; cases o8
        · rename_i hb
          rw [if_neg hb] at e6
          exact ⟨acc, us, S4, F5, φ5, s5, x'.trans xa, at'.ext xa, xa.dra la ra, fun z hz' => xa.lt (la z hz'), by rw [e6]; exact ko⟩
  · have hd : src.items.drop i = [] := List.drop_eq_nil_iff.mpr (by omega)
    rw [hd] at o'
    unfold compL2 at o'
    by_cases hf : src.fin S' = true
    · rw [if_pos hf] at o'
      exact .inl ⟨stop (by omega) hf, newL_at o' s' x' ra la at' hL⟩
    · rw [if_neg hf] at o'; obtain ⟨_, _, z, _⟩ := o'; cases z
theorem k_comp2 {elt : Expr} {ifs ifs1 : List Expr} {scope : Scope} {own : List (Str × Nat)} {live : Bool} (hc : X.calm = true) (hN : X.N.Nodup) (hi : PI X tg iter (LI X.K cl m)) (ok : BlkOk X.N X.env.scope scope own)
    (hg : ∀ (s : Shared) (H : Hp) (C : Addr) (cs : List (Str × Addr)) (fp : List Addr), PG (X.blk s H scope (compEnvC scope cs C X.env) fp) tg (LG X.K cl vs g)) (ht : ∀ (s : Shared) (H : Hp) (C : Addr) (cs : List (Str × Addr)) (fp : List Addr), PTs (X.blk s H scope (compEnvC scope cs C X.env) fp) ifs (LT X.K cl mt))
    (hi1 : ∀ (s : Shared) (H : Hp) (C : Addr) (cs : List (Str × Addr)) (fp : List Addr), PI (X.blk s H scope (compEnvC scope cs C X.env) fp) tg1 iter1 (LI X.K cl m1))
    (hg1 : ∀ (s : Shared) (H : Hp) (C : Addr) (cs : List (Str × Addr)) (fp : List Addr), PG (X.blk s H scope (compEnvC scope cs C X.env) fp) tg1 (LG X.K cl vs1 g1)) (ht1 : ∀ (s : Shared) (H : Hp) (C : Addr) (cs : List (Str × Addr)) (fp : List Addr), PTs (X.blk s H scope (compEnvC scope cs C X.env) fp) ifs1 (LT X.K cl mt1))
    (he : ∀ (s : Shared) (H : Hp) (C : Addr) (cs : List (Str × Addr)) (fp : List Addr), PE (X.blk s H scope (compEnvC scope cs C X.env) fp) elt (LE X.K cl me)) (hw : ∀ j ∈ vs, j ∈ own.map (·.2) := by decide) (hw1 : ∀ j ∈ vs1, j ∈ ws1 := by decide) (hw2 : ∀ j ∈ ws1, j ∈ own.map (·.2) := by decide)
    (hs : ∀ x, foldedSetIterable iter X.env x = pure x := by intro _; rfl) (hs1 : ∀ env x, foldedSetIterable iter1 env x = pure x := by intro _ _; rfl) :
    PE X (.ListComp elt [⟨tg, iter, ifs, 0⟩, ⟨tg1, iter1, ifs1, 0⟩] scope pos) (LE X.K cl (dComp2 live m g mt m1 g1 mt1 me (own.map (·.2)) ws1)) :=
  (pe_lc2 hc hN hi ok hw2 hg ht hi1 hg1 ht1 he hs hs1).imp fun _ _ _ q => e_comp2 hw hw1 q
theorem s_setComp2 {i : Nat} {y : Str} {py spos : Pos} {elt : Expr} {ifs ifs1 : List Expr} {scope : Scope} {own : List (Str × Nat)} {live : Bool} (hc : X.calm = true) (hN : X.N.Nodup) (hy : X.N[i]? = some y) (hyl : X.env.scope.names.lookup y = some .local)
    (hsw : swapsWith (.ListComp elt [⟨tg, iter, ifs, 0⟩, ⟨tg1, iter1, ifs1, 0⟩] scope pos) (some (.Name y py)) spos.line X.env = pure true) (hi : PI X tg iter (LI X.K cl m)) (ok : BlkOk X.N X.env.scope scope own)
    (hg : ∀ (s : Shared) (H : Hp) (C : Addr) (cs : List (Str × Addr)) (fp : List Addr), PG (X.blk s H scope (compEnvC scope cs C X.env) fp) tg (LG X.K cl vs g)) (ht : ∀ (s : Shared) (H : Hp) (C : Addr) (cs : List (Str × Addr)) (fp : List Addr), PTs (X.blk s H scope (compEnvC scope cs C X.env) fp) ifs (LT X.K cl mt))
    (hi1 : ∀ (s : Shared) (H : Hp) (C : Addr) (cs : List (Str × Addr)) (fp : List Addr), PI (X.blk s H scope (compEnvC scope cs C X.env) fp) tg1 iter1 (LI X.K cl m1))
    (hg1 : ∀ (s : Shared) (H : Hp) (C : Addr) (cs : List (Str × Addr)) (fp : List Addr), PG (X.blk s H scope (compEnvC scope cs C X.env) fp) tg1 (LG X.K cl vs1 g1)) (ht1 : ∀ (s : Shared) (H : Hp) (C : Addr) (cs : List (Str × Addr)) (fp : List Addr), PTs (X.blk s H scope (compEnvC scope cs C X.env) fp) ifs1 (LT X.K cl mt1))
    (he : ∀ (s : Shared) (H : Hp) (C : Addr) (cs : List (Str × Addr)) (fp : List Addr), PE (X.blk s H scope (compEnvC scope cs C X.env) fp) elt (LE X.K cl me)) (hw : ∀ j ∈ vs, j ∈ own.map (·.2) := by decide) (hw1 : ∀ j ∈ vs1, j ∈ ws1 := by decide) (hw2 : ∀ j ∈ ws1, j ∈ own.map (·.2) := by decide)
    (hs : ∀ x, foldedSetIterable iter X.env x = pure x := by intro _; rfl) (hs1 : ∀ env x, foldedSetIterable iter1 env x = pure x := by intro _ _; rfl) :
    PS X (.Assign [.Name y py] (.ListComp elt [⟨tg, iter, ifs, 0⟩, ⟨tg1, iter1, ifs1, 0⟩] scope pos) spos) (LS X.K cl (dSet i (dComp2 live m g mt m1 g1 mt1 me (own.map (·.2)) ws1))) := by
  refine (ps_setLc2 hc hN hy hyl hsw hi ok hw2 hg ht hi1 hg1 ht1 he hs hs1).imp fun Z σ H q => ?_
  obtain ⟨σd, S, B, F, φ, s, rs, o⟩ := q
  obtain ⟨d, S1, e1, o1⟩ := okS_bnd o
  obtain ⟨_, _, z, k⟩ := o1
  cases z
  exact e_comp2 hw hw1 ⟨σd, S, B, F, φ, s, rs, d, S1, e1, fun F1 φ1 H1 u s1 x1 dr l => k F1 φ1 H1 _ s1 x1 ((x1.rs rs).set i dr l)⟩
end
end Pv
/-! .index of texts; tuples of the module -/
namespace Pv
open PySem PySem.Spec PyProof.Rows L2
def idxS (z : Str) : List Str → Option Nat
  | [] => none
  | y :: r => if y = z then some 0 else (idxS z r).map (· + 1)
theorem idxS_ok {z : Str} : ∀ {ys : List Str} {j : Nat}, idxS z ys = some j → ys[j]? = some z ∧ ∀ m, m < j → ys[m]? ≠ some z
  | [], j, h => by cases h
  | y :: r, j, h => by
    unfold idxS at h
    by_cases e : y = z
    · rw [if_pos e] at h
      cases h
      exact ⟨by rw [e]; rfl, fun m hm => absurd hm (Nat.not_lt_zero _)⟩
    · rw [if_neg e] at h
      cases e1 : idxS z r with
      | none => rw [e1] at h; cases h
      | some i =>
        rw [e1] at h
        cases h
        obtain ⟨h1, h2⟩ := idxS_ok e1
        refine ⟨h1, fun m hm => ?_⟩
        cases m with
        | zero => intro q; exact e (Option.some.inj q)
        | succ m => exact h2 m (Nat.lt_of_succ_lt_succ hm)
def fIndex : MF := fun ds S => match ds with
  | [d, .p (.str z)] => match asL d S with
    | some xs => match strsOf xs with
      | some zs => match idxS z zs with
        | some j => some (.p (.int (j : Nat)), S)
        | none => none
      | none => none
    | none => none
  | _ => none
section
variable {X : Cx} {K : PySem.W.Frag} {cl : Nat → Addr}
theorem flat_str (ys : List Str) : (ys.map V.str).all flatV = true := by
  rw [List.all_map, List.all_eq_true]
  exact fun _ _ => rfl
theorem d_index : MtD K cl fIndex "list" (rIndex K) := by
  intro S B F φ H d ds x xs Q s r l rs ls o
  unfold fIndex at o
  split at o
  · rename_i d' z e0
    obtain ⟨rfl, rfl⟩ := List.cons.inj e0
    cases e1 : asL d S with
    | none => rw [e1] at o; exact o.no
    | some us =>
    rw [e1] at o
    dsimp only at o
    cases e2 : strsOf us with
    | none => rw [e2] at o; exact o.no
    | some zs =>
    rw [e2] at o
    dsimp only at o
    cases e3 : idxS z zs with
    | none => rw [e3] at o; exact o.no
    | some j =>
    rw [e3] at o
    obtain ⟨a, vs, rfl, hq, ra, _⟩ := asL_ok s e1 r l
    have ev := strsOf_of e2 ra
    subst ev
    cases rs with
    | cons r1 r2 =>
      cases r2
      have ex := drS r1
      subst ex
      obtain ⟨h1, h2⟩ := idxS_ok e3
      refine ⟨a, zs.map V.str, .str z, j, .str z, rfl, rfl, hq, rfl, flat_str zs, by rw [List.getElem?_map, h1]; rfl, by simp [eqV], fun m z' hm hz => ?_, o.fin0 rfl s (.int _) trivial⟩
      rw [List.getElem?_map] at hz
      cases e4 : zs[m]? with
      | none => rw [e4] at hz; cases hz
      | some y =>
        rw [e4] at hz
        cases hz
        have hne : y ≠ z := fun q => h2 m hm (by rw [e4, q])
        simpa [eqV] using hne
  · exact o.no
/-- a tuple of the module -/
def TupC (K : PySem.W.Frag) (v : V) : Prop := ∃ (a : Addr) (o : Obj), v = .ref a ∧ K.lookup a = some o ∧ o.cls = .type "tuple" ∧ o.dict = none
theorem rp_const {F : Hp} {a : Addr} {o : Obj} {its : Array Value} {n : Nat} {ps : List P} {vs : List V} (h : K.lookup a = some o) (hc : o.cls = .type "tuple") (hd : o.data = .seq its n) (hz : its.size ≤ sizeLine) (hv : Vals vs its.toList) (hp : RpA K cl F ps vs) : Rp K cl F (.tup ps) (.ref a) :=
  .tup (.inr ⟨o, its, n, h, hc, hd, hz, hv⟩) hp
def strsP (ps : List P) : Option (List Str) := strsOf (ps.map D.p)
def idxC (q : P) (ds : List D) : Option Nat := match q, ds with
  | .tup ps, [.p (.str z)] => (strsP ps).bind (idxS z)
  | _, _ => none
theorem idxC_of {q : P} {ds : List D} {j : Nat} (h : idxC q ds = some j) : ∃ ps z zs, q = .tup ps ∧ ds = [.p (.str z)] ∧ strsP ps = some zs ∧ idxS z zs = some j := by
  unfold idxC at h
  split at h
  · rename_i ps z
    cases e : strsP ps with
    | none => rw [e] at h; cases h
    | some zs => rw [e] at h; exact ⟨ps, z, zs, rfl, rfl, e, h⟩
  · cases h
def dIdxC (q : P) (ma : MA) : ME := fun σ S => bnd (ma σ S) fun ds S1 => match idxC q ds with
  | some j => some (.p (.int (j : Nat)), S1)
  | none => none
theorem k_idxC {x : Str} {v : V} {u : Value} {q : P} {p apos cpos : Pos} {e : Expr} {ma : MA} (hg : Gl X x) (hm : X.mg x = some u) (r : RelV v u) (hq : ∀ F, Rp X.K cl F q v) (ht : TupC X.K v) (ha : PA X [e] (LA X.K cl ma)) (hdb : (x == ("__debug__" : Str)) = false := by decide)
    (hbase : attributeBase (.Name x p) "index" X.env (eval (.Name x p) X.env) = eval (.Name x p) X.env := by rfl)
    (hfew : ((backTo cpos (starEach [e] X.env)).all (fun x => !x.1) && (backToKw cpos (keywordEach [] X.env)).all (fun x => x.1.isSome)
      && decide (([e] : List Expr).length + ([] : List Keyword).length + (if ([] : List Keyword).isEmpty then 0 else 1) < 30)) = true := by rfl)
    (hline : (apos.endLine == cpos.line) = true := by rfl) (hs : starEach [e] X.env = (false, eval e X.env) :: starEach [] X.env := by rfl) (hplain : (backTo cpos (starEach [] X.env)).any (·.1) = false := by rfl) :
    PE X (.Call (.Attribute (.Name x p) "index" apos) [e] [] cpos) (LE X.K cl (dIdxC q ma)) := by
  refine (pe_bm PySem.F.plainAttrs_tuple PySem.F.slot_tuple_index PySem.F.type_tuple_index mt_tup_index (pe_glob hg hm r hdb) ha hbase hfew hline hs hplain).imp fun σ H Q h => ?_
  obtain ⟨σd, S, B, F, φ, s, rs, o⟩ := h
  obtain ⟨ds, S1, e1, o⟩ := okE_bnd o
  obtain ⟨a, ob, rfl, hk, hc, hd⟩ := ht
  refine ⟨.inr (.inl ⟨rfl, ob, hk, hc, hd⟩), LA.then_ s rs e1 fun F1 φ1 H1 us s1 x1 rs1 dr l => ?_⟩
  have o2 := o.ext x1
  clear o
  have hq1 := hq F1
  cases e0 : idxC q ds with
  | none => rw [e0] at o2; exact o2.no
  | some j =>
  rw [e0] at o2
  obtain ⟨ps, z, zs, rfl, rfl, e2, e3⟩ := idxC_of e0
  cases hq1 with
  | tup st ra =>
    cases dr with
    | cons r1 r2 =>
      cases r2
      have ex := drS r1
      subst ex
      have ev := strsOf_of (F := F1) (φ := φ1) e2 ra.dra
      subst ev
      obtain ⟨h1, h2⟩ := idxS_ok e3
      exact ⟨_, zs, z, j, rfl, rfl, SqT.mono s1.le st, h1, h2, o2.fin0 rfl s1 (.int _) trivial⟩
/-! ### a text, walked -/
def charsP (z : Str) : List P := z.cps.toList.map fun c => P.str ⟨#[c]⟩
def srcS (d : D) (S : SH) : Option (Src × SH) := match d with
  | .p (.str z) => some (srcP (charsP z), S)
  | _ => none
def dItS (m : ME) : MI := fun σ S => bnd (m σ S) srcS
theorem rpA_chars {F : Hp} : ∀ l : List Nat, RpA K cl F (l.map fun c => P.str ⟨#[c]⟩) (l.map fun c => V.str ⟨#[c]⟩)
  | [] => .nil
  | c :: l => .cons (.str _) (rpA_chars l)
theorem pi_strD {tg e : Expr} {me : ME} (he : PE X e (LE X.K cl me)) : PI X tg e (LI X.K cl (dItS me)) := by
  refine ⟨fun pins s σ H R I h => (pi_str he).run pins s σ H R I ?_⟩
  obtain ⟨σd, S, B, F, φ, sm, rs, src, S1, e0, k⟩ := h
  obtain ⟨d, S2, e1, e2⟩ := bnd_of e0
  refine LE.then_ sm rs e1 fun F1 φ1 H1 x s1 x1 rs1 dr l => ?_
  unfold srcS at e2
  split at e2
  · rename_i z
    cases e2
    have ex := drS dr
    subst ex
    refine ⟨z, rfl, k F1 φ1 H1 _ s1 x1 (itD_seq (rpA_chars z.cps.toList) (fun H sf i y hy => ?_) (fun H sf i y hy v H2 hv => ?_) fun H sf i hi => ?_)⟩
    · have h1 := (List.getElem?_eq_some_iff.mp hy).1
      rw [List.length_map, Array.length_toList] at h1
      exact h1
    · obtain ⟨h1, c, h2, h3⟩ := hv
      refine ⟨h1, ?_⟩
      rw [List.getElem?_map, Array.getElem?_toList, h2] at hy
      rw [h3]
      exact (Option.some.inj hy)
    · rw [List.length_map, Array.length_toList] at hi
      exact hi
  · cases e2
/-! ### a text times a number -/
def repS (z : Str) (n : Nat) : Str := ⟨(List.replicate n z.cps).foldl (· ++ ·) #[]⟩
theorem rep_size (x : Array Nat) : ∀ (n : Nat) (acc : Array Nat), ((List.replicate n x).foldl (· ++ ·) acc).size = acc.size + n * x.size
  | 0, acc => by simp
  | n + 1, acc => by
    rw [List.replicate_succ, List.foldl_cons, rep_size x n, Array.size_append, Nat.succ_mul]
    omega
theorem repS_len (z : Str) (n : Nat) : (repS z n).length = n * z.length := by
  show ((List.replicate n z.cps).foldl (· ++ ·) #[]).size = n * z.cps.size
  rw [rep_size]
  simp
def rMulS : R2 := fun x y H Q => ∃ (z : Str) (n : Nat), x = .str z ∧ y = .int (n : Int) ∧ n ≤ 10000 ∧ z.length ≤ 100 ∧ Q (.str (repS z n)) H
theorem o_mulS : OpR X (binaryOp .Mult) rMulS := by
  intro pins s σ H x y v u Q I rx ry h
  obtain ⟨z, n, rfl, rfl, hn, z2, q⟩ := h
  obtain ⟨t, rfl⟩ := rx
  obtain ⟨t', rfl⟩ := ry
  have hm : z.length * n ≤ 1000000 := Nat.le_trans (Nat.mul_le_mul z2 hn) (by decide)
  have line : 1000000 ≤ sizeLine := by unfold sizeLine; decide
  have fin0 : ∀ (r : Str), r.cps = (repS z n).cps → r = repS z n := fun r e => by
    cases r
    exact congrArg Str.mk e
  refine PySem.P.mul_str (by rw [decide_eq_false (by omega), decide_eq_false (by omega)]; rfl) (fun h1 _ => ?_) (fun _ _ => ?_) ?_
  · have hd : ((2 : Int) ^ 63 - 1) / (10000 : Int) ≤ (2 ^ 63 - 1) / (n : Int) := Int.le_ediv_of_mul_le (by omega) (by
      have : ((2 : Int) ^ 63 - 1) / 10000 = 922337203685477 := by decide
      rw [this]
      have hq : (922337203685477 : Int) * (n : Int) ≤ 922337203685477 * 10000 := Int.mul_le_mul_of_nonneg_left (by omega) (by decide)
      omega)
    have hc : ((2 : Int) ^ 63 - 1) / 10000 = 922337203685477 := by decide
    omega
  · rw [Int.toNat_natCast]
    unfold Builtin.Str.tooLong
    exact decide_eq_false (by omega)
  · by_cases h1 : (n : Int) < 1
    · rw [if_pos h1]
      have e : n = 0 := by omega
      subst e
      refine ⟨by show (0 : Nat) ≤ _; exact Nat.zero_le _, .str (repS z 0), H, I.tok _, ⟨_, rfl⟩, q⟩
    · rw [if_neg h1]
      by_cases h2 : ((n : Int) == 1 || z.length == 0) = true
      · rw [if_pos h2]
        have e : z = repS z n := by
          refine fin0 z ?_
          rw [Bool.or_eq_true] at h2
          rcases h2 with h2 | h2
          · have e : n = 1 := by
              have := beq_iff_eq.mp h2
              omega
            subst e
            show z.cps = #[] ++ z.cps
            simp
          · have e0 : z.cps.size = 0 := beq_iff_eq.mp h2
            have e1 : z.cps = #[] := Array.eq_empty_of_size_eq_zero e0
            have e2 : (repS z n).cps.size = 0 := by
              have := repS_len z n
              have h : (repS z n).cps.size = n * z.cps.size := this
              rw [h, e0, Nat.mul_zero]
            rw [e1, Array.eq_empty_of_size_eq_zero e2]
        exact ⟨.str (repS z n), H, I, ⟨t, by rw [← e]⟩, q⟩
      · rw [if_neg h2]
        refine ⟨?_, .str (repS z n), H, I.tok _, ⟨_, rfl⟩, q⟩
        show (repS z n).length ≤ sizeLine
        rw [repS_len, Nat.mul_comm]
        exact Nat.le_trans hm line
/-- * of ints, or of a text and an int -/
def fMulS (d e : D) (S : SH) : Option (D × SH) := match d, e with
  | .p (.str z), .p (.int n) => if 0 ≤ n ∧ n ≤ 10000 ∧ z.length ≤ 100 then some (.p (.str (repS z n.toNat)), S) else none
  | _, _ => none
theorem d_mulS : OpD K cl fMulS rMulS := by
  intro S B F φ H d1 d2 x y Q s r1 r2 l1 l2 o
  unfold fMulS at o
  split at o
  · rename_i z n
    split at o
    · rename_i h
      refine ⟨z, n.toNat, drS r1, by rw [drI r2]; congr 1; omega, by omega, h.2.2, o.fin0 rfl s (.str _) trivial⟩
    · exact o.no
  · exact o.no
end
end Pv
/-! reading the computations by simp -/
namespace Pv
open PySem PySem.Spec PyProof.Rows L2
section
variable {f g : D → D → SH → Option (D × SH)} {u : D → SH → Option (D × SH)} {a b c : ME} {t t1 t2 : MT} {r : MA} {m : MF} {s1 s2 : MS} {σ : En} {S S' : SH}
@[simp] theorem at_dC (x : P) : dC x σ S = some (.p x, S) := id rfl
@[simp] theorem at_dVar (i : Nat) : dVar i σ S = match σ[i]? with | some (some d) => some (d, S) | _ => none := id rfl
@[simp] theorem at_dOp : dOp f a b σ S = bnd (a σ S) fun x S1 => bnd (b σ S1) fun y S2 => f x y S2 := id rfl
@[simp] theorem at_dUn : dUn u a σ S = bnd (a σ S) fun x S1 => u x S1 := id rfl
@[simp] theorem at_dTest : dTest a σ S = bnd (a σ S) toB := id rfl
@[simp] theorem at_dAnd : dAnd t1 t2 σ S = bnd (t1 σ S) fun t S1 => if t = true then t2 σ S1 else some (false, S1) := id rfl
@[simp] theorem at_dOr : dOr t1 t2 σ S = bnd (t1 σ S) fun t S1 => if t = true then some (true, S1) else t2 σ S1 := id rfl
@[simp] theorem at_dNot : dNot t σ S = bnd (t σ S) fun x S1 => some (!x, S1) := id rfl
@[simp] theorem at_dNotV : dNotV a σ S = bnd (a σ S) fun d S1 => bnd (toB d S1) fun t S2 => some (.p (.bl (!t)), S2) := id rfl
@[simp] theorem at_dAndV : dAndV a b σ S = bnd (a σ S) fun d S1 => bnd (toB d S1) fun t S2 => if t = true then b σ S2 else some (.p (.bl false), S2) := id rfl
@[simp] theorem at_dOrV : dOrV a b σ S = bnd (a σ S) fun d S1 => bnd (toB d S1) fun t S2 => if t = true then some (.p (.bl true), S2) else b σ S2 := id rfl
@[simp] theorem at_dIfE : dIfE t a b σ S = bnd (t σ S) fun t S1 => if t = true then a σ S1 else b σ S1 := id rfl
@[simp] theorem at_dNil : dNil σ S = some ([], S) := id rfl
@[simp] theorem at_dCons : dCons a r σ S = bnd (a σ S) fun x S1 => bnd (r σ S1) fun xs S2 => some (x :: xs, S2) := id rfl
@[simp] theorem at_dCall : dCall m r σ S = bnd (r σ S) fun xs S1 => m xs S1 := id rfl
@[simp] theorem at_dNx : dNx σ S = some (.nx σ, S) := id rfl
def seqK (b : MS) : Fl → SH → Option (Fl × SH)
  | .nx σ1, S1 => b σ1 S1
  | r, S1 => some (r, S1)
@[simp] theorem seqK_nx (σ1 : En) : seqK s2 (.nx σ1) S = s2 σ1 S := id rfl
@[simp] theorem seqK_ret (d : D) : seqK s2 (.ret d) S = some (.ret d, S) := id rfl
@[simp] theorem seqK_brk (σ1 : En) : seqK s2 (.brk σ1) S = some (.brk σ1, S) := id rfl
@[simp] theorem seqK_ct (σ1 : En) : seqK s2 (.ct σ1) S = some (.ct σ1, S) := id rfl
@[simp] theorem at_dSeq : dSeq s1 s2 σ S = bnd (s1 σ S) (seqK s2) := by
  unfold dSeq
  congr 1
  funext f S1
  cases f <;> rfl
@[simp] theorem at_dBrk : dBrk σ S = some (.brk σ, S) := id rfl
@[simp] theorem at_dCt : dCt σ S = some (.ct σ, S) := id rfl
@[simp] theorem at_dDrop : dDrop a σ S = bnd (a σ S) fun _ S1 => some (.nx σ, S1) := id rfl
@[simp] theorem at_dRet : dRet a σ S = bnd (a σ S) fun d S1 => some (.ret d, S1) := id rfl
@[simp] theorem at_dRetN : dRetN σ S = some (.ret (.p .non), S) := id rfl
@[simp] theorem at_dIf : dIf t s1 s2 σ S = bnd (t σ S) fun t S1 => if t = true then s1 σ S1 else s2 σ S1 := id rfl
@[simp] theorem at_dSet (i : Nat) : dSet i a σ S = bnd (a σ S) fun d S1 => some (.nx (σ.set i (some d)), S1) := id rfl
@[simp] theorem at_dTup : dTup r σ S = bnd (r σ S) fun ds S1 => newT ds S1 := id rfl
@[simp] theorem at_dLst (live : Bool) : dLst live r σ S = bnd (r σ S) fun ds S1 => newL live ds S1 := id rfl
@[simp] theorem at_dYes : dYes σ S = some (true, S) := id rfl
@[simp] theorem at_dTru : dTru a σ S = bnd (a σ S) truD := id rfl
@[simp] theorem at_dChain : dChain f g a b c σ S = bnd (a σ S) fun x S1 => bnd (b σ S1) fun y S2 => bnd (f x y S2) fun z S3 => bnd (toB z S3) fun t S4 => if t = true then bnd (c σ S4) fun w S5 => g y w S5 else some (.p (.bl false), S4) := id rfl
@[simp] theorem at_dMeth (k : Nat) (nm : Str) : dMeth k nm m a r σ S = bnd (a σ S) fun d S1 => match fldsOf d S1 with
  | some (c', fs) => if c' = k ∧ fs.lookup nm = none then bnd (r σ S1) fun xs S2 => m (d :: xs) S2 else none
  | none => none := id rfl
@[simp] theorem at_dBM (T : String) : dBM T m a r σ S = bnd (a σ S) fun d S1 => if isTy T d S1 = true then bnd (r σ S1) fun ds S2 => m (d :: ds) S2 else none := id rfl
@[simp] theorem at_gNm (i : Nat) (d : D) : gNm i d σ S = some (σ.set i (some d), S) := id rfl
@[simp] theorem at_dAsg {gg : MG} : dAsg a gg σ S = bnd (a σ S) fun d S1 => bnd (gg d σ S1) fun σ2 S2 => some (.nx σ2, S2) := id rfl
@[simp] theorem at_gSb (d : D) : gSb a b d σ S = bnd (a σ S) fun x S1 => bnd (b σ S1) fun y S2 => match setIx x y d S2 with | some S3 => some (σ, S3) | none => none := id rfl
@[simp] theorem at_gNl : gNl [] σ S = some (σ, S) := id rfl
@[simp] theorem at_gCn {g1 : MG} {g2 : MGs} (d : D) (ds : List D) : gCn g1 g2 (d :: ds) σ S = bnd (g1 d σ S) fun σ1 S1 => g2 ds σ1 S1 := id rfl
@[simp] theorem at_gTp (n : Nat) {g2 : MGs} (ps : List P) : gTp n g2 (.p (.tup ps)) σ S = if ps.length = n then g2 (ps.map .p) σ S else none := id rfl
@[simp] theorem at_dFor (ws : List Nat) {mi : MI} {gg : MG} : dFor ws mi gg s1 σ S = bnd (mi σ S) fun src S1 => forL ws src.fin gg s1 src.items (wipeD ws σ) S1 := id rfl
@[simp] theorem at_dComp (live : Bool) {mi : MI} {gg : MG} (vs : List Nat) : dComp live mi gg t a vs σ S = bnd (mi σ S) fun src S1 => bnd (compL src.fin gg t a (wipeD vs σ) src.items [] S1) fun ds S2 => newL live ds S2 := id rfl
@[simp] theorem at_dIt : dIt a σ S = bnd (a σ S) srcOf := id rfl
@[simp] theorem at_dRng1 : dRng1 r σ S = bnd (r σ S) rng1 := id rfl
@[simp] theorem at_dRng2 : dRng2 r σ S = bnd (r σ S) rng2 := id rfl
@[simp] theorem at_fn (k n : Nat) (ds : List D) : dFn k n s1 ds S = if ds.length = k then frameF S (s1 (startD n ds) ⟨S.os.length, S.os⟩) else none := id rfl
@[simp] theorem at_fnL (k n : Nat) (ds : List D) : dFnL k n s1 ds S = if ds.length = k then liveF (s1 (startD n ds) S) else none := id rfl
theorem fn_at {k n : Nat} {ds : List D} (h : ds.length = k) : dFn k n s1 ds S = frameF S (s1 (startD n ds) ⟨S.os.length, S.os⟩) := if_pos h
theorem fnL_at {k n : Nat} {ds : List D} (h : ds.length = k) : dFnL k n s1 ds S = liveF (s1 (startD n ds) S) := if_pos h
@[simp] theorem live_ret (d : D) : liveF (some (.ret d, S)) = some (d, S) := id rfl
@[simp] theorem live_nx (σ : En) : liveF (some (.nx σ, S)) = some (.p .non, S) := id rfl
@[simp] theorem frame_p (x : P) (S1 : SH) : frameF S (some (.ret (.p x), S1)) = some (.p x, cutS S S1) := id rfl
@[simp] theorem frame_nx (σ : En) (S1 : SH) : frameF S (some (.nx σ, S1)) = some (.p .non, cutS S S1) := id rfl
@[simp] theorem cut_self (k : Nat) : cutS S ⟨k, S.os⟩ = S := by
  unfold cutS SH.len
  rw [List.take_length]
@[simp] theorem cut_app (k : Nat) (l : List Ob) : cutS S ⟨k, S.os ++ l⟩ = S := by
  unfold cutS SH.len
  simp
/-- a new list comes back as data -/
theorem frame_ref {n : Nat} {S1 : SH} {ps : List P} (hn : S.os.length ≤ n) (e : S1.os[n]? = some (.lst (ps.map D.p))) : frameF S (some (.ret (.ref n), S1)) = some (.p (.lst ps), cutS S S1) := by
  have h : ∀ (k : Nat), (ps.map D.p).mapM (toP k S.len S1) = some ps := fun k => by
    induction ps with
    | nil => rfl
    | cons p ps ih =>
      have q : (ps.map D.p).mapM (toP k S.len S1) = some ps := by
        clear e ih
        induction ps with
        | nil => rfl
        | cons p ps ih => rw [List.map_cons, List.mapM_cons, ih]; cases k <;> rfl
      rw [List.map_cons, List.mapM_cons, q]; cases k <;> rfl
  have h2 : outD S.len S1 (.ref n) = some (.p (.lst ps)) := by
    unfold outD
    dsimp only
    rw [if_neg (by unfold SH.len; omega)]
    unfold toP
    rw [if_neg (by unfold SH.len; omega), e]
    dsimp only
    rw [h]
    rfl
  show (match outD S.len S1 (.ref n) with | some d' => some (d', cutS S S1) | none => none) = _
  rw [h2]
@[simp] theorem newT_p (ps : List P) (h : ps.length ≤ sizeLine) : newT (ps.map D.p) S = some (.p (.tup ps), S) := by
  unfold newT
  rw [toPs_map]
  exact if_pos h
theorem newL_f (ps : List P) (h : ps.length ≤ sizeLine) : newL false (ps.map D.p) S = some (.p (.lst ps), S) := by
  unfold newL
  rw [List.length_map, if_pos h, if_neg Bool.false_ne_true, toPs_map]
theorem newL_t (ds : List D) (h : ds.length ≤ sizeLine) : newL true ds S = some (.ref S.os.length, ⟨S.b, S.os ++ [.lst ds]⟩) := by
  unfold newL
  rw [if_pos h, if_pos rfl]
end
theorem line_ge : 1000000 ≤ sizeLine := by unfold sizeLine; decide
/-! loops and comprehensions -/
section
variable {body : MS} {t : MT} {elt : ME} {ws : List Nat} {fin : SH → Bool} {g : MG}
/-- a loop whose turns all go on -/
theorem forL_all (st : Nat → En) (Ss : Nat → SH) : ∀ (items : List (SH → Option D)) (k : Nat), fin (Ss (k + items.length)) = true →
    (∀ i it, items[i]? = some it → ∃ d σ1 S1, it (Ss (k + i)) = some d ∧ g d (st (k + i)) (Ss (k + i)) = some (σ1, S1) ∧ ∃ σ2, (body σ1 S1 = some (.nx σ2, Ss (k + i + 1)) ∨ body σ1 S1 = some (.ct σ2, Ss (k + i + 1))) ∧ wipeD ws σ2 = st (k + i + 1)) →
    forL ws fin g body items (st k) (Ss k) = some (.nx (st (k + items.length)), Ss (k + items.length))
  | [], k, hf, _ => by
    have hf' : fin (Ss k) = true := hf
    rw [forL, if_pos hf']; rfl
  | it :: items, k, hf, h => by
    obtain ⟨d, σ1, S1, h1, h2, σ2, h3, h4⟩ := h 0 it rfl
    rw [Nat.add_zero] at h1 h2 h3 h4
    have e : k + (it :: items).length = (k + 1) + items.length := by rw [List.length_cons]; omega
    have ih := forL_all st Ss items (k + 1) (by rw [← e]; exact hf) fun i it' hi => by
      have q := h (i + 1) it' (by simpa using hi)
      have e2 : k + (i + 1) = k + 1 + i := by omega
      rw [e2] at q
      exact q
    rw [forL, h1]
    dsimp only
    rw [h2, bnd_some]
    rw [e]
    rcases h3 with h3 | h3
    · rw [h3, bnd_some]; dsimp only; rw [h4]; exact ih
    · rw [h3, bnd_some]; dsimp only; rw [h4]; exact ih
/-- .. over a range -/
theorem for_rng {j : Nat} (st : Nat → En) (Ss : Nat → SH) (lo : Int) (n : Nat)
    (h : ∀ i, i < n → ∃ σ2, (body ((st i).set j (some (.p (.int (lo + (i : Int)))))) (Ss i) = some (.nx σ2, Ss (i + 1)) ∨ body ((st i).set j (some (.p (.int (lo + (i : Int)))))) (Ss i) = some (.ct σ2, Ss (i + 1))) ∧ wipeD ws σ2 = st (i + 1)) :
    forL ws (srcN lo n).fin (gNm j) body (srcN lo n).items (st 0) (Ss 0) = some (.nx (st n), Ss n) := by
  have hl : (srcN lo n).items.length = n := by simp [srcN]
  have q := forL_all (body := body) (ws := ws) (g := gNm j) (fin := (srcN lo n).fin) st Ss (srcN lo n).items 0 rfl fun i it hi => by
    simp only [srcN, List.getElem?_map] at hi
    cases e : (List.range n)[i]? with
    | none => rw [e] at hi; cases hi
    | some i' =>
      rw [e] at hi
      cases hi
      obtain ⟨h1, h2⟩ := List.getElem?_eq_some_iff.mp e
      rw [List.getElem_range] at h2
      subst h2
      rw [List.length_range] at h1
      rw [Nat.zero_add]
      obtain ⟨σ2, a, b⟩ := h i h1
      exact ⟨_, _, _, rfl, rfl, σ2, a, b⟩
  rw [hl, Nat.zero_add] at q
  exact q
/-- .. over data -/
theorem for_p {j : Nat} (st : Nat → En) (Ss : Nat → SH) (ps : List P)
    (h : ∀ i p, ps[i]? = some p → ∃ σ2, (body ((st i).set j (some (.p p))) (Ss i) = some (.nx σ2, Ss (i + 1)) ∨ body ((st i).set j (some (.p p))) (Ss i) = some (.ct σ2, Ss (i + 1))) ∧ wipeD ws σ2 = st (i + 1)) :
    forL ws (srcP ps).fin (gNm j) body (srcP ps).items (st 0) (Ss 0) = some (.nx (st ps.length), Ss ps.length) := by
  have hl : (srcP ps).items.length = ps.length := by simp [srcP]
  have q := forL_all (body := body) (ws := ws) (g := gNm j) (fin := (srcP ps).fin) st Ss (srcP ps).items 0 rfl fun i it hi => by
    simp only [srcP, List.getElem?_map] at hi
    cases e : ps[i]? with
    | none => rw [e] at hi; cases hi
    | some p =>
      rw [e] at hi
      cases hi
      rw [Nat.zero_add]
      obtain ⟨σ2, a, b⟩ := h i p e
      exact ⟨_, _, _, rfl, rfl, σ2, a, b⟩
  rw [hl, Nat.zero_add] at q
  exact q
/-- a loop by an invariant -/
theorem forL_inv (J : Nat → En → SH → Prop) : ∀ (items : List (SH → Option D)) (k : Nat) (σ : En) (S : SH), J k σ S → (∀ σ S, J (k + items.length) σ S → fin S = true) →
    (∀ i it σ S, items[i]? = some it → J (k + i) σ S → ∃ d σ1 S1, it S = some d ∧ g d σ S = some (σ1, S1) ∧ ∃ σ2 S2, (body σ1 S1 = some (.nx σ2, S2) ∨ body σ1 S1 = some (.ct σ2, S2)) ∧ J (k + i + 1) (wipeD ws σ2) S2) →
    ∃ σ' S', forL ws fin g body items σ S = some (.nx σ', S') ∧ J (k + items.length) σ' S'
  | [], k, σ, S, hj, hf, _ => ⟨σ, S, by rw [forL, if_pos (hf σ S hj)], hj⟩
  | it :: items, k, σ, S, hj, hf, h => by
    obtain ⟨d, σ1, S1, h1, h2, σ2, S2, h3, h4⟩ := h 0 it σ S rfl hj
    have e : k + (it :: items).length = (k + 1) + items.length := by rw [List.length_cons]; omega
    rw [e] at hf ⊢
    obtain ⟨σ', S', r1, r2⟩ := forL_inv J items (k + 1) _ S2 h4 hf fun i it' σ S hi hj => by
      have e2 : k + 1 + i = k + (i + 1) := by omega
      rw [e2] at hj ⊢
      exact h (i + 1) it' σ S (by simpa using hi) hj
    refine ⟨σ', S', ?_, r2⟩
    rw [forL, h1]
    dsimp only
    rw [h2, bnd_some]
    rcases h3 with h3 | h3 <;> (rw [h3, bnd_some]; exact r1)
theorem rng_inv {j : Nat} (J : Nat → En → SH → Prop) (lo : Int) (n : Nat) {σ : En} {S : SH} (h0 : J 0 σ S)
    (h : ∀ i σ S, i < n → J i σ S → ∃ σ2 S2, (body (σ.set j (some (.p (.int (lo + (i : Int)))))) S = some (.nx σ2, S2) ∨ body (σ.set j (some (.p (.int (lo + (i : Int)))))) S = some (.ct σ2, S2)) ∧ J (i + 1) (wipeD ws σ2) S2) :
    ∃ σ' S', forL ws (srcN lo n).fin (gNm j) body (srcN lo n).items σ S = some (.nx σ', S') ∧ J n σ' S' := by
  have hl : (srcN lo n).items.length = n := by simp [srcN]
  have q := forL_inv (body := body) (ws := ws) (g := gNm j) (fin := (srcN lo n).fin) J (srcN lo n).items 0 σ S h0 (fun _ _ _ => rfl) fun i it σ S hi hj => by
    simp only [srcN, List.getElem?_map] at hi
    cases e : (List.range n)[i]? with
    | none => rw [e] at hi; cases hi
    | some i' =>
      rw [e] at hi
      cases hi
      obtain ⟨h1, h2⟩ := List.getElem?_eq_some_iff.mp e
      rw [List.getElem_range] at h2
      subst h2
      rw [List.length_range] at h1
      rw [Nat.zero_add] at hj ⊢
      obtain ⟨σ2, S2, a, b⟩ := h i σ S h1 hj
      exact ⟨_, _, _, rfl, rfl, σ2, S2, a, b⟩
  rw [hl, Nat.zero_add] at q
  exact q
theorem rng0_inv {j : Nat} (J : Nat → En → SH → Prop) (n : Nat) {σ : En} {S : SH} (h0 : J 0 σ S)
    (h : ∀ i σ S, i < n → J i σ S → ∃ σ2 S2, (body (σ.set j (some (.p (.int (i : Int))))) S = some (.nx σ2, S2) ∨ body (σ.set j (some (.p (.int (i : Int))))) S = some (.ct σ2, S2)) ∧ J (i + 1) (wipeD ws σ2) S2) :
    ∃ σ' S', forL ws (srcN 0 n).fin (gNm j) body (srcN 0 n).items σ S = some (.nx σ', S') ∧ J n σ' S' :=
  rng_inv J 0 n h0 fun i σ S hi hj => by
    rw [Int.zero_add]
    exact h i σ S hi hj
theorem p_inv {j : Nat} (J : Nat → En → SH → Prop) (ps : List P) {σ : En} {S : SH} (h0 : J 0 σ S)
    (h : ∀ i p σ S, ps[i]? = some p → J i σ S → ∃ σ2 S2, (body (σ.set j (some (.p p))) S = some (.nx σ2, S2) ∨ body (σ.set j (some (.p p))) S = some (.ct σ2, S2)) ∧ J (i + 1) (wipeD ws σ2) S2) :
    ∃ σ' S', forL ws (srcP ps).fin (gNm j) body (srcP ps).items σ S = some (.nx σ', S') ∧ J ps.length σ' S' := by
  have hl : (srcP ps).items.length = ps.length := by simp [srcP]
  have q := forL_inv (body := body) (ws := ws) (g := gNm j) (fin := (srcP ps).fin) J (srcP ps).items 0 σ S h0 (fun _ _ _ => rfl) fun i it σ S hi hj => by
    simp only [srcP, List.getElem?_map] at hi
    cases e : ps[i]? with
    | none => rw [e] at hi; cases hi
    | some p =>
      rw [e] at hi
      cases hi
      rw [Nat.zero_add] at hj ⊢
      obtain ⟨σ2, S2, a, b⟩ := h i p σ S e hj
      exact ⟨_, _, _, rfl, rfl, σ2, S2, a, b⟩
  rw [hl, Nat.zero_add] at q
  exact q
theorem put_last (b : Nat) (os : List Ob) (x y : Ob) : SH.put ⟨b, os ++ [x]⟩ os.length y = ⟨b, os ++ [y]⟩ := by
  unfold SH.put
  simp
theorem at_last (b : Nat) (os : List Ob) (x : Ob) : (SH.mk b (os ++ [x])).os[os.length]? = some x := by simp
/-- a comprehension whose element changes nothing: its items as a filter and a map -/
theorem comp_all {S : SH} {σ : En} {α : Type} (fs : α → Bool) (fv : α → D) (it : α → SH → Option D) (hf : fin S = true) : ∀ (xs : List α) (acc : List D), acc.length + xs.length ≤ sizeLine →
    (∀ x ∈ xs, ∃ d σ1, it x S = some d ∧ g d σ S = some (σ1, S) ∧ t σ1 S = some (fs x, S) ∧ (fs x = true → elt σ1 S = some (fv x, S))) →
    compL fin g t elt σ (xs.map it) acc S = some (acc ++ (xs.filter fs).map fv, S)
  | [], acc, _, _ => by
    rw [List.map_nil, compL, if_pos hf]; simp
  | x :: xs, acc, hl, h => by
    obtain ⟨d, σ1, h1, h2, h3, h4⟩ := h x (by simp)
    rw [List.length_cons] at hl
    rw [List.map_cons, compL, h1]
    dsimp only
    rw [h2, bnd_some, h3, bnd_some]
    have ih := fun acc' (q : acc'.length + xs.length ≤ sizeLine) => comp_all (S := S) (σ := σ) fs fv it hf xs acc' q fun y hy => h y (by simp [hy])
    by_cases c : fs x = true
    · rw [if_pos c, if_pos (by omega), h4 c, bnd_some, ih _ (by rw [List.length_append, List.length_singleton]; omega), List.filter_cons_of_pos c, List.map_cons, List.append_assoc]; rfl
    · rw [if_neg c, ih _ (by omega), List.filter_cons_of_neg c]
end
end Pv
/-! what the built-ins give on data -/
namespace Pv
open PySem PySem.Spec PyProof.Rows L2
section
variable {S : SH} {ps qs : List P} {ds : List D}
theorem mulOk_r {i j : Int} (h : j.natAbs < 2 ^ 64) : mulOk i j = true := by
  unfold mulOk
  simp [h]
theorem mulOk_l {i j : Int} (h : i.natAbs < 2 ^ 64) : mulOk i j = true := by
  unfold mulOk
  simp [h]
theorem divOk_c {i j : Int} (h : 0 < j) (h2 : j < 2 ^ 64) : divOk i j = true := by
  unfold divOk
  have a : j.natAbs ≠ 0 := by omega
  have b : j.natAbs.log2 < 64 := (Nat.log2_lt a).mpr (by omega)
  simp only [Bool.and_eq_true, decide_eq_true_eq]
  omega
@[simp] theorem asL_l : asL (.p (.lst ps)) S = some (ps.map .p) := id rfl
@[simp] theorem asQ_l : asQ (.p (.lst ps)) S = some (ps.map .p) := id rfl
@[simp] theorem asQ_t : asQ (.p (.tup ps)) S = some (ps.map .p) := id rfl
@[simp] theorem fLen_l : fLen [.p (.lst ps)] S = some (.p (.int ps.length), S) := by simp [fLen]
@[simp] theorem fLen_t : fLen [.p (.tup ps)] S = some (.p (.int ps.length), S) := by simp [fLen]
@[simp] theorem fTuple_t : fTuple [.p (.tup ps)] S = some (.p (.tup ps), S) := id rfl
theorem fTuple_l (h : ps.length ≤ sizeLine) : fTuple [.p (.lst ps)] S = some (.p (.tup ps), S) := by
  show newT (ps.map D.p) S = _
  rw [newT_p ps h]
theorem fList_l (h : ps.length ≤ sizeLine) : fList false [.p (.lst ps)] S = some (.p (.lst ps), S) := by
  show newL false (ps.map D.p) S = _
  rw [newL_f ps h]
@[simp] theorem fInt_i (i : Int) : fInt [.p (.int i)] S = some (.p (.int i), S) := id rfl
@[simp] theorem fMin_i (i j : Int) : fMin [.p (.int i), .p (.int j)] S = some (.p (.int (if j < i then j else i)), S) := id rfl
@[simp] theorem fMax_i (i j : Int) : fMax [.p (.int i), .p (.int j)] S = some (.p (.int (if j > i then j else i)), S) := id rfl
@[simp] theorem fAdd_i (l : Bool) (i j : Int) : fAdd l (.p (.int i)) (.p (.int j)) S = some (.p (.int (i + j)), S) := id rfl
@[simp] theorem fNeg_i (i : Int) : fNeg (.p (.int i)) S = some (.p (.int (-i)), S) := id rfl
@[simp] theorem fSum_l (ns : List Int) : fSum [.p (.lst (intsP ns))] S = some (.p (.int ns.sum), S) := by
  have h : ∀ l : List Int, intsOf ((intsP l).map D.p) = some l := by
    intro l
    induction l with
    | nil => rfl
    | cons a l ih =>
      show (intsOf (D.p (.int a) :: (intsP l).map D.p)) = _
      simp [intsOf, ih]
  unfold fSum
  simp [h]
theorem atI_nat {α : Type} {l : List α} {n : Nat} {x : α} (h : l[n]? = some x) : atI l (n : Int) = some x := by
  obtain ⟨h1, h2⟩ := List.getElem?_eq_some_iff.mp h
  unfold atI
  have e : ixN l.length (n : Int) = some n := by
    unfold ixN
    simp
    omega
  rw [e]
  exact h
theorem fIx_l {n : Nat} {x : P} (h : ps[n]? = some x) : fIx (.p (.lst ps)) (.p (.int (n : Int))) S = some (.p x, S) := by
  have q := atI_nat (l := ps.map D.p) (n := n) (x := D.p x) (by rw [List.getElem?_map, h]; rfl)
  show (match asQ (.p (.lst ps)) S with
    | some xs => (match atI xs (n : Int) with | some x => some (x, S) | none => none)
    | none => none) = _
  simp only [asQ_l, q]
theorem fIx_t {n : Nat} {x : P} (h : ps[n]? = some x) : fIx (.p (.tup ps)) (.p (.int (n : Int))) S = some (.p x, S) := by
  have q := atI_nat (l := ps.map D.p) (n := n) (x := D.p x) (by rw [List.getElem?_map, h]; rfl)
  show (match asQ (.p (.tup ps)) S with
    | some xs => (match atI xs (n : Int) with | some x => some (x, S) | none => none)
    | none => none) = _
  simp only [asQ_t, q]
/-- by a plain int -/
theorem fIx_li {i : Int} {x : P} (h0 : 0 ≤ i) (h : ps[i.toNat]? = some x) : fIx (.p (.lst ps)) (.p (.int i)) S = some (.p x, S) := by
  have e : i = (i.toNat : Int) := by omega
  rw [e]
  exact fIx_l h
theorem fIx_ti {i : Int} {x : P} (h0 : 0 ≤ i) (h : ps[i.toNat]? = some x) : fIx (.p (.tup ps)) (.p (.int i)) S = some (.p x, S) := by
  have e : i = (i.toNat : Int) := by omega
  rw [e]
  exact fIx_t h
theorem fIx_ri {m : Nat} {i : Int} {d : D} (hm : S.os[m]? = some (.lst ds)) (h0 : 0 ≤ i) (h : ds[i.toNat]? = some d) : fIx (.ref m) (.p (.int i)) S = some (d, S) := by
  have e : i = (i.toNat : Int) := by omega
  have q := atI_nat (l := ds) h
  rw [← e] at q
  show (match asQ (.ref m) S with
    | some xs => (match atI xs i with | some x => some (x, S) | none => none)
    | none => none) = _
  have e2 : asQ (.ref m) S = some ds := by unfold asQ; dsimp only; rw [hm]
  simp only [e2, q]
theorem fApp_p {n : Nat} {x : P} (h : S.os[n]? = some (.lst ds)) (hl : ds.length < sizeLine) : fApp [.ref n, .p x] S = some (.p .non, S.put n (.lst (ds ++ [.p x]))) := by
  unfold fApp
  dsimp only
  rw [h]
  dsimp only
  rw [if_pos ⟨hl, rfl⟩]
theorem isTy_ref {n : Nat} (h : S.os[n]? = some (.lst ds)) : isTy "list" (.ref n) S = true := by
  unfold isTy
  dsimp only
  rw [h]
  rfl
theorem intsP_len (ns : List Int) : (intsP ns).length = ns.length := List.length_map _
theorem intsP_at {ns : List Int} {n : Nat} {i : Int} (h : ns[n]? = some i) : (intsP ns)[n]? = some (.int i) := by
  unfold intsP
  rw [List.getElem?_map, h]
  rfl
theorem srt_rng (n : Nat) (h : (n : Int) < 2 ^ 62) : rng1 [.p (.int n)] S = some (srcN 0 n, S) := by
  unfold rng1
  dsimp only
  rw [if_pos ⟨by omega, h⟩]
  rfl

/-- a field of the newest object is set -/
theorem setF_last {cs : List Nat} {c b : Nat} {os : List Ob} {f : Str} {v : P} {fs : List (Str × D)} (hc : cs.contains c = true) (hl : fs.length < 1000) : setFld cs f (.ref os.length) (.p v) ⟨b, os ++ [.ins c fs]⟩ = some ⟨b, os ++ [.ins c (putFD f (.p v) fs)]⟩ := by
  unfold setFld
  dsimp only
  rw [at_last b]
  dsimp only
  rw [if_pos ⟨hc, hl, rfl⟩, put_last]
theorem mapM_flds {k : Nat} {b : Nat} {S1 : SH} : ∀ (gs : List (Str × P)), (gs.map fun p => (p.1, D.p p.2)).mapM (fun p => (toP k b S1 p.2).map fun x => (p.1, x)) = some gs
  | [] => rfl
  | (f, x) :: gs => by
    rw [List.map_cons, List.mapM_cons, mapM_flds gs]
    cases k <;> rfl
/-- a new object of data comes back as data -/
theorem out_ins {k c n : Nat} {S1 : SH} {gs : List (Str × P)} (hn : k ≤ n) (e : S1.os[n]? = some (.ins c (gs.map fun p => (p.1, D.p p.2)))) : outD k S1 (.ref n) = some (.p (.ins c gs)) := by
  unfold outD
  dsimp only
  rw [if_neg (by omega)]
  unfold toP
  rw [if_neg (by omega), e]
  dsimp only
  rw [mapM_flds]
  rfl
theorem at_dSetF {cs : List Nat} {f : Str} {o v : ME} {σ : En} : dSetF cs f o v σ S = bnd (v σ S) fun y S1 => bnd (o σ S1) fun x S2 => match setFld cs f x y S2 with | some S3 => some (.nx σ, S3) | none => none := id rfl
@[simp] theorem fldsOf_p (c : Nat) (gs : List (Str × P)) : fldsOf (.p (.ins c gs)) S = some (c, gs.map fun p => (p.1, .p p.2)) := id rfl
theorem at_dMakeF {c : Nat} {init : MF} {a : MA} {σ : En} : dMake false c init a σ S = bnd (a σ S) fun xs S1 => bnd (init (.ref S1.os.length :: xs) ⟨S1.os.length, S1.os ++ [.ins c []]⟩) fun d S2 => match d with
    | .p .non => match outD S1.os.length S2 (.ref S1.os.length) with | some d' => some (d', cutS S1 S2) | none => none
    | _ => none := by
  unfold dMake
  rfl
theorem itP (ps : List P) {p : P} (h : p = .lst ps ∨ p = .tup ps) : srcOf (.p p) S = some (srcP ps, S) := by
  rcases h with rfl | rfl <;> rfl
/-- a comprehension over data -/
theorem comp_p {j : Nat} {t : MT} {elt : ME} {σ : En} (fs : P → Bool) (fv : P → D) (ps : List P) (hl : ps.length ≤ sizeLine)
    (h : ∀ p ∈ ps, t (σ.set j (some (.p p))) S = some (fs p, S) ∧ (fs p = true → elt (σ.set j (some (.p p))) S = some (fv p, S))) :
    compL (srcP ps).fin (gNm j) t elt σ (srcP ps).items [] S = some ((ps.filter fs).map fv, S) := by
  have q := comp_all (t := t) (elt := elt) (g := gNm j) (fin := (srcP ps).fin) (S := S) (σ := σ) fs fv (fun p _ => some (D.p p)) rfl ps [] (by simpa using hl) fun p hp => ⟨_, _, rfl, rfl, h p hp⟩
  rw [List.nil_append] at q
  exact q
/-- .. over a range from 0 -/
theorem comp_rng {j : Nat} {t : MT} {elt : ME} {σ : En} (fs : Nat → Bool) (fv : Nat → D) (n : Nat) (hl : n ≤ sizeLine)
    (h : ∀ i, i < n → t (σ.set j (some (.p (.int (i : Int))))) S = some (fs i, S) ∧ (fs i = true → elt (σ.set j (some (.p (.int (i : Int))))) S = some (fv i, S))) :
    compL (srcN 0 n).fin (gNm j) t elt σ (srcN 0 n).items [] S = some (((List.range n).filter fs).map fv, S) := by
  have q := comp_all (t := t) (elt := elt) (g := gNm j) (fin := (srcN 0 n).fin) (S := S) (σ := σ) fs fv (fun (i : Nat) _ => some (.p (.int (0 + (i : Int))))) rfl (List.range n) [] (by simpa using hl) fun i hi => ⟨_, _, rfl, rfl, by
    rw [Int.zero_add]
    exact h i (List.mem_range.mp hi)⟩
  rw [List.nil_append] at q
  exact q
end
end Pv
namespace Pv
open PySem PySem.Spec PyProof.Rows L2
section
variable {S : SH} {ps qs : List P} {ds : List D}
theorem setIx_ri {m : Nat} {i : Int} {v : P} (hm : S.os[m]? = some (.lst ds)) (h0 : 0 ≤ i) (h : i.toNat < ds.length) : setIx (.ref m) (.p (.int i)) (.p v) S = some (S.put m (.lst (ds.set i.toNat (.p v)))) := by
  have e : ixN ds.length i = some i.toNat := by
    unfold ixN
    rw [if_pos h0, if_pos (by omega)]
  unfold setIx
  dsimp only
  rw [hm]
  dsimp only
  rw [e]
  dsimp only
  rw [if_pos (okRef_p S m v)]
theorem sl_hi {live : Bool} {a m : ME} {σ : En} {d : D} {i : Int} (ha : a σ S = some (d, S)) (hm : m σ S = some (.p (.int i), S)) : dSl live a none (some m) σ S = fSl live d none (some i) S := by
  unfold dSl
  rw [ha, bnd_some, bnd_some]
  dsimp only
  rw [hm, bnd_some, bnd_some]
theorem two_0 (b : Nat) (os : List Ob) (x y : Ob) : (SH.mk b (os ++ [x, y])).os[os.length]? = some x := by simp
theorem two_1 (b : Nat) (os : List Ob) (x y : Ob) : (SH.mk b (os ++ [x, y])).os[os.length + 1]? = some y := by simp
theorem put_0 (b : Nat) (os : List Ob) (x y z : Ob) : SH.put ⟨b, os ++ [x, y]⟩ os.length z = ⟨b, os ++ [z, y]⟩ := by
  unfold SH.put
  simp
theorem put_1 (b : Nat) (os : List Ob) (x y z : Ob) : SH.put ⟨b, os ++ [x, y]⟩ (os.length + 1) z = ⟨b, os ++ [x, z]⟩ := by
  unfold SH.put
  simp
end
end Pv
namespace Kb
open PySem PySem.Spec PyProof.Rows L2 Pv
def u_ACTWORDS : P := (.tup [(.str "table"), (.str "column"), (.str "unique"), (.str "row"), (.str "drop"), (.str "put"), (.str "refer"), (.str "add"), (.str "insert"), (.str "remove"), (.str "undo")])
def u_KINDWORDS : P := (.tup [(.str "integer"), (.str "text"), (.str "boolean"), (.str "counter"), (.str "letters")])
def u_SPACES : P := (.int 4)
def m_write_number : MF := dFn 1 2
    (dSeq (dSet 1 (dLst true dNil))
    (dSeq (dWhile [] wFuel (dTest (dOp fGe (dVar 0) (dC (.int 128))))
      (dSeq (dDrop (dBM "list" fApp (dVar 1) (dCons (dOp (fAdd false) (dOp fMod (dVar 0) (dC (.int 128))) (dC (.int 128))) dNil)))
    (dSet 0 (dOp fDiv (dVar 0) (dC (.int 128))))))
    (dSeq (dDrop (dBM "list" fApp (dVar 1) (dCons (dVar 0) dNil)))
    (dRet (dVar 1)))))
def mL_write_number : MF := dFnL 1 2
    (dSeq (dSet 1 (dLst true dNil))
    (dSeq (dWhile [] wFuel (dTest (dOp fGe (dVar 0) (dC (.int 128))))
      (dSeq (dDrop (dBM "list" fApp (dVar 1) (dCons (dOp (fAdd false) (dOp fMod (dVar 0) (dC (.int 128))) (dC (.int 128))) dNil)))
    (dSet 0 (dOp fDiv (dVar 0) (dC (.int 128))))))
    (dSeq (dDrop (dBM "list" fApp (dVar 1) (dCons (dVar 0) dNil)))
    (dRet (dVar 1)))))
def m_write_integer : MF := dFn 1 1
    (dRet (dOp (fAdd false) (dLst false (dCons (dCall fInt (dCons (dOp fLt (dVar 0) (dC (.int 0))) dNil)) dNil)) (dCall m_write_number (dCons (dCall fAbs (dCons (dVar 0) dNil)) dNil))))
def m_write_string : MF := dFn 1 3
    (dSeq (dSet 1 (dCall mL_write_number (dCons (dCall fLen (dCons (dVar 0) dNil)) dNil)))
    (dSeq (dFor [0, 2] (dItS (dVar 0)) (gNm 2)
      (dDrop (dBM "list" fExt (dVar 1) (dCons (dCall m_write_number (dCons (dCall fOrd (dCons (dVar 2) dNil)) dNil)) dNil))))
    (dRet (dVar 1))))
def m_write_numbers : MF := dFn 1 3
    (dSeq (dSet 1 (dLst true dNil))
    (dSeq (dFor [0, 2] (dIt (dVar 0)) (gNm 2)
      (dDrop (dBM "list" fExt (dVar 1) (dCons (dCall m_write_number (dCons (dVar 2) dNil)) dNil))))
    (dRet (dVar 1))))
def m_write_list : MF := dFn 1 3
    (dSeq (dSet 1 (dCall mL_write_number (dCons (dCall fLen (dCons (dVar 0) dNil)) dNil)))
    (dSeq (dFor [0, 2] (dIt (dVar 0)) (gNm 2)
      (dDrop (dBM "list" fExt (dVar 1) (dCons (dVar 2) dNil))))
    (dRet (dVar 1))))
def mL_write_list : MF := dFnL 1 3
    (dSeq (dSet 1 (dCall mL_write_number (dCons (dCall fLen (dCons (dVar 0) dNil)) dNil)))
    (dSeq (dFor [0, 2] (dIt (dVar 0)) (gNm 2)
      (dDrop (dBM "list" fExt (dVar 1) (dCons (dVar 2) dNil))))
    (dRet (dVar 1))))
def m_write_optional : MF := dFn 1 1
    (dSeq (dIf (dTest (dOp (fIs false) (dVar 0) (dC .non)))
      (dRet (dLst false (dCons (dC (.int 0)) dNil)))
      dNx)
    (dRet (dOp (fAdd false) (dLst false (dCons (dC (.int 1)) dNil)) (dCall m_write_numbers (dCons (dVar 0) dNil)))))
def m_write_value : MF := dFn 1 1
    (dSeq (dIf (dTest (dOp (fIs false) (dVar 0) (dC .non)))
      (dRet (dLst false (dCons (dC (.int 0)) dNil)))
      dNx)
    (dSeq (dIf (dTest (dUn (fIsi ["bool"]) (dVar 0)))
      (dRet (dLst false (dCons (dC (.int 1)) (dCons (dCall fInt (dCons (dVar 0) dNil)) dNil))))
      dNx)
    (dSeq (dIf (dTest (dUn (fIsi ["int"]) (dVar 0)))
      (dRet (dOp (fAdd false) (dLst false (dCons (dC (.int 2)) dNil)) (dCall m_write_integer (dCons (dVar 0) dNil))))
      dNx)
    (dRet (dOp (fAdd false) (dLst false (dCons (dC (.int 3)) dNil)) (dCall m_write_string (dCons (dVar 0) dNil)))))))
def m_write_holds : MF := dFn 1 1
    (dSeq (dIf (dTest (dUn (fIsi ["str"]) (dVar 0)))
      (dRet (dLst false (dCons (dIdxC u_KINDWORDS (dCons (dVar 0) dNil)) dNil)))
      dNx)
    (dRet (dOp (fAdd false) (dLst false (dCons (dCall fLen (dCons (dC u_KINDWORDS) dNil)) dNil)) (dCall m_write_numbers (dCons (dOp fIx (dVar 0) (dC (.int 1))) dNil)))))
def m_write_cell_act : MF := dFn 1 2
    (dSeq (dSet 1 (dOp (fAdd false) (dCall m_write_numbers (dCons (dOp fIx (dVar 0) (dC (.int 1))) dNil)) (dCall m_write_numbers (dCons (dOp fIx (dVar 0) (dC (.int 2))) dNil))))
    (dSeq (dIf (dTest (dOp (fEq false) (dOp fIx (dVar 0) (dC (.int 0))) (dC (.str "put"))))
      (dRet (dOp (fAdd false) (dVar 1) (dCall m_write_value (dCons (dOp fIx (dVar 0) (dC (.int 3))) dNil))))
      dNx)
    (dSeq (dIf (dTest (dOp (fEq false) (dOp fIx (dVar 0) (dC (.int 0))) (dC (.str "refer"))))
      (dRet (dOp (fAdd false) (dVar 1) (dCall m_write_optional (dCons (dOp fIx (dVar 0) (dC (.int 3))) dNil))))
      dNx)
    (dSeq (dIf (dTest (dOp (fEq false) (dOp fIx (dVar 0) (dC (.int 0))) (dC (.str "add"))))
      (dRet (dOp (fAdd false) (dVar 1) (dCall m_write_integer (dCons (dOp fIx (dVar 0) (dC (.int 3))) dNil))))
      dNx)
    (dRet (dOp (fAdd false) (dOp (fAdd false) (dVar 1) (dCall m_write_optional (dCons (dOp fIx (dVar 0) (dC (.int 3))) dNil))) (dCall m_write_string (dCons (dOp fIx (dVar 0) (dC (.int 4))) dNil))))))))
def m_write_act : MF := dFn 1 3
    (dSeq (dSet 1 (dLst false (dCons (dIdxC u_ACTWORDS (dCons (dOp fIx (dVar 0) (dC (.int 0))) dNil)) dNil)))
    (dSeq (dIf (dTest (dOp (fEq false) (dOp fIx (dVar 0) (dC (.int 0))) (dC (.str "table"))))
      (dRet (dOp (fAdd false) (dVar 1) (dCall m_write_string (dCons (dOp fIx (dVar 0) (dC (.int 1))) dNil))))
      dNx)
    (dSeq (dIf (dTest (dOp (fEq false) (dOp fIx (dVar 0) (dC (.int 0))) (dC (.str "column"))))
      (dRet (dOp (fAdd false) (dOp (fAdd false) (dOp (fAdd false) (dVar 1) (dCall m_write_numbers (dCons (dOp fIx (dVar 0) (dC (.int 1))) dNil))) (dCall m_write_string (dCons (dOp fIx (dVar 0) (dC (.int 2))) dNil))) (dCall m_write_holds (dCons (dOp fIx (dVar 0) (dC (.int 3))) dNil))))
      dNx)
    (dSeq (dIf (dTest (dOp (fEq false) (dOp fIx (dVar 0) (dC (.int 0))) (dC (.str "unique"))))
      (dRet (dOp (fAdd false) (dOp (fAdd false) (dVar 1) (dCall m_write_numbers (dCons (dOp fIx (dVar 0) (dC (.int 1))) dNil))) (dCall m_write_list (dCons (dComp false (dIt (dOp fIx (dVar 0) (dC (.int 2)))) (gNm 2) dYes (dCall m_write_numbers (dCons (dVar 2) dNil)) [2]) dNil))))
      dNx)
    (dSeq (dIf (dTest (dOp (fInG false) (dOp fIx (dVar 0) (dC (.int 0))) (dTup (dCons (dC (.str "row")) (dCons (dC (.str "drop")) (dCons (dC (.str "remove")) (dCons (dC (.str "undo")) dNil)))))))
      (dRet (dOp (fAdd false) (dVar 1) (dCall m_write_numbers (dCons (dOp fIx (dVar 0) (dC (.int 1))) dNil))))
      dNx)
    (dRet (dOp (fAdd false) (dVar 1) (dCall m_write_cell_act (dCons (dVar 0) dNil)))))))))
def m_write_rights : MF := dFn 1 5
    (dSeq (dSet 1 (dLst true dNil))
    (dSeq (dFor [0, 2, 3, 4] (dIt (dVar 0)) (gTp 3 (gCn (gNm 2) (gCn (gNm 3) (gCn (gNm 4) gNl))))
      (dDrop (dBM "list" fExt (dVar 1) (dCons (dLst false (dCons (dCall fInt (dCons (dVar 2) dNil)) (dCons (dCall fInt (dCons (dVar 3) dNil)) (dCons (dCall fInt (dCons (dVar 4) dNil)) dNil)))) dNil))))
    (dRet (dVar 1))))
def m_write_public : MF := dFn 1 1
    (dSeq (dIf (dTest (dOp (fEq false) (dOp fIx (dVar 0) (dC (.int 0))) (dC (.str "grant"))))
      (dRet (dOp (fAdd false) (dOp (fAdd false) (dLst false (dCons (dC (.int 0)) dNil)) (dCall m_write_number (dCons (dOp fIx (dVar 0) (dC (.int 1))) dNil))) (dCall m_write_rights (dCons (dOp fIx (dVar 0) (dC (.int 2))) dNil))))
      dNx)
    (dSeq (dIf (dTest (dOp (fEq false) (dOp fIx (dVar 0) (dC (.int 0))) (dC (.str "revoke"))))
      (dRet (dOp (fAdd false) (dLst false (dCons (dC (.int 1)) dNil)) (dCall m_write_optional (dCons (dOp fIx (dVar 0) (dC (.int 1))) dNil))))
      dNx)
    (dRet (dLst false (dCons (dC (.int 2)) dNil)))))
def m_write_change : MF := dFn 1 5
    (dSeq (dSet 1 (dOp (fAdd true) (dCall m_write_number (dCons (dUn (dFld [0] "author") (dVar 0)) dNil)) (dCall m_write_number (dCons (dUn (dFld [0] "number") (dVar 0)) dNil))))
    (dSeq (dDrop (dBM "list" fExt (dVar 1) (dCons (dCall m_write_list (dCons (dComp false (dIt (dUn (dFld [0] "heard") (dVar 0))) (gNm 3) dYes (dCall m_write_number (dCons (dVar 3) dNil)) [3]) dNil)) dNil)))
    (dSeq (dDrop (dBM "list" fExt (dVar 1) (dCons (dCall m_write_optional (dCons (dUn (dFld [0] "capability") (dVar 0)) dNil)) dNil)))
    (dSeq (dDrop (dBM "list" fExt (dVar 1) (dCons (dCall m_write_list (dCons (dComp false (dIt (dUn (dFld [0] "publics") (dVar 0))) (gNm 4) dYes (dCall m_write_public (dCons (dVar 4) dNil)) [4]) dNil)) dNil)))
    (dSeq (dFor [0, 2] (dIt (dUn (dFld [0] "parts") (dVar 0))) (gNm 2)
      (dIf (dTest (dOp (fIs false) (dVar 2) (dC .non)))
      (dDrop (dBM "list" fApp (dVar 1) (dCons (dC (.int 0)) dNil)))
      (dSeq (dDrop (dBM "list" fApp (dVar 1) (dCons (dC (.int 1)) dNil)))
    (dDrop (dBM "list" fExt (dVar 1) (dCons (dCall m_write_list (dCons (dComp false (dIt (dVar 2)) (gNm 4) dYes (dCall m_write_act (dCons (dVar 4) dNil)) [4]) dNil)) dNil))))))
    (dRet (dVar 1)))))))
def m_write_characters : MF := dFn 1 3
    (dRet (dCall m_write_list (dCons (dComp false (dIt (dVar 0)) (gTp 2 (gCn (gNm 1) (gCn (gNm 2) gNl))) dYes (dOp (fAdd false) (dCall m_write_numbers (dCons (dVar 1) dNil)) (dCall m_write_number (dCons (dCall fOrd (dCons (dVar 2) dNil)) dNil))) [1, 2]) dNil)))
def m_write_kept : MF := dFn 1 9
    (dSeq (dSet 1 (dComp false (dIt (dUn (dFld [1] "acts") (dVar 0))) (gTp 2 (gCn (gNm 6) (gCn (gNm 7) gNl))) dYes (dOp (fAdd false) (dCall m_write_numbers (dCons (dVar 6) dNil)) (dCall m_write_act (dCons (dVar 7) dNil))) [6, 7]))
    (dSeq (dSet 3 (dComp false (dIt (dUn (dFld [1] "sums") (dVar 0))) (gTp 2 (gCn (gNm 2) (gCn (gNm 8) gNl))) dYes (dOp (fAdd false) (dOp (fAdd false) (dCall m_write_numbers (dCons (dOp fIx (dVar 2) (dC (.int 0))) dNil)) (dCall m_write_numbers (dCons (dOp fIx (dVar 2) (dC (.int 1))) dNil))) (dCall m_write_integer (dCons (dVar 8) dNil))) [2, 8]))
    (dSeq (dSet 4 (dLst true dNil))
    (dSeq (dFor [0, 2, 5] (dIt (dUn (dFld [1] "texts") (dVar 0))) (gTp 2 (gCn (gNm 2) (gCn (gNm 5) gNl)))
      (dDrop (dBM "list" fApp (dVar 4) (dCons (dOp (fAdd false) (dOp (fAdd false) (dCall m_write_numbers (dCons (dOp fIx (dVar 2) (dC (.int 0))) dNil)) (dCall m_write_numbers (dCons (dOp fIx (dVar 2) (dC (.int 1))) dNil))) (dCall m_write_characters (dCons (dVar 5) dNil))) dNil))))
    (dRet (dOp (fAdd false) (dOp (fAdd false) (dCall m_write_list (dCons (dVar 1) dNil)) (dCall m_write_list (dCons (dVar 3) dNil))) (dCall m_write_list (dCons (dVar 4) dNil))))))))
def m_write_optional_kept : MF := dFn 1 1
    (dSeq (dIf (dTest (dOp (fIs false) (dVar 0) (dC .non)))
      (dRet (dLst false (dCons (dC (.int 0)) dNil)))
      dNx)
    (dRet (dOp (fAdd false) (dLst false (dCons (dC (.int 1)) dNil)) (dCall m_write_kept (dCons (dVar 0) dNil)))))
def m_write_capability : MF := dFn 1 5
    (dSeq (dAsg (dVar 0) (gTp 4 (gCn (gNm 1) (gCn (gNm 2) (gCn (gNm 3) (gCn (gNm 4) gNl))))))
    (dRet (dOp (fAdd false) (dOp (fAdd false) (dOp (fAdd false) (dCall m_write_numbers (dCons (dVar 1) dNil)) (dCall m_write_optional (dCons (dVar 2) dNil))) (dCall m_write_number (dCons (dVar 3) dNil))) (dCall m_write_rights (dCons (dVar 4) dNil)))))
def m_write_store : MF := dFn 1 7
    (dSeq (dSet 1 (dCall mL_write_list (dCons (dComp false (dIt (dUn (dFld [2] "cut") (dVar 0))) (gNm 4) dYes (dCall m_write_number (dCons (dVar 4) dNil)) [4]) dNil)))
    (dSeq (dDrop (dBM "list" fExt (dVar 1) (dCons (dCall m_write_list (dCons (dComp false (dIt (dUn (dFld [2] "capabilities") (dVar 0))) (gNm 5) dYes (dCall m_write_capability (dCons (dVar 5) dNil)) [5]) dNil)) dNil)))
    (dSeq (dFor [2, 3] (dIt (dUn (dFld [2] "kept") (dVar 0))) (gNm 2)
      (dDrop (dBM "list" fExt (dVar 1) (dCons (dCall m_write_optional_kept (dCons (dVar 2) dNil)) dNil))))
    (dSeq (dFor [0, 2, 3] (dIt (dUn (dFld [2] "changes") (dVar 0))) (gNm 3)
      (dDrop (dBM "list" fExt (dVar 1) (dCons (dCall m_write_list (dCons (dComp false (dIt (dVar 3)) (gNm 6) dYes (dCall m_write_change (dCons (dVar 6) dNil)) [6]) dNil)) dNil))))
    (dRet (dVar 1))))))
def m_as_tuple : MF := dFn 1 1
    (dSeq (dIf (dTest (dOp (fIs false) (dVar 0) (dC .non)))
      (dRet (dC .non))
      dNx)
    (dRet (dCall fTuple (dCons (dVar 0) dNil))))
def m_Change_init : MF := dFnL 7 8
    (dSeq (dSetF [0] "author" (dVar 0) (dVar 1))
    (dSeq (dSetF [0] "number" (dVar 0) (dVar 2))
    (dSeq (dSetF [0] "heard" (dVar 0) (dCall fTuple (dCons (dVar 3) dNil)))
    (dSeq (dSetF [0] "capability" (dVar 0) (dVar 4))
    (dSeq (dSetF [0] "publics" (dVar 0) (dCall fTuple (dCons (dVar 5) dNil)))
    (dSetF [0] "parts" (dVar 0) (dCall fTuple (dCons (dComp false (dIt (dVar 6)) (gNm 7) dYes (dCall m_as_tuple (dCons (dVar 7) dNil)) [7]) dNil))))))))
def m_Change_name : MF := dFn 1 1
    (dRet (dTup (dCons (dUn (dFld [0] "author") (dVar 0)) (dCons (dUn (dFld [0] "number") (dVar 0)) dNil))))
def m_Kept_init : MF := dFnL 4 11
    (dSeq (dSetF [1] "acts" (dVar 0) (dComp false (dIt (dVar 1)) (gTp 2 (gCn (gNm 4) (gCn (gNm 5) gNl))) dYes (dTup (dCons (dVar 4) (dCons (dVar 5) dNil))) [4, 5]))
    (dSeq (dSetF [1] "sums" (dVar 0) (dComp false (dIt (dVar 2)) (gTp 2 (gCn (gNm 6) (gCn (gNm 7) gNl))) dYes (dTup (dCons (dVar 6) (dCons (dVar 7) dNil))) [6, 7]))
    (dSetF [1] "texts" (dVar 0) (dComp false (dIt (dVar 3)) (gTp 2 (gCn (gNm 6) (gCn (gNm 8) gNl))) dYes (dTup (dCons (dVar 6) (dCons (dComp false (dIt (dVar 8)) (gTp 2 (gCn (gNm 9) (gCn (gNm 10) gNl))) dYes (dTup (dCons (dVar 9) (dCons (dVar 10) dNil))) [9, 10]) dNil))) [6, 8]))))
def m_Store_init : MF := dFnL 2 3
    (dSeq (dSetF [2] "members" (dVar 0) (dVar 1))
    (dSeq (dSetF [2] "cut" (dVar 0) (dComp false (dRng1 (dCons (dVar 1) dNil)) (gNm 2) dYes (dC (.int 0)) [2]))
    (dSeq (dSetF [2] "capabilities" (dVar 0) (dLst false dNil))
    (dSeq (dSetF [2] "kept" (dVar 0) (dComp false (dRng1 (dCons (dC u_SPACES) dNil)) (gNm 2) dYes (dMake false 1 m_Kept_init (dCons (dLst false dNil) (dCons (dLst false dNil) (dCons (dLst false dNil) dNil)))) [2]))
    (dSetF [2] "changes" (dVar 0) (dComp true (dRng1 (dCons (dVar 1) dNil)) (gNm 2) dYes (dLst true dNil) [2]))))))
def m_Store_count : MF := dFn 2 2
    (dRet (dOp (fAdd false) (dOp fIx (dUn (dFld [2] "cut") (dVar 0)) (dVar 1)) (dCall fLen (dCons (dOp fIx (dUn (dFld [2] "changes") (dVar 0)) (dVar 1)) dNil))))
def m_Store_counts : MF := dFn 1 2
    (dRet (dComp false (dRng1 (dCons (dUn (dFld [2] "members") (dVar 0)) dNil)) (gNm 1) dYes (dMeth 2 "count" m_Store_count (dVar 0) (dCons (dVar 1) dNil)) [1]))
def m_Store_find : MF := dFn 2 5
    (dSeq (dAsg (dVar 1) (gTp 2 (gCn (gNm 2) (gCn (gNm 3) gNl))))
    (dSeq (dIf (dNot (dTest (dChain fLe fLt (dC (.int 0)) (dVar 2) (dUn (dFld [2] "members") (dVar 0)))))
      (dRet (dC .non))
      dNx)
    (dSeq (dSet 4 (dOp fSub (dOp fSub (dVar 3) (dOp fIx (dUn (dFld [2] "cut") (dVar 0)) (dVar 2))) (dC (.int 1))))
    (dSeq (dIf (dTest (dChain fLe fLt (dC (.int 0)) (dVar 4) (dCall fLen (dCons (dOp fIx (dUn (dFld [2] "changes") (dVar 0)) (dVar 2)) dNil))))
      (dRet (dOp fIx (dOp fIx (dUn (dFld [2] "changes") (dVar 0)) (dVar 2)) (dVar 4)))
      dNx)
    (dRet (dC .non))))))
def m_Store_add : MF := dFn 2 2
    (dDrop (dBM "list" fApp (dOp fIx (dUn (dFld [2] "changes") (dVar 0)) (dUn (dFld [0] "author") (dVar 1))) (dCons (dVar 1) dNil)))
def m_unknown_names : MF := dFn 2 5
    (dSeq (dSet 2 (dLst true dNil))
    (dSeq (dFor [0, 3, 4] (dIt (dUn (dFld [2] "changes") (dVar 0))) (gNm 3)
      (dFor [0, 3, 4] (dIt (dVar 3)) (gNm 4)
      (dIf (dTest (dOp (fIs false) (dOp fIx (dUn (dFld [0] "parts") (dVar 4)) (dVar 1)) (dC .non)))
      (dDrop (dBM "list" fApp (dVar 2) (dCons (dMeth 0 "name" m_Change_name (dVar 4) dNil) dNil)))
      dNx)))
    (dRet (dVar 2))))
def m_asking : MF := dFn 2 7
    (dSeq (dSet 2 (dOp (fAdd true) (dLst false (dCons (dC (.int 1)) dNil)) (dCall m_write_number (dCons (dVar 1) dNil))))
    (dSeq (dDrop (dBM "list" fExt (dVar 2) (dCons (dCall m_write_list (dCons (dComp false (dIt (dUn (dFld [2] "cut") (dVar 0))) (gNm 5) dYes (dCall m_write_number (dCons (dVar 5) dNil)) [5]) dNil)) dNil)))
    (dSeq (dDrop (dBM "list" fExt (dVar 2) (dCons (dCall m_write_list (dCons (dComp false (dIt (dMeth 2 "counts" m_Store_counts (dVar 0) dNil)) (gNm 5) dYes (dCall m_write_number (dCons (dVar 5) dNil)) [5]) dNil)) dNil)))
    (dSeq (dFor [1, 3, 4] (dIt (dUn (dFld [2] "kept") (dVar 0))) (gNm 3)
      (dDrop (dBM "list" fApp (dVar 2) (dCons (dCall fInt (dCons (dOp (fIs true) (dVar 3) (dC .non)) dNil)) dNil))))
    (dSeq (dFor [1, 3, 4] (dRng1 (dCons (dC u_SPACES) dNil)) (gNm 4)
      (dDrop (dBM "list" fExt (dVar 2) (dCons (dCall m_write_list (dCons (dComp false (dIt (dCall m_unknown_names (dCons (dVar 0) (dCons (dVar 4) dNil)))) (gNm 6) dYes (dCall m_write_numbers (dCons (dVar 6) dNil)) [6]) dNil)) dNil))))
    (dRet (dVar 2)))))))
def m_draw : MF := dFn 2 5
    (dSeq (dIf (dNot (dTru (dVar 0)))
      (dRet (dOp fMod (dOp fMul (dVar 1) (dC (.int 5))) (dC (.int 7))))
      dNx)
    (dSeq (dSet 2 (dCall fInt (dCons (dOp fIx (dVar 0) (dOp fMod (dVar 1) (dCall fLen (dCons (dVar 0) dNil)))) dNil)))
    (dSeq (dSet 3 (dOp fDiv (dVar 1) (dCall fLen (dCons (dVar 0) dNil))))
    (dSeq (dIf (dTest (dOp fGe (dVar 2) (dC (.int 1000000000000000000))))
      (dSeq (dFor [0, 1, 3, 4] (dRng1 (dCons (dCall fMin (dCons (dVar 3) (dCons (dC (.int 60)) dNil))) dNil)) (gNm 4)
      (dSet 2 (dOp fDiv (dVar 2) (dC (.int 100003)))))
    (dRet (dOp fMod (dVar 2) (dC (.int 100003)))))
      dNx)
    (dRet (dOp fMod (dOp fMul (dOp fMod (dOp (fAdd false) (dOp (fAdd false) (dOp fMul (dVar 2) (dC (.int 48271))) (dOp fMul (dVar 1) (dC (.int 69621)))) (dC (.int 13))) (dC (.int 2147483647))) (dC (.int 16807))) (dC (.int 2147483629))))))))
def m_spot : MF := dFn 1 1
    (dRet (dTup (dCons (dOp fMod (dVar 0) (dC (.int 6))) (dCons (dOp (fAdd false) (dC (.int 1)) (dOp fMod (dOp fDiv (dVar 0) (dC (.int 6))) (dC (.int 300)))) (dCons (dOp fMod (dOp fDiv (dVar 0) (dC (.int 1800))) (dC (.int 200))) dNil)))))
def m_text : MF := dFn 1 3
    (dSeq (dSet 1 (dC (.str " !\"#$&'()*+,-./0123456789:;<=>?@ABCDEFGHIJKLMNOPQRSTUVWXYZ[\\]^_`abcdefghijklmnopqrstuvwxyz{|}~\n")))
    (dRet (dOp fJoin (dC (.str "")) (dComp false (dRng1 (dCons (dOp fMod (dOp fDiv (dVar 0) (dC (.int 7))) (dC (.int 9))) dNil)) (gNm 2) dYes (dOp fIx (dVar 1) (dOp fMod (dOp (fAdd false) (dVar 0) (dOp fMul (dC (.int 31)) (dVar 2))) (dC (.int 95)))) [2]))))
def m_value : MF := dFn 1 2
    (dSeq (dSet 1 (dLst false (dCons (dC .non) (dCons (dC (.bl true)) (dCons (dC (.bl false)) (dCons (dVar 0) (dCons (dUn fNeg (dVar 0)) (dCons (dCall m_text (dCons (dVar 0) dNil)) (dCons (dC (.int 0)) dNil)))))))))
    (dRet (dOp fIx (dVar 1) (dOp fMod (dVar 0) (dC (.int 7))))))
def m_act : MF := dFn 2 9
    (dSeq (dSet 2 (dCall m_spot (dCons (dVar 1) dNil)))
    (dSeq (dSet 3 (dCall m_spot (dCons (dOp (fAdd false) (dOp fMul (dVar 1) (dC (.int 5))) (dC (.int 3))) dNil)))
    (dSeq (dSet 4 (dC .non))
    (dSeq (dIf (dTest (dOp fGt (dOp fMod (dVar 1) (dC (.int 3))) (dC (.int 0))))
      (dSet 4 (dTup (dCons (dOp fMod (dVar 1) (dC (.int 6))) (dCons (dOp (fAdd false) (dC (.int 1)) (dOp fDiv (dVar 1) (dC (.int 4)))) (dCons (dOp fMod (dOp fDiv (dVar 1) (dC (.int 9))) (dC (.int 7))) (dCons (dOp fMod (dOp fDiv (dVar 1) (dC (.int 5))) (dC (.int 200))) dNil))))))
      dNx)
    (dSeq (dSet 5 (dOp fIx (dLst false (dCons (dC (.str "integer")) (dCons (dC (.str "text")) (dCons (dC (.str "boolean")) (dCons (dC (.str "counter")) (dCons (dC (.str "letters")) (dCons (dTup (dCons (dC (.str "refer")) (dCons (dVar 3) dNil))) dNil))))))) (dOp fMod (dVar 1) (dC (.int 6)))))
    (dSeq (dSet 6 (dLst true (dCons (dTup (dCons (dC (.str "table")) (dCons (dOp (fAdd false) (dC (.str "t")) (dCall fStr (dCons (dOp fMod (dVar 1) (dC (.int 1000))) dNil))) dNil))) (dCons (dTup (dCons (dC (.str "column")) (dCons (dVar 2) (dCons (dOp (fAdd false) (dC (.str "c_")) (dCall fStr (dCons (dOp fMod (dVar 1) (dC (.int 77))) dNil))) (dCons (dVar 5) dNil))))) dNil))))
    (dSeq (dDrop (dBM "list" fApp (dVar 6) (dCons (dTup (dCons (dC (.str "unique")) (dCons (dVar 2) (dCons (dCall fTuple (dCons (dComp false (dRng1 (dCons (dOp fMod (dVar 1) (dC (.int 4))) dNil)) (gNm 8) dYes (dCall m_spot (dCons (dOp (fAdd false) (dVar 1) (dVar 8)) dNil)) [8]) dNil)) dNil)))) dNil)))
    (dSeq (dSet 6 (dOp (fAdd true) (dVar 6) (dLst false (dCons (dTup (dCons (dC (.str "row")) (dCons (dVar 2) dNil))) (dCons (dTup (dCons (dC (.str "drop")) (dCons (dVar 2) dNil))) (dCons (dTup (dCons (dC (.str "put")) (dCons (dVar 2) (dCons (dVar 3) (dCons (dCall m_value (dCons (dOp fDiv (dVar 1) (dC (.int 2))) dNil)) dNil))))) dNil))))))
    (dSeq (dSet 7 (dC .non))
    (dSeq (dIf (dTest (dOp (fEq false) (dOp fMod (dVar 1) (dC (.int 2))) (dC (.int 0))))
      (dSet 7 (dCall m_spot (dCons (dOp (fAdd false) (dVar 1) (dC (.int 77))) dNil)))
      dNx)
    (dSeq (dSet 6 (dOp (fAdd true) (dVar 6) (dLst false (dCons (dTup (dCons (dC (.str "refer")) (dCons (dVar 2) (dCons (dVar 3) (dCons (dVar 7) dNil))))) (dCons (dTup (dCons (dC (.str "add")) (dCons (dVar 2) (dCons (dVar 3) (dCons (dOp fSub (dVar 1) (dC (.int 5000))) dNil))))) dNil)))))
    (dSeq (dSet 6 (dOp (fAdd true) (dVar 6) (dLst false (dCons (dTup (dCons (dC (.str "insert")) (dCons (dVar 2) (dCons (dVar 3) (dCons (dVar 4) (dCons (dCall m_text (dCons (dVar 1) dNil)) dNil)))))) (dCons (dTup (dCons (dC (.str "remove")) (dCons (dTup (dCons (dC (.int 1)) (dCons (dC (.int 2)) (dCons (dC (.int 3)) (dCons (dVar 1) dNil))))) dNil))) dNil)))))
    (dSeq (dDrop (dBM "list" fApp (dVar 6) (dCons (dTup (dCons (dC (.str "undo")) (dCons (dTup (dCons (dOp fMod (dVar 1) (dC (.int 6))) (dCons (dOp (fAdd false) (dC (.int 1)) (dVar 1)) dNil))) dNil))) dNil)))
    (dRet (dOp fIx (dVar 6) (dOp fMod (dVar 0) (dC (.int 11))))))))))))))))))
def m_rights : MF := dFn 1 4
    (dSeq (dSet 1 (dLst true dNil))
    (dSeq (dFor [2, 3] (dRng1 (dCons (dC (.int 4)) dNil)) (gNm 2)
      (dSeq (dSet 3 (dOp fDiv (dVar 0) (dOp fIx (dLst false (dCons (dC (.int 1)) (dCons (dC (.int 8)) (dCons (dC (.int 64)) (dCons (dC (.int 512)) dNil))))) (dVar 2))))
    (dDrop (dBM "list" fApp (dVar 1) (dCons (dTup (dCons (dOp (fEq false) (dOp fMod (dVar 3) (dC (.int 2))) (dC (.int 1))) (dCons (dOp (fEq false) (dOp fMod (dOp fDiv (dVar 3) (dC (.int 2))) (dC (.int 2))) (dC (.int 1))) (dCons (dOp (fEq false) (dOp fMod (dOp fDiv (dVar 3) (dC (.int 4))) (dC (.int 2))) (dC (.int 1))) dNil)))) dNil)))))
    (dRet (dCall fTuple (dCons (dVar 1) dNil)))))
def m_number : MF := dFn 1 2
    (dSeq (dSet 1 (dLst true dNil))
    (dSeq (dWhile [] wFuel (dAnd (dTest (dOp fGe (dVar 0) (dC (.int 128)))) (dTest (dOp fLt (dCall fLen (dCons (dVar 1) dNil)) (dC (.int 60)))))
      (dSeq (dDrop (dBM "list" fApp (dVar 1) (dCons (dOp (fAdd false) (dOp fMod (dVar 0) (dC (.int 128))) (dC (.int 128))) dNil)))
    (dSet 0 (dOp fDiv (dVar 0) (dC (.int 128))))))
    (dRet (dOp (fAdd false) (dVar 1) (dLst false (dCons (dVar 0) dNil))))))
def m_numbers : MF := dFn 1 3
    (dSeq (dSet 1 (dLst false dNil))
    (dSeq (dFor [0, 2] (dIt (dVar 0)) (gNm 2)
      (dSet 1 (dOp (fAdd false) (dVar 1) (dCall m_number (dCons (dVar 2) dNil)))))
    (dRet (dVar 1))))
def m_signed : MF := dFn 1 1
    (dRet (dOp (fAdd false) (dLst false (dCons (dCall fInt (dCons (dOp fLt (dVar 0) (dC (.int 0))) dNil)) dNil)) (dCall m_number (dCons (dCall fAbs (dCons (dVar 0) dNil)) dNil))))
def m_string : MF := dFn 1 2
    (dRet (dOp (fAdd false) (dCall m_number (dCons (dCall fLen (dCons (dVar 0) dNil)) dNil)) (dCall m_numbers (dCons (dComp false (dItS (dVar 0)) (gNm 1) dYes (dCall fOrd (dCons (dVar 1) dNil)) [1]) dNil))))
def m_optional : MF := dFn 1 1
    (dSeq (dIf (dTest (dOp (fIs false) (dVar 0) (dC .non)))
      (dRet (dLst false (dCons (dC (.int 0)) dNil)))
      dNx)
    (dRet (dOp (fAdd false) (dLst false (dCons (dC (.int 1)) dNil)) (dCall m_numbers (dCons (dVar 0) dNil)))))
def m_bytes_of : MF := dFn 1 1
    (dSeq (dIf (dTest (dOp (fIs false) (dVar 0) (dC .non)))
      (dRet (dLst false (dCons (dC (.int 0)) dNil)))
      dNx)
    (dSeq (dIf (dTest (dUn (fIsi ["bool"]) (dVar 0)))
      (dRet (dLst false (dCons (dC (.int 1)) (dCons (dCall fInt (dCons (dVar 0) dNil)) dNil))))
      dNx)
    (dSeq (dIf (dTest (dUn (fIsi ["int"]) (dVar 0)))
      (dRet (dOp (fAdd false) (dLst false (dCons (dC (.int 2)) dNil)) (dCall m_signed (dCons (dVar 0) dNil))))
      dNx)
    (dRet (dOp (fAdd false) (dLst false (dCons (dC (.int 3)) dNil)) (dCall m_string (dCons (dVar 0) dNil)))))))
def m_holds : MF := dFn 1 2
    (dSeq (dSet 1 (dLst false (dCons (dC (.str "integer")) (dCons (dC (.str "text")) (dCons (dC (.str "boolean")) (dCons (dC (.str "counter")) (dCons (dC (.str "letters")) dNil)))))))
    (dSeq (dIf (dTest (dOp (fInG false) (dVar 0) (dVar 1)))
      (dRet (dLst false (dCons (dBM "list" fIndex (dVar 1) (dCons (dVar 0) dNil)) dNil)))
      dNx)
    (dRet (dOp (fAdd false) (dLst false (dCons (dC (.int 5)) dNil)) (dCall m_numbers (dCons (dOp fIx (dVar 0) (dC (.int 1))) dNil))))))
def m_act_bytes : MF := dFn 1 4
    (dSeq (dSet 1 (dLst false (dCons (dC (.str "table")) (dCons (dC (.str "column")) (dCons (dC (.str "unique")) (dCons (dC (.str "row")) (dCons (dC (.str "drop")) (dCons (dC (.str "put")) (dCons (dC (.str "refer")) (dCons (dC (.str "add")) (dCons (dC (.str "insert")) (dCons (dC (.str "remove")) (dCons (dC (.str "undo")) dNil)))))))))))))
    (dSeq (dSet 2 (dLst false (dCons (dBM "list" fIndex (dVar 1) (dCons (dOp fIx (dVar 0) (dC (.int 0))) dNil)) dNil)))
    (dSeq (dIf (dTest (dOp (fEq false) (dOp fIx (dVar 0) (dC (.int 0))) (dC (.str "table"))))
      (dRet (dOp (fAdd false) (dVar 2) (dCall m_string (dCons (dOp fIx (dVar 0) (dC (.int 1))) dNil))))
      dNx)
    (dSeq (dSet 2 (dOp (fAdd false) (dVar 2) (dCall m_numbers (dCons (dOp fIx (dVar 0) (dC (.int 1))) dNil))))
    (dSeq (dIf (dTest (dOp (fEq false) (dOp fIx (dVar 0) (dC (.int 0))) (dC (.str "column"))))
      (dRet (dOp (fAdd false) (dOp (fAdd false) (dVar 2) (dCall m_string (dCons (dOp fIx (dVar 0) (dC (.int 2))) dNil))) (dCall m_holds (dCons (dOp fIx (dVar 0) (dC (.int 3))) dNil))))
      dNx)
    (dSeq (dIf (dTest (dOp (fEq false) (dOp fIx (dVar 0) (dC (.int 0))) (dC (.str "unique"))))
      (dSeq (dSet 2 (dOp (fAdd false) (dVar 2) (dCall m_number (dCons (dCall fLen (dCons (dOp fIx (dVar 0) (dC (.int 2))) dNil)) dNil))))
    (dSeq (dFor [0, 1, 3] (dIt (dOp fIx (dVar 0) (dC (.int 2)))) (gNm 3)
      (dSet 2 (dOp (fAdd false) (dVar 2) (dCall m_numbers (dCons (dVar 3) dNil)))))
    (dRet (dVar 2))))
      dNx)
    (dSeq (dIf (dTest (dOp (fInG false) (dOp fIx (dVar 0) (dC (.int 0))) (dLst false (dCons (dC (.str "row")) (dCons (dC (.str "drop")) (dCons (dC (.str "remove")) (dCons (dC (.str "undo")) dNil)))))))
      (dRet (dVar 2))
      dNx)
    (dSeq (dSet 2 (dOp (fAdd false) (dVar 2) (dCall m_numbers (dCons (dOp fIx (dVar 0) (dC (.int 2))) dNil))))
    (dSeq (dIf (dTest (dOp (fEq false) (dOp fIx (dVar 0) (dC (.int 0))) (dC (.str "put"))))
      (dRet (dOp (fAdd false) (dVar 2) (dCall m_bytes_of (dCons (dOp fIx (dVar 0) (dC (.int 3))) dNil))))
      dNx)
    (dSeq (dIf (dTest (dOp (fEq false) (dOp fIx (dVar 0) (dC (.int 0))) (dC (.str "refer"))))
      (dRet (dOp (fAdd false) (dVar 2) (dCall m_optional (dCons (dOp fIx (dVar 0) (dC (.int 3))) dNil))))
      dNx)
    (dSeq (dIf (dTest (dOp (fEq false) (dOp fIx (dVar 0) (dC (.int 0))) (dC (.str "add"))))
      (dRet (dOp (fAdd false) (dVar 2) (dCall m_signed (dCons (dOp fIx (dVar 0) (dC (.int 3))) dNil))))
      dNx)
    (dRet (dOp (fAdd false) (dOp (fAdd false) (dVar 2) (dCall m_optional (dCons (dOp fIx (dVar 0) (dC (.int 3))) dNil))) (dCall m_string (dCons (dOp fIx (dVar 0) (dC (.int 4))) dNil)))))))))))))))
def m_rights_bytes : MF := dFn 1 4
    (dSeq (dSet 1 (dLst false dNil))
    (dSeq (dFor [0, 2] (dIt (dVar 0)) (gNm 2)
      (dSet 1 (dOp (fAdd false) (dVar 1) (dComp false (dIt (dVar 2)) (gNm 3) dYes (dCall fInt (dCons (dVar 3) dNil)) [3]))))
    (dRet (dVar 1))))
def m_change_bytes : MF := dFn 1 4
    (dSeq (dSet 1 (dOp (fAdd false) (dCall m_numbers (dCons (dLst false (dCons (dUn (dFld [0] "author") (dVar 0)) (dCons (dUn (dFld [0] "number") (dVar 0)) (dCons (dCall fLen (dCons (dUn (dFld [0] "heard") (dVar 0)) dNil)) dNil)))) dNil)) (dCall m_numbers (dCons (dUn (dFld [0] "heard") (dVar 0)) dNil))))
    (dSeq (dSet 1 (dOp (fAdd false) (dOp (fAdd false) (dVar 1) (dCall m_optional (dCons (dUn (dFld [0] "capability") (dVar 0)) dNil))) (dCall m_number (dCons (dCall fLen (dCons (dUn (dFld [0] "publics") (dVar 0)) dNil)) dNil))))
    (dSeq (dFor [2, 3] (dIt (dUn (dFld [0] "publics") (dVar 0))) (gNm 2)
      (dIf (dTest (dOp (fEq false) (dOp fIx (dVar 2) (dC (.int 0))) (dC (.str "grant"))))
      (dSet 1 (dOp (fAdd false) (dOp (fAdd false) (dOp (fAdd false) (dVar 1) (dLst false (dCons (dC (.int 0)) dNil))) (dCall m_number (dCons (dOp fIx (dVar 2) (dC (.int 1))) dNil))) (dCall m_rights_bytes (dCons (dOp fIx (dVar 2) (dC (.int 2))) dNil))))
      (dIf (dTest (dOp (fEq false) (dOp fIx (dVar 2) (dC (.int 0))) (dC (.str "revoke"))))
      (dSet 1 (dOp (fAdd false) (dOp (fAdd false) (dVar 1) (dLst false (dCons (dC (.int 1)) dNil))) (dCall m_optional (dCons (dOp fIx (dVar 2) (dC (.int 1))) dNil))))
      (dSet 1 (dOp (fAdd false) (dVar 1) (dLst false (dCons (dC (.int 2)) dNil)))))))
    (dSeq (dFor [0, 2, 3] (dIt (dUn (dFld [0] "parts") (dVar 0))) (gNm 3)
      (dIf (dTest (dOp (fIs false) (dVar 3) (dC .non)))
      (dSet 1 (dOp (fAdd false) (dVar 1) (dLst false (dCons (dC (.int 0)) dNil))))
      (dSeq (dSet 1 (dOp (fAdd false) (dOp (fAdd false) (dVar 1) (dLst false (dCons (dC (.int 1)) dNil))) (dCall m_number (dCons (dCall fLen (dCons (dVar 3) dNil)) dNil))))
    (dFor [0, 2, 3] (dIt (dVar 3)) (gNm 2)
      (dSet 1 (dOp (fAdd false) (dVar 1) (dCall m_act_bytes (dCons (dVar 2) dNil))))))))
    (dRet (dVar 1))))))
def m_change : MF := dFn 1 6
    (dSeq (dSet 1 (dComp false (dRng1 (dCons (dOp (fAdd false) (dC (.int 1)) (dOp fMod (dVar 0) (dC (.int 5)))) dNil)) (gNm 5) dYes (dOp fMod (dOp fDiv (dVar 0) (dOp (fAdd false) (dVar 5) (dC (.int 1)))) (dC (.int 500))) [5]))
    (dSeq (dSet 2 (dLst false (dCons (dTup (dCons (dC (.str "grant")) (dCons (dOp fMod (dVar 0) (dC (.int 6))) (dCons (dCall m_rights (dCons (dVar 0) dNil)) dNil)))) (dCons (dTup (dCons (dC (.str "revoke")) (dCons (dC .non) dNil))) (dCons (dTup (dCons (dC (.str "revoke")) (dCons (dCall m_spot (dCons (dVar 0) dNil)) dNil))) (dCons (dTup (dCons (dC (.str "seal")) dNil)) dNil))))))
    (dSeq (dSet 3 (dLst false (dCons (dC .non) (dCons (dTup dNil) (dCons (dTup (dCons (dCall m_act (dCons (dVar 0) (dCons (dVar 0) dNil))) dNil)) (dCons (dTup (dCons (dCall m_act (dCons (dOp (fAdd false) (dVar 0) (dC (.int 1))) (dCons (dOp fDiv (dVar 0) (dC (.int 3))) dNil))) (dCons (dCall m_act (dCons (dOp (fAdd false) (dVar 0) (dC (.int 5))) (dCons (dVar 0) dNil))) dNil))) dNil))))))
    (dSeq (dSet 4 (dC .non))
    (dSeq (dIf (dTest (dOp (fEq false) (dOp fMod (dVar 0) (dC (.int 3))) (dC (.int 1))))
      (dSet 4 (dCall m_spot (dCons (dOp fDiv (dVar 0) (dC (.int 3))) dNil)))
      dNx)
    (dRet (dMake false 0 m_Change_init (dCons (dOp fMod (dVar 0) (dCall fLen (dCons (dVar 1) dNil))) (dCons (dOp (fAdd false) (dC (.int 1)) (dOp fMod (dVar 0) (dC (.int 1000)))) (dCons (dVar 1) (dCons (dVar 4) (dCons (dSl false (dVar 2) none (some (dOp fMod (dOp fDiv (dVar 0) (dC (.int 5))) (dC (.int 5))))) (dCons (dVar 3) dNil)))))))))))))
def m_entry : MF := dFn 1 4
    (dSeq (dSet 1 (dC .non))
    (dSeq (dIf (dTest (dOp (fEq false) (dOp fMod (dVar 0) (dC (.int 2))) (dC (.int 0))))
      (dSet 1 (dCall m_spot (dCons (dOp (fAdd false) (dVar 0) (dC (.int 9))) dNil)))
      dNx)
    (dSeq (dSet 2 (dTup (dCons (dCall m_spot (dCons (dVar 0) dNil)) (dCons (dVar 1) (dCons (dOp fMod (dVar 0) (dC (.int 6))) (dCons (dCall m_rights (dCons (dOp fDiv (dVar 0) (dC (.int 3))) dNil)) dNil))))))
    (dSeq (dSet 3 (dOp (fAdd false) (dOp (fAdd false) (dOp (fAdd false) (dCall m_numbers (dCons (dOp fIx (dVar 2) (dC (.int 0))) dNil)) (dCall m_optional (dCons (dVar 1) dNil))) (dLst false (dCons (dOp fMod (dVar 0) (dC (.int 6))) dNil))) (dCall m_rights_bytes (dCons (dOp fIx (dVar 2) (dC (.int 3))) dNil))))
    (dRet (dTup (dCons (dVar 2) (dCons (dVar 3) dNil))))))))
def m_kept : MF := dFn 1 9
    (dSeq (dSet 1 (dCall m_spot (dCons (dVar 0) dNil)))
    (dSeq (dSet 2 (dCall m_spot (dCons (dOp (fAdd false) (dVar 0) (dC (.int 1))) dNil)))
    (dSeq (dSet 3 (dCall m_act (dCons (dVar 0) (dCons (dOp (fAdd false) (dVar 0) (dC (.int 4))) dNil))))
    (dSeq (dSet 4 (dSl false (dLst false (dCons (dTup (dCons (dTup (dCons (dC (.int 1)) (dCons (dC (.int 2)) (dCons (dC (.int 3)) (dCons (dC (.int 4)) dNil))))) (dCons (dC (.str "q")) dNil))) (dCons (dTup (dCons (dTup (dCons (dC (.int 0)) (dCons (dC (.int 300)) (dCons (dC (.int 1)) (dCons (dOp fMod (dVar 0) (dC (.int 200))) dNil))))) (dCons (dC (.str "\n")) dNil))) dNil))) none (some (dOp fMod (dVar 0) (dC (.int 3))))))
    (dSeq (dSet 5 (dMake false 1 m_Kept_init (dCons (dLst false (dCons (dTup (dCons (dVar 1) (dCons (dVar 3) dNil))) dNil)) (dCons (dLst false (dCons (dTup (dCons (dTup (dCons (dVar 1) (dCons (dVar 2) dNil))) (dCons (dUn fNeg (dVar 0)) dNil))) dNil)) (dCons (dLst false (dCons (dTup (dCons (dTup (dCons (dVar 2) (dCons (dVar 1) dNil))) (dCons (dVar 4) dNil))) dNil)) dNil)))))
    (dSeq (dSet 6 (dOp (fAdd false) (dOp (fAdd false) (dLst false (dCons (dC (.int 1)) dNil)) (dCall m_numbers (dCons (dVar 1) dNil))) (dCall m_act_bytes (dCons (dVar 3) dNil))))
    (dSeq (dSet 6 (dOp (fAdd false) (dOp (fAdd false) (dOp (fAdd false) (dOp (fAdd false) (dVar 6) (dLst false (dCons (dC (.int 1)) dNil))) (dCall m_numbers (dCons (dVar 1) dNil))) (dCall m_numbers (dCons (dVar 2) dNil))) (dCall m_signed (dCons (dUn fNeg (dVar 0)) dNil))))
    (dSeq (dSet 6 (dOp (fAdd false) (dOp (fAdd false) (dOp (fAdd false) (dOp (fAdd false) (dVar 6) (dLst false (dCons (dC (.int 1)) dNil))) (dCall m_numbers (dCons (dVar 2) dNil))) (dCall m_numbers (dCons (dVar 1) dNil))) (dLst false (dCons (dCall fLen (dCons (dVar 4) dNil)) dNil))))
    (dSeq (dFor [0, 1, 2, 3, 4, 7, 8] (dIt (dVar 4)) (gTp 2 (gCn (gNm 7) (gCn (gNm 8) gNl)))
      (dSet 6 (dOp (fAdd false) (dOp (fAdd false) (dVar 6) (dCall m_numbers (dCons (dVar 7) dNil))) (dCall m_number (dCons (dCall fOrd (dCons (dVar 8) dNil)) dNil)))))
    (dRet (dTup (dCons (dVar 5) (dCons (dVar 6) dNil)))))))))))))
def m_order : MF := dFn 1 5
    (dSeq (dSet 1 (dMake true 2 m_Store_init (dCons (dC (.int 2)) dNil)))
    (dSeq (dDrop (dMeth 2 "add" m_Store_add (dVar 1) (dCons (dMake false 0 m_Change_init (dCons (dC (.int 1)) (dCons (dC (.int 1)) (dCons (dTup (dCons (dC (.int 0)) (dCons (dC (.int 0)) dNil))) (dCons (dC .non) (dCons (dTup dNil) (dCons (dTup (dCons (dC .non) (dCons (dTup dNil) (dCons (dTup dNil) (dCons (dTup dNil) dNil))))) dNil))))))) dNil)))
    (dSeq (dFor [2, 3, 4] (dRng1 (dCons (dOp (fAdd false) (dC (.int 1)) (dOp fMod (dVar 0) (dC (.int 3)))) dNil)) (gNm 2)
      (dDrop (dMeth 2 "add" m_Store_add (dVar 1) (dCons (dMake false 0 m_Change_init (dCons (dC (.int 0)) (dCons (dOp (fAdd false) (dVar 2) (dC (.int 1))) (dCons (dTup (dCons (dVar 2) (dCons (dOp fMod (dOp fDiv (dVar 0) (dC (.int 3))) (dC (.int 2))) dNil))) (dCons (dC .non) (dCons (dTup dNil) (dCons (dTup (dCons (dC .non) (dCons (dTup dNil) (dCons (dTup dNil) (dCons (dTup dNil) dNil))))) dNil))))))) dNil))))
    (dSeq (dSet 3 (dLst false dNil))
    (dSeq (dFor [2, 4] (dRng1 (dCons (dOp (fAdd false) (dC (.int 1)) (dOp fMod (dVar 0) (dC (.int 3)))) dNil)) (gNm 2)
      (dSet 3 (dOp (fAdd false) (dVar 3) (dLst false (dCons (dC (.int 0)) (dCons (dOp (fAdd false) (dVar 2) (dC (.int 1))) dNil))))))
    (dSeq (dSet 3 (dOp (fAdd false) (dVar 3) (dLst false (dCons (dC (.int 1)) (dCons (dC (.int 1)) dNil)))))
    (dSeq (dSet 4 (dOp (fAdd false) (dOp (fAdd false) (dLst false (dCons (dC (.int 1)) (dCons (dC (.int 1)) (dCons (dC (.int 2)) (dCons (dC (.int 0)) (dCons (dC (.int 0)) (dCons (dC (.int 2)) (dCons (dOp (fAdd false) (dC (.int 1)) (dOp fMod (dVar 0) (dC (.int 3)))) (dCons (dC (.int 1)) (dCons (dC (.int 1)) (dCons (dC (.int 1)) (dCons (dC (.int 1)) (dCons (dC (.int 1)) (dCons (dOp fDiv (dCall fLen (dCons (dVar 3) dNil)) (dC (.int 2))) dNil)))))))))))))) (dVar 3)) (dLst false (dCons (dC (.int 0)) (dCons (dC (.int 0)) (dCons (dC (.int 0)) dNil))))))
    (dRet (dOp (fEq false) (dCall m_asking (dCons (dVar 1) (dCons (dC (.int 1)) dNil))) (dVar 4))))))))))
def m_store : MF := dFn 1 10
    (dSeq (dSet 1 (dMake true 2 m_Store_init (dCons (dC (.int 2)) dNil)))
    (dSeq (dSet 3 (dCall fTuple (dCons (dComp false (dRng1 (dCons (dOp fMod (dVar 0) (dC (.int 4))) dNil)) (gNm 2) dYes (dTup (dCons (dC (.str "row")) (dCons (dTup (dCons (dC (.int 0)) (dCons (dC (.int 1)) (dCons (dVar 2) dNil)))) dNil))) [2]) dNil)))
    (dSeq (dSet 4 (dLst false (dCons (dTup (dCons (dVar 3) (dCons (dTup dNil) (dCons (dTup dNil) (dCons (dTup dNil) dNil))))) (dCons (dTup (dCons (dC .non) (dCons (dVar 3) (dCons (dC .non) (dCons (dTup dNil) dNil))))) dNil))))
    (dSeq (dFor [2, 3, 5, 6, 7, 8, 9] (dRng1 (dCons (dOp fMod (dOp fDiv (dVar 0) (dC (.int 4))) (dC (.int 3))) dNil)) (gNm 2)
      (dDrop (dMeth 2 "add" m_Store_add (dVar 1) (dCons (dMake false 0 m_Change_init (dCons (dC (.int 0)) (dCons (dOp (fAdd false) (dVar 2) (dC (.int 1))) (dCons (dTup (dCons (dVar 2) (dCons (dC (.int 0)) dNil))) (dCons (dC .non) (dCons (dTup dNil) (dCons (dOp fIx (dVar 4) (dOp fMod (dVar 2) (dC (.int 2)))) dNil))))))) dNil))))
    (dSeq (dSet 5 (dLst false (dCons (dC (.int 1)) (dCons (dC (.int 0)) (dCons (dC (.int 0)) (dCons (dC (.int 0)) dNil))))))
    (dSeq (dSet 6 (dOp (fAdd false) (dOp (fAdd false) (dOp (fAdd false) (dOp (fAdd false) (dOp (fAdd false) (dLst false (dCons (dC (.int 2)) (dCons (dC (.int 0)) (dCons (dC (.int 0)) (dCons (dC (.int 0)) dNil))))) (dVar 5)) (dVar 5)) (dVar 5)) (dVar 5)) (dLst false (dCons (dOp fMod (dOp fDiv (dVar 0) (dC (.int 4))) (dC (.int 3))) dNil))))
    (dSeq (dSet 7 (dLst false dNil))
    (dSeq (dFor [2, 3, 4, 5, 8, 9] (dRng1 (dCons (dOp fMod (dOp fDiv (dVar 0) (dC (.int 4))) (dC (.int 3))) dNil)) (gNm 2)
      (dSeq (dSet 6 (dOp (fAdd false) (dVar 6) (dCall m_change_bytes (dCons (dMeth 2 "find" m_Store_find (dVar 1) (dCons (dTup (dCons (dC (.int 0)) (dCons (dOp (fAdd false) (dVar 2) (dC (.int 1))) dNil))) dNil)) dNil))))
    (dIf (dTest (dOp (fEq false) (dVar 2) (dC (.int 1))))
      (dSet 7 (dLst false (dCons (dC (.int 0)) (dCons (dC (.int 2)) dNil))))
      dNx)))
    (dSeq (dSet 6 (dOp (fAdd false) (dVar 6) (dLst false (dCons (dC (.int 0)) dNil))))
    (dSeq (dSet 8 (dOp fDiv (dCall fLen (dCons (dVar 7) dNil)) (dC (.int 2))))
    (dSeq (dSet 9 (dLst false (dCons (dC (.int 1)) (dCons (dOp fMod (dVar 0) (dC (.int 2))) (dCons (dC (.int 2)) (dCons (dC (.int 0)) (dCons (dC (.int 0)) (dCons (dC (.int 2)) (dCons (dOp fMod (dOp fDiv (dVar 0) (dC (.int 4))) (dC (.int 3))) (dCons (dC (.int 0)) (dCons (dC (.int 1)) (dCons (dC (.int 1)) (dCons (dC (.int 1)) (dCons (dC (.int 1)) dNil))))))))))))))
    (dSeq (dSet 9 (dOp (fAdd false) (dOp (fAdd false) (dOp (fAdd false) (dOp (fAdd false) (dOp (fAdd false) (dOp (fAdd false) (dVar 9) (dLst false (dCons (dVar 8) dNil))) (dVar 7)) (dLst false (dCons (dC (.int 0)) dNil))) (dLst false (dCons (dVar 8) dNil))) (dVar 7)) (dLst false (dCons (dC (.int 0)) dNil))))
    (dRet (dAndV (dOp (fEq false) (dCall m_write_store (dCons (dVar 1) dNil)) (dVar 6)) (dAndV (dOp (fEq false) (dCall m_asking (dCons (dVar 1) (dCons (dOp fMod (dVar 0) (dC (.int 2))) dNil))) (dVar 9)) (dCall m_order (dCons (dVar 0) dNil)))))))))))))))))
def m_law : MF := dFn 1 12
    (dSeq (dFor [1, 2, 3, 4, 5, 6, 7, 8, 9, 10, 11] (dRng1 (dCons (dOp (fAdd false) (dC (.int 1)) (dCall fMin (dCons (dC (.int 4)) (dCons (dCall fLen (dCons (dVar 0) dNil)) dNil)))) dNil)) (gNm 1)
      (dSeq (dSet 2 (dOp fMod (dCall m_draw (dCons (dVar 0) (dCons (dVar 1) dNil))) (dC (.int 1000003))))
    (dSeq (dSet 3 (dCall m_text (dCons (dVar 2) dNil)))
    (dSeq (dIf (dTest (dOp (fEq false) (dOp fMod (dVar 2) (dC (.int 6))) (dC (.int 1))))
      (dSet 3 (dOp fMulS (dOp (fAdd false) (dVar 3) (dC (.str "ab~ "))) (dOp fMod (dVar 2) (dC (.int 101)))))
      dNx)
    (dSeq (dSet 3 (dSl false (dVar 3) none (some (dC (.int 2000)))))
    (dSeq (dSet 4 (dOp fPow (dVar 2) (dC (.int 6))))
    (dSeq (dIf (dOr (dTest (dOp (fEq true) (dCall m_write_number (dCons (dVar 4) dNil)) (dCall m_number (dCons (dVar 4) dNil)))) (dTest (dOp (fEq true) (dCall m_write_integer (dCons (dUn fNeg (dVar 2)) dNil)) (dCall m_signed (dCons (dUn fNeg (dVar 2)) dNil)))))
      (dRet (dC (.bl false)))
      dNx)
    (dSeq (dIf (dOr (dTest (dOp (fEq true) (dCall m_write_string (dCons (dVar 3) dNil)) (dCall m_string (dCons (dVar 3) dNil)))) (dTest (dOp (fEq true) (dCall m_write_value (dCons (dCall m_value (dCons (dVar 2) dNil)) dNil)) (dCall m_bytes_of (dCons (dCall m_value (dCons (dVar 2) dNil)) dNil)))))
      (dRet (dC (.bl false)))
      dNx)
    (dSeq (dFor [1, 3, 4, 5, 6, 7, 8, 9, 10, 11] (dRng1 (dCons (dC (.int 11)) dNil)) (gNm 5)
      (dSeq (dSet 6 (dCall m_act (dCons (dVar 5) (dCons (dVar 2) dNil))))
    (dIf (dTest (dOp (fEq true) (dCall m_write_act (dCons (dVar 6) dNil)) (dCall m_act_bytes (dCons (dVar 6) dNil))))
      (dRet (dC (.bl false)))
      dNx)))
    (dSeq (dSet 7 (dCall m_change (dCons (dVar 2) dNil)))
    (dSeq (dAsg (dCall m_entry (dCons (dVar 2) dNil)) (gTp 2 (gCn (gNm 8) (gCn (gNm 9) gNl))))
    (dSeq (dAsg (dCall m_kept (dCons (dVar 2) dNil)) (gTp 2 (gCn (gNm 10) (gCn (gNm 11) gNl))))
    (dSeq (dIf (dOr (dTest (dOp (fEq true) (dCall m_write_change (dCons (dVar 7) dNil)) (dCall m_change_bytes (dCons (dVar 7) dNil)))) (dTest (dOp (fEq true) (dCall m_write_capability (dCons (dVar 8) dNil)) (dVar 9))))
      (dRet (dC (.bl false)))
      dNx)
    (dIf (dOr (dTest (dOp (fEq true) (dCall m_write_kept (dCons (dVar 10) dNil)) (dVar 11))) (dNot (dTest (dCall m_store (dCons (dVar 2) dNil)))))
      (dRet (dC (.bl false)))
      dNx))))))))))))))
    (dRet (dC (.bl true))))
end Kb
namespace Kb
open PySem PySem.Spec PyProof.Rows L2 Pv
/-- the digits to base 128, k + 1 of them at most -/
def wnd : Nat → Nat → List Int
  | 0, n => [(n : Int)]
  | k + 1, n => if n < 128 then [(n : Int)] else ((n % 128 + 128 : Nat) : Int) :: wnd k (n / 128)
theorem wnd_len : ∀ (k n : Nat), (wnd k n).length ≤ k + 1
  | 0, n => Nat.le_refl _
  | k + 1, n => by
    unfold wnd
    split
    · simp
    · rw [List.length_cons]
      have := wnd_len k (n / 128)
      omega
abbrev wB : MS := (dSeq (dDrop (dBM "list" fApp (dVar 1) (dCons (dOp (fAdd false) (dOp fMod (dVar 0) (dC (.int 128))) (dC (.int 128))) dNil)))
    (dSet 0 (dOp fDiv (dVar 0) (dC (.int 128)))))
/-- one turn -/
theorem w_turn (n : Nat) (b : Nat) (os : List Ob) (acc : List Int) (hl : acc.length < 1000) : wB [some (.p (.int (n : Int))), some (.ref os.length)] ⟨b, os ++ [.lst ((intsP acc).map D.p)]⟩ =
    some (.nx [some (.p (.int ((n / 128 : Nat) : Int))), some (.ref os.length)], ⟨b, os ++ [.lst ((intsP (acc ++ [((n % 128 + 128 : Nat) : Int)])).map D.p)]⟩) := by
  have e := at_last b os (.lst ((intsP acc).map D.p))
  have ty := isTy_ref e
  have hd : divOk (n : Int) 128 = true := divOk_c (by decide) (by decide)
  have ap : fApp [.ref os.length, .p (.int ((n : Int) % 128 + 128))] ⟨b, os ++ [.lst ((intsP acc).map D.p)]⟩ = some (.p .non, ⟨b, os ++ [.lst ((intsP (acc ++ [((n % 128 + 128 : Nat) : Int)])).map D.p)]⟩) := by
    rw [fApp_p e (by rw [List.length_map, intsP_len]; have := line_ge; omega), put_last]
    have h2 : ((n % 128 + 128 : Nat) : Int) = (n : Int) % 128 + 128 := by omega
    rw [h2]
    unfold intsP
    simp
  have hq : (n : Int) / 128 = ((n / 128 : Nat) : Int) := by omega
  unfold wB
  simp only [at_dSeq, at_dDrop, at_dBM, at_dCons, at_dOp, at_dVar, at_dC, at_dNil, at_dSet, bnd_some, seqK_nx, List.getElem?_cons_zero, List.getElem?_cons_succ, List.set_cons_zero, fII_eq, fAdd_i, ty, if_true, ap, hd, decide_eq_true_eq, Int.reduceLT, hq]
theorem w_loop (b : Nat) (os : List Ob) (f : Nat) : ∀ (k n : Nat) (acc : List Int), n < 128 ^ (k + 1) → acc.length + k < 900 → ∃ (r : List Int) (n' : Nat), wnd k n = r ++ [(n' : Int)] ∧
    whL [] (dTest (dOp fGe (dVar 0) (dC (.int 128)))) wB (f + k + 1) [some (.p (.int (n : Int))), some (.ref os.length)] ⟨b, os ++ [.lst ((intsP acc).map D.p)]⟩ =
      some (.nx [some (.p (.int (n' : Int))), some (.ref os.length)], ⟨b, os ++ [.lst ((intsP (acc ++ r)).map D.p)]⟩)
  | k, n, acc, hn, hl => by
    by_cases h : n < 128
    · refine ⟨[], n, ?_, ?_⟩
      · cases k with
        | zero => rfl
        | succ k => unfold wnd; rw [if_pos h]; rfl
      · have ht : ∀ S, fGe (.p (.int (n : Int))) (.p (.int 128)) S = some (.p (.bl false), S) := fun S => (fII_eq _ _ _ _ S).trans (by rw [if_pos rfl, decide_eq_false (by omega)])
        rw [whL]
        simp only [at_dTest, at_dOp, at_dVar, at_dC, bnd_some, List.getElem?_cons_zero, ht, toB_p, Bool.false_eq_true, if_false, List.append_nil]
    · cases k with
      | zero => exact absurd hn (by omega)
      | succ k =>
        have ht : ∀ S, fGe (.p (.int (n : Int))) (.p (.int 128)) S = some (.p (.bl true), S) := fun S => (fII_eq _ _ _ _ S).trans (by rw [if_pos rfl, decide_eq_true (by omega)])
        have hn2 : n / 128 < 128 ^ (k + 1) := by
          rw [Nat.div_lt_iff_lt_mul (by decide)]
          exact hn
        obtain ⟨r, n', e1, e2⟩ := w_loop b os f k (n / 128) (acc ++ [((n % 128 + 128 : Nat) : Int)]) hn2 (by rw [List.length_append, List.length_singleton]; omega)
        refine ⟨((n % 128 + 128 : Nat) : Int) :: r, n', ?_, ?_⟩
        · unfold wnd
          rw [if_neg h, e1]
          rfl
        · have ef : f + (k + 1) + 1 = (f + k + 1) + 1 := by omega
          rw [ef, whL]
          simp only [at_dTest, at_dOp, at_dVar, at_dC, bnd_some, List.getElem?_cons_zero, ht, toB_p, if_true, w_turn n b os acc (by omega), wipeD]
          rw [e2, List.append_assoc]
          rfl

theorem at_dWhile {ws : List Nat} {f : Nat} {t : MT} {b : MS} {σ : En} {S : SH} : dWhile ws f t b σ S = whL ws t b f (wipeD ws σ) S := id rfl
theorem fuel_at (k : Nat) (h : k ≤ 100) : wFuel = (999999 - k) + k + 1 := by
  show 1000000 = _
  omega
/-- the body of write_number -/
theorem wn_body (n : Nat) (hn : n < 128 ^ 61) (S : SH) (b : Nat) : (dSeq (dSet 1 (dLst true dNil))
    (dSeq (dWhile [] wFuel (dTest (dOp fGe (dVar 0) (dC (.int 128)))) wB)
    (dSeq (dDrop (dBM "list" fApp (dVar 1) (dCons (dVar 0) dNil)))
    (dRet (dVar 1))))) [some (.p (.int (n : Int))), none] ⟨b, S.os⟩ = some (.ret (.ref S.os.length), ⟨b, S.os ++ [.lst ((intsP (wnd 60 n)).map D.p)]⟩) := by
  obtain ⟨r, n', e1, e2⟩ := w_loop b S.os (999999 - 60) 60 n [] hn (by simp)
  rw [← fuel_at 60 (by omega)] at e2
  have l1 : newL true [] ⟨b, S.os⟩ = some (.ref S.os.length, ⟨b, S.os ++ [.lst ((intsP []).map D.p)]⟩) := newL_t [] (Nat.zero_le _)
  have e := at_last b S.os (.lst ((intsP ([] ++ r)).map D.p))
  have hr : r.length ≤ 60 := by
    have := wnd_len 60 n
    rw [e1, List.length_append, List.length_singleton] at this
    omega
  have ap : fApp [.ref S.os.length, .p (.int (n' : Int))] ⟨b, S.os ++ [.lst ((intsP ([] ++ r)).map D.p)]⟩ = some (.p .non, ⟨b, S.os ++ [.lst ((intsP (wnd 60 n)).map D.p)]⟩) := by
    rw [fApp_p e (by rw [List.length_map, intsP_len, List.nil_append]; have := line_ge; omega), put_last, e1]
    unfold intsP
    simp
  have ty := isTy_ref e
  simp only [at_dSeq, at_dSet, at_dLst, at_dNil, bnd_some, l1, seqK_nx, at_dWhile, wipeD, List.set_cons_zero, List.set_cons_succ, e2, at_dDrop, at_dBM, at_dVar, at_dCons, List.getElem?_cons_zero, List.getElem?_cons_succ, ty, if_true, ap, at_dRet]
theorem wn_eq (n : Nat) (hn : n < 128 ^ 61) (S : SH) : m_write_number [.p (.int (n : Int))] S = some (.p (.lst (intsP (wnd 60 n))), S) := by
  unfold m_write_number
  rw [fn_at (k := 1) rfl]
  have ev : startD 2 [.p (.int (n : Int))] = [some (.p (.int (n : Int))), none] := rfl
  rw [ev, wn_body n hn S, frame_ref (Nat.le_refl _) (at_last _ _ _), cut_app]
theorem wnL_eq (n : Nat) (hn : n < 128 ^ 61) (S : SH) : mL_write_number [.p (.int (n : Int))] S = some (.ref S.os.length, ⟨S.b, S.os ++ [.lst ((intsP (wnd 60 n)).map D.p)]⟩) := by
  unfold mL_write_number
  rw [fnL_at (k := 1) rfl]
  have ev : startD 2 [.p (.int (n : Int))] = [some (.p (.int (n : Int))), none] := rfl
  have e := wn_body n hn S S.b
  rw [ev]
  show liveF _ = _
  rw [show (S : SH) = ⟨S.b, S.os⟩ from rfl, e, live_ret]
/-! the law's own -/
theorem n_loop (b : Nat) (os : List Ob) (f : Nat) : ∀ (k n : Nat) (acc : List Int), acc.length + k = 60 → ∃ (r : List Int) (n' : Nat), wnd k n = r ++ [(n' : Int)] ∧
    whL [] (dAnd (dTest (dOp fGe (dVar 0) (dC (.int 128)))) (dTest (dOp fLt (dCall fLen (dCons (dVar 1) dNil)) (dC (.int 60))))) wB (f + k + 1) [some (.p (.int (n : Int))), some (.ref os.length)] ⟨b, os ++ [.lst ((intsP acc).map D.p)]⟩ =
      some (.nx [some (.p (.int (n' : Int))), some (.ref os.length)], ⟨b, os ++ [.lst ((intsP (acc ++ r)).map D.p)]⟩)
  | k, n, acc, hl => by
    have e := at_last b os (.lst ((intsP acc).map D.p))
    have fl : fLen [.ref os.length] ⟨b, os ++ [.lst ((intsP acc).map D.p)]⟩ = some (.p (.int acc.length), ⟨b, os ++ [.lst ((intsP acc).map D.p)]⟩) := by
      unfold fLen asQ
      simp only [e, List.length_map, intsP_len]
    by_cases h : n < 128
    · refine ⟨[], n, ?_, ?_⟩
      · cases k with
        | zero => rfl
        | succ k => unfold wnd; rw [if_pos h]; rfl
      · have ht : ∀ S, fGe (.p (.int (n : Int))) (.p (.int 128)) S = some (.p (.bl false), S) := fun S => (fII_eq _ _ _ _ S).trans (by rw [if_pos rfl, decide_eq_false (by omega)])
        rw [whL]
        simp only [at_dAnd, at_dTest, at_dOp, at_dVar, at_dC, bnd_some, List.getElem?_cons_zero, ht, toB_p, Bool.false_eq_true, if_false, List.append_nil]
    · have ht : ∀ S, fGe (.p (.int (n : Int))) (.p (.int 128)) S = some (.p (.bl true), S) := fun S => (fII_eq _ _ _ _ S).trans (by rw [if_pos rfl, decide_eq_true (by omega)])
      cases k with
      | zero =>
        have h2 : ∀ S, fLt (.p (.int (acc.length : Int))) (.p (.int 60)) S = some (.p (.bl false), S) := fun S => (fII_eq _ _ _ _ S).trans (by rw [if_pos rfl, decide_eq_false (by omega)])
        refine ⟨[], n, rfl, ?_⟩
        rw [whL]
        simp only [at_dAnd, at_dTest, at_dOp, at_dVar, at_dC, at_dCall, at_dCons, at_dNil, bnd_some, List.getElem?_cons_zero, List.getElem?_cons_succ, ht, fl, h2, toB_p, if_true, Bool.false_eq_true, if_false, List.append_nil]
      | succ k =>
        have h2 : ∀ S, fLt (.p (.int (acc.length : Int))) (.p (.int 60)) S = some (.p (.bl true), S) := fun S => (fII_eq _ _ _ _ S).trans (by rw [if_pos rfl, decide_eq_true (by omega)])
        obtain ⟨r, n', e1, e2⟩ := n_loop b os f k (n / 128) (acc ++ [((n % 128 + 128 : Nat) : Int)]) (by rw [List.length_append, List.length_singleton]; omega)
        refine ⟨((n % 128 + 128 : Nat) : Int) :: r, n', ?_, ?_⟩
        · unfold wnd
          rw [if_neg h, e1]
          rfl
        · have ef : f + (k + 1) + 1 = (f + k + 1) + 1 := by omega
          rw [ef, whL]
          simp only [at_dAnd, at_dTest, at_dOp, at_dVar, at_dC, at_dCall, at_dCons, at_dNil, bnd_some, List.getElem?_cons_zero, List.getElem?_cons_succ, ht, fl, h2, toB_p, if_true, w_turn n b os acc (by omega), wipeD]
          rw [e2, List.append_assoc]
          rfl
theorem nb_eq (n : Nat) (S : SH) : m_number [.p (.int (n : Int))] S = some (.p (.lst (intsP (wnd 60 n))), S) := by
  obtain ⟨r, n', e1, e2⟩ := n_loop S.os.length S.os (999999 - 60) 60 n [] rfl
  rw [← fuel_at 60 (by omega)] at e2
  have l1 : newL true [] ⟨S.os.length, S.os⟩ = some (.ref S.os.length, ⟨S.os.length, S.os ++ [.lst ((intsP []).map D.p)]⟩) := newL_t [] (Nat.zero_le _)
  have e := at_last S.os.length S.os (.lst ((intsP ([] ++ r)).map D.p))
  have hr : r.length ≤ 60 := by
    have := wnd_len 60 n
    rw [e1, List.length_append, List.length_singleton] at this
    omega
  have n1 : newL false [.p (.int (n' : Int))] ⟨S.os.length, S.os ++ [.lst ((intsP ([] ++ r)).map D.p)]⟩ = some (.p (.lst [.int (n' : Int)]), ⟨S.os.length, S.os ++ [.lst ((intsP ([] ++ r)).map D.p)]⟩) := newL_f [.int (n' : Int)] (by have := line_ge; simp; omega)
  have ad : fAdd false (.ref S.os.length) (.p (.lst [.int (n' : Int)])) ⟨S.os.length, S.os ++ [.lst ((intsP ([] ++ r)).map D.p)]⟩ = some (.p (.lst (intsP (wnd 60 n))), ⟨S.os.length, S.os ++ [.lst ((intsP ([] ++ r)).map D.p)]⟩) := by
    have ea : asL (.ref S.os.length) ⟨S.os.length, S.os ++ [.lst ((intsP ([] ++ r)).map D.p)]⟩ = some ((intsP ([] ++ r)).map D.p) := by
      unfold asL
      dsimp only
      rw [e]
    unfold fAdd
    simp only [ea, asL_l]
    have q : (intsP ([] ++ r)).map D.p ++ [P.int (n' : Int)].map D.p = (intsP (wnd 60 n)).map D.p := by
      rw [e1]
      unfold intsP
      simp
    rw [q, newL_f _ (by rw [intsP_len]; have := wnd_len 60 n; have := line_ge; omega)]
  have ev : startD 2 [.p (.int (n : Int))] = [some (.p (.int (n : Int))), none] := rfl
  unfold m_number
  rw [fn_at (k := 1) rfl, ev]
  simp only [at_dSeq, at_dSet, at_dLst, at_dNil, bnd_some, l1, seqK_nx, at_dWhile, wipeD, List.set_cons_zero, List.set_cons_succ, e2, at_dRet, at_dOp, at_dVar, at_dCons, List.getElem?_cons_zero, List.getElem?_cons_succ, n1, ad, frame_p, cut_app]
end Kb
namespace Kb
open PySem PySem.Spec PyProof.Rows L2 Pv
abbrev Big : Nat := 128 ^ 61
def natsP (l : List Nat) : List P := l.map fun (n : Nat) => P.int (n : Int)
def enc (l : List Nat) : List Int := (l.map (wnd 60)).flatten
theorem enc_cons (n : Nat) (l : List Nat) : enc (n :: l) = wnd 60 n ++ enc l := by
  unfold enc
  rw [List.map_cons, List.flatten_cons]
theorem enc_snoc (l : List Nat) (n : Nat) : enc (l ++ [n]) = enc l ++ wnd 60 n := by
  unfold enc
  simp
theorem enc_len (l : List Nat) : (enc l).length ≤ 61 * l.length := by
  induction l with
  | nil => exact Nat.le_refl _
  | cons n l ih =>
    rw [enc_cons, List.length_append, List.length_cons]
    have := wnd_len 60 n
    omega
theorem enc_take (l : List Nat) {i n : Nat} (h : l[i]? = some n) : enc (l.take (i + 1)) = enc (l.take i) ++ wnd 60 n := by
  rw [List.take_add_one, h]
  exact enc_snoc _ _
theorem fExt_p {n : Nat} {S : SH} {ds : List D} {ps : List P} (h : S.os[n]? = some (.lst ds)) (hl : ds.length + ps.length ≤ 1000000) : fExt [.ref n, .p (.lst ps)] S = some (.p .non, S.put n (.lst (ds ++ ps.map D.p))) := by
  unfold fExt
  dsimp only
  rw [h, asQ_l]
  dsimp only
  rw [toPs_map]
  dsimp only
  rw [if_pos (small' hl)]
where small' {k : Nat} (h : k ≤ 1000000) : k ≤ sizeLine := Nat.le_trans h line_ge
theorem intsP_app (a b : List Int) : intsP (a ++ b) = intsP a ++ intsP b := List.map_append
/-- one list behind another -/
theorem ext_last (b : Nat) (os : List Ob) (a c : List Int) (hl : a.length + c.length ≤ 1000000) : fExt [.ref os.length, .p (.lst (intsP c))] ⟨b, os ++ [.lst ((intsP a).map D.p)]⟩ = some (.p .non, ⟨b, os ++ [.lst ((intsP (a ++ c)).map D.p)]⟩) := by
  rw [fExt_p (at_last b os _) (by rw [List.length_map, intsP_len, intsP_len]; exact hl), put_last, ← List.map_append, ← intsP_app]
theorem add_l (a c : List Int) (hl : a.length + c.length ≤ 1000000) (S : SH) : fAdd false (.p (.lst (intsP a))) (.p (.lst (intsP c))) S = some (.p (.lst (intsP (a ++ c))), S) := by
  have h : intsP a ++ intsP c = intsP (a ++ c) := (intsP_app a c).symm
  unfold fAdd
  simp only [asL_l]
  rw [← List.map_append, h, newL_f _ (by rw [intsP_len, List.length_append]; exact Nat.le_trans hl line_ge)]
theorem small {n : Nat} (h : n ≤ 1000000) : n ≤ sizeLine := Nat.le_trans h line_ge
theorem ints_lit (S : SH) (a : List Int) (ds : List D) (e : ds = (intsP a).map D.p) (hl : a.length ≤ 1000) : newL false ds S = some (.p (.lst (intsP a)), S) := by
  rw [e]
  exact newL_f _ (small (by rw [intsP_len]; omega))
/-- a list's numbers -/
theorem wns_eq (p : P) (l : List Nat) (hp : p = .lst (natsP l) ∨ p = .tup (natsP l)) (hb : ∀ n ∈ l, n < Big) (hl : l.length ≤ 10000) (S : SH) : m_write_numbers [.p p] S = some (.p (.lst (intsP (enc l))), S) := by
  have src := fun S => itP (S := S) (natsP l) hp
  obtain ⟨σ', S', h1, rfl, rfl⟩ := p_inv (body := (dDrop (dBM "list" fExt (dVar 1) (dCons (dCall m_write_number (dCons (dVar 2) dNil)) dNil)))) (ws := [0, 2]) (j := 2) (fun i σ S' => σ = [none, some (.ref S.os.length), none] ∧ S' = ⟨S.os.length, S.os ++ [.lst ((intsP (enc (l.take i))).map D.p)]⟩) (natsP l)
    (σ := [none, some (.ref S.os.length), none]) (S := ⟨S.os.length, S.os ++ [.lst ((intsP []).map D.p)]⟩) ⟨rfl, rfl⟩ (by
      rintro i q σ S1 hq ⟨rfl, rfl⟩
      unfold natsP at hq
      rw [List.getElem?_map] at hq
      cases e : l[i]? with
      | none => rw [e] at hq; cases hq
      | some n =>
      rw [e] at hq
      cases hq
      have hi := (List.getElem?_eq_some_iff.mp e).1
      have hn := hb n (List.mem_of_getElem? e)
      have ty := isTy_ref (at_last S.os.length S.os (.lst ((intsP (enc (l.take i))).map D.p)))
      have z1 := enc_len (l.take i)
      have z2 := wnd_len 60 n
      rw [List.length_take] at z1
      have ex := ext_last S.os.length S.os (enc (l.take i)) (wnd 60 n) (by omega)
      rw [← enc_take l e] at ex
      refine ⟨[none, some (.ref S.os.length), some (.p (.int (n : Int)))], _, .inl ?_, rfl, rfl⟩
      simp only [at_dDrop, at_dBM, at_dVar, at_dCons, at_dCall, at_dNil, bnd_some, List.set_cons_zero, List.set_cons_succ, List.getElem?_cons_zero, List.getElem?_cons_succ, ty, if_true, wn_eq n hn, ex])
  have el : (natsP l).length = l.length := List.length_map _
  rw [el, List.take_length] at h1
  have l1 : newL true [] ⟨S.os.length, S.os⟩ = some (.ref S.os.length, ⟨S.os.length, S.os ++ [.lst ((intsP []).map D.p)]⟩) := newL_t [] (Nat.zero_le _)
  have ev : startD 3 [.p p] = [some (.p p), none, none] := rfl
  have e6 := frame_ref (S := S) (n := S.os.length) (S1 := ⟨S.os.length, S.os ++ [.lst ((intsP (enc l)).map D.p)]⟩) (ps := intsP (enc l)) (Nat.le_refl _) (at_last _ _ _)
  rw [cut_app] at e6
  unfold m_write_numbers
  rw [fn_at (k := 1) rfl, ev]
  simp only [at_dSeq, at_dSet, at_dLst, at_dNil, bnd_some, l1, seqK_nx, at_dFor, at_dIt, at_dVar, List.set_cons_zero, List.set_cons_succ, List.getElem?_cons_zero, List.getElem?_cons_succ, src, wipeD, h1, at_dRet, e6]
theorem nbs_eq (p : P) (l : List Nat) (hp : p = .lst (natsP l) ∨ p = .tup (natsP l)) (hl : l.length ≤ 10000) (S : SH) : m_numbers [.p p] S = some (.p (.lst (intsP (enc l))), S) := by
  have src := fun S => itP (S := S) (natsP l) hp
  obtain ⟨σ', S', h1, rfl, rfl⟩ := p_inv (body := (dSet 1 (dOp (fAdd false) (dVar 1) (dCall m_number (dCons (dVar 2) dNil))))) (ws := [0, 2]) (j := 2) (fun i σ S' => σ = [none, some (.p (.lst (intsP (enc (l.take i))))), none] ∧ S' = ⟨S.os.length, S.os⟩) (natsP l)
    (σ := [none, some (.p (.lst (intsP []))), none]) (S := ⟨S.os.length, S.os⟩) ⟨rfl, rfl⟩ (by
      rintro i q σ S1 hq ⟨rfl, rfl⟩
      unfold natsP at hq
      rw [List.getElem?_map] at hq
      cases e : l[i]? with
      | none => rw [e] at hq; cases hq
      | some n =>
      rw [e] at hq
      cases hq
      have hi := (List.getElem?_eq_some_iff.mp e).1
      have z1 := enc_len (l.take i)
      have z2 := wnd_len 60 n
      rw [List.length_take] at z1
      have ex := add_l (enc (l.take i)) (wnd 60 n) (by omega) ⟨S.os.length, S.os⟩
      rw [← enc_take l e] at ex
      refine ⟨[none, some (.p (.lst (intsP (enc (l.take (i + 1)))))), some (.p (.int (n : Int)))], _, .inl ?_, rfl, rfl⟩
      simp only [at_dSet, at_dOp, at_dVar, at_dCons, at_dCall, at_dNil, bnd_some, List.set_cons_zero, List.set_cons_succ, List.getElem?_cons_zero, List.getElem?_cons_succ, nb_eq n, ex])
  have el : (natsP l).length = l.length := List.length_map _
  rw [el, List.take_length] at h1
  have l1 : newL false [] ⟨S.os.length, S.os⟩ = some (.p (.lst (intsP [])), ⟨S.os.length, S.os⟩) := ints_lit _ [] [] rfl (by simp)
  have ev : startD 3 [.p p] = [some (.p p), none, none] := rfl
  unfold m_numbers
  rw [fn_at (k := 1) rfl, ev]
  simp only [at_dSeq, at_dSet, at_dLst, at_dNil, bnd_some, l1, seqK_nx, at_dFor, at_dIt, at_dVar, List.set_cons_zero, List.set_cons_succ, List.getElem?_cons_zero, List.getElem?_cons_succ, src, wipeD, h1, at_dRet, frame_p, cut_self]
/-! a signed number -/
def encI (i : Int) : List Int := (if i < 0 then 1 else 0) :: wnd 60 i.natAbs
theorem int_lt (i : Int) (S : SH) : fLt (.p (.int i)) (.p (.int 0)) S = some (.p (.bl (decide (i < 0))), S) := (fII_eq _ _ _ _ S).trans (if_pos rfl)
theorem fInt_b (b : Bool) (S : SH) : fInt [.p (.bl b)] S = some (.p (.int (if b = true then 1 else 0)), S) := rfl
theorem wi_eq (i : Int) (h : i.natAbs < Big) (S : SH) : m_write_integer [.p (.int i)] S = some (.p (.lst (intsP (encI i))), S) := by
  have n1 : newL false [.p (.int (if decide (i < 0) = true then 1 else 0))] ⟨S.os.length, S.os⟩ = some (.p (.lst (intsP [if i < 0 then 1 else 0])), ⟨S.os.length, S.os⟩) := ints_lit _ [if i < 0 then 1 else 0] _ (by by_cases c : i < 0 <;> simp [c, intsP]) (by simp)
  have ab : fAbs [.p (.int i)] ⟨S.os.length, S.os⟩ = some (.p (.int (i.natAbs : Int)), ⟨S.os.length, S.os⟩) := by
    simp [fAbs]
    split <;> omega
  have z := wnd_len 60 i.natAbs
  have ad := add_l [if i < 0 then 1 else 0] (wnd 60 i.natAbs) (by rw [List.length_singleton]; omega) ⟨S.os.length, S.os⟩
  have ev : startD 1 [.p (.int i)] = [some (.p (.int i))] := rfl
  unfold m_write_integer
  rw [fn_at (k := 1) rfl, ev]
  simp only [at_dRet, at_dOp, at_dLst, at_dCons, at_dCall, at_dVar, at_dC, at_dNil, bnd_some, List.getElem?_cons_zero, int_lt, fInt_b, n1, ab, wn_eq _ h, ad, frame_p, cut_self]
  rfl
theorem si_eq (i : Int) (S : SH) : m_signed [.p (.int i)] S = some (.p (.lst (intsP (encI i))), S) := by
  have n1 : newL false [.p (.int (if decide (i < 0) = true then 1 else 0))] ⟨S.os.length, S.os⟩ = some (.p (.lst (intsP [if i < 0 then 1 else 0])), ⟨S.os.length, S.os⟩) := ints_lit _ [if i < 0 then 1 else 0] _ (by by_cases c : i < 0 <;> simp [c, intsP]) (by simp)
  have ab : fAbs [.p (.int i)] ⟨S.os.length, S.os⟩ = some (.p (.int (i.natAbs : Int)), ⟨S.os.length, S.os⟩) := by
    simp [fAbs]
    split <;> omega
  have z := wnd_len 60 i.natAbs
  have ad := add_l [if i < 0 then 1 else 0] (wnd 60 i.natAbs) (by rw [List.length_singleton]; omega) ⟨S.os.length, S.os⟩
  have ev : startD 1 [.p (.int i)] = [some (.p (.int i))] := rfl
  unfold m_signed
  rw [fn_at (k := 1) rfl, ev]
  simp only [at_dRet, at_dOp, at_dLst, at_dCons, at_dCall, at_dVar, at_dC, at_dNil, bnd_some, List.getElem?_cons_zero, int_lt, fInt_b, n1, ab, nb_eq, ad, frame_p, cut_self]
  rfl
/-! texts -/
def cpsN (z : Str) : List Nat := z.cps.toList
theorem chars_at {z : Str} {i : Nat} {p : P} (h : (charsP z)[i]? = some p) : ∃ c, (cpsN z)[i]? = some c ∧ p = .str ⟨#[c]⟩ := by
  unfold charsP at h
  rw [List.getElem?_map] at h
  cases e : z.cps.toList[i]? with
  | none => rw [e] at h; cases h
  | some c => rw [e] at h; exact ⟨c, e, (Option.some.inj h).symm⟩
theorem ord_c (c : Nat) (S : SH) : fOrd [.p (.str ⟨#[c]⟩)] S = some (.p (.int (c : Int)), S) := rfl
theorem cpsN_len (z : Str) : (cpsN z).length = z.length := Array.length_toList
theorem srcS_eq (z : Str) (S : SH) : srcS (.p (.str z)) S = some (srcP (charsP z), S) := rfl
theorem charsP_len (z : Str) : (charsP z).length = z.length := by
  unfold charsP
  rw [List.length_map]
  exact Array.length_toList
theorem fLen_s (z : Str) (h : z.length ≤ 1000000) (S : SH) : fLen [.p (.str z)] S = some (.p (.int (z.length : Int)), S) := by
  unfold fLen
  exact if_pos (small h)
def encS (z : Str) : List Int := wnd 60 z.length ++ enc (cpsN z)
theorem encS_len (z : Str) (h : z.length ≤ 10000) : (encS z).length ≤ 610100 := by
  unfold encS
  rw [List.length_append]
  have a := wnd_len 60 z.length
  have b := enc_len (cpsN z)
  rw [cpsN_len] at b
  omega
theorem ws_eq (z : Str) (h : z.length ≤ 10000) (hc : ∀ c ∈ cpsN z, c < Big) (S : SH) : m_write_string [.p (.str z)] S = some (.p (.lst (intsP (encS z))), S) := by
  have hz : z.length < Big := Nat.lt_of_le_of_lt h (by decide)
  obtain ⟨σ', S', h1, rfl, rfl⟩ := p_inv (body := (dDrop (dBM "list" fExt (dVar 1) (dCons (dCall m_write_number (dCons (dCall fOrd (dCons (dVar 2) dNil)) dNil)) dNil)))) (ws := [0, 2]) (j := 2) (fun i σ S' => σ = [none, some (.ref S.os.length), none] ∧ S' = ⟨S.os.length, S.os ++ [.lst ((intsP (wnd 60 z.length ++ enc ((cpsN z).take i))).map D.p)]⟩) (charsP z)
    (σ := [none, some (.ref S.os.length), none]) (S := ⟨S.os.length, S.os ++ [.lst ((intsP (wnd 60 z.length)).map D.p)]⟩) ⟨rfl, by unfold enc; simp⟩ (by
      rintro i q σ S1 hq ⟨rfl, rfl⟩
      obtain ⟨c, e, rfl⟩ := chars_at hq
      have hi := (List.getElem?_eq_some_iff.mp e).1
      rw [cpsN_len] at hi
      have hn := hc c (List.mem_of_getElem? e)
      have ty := isTy_ref (at_last S.os.length S.os (.lst ((intsP (wnd 60 z.length ++ enc ((cpsN z).take i))).map D.p)))
      have z0 := wnd_len 60 z.length
      have z1 := enc_len ((cpsN z).take i)
      have z2 := wnd_len 60 c
      rw [List.length_take] at z1
      have ex := ext_last S.os.length S.os (wnd 60 z.length ++ enc ((cpsN z).take i)) (wnd 60 c) (by rw [List.length_append]; omega)
      rw [List.append_assoc, ← enc_take (cpsN z) e] at ex
      refine ⟨[none, some (.ref S.os.length), some (.p (.str ⟨#[c]⟩))], _, .inl ?_, rfl, rfl⟩
      simp only [at_dDrop, at_dBM, at_dVar, at_dCons, at_dCall, at_dNil, bnd_some, List.set_cons_zero, List.set_cons_succ, List.getElem?_cons_zero, List.getElem?_cons_succ, ty, if_true, ord_c, wn_eq c hn, ex])
  rw [charsP_len, ← cpsN_len, List.take_length, cpsN_len] at h1
  have ev : startD 3 [.p (.str z)] = [some (.p (.str z)), none, none] := rfl
  have e6 := frame_ref (S := S) (n := S.os.length) (S1 := ⟨S.os.length, S.os ++ [.lst ((intsP (encS z)).map D.p)]⟩) (ps := intsP (encS z)) (Nat.le_refl _) (at_last _ _ _)
  rw [cut_app] at e6
  have h1' : forL [0, 2] (srcP (charsP z)).fin (gNm 2) (dDrop (dBM "list" fExt (dVar 1) (dCons (dCall m_write_number (dCons (dCall fOrd (dCons (dVar 2) dNil)) dNil)) dNil))) (srcP (charsP z)).items [none, some (.ref S.os.length), none] ⟨S.os.length, S.os ++ [.lst ((intsP (wnd 60 z.length)).map D.p)]⟩ = some (.nx [none, some (.ref S.os.length), none], ⟨S.os.length, S.os ++ [.lst ((intsP (encS z)).map D.p)]⟩) := h1
  have wl := wnL_eq z.length hz ⟨S.os.length, S.os⟩
  unfold m_write_string
  rw [fn_at (k := 1) rfl, ev]
  simp only [at_dSeq, at_dSet, at_dCall, at_dCons, at_dNil, at_dVar, bnd_some, seqK_nx, at_dFor, List.set_cons_zero, List.set_cons_succ, List.getElem?_cons_zero, List.getElem?_cons_succ, fLen_s z (by omega), wl]
  have ei : dItS (dVar 0) [some (.p (.str z)), some (.ref S.os.length), none] ⟨S.os.length, S.os ++ [.lst ((intsP (wnd 60 z.length)).map D.p)]⟩ = some (srcP (charsP z), ⟨S.os.length, S.os ++ [.lst ((intsP (wnd 60 z.length)).map D.p)]⟩) := rfl
  simp only [ei, bnd_some, wipeD, List.set_cons_zero, List.set_cons_succ, h1', seqK_nx, at_dRet, at_dVar, List.getElem?_cons_zero, List.getElem?_cons_succ, e6]
theorem ss_eq (z : Str) (h : z.length ≤ 10000) (S : SH) : m_string [.p (.str z)] S = some (.p (.lst (intsP (encS z))), S) := by
  have cp := comp_all (t := dYes) (elt := dCall fOrd (dCons (dVar 1) dNil)) (g := gNm 1) (fin := (srcP (charsP z)).fin) (S := ⟨S.os.length, S.os⟩) (σ := [some (.p (.str z)), none]) (fun _ => true) (fun (c : Nat) => D.p (.int (c : Int))) (fun (c : Nat) (_ : SH) => some (D.p (.str ⟨#[c]⟩))) rfl (cpsN z) [] (by rw [List.length_nil, cpsN_len]; exact small (by omega)) (fun c hc => ⟨_, _, rfl, rfl, rfl, fun _ => by
    simp only [at_dCall, at_dCons, at_dVar, at_dNil, List.set_cons_zero, List.set_cons_succ, List.getElem?_cons_zero, List.getElem?_cons_succ, bnd_some, ord_c]⟩)
  have ei : (srcP (charsP z)).items = (cpsN z).map fun (c : Nat) (_ : SH) => some (D.p (.str ⟨#[c]⟩)) := by
    simp [srcP, charsP, cpsN]
  rw [← ei, List.filter_eq_self.mpr fun _ _ => rfl, List.nil_append] at cp
  have em : (cpsN z).map (fun (c : Nat) => D.p (.int (c : Int))) = (natsP (cpsN z)).map D.p := by
    unfold natsP
    rw [List.map_map]
    rfl
  rw [em] at cp
  have n1 : newL false ((natsP (cpsN z)).map D.p) ⟨S.os.length, S.os⟩ = some (.p (.lst (natsP (cpsN z))), ⟨S.os.length, S.os⟩) := newL_f _ (small (by unfold natsP; rw [List.length_map, cpsN_len]; omega))
  have b1 := nbs_eq (.lst (natsP (cpsN z))) (cpsN z) (.inl rfl) (by rw [cpsN_len]; exact h) ⟨S.os.length, S.os⟩
  have z0 := wnd_len 60 z.length
  have z1 := enc_len (cpsN z)
  rw [cpsN_len] at z1
  have ad := add_l (wnd 60 z.length) (enc (cpsN z)) (by omega) ⟨S.os.length, S.os⟩
  have ev : startD 2 [.p (.str z)] = [some (.p (.str z)), none] := rfl
  have es : dItS (dVar 0) [some (.p (.str z)), none] ⟨S.os.length, S.os⟩ = some (srcP (charsP z), ⟨S.os.length, S.os⟩) := rfl
  unfold m_string
  rw [fn_at (k := 1) rfl, ev]
  simp only [at_dRet, at_dOp, at_dCall, at_dCons, at_dNil, at_dVar, bnd_some, List.getElem?_cons_zero, fLen_s z (by omega), nb_eq, at_dComp, es, wipeD, List.set_cons_zero, List.set_cons_succ, cp, n1, b1, ad, frame_p, cut_self]
  rfl
end Kb
namespace Kb
open PySem PySem.Spec PyProof.Rows L2 Pv
/-- what a def gives on one datum, at any state -/
def Gives (m : MF) (p : P) (a : List Int) : Prop := ∀ S, m [.p p] S = some (.p (.lst (intsP a)), S)
structure OkS' (z : Str) : Prop where
  len : z.length ≤ 10000
  cps : ∀ c ∈ cpsN z, c < Big
structure OkN (l : List Nat) : Prop where
  len : l.length ≤ 10000
  big : ∀ n ∈ l, n < Big
/-! values -/
def encV : P → List Int
  | .non => [0]
  | .bl b => [1, if b = true then 1 else 0]
  | .int i => 2 :: encI i
  | .str z => 3 :: encS z
  | _ => []
def OkV : P → Prop
  | .non => True
  | .bl _ => True
  | .int i => i.natAbs < Big
  | .str z => OkS' z
  | _ => False
theorem encI_len (i : Int) : (encI i).length ≤ 62 := by
  unfold encI
  rw [List.length_cons]
  have := wnd_len 60 i.natAbs
  omega
theorem wv_eq (v : P) (h : OkV v) : Gives m_write_value v (encV v) := by
  intro S
  have n0 : newL false [.p (.int 0)] ⟨S.os.length, S.os⟩ = some (.p (.lst (intsP [0])), ⟨S.os.length, S.os⟩) := ints_lit _ [0] _ rfl (by simp)
  have n2 : newL false [.p (.int 2)] ⟨S.os.length, S.os⟩ = some (.p (.lst (intsP [2])), ⟨S.os.length, S.os⟩) := ints_lit _ [2] _ rfl (by simp)
  have n3 : newL false [.p (.int 3)] ⟨S.os.length, S.os⟩ = some (.p (.lst (intsP [3])), ⟨S.os.length, S.os⟩) := ints_lit _ [3] _ rfl (by simp)
  have ev : ∀ v, startD 1 [.p v] = [some (.p v)] := fun _ => rfl
  unfold m_write_value
  rw [fn_at (k := 1) rfl, ev]
  cases v <;> first | exact h.elim | skip
  · simp [fIs, isNon, n0, encV]
  · rename_i b
    have n1 : newL false [.p (.int 1), .p (.int (if b = true then 1 else 0))] ⟨S.os.length, S.os⟩ = some (.p (.lst (intsP [1, if b = true then 1 else 0])), ⟨S.os.length, S.os⟩) := ints_lit _ [1, if b = true then 1 else 0] _ rfl (by simp)
    simp [fIs, isNon, fIsi, tyName, tyOk, isSub, fInt_b, n1, encV]
  · rename_i i
    have ad := add_l [2] (encI i) (by have := encI_len i; rw [List.length_singleton]; omega) ⟨S.os.length, S.os⟩
    simp [fIs, isNon, fIsi, tyName, tyOk, isSub, n2, wi_eq i h, ad, encV]
  · rename_i z
    have ad := add_l [3] (encS z) (by have := encS_len z h.len; rw [List.length_singleton]; omega) ⟨S.os.length, S.os⟩
    simp [fIs, isNon, fIsi, tyName, tyOk, isSub, n3, ws_eq z h.len h.cps, ad, encV]
theorem bv_eq (v : P) (h : OkV v) : Gives m_bytes_of v (encV v) := by
  intro S
  have n0 : newL false [.p (.int 0)] ⟨S.os.length, S.os⟩ = some (.p (.lst (intsP [0])), ⟨S.os.length, S.os⟩) := ints_lit _ [0] _ rfl (by simp)
  have n2 : newL false [.p (.int 2)] ⟨S.os.length, S.os⟩ = some (.p (.lst (intsP [2])), ⟨S.os.length, S.os⟩) := ints_lit _ [2] _ rfl (by simp)
  have n3 : newL false [.p (.int 3)] ⟨S.os.length, S.os⟩ = some (.p (.lst (intsP [3])), ⟨S.os.length, S.os⟩) := ints_lit _ [3] _ rfl (by simp)
  have ev : ∀ v, startD 1 [.p v] = [some (.p v)] := fun _ => rfl
  unfold m_bytes_of
  rw [fn_at (k := 1) rfl, ev]
  cases v <;> first | exact h.elim | skip
  · simp [fIs, isNon, n0, encV]
  · rename_i b
    have n1 : newL false [.p (.int 1), .p (.int (if b = true then 1 else 0))] ⟨S.os.length, S.os⟩ = some (.p (.lst (intsP [1, if b = true then 1 else 0])), ⟨S.os.length, S.os⟩) := ints_lit _ [1, if b = true then 1 else 0] _ rfl (by simp)
    simp [fIs, isNon, fIsi, tyName, tyOk, isSub, fInt_b, n1, encV]
  · rename_i i
    have ad := add_l [2] (encI i) (by have := encI_len i; rw [List.length_singleton]; omega) ⟨S.os.length, S.os⟩
    simp [fIs, isNon, fIsi, tyName, tyOk, isSub, n2, si_eq i, ad, encV]
  · rename_i z
    have ad := add_l [3] (encS z) (by have := encS_len z h.len; rw [List.length_singleton]; omega) ⟨S.os.length, S.os⟩
    simp [fIs, isNon, fIsi, tyName, tyOk, isSub, n3, ss_eq z h.len, ad, encV]
theorem encV_len (v : P) (h : OkV v) : (encV v).length ≤ 610200 := by
  cases v <;> first | exact h.elim | skip
  · simp [encV]
  · simp [encV]
  · rename_i i
    have := encI_len i
    simp only [encV, List.length_cons]
    omega
  · rename_i z
    have := encS_len z h.len
    simp only [encV, List.length_cons]
    omega
/-! a name or None -/
def optP : Option (List Nat) → P
  | none => .non
  | some l => .tup (natsP l)
def encO : Option (List Nat) → List Int
  | none => [0]
  | some l => 1 :: enc l
def OkO : Option (List Nat) → Prop
  | none => True
  | some l => OkN l
theorem encO_len (o : Option (List Nat)) (h : OkO o) : (encO o).length ≤ 610100 := by
  cases o with
  | none => simp [encO]
  | some l =>
    have h : OkN l := h
    have := enc_len l
    have := h.len
    simp only [encO, List.length_cons]
    omega
theorem wo_eq (o : Option (List Nat)) (h : OkO o) : Gives m_write_optional (optP o) (encO o) := by
  intro S
  have n0 : newL false [.p (.int 0)] ⟨S.os.length, S.os⟩ = some (.p (.lst (intsP [0])), ⟨S.os.length, S.os⟩) := ints_lit _ [0] _ rfl (by simp)
  have n1 : newL false [.p (.int 1)] ⟨S.os.length, S.os⟩ = some (.p (.lst (intsP [1])), ⟨S.os.length, S.os⟩) := ints_lit _ [1] _ rfl (by simp)
  have ev : ∀ v, startD 1 [.p v] = [some (.p v)] := fun _ => rfl
  unfold m_write_optional
  rw [fn_at (k := 1) rfl, ev]
  cases o with
  | none => simp [optP, fIs, isNon, n0, encO]
  | some l =>
    have h : OkN l := h
    have z := enc_len l
    have z2 := h.len
    have ad := add_l [1] (enc l) (by rw [List.length_singleton]; omega) ⟨S.os.length, S.os⟩
    simp [optP, fIs, isNon, n1, wns_eq (.tup (natsP l)) l (.inr rfl) h.big h.len, ad, encO]
theorem bo_eq (o : Option (List Nat)) (h : OkO o) : Gives m_optional (optP o) (encO o) := by
  intro S
  have n0 : newL false [.p (.int 0)] ⟨S.os.length, S.os⟩ = some (.p (.lst (intsP [0])), ⟨S.os.length, S.os⟩) := ints_lit _ [0] _ rfl (by simp)
  have n1 : newL false [.p (.int 1)] ⟨S.os.length, S.os⟩ = some (.p (.lst (intsP [1])), ⟨S.os.length, S.os⟩) := ints_lit _ [1] _ rfl (by simp)
  have ev : ∀ v, startD 1 [.p v] = [some (.p v)] := fun _ => rfl
  unfold m_optional
  rw [fn_at (k := 1) rfl, ev]
  cases o with
  | none => simp [optP, fIs, isNon, n0, encO]
  | some l =>
    have h : OkN l := h
    have z := enc_len l
    have z2 := h.len
    have ad := add_l [1] (enc l) (by rw [List.length_singleton]; omega) ⟨S.os.length, S.os⟩
    simp [optP, fIs, isNon, n1, nbs_eq (.tup (natsP l)) l (.inr rfl) h.len, ad, encO]
end Kb
namespace Kb
open PySem PySem.Spec PyProof.Rows L2 Pv
/-! kinds of columns -/
inductive Hd where
  | w (s : Str) (i : Int)
  | r (l : List Nat)
def hdP : Hd → P
  | .w s _ => .str s
  | .r l => .tup [.str "refer", .tup (natsP l)]
def encH : Hd → List Int
  | .w _ i => [i]
  | .r l => 5 :: enc l
def OkH : Hd → Prop
  | .w s i => (s = "integer" ∧ i = 0) ∨ (s = "text" ∧ i = 1) ∨ (s = "boolean" ∧ i = 2) ∨ (s = "counter" ∧ i = 3) ∨ (s = "letters" ∧ i = 4)
  | .r l => OkN l
theorem encH_len (h : Hd) (ok : OkH h) : (encH h).length ≤ 610100 := by
  cases h with
  | w s i => simp [encH]
  | r l =>
    have ok : OkN l := ok
    have := enc_len l
    have := ok.len
    simp only [encH, List.length_cons]
    omega
def kindL : List P := [.str "integer", .str "text", .str "boolean", .str "counter", .str "letters"]
theorem wh_eq (h : Hd) (ok : OkH h) : Gives m_write_holds (hdP h) (encH h) := by
  intro S
  have ev : ∀ v, startD 1 [.p v] = [some (.p v)] := fun _ => rfl
  unfold m_write_holds
  rw [fn_at (k := 1) rfl, ev]
  cases h with
  | w s i =>
    have n1 : newL false [.p (.int i)] ⟨S.os.length, S.os⟩ = some (.p (.lst (intsP [i])), ⟨S.os.length, S.os⟩) := ints_lit _ [i] _ rfl (by simp)
    have hi : ∀ σ : En, σ[0]? = some (some (.p (.str s))) → dIdxC u_KINDWORDS (dCons (dVar 0) dNil) σ ⟨S.os.length, S.os⟩ = some (.p (.int i), ⟨S.os.length, S.os⟩) := fun σ h0 => by
      unfold dIdxC
      simp only [at_dCons, at_dVar, at_dNil, h0, bnd_some]
      rcases ok with ⟨rfl, rfl⟩ | ⟨rfl, rfl⟩ | ⟨rfl, rfl⟩ | ⟨rfl, rfl⟩ | ⟨rfl, rfl⟩ <;> rfl
    simp [hdP, fIsi, tyName, tyOk, isSub, hi, n1, encH]
  | r l =>
    have ok : OkN l := ok
    have z := enc_len l
    have z2 := ok.len
    have n5 : newL false [.p (.int 5)] ⟨S.os.length, S.os⟩ = some (.p (.lst (intsP [5])), ⟨S.os.length, S.os⟩) := ints_lit _ [5] _ rfl (by simp)
    have ad := add_l [5] (enc l) (by rw [List.length_singleton]; omega) ⟨S.os.length, S.os⟩
    have fl : fLen [.p u_KINDWORDS] ⟨S.os.length, S.os⟩ = some (.p (.int 5), ⟨S.os.length, S.os⟩) := rfl
    have ix : fIx (.p (.tup [.str "refer", .tup (natsP l)])) (.p (.int 1)) ⟨S.os.length, S.os⟩ = some (.p (.tup (natsP l)), ⟨S.os.length, S.os⟩) := fIx_ti (by decide) rfl
    simp [hdP, fIsi, tyName, tyOk, isSub, fl, ix, n5, wns_eq (.tup (natsP l)) l (.inr rfl) ok.big ok.len, ad, encH]
theorem okd_nats (k : Nat) (l : List Nat) : (natsP l).all (okd k) = true := by
  unfold natsP
  simp only [List.all_eq_true, List.mem_map]
  rintro p ⟨n, _, rfl⟩
  cases k <;> rfl
theorem bh_eq (h : Hd) (ok : OkH h) : Gives m_holds (hdP h) (encH h) := by
  intro S
  have ev : ∀ v, startD 2 [.p v] = [some (.p v), none] := fun _ => rfl
  have nk : newL false [.p (.str "integer"), .p (.str "text"), .p (.str "boolean"), .p (.str "counter"), .p (.str "letters")] ⟨S.os.length, S.os⟩ = some (.p (.lst kindL), ⟨S.os.length, S.os⟩) := newL_f kindL (small (by decide))
  unfold m_holds
  rw [fn_at (k := 1) rfl, ev]
  cases h with
  | w s i =>
    have n1 : newL false [.p (.int i)] ⟨S.os.length, S.os⟩ = some (.p (.lst (intsP [i])), ⟨S.os.length, S.os⟩) := ints_lit _ [i] _ rfl (by simp)
    have hin : fInG false (.p (.str s)) (.p (.lst kindL)) ⟨S.os.length, S.os⟩ = some (.p (.bl true), ⟨S.os.length, S.os⟩) := by
      rcases ok with ⟨rfl, rfl⟩ | ⟨rfl, rfl⟩ | ⟨rfl, rfl⟩ | ⟨rfl, rfl⟩ | ⟨rfl, rfl⟩ <;> rfl
    have hi : fIndex [.p (.lst kindL), .p (.str s)] ⟨S.os.length, S.os⟩ = some (.p (.int i), ⟨S.os.length, S.os⟩) := by
      rcases ok with ⟨rfl, rfl⟩ | ⟨rfl, rfl⟩ | ⟨rfl, rfl⟩ | ⟨rfl, rfl⟩ | ⟨rfl, rfl⟩ <;> rfl
    have ty : isTy "list" (.p (.lst kindL)) ⟨S.os.length, S.os⟩ = true := rfl
    simp [hdP, nk, hin, hi, ty, n1, encH]
  | r l =>
    have ok : OkN l := ok
    have z := enc_len l
    have z2 := ok.len
    have n5 : newL false [.p (.int 5)] ⟨S.os.length, S.os⟩ = some (.p (.lst (intsP [5])), ⟨S.os.length, S.os⟩) := ints_lit _ [5] _ rfl (by simp)
    have ad := add_l [5] (enc l) (by rw [List.length_singleton]; omega) ⟨S.os.length, S.os⟩
    have hin : fInG false (.p (.tup [.str "refer", .tup (natsP l)])) (.p (.lst kindL)) ⟨S.os.length, S.os⟩ = some (.p (.bl false), ⟨S.os.length, S.os⟩) := by
      have e : fInG false (.p (.tup [.str "refer", .tup (natsP l)])) (.p (.lst kindL)) ⟨S.os.length, S.os⟩ = fIn false (.p (.tup [.str "refer", .tup (natsP l)])) (.p (.lst kindL)) ⟨S.os.length, S.os⟩ := by
        unfold fInG
        split
        · rename_i q
          cases q
        · rfl
      rw [e]
      unfold fIn
      rw [rdP_p, rdP_p]
      dsimp only [kindL]
      rw [if_pos ⟨by simp [okd]; exact List.all_eq_true.mp (okd_nats 38 l), by decide⟩, if_neg Bool.false_ne_true]
      simp [peq]
    have ix : fIx (.p (.tup [.str "refer", .tup (natsP l)])) (.p (.int 1)) ⟨S.os.length, S.os⟩ = some (.p (.tup (natsP l)), ⟨S.os.length, S.os⟩) := fIx_ti (by decide) rfl
    simp [hdP, nk, hin, ix, n5, nbs_eq (.tup (natsP l)) l (.inr rfl) ok.len, ad, encH]
end Kb
namespace Kb
open PySem PySem.Spec PyProof.Rows L2 Pv
/-! a list of written things -/
def lstsP (ls : List (List Int)) : List P := ls.map fun a => P.lst (intsP a)
def encL (ls : List (List Int)) : List Int := wnd 60 ls.length ++ ls.flatten
theorem flat_take (ls : List (List Int)) {i : Nat} {a : List Int} (h : ls[i]? = some a) : (ls.take (i + 1)).flatten = (ls.take i).flatten ++ a := by
  rw [List.take_add_one, h]
  simp
theorem flat_le (ls : List (List Int)) (i : Nat) : (ls.take i).flatten.length ≤ ls.flatten.length := by
  have e : ls.flatten = (ls.take i).flatten ++ (ls.drop i).flatten := by
    rw [← List.flatten_append, List.take_append_drop]
  rw [e, List.length_append]
  omega
theorem flat_at (ls : List (List Int)) {i : Nat} {a : List Int} (h : ls[i]? = some a) : (ls.take i).flatten.length + a.length ≤ ls.flatten.length := by
  have q := flat_le ls (i + 1)
  rw [flat_take ls h, List.length_append] at q
  exact q
theorem wl_body (ls : List (List Int)) (hn : ls.length < 100000) (hf : ls.flatten.length ≤ 900000) (S : SH) (b : Nat) : (dSeq (dSet 1 (dCall mL_write_number (dCons (dCall fLen (dCons (dVar 0) dNil)) dNil)))
    (dSeq (dFor [0, 2] (dIt (dVar 0)) (gNm 2)
      (dDrop (dBM "list" fExt (dVar 1) (dCons (dVar 2) dNil))))
    (dRet (dVar 1)))) [some (.p (.lst (lstsP ls))), none, none] ⟨b, S.os⟩ = some (.ret (.ref S.os.length), ⟨b, S.os ++ [.lst ((intsP (encL ls)).map D.p)]⟩) := by
  have hl : (lstsP ls).length = ls.length := List.length_map _
  have z0 := wnd_len 60 ls.length
  obtain ⟨σ', S', h1, rfl, rfl⟩ := p_inv (body := (dDrop (dBM "list" fExt (dVar 1) (dCons (dVar 2) dNil)))) (ws := [0, 2]) (j := 2) (fun i σ S' => σ = [none, some (.ref S.os.length), none] ∧ S' = ⟨b, S.os ++ [.lst ((intsP (wnd 60 ls.length ++ (ls.take i).flatten)).map D.p)]⟩) (lstsP ls)
    (σ := [none, some (.ref S.os.length), none]) (S := ⟨b, S.os ++ [.lst ((intsP (wnd 60 ls.length)).map D.p)]⟩) ⟨rfl, by simp⟩ (by
      rintro i q σ S1 hq ⟨rfl, rfl⟩
      unfold lstsP at hq
      rw [List.getElem?_map] at hq
      cases e : ls[i]? with
      | none => rw [e] at hq; cases hq
      | some a =>
      rw [e] at hq
      cases hq
      have ty := isTy_ref (at_last b S.os (.lst ((intsP (wnd 60 ls.length ++ (ls.take i).flatten)).map D.p)))
      have z1 := flat_at ls e
      have ex := ext_last b S.os (wnd 60 ls.length ++ (ls.take i).flatten) a (by rw [List.length_append]; omega)
      rw [List.append_assoc, ← flat_take ls e] at ex
      refine ⟨[none, some (.ref S.os.length), some (.p (.lst (intsP a)))], _, .inl ?_, rfl, rfl⟩
      simp only [at_dDrop, at_dBM, at_dVar, at_dCons, at_dNil, bnd_some, List.set_cons_zero, List.set_cons_succ, List.getElem?_cons_zero, List.getElem?_cons_succ, ty, if_true, ex])
  rw [hl, List.take_length] at h1
  have wl := wnL_eq ls.length (Nat.lt_trans hn (by decide)) ⟨b, S.os⟩
  have src : ∀ S, srcOf (.p (.lst (lstsP ls))) S = some (srcP (lstsP ls), S) := fun _ => rfl
  have h1' : forL [0, 2] (srcP (lstsP ls)).fin (gNm 2) (dDrop (dBM "list" fExt (dVar 1) (dCons (dVar 2) dNil))) (srcP (lstsP ls)).items [none, some (.ref S.os.length), none] ⟨b, S.os ++ [.lst ((intsP (wnd 60 ls.length)).map D.p)]⟩ = some (.nx [none, some (.ref S.os.length), none], ⟨b, S.os ++ [.lst ((intsP (encL ls)).map D.p)]⟩) := h1
  simp only [at_dSeq, at_dSet, at_dCall, at_dCons, at_dNil, at_dVar, bnd_some, seqK_nx, at_dFor, at_dIt, List.set_cons_zero, List.set_cons_succ, List.getElem?_cons_zero, List.getElem?_cons_succ, fLen_l, hl, wl, src, wipeD, h1', at_dRet]
theorem wl_eq (ls : List (List Int)) (hn : ls.length < 100000) (hf : ls.flatten.length ≤ 900000) (S : SH) : m_write_list [.p (.lst (lstsP ls))] S = some (.p (.lst (intsP (encL ls))), S) := by
  unfold m_write_list
  rw [fn_at (k := 1) rfl]
  have ev : startD 3 [.p (.lst (lstsP ls))] = [some (.p (.lst (lstsP ls))), none, none] := rfl
  rw [ev, wl_body ls hn hf S, frame_ref (Nat.le_refl _) (at_last _ _ _), cut_app]
theorem wlL_eq (ls : List (List Int)) (hn : ls.length < 100000) (hf : ls.flatten.length ≤ 900000) (S : SH) : mL_write_list [.p (.lst (lstsP ls))] S = some (.ref S.os.length, ⟨S.b, S.os ++ [.lst ((intsP (encL ls)).map D.p)]⟩) := by
  unfold mL_write_list
  rw [fnL_at (k := 1) rfl]
  have ev : startD 3 [.p (.lst (lstsP ls))] = [some (.p (.lst (lstsP ls))), none, none] := rfl
  have e := wl_body ls hn hf S S.b
  rw [ev]
  rw [show (S : SH) = ⟨S.b, S.os⟩ from rfl, e, live_ret]
theorem encL_len (ls : List (List Int)) : (encL ls).length ≤ 61 + ls.flatten.length := by
  unfold encL
  rw [List.length_append]
  have := wnd_len 60 ls.length
  omega
/-! acts -/
inductive Act where
  | table (z : Str)
  | column (s : List Nat) (z : Str) (h : Hd)
  | unique (s : List Nat) (cs : List (List Nat))
  | plain (w : Str) (i : Int) (s : List Nat)
  | put (s t : List Nat) (v : P)
  | refer (s t : List Nat) (o : Option (List Nat))
  | add (s t : List Nat) (i : Int)
  | insert (s t : List Nat) (o : Option (List Nat)) (z : Str)
def tupsP (cs : List (List Nat)) : List P := cs.map fun l => P.tup (natsP l)
def actL : Act → List P
  | .table z => [.str "table", .str z]
  | .column s z h => [.str "column", .tup (natsP s), .str z, hdP h]
  | .unique s cs => [.str "unique", .tup (natsP s), .tup (tupsP cs)]
  | .plain w _ s => [.str w, .tup (natsP s)]
  | .put s t v => [.str "put", .tup (natsP s), .tup (natsP t), v]
  | .refer s t o => [.str "refer", .tup (natsP s), .tup (natsP t), optP o]
  | .add s t i => [.str "add", .tup (natsP s), .tup (natsP t), .int i]
  | .insert s t o z => [.str "insert", .tup (natsP s), .tup (natsP t), optP o, .str z]
def actP (a : Act) : P := .tup (actL a)
def encA : Act → List Int
  | .table z => [0] ++ encS z
  | .column s z h => [1] ++ enc s ++ encS z ++ encH h
  | .unique s cs => [2] ++ enc s ++ encL (cs.map enc)
  | .plain _ i s => [i] ++ enc s
  | .put s t v => [5] ++ enc s ++ enc t ++ encV v
  | .refer s t o => [6] ++ enc s ++ enc t ++ encO o
  | .add s t i => [7] ++ enc s ++ enc t ++ encI i
  | .insert s t o z => [8] ++ enc s ++ enc t ++ encO o ++ encS z
structure Spt (l : List Nat) : Prop where
  len : l.length ≤ 10
  big : ∀ n ∈ l, n < Big
theorem Spt.n {l : List Nat} (h : Spt l) : OkN l := ⟨Nat.le_trans h.len (by decide), h.big⟩
theorem Spt.e {l : List Nat} (h : Spt l) : (enc l).length ≤ 610 := by
  have := enc_len l
  have := h.len
  omega
structure Tx (z : Str) : Prop where
  len : z.length ≤ 1000
  cps : ∀ c ∈ cpsN z, c < Big
theorem Tx.n {z : Str} (h : Tx z) : OkS' z := ⟨Nat.le_trans h.len (by decide), h.cps⟩
theorem Tx.e {z : Str} (h : Tx z) : (encS z).length ≤ 61100 := by
  unfold encS
  rw [List.length_append]
  have a := wnd_len 60 z.length
  have b := enc_len (cpsN z)
  rw [cpsN_len] at b
  have := h.len
  omega
def OpS : Option (List Nat) → Prop
  | none => True
  | some l => Spt l
theorem OpS.n {o : Option (List Nat)} (h : OpS o) : OkO o := by
  cases o with
  | none => trivial
  | some l => exact (show Spt l from h).n
theorem OpS.e {o : Option (List Nat)} (h : OpS o) : (encO o).length ≤ 700 := by
  cases o with
  | none => simp [encO]
  | some l =>
    have := (show Spt l from h).e
    simp only [encO, List.length_cons]
    omega
def OkHs : Hd → Prop
  | .w s i => OkH (.w s i)
  | .r l => Spt l
theorem OkHs.n {h : Hd} (ok : OkHs h) : OkH h := by
  cases h with
  | w s i => exact ok
  | r l => exact (show Spt l from ok).n
theorem OkHs.e {h : Hd} (ok : OkHs h) : (encH h).length ≤ 700 := by
  cases h with
  | w s i => simp [encH]
  | r l =>
    have := (show Spt l from ok).e
    simp only [encH, List.length_cons]
    omega
def OkA : Act → Prop
  | .table z => Tx z
  | .column s z h => Spt s ∧ Tx z ∧ OkHs h
  | .unique s cs => Spt s ∧ cs.length ≤ 10 ∧ ∀ l ∈ cs, Spt l
  | .plain w i s => ((w = "row" ∧ i = 3) ∨ (w = "drop" ∧ i = 4) ∨ (w = "remove" ∧ i = 9) ∨ (w = "undo" ∧ i = 10)) ∧ Spt s
  | .put s t v => Spt s ∧ Spt t ∧ OkV v ∧ (encV v).length ≤ 100000
  | .refer s t o => Spt s ∧ Spt t ∧ OpS o
  | .add s t i => Spt s ∧ Spt t ∧ i.natAbs < Big
  | .insert s t o z => Spt s ∧ Spt t ∧ OpS o ∧ Tx z
end Kb
namespace Kb
open PySem PySem.Spec PyProof.Rows L2 Pv
theorem eqw (a b : Str) (c : Bool) (h : (a == b) = c) (S : SH) : fEq false (.p (.str a)) (.p (.str b)) S = some (.p (.bl c), S) := by
  subst h
  simp [fEq, okd, peq]
theorem tix {ps : List P} {x : P} (i : Int) (h0 : 0 ≤ i) (h : ps[i.toNat]? = some x) (S : SH) : fIx (.p (.tup ps)) (.p (.int i)) S = some (.p x, S) := fIx_ti h0 h
theorem one_l (i : Int) (S : SH) : newL false [.p (.int i)] S = some (.p (.lst (intsP [i])), S) := ints_lit _ [i] _ rfl (by simp)
/-! the acts of a cell -/
def encC : Act → List Int
  | .put s t v => enc s ++ enc t ++ encV v
  | .refer s t o => enc s ++ enc t ++ encO o
  | .add s t i => enc s ++ enc t ++ encI i
  | .insert s t o z => enc s ++ enc t ++ encO o ++ encS z
  | _ => []
theorem wc_put (s t : List Nat) (v : P) (ok : OkA (.put s t v)) : Gives m_write_cell_act (actP (.put s t v)) (encC (.put s t v)) := by
  intro S
  obtain ⟨hs, ht, hv, hvl⟩ := ok
  have e1 := hs.e
  have e2 := ht.e
  have ws := fun S => wns_eq (.tup (natsP s)) s (.inr rfl) hs.big hs.n.len S
  have wt := fun S => wns_eq (.tup (natsP t)) t (.inr rfl) ht.big ht.n.len S
  have ad := fun S => add_l (enc s) (enc t) (by omega) S
  have ad2 := fun S => add_l (enc s ++ enc t) (encV v) (by rw [List.length_append]; omega) S
  have x0 := fun S => tix (ps := actL (.put s t v)) 0 (by decide) rfl S
  have x1 := fun S => tix (ps := actL (.put s t v)) 1 (by decide) rfl S
  have x2 := fun S => tix (ps := actL (.put s t v)) 2 (by decide) rfl S
  have x3 := fun S => tix (ps := actL (.put s t v)) 3 (by decide) rfl S
  have q1 := eqw "put" "put" true (by decide)
  have ev : ∀ v, startD 2 [.p v] = [some (.p v), none] := fun _ => rfl
  unfold m_write_cell_act
  rw [fn_at (k := 1) rfl, ev]
  simp only [actP, at_dSeq, at_dSet, at_dOp, at_dCall, at_dCons, at_dNil, at_dVar, at_dC, at_dIf, at_dTest, at_dRet, bnd_some, seqK_nx, seqK_ret, List.set_cons_zero, List.set_cons_succ, List.getElem?_cons_zero, List.getElem?_cons_succ, x0, x1, x2, x3, ws, wt, ad, q1, toB_p, if_true, wv_eq v hv _, ad2, frame_p, cut_self]
  rfl
theorem wc_refer (s t : List Nat) (o : Option (List Nat)) (ok : OkA (.refer s t o)) : Gives m_write_cell_act (actP (.refer s t o)) (encC (.refer s t o)) := by
  intro S
  obtain ⟨hs, ht, ho⟩ := ok
  have e1 := hs.e
  have e2 := ht.e
  have e3 := ho.e
  have ws := fun S => wns_eq (.tup (natsP s)) s (.inr rfl) hs.big hs.n.len S
  have wt := fun S => wns_eq (.tup (natsP t)) t (.inr rfl) ht.big ht.n.len S
  have ad := fun S => add_l (enc s) (enc t) (by omega) S
  have ad2 := fun S => add_l (enc s ++ enc t) (encO o) (by rw [List.length_append]; omega) S
  have x0 := fun S => tix (ps := actL (.refer s t o)) 0 (by decide) rfl S
  have x1 := fun S => tix (ps := actL (.refer s t o)) 1 (by decide) rfl S
  have x2 := fun S => tix (ps := actL (.refer s t o)) 2 (by decide) rfl S
  have x3 := fun S => tix (ps := actL (.refer s t o)) 3 (by decide) rfl S
  have q1 := eqw "refer" "put" false (by decide)
  have q2 := eqw "refer" "refer" true (by decide)
  have ev : ∀ v, startD 2 [.p v] = [some (.p v), none] := fun _ => rfl
  unfold m_write_cell_act
  rw [fn_at (k := 1) rfl, ev]
  simp only [actP, at_dSeq, at_dSet, at_dOp, at_dCall, at_dCons, at_dNil, at_dVar, at_dC, at_dIf, at_dTest, at_dRet, at_dNx, bnd_some, seqK_nx, seqK_ret, List.set_cons_zero, List.set_cons_succ, List.getElem?_cons_zero, List.getElem?_cons_succ, x0, x1, x2, x3, ws, wt, ad, q1, q2, toB_p, if_true, Bool.false_eq_true, if_false, wo_eq o ho.n _, ad2, frame_p, cut_self]
  rfl
theorem wc_add (s t : List Nat) (i : Int) (ok : OkA (.add s t i)) : Gives m_write_cell_act (actP (.add s t i)) (encC (.add s t i)) := by
  intro S
  obtain ⟨hs, ht, hi⟩ := ok
  have e1 := hs.e
  have e2 := ht.e
  have e3 := encI_len i
  have ws := fun S => wns_eq (.tup (natsP s)) s (.inr rfl) hs.big hs.n.len S
  have wt := fun S => wns_eq (.tup (natsP t)) t (.inr rfl) ht.big ht.n.len S
  have ad := fun S => add_l (enc s) (enc t) (by omega) S
  have ad2 := fun S => add_l (enc s ++ enc t) (encI i) (by rw [List.length_append]; omega) S
  have x0 := fun S => tix (ps := actL (.add s t i)) 0 (by decide) rfl S
  have x1 := fun S => tix (ps := actL (.add s t i)) 1 (by decide) rfl S
  have x2 := fun S => tix (ps := actL (.add s t i)) 2 (by decide) rfl S
  have x3 := fun S => tix (ps := actL (.add s t i)) 3 (by decide) rfl S
  have q1 := eqw "add" "put" false (by decide)
  have q2 := eqw "add" "refer" false (by decide)
  have q3 := eqw "add" "add" true (by decide)
  have ev : ∀ v, startD 2 [.p v] = [some (.p v), none] := fun _ => rfl
  unfold m_write_cell_act
  rw [fn_at (k := 1) rfl, ev]
  simp only [actP, at_dSeq, at_dSet, at_dOp, at_dCall, at_dCons, at_dNil, at_dVar, at_dC, at_dIf, at_dTest, at_dRet, at_dNx, bnd_some, seqK_nx, seqK_ret, List.set_cons_zero, List.set_cons_succ, List.getElem?_cons_zero, List.getElem?_cons_succ, x0, x1, x2, x3, ws, wt, ad, q1, q2, q3, toB_p, if_true, Bool.false_eq_true, if_false, wi_eq i hi, ad2, frame_p, cut_self]
  rfl
theorem wc_insert (s t : List Nat) (o : Option (List Nat)) (z : Str) (ok : OkA (.insert s t o z)) : Gives m_write_cell_act (actP (.insert s t o z)) (encC (.insert s t o z)) := by
  intro S
  obtain ⟨hs, ht, ho, hz⟩ := ok
  have e1 := hs.e
  have e2 := ht.e
  have e3 := ho.e
  have e4 := hz.e
  have ws := fun S => wns_eq (.tup (natsP s)) s (.inr rfl) hs.big hs.n.len S
  have wt := fun S => wns_eq (.tup (natsP t)) t (.inr rfl) ht.big ht.n.len S
  have ad := fun S => add_l (enc s) (enc t) (by omega) S
  have ad2 := fun S => add_l (enc s ++ enc t) (encO o) (by rw [List.length_append]; omega) S
  have ad3 := fun S => add_l (enc s ++ enc t ++ encO o) (encS z) (by rw [List.length_append, List.length_append]; omega) S
  have x0 := fun S => tix (ps := actL (.insert s t o z)) 0 (by decide) rfl S
  have x1 := fun S => tix (ps := actL (.insert s t o z)) 1 (by decide) rfl S
  have x2 := fun S => tix (ps := actL (.insert s t o z)) 2 (by decide) rfl S
  have x3 := fun S => tix (ps := actL (.insert s t o z)) 3 (by decide) rfl S
  have x4 := fun S => tix (ps := actL (.insert s t o z)) 4 (by decide) rfl S
  have q1 := eqw "insert" "put" false (by decide)
  have q2 := eqw "insert" "refer" false (by decide)
  have q3 := eqw "insert" "add" false (by decide)
  have ev : ∀ v, startD 2 [.p v] = [some (.p v), none] := fun _ => rfl
  unfold m_write_cell_act
  rw [fn_at (k := 1) rfl, ev]
  simp only [actP, at_dSeq, at_dSet, at_dOp, at_dCall, at_dCons, at_dNil, at_dVar, at_dC, at_dIf, at_dTest, at_dRet, at_dNx, bnd_some, seqK_nx, seqK_ret, List.set_cons_zero, List.set_cons_succ, List.getElem?_cons_zero, List.getElem?_cons_succ, x0, x1, x2, x3, x4, ws, wt, ad, q1, q2, q3, toB_p, if_true, Bool.false_eq_true, if_false, wo_eq o ho.n _, ws_eq z hz.n.len hz.cps, ad2, ad3, frame_p, cut_self]
  rfl
end Kb
namespace Kb
open PySem PySem.Spec PyProof.Rows L2 Pv
def fourT : P := .tup [.str "row", .str "drop", .str "remove", .str "undo"]
def fourL : P := .lst [.str "row", .str "drop", .str "remove", .str "undo"]
def wordsL : P := .lst [.str "table", .str "column", .str "unique", .str "row", .str "drop", .str "put", .str "refer", .str "add", .str "insert", .str "remove", .str "undo"]
theorem fourT_at (S : SH) : newT [.p (.str "row"), .p (.str "drop"), .p (.str "remove"), .p (.str "undo")] S = some (.p fourT, S) := newT_p [.str "row", .str "drop", .str "remove", .str "undo"] (small (by simp))
theorem fourL_at (S : SH) : newL false [.p (.str "row"), .p (.str "drop"), .p (.str "remove"), .p (.str "undo")] S = some (.p fourL, S) := newL_f [.str "row", .str "drop", .str "remove", .str "undo"] (small (by simp))
theorem wordsL_at (S : SH) : newL false [.p (.str "table"), .p (.str "column"), .p (.str "unique"), .p (.str "row"), .p (.str "drop"), .p (.str "put"), .p (.str "refer"), .p (.str "add"), .p (.str "insert"), .p (.str "remove"), .p (.str "undo")] S = some (.p wordsL, S) := newL_f [.str "table", .str "column", .str "unique", .str "row", .str "drop", .str "put", .str "refer", .str "add", .str "insert", .str "remove", .str "undo"] (small (by simp))
theorem wordsL_ty (S : SH) : isTy "list" (.p wordsL) S = true := rfl
theorem idx_at {ps : List P} {w : Str} {i : Nat} (h0 : ps[0]? = some (.str w)) (hi : idxC u_ACTWORDS [.p (.str w)] = some i) (S : SH) : dIdxC u_ACTWORDS (dCons (dOp fIx (dVar 0) (dC (.int 0))) dNil) [some (.p (.tup ps)), none, none] S = some (.p (.int (i : Int)), S) := by
  have x0 := tix (ps := ps) 0 (by decide) h0 S
  unfold dIdxC
  simp only [at_dCons, at_dOp, at_dVar, at_dC, at_dNil, bnd_some, List.getElem?_cons_zero, x0, hi]
theorem uniq_comp (ps : List P) (cs : List (List Nat)) (hcl : cs.length ≤ 10) (hcs : ∀ l ∈ cs, Spt l) (q : Option D) (S : SH) : compL (srcP (tupsP cs)).fin (gNm 2) dYes (dCall m_write_numbers (dCons (dVar 2) dNil)) [some (.p (.tup ps)), q, none] (srcP (tupsP cs)).items [] S = some ((lstsP (cs.map enc)).map D.p, S) := by
  have cp := comp_all (t := dYes) (elt := dCall m_write_numbers (dCons (dVar 2) dNil)) (g := gNm 2) (fin := (srcP (tupsP cs)).fin) (S := S) (σ := [some (.p (.tup ps)), q, none]) (fun _ => true) (fun (l : List Nat) => D.p (.lst (intsP (enc l)))) (fun (l : List Nat) (_ : SH) => some (D.p (.tup (natsP l)))) rfl cs [] (by rw [List.length_nil]; exact small (by omega)) (fun l hl => ⟨_, _, rfl, rfl, rfl, fun _ => by
    simp only [at_dCall, at_dCons, at_dVar, at_dNil, List.set_cons_zero, List.set_cons_succ, List.getElem?_cons_zero, List.getElem?_cons_succ, bnd_some, wns_eq (.tup (natsP l)) l (.inr rfl) (hcs l hl).big (hcs l hl).n.len S]⟩)
  have ei : (srcP (tupsP cs)).items = cs.map fun (l : List Nat) (_ : SH) => some (D.p (.tup (natsP l))) := by
    simp [srcP, tupsP]
  rw [← ei, List.filter_eq_self.mpr fun _ _ => rfl, List.nil_append] at cp
  have em : cs.map (fun (l : List Nat) => D.p (.lst (intsP (enc l)))) = (lstsP (cs.map enc)).map D.p := by
    unfold lstsP
    rw [List.map_map, List.map_map]
    rfl
  rw [em] at cp
  exact cp
theorem uniq_flat : ∀ (cs : List (List Nat)), (∀ l ∈ cs, Spt l) → (cs.map enc).flatten.length ≤ 610 * cs.length
  | [], _ => Nat.le_refl _
  | l :: cs, h => by
    rw [List.map_cons, List.flatten_cons, List.length_append, List.length_cons]
    have := (h l (by simp)).e
    have := uniq_flat cs fun x hx => h x (by simp [hx])
    omega
theorem wa_table (z : Str) (ok : OkA (.table z)) : Gives m_write_act (actP (.table z)) (encA (.table z)) := by
  intro S
  have hz : Tx z := ok
  have e4 := hz.e
  have wz := fun S => ws_eq z hz.n.len hz.cps S
  have bz := fun S => ss_eq z hz.n.len S
  have x0 := fun S => tix (ps := actL (.table z)) 0 (by decide) rfl S
  have x1 := fun S => tix (ps := actL (.table z)) 1 (by decide) rfl S
  have q_table := eqw "table" "table" true (by decide)
  have hx : ∀ S, dIdxC u_ACTWORDS (dCons (dOp fIx (dVar 0) (dC (.int 0))) dNil) [some (.p (.tup (actL (.table z)))), none, none] S = some (.p (.int 0), S) := fun S => idx_at (ps := actL (.table z)) (w := "table") (i := 0) rfl rfl S
  have n1 := one_l 0
  have ad0 := fun S => add_l ([0]) (encS z) (by simp only [List.length_append, List.length_cons, List.length_nil]; omega) S
  have ev : ∀ v, startD 3 [.p v] = [some (.p v), none, none] := fun _ => rfl
  unfold m_write_act
  rw [fn_at (k := 1) rfl, ev]
  simp only [actP, at_dSeq, at_dSet, at_dOp, at_dCall, at_dCons, at_dNil, at_dVar, at_dC, at_dIf, at_dTest, at_dRet, at_dNx, at_dLst, at_dTup, at_dBM, bnd_some, seqK_nx, seqK_ret, List.set_cons_zero, List.set_cons_succ, List.getElem?_cons_zero, List.getElem?_cons_succ, toB_p, if_true, Bool.false_eq_true, if_false, frame_p, cut_self, x0, x1, q_table, hx, n1, wz, ad0]
  rfl
theorem ba_table (z : Str) (ok : OkA (.table z)) : Gives m_act_bytes (actP (.table z)) (encA (.table z)) := by
  intro S
  have hz : Tx z := ok
  have e4 := hz.e
  have wz := fun S => ws_eq z hz.n.len hz.cps S
  have bz := fun S => ss_eq z hz.n.len S
  have x0 := fun S => tix (ps := actL (.table z)) 0 (by decide) rfl S
  have x1 := fun S => tix (ps := actL (.table z)) 1 (by decide) rfl S
  have q_table := eqw "table" "table" true (by decide)
  have hx : ∀ S, fIndex [.p wordsL, .p (.str "table")] S = some (.p (.int 0), S) := fun _ => rfl
  have n1 := one_l 0
  have ad0 := fun S => add_l ([0]) (encS z) (by simp only [List.length_append, List.length_cons, List.length_nil]; omega) S
  have ev : ∀ v, startD 4 [.p v] = [some (.p v), none, none, none] := fun _ => rfl
  unfold m_act_bytes
  rw [fn_at (k := 1) rfl, ev]
  simp only [actP, at_dSeq, at_dSet, at_dOp, at_dCall, at_dCons, at_dNil, at_dVar, at_dC, at_dIf, at_dTest, at_dRet, at_dNx, at_dLst, at_dTup, at_dBM, bnd_some, seqK_nx, seqK_ret, List.set_cons_zero, List.set_cons_succ, List.getElem?_cons_zero, List.getElem?_cons_succ, toB_p, if_true, Bool.false_eq_true, if_false, frame_p, cut_self, x0, x1, q_table, hx, n1, wordsL_at, wordsL_ty, bz, ad0]
  rfl
theorem wa_column (s : List Nat) (z : Str) (h : Hd) (ok : OkA (.column s z h)) : Gives m_write_act (actP (.column s z h)) (encA (.column s z h)) := by
  intro S
  obtain ⟨hs, hz, hh⟩ := ok
  have e1 := hs.e
  have ws := fun S => wns_eq (.tup (natsP s)) s (.inr rfl) hs.big hs.n.len S
  have bs := fun S => nbs_eq (.tup (natsP s)) s (.inr rfl) hs.n.len S
  have e4 := hz.e
  have wz := fun S => ws_eq z hz.n.len hz.cps S
  have bz := fun S => ss_eq z hz.n.len S
  have e5 := hh.e
  have wh := fun S => wh_eq h hh.n S
  have bh := fun S => bh_eq h hh.n S
  have x0 := fun S => tix (ps := actL (.column s z h)) 0 (by decide) rfl S
  have x1 := fun S => tix (ps := actL (.column s z h)) 1 (by decide) rfl S
  have x2 := fun S => tix (ps := actL (.column s z h)) 2 (by decide) rfl S
  have x3 := fun S => tix (ps := actL (.column s z h)) 3 (by decide) rfl S
  have q_table := eqw "column" "table" false (by decide)
  have q_column := eqw "column" "column" true (by decide)
  have hx : ∀ S, dIdxC u_ACTWORDS (dCons (dOp fIx (dVar 0) (dC (.int 0))) dNil) [some (.p (.tup (actL (.column s z h)))), none, none] S = some (.p (.int 1), S) := fun S => idx_at (ps := actL (.column s z h)) (w := "column") (i := 1) rfl rfl S
  have n1 := one_l 1
  have ad0 := fun S => add_l ([1]) (enc s) (by simp only [List.length_append, List.length_cons, List.length_nil]; omega) S
  have ad1 := fun S => add_l ([1] ++ enc s) (encS z) (by simp only [List.length_append, List.length_cons, List.length_nil]; omega) S
  have ad2 := fun S => add_l ([1] ++ enc s ++ encS z) (encH h) (by simp only [List.length_append, List.length_cons, List.length_nil]; omega) S
  have ev : ∀ v, startD 3 [.p v] = [some (.p v), none, none] := fun _ => rfl
  unfold m_write_act
  rw [fn_at (k := 1) rfl, ev]
  simp only [actP, at_dSeq, at_dSet, at_dOp, at_dCall, at_dCons, at_dNil, at_dVar, at_dC, at_dIf, at_dTest, at_dRet, at_dNx, at_dLst, at_dTup, at_dBM, bnd_some, seqK_nx, seqK_ret, List.set_cons_zero, List.set_cons_succ, List.getElem?_cons_zero, List.getElem?_cons_succ, toB_p, if_true, Bool.false_eq_true, if_false, frame_p, cut_self, x0, x1, x2, x3, q_table, q_column, hx, n1, ws, wz, wh, ad0, ad1, ad2]
  rfl
theorem ba_column (s : List Nat) (z : Str) (h : Hd) (ok : OkA (.column s z h)) : Gives m_act_bytes (actP (.column s z h)) (encA (.column s z h)) := by
  intro S
  obtain ⟨hs, hz, hh⟩ := ok
  have e1 := hs.e
  have ws := fun S => wns_eq (.tup (natsP s)) s (.inr rfl) hs.big hs.n.len S
  have bs := fun S => nbs_eq (.tup (natsP s)) s (.inr rfl) hs.n.len S
  have e4 := hz.e
  have wz := fun S => ws_eq z hz.n.len hz.cps S
  have bz := fun S => ss_eq z hz.n.len S
  have e5 := hh.e
  have wh := fun S => wh_eq h hh.n S
  have bh := fun S => bh_eq h hh.n S
  have x0 := fun S => tix (ps := actL (.column s z h)) 0 (by decide) rfl S
  have x1 := fun S => tix (ps := actL (.column s z h)) 1 (by decide) rfl S
  have x2 := fun S => tix (ps := actL (.column s z h)) 2 (by decide) rfl S
  have x3 := fun S => tix (ps := actL (.column s z h)) 3 (by decide) rfl S
  have q_table := eqw "column" "table" false (by decide)
  have q_column := eqw "column" "column" true (by decide)
  have hx : ∀ S, fIndex [.p wordsL, .p (.str "column")] S = some (.p (.int 1), S) := fun _ => rfl
  have n1 := one_l 1
  have ad0 := fun S => add_l ([1]) (enc s) (by simp only [List.length_append, List.length_cons, List.length_nil]; omega) S
  have ad1 := fun S => add_l ([1] ++ enc s) (encS z) (by simp only [List.length_append, List.length_cons, List.length_nil]; omega) S
  have ad2 := fun S => add_l ([1] ++ enc s ++ encS z) (encH h) (by simp only [List.length_append, List.length_cons, List.length_nil]; omega) S
  have ev : ∀ v, startD 4 [.p v] = [some (.p v), none, none, none] := fun _ => rfl
  unfold m_act_bytes
  rw [fn_at (k := 1) rfl, ev]
  simp only [actP, at_dSeq, at_dSet, at_dOp, at_dCall, at_dCons, at_dNil, at_dVar, at_dC, at_dIf, at_dTest, at_dRet, at_dNx, at_dLst, at_dTup, at_dBM, bnd_some, seqK_nx, seqK_ret, List.set_cons_zero, List.set_cons_succ, List.getElem?_cons_zero, List.getElem?_cons_succ, toB_p, if_true, Bool.false_eq_true, if_false, frame_p, cut_self, x0, x1, x2, x3, q_table, q_column, hx, n1, wordsL_at, wordsL_ty, bs, bz, bh, ad0, ad1, ad2]
  rfl
theorem wa_unique (s : List Nat) (cs : List (List Nat)) (ok : OkA (.unique s cs)) : Gives m_write_act (actP (.unique s cs)) (encA (.unique s cs)) := by
  intro S
  obtain ⟨hs, hcl, hcs⟩ := ok
  have e1 := hs.e
  have ws := fun S => wns_eq (.tup (natsP s)) s (.inr rfl) hs.big hs.n.len S
  have bs := fun S => nbs_eq (.tup (natsP s)) s (.inr rfl) hs.n.len S
  have x0 := fun S => tix (ps := actL (.unique s cs)) 0 (by decide) rfl S
  have x1 := fun S => tix (ps := actL (.unique s cs)) 1 (by decide) rfl S
  have x2 := fun S => tix (ps := actL (.unique s cs)) 2 (by decide) rfl S
  have q_table := eqw "unique" "table" false (by decide)
  have q_column := eqw "unique" "column" false (by decide)
  have q_unique := eqw "unique" "unique" true (by decide)
  have hx : ∀ S, dIdxC u_ACTWORDS (dCons (dOp fIx (dVar 0) (dC (.int 0))) dNil) [some (.p (.tup (actL (.unique s cs)))), none, none] S = some (.p (.int 2), S) := fun S => idx_at (ps := actL (.unique s cs)) (w := "unique") (i := 2) rfl rfl S
  have n1 := one_l 2
  have fl := uniq_flat cs hcs
  have el := encL_len (cs.map enc)
  have ad0 := fun S => add_l ([2]) (enc s) (by simp only [List.length_append, List.length_cons, List.length_nil]; omega) S
  have ad1 := fun S => add_l ([2] ++ enc s) (encL (cs.map enc)) (by simp only [List.length_append, List.length_cons, List.length_nil]; omega) S
  have cp := fun q S => uniq_comp (actL (.unique s cs)) cs hcl hcs q S
  have wl := fun S => wl_eq (cs.map enc) (by rw [List.length_map]; omega) (by omega) S
  have nl := fun S => newL_f (S := S) (lstsP (cs.map enc)) (small (by unfold lstsP; rw [List.length_map, List.length_map]; omega))
  have src : ∀ S, srcOf (.p (.tup (tupsP cs))) S = some (srcP (tupsP cs), S) := fun _ => rfl
  have ev : ∀ v, startD 3 [.p v] = [some (.p v), none, none] := fun _ => rfl
  unfold m_write_act
  rw [fn_at (k := 1) rfl, ev]
  simp only [actP, at_dSeq, at_dSet, at_dOp, at_dCall, at_dCons, at_dNil, at_dVar, at_dC, at_dIf, at_dTest, at_dRet, at_dNx, at_dLst, at_dTup, at_dBM, bnd_some, seqK_nx, seqK_ret, List.set_cons_zero, List.set_cons_succ, List.getElem?_cons_zero, List.getElem?_cons_succ, toB_p, if_true, Bool.false_eq_true, if_false, frame_p, cut_self, x0, x1, x2, q_table, q_column, q_unique, hx, n1, ws, ad0, ad1, at_dComp, at_dIt, src, wipeD, cp, nl, wl]
  rfl
/- unique: apart -/
theorem wa_put (s t : List Nat) (v : P) (ok : OkA (.put s t v)) : Gives m_write_act (actP (.put s t v)) (encA (.put s t v)) := by
  intro S
  have ok' := ok
  obtain ⟨hs, ht, hv, hvl⟩ := ok
  have e1 := hs.e
  have ws := fun S => wns_eq (.tup (natsP s)) s (.inr rfl) hs.big hs.n.len S
  have bs := fun S => nbs_eq (.tup (natsP s)) s (.inr rfl) hs.n.len S
  have e2 := ht.e
  have bt := fun S => nbs_eq (.tup (natsP t)) t (.inr rfl) ht.n.len S
  have bv := fun S => bv_eq v hv S
  have x0 := fun S => tix (ps := actL (.put s t v)) 0 (by decide) rfl S
  have x1 := fun S => tix (ps := actL (.put s t v)) 1 (by decide) rfl S
  have x2 := fun S => tix (ps := actL (.put s t v)) 2 (by decide) rfl S
  have x3 := fun S => tix (ps := actL (.put s t v)) 3 (by decide) rfl S
  have q_table := eqw "put" "table" false (by decide)
  have q_column := eqw "put" "column" false (by decide)
  have q_unique := eqw "put" "unique" false (by decide)
  have hx : ∀ S, dIdxC u_ACTWORDS (dCons (dOp fIx (dVar 0) (dC (.int 0))) dNil) [some (.p (.tup (actL (.put s t v)))), none, none] S = some (.p (.int 5), S) := fun S => idx_at (ps := actL (.put s t v)) (w := "put") (i := 5) rfl rfl S
  have n1 := one_l 5
  have inF : ∀ S, fInG false (.p (.str "put")) (.p fourT) S = some (.p (.bl false), S) := fun _ => rfl
  have wc := wc_put s t v ok'
  have ad := fun S => add_l [5] (encC (.put s t v)) (by simp only [encC, List.length_append, List.length_cons, List.length_nil]; omega) S
  have ev : ∀ v, startD 3 [.p v] = [some (.p v), none, none] := fun _ => rfl
  unfold m_write_act
  rw [fn_at (k := 1) rfl, ev]
  have wc' : ∀ S, m_write_cell_act [.p (.tup (actL (.put s t v)))] S = some (.p (.lst (intsP (encC (.put s t v)))), S) := wc
  simp only [actP, at_dSeq, at_dSet, at_dOp, at_dCall, at_dCons, at_dNil, at_dVar, at_dC, at_dIf, at_dTest, at_dRet, at_dNx, at_dLst, at_dTup, at_dBM, bnd_some, seqK_nx, seqK_ret, List.set_cons_zero, List.set_cons_succ, List.getElem?_cons_zero, List.getElem?_cons_succ, toB_p, if_true, Bool.false_eq_true, if_false, frame_p, cut_self, x0, x1, x2, x3, q_table, q_column, q_unique, hx, n1, fourT_at, inF, wc', ad]
  have ea : [5] ++ encC (.put s t v) = encA (.put s t v) := by simp only [encA, encC, List.append_assoc]
  rw [ea]
theorem ba_put (s t : List Nat) (v : P) (ok : OkA (.put s t v)) : Gives m_act_bytes (actP (.put s t v)) (encA (.put s t v)) := by
  intro S
  have ok' := ok
  obtain ⟨hs, ht, hv, hvl⟩ := ok
  have e1 := hs.e
  have ws := fun S => wns_eq (.tup (natsP s)) s (.inr rfl) hs.big hs.n.len S
  have bs := fun S => nbs_eq (.tup (natsP s)) s (.inr rfl) hs.n.len S
  have e2 := ht.e
  have bt := fun S => nbs_eq (.tup (natsP t)) t (.inr rfl) ht.n.len S
  have bv := fun S => bv_eq v hv S
  have x0 := fun S => tix (ps := actL (.put s t v)) 0 (by decide) rfl S
  have x1 := fun S => tix (ps := actL (.put s t v)) 1 (by decide) rfl S
  have x2 := fun S => tix (ps := actL (.put s t v)) 2 (by decide) rfl S
  have x3 := fun S => tix (ps := actL (.put s t v)) 3 (by decide) rfl S
  have q_table := eqw "put" "table" false (by decide)
  have q_column := eqw "put" "column" false (by decide)
  have q_unique := eqw "put" "unique" false (by decide)
  have q_put := eqw "put" "put" true (by decide)
  have hx : ∀ S, fIndex [.p wordsL, .p (.str "put")] S = some (.p (.int 5), S) := fun _ => rfl
  have n1 := one_l 5
  have inF : ∀ S, fInG false (.p (.str "put")) (.p fourL) S = some (.p (.bl false), S) := fun _ => rfl
  have ad0 := fun S => add_l ([5]) (enc s) (by simp only [List.length_append, List.length_cons, List.length_nil]; omega) S
  have ad1 := fun S => add_l ([5] ++ enc s) (enc t) (by simp only [List.length_append, List.length_cons, List.length_nil]; omega) S
  have ad2 := fun S => add_l ([5] ++ enc s ++ enc t) (encV v) (by simp only [List.length_append, List.length_cons, List.length_nil]; omega) S
  have ev : ∀ v, startD 4 [.p v] = [some (.p v), none, none, none] := fun _ => rfl
  unfold m_act_bytes
  rw [fn_at (k := 1) rfl, ev]
  simp only [actP, at_dSeq, at_dSet, at_dOp, at_dCall, at_dCons, at_dNil, at_dVar, at_dC, at_dIf, at_dTest, at_dRet, at_dNx, at_dLst, at_dTup, at_dBM, bnd_some, seqK_nx, seqK_ret, List.set_cons_zero, List.set_cons_succ, List.getElem?_cons_zero, List.getElem?_cons_succ, toB_p, if_true, Bool.false_eq_true, if_false, frame_p, cut_self, x0, x1, x2, x3, q_table, q_column, q_unique, q_put, hx, n1, wordsL_at, wordsL_ty, fourL_at, inF, bs, bt, ad0, ad1, ad2, bv]
  rfl
theorem wa_refer (s t : List Nat) (o : Option (List Nat)) (ok : OkA (.refer s t o)) : Gives m_write_act (actP (.refer s t o)) (encA (.refer s t o)) := by
  intro S
  have ok' := ok
  obtain ⟨hs, ht, ho⟩ := ok
  have e1 := hs.e
  have ws := fun S => wns_eq (.tup (natsP s)) s (.inr rfl) hs.big hs.n.len S
  have bs := fun S => nbs_eq (.tup (natsP s)) s (.inr rfl) hs.n.len S
  have e2 := ht.e
  have bt := fun S => nbs_eq (.tup (natsP t)) t (.inr rfl) ht.n.len S
  have e3 := ho.e
  have bo := fun S => bo_eq o ho.n S
  have x0 := fun S => tix (ps := actL (.refer s t o)) 0 (by decide) rfl S
  have x1 := fun S => tix (ps := actL (.refer s t o)) 1 (by decide) rfl S
  have x2 := fun S => tix (ps := actL (.refer s t o)) 2 (by decide) rfl S
  have x3 := fun S => tix (ps := actL (.refer s t o)) 3 (by decide) rfl S
  have q_table := eqw "refer" "table" false (by decide)
  have q_column := eqw "refer" "column" false (by decide)
  have q_unique := eqw "refer" "unique" false (by decide)
  have hx : ∀ S, dIdxC u_ACTWORDS (dCons (dOp fIx (dVar 0) (dC (.int 0))) dNil) [some (.p (.tup (actL (.refer s t o)))), none, none] S = some (.p (.int 6), S) := fun S => idx_at (ps := actL (.refer s t o)) (w := "refer") (i := 6) rfl rfl S
  have n1 := one_l 6
  have inF : ∀ S, fInG false (.p (.str "refer")) (.p fourT) S = some (.p (.bl false), S) := fun _ => rfl
  have wc := wc_refer s t o ok'
  have ad := fun S => add_l [6] (encC (.refer s t o)) (by simp only [encC, List.length_append, List.length_cons, List.length_nil]; omega) S
  have ev : ∀ v, startD 3 [.p v] = [some (.p v), none, none] := fun _ => rfl
  unfold m_write_act
  rw [fn_at (k := 1) rfl, ev]
  have wc' : ∀ S, m_write_cell_act [.p (.tup (actL (.refer s t o)))] S = some (.p (.lst (intsP (encC (.refer s t o)))), S) := wc
  simp only [actP, at_dSeq, at_dSet, at_dOp, at_dCall, at_dCons, at_dNil, at_dVar, at_dC, at_dIf, at_dTest, at_dRet, at_dNx, at_dLst, at_dTup, at_dBM, bnd_some, seqK_nx, seqK_ret, List.set_cons_zero, List.set_cons_succ, List.getElem?_cons_zero, List.getElem?_cons_succ, toB_p, if_true, Bool.false_eq_true, if_false, frame_p, cut_self, x0, x1, x2, x3, q_table, q_column, q_unique, hx, n1, fourT_at, inF, wc', ad]
  have ea : [6] ++ encC (.refer s t o) = encA (.refer s t o) := by simp only [encA, encC, List.append_assoc]
  rw [ea]
theorem ba_refer (s t : List Nat) (o : Option (List Nat)) (ok : OkA (.refer s t o)) : Gives m_act_bytes (actP (.refer s t o)) (encA (.refer s t o)) := by
  intro S
  have ok' := ok
  obtain ⟨hs, ht, ho⟩ := ok
  have e1 := hs.e
  have ws := fun S => wns_eq (.tup (natsP s)) s (.inr rfl) hs.big hs.n.len S
  have bs := fun S => nbs_eq (.tup (natsP s)) s (.inr rfl) hs.n.len S
  have e2 := ht.e
  have bt := fun S => nbs_eq (.tup (natsP t)) t (.inr rfl) ht.n.len S
  have e3 := ho.e
  have bo := fun S => bo_eq o ho.n S
  have x0 := fun S => tix (ps := actL (.refer s t o)) 0 (by decide) rfl S
  have x1 := fun S => tix (ps := actL (.refer s t o)) 1 (by decide) rfl S
  have x2 := fun S => tix (ps := actL (.refer s t o)) 2 (by decide) rfl S
  have x3 := fun S => tix (ps := actL (.refer s t o)) 3 (by decide) rfl S
  have q_table := eqw "refer" "table" false (by decide)
  have q_column := eqw "refer" "column" false (by decide)
  have q_unique := eqw "refer" "unique" false (by decide)
  have q_put := eqw "refer" "put" false (by decide)
  have q_refer := eqw "refer" "refer" true (by decide)
  have hx : ∀ S, fIndex [.p wordsL, .p (.str "refer")] S = some (.p (.int 6), S) := fun _ => rfl
  have n1 := one_l 6
  have inF : ∀ S, fInG false (.p (.str "refer")) (.p fourL) S = some (.p (.bl false), S) := fun _ => rfl
  have ad0 := fun S => add_l ([6]) (enc s) (by simp only [List.length_append, List.length_cons, List.length_nil]; omega) S
  have ad1 := fun S => add_l ([6] ++ enc s) (enc t) (by simp only [List.length_append, List.length_cons, List.length_nil]; omega) S
  have ad2 := fun S => add_l ([6] ++ enc s ++ enc t) (encO o) (by simp only [List.length_append, List.length_cons, List.length_nil]; omega) S
  have ev : ∀ v, startD 4 [.p v] = [some (.p v), none, none, none] := fun _ => rfl
  unfold m_act_bytes
  rw [fn_at (k := 1) rfl, ev]
  simp only [actP, at_dSeq, at_dSet, at_dOp, at_dCall, at_dCons, at_dNil, at_dVar, at_dC, at_dIf, at_dTest, at_dRet, at_dNx, at_dLst, at_dTup, at_dBM, bnd_some, seqK_nx, seqK_ret, List.set_cons_zero, List.set_cons_succ, List.getElem?_cons_zero, List.getElem?_cons_succ, toB_p, if_true, Bool.false_eq_true, if_false, frame_p, cut_self, x0, x1, x2, x3, q_table, q_column, q_unique, q_put, q_refer, hx, n1, wordsL_at, wordsL_ty, fourL_at, inF, bs, bt, ad0, ad1, ad2, bo]
  rfl
theorem wa_add (s t : List Nat) (i : Int) (ok : OkA (.add s t i)) : Gives m_write_act (actP (.add s t i)) (encA (.add s t i)) := by
  intro S
  have ok' := ok
  obtain ⟨hs, ht, hi⟩ := ok
  have e1 := hs.e
  have ws := fun S => wns_eq (.tup (natsP s)) s (.inr rfl) hs.big hs.n.len S
  have bs := fun S => nbs_eq (.tup (natsP s)) s (.inr rfl) hs.n.len S
  have e2 := ht.e
  have bt := fun S => nbs_eq (.tup (natsP t)) t (.inr rfl) ht.n.len S
  have e6 := encI_len i
  have bi := fun S => si_eq i S
  have x0 := fun S => tix (ps := actL (.add s t i)) 0 (by decide) rfl S
  have x1 := fun S => tix (ps := actL (.add s t i)) 1 (by decide) rfl S
  have x2 := fun S => tix (ps := actL (.add s t i)) 2 (by decide) rfl S
  have x3 := fun S => tix (ps := actL (.add s t i)) 3 (by decide) rfl S
  have q_table := eqw "add" "table" false (by decide)
  have q_column := eqw "add" "column" false (by decide)
  have q_unique := eqw "add" "unique" false (by decide)
  have hx : ∀ S, dIdxC u_ACTWORDS (dCons (dOp fIx (dVar 0) (dC (.int 0))) dNil) [some (.p (.tup (actL (.add s t i)))), none, none] S = some (.p (.int 7), S) := fun S => idx_at (ps := actL (.add s t i)) (w := "add") (i := 7) rfl rfl S
  have n1 := one_l 7
  have inF : ∀ S, fInG false (.p (.str "add")) (.p fourT) S = some (.p (.bl false), S) := fun _ => rfl
  have wc := wc_add s t i ok'
  have ad := fun S => add_l [7] (encC (.add s t i)) (by simp only [encC, List.length_append, List.length_cons, List.length_nil]; omega) S
  have ev : ∀ v, startD 3 [.p v] = [some (.p v), none, none] := fun _ => rfl
  unfold m_write_act
  rw [fn_at (k := 1) rfl, ev]
  have wc' : ∀ S, m_write_cell_act [.p (.tup (actL (.add s t i)))] S = some (.p (.lst (intsP (encC (.add s t i)))), S) := wc
  simp only [actP, at_dSeq, at_dSet, at_dOp, at_dCall, at_dCons, at_dNil, at_dVar, at_dC, at_dIf, at_dTest, at_dRet, at_dNx, at_dLst, at_dTup, at_dBM, bnd_some, seqK_nx, seqK_ret, List.set_cons_zero, List.set_cons_succ, List.getElem?_cons_zero, List.getElem?_cons_succ, toB_p, if_true, Bool.false_eq_true, if_false, frame_p, cut_self, x0, x1, x2, x3, q_table, q_column, q_unique, hx, n1, fourT_at, inF, wc', ad]
  have ea : [7] ++ encC (.add s t i) = encA (.add s t i) := by simp only [encA, encC, List.append_assoc]
  rw [ea]
theorem ba_add (s t : List Nat) (i : Int) (ok : OkA (.add s t i)) : Gives m_act_bytes (actP (.add s t i)) (encA (.add s t i)) := by
  intro S
  have ok' := ok
  obtain ⟨hs, ht, hi⟩ := ok
  have e1 := hs.e
  have ws := fun S => wns_eq (.tup (natsP s)) s (.inr rfl) hs.big hs.n.len S
  have bs := fun S => nbs_eq (.tup (natsP s)) s (.inr rfl) hs.n.len S
  have e2 := ht.e
  have bt := fun S => nbs_eq (.tup (natsP t)) t (.inr rfl) ht.n.len S
  have e6 := encI_len i
  have bi := fun S => si_eq i S
  have x0 := fun S => tix (ps := actL (.add s t i)) 0 (by decide) rfl S
  have x1 := fun S => tix (ps := actL (.add s t i)) 1 (by decide) rfl S
  have x2 := fun S => tix (ps := actL (.add s t i)) 2 (by decide) rfl S
  have x3 := fun S => tix (ps := actL (.add s t i)) 3 (by decide) rfl S
  have q_table := eqw "add" "table" false (by decide)
  have q_column := eqw "add" "column" false (by decide)
  have q_unique := eqw "add" "unique" false (by decide)
  have q_put := eqw "add" "put" false (by decide)
  have q_refer := eqw "add" "refer" false (by decide)
  have q_add := eqw "add" "add" true (by decide)
  have hx : ∀ S, fIndex [.p wordsL, .p (.str "add")] S = some (.p (.int 7), S) := fun _ => rfl
  have n1 := one_l 7
  have inF : ∀ S, fInG false (.p (.str "add")) (.p fourL) S = some (.p (.bl false), S) := fun _ => rfl
  have ad0 := fun S => add_l ([7]) (enc s) (by simp only [List.length_append, List.length_cons, List.length_nil]; omega) S
  have ad1 := fun S => add_l ([7] ++ enc s) (enc t) (by simp only [List.length_append, List.length_cons, List.length_nil]; omega) S
  have ad2 := fun S => add_l ([7] ++ enc s ++ enc t) (encI i) (by simp only [List.length_append, List.length_cons, List.length_nil]; omega) S
  have ev : ∀ v, startD 4 [.p v] = [some (.p v), none, none, none] := fun _ => rfl
  unfold m_act_bytes
  rw [fn_at (k := 1) rfl, ev]
  simp only [actP, at_dSeq, at_dSet, at_dOp, at_dCall, at_dCons, at_dNil, at_dVar, at_dC, at_dIf, at_dTest, at_dRet, at_dNx, at_dLst, at_dTup, at_dBM, bnd_some, seqK_nx, seqK_ret, List.set_cons_zero, List.set_cons_succ, List.getElem?_cons_zero, List.getElem?_cons_succ, toB_p, if_true, Bool.false_eq_true, if_false, frame_p, cut_self, x0, x1, x2, x3, q_table, q_column, q_unique, q_put, q_refer, q_add, hx, n1, wordsL_at, wordsL_ty, fourL_at, inF, bs, bt, ad0, ad1, ad2, bi]
  rfl
theorem wa_insert (s t : List Nat) (o : Option (List Nat)) (z : Str) (ok : OkA (.insert s t o z)) : Gives m_write_act (actP (.insert s t o z)) (encA (.insert s t o z)) := by
  intro S
  have ok' := ok
  obtain ⟨hs, ht, ho, hz⟩ := ok
  have e1 := hs.e
  have ws := fun S => wns_eq (.tup (natsP s)) s (.inr rfl) hs.big hs.n.len S
  have bs := fun S => nbs_eq (.tup (natsP s)) s (.inr rfl) hs.n.len S
  have e2 := ht.e
  have bt := fun S => nbs_eq (.tup (natsP t)) t (.inr rfl) ht.n.len S
  have e3 := ho.e
  have bo := fun S => bo_eq o ho.n S
  have e4 := hz.e
  have wz := fun S => ws_eq z hz.n.len hz.cps S
  have bz := fun S => ss_eq z hz.n.len S
  have x0 := fun S => tix (ps := actL (.insert s t o z)) 0 (by decide) rfl S
  have x1 := fun S => tix (ps := actL (.insert s t o z)) 1 (by decide) rfl S
  have x2 := fun S => tix (ps := actL (.insert s t o z)) 2 (by decide) rfl S
  have x3 := fun S => tix (ps := actL (.insert s t o z)) 3 (by decide) rfl S
  have x4 := fun S => tix (ps := actL (.insert s t o z)) 4 (by decide) rfl S
  have q_table := eqw "insert" "table" false (by decide)
  have q_column := eqw "insert" "column" false (by decide)
  have q_unique := eqw "insert" "unique" false (by decide)
  have hx : ∀ S, dIdxC u_ACTWORDS (dCons (dOp fIx (dVar 0) (dC (.int 0))) dNil) [some (.p (.tup (actL (.insert s t o z)))), none, none] S = some (.p (.int 8), S) := fun S => idx_at (ps := actL (.insert s t o z)) (w := "insert") (i := 8) rfl rfl S
  have n1 := one_l 8
  have inF : ∀ S, fInG false (.p (.str "insert")) (.p fourT) S = some (.p (.bl false), S) := fun _ => rfl
  have wc := wc_insert s t o z ok'
  have ad := fun S => add_l [8] (encC (.insert s t o z)) (by simp only [encC, List.length_append, List.length_cons, List.length_nil]; omega) S
  have ev : ∀ v, startD 3 [.p v] = [some (.p v), none, none] := fun _ => rfl
  unfold m_write_act
  rw [fn_at (k := 1) rfl, ev]
  have wc' : ∀ S, m_write_cell_act [.p (.tup (actL (.insert s t o z)))] S = some (.p (.lst (intsP (encC (.insert s t o z)))), S) := wc
  simp only [actP, at_dSeq, at_dSet, at_dOp, at_dCall, at_dCons, at_dNil, at_dVar, at_dC, at_dIf, at_dTest, at_dRet, at_dNx, at_dLst, at_dTup, at_dBM, bnd_some, seqK_nx, seqK_ret, List.set_cons_zero, List.set_cons_succ, List.getElem?_cons_zero, List.getElem?_cons_succ, toB_p, if_true, Bool.false_eq_true, if_false, frame_p, cut_self, x0, x1, x2, x3, x4, q_table, q_column, q_unique, hx, n1, fourT_at, inF, wc', ad]
  have ea : [8] ++ encC (.insert s t o z) = encA (.insert s t o z) := by simp only [encA, encC, List.append_assoc]
  rw [ea]
theorem ba_insert (s t : List Nat) (o : Option (List Nat)) (z : Str) (ok : OkA (.insert s t o z)) : Gives m_act_bytes (actP (.insert s t o z)) (encA (.insert s t o z)) := by
  intro S
  have ok' := ok
  obtain ⟨hs, ht, ho, hz⟩ := ok
  have e1 := hs.e
  have ws := fun S => wns_eq (.tup (natsP s)) s (.inr rfl) hs.big hs.n.len S
  have bs := fun S => nbs_eq (.tup (natsP s)) s (.inr rfl) hs.n.len S
  have e2 := ht.e
  have bt := fun S => nbs_eq (.tup (natsP t)) t (.inr rfl) ht.n.len S
  have e3 := ho.e
  have bo := fun S => bo_eq o ho.n S
  have e4 := hz.e
  have wz := fun S => ws_eq z hz.n.len hz.cps S
  have bz := fun S => ss_eq z hz.n.len S
  have x0 := fun S => tix (ps := actL (.insert s t o z)) 0 (by decide) rfl S
  have x1 := fun S => tix (ps := actL (.insert s t o z)) 1 (by decide) rfl S
  have x2 := fun S => tix (ps := actL (.insert s t o z)) 2 (by decide) rfl S
  have x3 := fun S => tix (ps := actL (.insert s t o z)) 3 (by decide) rfl S
  have x4 := fun S => tix (ps := actL (.insert s t o z)) 4 (by decide) rfl S
  have q_table := eqw "insert" "table" false (by decide)
  have q_column := eqw "insert" "column" false (by decide)
  have q_unique := eqw "insert" "unique" false (by decide)
  have q_put := eqw "insert" "put" false (by decide)
  have q_refer := eqw "insert" "refer" false (by decide)
  have q_add := eqw "insert" "add" false (by decide)
  have hx : ∀ S, fIndex [.p wordsL, .p (.str "insert")] S = some (.p (.int 8), S) := fun _ => rfl
  have n1 := one_l 8
  have inF : ∀ S, fInG false (.p (.str "insert")) (.p fourL) S = some (.p (.bl false), S) := fun _ => rfl
  have ad0 := fun S => add_l ([8]) (enc s) (by simp only [List.length_append, List.length_cons, List.length_nil]; omega) S
  have ad1 := fun S => add_l ([8] ++ enc s) (enc t) (by simp only [List.length_append, List.length_cons, List.length_nil]; omega) S
  have ad2 := fun S => add_l ([8] ++ enc s ++ enc t) (encO o) (by simp only [List.length_append, List.length_cons, List.length_nil]; omega) S
  have ad3 := fun S => add_l ([8] ++ enc s ++ enc t ++ encO o) (encS z) (by simp only [List.length_append, List.length_cons, List.length_nil]; omega) S
  have ev : ∀ v, startD 4 [.p v] = [some (.p v), none, none, none] := fun _ => rfl
  unfold m_act_bytes
  rw [fn_at (k := 1) rfl, ev]
  simp only [actP, at_dSeq, at_dSet, at_dOp, at_dCall, at_dCons, at_dNil, at_dVar, at_dC, at_dIf, at_dTest, at_dRet, at_dNx, at_dLst, at_dTup, at_dBM, bnd_some, seqK_nx, seqK_ret, List.set_cons_zero, List.set_cons_succ, List.getElem?_cons_zero, List.getElem?_cons_succ, toB_p, if_true, Bool.false_eq_true, if_false, frame_p, cut_self, x0, x1, x2, x3, x4, q_table, q_column, q_unique, q_put, q_refer, q_add, hx, n1, wordsL_at, wordsL_ty, fourL_at, inF, bs, bt, ad0, ad1, ad2, ad3, bo, bz]
  rfl
end Kb
namespace Kb
open PySem PySem.Spec PyProof.Rows L2 Pv
theorem ba_unique (s : List Nat) (cs : List (List Nat)) (ok : OkA (.unique s cs)) : Gives m_act_bytes (actP (.unique s cs)) (encA (.unique s cs)) := by
  intro S
  obtain ⟨hs, hcl, hcs⟩ := ok
  have e1 := hs.e
  have bs := fun S => nbs_eq (.tup (natsP s)) s (.inr rfl) hs.n.len S
  have x0 := fun S => tix (ps := actL (.unique s cs)) 0 (by decide) rfl S
  have x1 := fun S => tix (ps := actL (.unique s cs)) 1 (by decide) rfl S
  have x2 := fun S => tix (ps := actL (.unique s cs)) 2 (by decide) rfl S
  have q1 := eqw "unique" "table" false (by decide)
  have q2 := eqw "unique" "column" false (by decide)
  have q3 := eqw "unique" "unique" true (by decide)
  have hx : ∀ S, fIndex [.p wordsL, .p (.str "unique")] S = some (.p (.int 2), S) := fun _ => rfl
  have n1 := one_l 2
  have z0 := wnd_len 60 cs.length
  have fl := uniq_flat cs hcs
  have ad0 := fun S => add_l [2] (enc s) (by simp only [List.length_cons, List.length_nil]; omega) S
  have ad1 := fun S => add_l ([2] ++ enc s) (wnd 60 cs.length) (by simp only [List.length_append, List.length_cons, List.length_nil]; omega) S
  have ft : ∀ S, fLen [.p (.tup (tupsP cs))] S = some (.p (.int (cs.length : Int)), S) := fun S => by
    rw [fLen_t]
    unfold tupsP
    rw [List.length_map]
  obtain ⟨σ', S', h1, rfl, rfl⟩ := p_inv (body := (dSet 2 (dOp (fAdd false) (dVar 2) (dCall m_numbers (dCons (dVar 3) dNil))))) (ws := [0, 1, 3]) (j := 3) (fun i σ S' => σ = [none, none, some (.p (.lst (intsP ([2] ++ enc s ++ wnd 60 cs.length ++ ((cs.map enc).take i).flatten)))), none] ∧ S' = ⟨S.os.length, S.os⟩) (tupsP cs)
    (σ := [none, none, some (.p (.lst (intsP ([2] ++ enc s ++ wnd 60 cs.length)))), none]) (S := ⟨S.os.length, S.os⟩) ⟨by simp, rfl⟩ (by
      rintro i q σ S1 hq ⟨rfl, rfl⟩
      unfold tupsP at hq
      rw [List.getElem?_map] at hq
      cases e : cs[i]? with
      | none => rw [e] at hq; cases hq
      | some l =>
      rw [e] at hq
      cases hq
      have hl := hcs l (List.mem_of_getElem? e)
      have e' : (cs.map enc)[i]? = some (enc l) := by rw [List.getElem?_map, e]; rfl
      have z1 := flat_at (cs.map enc) e'
      have ex := add_l ([2] ++ enc s ++ wnd 60 cs.length ++ ((cs.map enc).take i).flatten) (enc l) (by simp only [List.length_append, List.length_cons, List.length_nil]; omega) ⟨S.os.length, S.os⟩
      rw [List.append_assoc ([2] ++ enc s ++ wnd 60 cs.length), ← flat_take (cs.map enc) e'] at ex
      refine ⟨[none, none, some (.p (.lst (intsP ([2] ++ enc s ++ wnd 60 cs.length ++ ((cs.map enc).take (i + 1)).flatten)))), some (.p (.tup (natsP l)))], _, .inl ?_, rfl, rfl⟩
      simp only [at_dSet, at_dOp, at_dVar, at_dCons, at_dCall, at_dNil, bnd_some, List.set_cons_zero, List.set_cons_succ, List.getElem?_cons_zero, List.getElem?_cons_succ, nbs_eq (.tup (natsP l)) l (.inr rfl) hl.n.len, ex])
  have el : (tupsP cs).length = (cs.map enc).length := by
    unfold tupsP
    rw [List.length_map, List.length_map]
  rw [el, List.take_length] at h1
  have src : ∀ S, srcOf (.p (.tup (tupsP cs))) S = some (srcP (tupsP cs), S) := fun _ => rfl
  have ev : ∀ v, startD 4 [.p v] = [some (.p v), none, none, none] := fun _ => rfl
  unfold m_act_bytes
  rw [fn_at (k := 1) rfl, ev]
  simp only [actP, at_dSeq, at_dSet, at_dOp, at_dCall, at_dCons, at_dNil, at_dVar, at_dC, at_dIf, at_dTest, at_dRet, at_dNx, at_dLst, at_dBM, bnd_some, seqK_nx, seqK_ret, List.set_cons_zero, List.set_cons_succ, List.getElem?_cons_zero, List.getElem?_cons_succ, toB_p, if_true, Bool.false_eq_true, if_false, x0, x1, x2, q1, q2, q3, hx, n1, wordsL_at, wordsL_ty, bs, ad0, ft, nb_eq, ad1, at_dFor, at_dIt, src, wipeD, h1, frame_p, cut_self]
  have ee : [2] ++ enc s ++ wnd 60 cs.length ++ (cs.map enc).flatten = encA (.unique s cs) := by
    simp only [encA, encL, List.append_assoc, List.length_map]
  rw [ee]
theorem wa_plain (w : Str) (i : Int) (s : List Nat) (ok : OkA (.plain w i s)) : Gives m_write_act (actP (.plain w i s)) (encA (.plain w i s)) := by
  intro S
  obtain ⟨hw, hs⟩ := ok
  have e1 := hs.e
  have ws := fun S => wns_eq (.tup (natsP s)) s (.inr rfl) hs.big hs.n.len S
  have x0 := fun S => tix (ps := actL (.plain w i s)) 0 (by decide) rfl S
  have x1 := fun S => tix (ps := actL (.plain w i s)) 1 (by decide) rfl S
  have q1 : ∀ S, fEq false (.p (.str w)) (.p (.str "table")) S = some (.p (.bl false), S) := by rcases hw with ⟨rfl, rfl⟩ | ⟨rfl, rfl⟩ | ⟨rfl, rfl⟩ | ⟨rfl, rfl⟩ <;> exact eqw _ _ false (by decide)
  have q2 : ∀ S, fEq false (.p (.str w)) (.p (.str "column")) S = some (.p (.bl false), S) := by rcases hw with ⟨rfl, rfl⟩ | ⟨rfl, rfl⟩ | ⟨rfl, rfl⟩ | ⟨rfl, rfl⟩ <;> exact eqw _ _ false (by decide)
  have q3 : ∀ S, fEq false (.p (.str w)) (.p (.str "unique")) S = some (.p (.bl false), S) := by rcases hw with ⟨rfl, rfl⟩ | ⟨rfl, rfl⟩ | ⟨rfl, rfl⟩ | ⟨rfl, rfl⟩ <;> exact eqw _ _ false (by decide)
  have inT : ∀ S, fInG false (.p (.str w)) (.p fourT) S = some (.p (.bl true), S) := by rcases hw with ⟨rfl, rfl⟩ | ⟨rfl, rfl⟩ | ⟨rfl, rfl⟩ | ⟨rfl, rfl⟩ <;> exact fun _ => rfl
  have hx : ∀ S, dIdxC u_ACTWORDS (dCons (dOp fIx (dVar 0) (dC (.int 0))) dNil) [some (.p (.tup (actL (.plain w i s)))), none, none] S = some (.p (.int i), S) := by
    rcases hw with ⟨rfl, rfl⟩ | ⟨rfl, rfl⟩ | ⟨rfl, rfl⟩ | ⟨rfl, rfl⟩
    · exact fun S => idx_at (w := "row") (i := 3) rfl rfl S
    · exact fun S => idx_at (w := "drop") (i := 4) rfl rfl S
    · exact fun S => idx_at (w := "remove") (i := 9) rfl rfl S
    · exact fun S => idx_at (w := "undo") (i := 10) rfl rfl S
  have n1 := one_l i
  have ad := fun S => add_l [i] (enc s) (by simp only [List.length_cons, List.length_nil]; omega) S
  have ev : ∀ v, startD 3 [.p v] = [some (.p v), none, none] := fun _ => rfl
  unfold m_write_act
  rw [fn_at (k := 1) rfl, ev]
  simp only [actP, at_dSeq, at_dSet, at_dOp, at_dCall, at_dCons, at_dNil, at_dVar, at_dC, at_dIf, at_dTest, at_dRet, at_dNx, at_dLst, at_dTup, bnd_some, seqK_nx, seqK_ret, List.set_cons_zero, List.set_cons_succ, List.getElem?_cons_zero, List.getElem?_cons_succ, toB_p, if_true, Bool.false_eq_true, if_false, x0, x1, q1, q2, q3, inT, fourT_at, hx, n1, ws, ad, frame_p, cut_self]
  rfl
theorem ba_plain (w : Str) (i : Int) (s : List Nat) (ok : OkA (.plain w i s)) : Gives m_act_bytes (actP (.plain w i s)) (encA (.plain w i s)) := by
  intro S
  obtain ⟨hw, hs⟩ := ok
  have e1 := hs.e
  have bs := fun S => nbs_eq (.tup (natsP s)) s (.inr rfl) hs.n.len S
  have x0 := fun S => tix (ps := actL (.plain w i s)) 0 (by decide) rfl S
  have x1 := fun S => tix (ps := actL (.plain w i s)) 1 (by decide) rfl S
  have q1 : ∀ S, fEq false (.p (.str w)) (.p (.str "table")) S = some (.p (.bl false), S) := by rcases hw with ⟨rfl, rfl⟩ | ⟨rfl, rfl⟩ | ⟨rfl, rfl⟩ | ⟨rfl, rfl⟩ <;> exact eqw _ _ false (by decide)
  have q2 : ∀ S, fEq false (.p (.str w)) (.p (.str "column")) S = some (.p (.bl false), S) := by rcases hw with ⟨rfl, rfl⟩ | ⟨rfl, rfl⟩ | ⟨rfl, rfl⟩ | ⟨rfl, rfl⟩ <;> exact eqw _ _ false (by decide)
  have q3 : ∀ S, fEq false (.p (.str w)) (.p (.str "unique")) S = some (.p (.bl false), S) := by rcases hw with ⟨rfl, rfl⟩ | ⟨rfl, rfl⟩ | ⟨rfl, rfl⟩ | ⟨rfl, rfl⟩ <;> exact eqw _ _ false (by decide)
  have inT : ∀ S, fInG false (.p (.str w)) (.p fourL) S = some (.p (.bl true), S) := by rcases hw with ⟨rfl, rfl⟩ | ⟨rfl, rfl⟩ | ⟨rfl, rfl⟩ | ⟨rfl, rfl⟩ <;> exact fun _ => rfl
  have hx : ∀ S, fIndex [.p wordsL, .p (.str w)] S = some (.p (.int i), S) := by rcases hw with ⟨rfl, rfl⟩ | ⟨rfl, rfl⟩ | ⟨rfl, rfl⟩ | ⟨rfl, rfl⟩ <;> exact fun _ => rfl
  have n1 := one_l i
  have ad := fun S => add_l [i] (enc s) (by simp only [List.length_cons, List.length_nil]; omega) S
  have ev : ∀ v, startD 4 [.p v] = [some (.p v), none, none, none] := fun _ => rfl
  unfold m_act_bytes
  rw [fn_at (k := 1) rfl, ev]
  simp only [actP, at_dSeq, at_dSet, at_dOp, at_dCall, at_dCons, at_dNil, at_dVar, at_dC, at_dIf, at_dTest, at_dRet, at_dNx, at_dLst, at_dBM, bnd_some, seqK_nx, seqK_ret, List.set_cons_zero, List.set_cons_succ, List.getElem?_cons_zero, List.getElem?_cons_succ, toB_p, if_true, Bool.false_eq_true, if_false, x0, x1, q1, q2, q3, inT, fourL_at, hx, n1, wordsL_at, wordsL_ty, bs, ad, frame_p, cut_self]
  rfl
/-- every act -/
theorem wa_eq (a : Act) (ok : OkA a) : Gives m_write_act (actP a) (encA a) := by
  cases a with
  | table z => exact wa_table z ok
  | column s z h => exact wa_column s z h ok
  | unique s cs => exact wa_unique s cs ok
  | plain w i s => exact wa_plain w i s ok
  | put s t v => exact wa_put s t v ok
  | refer s t o => exact wa_refer s t o ok
  | add s t i => exact wa_add s t i ok
  | insert s t o z => exact wa_insert s t o z ok
theorem ba_eq (a : Act) (ok : OkA a) : Gives m_act_bytes (actP a) (encA a) := by
  cases a with
  | table z => exact ba_table z ok
  | column s z h => exact ba_column s z h ok
  | unique s cs => exact ba_unique s cs ok
  | plain w i s => exact ba_plain w i s ok
  | put s t v => exact ba_put s t v ok
  | refer s t o => exact ba_refer s t o ok
  | add s t i => exact ba_add s t i ok
  | insert s t o z => exact ba_insert s t o z ok
end Kb
namespace Kb
open PySem PySem.Spec PyProof.Rows L2 Pv
/-! spots, texts, values of a number -/
def spotN (n : Nat) : List Nat := [n % 6, 1 + n / 6 % 300, n / 1800 % 200]
theorem big_of {n : Nat} (h : n ≤ 100000000) : n < Big := Nat.lt_of_le_of_lt h (by decide)
theorem spot_ok (n : Nat) : Spt (spotN n) := ⟨by simp [spotN], fun x hx => by
  refine big_of ?_
  simp only [spotN, List.mem_cons, List.mem_nil_iff, or_false] at hx
  omega⟩
theorem spot_eq (n : Nat) (S : SH) : m_spot [.p (.int (n : Int))] S = some (.p (.tup (natsP (spotN n))), S) := by
  have d6 : divOk (n : Int) 6 = true := divOk_c (by decide) (by decide)
  have d18 : divOk (n : Int) 1800 = true := divOk_c (by decide) (by decide)
  have e1 : (n : Int) % 6 = ((n % 6 : Nat) : Int) := by omega
  have e2 : 1 + (n : Int) / 6 % 300 = ((1 + n / 6 % 300 : Nat) : Int) := by omega
  have e3 : (n : Int) / 1800 % 200 = ((n / 1800 % 200 : Nat) : Int) := by omega
  have nt := newT_p (S := ⟨S.os.length, S.os⟩) (natsP (spotN n)) (small (by simp [natsP, spotN]))
  have ev : startD 1 [.p (.int (n : Int))] = [some (.p (.int (n : Int)))] := rfl
  unfold m_spot
  rw [fn_at (k := 1) rfl, ev]
  simp only [at_dRet, at_dTup, at_dCons, at_dOp, at_dVar, at_dC, at_dNil, bnd_some, List.getElem?_cons_zero, fII_eq, fAdd_i, d6, d18, if_true, decide_eq_true_eq, Int.reduceLT, e1, e2, e3]
  have nt' : newT [.p (.int ((n % 6 : Nat) : Int)), .p (.int ((1 + n / 6 % 300 : Nat) : Int)), .p (.int ((n / 1800 % 200 : Nat) : Int))] ⟨S.os.length, S.os⟩ = some (.p (.tup (natsP (spotN n))), ⟨S.os.length, S.os⟩) := nt
  rw [nt']
  simp only [bnd_some, frame_p, cut_self]
/-! texts -/
theorem cd_app (a b : Str) : cpsN (a ++ b) = cpsN a ++ cpsN b := by
  show (a.cps ++ b.cps).toList = a.cps.toList ++ b.cps.toList
  simp
theorem cd_nil : cpsN "" = [] := by decide +kernel
theorem join_cd : ∀ l : List Str, cpsN (Txt.join "" l) = (l.map cpsN).flatten
  | [] => by rw [TL.join_eq]; rfl
  | [x] => by rw [TL.join_eq]; show cpsN x = (cpsN x :: []).flatten; simp
  | x :: y :: r => by
    rw [TL.join_eq]
    show cpsN (x ++ ("" : Str) ++ PySem.Str.join "" (y :: r)) = cpsN x ++ ((y :: r).map cpsN).flatten
    rw [cd_app, cd_app, cd_nil, List.append_nil, ← join_cd (y :: r), TL.join_eq]
def letS : Str := " !\"#$&'()*+,-./0123456789:;<=>?@ABCDEFGHIJKLMNOPQRSTUVWXYZ[\\]^_`abcdefghijklmnopqrstuvwxyz{|}~\n"
def letL : List Nat := letS.cps.toList
theorem letL_len : letL.length = 95 := by decide +kernel
theorem letL_big : ∀ c ∈ letL, c < 1000 := by decide +kernel
def letC (n k : Nat) : Nat := letL.getD ((n + 31 * k) % 95) 0
theorem letC_big (n k : Nat) : letC n k < Big := by
  unfold letC
  have h : (n + 31 * k) % 95 < letL.length := by rw [letL_len]; omega
  rw [List.getD_eq_getElem?_getD, List.getElem?_eq_getElem h]
  exact Nat.lt_trans (letL_big _ (List.getElem_mem h)) (by decide)
def textS (n : Nat) : Str := Txt.join "" ((List.range (n / 7 % 9)).map fun k => ⟨#[letC n k]⟩)
theorem textS_cps (n : Nat) : cpsN (textS n) = (List.range (n / 7 % 9)).map (letC n) := by
  unfold textS
  rw [join_cd, List.map_map]
  generalize List.range (n / 7 % 9) = l
  induction l with
  | nil => rfl
  | cons a l ih => rw [List.map_cons, List.flatten_cons, ih]; rfl
theorem textS_len (n : Nat) : (textS n).length ≤ 8 := by
  rw [← cpsN_len, textS_cps, List.length_map, List.length_range]
  omega
theorem textS_ok (n : Nat) : Tx (textS n) := ⟨Nat.le_trans (textS_len n) (by decide), fun c hc => by
  rw [textS_cps] at hc
  obtain ⟨k, _, rfl⟩ := List.mem_map.mp hc
  exact letC_big n k⟩
theorem text_eq (n : Nat) (S : SH) : m_text [.p (.int (n : Int))] S = some (.p (.str (textS n)), S) := by
  have d7 : divOk (n : Int) 7 = true := divOk_c (by decide) (by decide)
  have em : (n : Int) / 7 % 9 = ((n / 7 % 9 : Nat) : Int) := by omega
  have cp := comp_rng (S := ⟨S.os.length, S.os⟩) (j := 2) (t := dYes) (elt := dOp fIx (dVar 1) (dOp fMod (dOp (fAdd false) (dVar 0) (dOp fMul (dC (.int 31)) (dVar 2))) (dC (.int 95)))) (σ := [some (.p (.int (n : Int))), some (.p (.str letS)), none]) (fun _ => true) (fun k => D.p (.str ⟨#[letC n k]⟩)) (n / 7 % 9) (small (by omega)) (fun k hk => ⟨rfl, fun _ => by
    have m31 : mulOk 31 (k : Int) = true := mulOk_l (by decide)
    have e : ((n : Int) + 31 * (k : Int)) % 95 = (((n + 31 * k) % 95 : Nat) : Int) := by omega
    have h : (n + 31 * k) % 95 < letL.length := by rw [letL_len]; omega
    have a := atI_nat (l := letL) (n := (n + 31 * k) % 95) (x := letC n k) (by unfold letC; rw [List.getD_eq_getElem?_getD, List.getElem?_eq_getElem h]; rfl)
    have ix : fIx (.p (.str letS)) (.p (.int (((n + 31 * k) % 95 : Nat) : Int))) ⟨S.os.length, S.os⟩ = some (.p (.str ⟨#[letC n k]⟩), ⟨S.os.length, S.os⟩) := by
      unfold fIx
      dsimp only
      rw [if_pos (small (by decide +kernel))]
      show (match atI letL (((n + 31 * k) % 95 : Nat) : Int) with | some c => some (D.p (.str ⟨#[c]⟩), _) | none => none) = _
      rw [a]
    simp only [at_dOp, at_dVar, at_dC, bnd_some, List.set_cons_zero, List.set_cons_succ, List.getElem?_cons_zero, List.getElem?_cons_succ, fII_eq, fAdd_i, m31, if_true, decide_eq_true_eq, Int.reduceLT, e, ix]⟩)
  rw [List.filter_eq_self.mpr fun _ _ => rfl] at cp
  let ys : List Str := (List.range (n / 7 % 9)).map fun k => ⟨#[letC n k]⟩
  have ey : (List.range (n / 7 % 9)).map (fun k => D.p (.str ⟨#[letC n k]⟩)) = (ys.map P.str).map D.p := by
    simp only [ys, List.map_map]
    rfl
  rw [ey] at cp
  have nl := newL_f (S := ⟨S.os.length, S.os⟩) (ys.map P.str) (small (by simp only [ys, List.length_map, List.length_range]; omega))
  have rz := srt_rng (S := ⟨S.os.length, S.os⟩) (n / 7 % 9) (by omega)
  have jn : fJoin (.p (.str "")) (.p (.lst (ys.map P.str))) ⟨S.os.length, S.os⟩ = some (.p (.str (textS n)), ⟨S.os.length, S.os⟩) := by
    unfold fJoin
    dsimp only
    rw [asQ_l]
    dsimp only
    have es : (ys.map P.str).map D.p = ys.map fun n => D.p (.str n) := by rw [List.map_map]; rfl
    rw [es, strsOf_map]
    dsimp only
    have hs : (ys.map (·.length)).sum + ys.length * ("" : Str).length ≤ 16777216 := by
      have h1 : (ys.map (·.length)).sum = n / 7 % 9 := by
        show (((List.range (n / 7 % 9)).map fun k => (⟨#[letC n k]⟩ : Str)).map (·.length)).sum = _
        rw [List.map_map]
        have hh : ∀ l : List Nat, (l.map ((fun x : Str => x.length) ∘ fun k => (⟨#[letC n k]⟩ : Str))).sum = l.length := fun l => by
          induction l with
          | nil => rfl
          | cons a l ih =>
            rw [List.map_cons, List.sum_cons, ih, List.length_cons]
            show 1 + l.length = _
            omega
        rw [hh, List.length_range]
      have h2 : ("" : Str).length = 0 := by decide +kernel
      rw [h1, h2]
      omega
    rw [if_pos hs]
    rfl
  have ev : startD 3 [.p (.int (n : Int))] = [some (.p (.int (n : Int))), none, none] := rfl
  unfold m_text
  rw [fn_at (k := 1) rfl, ev]
  simp only [at_dSeq, at_dSet, at_dC, bnd_some, seqK_nx, List.set_cons_zero, List.set_cons_succ]
  show frameF S (dRet (dOp fJoin (dC (.str "")) (dComp false (dRng1 (dCons (dOp fMod (dOp fDiv (dVar 0) (dC (.int 7))) (dC (.int 9))) dNil)) (gNm 2) dYes (dOp fIx (dVar 1) (dOp fMod (dOp (fAdd false) (dVar 0) (dOp fMul (dC (.int 31)) (dVar 2))) (dC (.int 95)))) [2])) [some (.p (.int (n : Int))), some (.p (.str letS)), none] ⟨S.os.length, S.os⟩) = _
  simp only [at_dRet, at_dOp, at_dC, at_dComp, at_dRng1, at_dCons, at_dVar, at_dNil, bnd_some, List.getElem?_cons_zero, fII_eq, d7, if_true, decide_eq_true_eq, Int.reduceLT, em, rz, wipeD, List.set_cons_zero, List.set_cons_succ, cp, nl, jn, frame_p, cut_self]
end Kb
namespace Kb
open PySem PySem.Spec PyProof.Rows L2 Pv
def valL (n : Nat) : List P := [.non, .bl true, .bl false, .int (n : Int), .int (-(n : Int)), .str (textS n), .int 0]
def valP (n : Nat) : P := (valL n).getD (n % 7) .non
theorem valP_mem (n : Nat) : valP n ∈ valL n := by
  unfold valP
  have h : n % 7 < (valL n).length := by
    show n % 7 < 7
    omega
  rw [List.getD_eq_getElem?_getD, List.getElem?_eq_getElem h]
  exact List.getElem_mem h
theorem val_ok (n : Nat) (hn : n ≤ 100000000) : OkV (valP n) ∧ (encV (valP n)).length ≤ 100000 := by
  have hb := big_of hn
  have h := valP_mem n
  simp only [valL, List.mem_cons, List.mem_nil_iff, or_false] at h
  have ei := encI_len (n : Int)
  have ei2 := encI_len (-(n : Int))
  have ei3 := encI_len 0
  have es := (textS_ok n).e
  rcases h with h | h | h | h | h | h | h <;> rw [h]
  · exact ⟨trivial, by simp [encV]⟩
  · exact ⟨trivial, by simp [encV]⟩
  · exact ⟨trivial, by simp [encV]⟩
  · refine ⟨?_, by simp only [encV, List.length_cons]; omega⟩
    show (n : Int).natAbs < Big
    rw [Int.natAbs_natCast]
    exact hb
  · refine ⟨?_, by simp only [encV, List.length_cons]; omega⟩
    show (-(n : Int)).natAbs < Big
    rw [Int.natAbs_neg, Int.natAbs_natCast]
    exact hb
  · exact ⟨(textS_ok n).n, by simp only [encV, List.length_cons]; omega⟩
  · refine ⟨?_, by simp only [encV, List.length_cons]; omega⟩
    show (0 : Int).natAbs < Big
    decide
theorem value_eq (n : Nat) (S : SH) : m_value [.p (.int (n : Int))] S = some (.p (valP n), S) := by
  have nl : newL false [.p .non, .p (.bl true), .p (.bl false), .p (.int (n : Int)), .p (.int (-(n : Int))), .p (.str (textS n)), .p (.int 0)] ⟨S.os.length, S.os⟩ = some (.p (.lst (valL n)), ⟨S.os.length, S.os⟩) := newL_f (valL n) (small (by simp [valL]))
  have em : (n : Int) % 7 = ((n % 7 : Nat) : Int) := by omega
  have h : n % 7 < (valL n).length := by
    show n % 7 < 7
    omega
  have ix := fIx_l (S := ⟨S.os.length, S.os⟩) (ps := valL n) (n := n % 7) (x := valP n) (by unfold valP; rw [List.getD_eq_getElem?_getD, List.getElem?_eq_getElem h]; rfl)
  have ev : startD 2 [.p (.int (n : Int))] = [some (.p (.int (n : Int))), none] := rfl
  unfold m_value
  rw [fn_at (k := 1) rfl, ev]
  simp only [at_dSeq, at_dSet, at_dLst, at_dCons, at_dC, at_dVar, at_dUn, at_dCall, at_dNil, bnd_some, List.getElem?_cons_zero, List.getElem?_cons_succ, fNeg_i, text_eq, nl, seqK_nx, List.set_cons_zero, List.set_cons_succ, at_dRet, at_dOp, fII_eq, if_true, decide_eq_true_eq, Int.reduceLT, em, ix, frame_p, cut_self]
/-! numbers as texts -/
def decS (n : Nat) : Str := toString (n : Int)
theorem decS_ok : ∀ n, n < 1000 → (decS n).length ≤ 10 ∧ ∀ c ∈ cpsN (decS n), c < 1000 := by decide +kernel
theorem str_eq (n : Nat) (hn : n < 1000) (S : SH) : fStr [.p (.int (n : Int))] S = some (.p (.str (decS n)), S) := by
  unfold fStr
  have h : (n : Int).natAbs.log2 < 1920 := by
    rw [Int.natAbs_natCast]
    by_cases h0 : n = 0
    · subst h0; decide
    · exact Nat.lt_trans ((Nat.log2_lt h0).mpr (show n < 2 ^ 10 by omega)) (by decide)
  exact if_pos h
theorem tx_app {a b : Str} (ha : a.length ≤ 10) (hb : b.length ≤ 10) (ca : ∀ c ∈ cpsN a, c < 1000) (cb : ∀ c ∈ cpsN b, c < 1000) : Tx (a ++ b) := by
  refine ⟨?_, fun c hc => ?_⟩
  · rw [← cpsN_len, cd_app, List.length_append, cpsN_len, cpsN_len]
    omega
  · rw [cd_app] at hc
    refine Nat.lt_trans ?_ (show 1000 < Big by decide)
    rcases List.mem_append.mp hc with hc | hc
    · exact ca c hc
    · exact cb c hc
theorem add_s (a b : Str) (ha : a.length ≤ 10) (hb : b.length ≤ 10) (S : SH) : fAdd false (.p (.str a)) (.p (.str b)) S = some (.p (.str (a ++ b)), S) := by
  unfold fAdd
  exact if_pos (small (by omega))
end Kb
namespace Kb
open PySem PySem.Spec PyProof.Rows L2 Pv
/-! the acts of a number -/
def holdsL (n : Nat) : List Hd := [.w "integer" 0, .w "text" 1, .w "boolean" 2, .w "counter" 3, .w "letters" 4, .r (spotN (n * 5 + 3))]
def holdN (n : Nat) : Hd := (holdsL n).getD (n % 6) (.w "integer" 0)
def markN (n : Nat) : Option (List Nat) := if n % 3 > 0 then some [n % 6, 1 + n / 4, n / 9 % 7, n / 5 % 200] else none
def targN (n : Nat) : Option (List Nat) := if n % 2 = 0 then some (spotN (n + 77)) else none
def actsA (n : Nat) : List Act := [.table ("t" ++ decS (n % 1000)), .column (spotN n) ("c_" ++ decS (n % 77)) (holdN n)]
def actsB (n : Nat) : List Act := actsA n ++ [.unique (spotN n) ((List.range (n % 4)).map fun k => spotN (n + k))]
def actsC (n : Nat) : List Act := [.plain "row" 3 (spotN n), .plain "drop" 4 (spotN n), .put (spotN n) (spotN (n * 5 + 3)) (valP (n / 2))]
def actsD (n : Nat) : List Act := [.refer (spotN n) (spotN (n * 5 + 3)) (targN n), .add (spotN n) (spotN (n * 5 + 3)) ((n : Int) - 5000)]
def actsE (n : Nat) : List Act := [.insert (spotN n) (spotN (n * 5 + 3)) (markN n) (textS n), .plain "remove" 9 [1, 2, 3, n]]
def actsF (n : Nat) : List Act := [.plain "undo" 10 [n % 6, 1 + n]]
def actsN (n : Nat) : List Act := actsB n ++ actsC n ++ actsD n ++ actsE n ++ actsF n
def actN (k n : Nat) : Act := (actsN n).getD (k % 11) (.table "")
theorem hold_ok (n : Nat) : OkHs (holdN n) := by
  unfold holdN
  have h : n % 6 < (holdsL n).length := by
    show n % 6 < 6
    omega
  rw [List.getD_eq_getElem?_getD, List.getElem?_eq_getElem h]
  have m := List.getElem_mem h
  generalize (holdsL n)[n % 6] = x at m
  simp only [holdsL, List.mem_cons, List.mem_nil_iff, or_false] at m
  show OkHs x
  rcases m with rfl | rfl | rfl | rfl | rfl | rfl
  · exact .inl ⟨rfl, rfl⟩
  · exact .inr (.inl ⟨rfl, rfl⟩)
  · exact .inr (.inr (.inl ⟨rfl, rfl⟩))
  · exact .inr (.inr (.inr (.inl ⟨rfl, rfl⟩)))
  · exact .inr (.inr (.inr (.inr ⟨rfl, rfl⟩)))
  · exact spot_ok _
theorem mark_ok (n : Nat) (hn : n ≤ 10000000) : OpS (markN n) := by
  unfold markN
  split
  · exact ⟨by simp, fun x hx => by
      refine big_of ?_
      simp only [List.mem_cons, List.mem_nil_iff, or_false] at hx
      omega⟩
  · trivial
theorem targ_ok (n : Nat) : OpS (targN n) := by
  unfold targN
  split
  · exact spot_ok _
  · trivial
theorem t_tx : ∀ n, n < 1000 → Tx ("t" ++ decS n) := fun n h => tx_app (by decide) (decS_ok n h).1 (by decide) (decS_ok n h).2
theorem c_tx : ∀ n, n < 1000 → Tx ("c_" ++ decS n) := fun n h => tx_app (by decide) (decS_ok n h).1 (by decide) (decS_ok n h).2
theorem acts_ok (n : Nat) (hn : n ≤ 10000000) : ∀ a ∈ actsN n, OkA a := by
  intro a ha
  simp only [actsN, actsB, actsA, actsC, actsD, actsE, actsF, List.mem_append, List.mem_cons, List.mem_nil_iff, or_false, List.not_mem_nil] at ha
  have s1 := spot_ok n
  have s2 := spot_ok (n * 5 + 3)
  rcases ha with ((((ha | ha) | ha) | ha) | ha) | ha
  · rcases ha with rfl | rfl
    · exact t_tx _ (Nat.mod_lt _ (by decide))
    · exact ⟨s1, c_tx _ (Nat.lt_trans (Nat.mod_lt _ (by decide)) (by decide)), hold_ok n⟩
  · subst ha
    refine ⟨s1, by rw [List.length_map, List.length_range]; omega, fun l hl => ?_⟩
    obtain ⟨k, _, rfl⟩ := List.mem_map.mp hl
    exact spot_ok _
  · rcases ha with rfl | rfl | rfl
    · exact ⟨.inl ⟨rfl, rfl⟩, s1⟩
    · exact ⟨.inr (.inl ⟨rfl, rfl⟩), s1⟩
    · exact ⟨s1, s2, val_ok (n / 2) (by omega)⟩
  · rcases ha with rfl | rfl
    · exact ⟨s1, s2, targ_ok n⟩
    · exact ⟨s1, s2, big_of (by omega)⟩
  · rcases ha with rfl | rfl
    · exact ⟨s1, s2, mark_ok n hn, textS_ok n⟩
    · refine ⟨.inr (.inr (.inl ⟨rfl, rfl⟩)), by simp, fun x hx => big_of ?_⟩
      simp only [List.mem_cons, List.mem_nil_iff, or_false] at hx
      omega
  · subst ha
    refine ⟨.inr (.inr (.inr ⟨rfl, rfl⟩)), by simp, fun x hx => big_of ?_⟩
    simp only [List.mem_cons, List.mem_nil_iff, or_false] at hx
    omega
theorem acts_len (n : Nat) : (actsN n).length = 11 := rfl
theorem act_ok (k n : Nat) (hn : n ≤ 10000000) : OkA (actN k n) := by
  unfold actN
  have h : k % 11 < (actsN n).length := by rw [acts_len]; omega
  rw [List.getD_eq_getElem?_getD, List.getElem?_eq_getElem h]
  exact acts_ok n hn _ (List.getElem_mem h)
end Kb
namespace Kb
open PySem PySem.Spec PyProof.Rows L2 Pv
abbrev acO (l : List Act) : Ob := .lst ((l.map actP).map D.p)
/-- a new list out of the last one and a few more -/
theorem add_live (b : Nat) (os : List Ob) (l : List Act) (qs : List Act) (hl : l.length + qs.length ≤ 1000) : fAdd true (.ref os.length) (.p (.lst (qs.map actP))) ⟨b, os ++ [acO l]⟩ = some (.ref (os ++ [acO l]).length, ⟨b, (os ++ [acO l]) ++ [acO (l ++ qs)]⟩) := by
  have ea : asL (.ref os.length) ⟨b, os ++ [acO l]⟩ = some ((l.map actP).map D.p) := by
    unfold asL
    dsimp only
    rw [at_last b]
  unfold fAdd
  simp only [ea, asL_l]
  rw [newL_t _ (small (by simp only [List.length_append, List.length_map]; omega))]
  simp only [acO, List.map_append]
theorem app_live (b : Nat) (os : List Ob) (l : List Act) (q : Act) (hl : l.length ≤ 1000) : fApp [.ref os.length, .p (actP q)] ⟨b, os ++ [acO l]⟩ = some (.p .non, ⟨b, os ++ [acO (l ++ [q])]⟩) := by
  rw [fApp_p (at_last b os _) (by rw [List.length_map, List.length_map]; have := line_ge; omega), put_last]
  simp only [acO, List.map_append]
  rfl
theorem lit_l (qs : List Act) (ds : List D) (h : ds = (qs.map actP).map D.p) (hl : qs.length ≤ 1000) (S : SH) : newL false ds S = some (.p (.lst (qs.map actP)), S) := by
  rw [h]
  exact newL_f _ (small (by rw [List.length_map]; omega))
theorem mk_t (a : Act) (ds : List D) (h : ds = (actL a).map D.p) (hl : (actL a).length ≤ 100) (S : SH) : newT ds S = some (.p (actP a), S) := by
  rw [h]
  exact newT_p _ (small (by omega))
theorem mk_n (l : List Nat) (ds : List D) (h : ds = (natsP l).map D.p) (hl : l.length ≤ 100) (S : SH) : newT ds S = some (.p (.tup (natsP l)), S) := by
  rw [h]
  exact newT_p _ (small (by unfold natsP; rw [List.length_map]; omega))
theorem mark_eq (n : Nat) (σ : En) (S : SH) (h1 : σ[1]? = some (some (.p (.int (n : Int))))) (h4 : 4 < σ.length) : dIf (dTest (dOp fGt (dOp fMod (dVar 1) (dC (.int 3))) (dC (.int 0))))
      (dSet 4 (dTup (dCons (dOp fMod (dVar 1) (dC (.int 6))) (dCons (dOp (fAdd false) (dC (.int 1)) (dOp fDiv (dVar 1) (dC (.int 4)))) (dCons (dOp fMod (dOp fDiv (dVar 1) (dC (.int 9))) (dC (.int 7))) (dCons (dOp fMod (dOp fDiv (dVar 1) (dC (.int 5))) (dC (.int 200))) dNil))))))
      dNx (σ.set 4 (some (.p .non))) S = some (.nx (σ.set 4 (some (.p (optP (markN n))))), S) := by
  have h1' : (σ.set 4 (some (.p .non)))[1]? = some (some (.p (.int (n : Int)))) := by rw [List.getElem?_set_ne (by decide), h1]
  have d4 : divOk (n : Int) 4 = true := divOk_c (by decide) (by decide)
  have d5 : divOk (n : Int) 5 = true := divOk_c (by decide) (by decide)
  have d9 : divOk (n : Int) 9 = true := divOk_c (by decide) (by decide)
  have e6 : (n : Int) % 6 = ((n % 6 : Nat) : Int) := by omega
  have e4 : 1 + (n : Int) / 4 = ((1 + n / 4 : Nat) : Int) := by omega
  have e9 : (n : Int) / 9 % 7 = ((n / 9 % 7 : Nat) : Int) := by omega
  have e5 : (n : Int) / 5 % 200 = ((n / 5 % 200 : Nat) : Int) := by omega
  by_cases c : n % 3 > 0
  · have hg : ∀ S, fGt (.p (.int ((n : Int) % 3))) (.p (.int 0)) S = some (.p (.bl true), S) := fun S => (fII_eq _ _ _ _ S).trans (by rw [if_pos rfl, decide_eq_true (by omega)])
    have nt := mk_n [n % 6, 1 + n / 4, n / 9 % 7, n / 5 % 200] [.p (.int ((n % 6 : Nat) : Int)), .p (.int ((1 + n / 4 : Nat) : Int)), .p (.int ((n / 9 % 7 : Nat) : Int)), .p (.int ((n / 5 % 200 : Nat) : Int))] rfl (by simp)
    simp only [at_dIf, at_dTest, at_dOp, at_dVar, at_dC, at_dSet, at_dTup, at_dCons, at_dNil, h1', bnd_some, fII_eq, fAdd_i, if_true, decide_eq_true_eq, Int.reduceLT, d4, d5, d9, e6, e4, e9, e5, nt]
    have hg' : (0 : Int) < (n : Int) % 3 := by omega
    simp only [hg', decide_true, toB_p, if_true, List.set_set, markN, if_pos c, optP, bnd_some]
  · have hg' : ¬ (0 : Int) < (n : Int) % 3 := by omega
    simp only [at_dIf, at_dTest, at_dOp, at_dVar, at_dC, h1', bnd_some, fII_eq, if_true, decide_eq_true_eq, Int.reduceLT, hg', decide_false, toB_p, Bool.false_eq_true, if_false, at_dNx, markN, if_neg c, optP]
end Kb
namespace Kb
open PySem PySem.Spec PyProof.Rows L2 Pv
theorem act_eq (k n : Nat) (S : SH) : m_act [.p (.int (k : Int)), .p (.int (n : Int))] S = some (.p (actP (actN k n)), S) := by
  have m5 : mulOk (n : Int) 5 = true := mulOk_r (by decide)
  have d2 : divOk (n : Int) 2 = true := divOk_c (by decide) (by decide)
  have eo : (n : Int) * 5 + 3 = ((n * 5 + 3 : Nat) : Int) := by omega
  have e6 : (n : Int) % 6 = ((n % 6 : Nat) : Int) := by omega
  have e1000 : (n : Int) % 1000 = ((n % 1000 : Nat) : Int) := by omega
  have e77 : (n : Int) % 77 = ((n % 77 : Nat) : Int) := by omega
  have e4 : (n : Int) % 4 = ((n % 4 : Nat) : Int) := by omega
  have en2 : (n : Int) / 2 = ((n / 2 : Nat) : Int) := by omega
  have es : (n : Int) + 77 = ((n + 77 : Nat) : Int) := by omega
  have eu : 1 + (n : Int) = ((1 + n : Nat) : Int) := by omega
  have ek : (k : Int) % 11 = ((k % 11 : Nat) : Int) := by omega
  let b := S.os.length
  let os1 := S.os ++ [acO (actsB n)]
  let os2 := os1 ++ [acO (actsB n ++ actsC n)]
  let os3 := os2 ++ [acO (actsB n ++ actsC n ++ actsD n)]
  let os4 := os3 ++ [acO (actsN n)]
  let H : P := hdP (holdN n)
  let M : P := optP (markN n)
  let O : P := .tup (natsP (spotN (n * 5 + 3)))
  let Z : P := .tup (natsP (spotN n))
  -- stage 1: the names up to 5
  have st1 : ∀ rest : MS, (dSeq (dSet 2 (dCall m_spot (dCons (dVar 1) dNil)))
    (dSeq (dSet 3 (dCall m_spot (dCons (dOp (fAdd false) (dOp fMul (dVar 1) (dC (.int 5))) (dC (.int 3))) dNil)))
    (dSeq (dSet 4 (dC .non))
    (dSeq (dIf (dTest (dOp fGt (dOp fMod (dVar 1) (dC (.int 3))) (dC (.int 0))))
      (dSet 4 (dTup (dCons (dOp fMod (dVar 1) (dC (.int 6))) (dCons (dOp (fAdd false) (dC (.int 1)) (dOp fDiv (dVar 1) (dC (.int 4)))) (dCons (dOp fMod (dOp fDiv (dVar 1) (dC (.int 9))) (dC (.int 7))) (dCons (dOp fMod (dOp fDiv (dVar 1) (dC (.int 5))) (dC (.int 200))) dNil))))))
      dNx) rest)))) [some (.p (.int (k : Int))), some (.p (.int (n : Int))), none, none, none, none, none, none, none] ⟨b, S.os⟩ =
      rest [some (.p (.int (k : Int))), some (.p (.int (n : Int))), some (.p Z), some (.p O), some (.p M), none, none, none, none] ⟨b, S.os⟩ := by
    intro rest
    have mk := mark_eq n [some (.p (.int (k : Int))), some (.p (.int (n : Int))), some (.p Z), some (.p O), none, none, none, none, none] ⟨b, S.os⟩ rfl (by simp)
    have mk' : dIf (dTest (dOp fGt (dOp fMod (dVar 1) (dC (.int 3))) (dC (.int 0))))
      (dSet 4 (dTup (dCons (dOp fMod (dVar 1) (dC (.int 6))) (dCons (dOp (fAdd false) (dC (.int 1)) (dOp fDiv (dVar 1) (dC (.int 4)))) (dCons (dOp fMod (dOp fDiv (dVar 1) (dC (.int 9))) (dC (.int 7))) (dCons (dOp fMod (dOp fDiv (dVar 1) (dC (.int 5))) (dC (.int 200))) dNil))))))
      dNx [some (.p (.int (k : Int))), some (.p (.int (n : Int))), some (.p Z), some (.p O), some (.p .non), none, none, none, none] ⟨b, S.os⟩ = some (.nx [some (.p (.int (k : Int))), some (.p (.int (n : Int))), some (.p Z), some (.p O), some (.p M), none, none, none, none], ⟨b, S.os⟩) := mk
    rw [at_dSeq]
    simp only [at_dSet, at_dCall, at_dCons, at_dVar, at_dNil, at_dOp, at_dC, bnd_some, List.getElem?_cons_zero, List.getElem?_cons_succ, List.set_cons_zero, List.set_cons_succ, spot_eq, seqK_nx]
    rw [at_dSeq]
    simp only [at_dSet, at_dCall, at_dCons, at_dVar, at_dNil, at_dOp, at_dC, bnd_some, List.getElem?_cons_zero, List.getElem?_cons_succ, List.set_cons_zero, List.set_cons_succ, fII_eq, fAdd_i, m5, if_true, eo, spot_eq, seqK_nx]
    rw [at_dSeq]
    simp only [at_dSet, at_dC, bnd_some, List.set_cons_zero, List.set_cons_succ, seqK_nx]
    rw [at_dSeq]
    show bnd (dIf _ _ _ [some (.p (.int (k : Int))), some (.p (.int (n : Int))), some (.p Z), some (.p O), some (.p .non), none, none, none, none] ⟨b, S.os⟩) _ = _
    rw [mk', bnd_some, seqK_nx]
  have ev : startD 9 [.p (.int (k : Int)), .p (.int (n : Int))] = [some (.p (.int (k : Int))), some (.p (.int (n : Int))), none, none, none, none, none, none, none] := rfl
  unfold m_act
  rw [fn_at (k := 2) rfl, ev, st1]
  -- the facts of stage 2
  have nr := fun S => newT_p (S := S) [.str "refer", O] (small (by simp))
  have nh := fun S => newL_f (S := S) ((holdsL n).map hdP) (small (by simp [holdsL]))
  have hx : ∀ S, fIx (.p (.lst ((holdsL n).map hdP))) (.p (.int ((n % 6 : Nat) : Int))) S = some (.p H, S) := fun S => fIx_l (by
    have h : n % 6 < (holdsL n).length := by
      show n % 6 < 6
      omega
    rw [List.getElem?_map, List.getElem?_eq_getElem h]
    show some (hdP _) = some (hdP (holdN n))
    unfold holdN
    rw [List.getD_eq_getElem?_getD, List.getElem?_eq_getElem h]
    rfl)
  have nh' : ∀ S, newL false [.p (.str "integer"), .p (.str "text"), .p (.str "boolean"), .p (.str "counter"), .p (.str "letters"), .p (.tup [.str "refer", O])] S = some (.p (.lst ((holdsL n).map hdP)), S) := nh
  have nr' : ∀ S, newT [.p (.str "refer"), .p O] S = some (.p (.tup [.str "refer", O]), S) := nr
  simp only [at_dSeq, at_dSet, at_dOp, at_dLst, at_dTup, at_dCons, at_dC, at_dVar, at_dNil, bnd_some, List.getElem?_cons_zero, List.getElem?_cons_succ, List.set_cons_zero, List.set_cons_succ, fII_eq, if_true, decide_eq_true_eq, Int.reduceLT, e6, nr', nh', hx, seqK_nx]
  have f1 := str_eq (n % 1000) (Nat.mod_lt _ (by decide))
  have f2 := str_eq (n % 77) (Nat.lt_trans (Nat.mod_lt _ (by decide)) (by decide))
  have g1 := add_s "t" (decS (n % 1000)) (by decide) (decS_ok _ (Nat.mod_lt _ (by decide))).1
  have g2 := add_s "c_" (decS (n % 77)) (by decide) (decS_ok _ (Nat.lt_trans (Nat.mod_lt _ (by decide)) (by decide))).1
  have t1 := mk_t (.table ("t" ++ decS (n % 1000))) [.p (.str "table"), .p (.str ("t" ++ decS (n % 1000)))] rfl (by simp [actL])
  have t2 := mk_t (.column (spotN n) ("c_" ++ decS (n % 77)) (holdN n)) [.p (.str "column"), .p Z, .p (.str ("c_" ++ decS (n % 77))), .p H] rfl (by simp [actL])
  have l1 : newL true [.p (actP (.table ("t" ++ decS (n % 1000)))), .p (actP (.column (spotN n) ("c_" ++ decS (n % 77)) (holdN n)))] ⟨b, S.os⟩ = some (.ref S.os.length, ⟨b, S.os ++ [acO (actsA n)]⟩) := newL_t _ (small (by simp))
  simp only [at_dCall, at_dCons, at_dOp, at_dVar, at_dC, at_dNil, bnd_some, List.getElem?_cons_zero, List.getElem?_cons_succ, fII_eq, if_true, decide_eq_true_eq, Int.reduceLT, e1000, e77, f1, f2, g1, g2, t1, t2, l1, seqK_nx, List.set_cons_zero, List.set_cons_succ]
  let us : List (List Nat) := (List.range (n % 4)).map fun k => spotN (n + k)
  have cp : ∀ T : SH, compL (srcN 0 (n % 4)).fin (gNm 8) dYes (dCall m_spot (dCons (dOp (fAdd false) (dVar 1) (dVar 8)) dNil)) [some (.p (.int (k : Int))), some (.p (.int (n : Int))), some (.p Z), some (.p O), some (.p M), some (.p H), some (.ref S.os.length), none, none] (srcN 0 (n % 4)).items [] T = some ((tupsP us).map D.p, T) := fun T => by
    have q := comp_rng (S := T) (j := 8) (t := dYes) (elt := dCall m_spot (dCons (dOp (fAdd false) (dVar 1) (dVar 8)) dNil)) (σ := [some (.p (.int (k : Int))), some (.p (.int (n : Int))), some (.p Z), some (.p O), some (.p M), some (.p H), some (.ref S.os.length), none, none]) (fun _ => true) (fun j => D.p (.tup (natsP (spotN (n + j))))) (n % 4) (small (by omega)) (fun j hj => ⟨rfl, fun _ => by
      have ej : (n : Int) + (j : Int) = ((n + j : Nat) : Int) := by omega
      simp only [at_dCall, at_dCons, at_dOp, at_dVar, at_dNil, bnd_some, List.set_cons_zero, List.set_cons_succ, List.getElem?_cons_zero, List.getElem?_cons_succ, fAdd_i, ej, spot_eq]⟩)
    rw [q, List.filter_eq_self.mpr fun _ _ => rfl]
    show some ((List.range (n % 4)).map _, T) = some ((((List.range (n % 4)).map fun k => spotN (n + k)).map fun l => P.tup (natsP l)).map D.p, T)
    rw [List.map_map, List.map_map]
    rfl
  have rz := fun T => srt_rng (S := T) (n % 4) (by omega)
  have ul : (tupsP us).length ≤ sizeLine := small (by show (((List.range (n % 4)).map fun k => spotN (n + k)).map fun l => P.tup (natsP l)).length ≤ _; rw [List.length_map, List.length_map, List.length_range]; omega)
  have nu := fun T => newL_f (S := T) (tupsP us) ul
  have tu := fun T => fTuple_l (S := T) ul
  have t3 := mk_t (.unique (spotN n) us) [.p (.str "unique"), .p Z, .p (.tup (tupsP us))] rfl (by simp [actL])
  have ty1 := isTy_ref (at_last b S.os (acO (actsA n)))
  have a1 := app_live b S.os (actsA n) (.unique (spotN n) us) (by simp [actsA])
  rw [at_dSeq]
  simp only [at_dDrop, at_dBM, at_dVar, at_dTup, at_dCons, at_dC, at_dCall, at_dComp, at_dRng1, at_dOp, at_dNil, bnd_some, List.getElem?_cons_zero, List.getElem?_cons_succ, fII_eq, if_true, decide_eq_true_eq, Int.reduceLT, e4, rz, wipeD, List.set_cons_zero, List.set_cons_succ, cp, nu, tu, t3, ty1, a1, seqK_nx]
  -- the three of a row
  have r1 := mk_t (.plain "row" 3 (spotN n)) [.p (.str "row"), .p Z] rfl (by simp [actL])
  have r2 := mk_t (.plain "drop" 4 (spotN n)) [.p (.str "drop"), .p Z] rfl (by simp [actL])
  have r3 := mk_t (.put (spotN n) (spotN (n * 5 + 3)) (valP (n / 2))) [.p (.str "put"), .p Z, .p O, .p (valP (n / 2))] rfl (by simp [actL])
  have lc := lit_l (actsC n) [.p (actP (.plain "row" 3 (spotN n))), .p (actP (.plain "drop" 4 (spotN n))), .p (actP (.put (spotN n) (spotN (n * 5 + 3)) (valP (n / 2))))] rfl (by simp [actsC])
  have p2 := add_live b S.os (actsB n) (actsC n) (by simp [actsB, actsA, actsC])
  have eB : actsA n ++ [.unique (spotN n) us] = actsB n := rfl
  rw [at_dSeq]
  simp only [eB, at_dSet, at_dLst, at_dVar, at_dTup, at_dCons, at_dC, at_dCall, at_dOp, at_dNil, bnd_some, List.getElem?_cons_zero, List.getElem?_cons_succ, List.set_cons_zero, List.set_cons_succ, fII_eq, d2, if_true, en2, value_eq, r1, r2, r3, lc, p2, seqK_nx]
  -- the target
  have tg : ∀ (x : D) (T : SH), dIf (dTest (dOp (fEq false) (dOp fMod (dVar 1) (dC (.int 2))) (dC (.int 0))))
      (dSet 7 (dCall m_spot (dCons (dOp (fAdd false) (dVar 1) (dC (.int 77))) dNil)))
      dNx [some (.p (.int (k : Int))), some (.p (.int (n : Int))), some (.p Z), some (.p O), some (.p M), some (.p H), some x, some (.p .non), none] T = some (.nx [some (.p (.int (k : Int))), some (.p (.int (n : Int))), some (.p Z), some (.p O), some (.p M), some (.p H), some x, some (.p (optP (targN n))), none], T) := by
    intro x T
    have fe : fEq false (.p (.int ((n : Int) % 2))) (.p (.int 0)) T = some (.p (.bl ((n : Int) % 2 == 0)), T) := by simp [fEq, okd, peq]
    by_cases c : n % 2 = 0
    · have c' : ((n : Int) % 2 == 0) = true := by
        rw [beq_iff_eq]
        omega
      rw [c'] at fe
      simp only [at_dIf, at_dTest, at_dOp, at_dVar, at_dC, at_dSet, at_dCall, at_dCons, at_dNil, bnd_some, List.getElem?_cons_zero, List.getElem?_cons_succ, fII_eq, fAdd_i, if_true, decide_eq_true_eq, Int.reduceLT, fe, toB_p, es, spot_eq, List.set_cons_zero, List.set_cons_succ, targN, if_pos c, optP]
    · have c' : ((n : Int) % 2 == 0) = false := by
        rw [beq_eq_false_iff_ne]
        omega
      rw [c'] at fe
      simp only [at_dIf, at_dTest, at_dOp, at_dVar, at_dC, bnd_some, List.getElem?_cons_zero, List.getElem?_cons_succ, fII_eq, if_true, decide_eq_true_eq, Int.reduceLT, fe, toB_p, Bool.false_eq_true, if_false, at_dNx, targN, if_neg c, optP]
  rw [at_dSeq]
  simp only [at_dSet, at_dC, bnd_some, seqK_nx, List.set_cons_zero, List.set_cons_succ]
  rw [at_dSeq, tg, bnd_some, seqK_nx]
  -- refer, add
  have r4 := mk_t (.refer (spotN n) (spotN (n * 5 + 3)) (targN n)) [.p (.str "refer"), .p Z, .p O, .p (optP (targN n))] rfl (by simp [actL])
  have r5 := mk_t (.add (spotN n) (spotN (n * 5 + 3)) ((n : Int) - 5000)) [.p (.str "add"), .p Z, .p O, .p (.int ((n : Int) - 5000))] rfl (by simp [actL])
  have ld := lit_l (actsD n) [.p (actP (.refer (spotN n) (spotN (n * 5 + 3)) (targN n))), .p (actP (.add (spotN n) (spotN (n * 5 + 3)) ((n : Int) - 5000)))] rfl (by simp [actsD])
  have p3 := add_live b (S.os ++ [acO (actsB n)]) (actsB n ++ actsC n) (actsD n) (by simp [actsB, actsA, actsC, actsD])
  rw [at_dSeq]
  simp only [at_dSet, at_dLst, at_dVar, at_dTup, at_dCons, at_dC, at_dOp, at_dNil, bnd_some, List.getElem?_cons_zero, List.getElem?_cons_succ, List.set_cons_zero, List.set_cons_succ, fII_eq, if_true, r4, r5, ld, p3, seqK_nx]
  -- insert, remove
  have rm := mk_n [1, 2, 3, n] [.p (.int 1), .p (.int 2), .p (.int 3), .p (.int (n : Int))] rfl (by simp)
  have r6 := mk_t (.insert (spotN n) (spotN (n * 5 + 3)) (markN n) (textS n)) [.p (.str "insert"), .p Z, .p O, .p M, .p (.str (textS n))] rfl (by simp [actL])
  have r7 := mk_t (.plain "remove" 9 [1, 2, 3, n]) [.p (.str "remove"), .p (.tup (natsP [1, 2, 3, n]))] rfl (by simp [actL])
  have le := lit_l (actsE n) [.p (actP (.insert (spotN n) (spotN (n * 5 + 3)) (markN n) (textS n))), .p (actP (.plain "remove" 9 [1, 2, 3, n]))] rfl (by simp [actsE])
  have p4 := add_live b ((S.os ++ [acO (actsB n)]) ++ [acO (actsB n ++ actsC n)]) (actsB n ++ actsC n ++ actsD n) (actsE n) (by simp [actsB, actsA, actsC, actsD, actsE])
  rw [at_dSeq]
  simp only [at_dSet, at_dLst, at_dVar, at_dTup, at_dCons, at_dC, at_dOp, at_dCall, at_dNil, bnd_some, List.getElem?_cons_zero, List.getElem?_cons_succ, List.set_cons_zero, List.set_cons_succ, rm, text_eq, r6, r7, le, p4, seqK_nx]
  -- undo, and the one that is asked for
  have ru := mk_n [n % 6, 1 + n] [.p (.int ((n % 6 : Nat) : Int)), .p (.int ((1 + n : Nat) : Int))] rfl (by simp)
  have r8 := mk_t (.plain "undo" 10 [n % 6, 1 + n]) [.p (.str "undo"), .p (.tup (natsP [n % 6, 1 + n]))] rfl (by simp [actL])
  have ty2 := isTy_ref (at_last b (((S.os ++ [acO (actsB n)]) ++ [acO (actsB n ++ actsC n)]) ++ [acO (actsB n ++ actsC n ++ actsD n)]) (acO (actsB n ++ actsC n ++ actsD n ++ actsE n)))
  have a2 := app_live b (((S.os ++ [acO (actsB n)]) ++ [acO (actsB n ++ actsC n)]) ++ [acO (actsB n ++ actsC n ++ actsD n)]) (actsB n ++ actsC n ++ actsD n ++ actsE n) (.plain "undo" 10 [n % 6, 1 + n]) (by simp [actsB, actsA, actsC, actsD, actsE])
  have hk : k % 11 < (actsN n).length := by rw [acts_len]; omega
  have xi : fIx (.ref (((S.os ++ [acO (actsB n)]) ++ [acO (actsB n ++ actsC n)]) ++ [acO (actsB n ++ actsC n ++ actsD n)]).length) (.p (.int ((k % 11 : Nat) : Int))) ⟨b, (((S.os ++ [acO (actsB n)]) ++ [acO (actsB n ++ actsC n)]) ++ [acO (actsB n ++ actsC n ++ actsD n)]) ++ [acO (actsN n)]⟩ = some (.p (actP (actN k n)), ⟨b, (((S.os ++ [acO (actsB n)]) ++ [acO (actsB n ++ actsC n)]) ++ [acO (actsB n ++ actsC n ++ actsD n)]) ++ [acO (actsN n)]⟩) :=
    fIx_ri (at_last b _ _) (by omega) (by
      have e : (((k % 11 : Nat) : Int)).toNat = k % 11 := by omega
      rw [e, List.getElem?_map, List.getElem?_map, List.getElem?_eq_getElem hk]
      show some (D.p (actP _)) = _
      unfold actN
      rw [List.getD_eq_getElem?_getD, List.getElem?_eq_getElem hk]
      rfl)
  have eF : actsB n ++ actsC n ++ actsD n ++ actsE n ++ [.plain "undo" 10 [n % 6, 1 + n]] = actsN n := rfl
  rw [eF] at a2
  rw [at_dSeq]
  simp only [at_dDrop, at_dBM, at_dVar, at_dTup, at_dCons, at_dC, at_dOp, at_dNil, bnd_some, List.getElem?_cons_zero, List.getElem?_cons_succ, fII_eq, fAdd_i, if_true, decide_eq_true_eq, Int.reduceLT, e6, eu, ru, r8, ty2, a2, seqK_nx, at_dRet, ek, xi, frame_p]
  have ec : Pv.cutS S ⟨b, (((S.os ++ [acO (actsB n)]) ++ [acO (actsB n ++ actsC n)]) ++ [acO (actsB n ++ actsC n ++ actsD n)]) ++ [acO (actsN n)]⟩ = S := by
    rw [List.append_assoc, List.append_assoc, List.append_assoc]
    exact cut_app _ _
  rw [ec]
end Kb
namespace Kb
open PySem PySem.Spec PyProof.Rows L2 Pv
/-! rights -/
abbrev Tri := Bool × Bool × Bool
def triP (t : Tri) : P := .tup [.bl t.1, .bl t.2.1, .bl t.2.2]
def b01 (b : Bool) : Int := if b = true then 1 else 0
def triE (t : Tri) : List Int := [b01 t.1, b01 t.2.1, b01 t.2.2]
def rtsP (ts : List Tri) : P := .tup (ts.map triP)
def encR (ts : List Tri) : List Int := (ts.map triE).flatten
theorem encR_take (ts : List Tri) {i : Nat} {t : Tri} (h : ts[i]? = some t) : encR (ts.take (i + 1)) = encR (ts.take i) ++ triE t := by
  unfold encR
  rw [List.take_add_one, h]
  simp
theorem encR_len (ts : List Tri) : (encR ts).length = 3 * ts.length := by
  unfold encR
  induction ts with
  | nil => rfl
  | cons t ts ih =>
    rw [List.map_cons, List.flatten_cons, List.length_append, ih, List.length_cons]
    show 3 + _ = _
    omega
theorem wr_eq (ts : List Tri) (hl : ts.length ≤ 100) : Gives m_write_rights (rtsP ts) (encR ts) := by
  intro S
  have src := fun S => itP (S := S) (ts.map triP) (p := rtsP ts) (.inr rfl)
  obtain ⟨σ', S', h1, rfl, rfl⟩ := forL_inv (body := (dDrop (dBM "list" fExt (dVar 1) (dCons (dLst false (dCons (dCall fInt (dCons (dVar 2) dNil)) (dCons (dCall fInt (dCons (dVar 3) dNil)) (dCons (dCall fInt (dCons (dVar 4) dNil)) dNil)))) dNil)))) (ws := [0, 2, 3, 4]) (g := (gTp 3 (gCn (gNm 2) (gCn (gNm 3) (gCn (gNm 4) gNl))))) (fin := (srcP (ts.map triP)).fin) (fun i σ S' => σ = [none, some (.ref S.os.length), none, none, none] ∧ S' = ⟨S.os.length, S.os ++ [.lst ((intsP (encR (ts.take i))).map D.p)]⟩) (srcP (ts.map triP)).items 0
    [none, some (.ref S.os.length), none, none, none] ⟨S.os.length, S.os ++ [.lst ((intsP []).map D.p)]⟩ ⟨rfl, rfl⟩ (fun _ _ _ => rfl) (by
      rintro i it σ S1 hit ⟨rfl, rfl⟩
      rw [Nat.zero_add] at *
      simp only [srcP, List.getElem?_map] at hit
      cases e : ts[i]? with
      | none => rw [e] at hit; cases hit
      | some t =>
      rw [e] at hit
      cases hit
      have hi := (List.getElem?_eq_some_iff.mp e).1
      have ty := isTy_ref (at_last S.os.length S.os (.lst ((intsP (encR (ts.take i))).map D.p)))
      have z1 := encR_len (ts.take i)
      rw [List.length_take] at z1
      have ex := ext_last S.os.length S.os (encR (ts.take i)) (triE t) (by show _ + 3 ≤ _; omega)
      rw [← encR_take ts e] at ex
      have n3 : newL false [.p (.int (if t.1 = true then 1 else 0)), .p (.int (if t.2.1 = true then 1 else 0)), .p (.int (if t.2.2 = true then 1 else 0))] ⟨S.os.length, S.os ++ [.lst ((intsP (encR (ts.take i))).map D.p)]⟩ = some (.p (.lst (intsP (triE t))), ⟨S.os.length, S.os ++ [.lst ((intsP (encR (ts.take i))).map D.p)]⟩) := ints_lit _ (triE t) _ rfl (by simp [triE])
      refine ⟨.p (triP t), [none, some (.ref S.os.length), some (.p (.bl t.1)), some (.p (.bl t.2.1)), some (.p (.bl t.2.2))], _, rfl, rfl, [none, some (.ref S.os.length), some (.p (.bl t.1)), some (.p (.bl t.2.1)), some (.p (.bl t.2.2))], _, .inl ?_, rfl, rfl⟩
      simp only [at_dDrop, at_dBM, at_dVar, at_dLst, at_dCons, at_dCall, at_dNil, bnd_some, List.getElem?_cons_zero, List.getElem?_cons_succ, ty, if_true, fInt_b, n3, ex])
  have el : (srcP (ts.map triP)).items.length = ts.length := by simp [srcP]
  rw [el, Nat.zero_add, List.take_length] at h1
  have l1 : newL true [] ⟨S.os.length, S.os⟩ = some (.ref S.os.length, ⟨S.os.length, S.os ++ [.lst ((intsP []).map D.p)]⟩) := newL_t [] (Nat.zero_le _)
  have ev : ∀ p, startD 5 [.p p] = [some (.p p), none, none, none, none] := fun _ => rfl
  have e6 := frame_ref (S := S) (n := S.os.length) (S1 := ⟨S.os.length, S.os ++ [.lst ((intsP (encR ts)).map D.p)]⟩) (ps := intsP (encR ts)) (Nat.le_refl _) (at_last _ _ _)
  rw [cut_app] at e6
  unfold m_write_rights
  rw [fn_at (k := 1) rfl, ev]
  simp only [at_dSeq, at_dSet, at_dLst, at_dNil, bnd_some, l1, seqK_nx, at_dFor, at_dIt, at_dVar, List.set_cons_zero, List.set_cons_succ, List.getElem?_cons_zero, List.getElem?_cons_succ, src, wipeD, h1, at_dRet, e6]
end Kb
namespace Kb
open PySem PySem.Spec PyProof.Rows L2 Pv
theorem rb_eq (ts : List Tri) (hl : ts.length ≤ 100) : Gives m_rights_bytes (rtsP ts) (encR ts) := by
  intro S
  have src := fun S => itP (S := S) (ts.map triP) (p := rtsP ts) (.inr rfl)
  obtain ⟨σ', S', h1, rfl, rfl⟩ := p_inv (body := (dSet 1 (dOp (fAdd false) (dVar 1) (dComp false (dIt (dVar 2)) (gNm 3) dYes (dCall fInt (dCons (dVar 3) dNil)) [3])))) (ws := [0, 2]) (j := 2) (fun i σ S' => σ = [none, some (.p (.lst (intsP (encR (ts.take i))))), none, none] ∧ S' = ⟨S.os.length, S.os⟩) (ts.map triP)
    (σ := [none, some (.p (.lst (intsP []))), none, none]) (S := ⟨S.os.length, S.os⟩) ⟨rfl, rfl⟩ (by
      rintro i q σ S1 hq ⟨rfl, rfl⟩
      rw [List.getElem?_map] at hq
      cases e : ts[i]? with
      | none => rw [e] at hq; cases hq
      | some t =>
      rw [e] at hq
      cases hq
      have hi := (List.getElem?_eq_some_iff.mp e).1
      have z1 := encR_len (ts.take i)
      rw [List.length_take] at z1
      have ex := add_l (encR (ts.take i)) (triE t) (by show _ + 3 ≤ _; omega) ⟨S.os.length, S.os⟩
      rw [← encR_take ts e] at ex
      have st : srcOf (.p (triP t)) ⟨S.os.length, S.os⟩ = some (srcP [.bl t.1, .bl t.2.1, .bl t.2.2], ⟨S.os.length, S.os⟩) := rfl
      have n3 : newL false ((intsP (triE t)).map D.p) ⟨S.os.length, S.os⟩ = some (.p (.lst (intsP (triE t))), ⟨S.os.length, S.os⟩) := ints_lit _ (triE t) _ rfl (by simp [triE])
      have cp : compL (srcP [P.bl t.1, .bl t.2.1, .bl t.2.2]).fin (gNm 3) dYes (dCall fInt (dCons (dVar 3) dNil)) [none, some (.p (.lst (intsP (encR (ts.take i))))), some (.p (triP t)), none] (srcP [P.bl t.1, .bl t.2.1, .bl t.2.2]).items [] ⟨S.os.length, S.os⟩ = some ((intsP (triE t)).map D.p, ⟨S.os.length, S.os⟩) := by
        have q := comp_all (t := dYes) (elt := dCall fInt (dCons (dVar 3) dNil)) (g := gNm 3) (fin := (srcP [P.bl t.1, .bl t.2.1, .bl t.2.2]).fin) (S := ⟨S.os.length, S.os⟩) (σ := [none, some (.p (.lst (intsP (encR (ts.take i))))), some (.p (triP t)), none]) (fun _ => true) (fun (b : Bool) => D.p (.int (b01 b))) (fun (b : Bool) (_ : SH) => some (D.p (.bl b))) rfl [t.1, t.2.1, t.2.2] [] (small (by simp)) (fun b hb => ⟨_, _, rfl, rfl, rfl, fun _ => rfl⟩)
        exact q
      refine ⟨[none, some (.p (.lst (intsP (encR (ts.take (i + 1)))))), some (.p (triP t)), none], _, .inl ?_, rfl, rfl⟩
      simp only [at_dSet, at_dOp, at_dVar, at_dComp, at_dIt, bnd_some, List.set_cons_zero, List.set_cons_succ, List.getElem?_cons_zero, List.getElem?_cons_succ, st, wipeD, cp, n3, ex])
  have el : (ts.map triP).length = ts.length := List.length_map _
  rw [el, List.take_length] at h1
  have l1 : newL false [] ⟨S.os.length, S.os⟩ = some (.p (.lst (intsP [])), ⟨S.os.length, S.os⟩) := ints_lit _ [] [] rfl (by simp)
  have ev : ∀ p, startD 4 [.p p] = [some (.p p), none, none, none] := fun _ => rfl
  unfold m_rights_bytes
  rw [fn_at (k := 1) rfl, ev]
  simp only [at_dSeq, at_dSet, at_dLst, at_dNil, bnd_some, l1, seqK_nx, at_dFor, at_dIt, at_dVar, List.set_cons_zero, List.set_cons_succ, List.getElem?_cons_zero, List.getElem?_cons_succ, src, wipeD, h1, at_dRet, frame_p, cut_self]
/-! the rights of a number -/
def triN (n i : Nat) : Tri := ((n / 8 ^ i) % 2 == 1, (n / 8 ^ i) / 2 % 2 == 1, (n / 8 ^ i) / 4 % 2 == 1)
def rtsN (n : Nat) : List Tri := (List.range 4).map (triN n)
theorem beqN (a : Nat) : ((a : Int) == 1) = (a == 1) := by
  by_cases h : a = 1
  · subst h; rfl
  · rw [beq_eq_false_iff_ne.mpr h, beq_eq_false_iff_ne.mpr (by omega)]
end Kb
namespace Kb
open PySem PySem.Spec PyProof.Rows L2 Pv
def pw8 : List P := [.int 1, .int 8, .int 64, .int 512]
theorem pw8_at {i : Nat} (hi : i < 4) (S : SH) : fIx (.p (.lst pw8)) (.p (.int (i : Int))) S = some (.p (.int ((8 ^ i : Nat) : Int)), S) := by
  have c : i = 0 ∨ i = 1 ∨ i = 2 ∨ i = 3 := by omega
  rcases c with rfl | rfl | rfl | rfl <;> exact fIx_l rfl
theorem eq1 (a : Nat) (S : SH) : fEq false (.p (.int (a : Int))) (.p (.int 1)) S = some (.p (.bl (a == 1)), S) := by
  have e : fEq false (.p (.int (a : Int))) (.p (.int 1)) S = some (.p (.bl ((a : Int) == 1)), S) := by simp [fEq, okd, peq]
  rw [e, beqN]
theorem ri_eq (n : Nat) (S : SH) : m_rights [.p (.int (n : Int))] S = some (.p (rtsP (rtsN n)), S) := by
  have step : ∀ i : Nat, i < 4 → ∃ σ2, (dSeq (dSet 3 (dOp fDiv (dVar 0) (dOp fIx (dLst false (dCons (dC (.int 1)) (dCons (dC (.int 8)) (dCons (dC (.int 64)) (dCons (dC (.int 512)) dNil))))) (dVar 2))))
    (dDrop (dBM "list" fApp (dVar 1) (dCons (dTup (dCons (dOp (fEq false) (dOp fMod (dVar 3) (dC (.int 2))) (dC (.int 1))) (dCons (dOp (fEq false) (dOp fMod (dOp fDiv (dVar 3) (dC (.int 2))) (dC (.int 2))) (dC (.int 1))) (dCons (dOp (fEq false) (dOp fMod (dOp fDiv (dVar 3) (dC (.int 4))) (dC (.int 2))) (dC (.int 1))) dNil)))) dNil)))) [some (.p (.int (n : Int))), some (.ref S.os.length), some (.p (.int (i : Int))), none] ⟨S.os.length, S.os ++ [.lst (((List.range i).map fun j => triP (triN n j)).map D.p)]⟩ =
      some (.nx σ2, ⟨S.os.length, S.os ++ [.lst (((List.range (i + 1)).map fun j => triP (triN n j)).map D.p)]⟩) ∧ wipeD [2, 3] σ2 = [some (.p (.int (n : Int))), some (.ref S.os.length), none, none] := by
    intro i hi
    have dv : divOk (n : Int) ((8 ^ i : Nat) : Int) = true := by
      have c : i = 0 ∨ i = 1 ∨ i = 2 ∨ i = 3 := by omega
      rcases c with rfl | rfl | rfl | rfl <;> exact divOk_c (by decide) (by decide)
    have ed : (n : Int) / ((8 ^ i : Nat) : Int) = ((n / 8 ^ i : Nat) : Int) := (Int.natCast_ediv n (8 ^ i)).symm
    generalize hm : n / 8 ^ i = m at ed
    have d2 : divOk (m : Int) 2 = true := divOk_c (by decide) (by decide)
    have d4 : divOk (m : Int) 4 = true := divOk_c (by decide) (by decide)
    have x1 : (m : Int) % 2 = ((m % 2 : Nat) : Int) := by omega
    have x2 : (m : Int) / 2 % 2 = ((m / 2 % 2 : Nat) : Int) := by omega
    have x3 : (m : Int) / 4 % 2 = ((m / 4 % 2 : Nat) : Int) := by omega
    have nl : ∀ S, newL false [.p (.int 1), .p (.int 8), .p (.int 64), .p (.int 512)] S = some (.p (.lst pw8), S) := fun S => newL_f (S := S) pw8 (small (by decide))
    have nt : ∀ S, newT [.p (.bl (m % 2 == 1)), .p (.bl (m / 2 % 2 == 1)), .p (.bl (m / 4 % 2 == 1))] S = some (.p (triP (triN n i)), S) := fun S => by
      have q := newT_p (S := S) [.bl (m % 2 == 1), .bl (m / 2 % 2 == 1), .bl (m / 4 % 2 == 1)] (small (by simp))
      unfold triN triP
      rw [hm]
      exact q
    have e := at_last S.os.length S.os (.lst (((List.range i).map fun j => triP (triN n j)).map D.p))
    have ty := isTy_ref e
    have ap : fApp [.ref S.os.length, .p (triP (triN n i))] ⟨S.os.length, S.os ++ [.lst (((List.range i).map fun j => triP (triN n j)).map D.p)]⟩ = some (.p .non, ⟨S.os.length, S.os ++ [.lst (((List.range (i + 1)).map fun j => triP (triN n j)).map D.p)]⟩) := by
      rw [fApp_p e (by rw [List.length_map, List.length_map, List.length_range]; have := line_ge; omega), put_last, List.range_succ, List.map_append, List.map_append]
      rfl
    refine ⟨[some (.p (.int (n : Int))), some (.ref S.os.length), some (.p (.int (i : Int))), some (.p (.int (m : Int)))], ?_, rfl⟩
    simp only [at_dSeq, at_dSet, at_dOp, at_dLst, at_dVar, at_dCons, at_dC, at_dNil, at_dDrop, at_dBM, at_dTup, bnd_some, List.getElem?_cons_zero, List.getElem?_cons_succ, List.set_cons_zero, List.set_cons_succ, nl, pw8_at hi, fII_eq, dv, ed, d2, d4, if_true, decide_eq_true_eq, Int.reduceLT, seqK_nx, x1, x2, x3, eq1, nt, ty, ap]
  obtain ⟨σ', S', h1, rfl, rfl⟩ := rng0_inv (body := (dSeq (dSet 3 (dOp fDiv (dVar 0) (dOp fIx (dLst false (dCons (dC (.int 1)) (dCons (dC (.int 8)) (dCons (dC (.int 64)) (dCons (dC (.int 512)) dNil))))) (dVar 2))))
    (dDrop (dBM "list" fApp (dVar 1) (dCons (dTup (dCons (dOp (fEq false) (dOp fMod (dVar 3) (dC (.int 2))) (dC (.int 1))) (dCons (dOp (fEq false) (dOp fMod (dOp fDiv (dVar 3) (dC (.int 2))) (dC (.int 2))) (dC (.int 1))) (dCons (dOp (fEq false) (dOp fMod (dOp fDiv (dVar 3) (dC (.int 4))) (dC (.int 2))) (dC (.int 1))) dNil)))) dNil))))) (ws := [2, 3]) (j := 2) (fun i σ S' => σ = [some (.p (.int (n : Int))), some (.ref S.os.length), none, none] ∧ S' = ⟨S.os.length, S.os ++ [.lst (((List.range i).map fun j => triP (triN n j)).map D.p)]⟩) 4
    (σ := [some (.p (.int (n : Int))), some (.ref S.os.length), none, none]) (S := ⟨S.os.length, S.os ++ [.lst []]⟩) ⟨rfl, rfl⟩ (by
      rintro i σ S1 hi ⟨rfl, rfl⟩
      obtain ⟨σ2, a, b⟩ := step i hi
      exact ⟨σ2, _, .inl a, b, rfl⟩)
  have l1 : newL true [] ⟨S.os.length, S.os⟩ = some (.ref S.os.length, ⟨S.os.length, S.os ++ [.lst []]⟩) := newL_t [] (Nat.zero_le _)
  have rz : rng1 [.p (.int 4)] ⟨S.os.length, S.os ++ [.lst []]⟩ = some (srcN 0 4, ⟨S.os.length, S.os ++ [.lst []]⟩) := srt_rng 4 (by omega)
  have ft : fTuple [.ref S.os.length] ⟨S.os.length, S.os ++ [.lst (((List.range 4).map fun j => triP (triN n j)).map D.p)]⟩ = some (.p (rtsP (rtsN n)), ⟨S.os.length, S.os ++ [.lst (((List.range 4).map fun j => triP (triN n j)).map D.p)]⟩) := by
    have ea : asL (.ref S.os.length) ⟨S.os.length, S.os ++ [.lst (((List.range 4).map fun j => triP (triN n j)).map D.p)]⟩ = some (((List.range 4).map fun j => triP (triN n j)).map D.p) := by
      unfold asL
      dsimp only
      rw [at_last S.os.length]
    unfold fTuple
    simp only [ea]
    rw [newT_p _ (small (by simp))]
    unfold rtsP rtsN
    rw [List.map_map]
    rfl
  have ev : ∀ p, startD 4 [.p p] = [some (.p p), none, none, none] := fun _ => rfl
  unfold m_rights
  rw [fn_at (k := 1) rfl, ev]
  simp only [at_dSeq, at_dSet, at_dLst, at_dNil, at_dFor, at_dRng1, at_dCons, at_dC, bnd_some, l1, seqK_nx, rz, List.set_cons_zero, List.set_cons_succ, wipeD, h1, at_dRet, at_dCall, at_dVar, List.getElem?_cons_zero, List.getElem?_cons_succ, ft, frame_p, cut_app]
end Kb
namespace Kb
open PySem PySem.Spec PyProof.Rows L2 Pv
/-! public acts -/
inductive Pub where
  | grant (m : Nat) (ts : List Tri)
  | revoke (o : Option (List Nat))
  | sl
def pubL : Pub → List P
  | .grant m ts => [.str "grant", .int (m : Int), rtsP ts]
  | .revoke o => [.str "revoke", optP o]
  | .sl => [.str "seal"]
def pubP (p : Pub) : P := .tup (pubL p)
def encPb : Pub → List Int
  | .grant m ts => [0] ++ wnd 60 m ++ encR ts
  | .revoke o => [1] ++ encO o
  | .sl => [2]
def OkP : Pub → Prop
  | .grant m ts => m < Big ∧ ts.length ≤ 100
  | .revoke o => OpS o
  | .sl => True
theorem encPb_len (p : Pub) (h : OkP p) : (encPb p).length ≤ 1000 := by
  cases p with
  | grant m ts =>
    have h1 : m < Big ∧ ts.length ≤ 100 := h
    have := wnd_len 60 m
    have := encR_len ts
    simp only [encPb, List.length_append, List.length_cons, List.length_nil]
    omega
  | revoke o =>
    have := (show OpS o from h).e
    simp only [encPb, List.length_append, List.length_cons, List.length_nil]
    omega
  | sl => simp [encPb]
theorem wp_eq (p : Pub) (h : OkP p) : Gives m_write_public (pubP p) (encPb p) := by
  intro S
  have ev : ∀ v, startD 1 [.p v] = [some (.p v)] := fun _ => rfl
  unfold m_write_public
  rw [fn_at (k := 1) rfl, ev]
  cases p with
  | grant m ts =>
    obtain ⟨hm, ht⟩ := h
    have z1 := wnd_len 60 m
    have z2 := encR_len ts
    have x0 := fun S => tix (ps := pubL (.grant m ts)) 0 (by decide) rfl S
    have x1 := fun S => tix (ps := pubL (.grant m ts)) 1 (by decide) rfl S
    have x2 := fun S => tix (ps := pubL (.grant m ts)) 2 (by decide) rfl S
    have q1 := eqw "grant" "grant" true (by decide)
    have n0 := one_l 0
    have a1 := fun S => add_l [0] (wnd 60 m) (by simp only [List.length_cons, List.length_nil]; omega) S
    have a2 := fun S => add_l ([0] ++ wnd 60 m) (encR ts) (by simp only [List.length_append, List.length_cons, List.length_nil]; omega) S
    simp only [pubP, at_dSeq, at_dIf, at_dTest, at_dOp, at_dVar, at_dC, at_dRet, at_dLst, at_dCons, at_dNil, at_dCall, bnd_some, List.getElem?_cons_zero, x0, x1, x2, q1, toB_p, if_true, n0, wn_eq m hm, wr_eq ts ht _, a1, a2, seqK_ret, frame_p, cut_self]
    rfl
  | revoke o =>
    have ho : OpS o := h
    have z1 := ho.e
    have x0 := fun S => tix (ps := pubL (.revoke o)) 0 (by decide) rfl S
    have x1 := fun S => tix (ps := pubL (.revoke o)) 1 (by decide) rfl S
    have q1 := eqw "revoke" "grant" false (by decide)
    have q2 := eqw "revoke" "revoke" true (by decide)
    have n1 := one_l 1
    have a1 := fun S => add_l [1] (encO o) (by simp only [List.length_cons, List.length_nil]; omega) S
    simp only [pubP, at_dSeq, at_dIf, at_dTest, at_dOp, at_dVar, at_dC, at_dRet, at_dLst, at_dCons, at_dNil, at_dCall, at_dNx, bnd_some, List.getElem?_cons_zero, x0, x1, q1, q2, toB_p, if_true, Bool.false_eq_true, if_false, n1, wo_eq o ho.n _, a1, seqK_nx, seqK_ret, frame_p, cut_self]
    rfl
  | sl =>
    have x0 := fun S => tix (ps := pubL .sl) 0 (by decide) rfl S
    have q1 := eqw "seal" "grant" false (by decide)
    have q2 := eqw "seal" "revoke" false (by decide)
    have n2 := one_l 2
    simp only [pubP, at_dSeq, at_dIf, at_dTest, at_dOp, at_dVar, at_dC, at_dRet, at_dLst, at_dCons, at_dNil, at_dNx, bnd_some, List.getElem?_cons_zero, x0, q1, q2, toB_p, Bool.false_eq_true, if_false, n2, seqK_nx, frame_p, cut_self]
    rfl
end Kb
namespace Kb
open PySem PySem.Spec PyProof.Rows L2 Pv
def insG (au nu cap : P) (hd pb pt : List P) : List (Str × P) := [("author", au), ("number", nu), ("heard", .tup hd), ("capability", cap), ("publics", .tup pb), ("parts", .tup pt)]
def insP (au nu cap : P) (hd pb pt : List P) : P := .ins 0 (insG au nu cap hd pb pt)
def partOk : P → Bool
  | .non => true
  | .tup _ => true
  | _ => false
theorem as_tuple_eq {p : P} (h : partOk p = true) (S : SH) : m_as_tuple [.p p] S = some (.p p, S) := by
  cases p <;> first | (cases h; done) | skip
  · simp [m_as_tuple, startD, fIs, isNon]
  · simp [m_as_tuple, startD, fIs, isNon]
theorem fTuple_s {ps : List P} {p : P} (h : p = .lst ps ∨ p = .tup ps) (hl : ps.length ≤ sizeLine) {S : SH} : fTuple [.p p] S = some (.p (.tup ps), S) := by
  rcases h with rfl | rfl
  · exact fTuple_l hl
  · exact fTuple_t
theorem init_eq (S : SH) (au nu cap : P) {hd pb pt : List P} {hp pp qp : P} (h1 : hp = .lst hd ∨ hp = .tup hd) (h2 : pp = .lst pb ∨ pp = .tup pb) (h3 : qp = .lst pt ∨ qp = .tup pt) (l1 : hd.length ≤ sizeLine) (l2 : pb.length ≤ sizeLine) (l3 : pt.length ≤ sizeLine) (ho : ∀ p ∈ pt, partOk p = true) :
    m_Change_init [.ref S.os.length, .p au, .p nu, .p hp, .p cap, .p pp, .p qp] ⟨S.os.length, S.os ++ [.ins 0 []]⟩ = some (.p .non, ⟨S.os.length, S.os ++ [.ins 0 ((insG au nu cap hd pb pt).map fun p => (p.1, .p p.2))]⟩) := by
  have c0 : ([0] : List Nat).contains 0 = true := by decide
  have ev : startD 8 [.ref S.os.length, .p au, .p nu, .p hp, .p cap, .p pp, .p qp] = [some (.ref S.os.length), some (.p au), some (.p nu), some (.p hp), some (.p cap), some (.p pp), some (.p qp), none] := rfl
  have e1 := fun S => fTuple_s (S := S) h1 l1
  have e2 := fun S => fTuple_s (S := S) h2 l2
  have e3 := fun S => itP (S := S) pt h3
  have e4 := fun (T : SH) => comp_p (S := T) (j := 7) (t := dYes) (elt := dCall m_as_tuple (dCons (dVar 7) dNil)) (σ := [some (.ref S.os.length), some (.p au), some (.p nu), some (.p hp), some (.p cap), some (.p pp), some (.p qp), none]) (fun _ => true) (fun p => D.p p) pt l3 fun p hp => ⟨rfl, fun _ => by simp [as_tuple_eq (ho p hp)]⟩
  unfold m_Change_init
  simp only [at_fnL, ev, at_dSeq, at_dSetF, at_dCall, at_dCons, at_dNil, at_dVar, at_dComp, at_dIt, bnd_some, seqK_nx, List.length_cons, List.length_nil, if_true, List.getElem?_cons_succ, List.getElem?_cons_zero, e1, e2, e3]
  have q1 : putFD "author" (.p au) ([] : List (Str × D)) = ([("author", .p au)] : List (Str × D)) := rfl
  have q2 : putFD "number" (.p nu) ([("author", .p au)] : List (Str × D)) = ([("author", .p au), ("number", .p nu)] : List (Str × D)) := rfl
  have q3 : putFD "heard" (.p (.tup hd)) ([("author", .p au), ("number", .p nu)] : List (Str × D)) = ([("author", .p au), ("number", .p nu), ("heard", .p (.tup hd))] : List (Str × D)) := rfl
  have q4 : putFD "capability" (.p cap) ([("author", .p au), ("number", .p nu), ("heard", .p (.tup hd))] : List (Str × D)) = ([("author", .p au), ("number", .p nu), ("heard", .p (.tup hd)), ("capability", .p cap)] : List (Str × D)) := rfl
  have q5 : putFD "publics" (.p (.tup pb)) ([("author", .p au), ("number", .p nu), ("heard", .p (.tup hd)), ("capability", .p cap)] : List (Str × D)) = ([("author", .p au), ("number", .p nu), ("heard", .p (.tup hd)), ("capability", .p cap), ("publics", .p (.tup pb))] : List (Str × D)) := rfl
  have q6 : putFD "parts" (.p (.tup pt)) ([("author", .p au), ("number", .p nu), ("heard", .p (.tup hd)), ("capability", .p cap), ("publics", .p (.tup pb))] : List (Str × D)) = ([("author", .p au), ("number", .p nu), ("heard", .p (.tup hd)), ("capability", .p cap), ("publics", .p (.tup pb)), ("parts", .p (.tup pt))] : List (Str × D)) := rfl
  have sl : ∀ {f : Str} {v : P} {fs : List (Str × D)}, fs.length < 1000 → setFld [0] f (.ref S.os.length) (.p v) ⟨S.os.length, S.os ++ [.ins 0 fs]⟩ = some ⟨S.os.length, S.os ++ [.ins 0 (putFD f (.p v) fs)]⟩ := fun hl => setF_last c0 hl
  rw [sl (by simp only [List.length_cons, List.length_nil]; omega), q1]
  simp only [bnd_some, seqK_nx, at_dSeq, at_dSetF, at_dCall, at_dCons, at_dNil, at_dVar, at_dComp, at_dIt, List.getElem?_cons_succ, List.getElem?_cons_zero]
  rw [sl (by simp only [List.length_cons, List.length_nil]; omega), q2]
  simp only [bnd_some, seqK_nx, at_dSeq, at_dSetF, at_dCall, at_dCons, at_dNil, at_dVar, at_dComp, at_dIt, List.getElem?_cons_succ, List.getElem?_cons_zero, e1]
  rw [sl (by simp only [List.length_cons, List.length_nil]; omega), q3]
  simp only [bnd_some, seqK_nx, at_dSeq, at_dSetF, at_dCall, at_dCons, at_dNil, at_dVar, at_dComp, at_dIt, List.getElem?_cons_succ, List.getElem?_cons_zero]
  rw [sl (by simp only [List.length_cons, List.length_nil]; omega), q4]
  simp only [bnd_some, seqK_nx, at_dSeq, at_dSetF, at_dCall, at_dCons, at_dNil, at_dVar, at_dComp, at_dIt, List.getElem?_cons_succ, List.getElem?_cons_zero, e2]
  rw [sl (by simp only [List.length_cons, List.length_nil]; omega), q5]
  have hw : wipeD [7] [some (.ref S.os.length), some (.p au), some (.p nu), some (.p hp), some (.p cap), some (.p pp), some (.p qp), none] = [some (.ref S.os.length), some (.p au), some (.p nu), some (.p hp), some (.p cap), some (.p pp), some (.p qp), none] := rfl
  have ef : pt.filter (fun _ => true) = pt := List.filter_eq_self.mpr fun _ _ => rfl
  simp only [bnd_some, seqK_nx, at_dSeq, at_dSetF, at_dCall, at_dCons, at_dNil, at_dVar, at_dComp, at_dIt, List.getElem?_cons_succ, List.getElem?_cons_zero, e3, hw]
  rw [e4, ef, bnd_some, newL_f pt l3]
  simp only [bnd_some, fTuple_l l3]
  rw [sl (by simp only [List.length_cons, List.length_nil]; omega), q6]
  rfl
theorem mk_eq (S : SH) {a : MA} {σ : En} (au nu cap : P) {hd pb pt : List P} {hp pp qp : P} (ha : a σ S = some ([.p au, .p nu, .p hp, .p cap, .p pp, .p qp], S)) (h1 : hp = .lst hd ∨ hp = .tup hd) (h2 : pp = .lst pb ∨ pp = .tup pb) (h3 : qp = .lst pt ∨ qp = .tup pt) (l1 : hd.length ≤ sizeLine) (l2 : pb.length ≤ sizeLine) (l3 : pt.length ≤ sizeLine) (ho : ∀ p ∈ pt, partOk p = true) :
    dMake false 0 m_Change_init a σ S = some (.p (insP au nu cap hd pb pt), S) := by
  rw [at_dMakeF, ha, bnd_some, init_eq S au nu cap h1 h2 h3 l1 l2 l3 ho, bnd_some]
  have e := out_ins (k := S.os.length) (c := 0) (n := S.os.length) (S1 := ⟨S.os.length, S.os ++ [.ins 0 ((insG au nu cap hd pb pt).map fun p => (p.1, .p p.2))]⟩) (gs := insG au nu cap hd pb pt) (Nat.le_refl _) (at_last _ _ _)
  dsimp only
  rw [e]
  dsimp only
  rw [cut_app]
  rfl
section
variable (au nu cap : P) (hd pb pt : List P) (S : SH)
theorem f_author : dFld [0] "author" (.p (insP au nu cap hd pb pt)) S = some (.p au, S) := rfl
theorem f_number : dFld [0] "number" (.p (insP au nu cap hd pb pt)) S = some (.p nu, S) := rfl
theorem f_heard : dFld [0] "heard" (.p (insP au nu cap hd pb pt)) S = some (.p (.tup hd), S) := rfl
theorem f_capability : dFld [0] "capability" (.p (insP au nu cap hd pb pt)) S = some (.p cap, S) := rfl
theorem f_publics : dFld [0] "publics" (.p (insP au nu cap hd pb pt)) S = some (.p (.tup pb), S) := rfl
theorem f_parts : dFld [0] "parts" (.p (insP au nu cap hd pb pt)) S = some (.p (.tup pt), S) := rfl
theorem nT (ps : List P) (h : ps.length ≤ 100) (ds : List D) (e : ds = ps.map D.p) : newT ds S = some (.p (.tup ps), S) := by
  rw [e]
  exact newT_p ps (by have := line_ge; omega)
theorem name_eq : m_Change_name [.p (insP au nu cap hd pb pt)] S = some (.p (.tup [au, nu]), S) := by
  have e := nT ⟨S.os.length, S.os⟩ [au, nu] (by simp) [.p au, .p nu] rfl
  simp [m_Change_name, startD, f_author, f_number, e]
end
end Kb
namespace Kb
open PySem PySem.Spec PyProof.Rows L2 Pv
/-! changes -/
structure Chg where
  au : Nat
  nu : Nat
  heard : List Nat
  cap : Option (List Nat)
  pubs : List Pub
  parts : List (Option (List Act))
def ptP : Option (List Act) → P
  | none => .non
  | some as => .tup (as.map actP)
def encPt : Option (List Act) → List Int
  | none => [0]
  | some as => [1] ++ encL (as.map encA)
def chgP (c : Chg) : P := insP (.int (c.au : Int)) (.int (c.nu : Int)) (optP c.cap) (natsP c.heard) (c.pubs.map pubP) (c.parts.map ptP)
def encCh (c : Chg) : List Int := wnd 60 c.au ++ wnd 60 c.nu ++ encL (c.heard.map (wnd 60)) ++ encO c.cap ++ encL (c.pubs.map encPb) ++ (c.parts.map encPt).flatten
structure OkC (c : Chg) : Prop where
  au : c.au < Big
  nu : c.nu < Big
  hl : c.heard.length ≤ 10
  hb : ∀ n ∈ c.heard, n < Big
  cap : OpS c.cap
  pl : c.pubs.length ≤ 10
  pb : ∀ p ∈ c.pubs, OkP p
  tl : c.parts.length ≤ 10
  tb : ∀ p ∈ c.parts, ∀ as, p = some as → as.length ≤ 10 ∧ (as.map encA).flatten.length ≤ 30000 ∧ ∀ a ∈ as, OkA a
/-- a list of written things by a comprehension -/
theorem comp_enc {α : Type} {j : Nat} {m : MF} {σ : En} (fp : α → P) (fe : α → List Int) (xs : List α) (hl : xs.length ≤ 1000) (hj : j < σ.length) (hm : ∀ x ∈ xs, Gives m (fp x) (fe x)) (S : SH) : compL (srcP (xs.map fp)).fin (gNm j) dYes (dCall m (dCons (dVar j) dNil)) σ (srcP (xs.map fp)).items [] S = some ((lstsP (xs.map fe)).map D.p, S) := by
  have cp := comp_all (t := dYes) (elt := dCall m (dCons (dVar j) dNil)) (g := gNm j) (fin := (srcP (xs.map fp)).fin) (S := S) (σ := σ) (fun _ => true) (fun x => D.p (.lst (intsP (fe x)))) (fun x (_ : SH) => some (D.p (fp x))) rfl xs [] (by rw [List.length_nil]; exact small (by omega)) (fun x hx => ⟨_, _, rfl, rfl, rfl, fun _ => by
    have g : (σ.set j (some (.p (fp x))))[j]? = some (some (.p (fp x))) := List.getElem?_set_self hj
    simp only [at_dCall, at_dCons, at_dVar, at_dNil, g, bnd_some, hm x hx S]⟩)
  have ei : (srcP (xs.map fp)).items = xs.map fun x (_ : SH) => some (D.p (fp x)) := by simp [srcP]
  rw [← ei, List.filter_eq_self.mpr fun _ _ => rfl, List.nil_append] at cp
  rw [cp]
  unfold lstsP
  rw [List.map_map, List.map_map]
  rfl
theorem add_t (b : Nat) (os : List Ob) (a c : List Int) (hl : a.length + c.length ≤ 1000000) : fAdd true (.p (.lst (intsP a))) (.p (.lst (intsP c))) ⟨b, os⟩ = some (.ref os.length, ⟨b, os ++ [.lst ((intsP (a ++ c)).map D.p)]⟩) := by
  unfold fAdd
  simp only [asL_l]
  rw [newL_t _ (small (by rw [List.length_append, List.length_map, List.length_map, intsP_len, intsP_len]; exact hl))]
  simp only [intsP_app, List.map_append]
theorem app_i (b : Nat) (os : List Ob) (a : List Int) (i : Int) (hl : a.length ≤ 900000) : fApp [.ref os.length, .p (.int i)] ⟨b, os ++ [.lst ((intsP a).map D.p)]⟩ = some (.p .non, ⟨b, os ++ [.lst ((intsP (a ++ [i])).map D.p)]⟩) := by
  rw [fApp_p (at_last b os _) (by rw [List.length_map, intsP_len]; have := line_ge; omega), put_last]
  simp only [intsP_app, List.map_append]
  rfl
end Kb
namespace Kb
open PySem PySem.Spec PyProof.Rows L2 Pv
theorem flat_bound {α : Type} (f : α → List Int) (k : Nat) : ∀ (xs : List α), (∀ x ∈ xs, (f x).length ≤ k) → (xs.map f).flatten.length ≤ k * xs.length
  | [], _ => Nat.zero_le _
  | x :: xs, h => by
    rw [List.map_cons, List.flatten_cons, List.length_append, List.length_cons, Nat.mul_succ]
    have := h x (by simp)
    have := flat_bound f k xs fun y hy => h y (by simp [hy])
    omega
theorem gives_wn (n : Nat) (h : n < Big) : Gives m_write_number (.int (n : Int)) (wnd 60 n) := fun S => wn_eq n h S
/-- one part behind the bytes -/
theorem part_step (b : Nat) (os : List Ob) (acc : List Int) (hacc : acc.length ≤ 500000) (p : Option (List Act)) (hp : ∀ as, p = some as → as.length ≤ 10 ∧ (as.map encA).flatten.length ≤ 30000 ∧ ∀ a ∈ as, OkA a) :
    ∃ σ2, (dIf (dTest (dOp (fIs false) (dVar 2) (dC .non)))
      (dDrop (dBM "list" fApp (dVar 1) (dCons (dC (.int 0)) dNil)))
      (dSeq (dDrop (dBM "list" fApp (dVar 1) (dCons (dC (.int 1)) dNil)))
    (dDrop (dBM "list" fExt (dVar 1) (dCons (dCall m_write_list (dCons (dComp false (dIt (dVar 2)) (gNm 4) dYes (dCall m_write_act (dCons (dVar 4) dNil)) [4]) dNil)) dNil))))) [none, some (.ref os.length), some (.p (ptP p)), none, none] ⟨b, os ++ [.lst ((intsP acc).map D.p)]⟩ =
      some (.nx σ2, ⟨b, os ++ [.lst ((intsP (acc ++ encPt p)).map D.p)]⟩) ∧ wipeD [0, 2] σ2 = [none, some (.ref os.length), none, none, none] := by
  have ty := isTy_ref (at_last b os (.lst ((intsP acc).map D.p)))
  refine ⟨[none, some (.ref os.length), some (.p (ptP p)), none, none], ?_, rfl⟩
  cases p with
  | none =>
    have ap := app_i b os acc 0 (by omega)
    simp only [at_dIf, at_dTest, at_dOp, at_dVar, at_dC, bnd_some, List.getElem?_cons_zero, List.getElem?_cons_succ, ptP, fIs, isNon, toB_p, if_true, at_dDrop, at_dBM, ty, at_dCons, at_dNil, ap, encPt, Bool.false_eq_true, if_false]
  | some as =>
    obtain ⟨h1, h2, h3⟩ := hp as rfl
    have ap := app_i b os acc 1 (by omega)
    have ty2 := isTy_ref (at_last b os (.lst ((intsP (acc ++ [1])).map D.p)))
    have cp := fun S => comp_enc (j := 4) (m := m_write_act) (σ := [none, some (.ref os.length), some (.p (.tup (as.map actP))), none, none]) actP encA as (by omega) (by simp) (fun a ha => wa_eq a (h3 a ha)) S
    have nl := fun S => newL_f (S := S) (lstsP (as.map encA)) (small (by unfold lstsP; rw [List.length_map, List.length_map]; omega))
    have wl := fun S => wl_eq (as.map encA) (by rw [List.length_map]; omega) (by omega) S
    have z := encL_len (as.map encA)
    have ex := ext_last b os (acc ++ [1]) (encL (as.map encA)) (by rw [List.length_append, List.length_singleton]; omega)
    have src : ∀ S, srcOf (.p (.tup (as.map actP))) S = some (srcP (as.map actP), S) := fun _ => rfl
    simp only [at_dIf, at_dTest, at_dOp, at_dVar, at_dC, bnd_some, List.getElem?_cons_zero, List.getElem?_cons_succ, ptP, fIs, isNon, toB_p, at_dSeq, at_dDrop, at_dBM, ty, ty2, if_true, at_dCons, at_dNil, ap, seqK_nx, at_dCall, at_dComp, at_dIt, src, wipeD, List.set_cons_zero, List.set_cons_succ, cp, nl, wl, ex, encPt, Bool.false_eq_true, if_false, List.append_assoc]
end Kb
namespace Kb
open PySem PySem.Spec PyProof.Rows L2 Pv
def head1 (c : Chg) : List Int := wnd 60 c.au ++ wnd 60 c.nu
def head2 (c : Chg) : List Int := head1 c ++ encL (c.heard.map (wnd 60))
def head3 (c : Chg) : List Int := head2 c ++ encO c.cap
def head4 (c : Chg) : List Int := head3 c ++ encL (c.pubs.map encPb)
theorem head_len (c : Chg) (ok : OkC c) : (head1 c).length ≤ 200 ∧ (head2 c).length ≤ 1500 ∧ (head3 c).length ≤ 3000 ∧ (head4 c).length ≤ 15000 ∧ (encL (c.heard.map (wnd 60))).length ≤ 1000 ∧ (encL (c.pubs.map encPb)).length ≤ 11000 ∧ (c.heard.map (wnd 60)).flatten.length ≤ 610 ∧ (c.pubs.map encPb).flatten.length ≤ 10000 := by
  have a1 := wnd_len 60 c.au
  have a2 := wnd_len 60 c.nu
  have b1 := flat_bound (wnd 60) 61 c.heard fun x _ => wnd_len 60 x
  have b2 := encL_len (c.heard.map (wnd 60))
  have c1 := flat_bound encPb 1000 c.pubs fun x hx => encPb_len x (ok.pb x hx)
  have c2 := encL_len (c.pubs.map encPb)
  have d := ok.cap.e
  have e1 := ok.hl
  have e2 := ok.pl
  simp only [head1, head2, head3, head4, List.length_append]
  refine ⟨by omega, by omega, by omega, by omega, by omega, by omega, by omega, by omega⟩
theorem parts_loop (c : Chg) (ok : OkC c) (S : SH) : forL [0, 2] (srcP (c.parts.map ptP)).fin (gNm 2) (dIf (dTest (dOp (fIs false) (dVar 2) (dC .non)))
      (dDrop (dBM "list" fApp (dVar 1) (dCons (dC (.int 0)) dNil)))
      (dSeq (dDrop (dBM "list" fApp (dVar 1) (dCons (dC (.int 1)) dNil)))
    (dDrop (dBM "list" fExt (dVar 1) (dCons (dCall m_write_list (dCons (dComp false (dIt (dVar 2)) (gNm 4) dYes (dCall m_write_act (dCons (dVar 4) dNil)) [4]) dNil)) dNil))))) (srcP (c.parts.map ptP)).items [none, some (.ref S.os.length), none, none, none] ⟨S.os.length, S.os ++ [.lst ((intsP (head4 c)).map D.p)]⟩ =
    some (.nx [none, some (.ref S.os.length), none, none, none], ⟨S.os.length, S.os ++ [.lst ((intsP (encCh c)).map D.p)]⟩) := by
  have hh := head_len c ok
  have pe : ∀ p ∈ c.parts, (encPt p).length ≤ 30100 := fun p hp => by
    cases p with
    | none => simp [encPt]
    | some as =>
      obtain ⟨h1, h2, h3⟩ := ok.tb _ hp as rfl
      have := encL_len (as.map encA)
      simp only [encPt, List.length_append, List.length_cons, List.length_nil]
      omega
  have pf := flat_bound encPt 30100 c.parts pe
  have tl := ok.tl
  obtain ⟨σ', S', h1, rfl, rfl⟩ := p_inv (body := (dIf (dTest (dOp (fIs false) (dVar 2) (dC .non)))
      (dDrop (dBM "list" fApp (dVar 1) (dCons (dC (.int 0)) dNil)))
      (dSeq (dDrop (dBM "list" fApp (dVar 1) (dCons (dC (.int 1)) dNil)))
    (dDrop (dBM "list" fExt (dVar 1) (dCons (dCall m_write_list (dCons (dComp false (dIt (dVar 2)) (gNm 4) dYes (dCall m_write_act (dCons (dVar 4) dNil)) [4]) dNil)) dNil)))))) (ws := [0, 2]) (j := 2) (fun i σ S' => σ = [none, some (.ref S.os.length), none, none, none] ∧ S' = ⟨S.os.length, S.os ++ [.lst ((intsP (head4 c ++ ((c.parts.map encPt).take i).flatten)).map D.p)]⟩) (c.parts.map ptP)
    (σ := [none, some (.ref S.os.length), none, none, none]) (S := ⟨S.os.length, S.os ++ [.lst ((intsP (head4 c)).map D.p)]⟩) ⟨rfl, by simp⟩ (by
      rintro i q σ S1 hq ⟨rfl, rfl⟩
      rw [List.getElem?_map] at hq
      cases e : c.parts[i]? with
      | none => rw [e] at hq; cases hq
      | some p =>
      rw [e] at hq
      cases hq
      have hm := List.mem_of_getElem? e
      have e' : (c.parts.map encPt)[i]? = some (encPt p) := by rw [List.getElem?_map, e]; rfl
      have fl := flat_le (c.parts.map encPt) i
      obtain ⟨σ2, a, b⟩ := part_step S.os.length S.os (head4 c ++ ((c.parts.map encPt).take i).flatten) (by rw [List.length_append]; omega) p (ok.tb p hm)
      rw [List.append_assoc, ← flat_take _ e'] at a
      exact ⟨σ2, _, .inl a, b, rfl⟩)
  have el : (c.parts.map ptP).length = (c.parts.map encPt).length := by rw [List.length_map, List.length_map]
  rw [el, List.take_length] at h1
  exact h1
end Kb
namespace Kb
open PySem PySem.Spec PyProof.Rows L2 Pv
theorem wch_eq (c : Chg) (ok : OkC c) : Gives m_write_change (chgP c) (encCh c) := by
  intro S
  obtain ⟨z1, z2, z3, z4, y1, y2, y3, y4⟩ := head_len c ok
  have w1 := wnd_len 60 c.au
  have w2 := wnd_len 60 c.nu
  have hl := ok.hl
  have pl := ok.pl
  have oe := ok.cap.e
  have ev : ∀ v, startD 5 [.p v] = [some (.p v), none, none, none, none] := fun _ => rfl
  have fa : ∀ S, dFld [0] "author" (.p (chgP c)) S = some (.p (.int (c.au : Int)), S) := fun S => f_author _ _ _ _ _ _ S
  have fn : ∀ S, dFld [0] "number" (.p (chgP c)) S = some (.p (.int (c.nu : Int)), S) := fun S => f_number _ _ _ _ _ _ S
  have fh : ∀ S, dFld [0] "heard" (.p (chgP c)) S = some (.p (.tup (natsP c.heard)), S) := fun S => f_heard _ _ _ _ _ _ S
  have fc : ∀ S, dFld [0] "capability" (.p (chgP c)) S = some (.p (optP c.cap), S) := fun S => f_capability _ _ _ _ _ _ S
  have fp : ∀ S, dFld [0] "publics" (.p (chgP c)) S = some (.p (.tup (c.pubs.map pubP)), S) := fun S => f_publics _ _ _ _ _ _ S
  have ft : ∀ S, dFld [0] "parts" (.p (chgP c)) S = some (.p (.tup (c.parts.map ptP)), S) := fun S => f_parts _ _ _ _ _ _ S
  have a1 := add_t S.os.length S.os (wnd 60 c.au) (wnd 60 c.nu) (by omega)
  have σ1 : En := [some (.p (chgP c)), some (.ref S.os.length), none, none, none]
  have cp1 := fun T => comp_enc (j := 3) (m := m_write_number) (σ := [some (.p (chgP c)), some (.ref S.os.length), none, none, none]) (fun (n : Nat) => P.int (n : Int)) (wnd 60) c.heard (by omega) (by simp) (fun n hn => gives_wn n (ok.hb n hn)) T
  have cp2 := fun T => comp_enc (j := 4) (m := m_write_public) (σ := [some (.p (chgP c)), some (.ref S.os.length), none, none, none]) pubP encPb c.pubs (by omega) (by simp) (fun p hp => wp_eq p (ok.pb p hp)) T
  have nl1 := fun T => newL_f (S := T) (lstsP (c.heard.map (wnd 60))) (small (by unfold lstsP; rw [List.length_map, List.length_map]; omega))
  have nl2 := fun T => newL_f (S := T) (lstsP (c.pubs.map encPb)) (small (by unfold lstsP; rw [List.length_map, List.length_map]; omega))
  have wl1 := fun T => wl_eq (c.heard.map (wnd 60)) (by rw [List.length_map]; omega) (by omega) T
  have wl2 := fun T => wl_eq (c.pubs.map encPb) (by rw [List.length_map]; omega) (by omega) T
  have s1 : ∀ T, srcOf (.p (.tup (natsP c.heard))) T = some (srcP (c.heard.map fun (n : Nat) => P.int (n : Int)), T) := fun _ => rfl
  have s2 : ∀ T, srcOf (.p (.tup (c.pubs.map pubP))) T = some (srcP (c.pubs.map pubP), T) := fun _ => rfl
  have s3 : ∀ T, srcOf (.p (.tup (c.parts.map ptP))) T = some (srcP (c.parts.map ptP), T) := fun _ => rfl
  have t1 := isTy_ref (at_last S.os.length S.os (.lst ((intsP (head1 c)).map D.p)))
  have t2 := isTy_ref (at_last S.os.length S.os (.lst ((intsP (head2 c)).map D.p)))
  have t3 := isTy_ref (at_last S.os.length S.os (.lst ((intsP (head3 c)).map D.p)))
  have e1 := ext_last S.os.length S.os (head1 c) (encL (c.heard.map (wnd 60))) (by omega)
  have e2 := ext_last S.os.length S.os (head2 c) (encO c.cap) (by omega)
  have e3 := ext_last S.os.length S.os (head3 c) (encL (c.pubs.map encPb)) (by omega)
  have g1 : wnd 60 c.au ++ wnd 60 c.nu = head1 c := rfl
  have g2 : head1 c ++ encL (c.heard.map (wnd 60)) = head2 c := rfl
  have g3 : head2 c ++ encO c.cap = head3 c := rfl
  have g4 : head3 c ++ encL (c.pubs.map encPb) = head4 c := rfl
  rw [g1] at a1
  rw [g2] at e1
  rw [g3] at e2
  rw [g4] at e3
  have lp := parts_loop c ok S
  have e6 := frame_ref (S := S) (n := S.os.length) (S1 := ⟨S.os.length, S.os ++ [.lst ((intsP (encCh c)).map D.p)]⟩) (ps := intsP (encCh c)) (Nat.le_refl _) (at_last _ _ _)
  rw [cut_app] at e6
  unfold m_write_change
  rw [fn_at (k := 1) rfl, ev]
  simp only [at_dSeq, at_dSet, at_dOp, at_dCall, at_dCons, at_dUn, at_dVar, at_dNil, at_dDrop, at_dBM, at_dComp, at_dIt, at_dFor, at_dRet, bnd_some, seqK_nx, List.getElem?_cons_zero, List.getElem?_cons_succ, List.set_cons_zero, List.set_cons_succ, wipeD, fa, fn, fh, fc, fp, ft, wn_eq c.au ok.au, wn_eq c.nu ok.nu, a1, t1, t2, t3, if_true, s1, s2, s3, cp1, cp2, nl1, nl2, wl1, wl2, e1, e2, e3, wo_eq c.cap ok.cap.n _, lp, e6]
end Kb
namespace Kb
open PySem PySem.Spec PyProof.Rows L2 Pv
theorem enc_nats3 (a b l : Nat) : enc [a, b, l] = wnd 60 a ++ wnd 60 b ++ wnd 60 l := by
  simp [enc]
theorem map_wnd (l : List Nat) : (l.map (wnd 60)).flatten = enc l := rfl
/-- the acts of a part, one behind the other -/
theorem acts_loop (as : List Act) (hl : as.length ≤ 10) (hf : (as.map encA).flatten.length ≤ 30000) (ho : ∀ a ∈ as, OkA a) (acc : List Int) (hacc : acc.length ≤ 500000) (S : SH) : forL [0, 2, 3] (srcP (as.map actP)).fin (gNm 2) (dSet 1 (dOp (fAdd false) (dVar 1) (dCall m_act_bytes (dCons (dVar 2) dNil)))) (srcP (as.map actP)).items [none, some (.p (.lst (intsP acc))), none, none] S =
    some (.nx [none, some (.p (.lst (intsP (acc ++ (as.map encA).flatten)))), none, none], S) := by
  obtain ⟨σ', S', h1, rfl, rfl⟩ := p_inv (body := (dSet 1 (dOp (fAdd false) (dVar 1) (dCall m_act_bytes (dCons (dVar 2) dNil))))) (ws := [0, 2, 3]) (j := 2) (fun i σ S' => σ = [none, some (.p (.lst (intsP (acc ++ ((as.map encA).take i).flatten)))), none, none] ∧ S' = S) (as.map actP)
    (σ := [none, some (.p (.lst (intsP acc))), none, none]) (S := S) ⟨by simp, rfl⟩ (by
      rintro i q σ S1 hq ⟨rfl, rfl⟩
      rw [List.getElem?_map] at hq
      cases e : as[i]? with
      | none => rw [e] at hq; cases hq
      | some a =>
      rw [e] at hq
      cases hq
      have hm := ho a (List.mem_of_getElem? e)
      have e' : (as.map encA)[i]? = some (encA a) := by rw [List.getElem?_map, e]; rfl
      have fl := flat_at (as.map encA) e'
      have ad := add_l (acc ++ ((as.map encA).take i).flatten) (encA a) (by rw [List.length_append]; omega) S1
      rw [List.append_assoc, ← flat_take _ e'] at ad
      refine ⟨[none, some (.p (.lst (intsP (acc ++ ((as.map encA).take (i + 1)).flatten)))), some (.p (actP a)), none], S1, .inl ?_, rfl, rfl⟩
      simp only [at_dSet, at_dOp, at_dVar, at_dCall, at_dCons, at_dNil, bnd_some, List.set_cons_zero, List.set_cons_succ, List.getElem?_cons_zero, List.getElem?_cons_succ, ba_eq a hm _, ad])
  have el : (as.map actP).length = (as.map encA).length := by rw [List.length_map, List.length_map]
  rw [el, List.take_length] at h1
  exact h1
end Kb
namespace Kb
open PySem PySem.Spec PyProof.Rows L2 Pv
theorem pub_step (x : Option D) (p : Pub) (h : OkP p) (acc : List Int) (hacc : acc.length ≤ 500000) (S : SH) : (dIf (dTest (dOp (fEq false) (dOp fIx (dVar 2) (dC (.int 0))) (dC (.str "grant"))))
      (dSet 1 (dOp (fAdd false) (dOp (fAdd false) (dOp (fAdd false) (dVar 1) (dLst false (dCons (dC (.int 0)) dNil))) (dCall m_number (dCons (dOp fIx (dVar 2) (dC (.int 1))) dNil))) (dCall m_rights_bytes (dCons (dOp fIx (dVar 2) (dC (.int 2))) dNil))))
      (dIf (dTest (dOp (fEq false) (dOp fIx (dVar 2) (dC (.int 0))) (dC (.str "revoke"))))
      (dSet 1 (dOp (fAdd false) (dOp (fAdd false) (dVar 1) (dLst false (dCons (dC (.int 1)) dNil))) (dCall m_optional (dCons (dOp fIx (dVar 2) (dC (.int 1))) dNil))))
      (dSet 1 (dOp (fAdd false) (dVar 1) (dLst false (dCons (dC (.int 2)) dNil)))))) [x, some (.p (.lst (intsP acc))), some (.p (pubP p)), none] S =
    some (.nx [x, some (.p (.lst (intsP (acc ++ encPb p)))), some (.p (pubP p)), none], S) := by
  cases p with
  | grant m ts =>
    obtain ⟨hm, ht⟩ := h
    have z1 := wnd_len 60 m
    have z2 := encR_len ts
    have x0 := fun S => tix (ps := pubL (.grant m ts)) 0 (by decide) rfl S
    have x1 := fun S => tix (ps := pubL (.grant m ts)) 1 (by decide) rfl S
    have x2 := fun S => tix (ps := pubL (.grant m ts)) 2 (by decide) rfl S
    have q1 := eqw "grant" "grant" true (by decide)
    have n0 := one_l 0
    have a0 := fun S => add_l acc [0] (by simp only [List.length_cons, List.length_nil]; omega) S
    have a1 := fun S => add_l (acc ++ [0]) (wnd 60 m) (by simp only [List.length_append, List.length_cons, List.length_nil]; omega) S
    have a2 := fun S => add_l (acc ++ [0] ++ wnd 60 m) (encR ts) (by simp only [List.length_append, List.length_cons, List.length_nil]; omega) S
    simp only [pubP, at_dIf, at_dTest, at_dOp, at_dVar, at_dC, at_dSet, at_dLst, at_dCons, at_dNil, at_dCall, bnd_some, List.getElem?_cons_zero, List.getElem?_cons_succ, List.set_cons_zero, List.set_cons_succ, x0, x1, x2, q1, toB_p, if_true, n0, a0, nb_eq, a1, rb_eq ts ht _, a2]
    simp only [encPb, List.append_assoc]
  | revoke o =>
    have ho : OpS o := h
    have z1 := ho.e
    have x0 := fun S => tix (ps := pubL (.revoke o)) 0 (by decide) rfl S
    have x1 := fun S => tix (ps := pubL (.revoke o)) 1 (by decide) rfl S
    have q1 := eqw "revoke" "grant" false (by decide)
    have q2 := eqw "revoke" "revoke" true (by decide)
    have n1 := one_l 1
    have a0 := fun S => add_l acc [1] (by simp only [List.length_cons, List.length_nil]; omega) S
    have a1 := fun S => add_l (acc ++ [1]) (encO o) (by simp only [List.length_append, List.length_cons, List.length_nil]; omega) S
    simp only [pubP, at_dIf, at_dTest, at_dOp, at_dVar, at_dC, at_dSet, at_dLst, at_dCons, at_dNil, at_dCall, bnd_some, List.getElem?_cons_zero, List.getElem?_cons_succ, List.set_cons_zero, List.set_cons_succ, x0, x1, q1, q2, toB_p, if_true, Bool.false_eq_true, if_false, n1, a0, bo_eq o ho.n _, a1]
    simp only [encPb, List.append_assoc]
  | sl =>
    have x0 := fun S => tix (ps := pubL .sl) 0 (by decide) rfl S
    have q1 := eqw "seal" "grant" false (by decide)
    have q2 := eqw "seal" "revoke" false (by decide)
    have n2 := one_l 2
    have a0 := fun S => add_l acc [2] (by simp only [List.length_cons, List.length_nil]; omega) S
    simp only [pubP, at_dIf, at_dTest, at_dOp, at_dVar, at_dC, at_dSet, at_dLst, at_dCons, at_dNil, bnd_some, List.getElem?_cons_zero, List.getElem?_cons_succ, List.set_cons_zero, List.set_cons_succ, x0, q1, q2, toB_p, Bool.false_eq_true, if_false, n2, a0, encPb]
end Kb
namespace Kb
open PySem PySem.Spec PyProof.Rows L2 Pv
abbrev pubB : MS := (dIf (dTest (dOp (fEq false) (dOp fIx (dVar 2) (dC (.int 0))) (dC (.str "grant"))))
      (dSet 1 (dOp (fAdd false) (dOp (fAdd false) (dOp (fAdd false) (dVar 1) (dLst false (dCons (dC (.int 0)) dNil))) (dCall m_number (dCons (dOp fIx (dVar 2) (dC (.int 1))) dNil))) (dCall m_rights_bytes (dCons (dOp fIx (dVar 2) (dC (.int 2))) dNil))))
      (dIf (dTest (dOp (fEq false) (dOp fIx (dVar 2) (dC (.int 0))) (dC (.str "revoke"))))
      (dSet 1 (dOp (fAdd false) (dOp (fAdd false) (dVar 1) (dLst false (dCons (dC (.int 1)) dNil))) (dCall m_optional (dCons (dOp fIx (dVar 2) (dC (.int 1))) dNil))))
      (dSet 1 (dOp (fAdd false) (dVar 1) (dLst false (dCons (dC (.int 2)) dNil))))))
theorem pubs_loop (x : Option D) (ps : List Pub) (hl : ps.length ≤ 10) (ho : ∀ p ∈ ps, OkP p) (acc : List Int) (hacc : acc.length ≤ 100000) (S : SH) : forL [2, 3] (srcP (ps.map pubP)).fin (gNm 2) pubB (srcP (ps.map pubP)).items [x, some (.p (.lst (intsP acc))), none, none] S =
    some (.nx [x, some (.p (.lst (intsP (acc ++ (ps.map encPb).flatten)))), none, none], S) := by
  have fb := flat_bound encPb 1000 ps fun p hp => encPb_len p (ho p hp)
  obtain ⟨σ', S', h1, rfl, rfl⟩ := p_inv (body := pubB) (ws := [2, 3]) (j := 2) (fun i σ S' => σ = [x, some (.p (.lst (intsP (acc ++ ((ps.map encPb).take i).flatten)))), none, none] ∧ S' = S) (ps.map pubP)
    (σ := [x, some (.p (.lst (intsP acc))), none, none]) (S := S) ⟨by simp, rfl⟩ (by
      rintro i q σ S1 hq ⟨rfl, rfl⟩
      rw [List.getElem?_map] at hq
      cases e : ps[i]? with
      | none => rw [e] at hq; cases hq
      | some p =>
      rw [e] at hq
      cases hq
      have e' : (ps.map encPb)[i]? = some (encPb p) := by rw [List.getElem?_map, e]; rfl
      have fl := flat_le (ps.map encPb) i
      have st := pub_step x p (ho p (List.mem_of_getElem? e)) (acc ++ ((ps.map encPb).take i).flatten) (by rw [List.length_append]; omega) S1
      rw [List.append_assoc, ← flat_take _ e'] at st
      exact ⟨_, S1, .inl st, rfl, rfl⟩)
  have el : (ps.map pubP).length = (ps.map encPb).length := by rw [List.length_map, List.length_map]
  rw [el, List.take_length] at h1
  exact h1
end Kb
namespace Kb
open PySem PySem.Spec PyProof.Rows L2 Pv
abbrev ptB : MS := (dIf (dTest (dOp (fIs false) (dVar 3) (dC .non)))
      (dSet 1 (dOp (fAdd false) (dVar 1) (dLst false (dCons (dC (.int 0)) dNil))))
      (dSeq (dSet 1 (dOp (fAdd false) (dOp (fAdd false) (dVar 1) (dLst false (dCons (dC (.int 1)) dNil))) (dCall m_number (dCons (dCall fLen (dCons (dVar 3) dNil)) dNil))))
    (dFor [0, 2, 3] (dIt (dVar 3)) (gNm 2)
      (dSet 1 (dOp (fAdd false) (dVar 1) (dCall m_act_bytes (dCons (dVar 2) dNil)))))))
theorem pt_step (p : Option (List Act)) (hp : ∀ as, p = some as → as.length ≤ 10 ∧ (as.map encA).flatten.length ≤ 30000 ∧ ∀ a ∈ as, OkA a) (acc : List Int) (hacc : acc.length ≤ 400000) (S : SH) :
    ∃ σ2, ptB [none, some (.p (.lst (intsP acc))), none, some (.p (ptP p))] S = some (.nx σ2, S) ∧ wipeD [0, 2, 3] σ2 = [none, some (.p (.lst (intsP (acc ++ encPt p)))), none, none] := by
  cases p with
  | none =>
    have n0 := one_l 0
    have a0 := fun S => add_l acc [0] (by simp only [List.length_cons, List.length_nil]; omega) S
    refine ⟨[none, some (.p (.lst (intsP (acc ++ [0])))), none, some (.p .non)], ?_, rfl⟩
    simp only [at_dIf, at_dTest, at_dOp, at_dVar, at_dC, at_dSet, at_dLst, at_dCons, at_dNil, bnd_some, List.getElem?_cons_zero, List.getElem?_cons_succ, List.set_cons_zero, List.set_cons_succ, ptP, fIs, isNon, toB_p, if_true, n0, a0, Bool.false_eq_true, if_false]
  | some as =>
    obtain ⟨h1, h2, h3⟩ := hp as rfl
    have z := wnd_len 60 as.length
    have n1 := one_l 1
    have a0 := fun S => add_l acc [1] (by simp only [List.length_cons, List.length_nil]; omega) S
    have a1 := fun S => add_l (acc ++ [1]) (wnd 60 as.length) (by simp only [List.length_append, List.length_cons, List.length_nil]; omega) S
    have fl : ∀ S, fLen [.p (.tup (as.map actP))] S = some (.p (.int (as.length : Int)), S) := fun S => by rw [fLen_t, List.length_map]
    have lp := acts_loop as h1 h2 h3 (acc ++ [1] ++ wnd 60 as.length) (by simp only [List.length_append, List.length_cons, List.length_nil]; omega) S
    have src : ∀ S, srcOf (.p (.tup (as.map actP))) S = some (srcP (as.map actP), S) := fun _ => rfl
    refine ⟨[none, some (.p (.lst (intsP (acc ++ [1] ++ wnd 60 as.length ++ (as.map encA).flatten)))), none, none], ?_, ?_⟩
    · simp only [at_dIf, at_dTest, at_dOp, at_dVar, at_dC, at_dSet, at_dSeq, at_dLst, at_dCons, at_dNil, at_dCall, bnd_some, seqK_nx, List.getElem?_cons_zero, List.getElem?_cons_succ, List.set_cons_zero, List.set_cons_succ, ptP, fIs, isNon, toB_p, n1, a0, fl, nb_eq, a1, Bool.false_eq_true, if_false, at_dFor, at_dIt, src, wipeD, lp]
    · have e : acc ++ [1] ++ wnd 60 as.length ++ (as.map encA).flatten = acc ++ encPt (some as) := by
        simp only [encPt, encL, List.append_assoc, List.length_map]
      rw [e]
      rfl
end Kb
namespace Kb
open PySem PySem.Spec PyProof.Rows L2 Pv
theorem pts_loop (ps : List (Option (List Act))) (hl : ps.length ≤ 10) (ho : ∀ p ∈ ps, ∀ as, p = some as → as.length ≤ 10 ∧ (as.map encA).flatten.length ≤ 30000 ∧ ∀ a ∈ as, OkA a) (acc : List Int) (hacc : acc.length ≤ 20000) (S : SH) : forL [0, 2, 3] (srcP (ps.map ptP)).fin (gNm 3) ptB (srcP (ps.map ptP)).items [none, some (.p (.lst (intsP acc))), none, none] S =
    some (.nx [none, some (.p (.lst (intsP (acc ++ (ps.map encPt).flatten)))), none, none], S) := by
  have pe : ∀ p ∈ ps, (encPt p).length ≤ 30100 := fun p hp => by
    cases p with
    | none => simp [encPt]
    | some as =>
      obtain ⟨h1, h2, h3⟩ := ho _ hp as rfl
      have := encL_len (as.map encA)
      simp only [encPt, List.length_append, List.length_cons, List.length_nil]
      omega
  have pf := flat_bound encPt 30100 ps pe
  obtain ⟨σ', S', h1, rfl, rfl⟩ := p_inv (body := ptB) (ws := [0, 2, 3]) (j := 3) (fun i σ S' => σ = [none, some (.p (.lst (intsP (acc ++ ((ps.map encPt).take i).flatten)))), none, none] ∧ S' = S) (ps.map ptP)
    (σ := [none, some (.p (.lst (intsP acc))), none, none]) (S := S) ⟨by simp, rfl⟩ (by
      rintro i q σ S1 hq ⟨rfl, rfl⟩
      rw [List.getElem?_map] at hq
      cases e : ps[i]? with
      | none => rw [e] at hq; cases hq
      | some p =>
      rw [e] at hq
      cases hq
      have hm := List.mem_of_getElem? e
      have e' : (ps.map encPt)[i]? = some (encPt p) := by rw [List.getElem?_map, e]; rfl
      have fl := flat_le (ps.map encPt) i
      obtain ⟨σ2, a, b⟩ := pt_step p (ho p hm) (acc ++ ((ps.map encPt).take i).flatten) (by rw [List.length_append]; omega) S1
      rw [List.append_assoc, ← flat_take _ e'] at b
      exact ⟨σ2, S1, .inl a, b, rfl⟩)
  have el : (ps.map ptP).length = (ps.map encPt).length := by rw [List.length_map, List.length_map]
  rw [el, List.take_length] at h1
  exact h1
theorem cb_eq (c : Chg) (ok : OkC c) : Gives m_change_bytes (chgP c) (encCh c) := by
  intro S
  obtain ⟨z1, z2, z3, z4, y1, y2, y3, y4⟩ := head_len c ok
  have hl := ok.hl
  have pl := ok.pl
  have oe := ok.cap.e
  have ev : ∀ v, startD 4 [.p v] = [some (.p v), none, none, none] := fun _ => rfl
  have fa : ∀ S, dFld [0] "author" (.p (chgP c)) S = some (.p (.int (c.au : Int)), S) := fun S => f_author _ _ _ _ _ _ S
  have fn : ∀ S, dFld [0] "number" (.p (chgP c)) S = some (.p (.int (c.nu : Int)), S) := fun S => f_number _ _ _ _ _ _ S
  have fh : ∀ S, dFld [0] "heard" (.p (chgP c)) S = some (.p (.tup (natsP c.heard)), S) := fun S => f_heard _ _ _ _ _ _ S
  have fc : ∀ S, dFld [0] "capability" (.p (chgP c)) S = some (.p (optP c.cap), S) := fun S => f_capability _ _ _ _ _ _ S
  have fp : ∀ S, dFld [0] "publics" (.p (chgP c)) S = some (.p (.tup (c.pubs.map pubP)), S) := fun S => f_publics _ _ _ _ _ _ S
  have ft : ∀ S, dFld [0] "parts" (.p (chgP c)) S = some (.p (.tup (c.parts.map ptP)), S) := fun S => f_parts _ _ _ _ _ _ S
  have fl : ∀ S, fLen [.p (.tup (natsP c.heard))] S = some (.p (.int (c.heard.length : Int)), S) := fun S => by rw [fLen_t]; unfold natsP; rw [List.length_map]
  have fl2 : ∀ S, fLen [.p (.tup (c.pubs.map pubP))] S = some (.p (.int (c.pubs.length : Int)), S) := fun S => by rw [fLen_t, List.length_map]
  have n3 : ∀ S, newL false [.p (.int (c.au : Int)), .p (.int (c.nu : Int)), .p (.int (c.heard.length : Int))] S = some (.p (.lst (natsP [c.au, c.nu, c.heard.length])), S) := fun S => newL_f (natsP [c.au, c.nu, c.heard.length]) (small (by simp [natsP]))
  have w1 := fun S => nbs_eq (.lst (natsP [c.au, c.nu, c.heard.length])) [c.au, c.nu, c.heard.length] (.inl rfl) (by simp) S
  have w2 := fun S => nbs_eq (.tup (natsP c.heard)) c.heard (.inr rfl) (by omega) S
  have e1 : enc [c.au, c.nu, c.heard.length] ++ enc c.heard = head2 c := by
    rw [enc_nats3, ← map_wnd c.heard]
    simp only [head2, head1, encL, List.length_map, List.append_assoc]
  have l1 : (enc [c.au, c.nu, c.heard.length]).length + (enc c.heard).length ≤ 1500 := by rw [← List.length_append, e1]; exact z2
  have a1 := fun S => add_l (enc [c.au, c.nu, c.heard.length]) (enc c.heard) (by omega) S
  rw [e1] at a1
  have a2 := fun S => add_l (head2 c) (encO c.cap) (by omega) S
  have e2 : head2 c ++ encO c.cap = head3 c := rfl
  rw [e2] at a2
  have wl := wnd_len 60 c.pubs.length
  have a3 := fun S => add_l (head3 c) (wnd 60 c.pubs.length) (by omega) S
  have e3 : head3 c ++ wnd 60 c.pubs.length ++ (c.pubs.map encPb).flatten = head4 c := by
    simp only [head4, encL, List.length_map, List.append_assoc]
  have lp1 := fun x S => pubs_loop x c.pubs ok.pl ok.pb (head3 c ++ wnd 60 c.pubs.length) (by rw [List.length_append]; omega) S
  rw [e3] at lp1
  have lp2 := fun S => pts_loop c.parts ok.tl ok.tb (head4 c) (by omega) S
  have e4 : head4 c ++ (c.parts.map encPt).flatten = encCh c := rfl
  rw [e4] at lp2
  have s2 : ∀ T, srcOf (.p (.tup (c.pubs.map pubP))) T = some (srcP (c.pubs.map pubP), T) := fun _ => rfl
  have s3 : ∀ T, srcOf (.p (.tup (c.parts.map ptP))) T = some (srcP (c.parts.map ptP), T) := fun _ => rfl
  unfold m_change_bytes
  rw [fn_at (k := 1) rfl, ev]
  simp only [at_dSeq, at_dSet, at_dOp, at_dCall, at_dCons, at_dUn, at_dVar, at_dNil, at_dLst, at_dIt, at_dFor, at_dRet, bnd_some, seqK_nx, List.getElem?_cons_zero, List.getElem?_cons_succ, List.set_cons_zero, List.set_cons_succ, wipeD, fa, fn, fh, fc, fp, ft, fl, fl2, n3, w1, w2, a1, bo_eq c.cap ok.cap.n _, a2, nb_eq, a3, s2, s3, lp1, lp2, frame_p, cut_self]
end Kb
namespace Kb
open PySem PySem.Spec PyProof.Rows L2 Pv
/-! the change of a number -/
def heardN (n : Nat) : List Nat := (List.range (1 + n % 5)).map fun k => n / (k + 1) % 500
def pubsA (n : Nat) : List Pub := [.grant (n % 6) (rtsN n), .revoke none, .revoke (some (spotN n)), .sl]
def capN (n : Nat) : Option (List Nat) := if n % 3 = 1 then some (spotN (n / 3)) else none
def partsN (n : Nat) : List (Option (List Act)) := [none, some [], some [actN n n], some [actN (n + 1) (n / 3), actN (n + 5) n]]
def chgN (n : Nat) : Chg := ⟨n % (1 + n % 5), 1 + n % 1000, heardN n, capN n, (pubsA n).take (n / 5 % 5), partsN n⟩
theorem fSl_l {ps : List P} {lo hi : Option Int} {S : SH} {qs : List P} (e : cutD (ps.map D.p) lo hi = qs.map D.p) (h : qs.length ≤ sizeLine) : fSl false (.p (.lst ps)) lo hi S = some (.p (.lst qs), S) := by
  show newL false (cutD (ps.map D.p) lo hi) S = _
  rw [e, newL_f qs h]
theorem pubs_sl (n : Nat) (S : SH) : fSl false (.p (.lst ((pubsA n).map pubP))) none (some ((n / 5 % 5 : Nat) : Int)) S = some (.p (.lst (((pubsA n).take (n / 5 % 5)).map pubP)), S) := by
  have h : n / 5 % 5 = 0 ∨ n / 5 % 5 = 1 ∨ n / 5 % 5 = 2 ∨ n / 5 % 5 = 3 ∨ n / 5 % 5 = 4 := by omega
  rcases h with h | h | h | h | h <;> rw [h] <;> exact fSl_l rfl (small (by simp [pubsA]))
theorem encS_small (z : Str) (h : z.length ≤ 20) : (encS z).length ≤ 1300 := by
  unfold encS
  rw [List.length_append]
  have a := wnd_len 60 z.length
  have b := enc_len (cpsN z)
  rw [cpsN_len] at b
  omega
theorem str_add_len (a b : Str) : (a ++ b).length = a.length + b.length := by
  rw [← cpsN_len, cd_app, List.length_append, cpsN_len, cpsN_len]
theorem val_len (n : Nat) : (encV (valP n)).length ≤ 1400 := by
  have h := valP_mem n
  simp only [valL, List.mem_cons, List.mem_nil_iff, or_false] at h
  have ei := encI_len (n : Int)
  have ei2 := encI_len (-(n : Int))
  have ei3 := encI_len 0
  have es := encS_small (textS n) (Nat.le_trans (textS_len n) (by decide))
  rcases h with h | h | h | h | h | h | h <;> rw [h] <;> simp only [encV, List.length_cons, List.length_nil] <;> omega
theorem acts_enc (n : Nat) (hn : n ≤ 10000000) : ∀ a ∈ actsN n, (encA a).length ≤ 10000 := by
  intro a ha
  simp only [actsN, actsB, actsA, actsC, actsD, actsE, actsF, List.mem_append, List.mem_cons, List.mem_nil_iff, or_false, List.not_mem_nil] at ha
  have s1 := (spot_ok n).e
  have s2 := (spot_ok (n * 5 + 3)).e
  have l1 := (decS_ok (n % 1000) (Nat.mod_lt _ (by decide))).1
  have l2 := (decS_ok (n % 77) (Nat.lt_trans (Nat.mod_lt _ (by decide)) (by decide))).1
  have z1 : ("t" : Str).length = 1 := by decide +kernel
  have z2 : ("c_" : Str).length = 2 := by decide +kernel
  have e1 := encS_small ("t" ++ decS (n % 1000)) (by rw [str_add_len]; omega)
  have e2 := encS_small ("c_" ++ decS (n % 77)) (by rw [str_add_len]; omega)
  have e3 := encS_small (textS n) (Nat.le_trans (textS_len n) (by decide))
  have hh := (hold_ok n).e
  have to := (targ_ok n).e
  have mo := (mark_ok n hn).e
  have vl := val_len (n / 2)
  have ai := encI_len ((n : Int) - 5000)
  rcases ha with ((((ha | ha) | ha) | ha) | ha) | ha
  · rcases ha with rfl | rfl
    · simp only [encA, List.length_append, List.length_cons, List.length_nil]
      omega
    · simp only [encA, List.length_append, List.length_cons, List.length_nil]
      omega
  · subst ha
    have u1 := encL_len (((List.range (n % 4)).map fun k => spotN (n + k)).map enc)
    have u2 := flat_bound enc 610 ((List.range (n % 4)).map fun k => spotN (n + k)) (fun x hx => by
      obtain ⟨k, _, rfl⟩ := List.mem_map.mp hx
      exact (spot_ok _).e)
    rw [List.length_map, List.length_range] at u2
    simp only [encA, List.length_append, List.length_cons, List.length_nil]
    omega
  · rcases ha with rfl | rfl | rfl <;> simp only [encA, List.length_append, List.length_cons, List.length_nil] <;> omega
  · rcases ha with rfl | rfl <;> simp only [encA, List.length_append, List.length_cons, List.length_nil] <;> omega
  · rcases ha with rfl | rfl
    · simp only [encA, List.length_append, List.length_cons, List.length_nil]
      omega
    · have := enc_len [1, 2, 3, n]
      simp only [encA, List.length_append, List.length_cons, List.length_nil] at *
      omega
  · subst ha
    have := enc_len [n % 6, 1 + n]
    simp only [encA, List.length_append, List.length_cons, List.length_nil] at *
    omega
theorem enc_a (k n : Nat) (hn : n ≤ 10000000) : (encA (actN k n)).length ≤ 10000 := by
  unfold actN
  have h : k % 11 < (actsN n).length := by rw [acts_len]; omega
  rw [List.getD_eq_getElem?_getD, List.getElem?_eq_getElem h]
  exact acts_enc n hn _ (List.getElem_mem h)
theorem chg_ok (n : Nat) (hn : n ≤ 10000000) : OkC (chgN n) := by
  have s := spot_ok n
  refine ⟨?_, ?_, ?_, ?_, ?_, ?_, ?_, ?_, ?_⟩
  · exact big_of (by show n % (1 + n % 5) ≤ _; exact Nat.le_trans (Nat.mod_le _ _) (by omega))
  · exact big_of (by show 1 + n % 1000 ≤ _; omega)
  · show ((List.range (1 + n % 5)).map fun k => n / (k + 1) % 500).length ≤ 10
    rw [List.length_map, List.length_range]
    omega
  · intro x hx
    obtain ⟨k, _, rfl⟩ := List.mem_map.mp (show x ∈ (List.range (1 + n % 5)).map fun k => n / (k + 1) % 500 from hx)
    exact big_of (by omega)
  · show OpS (capN n)
    unfold capN
    split
    · exact spot_ok (n / 3)
    · trivial
  · show ((pubsA n).take (n / 5 % 5)).length ≤ 10
    exact Nat.le_trans (List.length_take_le' _ _) (by simp [pubsA])
  · intro p hp
    have hp' := List.mem_of_mem_take (show p ∈ (pubsA n).take (n / 5 % 5) from hp)
    simp only [pubsA, List.mem_cons, List.mem_nil_iff, or_false] at hp'
    rcases hp' with rfl | rfl | rfl | rfl
    · exact ⟨big_of (by omega), by simp [rtsN]⟩
    · trivial
    · exact s
    · trivial
  · show (partsN n).length ≤ 10
    simp [partsN]
  · intro p hp as e
    have hp' : p ∈ partsN n := hp
    subst e
    simp only [partsN, List.mem_cons, List.mem_nil_iff, or_false, Option.some.injEq, reduceCtorEq, false_or] at hp'
    have a1 := act_ok n n hn
    have a2 := act_ok (n + 1) (n / 3) (by omega)
    have a3 := act_ok (n + 5) n hn
    have b1 := enc_a n n hn
    have b2 := enc_a (n + 1) (n / 3) (by omega)
    have b3 := enc_a (n + 5) n hn
    rcases hp' with rfl | rfl | rfl
    · exact ⟨by simp, by simp, fun a ha => absurd ha (List.not_mem_nil)⟩
    · refine ⟨by simp, by simp only [List.map_cons, List.map_nil, List.flatten_cons, List.flatten_nil, List.append_nil]; omega, fun a ha => ?_⟩
      rw [List.mem_singleton.mp ha]
      exact a1
    · refine ⟨by simp, by simp only [List.map_cons, List.map_nil, List.flatten_cons, List.flatten_nil, List.append_nil, List.length_append]; omega, fun a ha => ?_⟩
      simp only [List.mem_cons, List.mem_nil_iff, or_false] at ha
      rcases ha with rfl | rfl
      · exact a2
      · exact a3
theorem mod_eq {n m : Nat} (hm : 0 < m) (S : SH) : fMod (.p (.int (n : Int))) (.p (.int (m : Int))) S = some (.p (.int ((n % m : Nat) : Int)), S) := by
  have h : (0 : Int) < (m : Int) := by omega
  refine (fII_eq _ _ _ _ S).trans ?_
  rw [if_pos (decide_eq_true h), Int.natCast_emod]
theorem change_eq (n : Nat) (S : SH) : m_change [.p (.int (n : Int))] S = some (.p (chgP (chgN n)), S) := by
  have e5 : 1 + (n : Int) % 5 = ((1 + n % 5 : Nat) : Int) := by omega
  have e6 : (n : Int) % 6 = ((n % 6 : Nat) : Int) := by omega
  have e55 : (n : Int) / 5 % 5 = ((n / 5 % 5 : Nat) : Int) := by omega
  have e3 : (n : Int) / 3 = ((n / 3 : Nat) : Int) := by omega
  have en1 : (n : Int) + 1 = ((n + 1 : Nat) : Int) := by omega
  have en5 : (n : Int) + 5 = ((n + 5 : Nat) : Int) := by omega
  have ek : 1 + (n : Int) % 1000 = ((1 + n % 1000 : Nat) : Int) := by omega
  have d5 : divOk (n : Int) 5 = true := divOk_c (by decide) (by decide)
  have d3 : divOk (n : Int) 3 = true := divOk_c (by decide) (by decide)
  have ev : startD 6 [.p (.int (n : Int))] = [some (.p (.int (n : Int))), none, none, none, none, none] := rfl
  have cp : ∀ T, compL (srcN 0 (1 + n % 5)).fin (gNm 5) dYes (dOp fMod (dOp fDiv (dVar 0) (dOp (fAdd false) (dVar 5) (dC (.int 1)))) (dC (.int 500))) [some (.p (.int (n : Int))), none, none, none, none, none] (srcN 0 (1 + n % 5)).items [] T = some ((natsP (heardN n)).map D.p, T) := fun T => by
    have q := comp_rng (S := T) (j := 5) (t := dYes) (elt := (dOp fMod (dOp fDiv (dVar 0) (dOp (fAdd false) (dVar 5) (dC (.int 1)))) (dC (.int 500)))) (σ := [some (.p (.int (n : Int))), none, none, none, none, none]) (fun _ => true) (fun k => D.p (.int ((n / (k + 1) % 500 : Nat) : Int))) (1 + n % 5) (small (by omega)) (fun k hk => ⟨rfl, fun _ => by
      have ej : (k : Int) + 1 = ((k + 1 : Nat) : Int) := by omega
      have dk : divOk (n : Int) ((k + 1 : Nat) : Int) = true := divOk_c (by omega) (by omega)
      have em : (n : Int) / ((k + 1 : Nat) : Int) % 500 = ((n / (k + 1) % 500 : Nat) : Int) := by
        rw [← Int.natCast_ediv]
        omega
      simp only [at_dOp, at_dVar, at_dC, bnd_some, List.set_cons_zero, List.set_cons_succ, List.getElem?_cons_zero, List.getElem?_cons_succ, fAdd_i, ej, fII_eq, dk, if_true, decide_eq_true_eq, Int.reduceLT, em]⟩)
    rw [q, List.filter_eq_self.mpr fun _ _ => rfl]
    show some ((List.range (1 + n % 5)).map _, T) = some ((((List.range (1 + n % 5)).map fun k => n / (k + 1) % 500).map fun (j : Nat) => P.int (j : Int)).map D.p, T)
    rw [List.map_map, List.map_map]
    rfl
  have hlen : (natsP (heardN n)).length = 1 + n % 5 := by unfold natsP heardN; rw [List.length_map, List.length_map, List.length_range]
  have nl := fun T => newL_f (S := T) (natsP (heardN n)) (small (by omega))
  have rz := fun T => srt_rng (S := T) (1 + n % 5) (by omega)
  have nm1 := fun T => newT_p (S := T) (pubL (.grant (n % 6) (rtsN n))) (small (by simp [pubL]))
  have nm1' : ∀ T, newT [.p (.str "grant"), .p (.int ((n % 6 : Nat) : Int)), .p (rtsP (rtsN n))] T = some (.p (pubP (.grant (n % 6) (rtsN n))), T) := nm1
  have nm2 := fun T => newT_p (S := T) (pubL (.revoke none)) (small (by simp [pubL]))
  have nm2' : ∀ T, newT [.p (.str "revoke"), .p .non] T = some (.p (pubP (.revoke none)), T) := nm2
  have nm3 := fun T => newT_p (S := T) (pubL (.revoke (some (spotN n)))) (small (by simp [pubL]))
  have nm3' : ∀ T, newT [.p (.str "revoke"), .p (.tup (natsP (spotN n)))] T = some (.p (pubP (.revoke (some (spotN n)))), T) := nm3
  have nm4 := fun T => newT_p (S := T) (pubL .sl) (small (by simp [pubL]))
  have nm4' : ∀ T, newT [.p (.str "seal")] T = some (.p (pubP .sl), T) := nm4
  have np := fun T => newL_f (S := T) ((pubsA n).map pubP) (small (by simp [pubsA]))
  have np' : ∀ T, newL false [.p (pubP (.grant (n % 6) (rtsN n))), .p (pubP (.revoke none)), .p (pubP (.revoke (some (spotN n)))), .p (pubP .sl)] T = some (.p (.lst ((pubsA n).map pubP)), T) := np
  have t0 : ∀ T, newT [] T = some (.p (ptP (some [])), T) := fun T => newT_p (S := T) [] (small (by simp))
  have t1 : ∀ T, newT [.p (actP (actN n n))] T = some (.p (ptP (some [actN n n])), T) := fun T => newT_p (S := T) [actP (actN n n)] (small (by simp))
  have t2 : ∀ T, newT [.p (actP (actN (n + 1) (n / 3))), .p (actP (actN (n + 5) n))] T = some (.p (ptP (some [actN (n + 1) (n / 3), actN (n + 5) n])), T) := fun T => newT_p (S := T) [actP (actN (n + 1) (n / 3)), actP (actN (n + 5) n)] (small (by simp))
  have tp : ∀ T, newL false [.p .non, .p (ptP (some [])), .p (ptP (some [actN n n])), .p (ptP (some [actN (n + 1) (n / 3), actN (n + 5) n]))] T = some (.p (.lst ((partsN n).map ptP)), T) := fun T => newL_f (S := T) ((partsN n).map ptP) (small (by simp [partsN]))
  have cst : ∀ (a b c : D) (T : SH), dIf (dTest (dOp (fEq false) (dOp fMod (dVar 0) (dC (.int 3))) (dC (.int 1))))
      (dSet 4 (dCall m_spot (dCons (dOp fDiv (dVar 0) (dC (.int 3))) dNil)))
      dNx [some (.p (.int (n : Int))), some a, some b, some c, some (.p .non), none] T = some (.nx [some (.p (.int (n : Int))), some a, some b, some c, some (.p (optP (capN n))), none], T) := by
    intro a b c T
    have fe : fEq false (.p (.int ((n : Int) % 3))) (.p (.int 1)) T = some (.p (.bl ((n : Int) % 3 == 1)), T) := by simp [fEq, okd, peq]
    by_cases c : n % 3 = 1
    · have c' : ((n : Int) % 3 == 1) = true := by
        rw [beq_iff_eq]
        omega
      rw [c'] at fe
      simp only [at_dIf, at_dTest, at_dOp, at_dVar, at_dC, at_dSet, at_dCall, at_dCons, at_dNil, bnd_some, List.getElem?_cons_zero, List.getElem?_cons_succ, fII_eq, d3, if_true, decide_eq_true_eq, Int.reduceLT, fe, toB_p, e3, spot_eq, List.set_cons_zero, List.set_cons_succ, capN, if_pos c, optP]
    · have c' : ((n : Int) % 3 == 1) = false := by
        rw [beq_eq_false_iff_ne]
        omega
      rw [c'] at fe
      simp only [at_dIf, at_dTest, at_dOp, at_dVar, at_dC, bnd_some, List.getElem?_cons_zero, List.getElem?_cons_succ, fII_eq, if_true, decide_eq_true_eq, Int.reduceLT, fe, toB_p, Bool.false_eq_true, if_false, at_dNx, capN, if_neg c, optP]
  have fl : ∀ T, fLen [.p (.lst (natsP (heardN n)))] T = some (.p (.int ((1 + n % 5 : Nat) : Int)), T) := fun T => by rw [fLen_l, hlen]
  have ma := fun T => mod_eq (n := n) (m := 1 + n % 5) (by omega) T
  unfold m_change
  rw [fn_at (k := 1) rfl, ev, at_dSeq]
  simp only [at_dSet, at_dComp, at_dRng1, at_dCons, at_dOp, at_dVar, at_dC, at_dNil, bnd_some, List.getElem?_cons_zero, fII_eq, fAdd_i, if_true, decide_eq_true_eq, Int.reduceLT, e5, rz, wipeD, List.set_cons_zero, List.set_cons_succ, cp, nl, seqK_nx]
  rw [at_dSeq]
  simp only [at_dSet, at_dLst, at_dTup, at_dCons, at_dOp, at_dVar, at_dC, at_dNil, at_dCall, bnd_some, List.getElem?_cons_zero, fII_eq, if_true, decide_eq_true_eq, Int.reduceLT, e6, ri_eq, spot_eq, nm1', nm2', nm3', nm4', np', seqK_nx, List.set_cons_zero, List.set_cons_succ]
  rw [at_dSeq]
  simp only [at_dSet, at_dLst, at_dTup, at_dCons, at_dOp, at_dVar, at_dC, at_dNil, at_dCall, bnd_some, List.getElem?_cons_zero, fII_eq, fAdd_i, d3, if_true, decide_eq_true_eq, Int.reduceLT, e3, en1, en5, act_eq, t0, t1, t2, tp, seqK_nx, List.set_cons_zero, List.set_cons_succ]
  rw [at_dSeq]
  simp only [at_dSet, at_dC, bnd_some, seqK_nx, List.set_cons_zero, List.set_cons_succ]
  rw [at_dSeq, cst, bnd_some, seqK_nx, at_dRet]
  have sl : ∀ T, dSl false (dVar 2) none (some (dOp fMod (dOp fDiv (dVar 0) (dC (.int 5))) (dC (.int 5)))) [some (.p (.int (n : Int))), some (.p (.lst (natsP (heardN n)))), some (.p (.lst ((pubsA n).map pubP))), some (.p (.lst ((partsN n).map ptP))), some (.p (optP (capN n))), none] T = some (.p (.lst (((pubsA n).take (n / 5 % 5)).map pubP)), T) := fun T => by
    rw [sl_hi (d := .p (.lst ((pubsA n).map pubP))) (i := ((n / 5 % 5 : Nat) : Int)) (S := T) rfl (by simp only [at_dOp, at_dVar, at_dC, bnd_some, List.getElem?_cons_zero, fII_eq, d5, if_true, decide_eq_true_eq, Int.reduceLT, e55]), pubs_sl]
  rw [mk_eq _ (.int ((n % (1 + n % 5) : Nat) : Int)) (.int ((1 + n % 1000 : Nat) : Int)) (optP (capN n)) (hd := natsP (heardN n)) (pb := ((pubsA n).take (n / 5 % 5)).map pubP) (pt := (partsN n).map ptP) (ha := by
    simp only [at_dCons, at_dOp, at_dVar, at_dC, at_dNil, at_dCall, bnd_some, List.getElem?_cons_zero, List.getElem?_cons_succ, fl, ma, fII_eq, fAdd_i, if_true, decide_eq_true_eq, Int.reduceLT, ek, sl]) (.inl rfl) (.inl rfl) (.inl rfl) (small (by omega)) (small (by rw [List.length_map]; exact Nat.le_trans (List.length_take_le' _ _) (by simp [pubsA]))) (small (by simp [partsN])) (fun p hp => by
      obtain ⟨o, _, rfl⟩ := List.mem_map.mp hp
      cases o <;> rfl)]
  simp only [bnd_some, frame_p, cut_self]
  rfl
end Kb
namespace Kb
open PySem PySem.Spec PyProof.Rows L2 Pv
/-! capabilities -/
def celN (n : Nat) : Option (List Nat) := if n % 2 = 0 then some (spotN (n + 9)) else none
def entL (n : Nat) : List P := [.tup (natsP (spotN n)), optP (celN n), .int ((n % 6 : Nat) : Int), rtsP (rtsN (n / 3))]
def entP (n : Nat) : P := .tup (entL n)
def encE (n : Nat) : List Int := enc (spotN n) ++ encO (celN n) ++ [((n % 6 : Nat) : Int)] ++ encR (rtsN (n / 3))
theorem wnd_small {n : Nat} (h : n < 128) : wnd 60 n = [(n : Int)] := by
  show (if n < 128 then [(n : Int)] else _) = _
  rw [if_pos h]
theorem cel_ok (n : Nat) : OpS (celN n) := by
  unfold celN
  split
  · exact spot_ok _
  · trivial
theorem entry_eq (n : Nat) (S : SH) : m_entry [.p (.int (n : Int))] S = some (.p (.tup [entP n, .lst (intsP (encE n))]), S) := by
  have e6 : (n : Int) % 6 = ((n % 6 : Nat) : Int) := by omega
  have e9 : (n : Int) + 9 = ((n + 9 : Nat) : Int) := by omega
  have e3 : (n : Int) / 3 = ((n / 3 : Nat) : Int) := by omega
  have d3 : divOk (n : Int) 3 = true := divOk_c (by decide) (by decide)
  have cst : ∀ (T : SH), dIf (dTest (dOp (fEq false) (dOp fMod (dVar 0) (dC (.int 2))) (dC (.int 0))))
      (dSet 1 (dCall m_spot (dCons (dOp (fAdd false) (dVar 0) (dC (.int 9))) dNil)))
      dNx [some (.p (.int (n : Int))), some (.p .non), none, none] T = some (.nx [some (.p (.int (n : Int))), some (.p (optP (celN n))), none, none], T) := by
    intro T
    have fe : fEq false (.p (.int ((n : Int) % 2))) (.p (.int 0)) T = some (.p (.bl ((n : Int) % 2 == 0)), T) := by simp [fEq, okd, peq]
    by_cases c : n % 2 = 0
    · have c' : ((n : Int) % 2 == 0) = true := by
        rw [beq_iff_eq]
        omega
      rw [c'] at fe
      simp only [at_dIf, at_dTest, at_dOp, at_dVar, at_dC, at_dSet, at_dCall, at_dCons, at_dNil, bnd_some, List.getElem?_cons_zero, List.getElem?_cons_succ, fII_eq, fAdd_i, if_true, decide_eq_true_eq, Int.reduceLT, fe, toB_p, e9, spot_eq, List.set_cons_zero, List.set_cons_succ, celN, if_pos c, optP]
    · have c' : ((n : Int) % 2 == 0) = false := by
        rw [beq_eq_false_iff_ne]
        omega
      rw [c'] at fe
      simp only [at_dIf, at_dTest, at_dOp, at_dVar, at_dC, bnd_some, List.getElem?_cons_zero, List.getElem?_cons_succ, fII_eq, if_true, decide_eq_true_eq, Int.reduceLT, fe, toB_p, Bool.false_eq_true, if_false, at_dNx, celN, if_neg c, optP]
  have ne : ∀ T, newT [.p (.tup (natsP (spotN n))), .p (optP (celN n)), .p (.int ((n % 6 : Nat) : Int)), .p (rtsP (rtsN (n / 3)))] T = some (.p (.tup (entL n)), T) := fun T => newT_p (S := T) (entL n) (small (by simp [entL]))
  have nr : ∀ T, newT [.p (.tup (entL n)), .p (.lst (intsP (encE n)))] T = some (.p (.tup [entP n, .lst (intsP (encE n))]), T) := fun T => newT_p (S := T) [entP n, .lst (intsP (encE n))] (small (by simp))
  have x0 := fun S => tix (ps := entL n) 0 (by decide) rfl S
  have x3 := fun S => tix (ps := entL n) 3 (by decide) rfl S
  have z1 := (spot_ok n).e
  have z2 := (cel_ok n).e
  have z3 := encR_len (rtsN (n / 3))
  have z4 : (rtsN (n / 3)).length = 4 := by simp [rtsN]
  have n0 := one_l ((n % 6 : Nat) : Int)
  have nb := fun T => nbs_eq (.tup (natsP (spotN n))) (spotN n) (.inr rfl) (by simp [spotN]) T
  have a1 := fun S => add_l (enc (spotN n)) (encO (celN n)) (by omega) S
  have a2 := fun S => add_l (enc (spotN n) ++ encO (celN n)) [((n % 6 : Nat) : Int)] (by simp only [List.length_append, List.length_cons, List.length_nil]; omega) S
  have a3 := fun S => add_l (enc (spotN n) ++ encO (celN n) ++ [((n % 6 : Nat) : Int)]) (encR (rtsN (n / 3))) (by simp only [List.length_append, List.length_cons, List.length_nil]; omega) S
  have ev : startD 4 [.p (.int (n : Int))] = [some (.p (.int (n : Int))), none, none, none] := rfl
  unfold m_entry
  rw [fn_at (k := 1) rfl, ev, at_dSeq]
  simp only [at_dSet, at_dC, bnd_some, seqK_nx, List.set_cons_zero, List.set_cons_succ]
  rw [at_dSeq, cst, bnd_some, seqK_nx]
  simp only [at_dSeq, at_dSet, at_dTup, at_dCons, at_dCall, at_dVar, at_dOp, at_dC, at_dNil, at_dLst, at_dRet, bnd_some, List.getElem?_cons_zero, List.getElem?_cons_succ, List.set_cons_zero, List.set_cons_succ, seqK_nx, fII_eq, d3, if_true, decide_eq_true_eq, Int.reduceLT, e6, e3, spot_eq, ri_eq, ne, x0, x3, nb, bo_eq (celN n) (cel_ok n).n _, n0, rb_eq (rtsN (n / 3)) (by omega) _, a1, a2, a3]
  rw [show enc (spotN n) ++ encO (celN n) ++ [((n % 6 : Nat) : Int)] ++ encR (rtsN (n / 3)) = encE n from rfl, nr, bnd_some]
  simp only [frame_p, cut_self]
theorem wcap_eq (n : Nat) : Gives m_write_capability (entP n) (encE n) := by
  intro S
  have z1 := (spot_ok n).e
  have z2 := (cel_ok n).e
  have z3 := encR_len (rtsN (n / 3))
  have z4 : (rtsN (n / 3)).length = 4 := by simp [rtsN]
  have sp := spot_ok n
  have wn := fun T => wns_eq (.tup (natsP (spotN n))) (spotN n) (.inr rfl) sp.big (by simp [spotN]) T
  have w6 := fun T => wn_eq (n % 6) (big_of (by omega)) T
  rw [wnd_small (show n % 6 < 128 by omega)] at w6
  have a1 := fun S => add_l (enc (spotN n)) (encO (celN n)) (by omega) S
  have a2 := fun S => add_l (enc (spotN n) ++ encO (celN n)) [((n % 6 : Nat) : Int)] (by simp only [List.length_append, List.length_cons, List.length_nil]; omega) S
  have a3 := fun S => add_l (enc (spotN n) ++ encO (celN n) ++ [((n % 6 : Nat) : Int)]) (encR (rtsN (n / 3))) (by simp only [List.length_append, List.length_cons, List.length_nil]; omega) S
  have ev : startD 5 [.p (entP n)] = [some (.p (.tup (entL n))), none, none, none, none] := rfl
  have el : (entL n).length = 4 := rfl
  have em : (entL n).map D.p = [.p (.tup (natsP (spotN n))), .p (optP (celN n)), .p (.int ((n % 6 : Nat) : Int)), .p (rtsP (rtsN (n / 3)))] := rfl
  unfold m_write_capability
  rw [fn_at (k := 1) rfl, ev]
  simp only [at_dSeq, at_dAsg, at_dVar, bnd_some, List.getElem?_cons_zero, at_gTp, el, if_true, em, at_gCn, at_gNm, at_gNl, List.set_cons_zero, List.set_cons_succ, seqK_nx, at_dRet, at_dOp, at_dCall, at_dCons, at_dNil, List.getElem?_cons_succ, wn, wo_eq (celN n) (cel_ok n).n _, w6, wr_eq (rtsN (n / 3)) (by omega) _, a1, a2, a3, frame_p, cut_self]
  rfl
end Kb
namespace Kb
open PySem PySem.Spec PyProof.Rows L2 Pv
/-! what is kept of a space -/
def pr (xs : List (P × P)) : List P := xs.map fun x => .tup [x.1, x.2]
theorem pr_len (xs : List (P × P)) : (pr xs).length = xs.length := List.length_map _
theorem comp_pair {i j : Nat} {elt : ME} {σ : En} {S : SH} (fv : P → P → D) (xs : List (P × P)) (hl : xs.length ≤ sizeLine) (h : ∀ x ∈ xs, elt ((σ.set i (some (.p x.1))).set j (some (.p x.2))) S = some (fv x.1 x.2, S)) : compL (srcP (pr xs)).fin (gTp 2 (gCn (gNm i) (gCn (gNm j) gNl))) dYes elt σ (srcP (pr xs)).items [] S = some (xs.map fun x => fv x.1 x.2, S) := by
  have cp := comp_all (t := dYes) (elt := elt) (g := gTp 2 (gCn (gNm i) (gCn (gNm j) gNl))) (fin := (srcP (pr xs)).fin) (S := S) (σ := σ) (fun _ => true) (fun x : P × P => fv x.1 x.2) (fun x (_ : SH) => some (D.p (.tup [x.1, x.2]))) rfl xs [] (by rw [List.length_nil, Nat.zero_add]; exact hl) (fun x hx => ⟨_, (σ.set i (some (.p x.1))).set j (some (.p x.2)), rfl, rfl, rfl, fun _ => h x hx⟩)
  have ei : (srcP (pr xs)).items = xs.map fun x (_ : SH) => some (D.p (.tup [x.1, x.2])) := by simp [srcP, pr]
  rw [← ei, List.filter_eq_self.mpr fun _ _ => rfl, List.nil_append] at cp
  exact cp
theorem comp_same {i j : Nat} {σ : En} {S : SH} (xs : List (P × P)) (hl : xs.length ≤ 1000) (hij : i ≠ j) (hi : i < σ.length) (hj : j < σ.length) : compL (srcP (pr xs)).fin (gTp 2 (gCn (gNm i) (gCn (gNm j) gNl))) dYes (dTup (dCons (dVar i) (dCons (dVar j) dNil))) σ (srcP (pr xs)).items [] S = some ((pr xs).map D.p, S) := by
  rw [comp_pair (fun a b => D.p (.tup [a, b])) xs (small (by omega)) (fun x _ => by
    have g1 : ((σ.set i (some (.p x.1))).set j (some (.p x.2)))[i]? = some (some (.p x.1)) := by
      rw [List.getElem?_set_ne hij.symm]
      exact List.getElem?_set_self hi
    have g2 : ((σ.set i (some (.p x.1))).set j (some (.p x.2)))[j]? = some (some (.p x.2)) := List.getElem?_set_self (by rw [List.length_set]; exact hj)
    simp only [at_dTup, at_dCons, at_dVar, at_dNil, g1, g2, bnd_some]
    exact newT_p (S := S) [x.1, x.2] (small (by simp)))]
  unfold pr
  rw [List.map_map]
  rfl
abbrev Tx2 := List (P × List (P × P))
def txs (ts : Tx2) : List (P × P) := ts.map fun t => (t.1, .lst (pr t.2))
theorem txs_len (ts : Tx2) : (txs ts).length = ts.length := List.length_map _
def kepG (as ss : List (P × P)) (ts : Tx2) : List (Str × P) := [("acts", .lst (pr as)), ("sums", .lst (pr ss)), ("texts", .lst (pr (txs ts)))]
def kepP (as ss : List (P × P)) (ts : Tx2) : P := .ins 1 (kepG as ss ts)
theorem kinit_eq (S : SH) (as ss : List (P × P)) (ts : Tx2) (l1 : as.length ≤ 100) (l2 : ss.length ≤ 100) (l3 : ts.length ≤ 100) (l4 : ∀ t ∈ ts, t.2.length ≤ 100) :
    m_Kept_init [.ref S.os.length, .p (.lst (pr as)), .p (.lst (pr ss)), .p (.lst (pr (txs ts)))] ⟨S.os.length, S.os ++ [.ins 1 []]⟩ = some (.p .non, ⟨S.os.length, S.os ++ [.ins 1 ((kepG as ss ts).map fun p => (p.1, .p p.2))]⟩) := by
  have c0 : ([1] : List Nat).contains 1 = true := by decide
  let σ0 : En := [some (.ref S.os.length), some (.p (.lst (pr as))), some (.p (.lst (pr ss))), some (.p (.lst (pr (txs ts)))), none, none, none, none, none, none, none]
  have ev : startD 11 [.ref S.os.length, .p (.lst (pr as)), .p (.lst (pr ss)), .p (.lst (pr (txs ts)))] = σ0 := rfl
  have it : ∀ (ps : List P) (T : SH), srcOf (.p (.lst ps)) T = some (srcP ps, T) := fun _ _ => rfl
  have cp1 := fun T => comp_same (i := 4) (j := 5) (σ := σ0) (S := T) as (by omega) (by decide) (show 4 < 11 by decide) (show 5 < 11 by decide)
  have cp2 := fun T => comp_same (i := 6) (j := 7) (σ := σ0) (S := T) ss (by omega) (by decide) (show 6 < 11 by decide) (show 7 < 11 by decide)
  have nl1 := fun T => newL_f (S := T) (pr as) (small (by rw [pr_len]; omega))
  have nl2 := fun T => newL_f (S := T) (pr ss) (small (by rw [pr_len]; omega))
  have nl3 := fun T => newL_f (S := T) (pr (txs ts)) (small (by rw [pr_len, txs_len]; omega))
  have cp3 : ∀ T, compL (srcP (pr (txs ts))).fin (gTp 2 (gCn (gNm 6) (gCn (gNm 8) gNl))) dYes (dTup (dCons (dVar 6) (dCons (dComp false (dIt (dVar 8)) (gTp 2 (gCn (gNm 9) (gCn (gNm 10) gNl))) dYes (dTup (dCons (dVar 9) (dCons (dVar 10) dNil))) [9, 10]) dNil))) σ0 (srcP (pr (txs ts))).items [] T = some ((pr (txs ts)).map D.p, T) := fun T => by
    rw [comp_pair (fun a b => D.p (.tup [a, b])) (txs ts) (small (by rw [txs_len]; omega)) (fun x hx => by
      obtain ⟨t, ht, rfl⟩ := List.mem_map.mp hx
      have c4 := fun T => comp_same (i := 9) (j := 10) (σ := [some (.ref S.os.length), some (.p (.lst (pr as))), some (.p (.lst (pr ss))), some (.p (.lst (pr (txs ts)))), none, none, some (.p t.1), none, some (.p (.lst (pr t.2))), none, none]) (S := T) t.2 (by have := l4 t ht; omega) (by decide) (show 9 < 11 by decide) (show 10 < 11 by decide)
      have nl4 := fun T => newL_f (S := T) (pr t.2) (small (by rw [pr_len]; have := l4 t ht; omega))
      have nt : ∀ T, newT [.p t.1, .p (.lst (pr t.2))] T = some (.p (.tup [t.1, .lst (pr t.2)]), T) := fun T => newT_p (S := T) [t.1, .lst (pr t.2)] (small (by simp))
      show (dTup (dCons (dVar 6) (dCons (dComp false (dIt (dVar 8)) (gTp 2 (gCn (gNm 9) (gCn (gNm 10) gNl))) dYes (dTup (dCons (dVar 9) (dCons (dVar 10) dNil))) [9, 10]) dNil))) [some (.ref S.os.length), some (.p (.lst (pr as))), some (.p (.lst (pr ss))), some (.p (.lst (pr (txs ts)))), none, none, some (.p t.1), none, some (.p (.lst (pr t.2))), none, none] T = _
      simp only [at_dTup, at_dCons, at_dVar, at_dNil, at_dComp, at_dIt, bnd_some, List.getElem?_cons_zero, List.getElem?_cons_succ, it, wipeD, List.set_cons_zero, List.set_cons_succ, c4, nl4, nt])]
    unfold pr
    rw [List.map_map]
    rfl
  have q1 : putFD "acts" (.p (.lst (pr as))) ([] : List (Str × D)) = ([("acts", .p (.lst (pr as)))] : List (Str × D)) := rfl
  have q2 : putFD "sums" (.p (.lst (pr ss))) ([("acts", .p (.lst (pr as)))] : List (Str × D)) = ([("acts", .p (.lst (pr as))), ("sums", .p (.lst (pr ss)))] : List (Str × D)) := rfl
  have q3 : putFD "texts" (.p (.lst (pr (txs ts)))) ([("acts", .p (.lst (pr as))), ("sums", .p (.lst (pr ss)))] : List (Str × D)) = ([("acts", .p (.lst (pr as))), ("sums", .p (.lst (pr ss))), ("texts", .p (.lst (pr (txs ts))))] : List (Str × D)) := rfl
  have sl : ∀ {f : Str} {v : P} {fs : List (Str × D)}, fs.length < 1000 → setFld [1] f (.ref S.os.length) (.p v) ⟨S.os.length, S.os ++ [.ins 1 fs]⟩ = some ⟨S.os.length, S.os ++ [.ins 1 (putFD f (.p v) fs)]⟩ := fun hl => setF_last c0 hl
  have w1 : wipeD [4, 5] σ0 = σ0 := rfl
  have w2 : wipeD [6, 7] σ0 = σ0 := rfl
  have w3 : wipeD [6, 8] σ0 = σ0 := rfl
  have v0 : σ0[0]? = some (some (.ref S.os.length)) := rfl
  have v1 : σ0[1]? = some (some (.p (.lst (pr as)))) := rfl
  have v2 : σ0[2]? = some (some (.p (.lst (pr ss)))) := rfl
  have v3 : σ0[3]? = some (some (.p (.lst (pr (txs ts))))) := rfl
  unfold m_Kept_init
  rw [fnL_at (k := 4) rfl, ev, at_dSeq]
  simp only [at_dSetF, at_dComp, at_dIt, at_dVar, v0, v1, v2, v3, w1, w2, w3, it, bnd_some, cp1, nl1]
  rw [sl (by simp only [List.length_nil]; omega), q1]
  simp only [bnd_some, seqK_nx]
  rw [at_dSeq]
  simp only [at_dSetF, at_dComp, at_dIt, at_dVar, v0, v1, v2, v3, w1, w2, w3, it, bnd_some, cp2, nl2]
  rw [sl (by simp only [List.length_cons, List.length_nil]; omega), q2]
  simp only [bnd_some, seqK_nx]
  simp only [at_dSetF, at_dComp, at_dIt, at_dVar, v0, v1, v2, v3, w1, w2, w3, it, bnd_some, cp3, nl3]
  rw [sl (by simp only [List.length_cons, List.length_nil]; omega), q3]
  rfl
theorem kmk_eq (S : SH) {a : MA} {σ : En} (as ss : List (P × P)) (ts : Tx2) (ha : a σ S = some ([.p (.lst (pr as)), .p (.lst (pr ss)), .p (.lst (pr (txs ts)))], S)) (l1 : as.length ≤ 100) (l2 : ss.length ≤ 100) (l3 : ts.length ≤ 100) (l4 : ∀ t ∈ ts, t.2.length ≤ 100) :
    dMake false 1 m_Kept_init a σ S = some (.p (kepP as ss ts), S) := by
  rw [at_dMakeF, ha, bnd_some, kinit_eq S as ss ts l1 l2 l3 l4, bnd_some]
  have e := out_ins (k := S.os.length) (c := 1) (n := S.os.length) (S1 := ⟨S.os.length, S.os ++ [.ins 1 ((kepG as ss ts).map fun p => (p.1, .p p.2))]⟩) (gs := kepG as ss ts) (Nat.le_refl _) (at_last _ _ _)
  dsimp only
  rw [e]
  dsimp only
  rw [cut_app]
  rfl
end Kb
namespace Kb
open PySem PySem.Spec PyProof.Rows L2 Pv
/-! loops over a list that may change -/
section
variable {body : MS} {ws : List Nat}
theorem src_r {n : Nat} {ds : List D} {S : SH} (h : S.os[n]? = some (.lst ds)) : srcOf (.ref n) S = some (srcR n ds.length, S) := by
  unfold srcOf
  dsimp only
  rw [h]
theorem len_r {n : Nat} {ds : List D} {S : SH} (h : S.os[n]? = some (.lst ds)) : fLen [.ref n] S = some (.p (.int ds.length), S) := by
  have ea : asQ (.ref n) S = some ds := by
    unfold asQ
    dsimp only
    rw [h]
  unfold fLen
  dsimp only
  rw [ea]
theorem item_r {n i : Nat} {ds : List D} {d : D} {S : SH} (h : S.os[n]? = some (.lst ds)) (hd : ds[i]? = some d) : itemR n ds.length i S = some d := by
  unfold itemR
  rw [h]
  dsimp only
  rw [if_pos rfl, hd]
theorem fin_r {n : Nat} {ds : List D} {S : SH} (h : S.os[n]? = some (.lst ds)) : (srcR n ds.length).fin S = true := by
  show finR n ds.length S = true
  unfold finR
  rw [h]
  dsimp only
  rw [decide_eq_true rfl]
theorem r_inv {g : MG} (J : Nat → En → SH → Prop) (n : Nat) (ds : List D) {σ : En} {S : SH} (h0 : J 0 σ S) (hk : ∀ i σ S, J i σ S → S.os[n]? = some (.lst ds))
    (h : ∀ i d σ S, ds[i]? = some d → J i σ S → ∃ σ1, g d σ S = some (σ1, S) ∧ ∃ σ2 S2, (body σ1 S = some (.nx σ2, S2) ∨ body σ1 S = some (.ct σ2, S2)) ∧ J (i + 1) (wipeD ws σ2) S2) :
    ∃ σ' S', forL ws (srcR n ds.length).fin g body (srcR n ds.length).items σ S = some (.nx σ', S') ∧ J ds.length σ' S' := by
  have hl : (srcR n ds.length).items.length = ds.length := by simp [srcR]
  have q := forL_inv (body := body) (ws := ws) (g := g) (fin := (srcR n ds.length).fin) J (srcR n ds.length).items 0 σ S h0 (fun σ S hj => fin_r (hk _ σ S hj)) fun i it σ S hi hj => by
    simp only [srcR, List.getElem?_map] at hi
    cases e : (List.range ds.length)[i]? with
    | none => rw [e] at hi; cases hi
    | some i' =>
      rw [e] at hi
      cases hi
      obtain ⟨h1, h2⟩ := List.getElem?_eq_some_iff.mp e
      rw [List.getElem_range] at h2
      subst h2
      rw [List.length_range] at h1
      rw [Nat.zero_add] at hj ⊢
      have hd : ds[i]? = some ds[i] := List.getElem?_eq_getElem h1
      obtain ⟨σ1, a0, σ2, S2, a, b⟩ := h i ds[i] σ S hd hj
      exact ⟨_, σ1, S, item_r (hk _ _ _ hj) hd, a0, σ2, S2, a, b⟩
  rw [hl, Nat.zero_add] at q
  exact q
/-- a comprehension that changes nothing over a list that may change -/
theorem comp_r {elt : ME} {σ : En} {S : SH} {j : Nat} {n : Nat} (ds : List D) (fv : D → D) (hl : ds.length ≤ sizeLine) (hn : S.os[n]? = some (.lst ds)) (h : ∀ d ∈ ds, elt (σ.set j (some d)) S = some (fv d, S)) :
    compL (srcR n ds.length).fin (gNm j) dYes elt σ (srcR n ds.length).items [] S = some (ds.map fv, S) := by
  have cp := comp_all (t := dYes) (elt := elt) (g := gNm j) (fin := (srcR n ds.length).fin) (S := S) (σ := σ) (fun _ => true) (fun i : Nat => fv (ds.getD i (.p .non))) (itemR n ds.length) (fin_r hn) (List.range ds.length) [] (by rw [List.length_nil, Nat.zero_add, List.length_range]; exact hl) (fun i hi => by
    have h1 : i < ds.length := List.mem_range.mp hi
    have hd : ds[i]? = some ds[i] := List.getElem?_eq_getElem h1
    refine ⟨ds[i], _, item_r hn hd, rfl, rfl, fun _ => ?_⟩
    rw [List.getD_eq_getElem?_getD, hd]
    exact h _ (List.getElem_mem h1))
  have ei : (srcR n ds.length).items = (List.range ds.length).map (itemR n ds.length) := rfl
  rw [← ei, List.filter_eq_self.mpr fun _ _ => rfl, List.nil_append] at cp
  rw [cp]
  congr 2
  refine List.ext_getElem? fun i => ?_
  rw [List.getElem?_map, List.getElem?_map]
  by_cases hi : i < ds.length
  · rw [List.getElem?_range hi, List.getElem?_eq_getElem hi]
    simp only [Option.map_some, List.getD_eq_getElem?_getD, List.getElem?_eq_getElem hi, Option.getD_some]
  · rw [List.getElem?_eq_none (by rw [List.length_range]; omega), List.getElem?_eq_none (by omega)]
    rfl
end
/-- write_list of a list that may change -/
theorem wlr_eq (ls : List (List Int)) (hn : ls.length < 100000) (hf : ls.flatten.length ≤ 900000) (S : SH) (m : Nat) (hm : S.os[m]? = some (.lst ((lstsP ls).map D.p))) : m_write_list [.ref m] S = some (.p (.lst (intsP (encL ls))), S) := by
  have hl : ((lstsP ls).map D.p).length = ls.length := by rw [List.length_map]; exact List.length_map _
  have z0 := wnd_len 60 ls.length
  have hms : m < S.os.length := by
    by_cases h : m < S.os.length
    · exact h
    · rw [List.getElem?_eq_none (by omega)] at hm
      cases hm
  have hk : ∀ (b : Nat) (os : List Ob), (SH.mk b (S.os ++ os)).os[m]? = some (.lst ((lstsP ls).map D.p)) := fun b os => by
    show (S.os ++ os)[m]? = _
    rw [List.getElem?_append_left hms, hm]
  obtain ⟨σ', S', h1, rfl, rfl⟩ := r_inv (g := gNm 2) (body := (dDrop (dBM "list" fExt (dVar 1) (dCons (dVar 2) dNil)))) (ws := [0, 2]) (fun i σ S' => σ = [none, some (.ref S.os.length), none] ∧ S' = ⟨S.os.length, S.os ++ [.lst ((intsP (wnd 60 ls.length ++ (ls.take i).flatten)).map D.p)]⟩) m ((lstsP ls).map D.p)
    (σ := [none, some (.ref S.os.length), none]) (S := ⟨S.os.length, S.os ++ [.lst ((intsP (wnd 60 ls.length)).map D.p)]⟩) ⟨rfl, by simp⟩ (by
      rintro i σ S1 ⟨rfl, rfl⟩
      exact hk _ _) (by
      rintro i q σ S1 hq ⟨rfl, rfl⟩
      unfold lstsP at hq
      rw [List.getElem?_map, List.getElem?_map] at hq
      cases e : ls[i]? with
      | none => rw [e] at hq; cases hq
      | some a =>
      rw [e] at hq
      cases hq
      have ty := isTy_ref (at_last S.os.length S.os (.lst ((intsP (wnd 60 ls.length ++ (ls.take i).flatten)).map D.p)))
      have z1 := flat_at ls e
      have ex := ext_last S.os.length S.os (wnd 60 ls.length ++ (ls.take i).flatten) a (by rw [List.length_append]; omega)
      rw [List.append_assoc, ← flat_take ls e] at ex
      refine ⟨_, rfl, [none, some (.ref S.os.length), some (.p (.lst (intsP a)))], _, .inl ?_, rfl, rfl⟩
      simp only [at_dDrop, at_dBM, at_dVar, at_dCons, at_dNil, bnd_some, List.set_cons_zero, List.set_cons_succ, List.getElem?_cons_zero, List.getElem?_cons_succ, ty, if_true, ex])
  rw [hl, List.take_length] at h1
  have wl := wnL_eq ls.length (Nat.lt_trans hn (by decide)) ⟨S.os.length, S.os⟩
  have src : ∀ os, srcOf (.ref m) ⟨S.os.length, S.os ++ os⟩ = some (srcR m ls.length, ⟨S.os.length, S.os ++ os⟩) := fun os => by
    rw [← hl]
    exact src_r (hk _ _)
  have ln : fLen [.ref m] ⟨S.os.length, S.os⟩ = some (.p (.int (ls.length : Int)), ⟨S.os.length, S.os⟩) := by
    rw [len_r (S := ⟨S.os.length, S.os⟩) (ds := (lstsP ls).map D.p) hm, hl]
  have h1' : forL [0, 2] (srcR m ls.length).fin (gNm 2) (dDrop (dBM "list" fExt (dVar 1) (dCons (dVar 2) dNil))) (srcR m ls.length).items [none, some (.ref S.os.length), none] ⟨S.os.length, S.os ++ [.lst ((intsP (wnd 60 ls.length)).map D.p)]⟩ = some (.nx [none, some (.ref S.os.length), none], ⟨S.os.length, S.os ++ [.lst ((intsP (encL ls)).map D.p)]⟩) := h1
  have ev : startD 3 [.ref m] = [some (.ref m), none, none] := rfl
  unfold m_write_list
  rw [fn_at (k := 1) rfl, ev]
  simp only [at_dSeq, at_dSet, at_dCall, at_dCons, at_dNil, at_dVar, bnd_some, seqK_nx, at_dFor, at_dIt, List.set_cons_zero, List.set_cons_succ, List.getElem?_cons_zero, List.getElem?_cons_succ, ln, wl, src, wipeD, h1', at_dRet]
  rw [frame_ref (Nat.le_refl _) (at_last _ _ _), cut_app]
end Kb
namespace Kb
open PySem PySem.Spec PyProof.Rows L2 Pv
/-! write_kept -/
def ordS (z : Str) : Nat := z.cps.getD 0 0
theorem ord_eq {z : Str} (h : z.length = 1) (S : SH) : fOrd [.p (.str z)] S = some (.p (.int ((ordS z : Nat) : Int)), S) := by
  unfold fOrd
  exact if_pos h
abbrev Cel := List Nat × List Nat
abbrev Chr := List Nat × Str
def cel (c : Cel) : P := .tup [.tup (natsP c.1), .tup (natsP c.2)]
structure Kp where
  acts : List (List Nat × Act)
  sums : List (Cel × Int)
  texts : List (Cel × List Chr)
def chrP (l : List Chr) : List (P × P) := l.map fun y => (.tup (natsP y.1), .str y.2)
def kpA (k : Kp) : List (P × P) := k.acts.map fun x => (.tup (natsP x.1), actP x.2)
def kpS (k : Kp) : List (P × P) := k.sums.map fun x => (cel x.1, .int x.2)
def kpT (k : Kp) : Tx2 := k.texts.map fun x => (cel x.1, chrP x.2)
def kpP (k : Kp) : P := kepP (kpA k) (kpS k) (kpT k)
def encY (y : Chr) : List Int := enc y.1 ++ wnd 60 (ordS y.2)
def encKA (x : List Nat × Act) : List Int := enc x.1 ++ encA x.2
def encKS (x : Cel × Int) : List Int := enc x.1.1 ++ enc x.1.2 ++ encI x.2
def encKT (x : Cel × List Chr) : List Int := enc x.1.1 ++ enc x.1.2 ++ encL (x.2.map encY)
def encK (k : Kp) : List Int := encL (k.acts.map encKA) ++ encL (k.sums.map encKS) ++ encL (k.texts.map encKT)
structure OkY (y : Chr) : Prop where
  s : Spt y.1
  l : y.2.length = 1
  b : ordS y.2 < Big
structure OkK (k : Kp) : Prop where
  al : k.acts.length ≤ 3
  ab : ∀ x ∈ k.acts, Spt x.1 ∧ OkA x.2 ∧ (encA x.2).length ≤ 10000
  sl : k.sums.length ≤ 3
  sb : ∀ x ∈ k.sums, Spt x.1.1 ∧ Spt x.1.2 ∧ x.2.natAbs < Big
  tl : k.texts.length ≤ 3
  tb : ∀ x ∈ k.texts, Spt x.1.1 ∧ Spt x.1.2 ∧ x.2.length ≤ 3 ∧ ∀ y ∈ x.2, OkY y
theorem encY_len (y : Chr) (h : OkY y) : (encY y).length ≤ 700 := by
  have := h.s.e
  have := wnd_len 60 (ordS y.2)
  simp only [encY, List.length_append]
  omega
theorem chr_len (l : List Chr) (hl : l.length ≤ 3) (h : ∀ y ∈ l, OkY y) : (l.map encY).flatten.length ≤ 2100 ∧ (encL (l.map encY)).length ≤ 2200 := by
  have a := flat_bound encY 700 l fun y hy => encY_len y (h y hy)
  have b := encL_len (l.map encY)
  omega
theorem wch_chars (l : List Chr) (hl : l.length ≤ 3) (h : ∀ y ∈ l, OkY y) : Gives m_write_characters (.lst (pr (chrP l))) (encL (l.map encY)) := by
  intro S
  have ev : startD 3 [.p (.lst (pr (chrP l)))] = [some (.p (.lst (pr (chrP l)))), none, none] := rfl
  have it : ∀ (ps : List P) (T : SH), srcOf (.p (.lst ps)) T = some (srcP ps, T) := fun _ _ => rfl
  have cl := chr_len l hl h
  have cp : ∀ T, compL (srcP (pr (chrP l))).fin (gTp 2 (gCn (gNm 1) (gCn (gNm 2) gNl))) dYes (dOp (fAdd false) (dCall m_write_numbers (dCons (dVar 1) dNil)) (dCall m_write_number (dCons (dCall fOrd (dCons (dVar 2) dNil)) dNil))) [some (.p (.lst (pr (chrP l)))), none, none] (srcP (pr (chrP l))).items [] T = some ((lstsP (l.map encY)).map D.p, T) := fun T => by
    have q := comp_all (t := dYes) (elt := (dOp (fAdd false) (dCall m_write_numbers (dCons (dVar 1) dNil)) (dCall m_write_number (dCons (dCall fOrd (dCons (dVar 2) dNil)) dNil)))) (g := gTp 2 (gCn (gNm 1) (gCn (gNm 2) gNl))) (fin := (srcP (pr (chrP l))).fin) (S := T) (σ := [some (.p (.lst (pr (chrP l)))), none, none]) (fun _ => true) (fun y : Chr => D.p (.lst (intsP (encY y)))) (fun y (_ : SH) => some (D.p (.tup [.tup (natsP y.1), .str y.2]))) rfl l [] (by rw [List.length_nil]; exact small (by omega)) (fun y hy => ⟨_, [some (.p (.lst (pr (chrP l)))), some (.p (.tup (natsP y.1))), some (.p (.str y.2))], rfl, rfl, rfl, fun _ => by
      have o := h y hy
      have w1 := fun T => wns_eq (.tup (natsP y.1)) y.1 (.inr rfl) o.s.big o.s.n.len T
      have z := o.s.e
      have z2 := wnd_len 60 (ordS y.2)
      have a := fun T => add_l (enc y.1) (wnd 60 (ordS y.2)) (by omega) T
      simp only [at_dOp, at_dCall, at_dCons, at_dVar, at_dNil, bnd_some, List.getElem?_cons_zero, List.getElem?_cons_succ, w1, ord_eq o.l, wn_eq _ o.b, a]
      rfl⟩)
    have ei : (srcP (pr (chrP l))).items = l.map fun y (_ : SH) => some (D.p (.tup [.tup (natsP y.1), .str y.2])) := by simp [srcP, pr, chrP]
    rw [← ei, List.filter_eq_self.mpr fun _ _ => rfl, List.nil_append] at q
    rw [q]
    unfold lstsP
    rw [List.map_map, List.map_map]
    rfl
  have nl := fun T => newL_f (S := T) (lstsP (l.map encY)) (small (by unfold lstsP; rw [List.length_map, List.length_map]; omega))
  have wl := fun T => wl_eq (l.map encY) (by rw [List.length_map]; omega) (by omega) T
  unfold m_write_characters
  rw [fn_at (k := 1) rfl, ev]
  simp only [at_dRet, at_dCall, at_dCons, at_dComp, at_dIt, at_dVar, at_dNil, bnd_some, List.getElem?_cons_zero, it, wipeD, List.set_cons_zero, List.set_cons_succ, cp, nl, wl, frame_p, cut_self]
theorem k_len (k : Kp) (ok : OkK k) : (k.acts.map encKA).flatten.length ≤ 32000 ∧ (k.sums.map encKS).flatten.length ≤ 4000 ∧ (k.texts.map encKT).flatten.length ≤ 11000 ∧ (encK k).length ≤ 50000 := by
  have a1 := flat_bound encKA 10610 k.acts fun x hx => by
    obtain ⟨s, _, e⟩ := ok.ab x hx
    have := s.e
    simp only [encKA, List.length_append]
    omega
  have a2 := flat_bound encKS 1300 k.sums fun x hx => by
    obtain ⟨s, t, e⟩ := ok.sb x hx
    have := s.e
    have := t.e
    have := encI_len x.2
    simp only [encKS, List.length_append]
    omega
  have a3 := flat_bound encKT 3500 k.texts fun x hx => by
    obtain ⟨s, t, l, e⟩ := ok.tb x hx
    have := s.e
    have := t.e
    have := (chr_len x.2 l e).2
    simp only [encKT, List.length_append]
    omega
  have b1 := encL_len (k.acts.map encKA)
  have b2 := encL_len (k.sums.map encKS)
  have b3 := encL_len (k.texts.map encKT)
  have := ok.al
  have := ok.sl
  have := ok.tl
  simp only [encK, List.length_append]
  refine ⟨by omega, by omega, by omega, by omega⟩
end Kb
namespace Kb
open PySem PySem.Spec PyProof.Rows L2 Pv
theorem p_invg {body : MS} {ws : List Nat} {g : MG} (J : Nat → En → SH → Prop) (ps : List P) {σ : En} {S : SH} (h0 : J 0 σ S)
    (h : ∀ i p σ S, ps[i]? = some p → J i σ S → ∃ σ1, g (.p p) σ S = some (σ1, S) ∧ ∃ σ2 S2, (body σ1 S = some (.nx σ2, S2) ∨ body σ1 S = some (.ct σ2, S2)) ∧ J (i + 1) (wipeD ws σ2) S2) :
    ∃ σ' S', forL ws (srcP ps).fin g body (srcP ps).items σ S = some (.nx σ', S') ∧ J ps.length σ' S' := by
  have hl : (srcP ps).items.length = ps.length := by simp [srcP]
  have q := forL_inv (body := body) (ws := ws) (g := g) (fin := (srcP ps).fin) J (srcP ps).items 0 σ S h0 (fun _ _ _ => rfl) fun i it σ S hi hj => by
    simp only [srcP, List.getElem?_map] at hi
    cases e : ps[i]? with
    | none => rw [e] at hi; cases hi
    | some p =>
      rw [e] at hi
      cases hi
      rw [Nat.zero_add] at hj ⊢
      obtain ⟨σ1, a0, σ2, S2, a, b⟩ := h i p σ S e hj
      exact ⟨_, σ1, S, rfl, a0, σ2, S2, a, b⟩
  rw [hl, Nat.zero_add] at q
  exact q
theorem app_ls (b : Nat) (os : List Ob) (ls : List (List Int)) (a : List Int) (hl : ls.length ≤ 100000) : fApp [.ref os.length, .p (.lst (intsP a))] ⟨b, os ++ [.lst ((lstsP ls).map D.p)]⟩ = some (.p .non, ⟨b, os ++ [.lst ((lstsP (ls ++ [a])).map D.p)]⟩) := by
  have e : ((lstsP ls).map D.p).length = ls.length := by rw [List.length_map]; exact List.length_map _
  rw [fApp_p (at_last b os _) (by rw [e]; have := line_ge; omega), put_last]
  simp only [lstsP, List.map_append]
  rfl
theorem wk_eq (k : Kp) (ok : OkK k) : Gives m_write_kept (kpP k) (encK k) := by
  intro S
  obtain ⟨f1, f2, f3, f4⟩ := k_len k ok
  have al := ok.al
  have sl := ok.sl
  have tl := ok.tl
  have fa : ∀ T, dFld [1] "acts" (.p (kpP k)) T = some (.p (.lst (pr (kpA k))), T) := fun _ => rfl
  have fs : ∀ T, dFld [1] "sums" (.p (kpP k)) T = some (.p (.lst (pr (kpS k))), T) := fun _ => rfl
  have ft : ∀ T, dFld [1] "texts" (.p (kpP k)) T = some (.p (.lst (pr (txs (kpT k)))), T) := fun _ => rfl
  have it : ∀ (ps : List P) (T : SH), srcOf (.p (.lst ps)) T = some (srcP ps, T) := fun _ _ => rfl
  have cp1 : ∀ T, compL (srcP (pr (kpA k))).fin (gTp 2 (gCn (gNm 6) (gCn (gNm 7) gNl))) dYes (dOp (fAdd false) (dCall m_write_numbers (dCons (dVar 6) dNil)) (dCall m_write_act (dCons (dVar 7) dNil))) [some (.p (kpP k)), none, none, none, none, none, none, none, none] (srcP (pr (kpA k))).items [] T = some ((lstsP (k.acts.map encKA)).map D.p, T) := fun T => by
    have q := comp_all (t := dYes) (elt := (dOp (fAdd false) (dCall m_write_numbers (dCons (dVar 6) dNil)) (dCall m_write_act (dCons (dVar 7) dNil)))) (g := gTp 2 (gCn (gNm 6) (gCn (gNm 7) gNl))) (fin := (srcP (pr (kpA k))).fin) (S := T) (σ := [some (.p (kpP k)), none, none, none, none, none, none, none, none]) (fun _ => true) (fun x : List Nat × Act => D.p (.lst (intsP (encKA x)))) (fun x (_ : SH) => some (D.p (.tup [.tup (natsP x.1), actP x.2]))) rfl k.acts [] (by rw [List.length_nil]; exact small (by omega)) (fun x hx => ⟨_, [some (.p (kpP k)), none, none, none, none, none, some (.p (.tup (natsP x.1))), some (.p (actP x.2)), none], rfl, rfl, rfl, fun _ => by
      obtain ⟨s, o, e⟩ := ok.ab x hx
      have w1 := fun T => wns_eq (.tup (natsP x.1)) x.1 (.inr rfl) s.big s.n.len T
      have z := s.e
      have a := fun T => add_l (enc x.1) (encA x.2) (by omega) T
      simp only [at_dOp, at_dCall, at_dCons, at_dVar, at_dNil, bnd_some, List.getElem?_cons_zero, List.getElem?_cons_succ, w1, wa_eq x.2 o _, a]
      rfl⟩)
    have ei : (srcP (pr (kpA k))).items = k.acts.map fun x (_ : SH) => some (D.p (.tup [.tup (natsP x.1), actP x.2])) := by simp [srcP, pr, kpA]
    rw [← ei, List.filter_eq_self.mpr fun _ _ => rfl, List.nil_append] at q
    rw [q]
    unfold lstsP
    rw [List.map_map, List.map_map]
    rfl
  have cp2 : ∀ (y : D) T, compL (srcP (pr (kpS k))).fin (gTp 2 (gCn (gNm 2) (gCn (gNm 8) gNl))) dYes (dOp (fAdd false) (dOp (fAdd false) (dCall m_write_numbers (dCons (dOp fIx (dVar 2) (dC (.int 0))) dNil)) (dCall m_write_numbers (dCons (dOp fIx (dVar 2) (dC (.int 1))) dNil))) (dCall m_write_integer (dCons (dVar 8) dNil))) [some (.p (kpP k)), some y, none, none, none, none, none, none, none] (srcP (pr (kpS k))).items [] T = some ((lstsP (k.sums.map encKS)).map D.p, T) := fun y T => by
    have q := comp_all (t := dYes) (elt := (dOp (fAdd false) (dOp (fAdd false) (dCall m_write_numbers (dCons (dOp fIx (dVar 2) (dC (.int 0))) dNil)) (dCall m_write_numbers (dCons (dOp fIx (dVar 2) (dC (.int 1))) dNil))) (dCall m_write_integer (dCons (dVar 8) dNil)))) (g := gTp 2 (gCn (gNm 2) (gCn (gNm 8) gNl))) (fin := (srcP (pr (kpS k))).fin) (S := T) (σ := [some (.p (kpP k)), some y, none, none, none, none, none, none, none]) (fun _ => true) (fun x : Cel × Int => D.p (.lst (intsP (encKS x)))) (fun x (_ : SH) => some (D.p (.tup [cel x.1, .int x.2]))) rfl k.sums [] (by rw [List.length_nil]; exact small (by omega)) (fun x hx => ⟨_, [some (.p (kpP k)), some y, some (.p (cel x.1)), none, none, none, none, none, some (.p (.int x.2))], rfl, rfl, rfl, fun _ => by
      obtain ⟨s, t, e⟩ := ok.sb x hx
      have w1 := fun T => wns_eq (.tup (natsP x.1.1)) x.1.1 (.inr rfl) s.big s.n.len T
      have w2 := fun T => wns_eq (.tup (natsP x.1.2)) x.1.2 (.inr rfl) t.big t.n.len T
      have x0 : ∀ T, fIx (.p (cel x.1)) (.p (.int 0)) T = some (.p (.tup (natsP x.1.1)), T) := fun T => tix (ps := [.tup (natsP x.1.1), .tup (natsP x.1.2)]) 0 (by decide) rfl T
      have x1 : ∀ T, fIx (.p (cel x.1)) (.p (.int 1)) T = some (.p (.tup (natsP x.1.2)), T) := fun T => tix (ps := [.tup (natsP x.1.1), .tup (natsP x.1.2)]) 1 (by decide) rfl T
      have z := s.e
      have z2 := t.e
      have z3 := encI_len x.2
      have a := fun T => add_l (enc x.1.1) (enc x.1.2) (by omega) T
      have a2 := fun T => add_l (enc x.1.1 ++ enc x.1.2) (encI x.2) (by rw [List.length_append]; omega) T
      simp only [at_dOp, at_dCall, at_dCons, at_dVar, at_dC, at_dNil, bnd_some, List.getElem?_cons_zero, List.getElem?_cons_succ, x0, x1, w1, w2, wi_eq x.2 e, a, a2]
      rfl⟩)
    have ei : (srcP (pr (kpS k))).items = k.sums.map fun x (_ : SH) => some (D.p (.tup [cel x.1, .int x.2])) := by simp [srcP, pr, kpS]
    rw [← ei, List.filter_eq_self.mpr fun _ _ => rfl, List.nil_append] at q
    rw [q]
    unfold lstsP
    rw [List.map_map, List.map_map]
    rfl
  have lp : ∀ L1 L3 : D, forL [0, 2, 5] (srcP (pr (txs (kpT k)))).fin (gTp 2 (gCn (gNm 2) (gCn (gNm 5) gNl)))
      (dDrop (dBM "list" fApp (dVar 4) (dCons (dOp (fAdd false) (dOp (fAdd false) (dCall m_write_numbers (dCons (dOp fIx (dVar 2) (dC (.int 0))) dNil)) (dCall m_write_numbers (dCons (dOp fIx (dVar 2) (dC (.int 1))) dNil))) (dCall m_write_characters (dCons (dVar 5) dNil))) dNil))) (srcP (pr (txs (kpT k)))).items [none, some L1, none, some L3, some (.ref S.os.length), none, none, none, none] ⟨S.os.length, S.os ++ [.lst []]⟩ = some (.nx [none, some L1, none, some L3, some (.ref S.os.length), none, none, none, none], ⟨S.os.length, S.os ++ [.lst ((lstsP (k.texts.map encKT)).map D.p)]⟩) := by
    intro L1 L3
    obtain ⟨σ', S', h1, rfl, rfl⟩ := p_invg (g := (gTp 2 (gCn (gNm 2) (gCn (gNm 5) gNl)))) (body := (dDrop (dBM "list" fApp (dVar 4) (dCons (dOp (fAdd false) (dOp (fAdd false) (dCall m_write_numbers (dCons (dOp fIx (dVar 2) (dC (.int 0))) dNil)) (dCall m_write_numbers (dCons (dOp fIx (dVar 2) (dC (.int 1))) dNil))) (dCall m_write_characters (dCons (dVar 5) dNil))) dNil)))) (ws := [0, 2, 5]) (fun i σ S' => σ = [none, some L1, none, some L3, some (.ref S.os.length), none, none, none, none] ∧ S' = ⟨S.os.length, S.os ++ [.lst ((lstsP ((k.texts.map encKT).take i)).map D.p)]⟩) (pr (txs (kpT k)))
      (σ := [none, some L1, none, some L3, some (.ref S.os.length), none, none, none, none]) (S := ⟨S.os.length, S.os ++ [.lst []]⟩) ⟨rfl, rfl⟩ (by
        rintro i q σ S1 hq ⟨rfl, rfl⟩
        have hq' : (k.texts.map fun x => P.tup [cel x.1, .lst (pr (chrP x.2))])[i]? = some q := by
          rw [← hq]
          unfold pr txs kpT
          rw [List.map_map, List.map_map]
          rfl
        rw [List.getElem?_map] at hq'
        cases e : k.texts[i]? with
        | none => rw [e] at hq'; cases hq'
        | some x =>
        rw [e] at hq'
        cases hq'
        obtain ⟨s, t, l, o⟩ := ok.tb x (List.mem_of_getElem? e)
        have w1 := fun T => wns_eq (.tup (natsP x.1.1)) x.1.1 (.inr rfl) s.big s.n.len T
        have w2 := fun T => wns_eq (.tup (natsP x.1.2)) x.1.2 (.inr rfl) t.big t.n.len T
        have x0 : ∀ T, fIx (.p (cel x.1)) (.p (.int 0)) T = some (.p (.tup (natsP x.1.1)), T) := fun T => tix (ps := [.tup (natsP x.1.1), .tup (natsP x.1.2)]) 0 (by decide) rfl T
        have x1 : ∀ T, fIx (.p (cel x.1)) (.p (.int 1)) T = some (.p (.tup (natsP x.1.2)), T) := fun T => tix (ps := [.tup (natsP x.1.1), .tup (natsP x.1.2)]) 1 (by decide) rfl T
        have z := s.e
        have z2 := t.e
        have z3 := (chr_len x.2 l o).2
        have a := fun T => add_l (enc x.1.1) (enc x.1.2) (by omega) T
        have a2 := fun T => add_l (enc x.1.1 ++ enc x.1.2) (encL (x.2.map encY)) (by rw [List.length_append]; omega) T
        have wc := fun T => wch_chars x.2 l o T
        have ty := isTy_ref (at_last S.os.length S.os (.lst ((lstsP ((k.texts.map encKT).take i)).map D.p)))
        have ap := app_ls S.os.length S.os ((k.texts.map encKT).take i) (enc x.1.1 ++ enc x.1.2 ++ encL (x.2.map encY)) (Nat.le_trans (List.length_take_le' _ _) (by rw [List.length_map]; omega))
        have et : (k.texts.map encKT).take i ++ [enc x.1.1 ++ enc x.1.2 ++ encL (x.2.map encY)] = (k.texts.map encKT).take (i + 1) := by
          have e' : (k.texts.map encKT)[i]? = some (enc x.1.1 ++ enc x.1.2 ++ encL (x.2.map encY)) := by rw [List.getElem?_map, e]; rfl
          rw [List.take_add_one, e']
          rfl
        rw [et] at ap
        refine ⟨[none, some L1, some (.p (cel x.1)), some L3, some (.ref S.os.length), some (.p (.lst (pr (chrP x.2)))), none, none, none], rfl, [none, some L1, some (.p (cel x.1)), some L3, some (.ref S.os.length), some (.p (.lst (pr (chrP x.2)))), none, none, none], _, .inl ?_, rfl, rfl⟩
        · simp only [at_dDrop, at_dBM, at_dVar, at_dCons, at_dC, at_dOp, at_dCall, at_dNil, bnd_some, List.getElem?_cons_zero, List.getElem?_cons_succ, ty, if_true, x0, x1, w1, w2, wc, a, a2, ap])
    have el : (pr (txs (kpT k))).length = (k.texts.map encKT).length := by rw [pr_len, txs_len, List.length_map]; exact List.length_map _
    rw [el, List.take_length] at h1
    exact h1
  have nl1 := fun T => newL_f (S := T) (lstsP (k.acts.map encKA)) (small (by unfold lstsP; rw [List.length_map, List.length_map]; omega))
  have nl3 := fun T => newL_f (S := T) (lstsP (k.sums.map encKS)) (small (by unfold lstsP; rw [List.length_map, List.length_map]; omega))
  have nl4 : newL true [] ⟨S.os.length, S.os⟩ = some (.ref S.os.length, ⟨S.os.length, S.os ++ [.lst []]⟩) := newL_t [] (small (by simp))
  have wl1 := fun T => wl_eq (k.acts.map encKA) (by rw [List.length_map]; omega) (by omega) T
  have wl3 := fun T => wl_eq (k.sums.map encKS) (by rw [List.length_map]; omega) (by omega) T
  have wl4 := wlr_eq (k.texts.map encKT) (by rw [List.length_map]; omega) (by omega) ⟨S.os.length, S.os ++ [.lst ((lstsP (k.texts.map encKT)).map D.p)]⟩ S.os.length (at_last S.os.length S.os _)
  have g : (encL (k.acts.map encKA)).length ≤ 50000 ∧ (encL (k.sums.map encKS)).length ≤ 50000 ∧ (encL (k.texts.map encKT)).length ≤ 50000 := by
    simp only [encK, List.length_append] at f4
    refine ⟨by omega, by omega, by omega⟩
  obtain ⟨g1, g2, g3⟩ := g
  have a1 := fun T => add_l (encL (k.acts.map encKA)) (encL (k.sums.map encKS)) (by omega) T
  have a2 := fun T => add_l (encL (k.acts.map encKA) ++ encL (k.sums.map encKS)) (encL (k.texts.map encKT)) (by rw [List.length_append]; omega) T
  have ev : startD 9 [.p (kpP k)] = [some (.p (kpP k)), none, none, none, none, none, none, none, none] := rfl
  unfold m_write_kept
  rw [fn_at (k := 1) rfl, ev]
  simp only [at_dSeq, at_dSet, at_dComp, at_dIt, at_dUn, at_dVar, fa, fs, ft, bnd_some, List.getElem?_cons_zero, List.getElem?_cons_succ, it, wipeD, List.set_cons_zero, List.set_cons_succ, cp1, cp2, nl1, nl3, seqK_nx, at_dLst, at_dNil, nl4, at_dFor, lp, at_dRet, at_dOp, at_dCall, at_dCons, wl1, wl3, wl4, a1, a2, frame_p]
  rw [cut_app]
  rfl
end Kb
namespace Kb
open PySem PySem.Spec PyProof.Rows L2 Pv
/-! what is kept, of a number -/
def chsA (n : Nat) : List Chr := [([1, 2, 3, 4], "q"), ([0, 300, 1, n % 200], "\n")]
def chsN (n : Nat) : List Chr := (chsA n).take (n % 3)
def kpN (n : Nat) : Kp := ⟨[(spotN n, actN n (n + 4))], [((spotN n, spotN (n + 1)), -(n : Int))], [((spotN (n + 1), spotN n), chsN n)]⟩
theorem chs_len (n : Nat) : (chsN n).length ≤ 2 := Nat.le_trans (List.length_take_le' _ _) (by simp [chsA])
theorem q_len : ("q" : Str).length = 1 := by decide +kernel
theorem nl_len : ("\n" : Str).length = 1 := by decide +kernel
theorem q_ord : ordS "q" < 1000 := by decide +kernel
theorem nl_ord : ordS "\n" < 1000 := by decide +kernel
theorem chs_ok (n : Nat) : ∀ y ∈ chsN n, OkY y := by
  intro y hy
  have hy' := List.mem_of_mem_take hy
  simp only [chsA, List.mem_cons, List.mem_nil_iff, or_false] at hy'
  rcases hy' with rfl | rfl
  · refine ⟨⟨by simp, fun x hx => big_of ?_⟩, q_len, Nat.lt_trans q_ord (by decide)⟩
    simp only [List.mem_cons, List.mem_nil_iff, or_false] at hx
    omega
  · refine ⟨⟨by simp, fun x hx => big_of ?_⟩, nl_len, Nat.lt_trans nl_ord (by decide)⟩
    simp only [List.mem_cons, List.mem_nil_iff, or_false] at hx
    omega
theorem kp_ok (n : Nat) (hn : n ≤ 5000000) : OkK (kpN n) := by
  refine ⟨by simp [kpN], fun x hx => ?_, by simp [kpN], fun x hx => ?_, by simp [kpN], fun x hx => ?_⟩
  · rw [List.mem_singleton.mp hx]
    exact ⟨spot_ok n, act_ok n (n + 4) (by omega), enc_a n (n + 4) (by omega)⟩
  · rw [List.mem_singleton.mp hx]
    exact ⟨spot_ok _, spot_ok _, big_of (by show (-(n : Int)).natAbs ≤ _; omega)⟩
  · rw [List.mem_singleton.mp hx]
    exact ⟨spot_ok _, spot_ok _, Nat.le_trans (chs_len n) (by decide), chs_ok n⟩
theorem kbB_loop (K : D) (n : Nat) (acc : List Int) (hacc : acc.length ≤ 50000) (S : SH) : forL [0, 1, 2, 3, 4, 7, 8] (srcP (pr (chrP (chsN n)))).fin (gTp 2 (gCn (gNm 7) (gCn (gNm 8) gNl)))
      (dSet 6 (dOp (fAdd false) (dOp (fAdd false) (dVar 6) (dCall m_numbers (dCons (dVar 7) dNil))) (dCall m_number (dCons (dCall fOrd (dCons (dVar 8) dNil)) dNil)))) (srcP (pr (chrP (chsN n)))).items [none, none, none, none, none, some K, some (.p (.lst (intsP acc))), none, none] S =
    some (.nx [none, none, none, none, none, some K, some (.p (.lst (intsP (acc ++ ((chsN n).map encY).flatten)))), none, none], S) := by
  have cl := chs_len n
  have fb := flat_bound encY 700 (chsN n) fun y hy => encY_len y (chs_ok n y hy)
  obtain ⟨σ', S', h1, rfl, rfl⟩ := p_invg (g := (gTp 2 (gCn (gNm 7) (gCn (gNm 8) gNl)))) (body := (dSet 6 (dOp (fAdd false) (dOp (fAdd false) (dVar 6) (dCall m_numbers (dCons (dVar 7) dNil))) (dCall m_number (dCons (dCall fOrd (dCons (dVar 8) dNil)) dNil))))) (ws := [0, 1, 2, 3, 4, 7, 8]) (fun i σ S' => σ = [none, none, none, none, none, some K, some (.p (.lst (intsP (acc ++ (((chsN n).map encY).take i).flatten)))), none, none] ∧ S' = S) (pr (chrP (chsN n)))
    (σ := [none, none, none, none, none, some K, some (.p (.lst (intsP acc))), none, none]) (S := S) ⟨by simp, rfl⟩ (by
      rintro i q σ S1 hq ⟨rfl, rfl⟩
      have hq' : ((chsN n).map fun y => P.tup [.tup (natsP y.1), .str y.2])[i]? = some q := by
        rw [← hq]
        unfold pr chrP
        rw [List.map_map]
        rfl
      rw [List.getElem?_map] at hq'
      cases e : (chsN n)[i]? with
      | none => rw [e] at hq'; cases hq'
      | some y =>
      rw [e] at hq'
      cases hq'
      have o := chs_ok n y (List.mem_of_getElem? e)
      have z := o.s.e
      have z2 := wnd_len 60 (ordS y.2)
      have fl := flat_le ((chsN n).map encY) i
      have w1 := fun T => nbs_eq (.tup (natsP y.1)) y.1 (.inr rfl) o.s.n.len T
      have a := fun T => add_l (acc ++ (((chsN n).map encY).take i).flatten) (enc y.1) (by rw [List.length_append]; omega) T
      have a2 := fun T => add_l (acc ++ (((chsN n).map encY).take i).flatten ++ enc y.1) (wnd 60 (ordS y.2)) (by rw [List.length_append, List.length_append]; omega) T
      have e' : ((chsN n).map encY)[i]? = some (enc y.1 ++ wnd 60 (ordS y.2)) := by rw [List.getElem?_map, e]; rfl
      have et : acc ++ (((chsN n).map encY).take i).flatten ++ enc y.1 ++ wnd 60 (ordS y.2) = acc ++ (((chsN n).map encY).take (i + 1)).flatten := by
        rw [flat_take _ e']
        simp only [List.append_assoc]
      rw [et] at a2
      refine ⟨[none, none, none, none, none, some K, some (.p (.lst (intsP (acc ++ (((chsN n).map encY).take i).flatten)))), some (.p (.tup (natsP y.1))), some (.p (.str y.2))], rfl, [none, none, none, none, none, some K, some (.p (.lst (intsP (acc ++ (((chsN n).map encY).take (i + 1)).flatten)))), some (.p (.tup (natsP y.1))), some (.p (.str y.2))], S1, .inl ?_, rfl, rfl⟩
      simp only [at_dSet, at_dVar, at_dCons, at_dOp, at_dCall, at_dNil, bnd_some, List.getElem?_cons_zero, List.getElem?_cons_succ, w1, ord_eq o.l, nb_eq, a, a2, List.set_cons_zero, List.set_cons_succ])
  have el : (pr (chrP (chsN n))).length = ((chsN n).map encY).length := by rw [pr_len, List.length_map]; exact List.length_map _
  rw [el, List.take_length] at h1
  exact h1
theorem chs_sl (n : Nat) (S : SH) : fSl false (.p (.lst (pr (chrP (chsA n))))) none (some ((n % 3 : Nat) : Int)) S = some (.p (.lst (pr (chrP (chsN n)))), S) := by
  unfold chsN
  have h : n % 3 = 0 ∨ n % 3 = 1 ∨ n % 3 = 2 := by omega
  rcases h with h | h | h <;> rw [h] <;> exact fSl_l rfl (small (by simp [chsA, pr, chrP]))
theorem kept_eq (n : Nat) (hn : n ≤ 5000000) (S : SH) : m_kept [.p (.int (n : Int))] S = some (.p (.tup [kpP (kpN n), .lst (intsP (encK (kpN n)))]), S) := by
  have e1 : (n : Int) + 1 = ((n + 1 : Nat) : Int) := by omega
  have e4 : (n : Int) + 4 = ((n + 4 : Nat) : Int) := by omega
  have e200 : (n : Int) % 200 = ((n % 200 : Nat) : Int) := by omega
  have e3 : (n : Int) % 3 = ((n % 3 : Nat) : Int) := by omega
  have cl := chs_len n
  let σ4 : En := [some (.p (.int (n : Int))), some (.p (.tup (natsP (spotN n)))), some (.p (.tup (natsP (spotN (n + 1))))), some (.p (actP (actN n (n + 4)))), none, none, none, none, none]
  have m1 : ∀ T, newT [.p (.int 1), .p (.int 2), .p (.int 3), .p (.int 4)] T = some (.p (.tup (natsP [1, 2, 3, 4])), T) := fun T => mk_n [1, 2, 3, 4] _ rfl (by decide) T
  have m2 : ∀ T, newT [.p (.int 0), .p (.int 300), .p (.int 1), .p (.int ((n % 200 : Nat) : Int))] T = some (.p (.tup (natsP [0, 300, 1, n % 200])), T) := fun T => mk_n [0, 300, 1, n % 200] _ rfl (show 4 ≤ 100 by decide) T
  have m3 : ∀ (a : P) (z : P) T, newT [.p a, .p z] T = some (.p (.tup [a, z]), T) := fun a z T => newT_p (S := T) [a, z] (small (by simp))
  have nc : ∀ T, newL false [.p (.tup [.tup (natsP [1, 2, 3, 4]), .str "q"]), .p (.tup [.tup (natsP [0, 300, 1, n % 200]), .str "\n"])] T = some (.p (.lst (pr (chrP (chsA n)))), T) := fun T => newL_f (S := T) (pr (chrP (chsA n))) (small (show 2 ≤ 1000000 by decide))
  have na : ∀ T, newL false [.p (.tup [.tup (natsP (spotN n)), actP (actN n (n + 4))])] T = some (.p (.lst (pr (kpA (kpN n)))), T) := fun T => newL_f (S := T) (pr (kpA (kpN n))) (small (show 1 ≤ 1000000 by decide))
  have ns : ∀ T, newL false [.p (.tup [.tup [.tup (natsP (spotN n)), .tup (natsP (spotN (n + 1)))], .int (-(n : Int))])] T = some (.p (.lst (pr (kpS (kpN n)))), T) := fun T => newL_f (S := T) (pr (kpS (kpN n))) (small (show 1 ≤ 1000000 by decide))
  have nt : ∀ T, newL false [.p (.tup [.tup [.tup (natsP (spotN (n + 1))), .tup (natsP (spotN n))], .lst (pr (chrP (chsN n)))])] T = some (.p (.lst (pr (txs (kpT (kpN n))))), T) := fun T => newL_f (S := T) (pr (txs (kpT (kpN n)))) (small (show 1 ≤ 1000000 by decide))
  have s1 := spot_ok n
  have s2 := spot_ok (n + 1)
  have z1 := s1.e
  have z2 := s2.e
  have z3 := enc_a n (n + 4) (by omega)
  have z4 := encI_len (-(n : Int))
  have b1 := fun T => nbs_eq (.tup (natsP (spotN n))) (spotN n) (.inr rfl) s1.n.len T
  have b2 := fun T => nbs_eq (.tup (natsP (spotN (n + 1)))) (spotN (n + 1)) (.inr rfl) s2.n.len T
  have o1 := one_l 1
  have ol := one_l (((chsN n).length : Nat) : Int)
  have fl : ∀ T, fLen [.p (.lst (pr (chrP (chsN n))))] T = some (.p (.int (((chsN n).length : Nat) : Int)), T) := fun T => by
    rw [fLen_l, pr_len]
    unfold chrP
    rw [List.length_map]
  let d0 : List Int := [1] ++ enc (spotN n) ++ encA (actN n (n + 4))
  let d1 : List Int := d0 ++ [1] ++ enc (spotN n) ++ enc (spotN (n + 1)) ++ encI (-(n : Int))
  let d2 : List Int := d1 ++ [1] ++ enc (spotN (n + 1)) ++ enc (spotN n) ++ [(((chsN n).length : Nat) : Int)]
  have l0 : d0.length ≤ 10700 := by simp only [d0, List.length_append, List.length_cons, List.length_nil]; omega
  have l1 : d1.length ≤ 13000 := by simp only [d1, List.length_append, List.length_cons, List.length_nil]; omega
  have l2 : d2.length ≤ 15000 := by simp only [d2, List.length_append, List.length_cons, List.length_nil]; omega
  have a0 := fun T => add_l [1] (enc (spotN n)) (by simp only [List.length_cons, List.length_nil]; omega) T
  have a1 := fun T => add_l ([1] ++ enc (spotN n)) (encA (actN n (n + 4))) (by simp only [List.length_append, List.length_cons, List.length_nil]; omega) T
  have a2 := fun T => add_l d0 [1] (by simp only [List.length_cons, List.length_nil]; omega) T
  have a3 := fun T => add_l (d0 ++ [1]) (enc (spotN n)) (by simp only [List.length_append, List.length_cons, List.length_nil]; omega) T
  have a4 := fun T => add_l (d0 ++ [1] ++ enc (spotN n)) (enc (spotN (n + 1))) (by simp only [List.length_append, List.length_cons, List.length_nil]; omega) T
  have a5 := fun T => add_l (d0 ++ [1] ++ enc (spotN n) ++ enc (spotN (n + 1))) (encI (-(n : Int))) (by simp only [List.length_append, List.length_cons, List.length_nil]; omega) T
  have a6 := fun T => add_l d1 [1] (by simp only [List.length_cons, List.length_nil]; omega) T
  have a7 := fun T => add_l (d1 ++ [1]) (enc (spotN (n + 1))) (by simp only [List.length_append, List.length_cons, List.length_nil]; omega) T
  have a8 := fun T => add_l (d1 ++ [1] ++ enc (spotN (n + 1))) (enc (spotN n)) (by simp only [List.length_append, List.length_cons, List.length_nil]; omega) T
  have a9 := fun T => add_l (d1 ++ [1] ++ enc (spotN (n + 1)) ++ enc (spotN n)) [(((chsN n).length : Nat) : Int)] (by simp only [List.length_append, List.length_cons, List.length_nil]; omega) T
  have f0 : [1] ++ enc (spotN n) ++ encA (actN n (n + 4)) = d0 := rfl
  have f1 : d0 ++ [1] ++ enc (spotN n) ++ enc (spotN (n + 1)) ++ encI (-(n : Int)) = d1 := rfl
  have f2 : d1 ++ [1] ++ enc (spotN (n + 1)) ++ enc (spotN n) ++ [(((chsN n).length : Nat) : Int)] = d2 := rfl
  rw [f0] at a1
  rw [f1] at a5
  rw [f2] at a9
  have lp := fun K T => kbB_loop K n d2 (by omega) T
  have w1 : wnd 60 1 = [(1 : Int)] := wnd_small (by decide)
  have wc : wnd 60 (chsN n).length = [(((chsN n).length : Nat) : Int)] := wnd_small (by omega)
  have fin : d2 ++ ((chsN n).map encY).flatten = encK (kpN n) := by
    simp only [d2, d1, d0, encK, encL, kpN, encKA, encKS, encKT, List.map_cons, List.map_nil, List.flatten_cons, List.flatten_nil, List.append_nil, List.length_cons, List.length_nil, List.length_map, Nat.zero_add, w1, wc, List.append_assoc]
  rw [fin] at lp
  have ba := fun T => ba_eq (actN n (n + 4)) (act_ok n (n + 4) (by omega)) T
  have it : ∀ (ps : List P) (T : SH), srcOf (.p (.lst ps)) T = some (srcP ps, T) := fun _ _ => rfl
  have ev : startD 9 [.p (.int (n : Int))] = [some (.p (.int (n : Int))), none, none, none, none, none, none, none, none] := rfl
  unfold m_kept
  rw [fn_at (k := 1) rfl, ev]
  rw [at_dSeq]
  simp only [at_dSet, at_dCall, at_dCons, at_dVar, at_dNil, bnd_some, List.getElem?_cons_zero, spot_eq, List.set_cons_zero, List.set_cons_succ, seqK_nx]
  rw [at_dSeq]
  simp only [at_dSet, at_dCall, at_dCons, at_dVar, at_dOp, at_dC, at_dNil, bnd_some, List.getElem?_cons_zero, fAdd_i, e1, spot_eq, List.set_cons_zero, List.set_cons_succ, seqK_nx]
  rw [at_dSeq]
  simp only [at_dSet, at_dCall, at_dCons, at_dVar, at_dOp, at_dC, at_dNil, bnd_some, List.getElem?_cons_zero, fAdd_i, e4, act_eq, List.set_cons_zero, List.set_cons_succ, seqK_nx]
  rw [at_dSeq, at_dSet]
  rw [sl_hi (d := .p (.lst (pr (chrP (chsA n))))) (i := ((n % 3 : Nat) : Int)) (by simp only [at_dLst, at_dTup, at_dCons, at_dVar, at_dOp, at_dC, at_dNil, bnd_some, List.getElem?_cons_zero, fII_eq, if_true, decide_eq_true_eq, Int.reduceLT, e200, m1, m2, m3, nc]) (by simp only [at_dOp, at_dVar, at_dC, bnd_some, List.getElem?_cons_zero, fII_eq, if_true, decide_eq_true_eq, Int.reduceLT, e3]), chs_sl]
  simp only [bnd_some, List.set_cons_zero, List.set_cons_succ, seqK_nx]
  rw [at_dSeq, at_dSet]
  rw [kmk_eq _ (kpA (kpN n)) (kpS (kpN n)) (kpT (kpN n)) (by simp only [at_dLst, at_dTup, at_dCons, at_dVar, at_dUn, at_dNil, bnd_some, List.getElem?_cons_zero, List.getElem?_cons_succ, fNeg_i, m3, na, ns, nt]) (by simp [kpA, kpN]) (by simp [kpS, kpN]) (by simp [kpT, kpN]) (by
    intro t ht
    have ht' : t ∈ [(cel (spotN (n + 1), spotN n), chrP (chsN n))] := ht
    rw [List.mem_singleton.mp ht']
    show (chrP (chsN n)).length ≤ 100
    unfold chrP
    rw [List.length_map]
    omega)]
  simp only [bnd_some, List.set_cons_zero, List.set_cons_succ, seqK_nx]
  rw [at_dSeq]
  simp only [at_dSet, at_dOp, at_dLst, at_dCall, at_dCons, at_dVar, at_dC, at_dNil, bnd_some, List.getElem?_cons_zero, List.getElem?_cons_succ, o1, b1, ba, a0, a1, List.set_cons_zero, List.set_cons_succ, seqK_nx]
  rw [at_dSeq]
  simp only [at_dSet, at_dOp, at_dLst, at_dCall, at_dCons, at_dUn, at_dVar, at_dC, at_dNil, bnd_some, List.getElem?_cons_zero, List.getElem?_cons_succ, fNeg_i, si_eq, o1, b1, b2, a2, a3, a4, a5, List.set_cons_zero, List.set_cons_succ, seqK_nx]
  rw [at_dSeq]
  simp only [at_dSet, at_dOp, at_dLst, at_dCall, at_dCons, at_dVar, at_dC, at_dNil, bnd_some, List.getElem?_cons_zero, List.getElem?_cons_succ, fl, ol, o1, b1, b2, a6, a7, a8, a9, List.set_cons_zero, List.set_cons_succ, seqK_nx]
  rw [at_dSeq]
  simp only [at_dFor, at_dIt, at_dVar, bnd_some, List.getElem?_cons_zero, List.getElem?_cons_succ, it, wipeD, List.set_cons_zero, List.set_cons_succ, lp, seqK_nx, at_dRet, at_dTup, at_dCons, at_dNil, m3, frame_p, cut_self]
  rfl
end Kb
namespace Kb
open PySem PySem.Spec PyProof.Rows L2 Pv
/-! the store -/
abbrev k0 : Kp := ⟨[], [], []⟩
theorem k0_ok : OkK k0 := ⟨by simp, by simp, by simp, by simp, by simp, by simp⟩
def stoF (n : Nat) : List (Str × D) := [("members", .p (.int 2)), ("cut", .p (.lst (natsP [0, 0]))), ("capabilities", .p (.lst [])), ("kept", .p (.lst [kpP k0, kpP k0, kpP k0, kpP k0])), ("changes", .ref (n + 3))]
abbrev chO (l : List Chg) : Ob := .lst (l.map fun c => .p (chgP c))
abbrev ouO (n : Nat) : Ob := .lst [.ref (n + 1), .ref (n + 2)]
def sto (os : List Ob) (l0 l1 : List Chg) : List Ob := os ++ [.ins 2 (stoF os.length), chO l0, chO l1, ouO os.length]
structure StoAt (os : List Ob) (n : Nat) (l0 l1 : List Chg) : Prop where
  o : os[n]? = some (.ins 2 (stoF n))
  a : os[n + 1]? = some (chO l0)
  c : os[n + 2]? = some (chO l1)
  d : os[n + 3]? = some (ouO n)
theorem sto_at (os : List Ob) (l0 l1 : List Chg) : StoAt (sto os l0 l1) os.length l0 l1 := by
  refine ⟨?_, ?_, ?_, ?_⟩ <;> simp [sto]
theorem get_app {os ys : List Ob} {n : Nat} {x : Ob} (h : os[n]? = some x) : (os ++ ys)[n]? = some x := by
  have hn : n < os.length := by
    by_cases h' : n < os.length
    · exact h'
    · rw [List.getElem?_eq_none (by omega)] at h
      cases h
  rw [List.getElem?_append_left hn, h]
theorem StoAt.app {os : List Ob} {n : Nat} {l0 l1 : List Chg} (h : StoAt os n l0 l1) (ys : List Ob) : StoAt (os ++ ys) n l0 l1 := ⟨get_app h.o, get_app h.a, get_app h.c, get_app h.d⟩
theorem flds_r {n c : Nat} {fs : List (Str × D)} {S : SH} (h : S.os[n]? = some (.ins c fs)) : fldsOf (.ref n) S = some (c, fs) := by
  unfold fldsOf
  dsimp only
  rw [h]
theorem fld_r {n : Nat} {fs : List (Str × D)} {S : SH} {f : Str} {x : D} (h : S.os[n]? = some (.ins 2 fs)) (hx : fs.lookup f = some x) : dFld [2] f (.ref n) S = some (x, S) := by
  unfold dFld
  rw [flds_r h]
  dsimp only
  rw [if_pos (by decide), hx]
section
variable {os : List Ob} {n : Nat} {l0 l1 : List Chg} (h : StoAt os n l0 l1) (b : Nat)
include h
theorem so_members : dFld [2] "members" (.ref n) ⟨b, os⟩ = some (.p (.int 2), ⟨b, os⟩) := fld_r h.o rfl
theorem so_cut : dFld [2] "cut" (.ref n) ⟨b, os⟩ = some (.p (.lst (natsP [0, 0])), ⟨b, os⟩) := fld_r h.o rfl
theorem so_caps : dFld [2] "capabilities" (.ref n) ⟨b, os⟩ = some (.p (.lst []), ⟨b, os⟩) := fld_r h.o rfl
theorem so_kept : dFld [2] "kept" (.ref n) ⟨b, os⟩ = some (.p (.lst [kpP k0, kpP k0, kpP k0, kpP k0]), ⟨b, os⟩) := fld_r h.o rfl
theorem so_changes : dFld [2] "changes" (.ref n) ⟨b, os⟩ = some (.ref (n + 3), ⟨b, os⟩) := fld_r h.o rfl
theorem so_ix0 : fIx (.ref (n + 3)) (.p (.int ((0 : Nat) : Int))) ⟨b, os⟩ = some (.ref (n + 1), ⟨b, os⟩) := fIx_ri (S := ⟨b, os⟩) h.d (by decide) rfl
theorem so_ix1 : fIx (.ref (n + 3)) (.p (.int ((1 : Nat) : Int))) ⟨b, os⟩ = some (.ref (n + 2), ⟨b, os⟩) := fIx_ri (S := ⟨b, os⟩) h.d (by decide) rfl
end
theorem put_sto0 (b : Nat) (os : List Ob) (x y z w v : Ob) : SH.put ⟨b, os ++ [x, y, z, w]⟩ os.length v = ⟨b, os ++ [v, y, z, w]⟩ := by
  unfold SH.put
  simp
theorem put_sto1 (b : Nat) (os : List Ob) (x y z w v : Ob) : SH.put ⟨b, os ++ [x, y, z, w]⟩ (os.length + 1) v = ⟨b, os ++ [x, v, z, w]⟩ := by
  unfold SH.put
  simp
theorem put_sto2 (b : Nat) (os : List Ob) (x y z w v : Ob) : SH.put ⟨b, os ++ [x, y, z, w]⟩ (os.length + 2) v = ⟨b, os ++ [x, y, v, w]⟩ := by
  unfold SH.put
  simp
theorem at_dMakeT {c : Nat} {init : MF} {a : MA} {σ : En} {S : SH} : dMake true c init a σ S = bnd (a σ S) fun xs S1 => bnd (init (.ref S1.os.length :: xs) ⟨S1.b, S1.os ++ [.ins c []]⟩) fun d S2 => match d with | .p .non => some (.ref S1.os.length, S2) | _ => none := by
  unfold dMake
  rfl
theorem kept0 (T : SH) (σ : En) : dMake false 1 m_Kept_init (dCons (dLst false dNil) (dCons (dLst false dNil) (dCons (dLst false dNil) dNil))) σ T = some (.p (kpP k0), T) := by
  have nl : ∀ T, newL false [] T = some (.p (.lst []), T) := fun T => newL_f (S := T) [] (small (by simp))
  rw [kmk_eq T [] [] [] (by simp only [at_dCons, at_dLst, at_dNil, bnd_some, nl]; rfl) (by simp) (by simp) (by simp) (by simp)]
  rfl
theorem sinit (b : Nat) (os : List Ob) (hb : b ≤ os.length) : m_Store_init [.ref os.length, .p (.int 2)] ⟨b, os ++ [.ins 2 []]⟩ = some (.p .non, ⟨b, sto os [] []⟩) := by
  have c0 : ([2] : List Nat).contains 2 = true := by decide
  have ev : startD 3 [.ref os.length, .p (.int 2)] = [some (.ref os.length), some (.p (.int 2)), none] := rfl
  have rz2 : ∀ T, rng1 [.p (.int 2)] T = some (srcN 0 2, T) := fun T => srt_rng 2 (by decide)
  have rz4 : ∀ T, rng1 [.p u_SPACES] T = some (srcN 0 4, T) := fun T => srt_rng 4 (by decide)
  have sl : ∀ {f : Str} {v : P} {fs : List (Str × D)}, fs.length < 1000 → setFld [2] f (.ref os.length) (.p v) ⟨b, os ++ [.ins 2 fs]⟩ = some ⟨b, os ++ [.ins 2 (putFD f (.p v) fs)]⟩ := fun hl => setF_last c0 hl
  have cp1 : ∀ T, compL (srcN 0 2).fin (gNm 2) dYes (dC (.int 0)) [some (.ref os.length), some (.p (.int 2)), none] (srcN 0 2).items [] T = some ((natsP [0, 0]).map D.p, T) := fun T => by
    rw [comp_rng (S := T) (j := 2) (t := dYes) (elt := dC (.int 0)) (σ := [some (.ref os.length), some (.p (.int 2)), none]) (fun _ => true) (fun _ => D.p (.int 0)) 2 (small (by omega)) (fun i hi => ⟨rfl, fun _ => rfl⟩)]
    rfl
  have cp2 : ∀ T, compL (srcN 0 4).fin (gNm 2) dYes (dMake false 1 m_Kept_init (dCons (dLst false dNil) (dCons (dLst false dNil) (dCons (dLst false dNil) dNil)))) [some (.ref os.length), some (.p (.int 2)), none] (srcN 0 4).items [] T = some ([kpP k0, kpP k0, kpP k0, kpP k0].map D.p, T) := fun T => by
    rw [comp_rng (S := T) (j := 2) (t := dYes) (elt := (dMake false 1 m_Kept_init (dCons (dLst false dNil) (dCons (dLst false dNil) (dCons (dLst false dNil) dNil))))) (σ := [some (.ref os.length), some (.p (.int 2)), none]) (fun _ => true) (fun _ => D.p (kpP k0)) 4 (small (by omega)) (fun i hi => ⟨rfl, fun _ => kept0 T _⟩)]
    rfl
  have nl1 : ∀ T, newL false ((natsP [0, 0]).map D.p) T = some (.p (.lst (natsP [0, 0])), T) := fun T => newL_f (S := T) _ (small (by simp [natsP]))
  have nl2 : ∀ T, newL false ([kpP k0, kpP k0, kpP k0, kpP k0].map D.p) T = some (.p (.lst [kpP k0, kpP k0, kpP k0, kpP k0]), T) := fun T => newL_f (S := T) _ (small (by simp))
  have nl0 : ∀ T, newL false [] T = some (.p (.lst []), T) := fun T => newL_f (S := T) [] (small (by simp))
  let f4 : List (Str × D) := [("members", .p (.int 2)), ("cut", .p (.lst (natsP [0, 0]))), ("capabilities", .p (.lst [])), ("kept", .p (.lst [kpP k0, kpP k0, kpP k0, kpP k0]))]
  let X : Ob := .ins 2 f4
  have cp3 : compL (srcN 0 2).fin (gNm 2) dYes (dLst true dNil) [some (.ref os.length), some (.p (.int 2)), none] (srcN 0 2).items [] ⟨b, os ++ [X]⟩ = some ([.ref (os.length + 1), .ref (os.length + 2)], ⟨b, os ++ [X, .lst [], .lst []]⟩) := by
    have n1 : newL true [] ⟨b, os ++ [X]⟩ = some (.ref (os.length + 1), ⟨b, os ++ [X, .lst []]⟩) := by
      rw [newL_t [] (small (by simp))]
      simp
    have n2 : newL true [] ⟨b, os ++ [X, .lst []]⟩ = some (.ref (os.length + 2), ⟨b, os ++ [X, .lst [], .lst []]⟩) := by
      rw [newL_t [] (small (by simp))]
      simp
    have l1 : ([] : List D).length < sizeLine := Nat.lt_of_lt_of_le (by decide) line_ge
    have l2 : ([.ref (os.length + 1)] : List D).length < sizeLine := Nat.lt_of_lt_of_le (show 1 < 1000000 by decide) line_ge
    show compL (fun _ => true) (gNm 2) dYes (dLst true dNil) [some (.ref os.length), some (.p (.int 2)), none] [fun _ => some (.p (.int (0 + ((0 : Nat) : Int)))), fun _ => some (.p (.int (0 + ((1 : Nat) : Int))))] [] ⟨b, os ++ [X]⟩ = _
    rw [compL]
    simp only [at_gNm, bnd_some, at_dYes, if_true, at_dLst, at_dNil, n1, if_pos l1]
    rw [compL]
    simp only [at_gNm, bnd_some, at_dYes, if_true, at_dLst, at_dNil, n2, List.nil_append, if_pos l2]
    rw [compL]
    simp only [if_true]
    rfl
  have n3 : newL true [.ref (os.length + 1), .ref (os.length + 2)] ⟨b, os ++ [X, .lst [], .lst []]⟩ = some (.ref (os.length + 3), ⟨b, os ++ [X, .lst [], .lst [], ouO os.length]⟩) := by
    rw [newL_t _ (small (by simp))]
    simp
  have sl5 : setFld [2] "changes" (.ref os.length) (.ref (os.length + 3)) ⟨b, os ++ [X, .lst [], .lst [], ouO os.length]⟩ = some ⟨b, sto os [] []⟩ := by
    unfold setFld
    dsimp only
    have e : (os ++ [X, .lst [], .lst [], ouO os.length])[os.length]? = some X := by simp
    rw [e]
    dsimp only [X]
    rw [if_pos ⟨by decide, show 4 < 1000 by decide, decide_eq_true hb⟩]
    rw [put_sto0]
    rfl
  unfold m_Store_init
  rw [fnL_at (k := 2) rfl, ev, at_dSeq]
  simp only [at_dSetF, at_dVar, List.getElem?_cons_zero, List.getElem?_cons_succ, bnd_some]
  rw [sl (by simp only [List.length_nil]; omega)]
  simp only [bnd_some, seqK_nx]
  rw [show (putFD "members" (.p (.int 2)) ([] : List (Str × D))) = ([("members", .p (.int 2))] : List (Str × D)) from rfl, at_dSeq]
  simp only [at_dSetF, at_dVar, at_dComp, at_dRng1, at_dCons, at_dNil, List.getElem?_cons_zero, List.getElem?_cons_succ, bnd_some, rz2, wipeD, List.set_cons_zero, List.set_cons_succ, cp1, nl1]
  rw [sl (by simp only [List.length_cons, List.length_nil]; omega)]
  simp only [bnd_some, seqK_nx]
  rw [show (putFD "cut" (.p (.lst (natsP [0, 0]))) ([("members", .p (.int 2))] : List (Str × D))) = ([("members", .p (.int 2)), ("cut", .p (.lst (natsP [0, 0])))] : List (Str × D)) from rfl, at_dSeq]
  simp only [at_dSetF, at_dVar, at_dLst, at_dNil, List.getElem?_cons_zero, List.getElem?_cons_succ, bnd_some, nl0]
  rw [sl (by simp only [List.length_cons, List.length_nil]; omega)]
  simp only [bnd_some, seqK_nx]
  rw [show (putFD "capabilities" (.p (.lst [])) ([("members", .p (.int 2)), ("cut", .p (.lst (natsP [0, 0])))] : List (Str × D))) = ([("members", .p (.int 2)), ("cut", .p (.lst (natsP [0, 0]))), ("capabilities", .p (.lst []))] : List (Str × D)) from rfl, at_dSeq]
  simp only [at_dSetF, at_dVar, at_dComp, at_dRng1, at_dCons, at_dNil, at_dC, List.getElem?_cons_zero, List.getElem?_cons_succ, bnd_some, rz4, wipeD, List.set_cons_zero, List.set_cons_succ, cp2, nl2]
  rw [sl (by simp only [List.length_cons, List.length_nil]; omega)]
  simp only [bnd_some, seqK_nx]
  rw [show (putFD "kept" (.p (.lst [kpP k0, kpP k0, kpP k0, kpP k0])) ([("members", .p (.int 2)), ("cut", .p (.lst (natsP [0, 0]))), ("capabilities", .p (.lst []))] : List (Str × D))) = f4 from rfl]
  simp only [at_dSetF, at_dVar, at_dComp, at_dRng1, at_dCons, at_dNil, List.getElem?_cons_zero, List.getElem?_cons_succ, bnd_some, rz2, wipeD, List.set_cons_zero, List.set_cons_succ]
  rw [cp3, bnd_some, n3, bnd_some]
  rw [sl5]
  rfl
theorem add_0 (b : Nat) (os : List Ob) (l0 l1 : List Chg) (c : Chg) (hc : c.au = 0) (hl : l0.length ≤ 1000) : m_Store_add [.ref os.length, .p (chgP c)] ⟨b, sto os l0 l1⟩ = some (.p .non, ⟨b, sto os (l0 ++ [c]) l1⟩) := by
  have sa := sto_at os l0 l1
  have ev : startD 2 [.ref os.length, .p (chgP c)] = [some (.ref os.length), some (.p (chgP c))] := rfl
  have fa : ∀ S, dFld [0] "author" (.p (chgP c)) S = some (.p (.int (c.au : Int)), S) := fun S => f_author _ _ _ _ _ _ S
  rw [hc] at fa
  have ap : fApp [.ref (os.length + 1), .p (chgP c)] ⟨(sto os l0 l1).length, sto os l0 l1⟩ = some (.p .non, ⟨(sto os l0 l1).length, sto os (l0 ++ [c]) l1⟩) := by
    rw [fApp_p (S := ⟨(sto os l0 l1).length, sto os l0 l1⟩) sa.a (by rw [List.length_map]; have := line_ge; omega)]
    show some (D.p .non, SH.put ⟨_, os ++ [.ins 2 (stoF os.length), chO l0, chO l1, ouO os.length]⟩ _ _) = _
    rw [put_sto1]
    simp only [sto, chO, List.map_append]
    rfl
  have ty := isTy_ref (S := ⟨(sto os l0 l1).length, sto os l0 l1⟩) sa.a
  unfold m_Store_add
  rw [fn_at (k := 2) rfl, ev]
  simp only [at_dDrop, at_dBM, at_dOp, at_dUn, at_dVar, at_dCons, at_dNil, bnd_some, List.getElem?_cons_zero, List.getElem?_cons_succ, so_changes sa, fa, so_ix0 sa, ty, if_true, ap, frame_nx]
  have el : (sto os (l0 ++ [c]) l1).length = (sto os l0 l1).length := by simp only [sto, List.length_append, List.length_cons]
  show some (D.p .non, (⟨b, (sto os (l0 ++ [c]) l1).take (sto os l0 l1).length⟩ : SH)) = _
  rw [← el, List.take_length]
theorem add_1 (b : Nat) (os : List Ob) (l0 l1 : List Chg) (c : Chg) (hc : c.au = 1) (hl : l1.length ≤ 1000) : m_Store_add [.ref os.length, .p (chgP c)] ⟨b, sto os l0 l1⟩ = some (.p .non, ⟨b, sto os l0 (l1 ++ [c])⟩) := by
  have sa := sto_at os l0 l1
  have ev : startD 2 [.ref os.length, .p (chgP c)] = [some (.ref os.length), some (.p (chgP c))] := rfl
  have fa : ∀ S, dFld [0] "author" (.p (chgP c)) S = some (.p (.int (c.au : Int)), S) := fun S => f_author _ _ _ _ _ _ S
  rw [hc] at fa
  have ap : fApp [.ref (os.length + 2), .p (chgP c)] ⟨(sto os l0 l1).length, sto os l0 l1⟩ = some (.p .non, ⟨(sto os l0 l1).length, sto os l0 (l1 ++ [c])⟩) := by
    rw [fApp_p (S := ⟨(sto os l0 l1).length, sto os l0 l1⟩) sa.c (by rw [List.length_map]; have := line_ge; omega)]
    show some (D.p .non, SH.put ⟨_, os ++ [.ins 2 (stoF os.length), chO l0, chO l1, ouO os.length]⟩ _ _) = _
    rw [put_sto2]
    simp only [sto, chO, List.map_append]
    rfl
  have ty := isTy_ref (S := ⟨(sto os l0 l1).length, sto os l0 l1⟩) sa.c
  unfold m_Store_add
  rw [fn_at (k := 2) rfl, ev]
  simp only [at_dDrop, at_dBM, at_dOp, at_dUn, at_dVar, at_dCons, at_dNil, bnd_some, List.getElem?_cons_zero, List.getElem?_cons_succ, so_changes sa, fa, so_ix1 sa, ty, if_true, ap, frame_nx]
  have el : (sto os l0 (l1 ++ [c])).length = (sto os l0 l1).length := by simp only [sto, List.length_append, List.length_cons]
  show some (D.p .non, (⟨b, (sto os l0 (l1 ++ [c])).take (sto os l0 l1).length⟩ : SH)) = _
  rw [← el, List.take_length]
end Kb
namespace Kb
open PySem PySem.Spec PyProof.Rows L2 Pv
theorem comp_rx {elt : ME} {σ : En} {S : SH} {j : Nat} {n : Nat} {α : Type} (fd : α → D) (fv : α → D) (xs : List α) (hl : xs.length ≤ sizeLine) (hn : S.os[n]? = some (.lst (xs.map fd))) (h : ∀ x ∈ xs, elt (σ.set j (some (fd x))) S = some (fv x, S)) :
    compL (srcR n xs.length).fin (gNm j) dYes elt σ (srcR n xs.length).items [] S = some (xs.map fv, S) := by
  have hlen : (xs.map fd).length = xs.length := List.length_map _
  have fin : (srcR n xs.length).fin S = true := by
    rw [← hlen]
    exact fin_r hn
  have cp := comp_all (t := dYes) (elt := elt) (g := gNm j) (fin := (srcR n xs.length).fin) (S := S) (σ := σ) (fun _ => true) (fun i : Nat => match xs[i]? with | some x => fv x | none => .p .non) (itemR n xs.length) fin (List.range xs.length) [] (by rw [List.length_nil, Nat.zero_add, List.length_range]; exact hl) (fun i hi => by
    have h1 : i < xs.length := List.mem_range.mp hi
    have hd : xs[i]? = some xs[i] := List.getElem?_eq_getElem h1
    have hd2 : (xs.map fd)[i]? = some (fd xs[i]) := by rw [List.getElem?_map, hd]; rfl
    have ir := item_r (S := S) hn hd2
    rw [hlen] at ir
    refine ⟨fd xs[i], _, ir, rfl, rfl, fun _ => ?_⟩
    rw [hd]
    exact h _ (List.getElem_mem h1))
  have ei : (srcR n xs.length).items = (List.range xs.length).map (itemR n xs.length) := rfl
  rw [← ei, List.filter_eq_self.mpr fun _ _ => rfl, List.nil_append] at cp
  rw [cp]
  congr 2
  refine List.ext_getElem? fun i => ?_
  rw [List.getElem?_map, List.getElem?_map]
  by_cases hi : i < xs.length
  · rw [List.getElem?_range hi, List.getElem?_eq_getElem hi]
    simp only [Option.map_some, List.getElem?_eq_getElem hi]
  · rw [List.getElem?_eq_none (by rw [List.length_range]; omega), List.getElem?_eq_none (by omega)]
    rfl
section
variable {n : Nat} {l0 l1 : List Chg}
theorem cut_ix (i : Nat) (hi : i < 2) (T : SH) : fIx (.p (.lst (natsP [0, 0]))) (.p (.int (i : Int))) T = some (.p (.int 0), T) := by
  have h : i = 0 ∨ i = 1 := by omega
  rcases h with rfl | rfl <;> exact fIx_l rfl
theorem count_0 (S : SH) (h : StoAt S.os n l0 l1) : m_Store_count [.ref n, .p (.int ((0 : Nat) : Int))] S = some (.p (.int (l0.length : Int)), S) := by
  have ev : startD 2 [.ref n, .p (.int ((0 : Nat) : Int))] = [some (.ref n), some (.p (.int ((0 : Nat) : Int)))] := rfl
  have fl := len_r (S := ⟨S.os.length, S.os⟩) h.a
  rw [List.length_map] at fl
  unfold m_Store_count
  rw [fn_at (k := 2) rfl, ev]
  simp only [at_dRet, at_dOp, at_dUn, at_dVar, at_dCall, at_dCons, at_dNil, bnd_some, List.getElem?_cons_zero, List.getElem?_cons_succ, so_cut h, so_changes h, cut_ix 0 (by decide), so_ix0 h, fl, fAdd_i, Int.zero_add, frame_p, cut_self]
theorem count_1 (S : SH) (h : StoAt S.os n l0 l1) : m_Store_count [.ref n, .p (.int ((1 : Nat) : Int))] S = some (.p (.int (l1.length : Int)), S) := by
  have ev : startD 2 [.ref n, .p (.int ((1 : Nat) : Int))] = [some (.ref n), some (.p (.int ((1 : Nat) : Int)))] := rfl
  have fl := len_r (S := ⟨S.os.length, S.os⟩) h.c
  rw [List.length_map] at fl
  unfold m_Store_count
  rw [fn_at (k := 2) rfl, ev]
  simp only [at_dRet, at_dOp, at_dUn, at_dVar, at_dCall, at_dCons, at_dNil, bnd_some, List.getElem?_cons_zero, List.getElem?_cons_succ, so_cut h, so_changes h, cut_ix 1 (by decide), so_ix1 h, fl, fAdd_i, Int.zero_add, frame_p, cut_self]
theorem counts_eq (S : SH) (h : StoAt S.os n l0 l1) : m_Store_counts [.ref n] S = some (.p (.lst (natsP [l0.length, l1.length])), S) := by
  have ev : startD 2 [.ref n] = [some (.ref n), none] := rfl
  have rz2 : ∀ T, rng1 [.p (.int 2)] T = some (srcN 0 2, T) := fun T => srt_rng 2 (by decide)
  have fl : fldsOf (.ref n) ⟨S.os.length, S.os⟩ = some (2, stoF n) := flds_r (S := ⟨S.os.length, S.os⟩) h.o
  have lk : (stoF n).lookup ("count" : Str) = none := rfl
  have cp : compL (srcN 0 2).fin (gNm 1) dYes (dMeth 2 "count" m_Store_count (dVar 0) (dCons (dVar 1) dNil)) [some (.ref n), none] (srcN 0 2).items [] ⟨S.os.length, S.os⟩ = some ((natsP [l0.length, l1.length]).map D.p, ⟨S.os.length, S.os⟩) := by
    rw [comp_rng (S := ⟨S.os.length, S.os⟩) (j := 1) (t := dYes) (elt := (dMeth 2 "count" m_Store_count (dVar 0) (dCons (dVar 1) dNil))) (σ := [some (.ref n), none]) (fun _ => true) (fun i => D.p (.int ((if i = 0 then l0.length else l1.length : Nat) : Int))) 2 (small (by omega)) (fun i hi => ⟨rfl, fun _ => by
      have h01 : i = 0 ∨ i = 1 := by omega
      simp only [at_dMeth, at_dVar, at_dCons, at_dNil, bnd_some, List.set_cons_zero, List.set_cons_succ, List.getElem?_cons_zero, List.getElem?_cons_succ, fl, lk, and_self, if_true]
      rcases h01 with rfl | rfl
      · exact count_0 ⟨S.os.length, S.os⟩ h
      · exact count_1 ⟨S.os.length, S.os⟩ h⟩)]
    rfl
  have nl := fun T => newL_f (S := T) (natsP [l0.length, l1.length]) (small (show 2 ≤ 1000000 by decide))
  unfold m_Store_counts
  rw [fn_at (k := 1) rfl, ev]
  simp only [at_dRet, at_dComp, at_dRng1, at_dCons, at_dUn, at_dVar, at_dNil, bnd_some, List.getElem?_cons_zero, so_members h, rz2, wipeD, List.set_cons_zero, List.set_cons_succ, cp, nl, frame_p, cut_self]
theorem find_eq (S : SH) (h : StoAt S.os n l0 l1) (k : Nat) (c : Chg) (hk : l0[k]? = some c) : m_Store_find [.ref n, .p (.tup (natsP [0, k + 1]))] S = some (.p (chgP c), S) := by
  have ev : startD 5 [.ref n, .p (.tup (natsP [0, k + 1]))] = [some (.ref n), some (.p (.tup (natsP [0, k + 1]))), none, none, none] := rfl
  have hlt : k < l0.length := by
    by_cases h' : k < l0.length
    · exact h'
    · rw [List.getElem?_eq_none (by omega)] at hk
      cases hk
  have fl := len_r (S := ⟨S.os.length, S.os⟩) h.a
  rw [List.length_map] at fl
  have em : (natsP [0, k + 1]).map D.p = [.p (.int ((0 : Nat) : Int)), .p (.int ((k + 1 : Nat) : Int))] := rfl
  have el : (natsP [0, k + 1]).length = 2 := rfl
  have le0 : ∀ T, fLe (.p (.int 0)) (.p (.int ((0 : Nat) : Int))) T = some (.p (.bl true), T) := fun T => rfl
  have lt0 : ∀ T, fLt (.p (.int ((0 : Nat) : Int))) (.p (.int 2)) T = some (.p (.bl true), T) := fun T => rfl
  have e1 : ((k + 1 : Nat) : Int) - 0 - 1 = (k : Int) := by omega
  have sb1 : ∀ T, fSub (.p (.int ((k + 1 : Nat) : Int))) (.p (.int 0)) T = some (.p (.int (((k + 1 : Nat) : Int) - 0)), T) := fun T => rfl
  have sb2 : ∀ T, fSub (.p (.int (((k + 1 : Nat) : Int) - 0))) (.p (.int 1)) T = some (.p (.int (k : Int)), T) := fun T => by
    rw [← e1]
    rfl
  have le1 : ∀ T, fLe (.p (.int 0)) (.p (.int (k : Int))) T = some (.p (.bl true), T) := fun T => (fII_eq _ _ _ _ T).trans (by rw [if_pos rfl, decide_eq_true (by omega)])
  have lt1 : ∀ T, fLt (.p (.int (k : Int))) (.p (.int (l0.length : Int))) T = some (.p (.bl true), T) := fun T => (fII_eq _ _ _ _ T).trans (by rw [if_pos rfl, decide_eq_true (by omega)])
  have xi : fIx (.ref (n + 1)) (.p (.int (k : Int))) ⟨S.os.length, S.os⟩ = some (.p (chgP c), ⟨S.os.length, S.os⟩) := fIx_ri (S := ⟨S.os.length, S.os⟩) h.a (by omega) (by
    have e : (k : Int).toNat = k := by omega
    rw [e, List.getElem?_map, hk]
    rfl)
  unfold m_Store_find
  rw [fn_at (k := 2) rfl, ev]
  simp only [at_dSeq, at_dAsg, at_dVar, bnd_some, List.getElem?_cons_zero, List.getElem?_cons_succ, at_gTp, el, if_true, em, at_gCn, at_gNm, at_gNl, List.set_cons_zero, List.set_cons_succ, seqK_nx, at_dIf, at_dNot, at_dTest, at_dChain, at_dC, at_dUn, le0, toB_p, so_members h, lt0, Bool.not_true, Bool.false_eq_true, if_false, at_dNx, at_dSet, at_dOp, so_cut h, cut_ix 0 (by decide), sb1, sb2, at_dCall, at_dCons, at_dNil, so_changes h, so_ix0 h, fl, le1, lt1, at_dRet, xi, seqK_ret, frame_p, cut_self]
end
end Kb
namespace Kb
open PySem PySem.Spec PyProof.Rows L2 Pv
/-! names of changes with an unknown part -/
def unk (j : Nat) (c : Chg) : Bool := match c.parts[j]? with
  | some none => true
  | _ => false
def unkN (j : Nat) (l : List Chg) : List (List Nat) := (l.filter (unk j)).map fun c => [c.au, c.nu]
def namP (ls : List (List Nat)) : List P := ls.map fun l => .tup (natsP l)
theorem unkN_len (j : Nat) (l : List Chg) : (unkN j l).length ≤ l.length := by
  unfold unkN
  rw [List.length_map]
  exact List.length_filter_le _ _
theorem unkN_snoc (j : Nat) (l : List Chg) (c : Chg) : unkN j (l ++ [c]) = unkN j l ++ (if unk j c = true then [[c.au, c.nu]] else []) := by
  unfold unkN
  rw [List.filter_append, List.map_append]
  by_cases h : unk j c = true
  · rw [if_pos h, List.filter_cons, if_pos h]
    rfl
  · rw [if_neg h, List.filter_cons, if_neg h]
    rfl
abbrev unB : MS := (dIf (dTest (dOp (fIs false) (dOp fIx (dUn (dFld [0] "parts") (dVar 4)) (dVar 1)) (dC .non)))
      (dDrop (dBM "list" fApp (dVar 2) (dCons (dMeth 0 "name" m_Change_name (dVar 4) dNil) dNil)))
      dNx)
theorem un_step (b : Nat) (os : List Ob) (j : Nat) (hj : j < 4) (acc : List (List Nat)) (ha : acc.length ≤ 1000) (c : Chg) (hc : c.parts.length = 4) : ∃ σ2, unB [none, some (.p (.int (j : Int))), some (.ref os.length), none, some (.p (chgP c))] ⟨b, os ++ [.lst ((namP acc).map D.p)]⟩ = some (.nx σ2, ⟨b, os ++ [.lst ((namP (acc ++ (if unk j c = true then [[c.au, c.nu]] else []))).map D.p)]⟩) ∧ wipeD [0, 3, 4] σ2 = [none, some (.p (.int (j : Int))), some (.ref os.length), none, none] := by
  refine ⟨[none, some (.p (.int (j : Int))), some (.ref os.length), none, some (.p (chgP c))], ?_, rfl⟩
  have ft : ∀ S, dFld [0] "parts" (.p (chgP c)) S = some (.p (.tup (c.parts.map ptP)), S) := fun S => f_parts _ _ _ _ _ _ S
  have hp : j < c.parts.length := by omega
  have hx : c.parts[j]? = some c.parts[j] := List.getElem?_eq_getElem hp
  have ix : ∀ S, fIx (.p (.tup (c.parts.map ptP))) (.p (.int (j : Int))) S = some (.p (ptP c.parts[j]), S) := fun S => fIx_t (by rw [List.getElem?_map, hx]; rfl)
  have ty := isTy_ref (at_last b os (.lst ((namP acc).map D.p)))
  have fl : ∀ S, fldsOf (.p (chgP c)) S = some (0, (insG (.int (c.au : Int)) (.int (c.nu : Int)) (optP c.cap) (natsP c.heard) (c.pubs.map pubP) (c.parts.map ptP)).map fun p => (p.1, .p p.2)) := fun _ => rfl
  have lk : ((insG (.int (c.au : Int)) (.int (c.nu : Int)) (optP c.cap) (natsP c.heard) (c.pubs.map pubP) (c.parts.map ptP)).map fun p => (p.1, D.p p.2)).lookup ("name" : Str) = none := rfl
  have nm : ∀ S, m_Change_name [.p (chgP c)] S = some (.p (.tup (natsP [c.au, c.nu])), S) := fun S => name_eq _ _ _ _ _ _ S
  have nl : (namP acc).length = acc.length := List.length_map _
  cases e : c.parts[j] with
  | none =>
    have u : unk j c = true := by
      unfold unk
      rw [hx, e]
    have ap : fApp [.ref os.length, .p (.tup (natsP [c.au, c.nu]))] ⟨b, os ++ [.lst ((namP acc).map D.p)]⟩ = some (.p .non, ⟨b, os ++ [.lst ((namP (acc ++ [[c.au, c.nu]])).map D.p)]⟩) := by
      rw [fApp_p (at_last b os _) (by rw [List.length_map, nl]; have := line_ge; omega), put_last]
      simp only [namP, List.map_append]
      rfl
    rw [e] at ix
    simp only [at_dIf, at_dTest, at_dOp, at_dUn, at_dVar, at_dC, bnd_some, List.getElem?_cons_zero, List.getElem?_cons_succ, ft, ix, ptP, fIs, isNon, toB_p, Bool.false_eq_true, if_false, if_true, at_dDrop, at_dBM, ty, at_dCons, at_dMeth, fl, lk, and_self, at_dNil, nm, ap, u]
  | some as =>
    have u : unk j c = false := by
      unfold unk
      rw [hx, e]
    rw [e] at ix
    simp only [at_dIf, at_dTest, at_dOp, at_dUn, at_dVar, at_dC, bnd_some, List.getElem?_cons_zero, List.getElem?_cons_succ, ft, ix, ptP, fIs, isNon, toB_p, Bool.false_eq_true, if_false, at_dNx, u, List.append_nil]
theorem un_inner (b : Nat) (os : List Ob) (m : Nat) (l : List Chg) (hm : os[m]? = some (chO l)) (j : Nat) (hj : j < 4) (acc : List (List Nat)) (ha : acc.length + l.length ≤ 1000) (hc : ∀ c ∈ l, c.parts.length = 4) : forL [0, 3, 4] (srcR m l.length).fin (gNm 4) unB (srcR m l.length).items [none, some (.p (.int (j : Int))), some (.ref os.length), none, none] ⟨b, os ++ [.lst ((namP acc).map D.p)]⟩ =
    some (.nx [none, some (.p (.int (j : Int))), some (.ref os.length), none, none], ⟨b, os ++ [.lst ((namP (acc ++ unkN j l)).map D.p)]⟩) := by
  have hl : (l.map fun c => D.p (chgP c)).length = l.length := List.length_map _
  obtain ⟨σ', S', h1, rfl, rfl⟩ := r_inv (g := gNm 4) (body := unB) (ws := [0, 3, 4]) (fun i σ S' => σ = [none, some (.p (.int (j : Int))), some (.ref os.length), none, none] ∧ S' = ⟨b, os ++ [.lst ((namP (acc ++ unkN j (l.take i))).map D.p)]⟩) m (l.map fun c => D.p (chgP c))
    (σ := [none, some (.p (.int (j : Int))), some (.ref os.length), none, none]) (S := ⟨b, os ++ [.lst ((namP acc).map D.p)]⟩) ⟨rfl, by simp [unkN]⟩ (by
      rintro i σ S1 ⟨rfl, rfl⟩
      exact get_app hm) (by
      rintro i q σ S1 hq ⟨rfl, rfl⟩
      rw [List.getElem?_map] at hq
      cases e : l[i]? with
      | none => rw [e] at hq; cases hq
      | some c =>
      rw [e] at hq
      cases hq
      have ul := unkN_len j (l.take i)
      have ul2 := List.length_take_le' i l
      obtain ⟨σ2, a, a2⟩ := un_step b os j hj (acc ++ unkN j (l.take i)) (by rw [List.length_append]; omega) c (hc c (List.mem_of_getElem? e))
      have et : l.take (i + 1) = l.take i ++ [c] := by
        rw [List.take_add_one, e]
        rfl
      rw [List.append_assoc, ← unkN_snoc, ← et] at a
      exact ⟨_, rfl, σ2, _, .inl a, a2, rfl⟩)
  rw [hl] at h1
  rw [List.take_length] at h1
  exact h1
theorem unk_eq {n : Nat} {l0 l1 : List Chg} (S : SH) (h : StoAt S.os n l0 l1) (j : Nat) (hj : j < 4) (hl : l0.length + l1.length ≤ 1000) (h0 : ∀ c ∈ l0, c.parts.length = 4) (h1 : ∀ c ∈ l1, c.parts.length = 4) : m_unknown_names [.ref n, .p (.int (j : Int))] S = some (.p (.lst (namP (unkN j l0 ++ unkN j l1))), S) := by
  have ev : startD 5 [.ref n, .p (.int (j : Int))] = [some (.ref n), some (.p (.int (j : Int))), none, none, none] := rfl
  have nl4 : newL true [] ⟨S.os.length, S.os⟩ = some (.ref S.os.length, ⟨S.os.length, S.os ++ [.lst []]⟩) := newL_t [] (small (by simp))
  have hx := h.app [.lst []]
  have src := src_r (S := ⟨S.os.length, S.os ++ [.lst []]⟩) hx.d
  have u0 := unkN_len j l0
  obtain ⟨σ', S', q1, rfl, rfl⟩ := r_inv (g := gNm 3) (body := (dFor [0, 3, 4] (dIt (dVar 3)) (gNm 4) unB)) (ws := [0, 3, 4]) (fun i σ S' => σ = [none, some (.p (.int (j : Int))), some (.ref S.os.length), none, none] ∧ S' = ⟨S.os.length, S.os ++ [.lst ((namP (if i = 0 then [] else if i = 1 then unkN j l0 else unkN j l0 ++ unkN j l1)).map D.p)]⟩) (n + 3) [.ref (n + 1), .ref (n + 2)]
    (σ := [none, some (.p (.int (j : Int))), some (.ref S.os.length), none, none]) (S := ⟨S.os.length, S.os ++ [.lst []]⟩) ⟨rfl, rfl⟩ (by
      rintro i σ S1 ⟨rfl, rfl⟩
      exact get_app h.d) (by
      rintro i q σ S1 hq ⟨rfl, rfl⟩
      have hi : i = 0 ∨ i = 1 := by
        by_cases h' : i < 2
        · omega
        · rw [List.getElem?_eq_none (by show 2 ≤ i; omega)] at hq
          cases hq
      rcases hi with rfl | rfl
      · cases hq
        have e := un_inner S.os.length S.os (n + 1) l0 h.a j hj [] (by rw [List.length_nil]; omega) h0
        have s := src_r (S := ⟨S.os.length, S.os ++ [.lst ((namP []).map D.p)]⟩) (get_app h.a)
        rw [List.length_map] at s
        refine ⟨_, rfl, [none, some (.p (.int (j : Int))), some (.ref S.os.length), none, none], _, .inl ?_, rfl, rfl⟩
        simp only [at_dFor, at_dIt, at_dVar, bnd_some, List.set_cons_zero, List.set_cons_succ, List.getElem?_cons_zero, List.getElem?_cons_succ, if_true, s, wipeD, e, List.nil_append]
        rfl
      · cases hq
        have e := un_inner S.os.length S.os (n + 2) l1 h.c j hj (unkN j l0) (by omega) h1
        have s := src_r (S := ⟨S.os.length, S.os ++ [.lst ((namP (unkN j l0)).map D.p)]⟩) (get_app h.c)
        rw [List.length_map] at s
        refine ⟨_, rfl, [none, some (.p (.int (j : Int))), some (.ref S.os.length), none, none], _, .inl ?_, rfl, rfl⟩
        show (dFor [0, 3, 4] (dIt (dVar 3)) (gNm 4) unB) [none, some (.p (.int (j : Int))), some (.ref S.os.length), some (.ref (n + 2)), none] ⟨S.os.length, S.os ++ [.lst ((namP (unkN j l0)).map D.p)]⟩ = some (.nx _, ⟨S.os.length, S.os ++ [.lst ((namP (unkN j l0 ++ unkN j l1)).map D.p)]⟩)
        simp only [at_dFor, at_dIt, at_dVar, bnd_some, List.set_cons_zero, List.set_cons_succ, List.getElem?_cons_zero, List.getElem?_cons_succ, s, wipeD, e])
  have q1' : forL [0, 3, 4] (srcR (n + 3) [D.ref (n + 1), D.ref (n + 2)].length).fin (gNm 3) (dFor [0, 3, 4] (dIt (dVar 3)) (gNm 4) unB) (srcR (n + 3) [D.ref (n + 1), D.ref (n + 2)].length).items [none, some (.p (.int (j : Int))), some (.ref S.os.length), none, none] ⟨S.os.length, S.os ++ [.lst []]⟩ = some (.nx [none, some (.p (.int (j : Int))), some (.ref S.os.length), none, none], ⟨S.os.length, S.os ++ [.lst ((namP (unkN j l0 ++ unkN j l1)).map D.p)]⟩) := q1
  unfold m_unknown_names
  rw [fn_at (k := 2) rfl, ev]
  simp only [at_dSeq, at_dSet, at_dLst, at_dNil, bnd_some, nl4, List.set_cons_zero, List.set_cons_succ, seqK_nx]
  rw [at_dFor]
  simp only [at_dIt, at_dUn, at_dVar, bnd_some, List.getElem?_cons_zero, List.getElem?_cons_succ, so_changes hx, src, wipeD, List.set_cons_zero, List.set_cons_succ]
  rw [q1', bnd_some, seqK_nx]
  simp only [at_dRet, at_dVar, bnd_some, List.getElem?_cons_zero, List.getElem?_cons_succ]
  rw [frame_ref (Nat.le_refl _) (at_last _ _ _), cut_app]
end Kb
namespace Kb
open PySem PySem.Spec PyProof.Rows L2 Pv
/-! the packet that asks -/
structure OkL (l : List Chg) : Prop where
  len : l.length ≤ 4
  ok : ∀ c ∈ l, OkC c ∧ c.parts.length = 4
theorem OkL.p {l : List Chg} (h : OkL l) : ∀ c ∈ l, c.parts.length = 4 := fun c hc => (h.ok c hc).2
def unE (l0 l1 : List Chg) (j : Nat) : List Int := encL ((unkN j l0 ++ unkN j l1).map enc)
def askH (m : Nat) (l0 l1 : List Chg) : List Int := [1] ++ wnd 60 m ++ encL ([0, 0].map (wnd 60)) ++ encL ([l0.length, l1.length].map (wnd 60))
def askE (m : Nat) (l0 l1 : List Chg) : List Int := askH m l0 l1 ++ [1, 1, 1, 1] ++ ((List.range 4).map (unE l0 l1)).flatten
theorem unk_big {j : Nat} {l0 l1 : List Chg} (h0 : OkL l0) (h1 : OkL l1) : ∀ x ∈ unkN j l0 ++ unkN j l1, ∃ a b, x = [a, b] ∧ a < Big ∧ b < Big := by
  intro x hx
  rcases List.mem_append.mp hx with hx | hx
  · obtain ⟨c, hc, rfl⟩ := List.mem_map.mp hx
    have o := (h0.ok c ((List.mem_filter.mp hc).1)).1
    exact ⟨_, _, rfl, o.au, o.nu⟩
  · obtain ⟨c, hc, rfl⟩ := List.mem_map.mp hx
    have o := (h1.ok c ((List.mem_filter.mp hc).1)).1
    exact ⟨_, _, rfl, o.au, o.nu⟩
theorem un_len {l0 l1 : List Chg} (h0 : OkL l0) (h1 : OkL l1) (j : Nat) : (unkN j l0 ++ unkN j l1).length ≤ 8 ∧ ((unkN j l0 ++ unkN j l1).map enc).flatten.length ≤ 976 ∧ (unE l0 l1 j).length ≤ 1100 := by
  have a := unkN_len j l0
  have b := unkN_len j l1
  have c := h0.len
  have d := h1.len
  have l : (unkN j l0 ++ unkN j l1).length ≤ 8 := by rw [List.length_append]; omega
  have f := flat_bound enc 122 (unkN j l0 ++ unkN j l1) fun x hx => by
    obtain ⟨p, q, rfl, _, _⟩ := unk_big h0 h1 x hx
    have := enc_len [p, q]
    simpa using this
  have e := encL_len ((unkN j l0 ++ unkN j l1).map enc)
  refine ⟨l, by omega, ?_⟩
  unfold unE
  omega
theorem askH_len (m : Nat) (l0 l1 : List Chg) : (askH m l0 l1).length ≤ 1000 := by
  have a := wnd_len 60 m
  have b1 := encL_len ([0, 0].map (wnd 60))
  have b2 := encL_len ([l0.length, l1.length].map (wnd 60))
  have c1 := flat_bound (wnd 60) 61 [0, 0] fun x _ => wnd_len 60 x
  have c2 := flat_bound (wnd 60) 61 [l0.length, l1.length] fun x _ => wnd_len 60 x
  simp only [List.length_cons, List.length_nil] at c1 c2
  simp only [askH, List.length_append, List.length_cons, List.length_nil]
  omega
theorem ask_kept (b : Nat) (os : List Ob) (n : Nat) (h : List Int) (hl : h.length ≤ 1000) : forL [1, 3, 4] (srcP [kpP k0, kpP k0, kpP k0, kpP k0]).fin (gNm 3) (dDrop (dBM "list" fApp (dVar 2) (dCons (dCall fInt (dCons (dOp (fIs true) (dVar 3) (dC .non)) dNil)) dNil))) (srcP [kpP k0, kpP k0, kpP k0, kpP k0]).items [some (.ref n), none, some (.ref os.length), none, none, none, none] ⟨b, os ++ [.lst ((intsP h).map D.p)]⟩ =
    some (.nx [some (.ref n), none, some (.ref os.length), none, none, none, none], ⟨b, os ++ [.lst ((intsP (h ++ [1, 1, 1, 1])).map D.p)]⟩) := by
  obtain ⟨σ', S', h1, rfl, rfl⟩ := p_inv (body := (dDrop (dBM "list" fApp (dVar 2) (dCons (dCall fInt (dCons (dOp (fIs true) (dVar 3) (dC .non)) dNil)) dNil)))) (ws := [1, 3, 4]) (j := 3) (fun i σ S' => σ = [some (.ref n), none, some (.ref os.length), none, none, none, none] ∧ S' = ⟨b, os ++ [.lst ((intsP (h ++ List.replicate i 1)).map D.p)]⟩) [kpP k0, kpP k0, kpP k0, kpP k0]
    (σ := [some (.ref n), none, some (.ref os.length), none, none, none, none]) (S := ⟨b, os ++ [.lst ((intsP h).map D.p)]⟩) ⟨rfl, by simp⟩ (by
      rintro i q σ S1 hq ⟨rfl, rfl⟩
      have hi : i < 4 := by
        by_cases h' : i < 4
        · exact h'
        · rw [List.getElem?_eq_none (by show 4 ≤ i; omega)] at hq
          cases hq
      have eq : q = kpP k0 := by
        have := List.mem_of_getElem? hq
        simp only [List.mem_cons, List.mem_nil_iff, or_false, or_self] at this
        exact this
      subst eq
      have nn : isNon (.p (kpP k0)) = false := rfl
      have ty := isTy_ref (at_last b os (.lst ((intsP (h ++ List.replicate i 1)).map D.p)))
      have ap := app_i b os (h ++ List.replicate i 1) 1 (by rw [List.length_append, List.length_replicate]; omega)
      rw [List.append_assoc, ← List.replicate_succ'] at ap
      refine ⟨[some (.ref n), none, some (.ref os.length), some (.p (kpP k0)), none, none, none], _, .inl ?_, rfl, rfl⟩
      simp only [at_dDrop, at_dBM, at_dVar, at_dCons, at_dC, at_dOp, at_dCall, at_dNil, bnd_some, List.getElem?_cons_zero, List.getElem?_cons_succ, List.set_cons_zero, List.set_cons_succ, ty, if_true, fIs, nn, Bool.not_false, fInt_b, ap])
  exact h1
abbrev aB : MS := (dDrop (dBM "list" fExt (dVar 2) (dCons (dCall m_write_list (dCons (dComp false (dIt (dCall m_unknown_names (dCons (dVar 0) (dCons (dVar 4) dNil)))) (gNm 6) dYes (dCall m_write_numbers (dCons (dVar 6) dNil)) [6]) dNil)) dNil)))
theorem ask_un (b : Nat) (os : List Ob) (n : Nat) (l0 l1 : List Chg) (hs : StoAt os n l0 l1) (h0 : OkL l0) (h1 : OkL l1) (h : List Int) (hl : h.length ≤ 2000) : forL [1, 3, 4] (srcN 0 4).fin (gNm 4) aB (srcN 0 4).items [some (.ref n), none, some (.ref os.length), none, none, none, none] ⟨b, os ++ [.lst ((intsP h).map D.p)]⟩ =
    some (.nx [some (.ref n), none, some (.ref os.length), none, none, none, none], ⟨b, os ++ [.lst ((intsP (h ++ ((List.range 4).map (unE l0 l1)).flatten)).map D.p)]⟩) := by
  obtain ⟨σ', S', q1, rfl, rfl⟩ := rng0_inv (body := aB) (ws := [1, 3, 4]) (j := 4) (fun i σ S' => σ = [some (.ref n), none, some (.ref os.length), none, none, none, none] ∧ S' = ⟨b, os ++ [.lst ((intsP (h ++ ((List.range i).map (unE l0 l1)).flatten)).map D.p)]⟩) 4
    (σ := [some (.ref n), none, some (.ref os.length), none, none, none, none]) (S := ⟨b, os ++ [.lst ((intsP h).map D.p)]⟩) ⟨rfl, by simp⟩ (by
      rintro i σ S1 hi ⟨rfl, rfl⟩
      obtain ⟨u1, u2, u3⟩ := un_len h0 h1 i
      have fb := flat_bound (unE l0 l1) 1100 (List.range i) fun x _ => (un_len h0 h1 x).2.2
      rw [List.length_range] at fb
      have c0 := h0.len
      have c1 := h1.len
      have ty := isTy_ref (at_last b os (.lst ((intsP (h ++ ((List.range i).map (unE l0 l1)).flatten)).map D.p)))
      have un := unk_eq ⟨b, os ++ [.lst ((intsP (h ++ ((List.range i).map (unE l0 l1)).flatten)).map D.p)]⟩ (hs.app _) i hi (by omega) h0.p h1.p
      have it : ∀ (ps : List P) (T : SH), srcOf (.p (.lst ps)) T = some (srcP ps, T) := fun _ _ => rfl
      have cp : ∀ T, compL (srcP (namP (unkN i l0 ++ unkN i l1))).fin (gNm 6) dYes (dCall m_write_numbers (dCons (dVar 6) dNil)) [some (.ref n), none, some (.ref os.length), none, some (.p (.int (i : Int))), none, none] (srcP (namP (unkN i l0 ++ unkN i l1))).items [] T = some ((lstsP ((unkN i l0 ++ unkN i l1).map enc)).map D.p, T) := fun T => comp_enc (j := 6) (m := m_write_numbers) (σ := [some (.ref n), none, some (.ref os.length), none, some (.p (.int (i : Int))), none, none]) (fun l => P.tup (natsP l)) enc (unkN i l0 ++ unkN i l1) (by omega) (show 6 < 7 by decide) (fun x hx S => by
        obtain ⟨p, q, rfl, hp, hq⟩ := unk_big h0 h1 x hx
        exact wns_eq _ [p, q] (.inr rfl) (by
          intro y hy
          simp only [List.mem_cons, List.mem_nil_iff, or_false] at hy
          rcases hy with rfl | rfl
          · exact hp
          · exact hq) (by simp) S) T
      have nl := fun T => newL_f (S := T) (lstsP ((unkN i l0 ++ unkN i l1).map enc)) (small (by unfold lstsP; rw [List.length_map, List.length_map]; omega))
      have wl := fun T => wl_eq ((unkN i l0 ++ unkN i l1).map enc) (by rw [List.length_map]; omega) (by omega) T
      have ex := ext_last b os (h ++ ((List.range i).map (unE l0 l1)).flatten) (unE l0 l1 i) (by rw [List.length_append]; omega)
      have eu : encL ((unkN i l0 ++ unkN i l1).map enc) = unE l0 l1 i := rfl
      rw [eu] at wl
      have et : h ++ ((List.range i).map (unE l0 l1)).flatten ++ unE l0 l1 i = h ++ ((List.range (i + 1)).map (unE l0 l1)).flatten := by
        rw [List.range_succ, List.map_append, List.flatten_append, List.append_assoc]
        simp
      rw [et] at ex
      refine ⟨[some (.ref n), none, some (.ref os.length), none, some (.p (.int (i : Int))), none, none], _, .inl ?_, rfl, rfl⟩
      simp only [at_dDrop, at_dBM, at_dVar, at_dCons, at_dCall, at_dComp, at_dIt, at_dNil, bnd_some, List.getElem?_cons_zero, List.getElem?_cons_succ, List.set_cons_zero, List.set_cons_succ, ty, if_true, un, it, wipeD, cp, nl, wl, ex])
  exact q1
theorem ask_eq {n : Nat} {l0 l1 : List Chg} (m : Nat) (hm : m < Big) (S : SH) (h : StoAt S.os n l0 l1) (h0 : OkL l0) (h1 : OkL l1) : m_asking [.ref n, .p (.int (m : Int))] S = some (.p (.lst (intsP (askE m l0 l1))), S) := by
  have ev : startD 7 [.ref n, .p (.int (m : Int))] = [some (.ref n), some (.p (.int (m : Int))), none, none, none, none, none] := rfl
  have o1 := one_l 1
  have z := wnd_len 60 m
  have a1 := add_t S.os.length S.os [1] (wnd 60 m) (by simp only [List.length_cons, List.length_nil]; omega)
  have c0 := h0.len
  have c1 := h1.len
  have it : ∀ (ps : List P) (T : SH), srcOf (.p (.lst ps)) T = some (srcP ps, T) := fun _ _ => rfl
  let x1 : List Int := [1] ++ wnd 60 m
  let x2 : List Int := x1 ++ encL ([0, 0].map (wnd 60))
  have b1 := encL_len ([0, 0].map (wnd 60))
  have b2 := encL_len ([l0.length, l1.length].map (wnd 60))
  have f1 := flat_bound (wnd 60) 61 [0, 0] fun x _ => wnd_len 60 x
  have f2 := flat_bound (wnd 60) 61 [l0.length, l1.length] fun x _ => wnd_len 60 x
  have g1 : [0, 0].length = 2 := rfl
  have g2 : [l0.length, l1.length].length = 2 := rfl
  rw [g1] at f1
  rw [g2] at f2
  have ty1 := isTy_ref (at_last S.os.length S.os (.lst ((intsP x1).map D.p)))
  have ty2 := isTy_ref (at_last S.os.length S.os (.lst ((intsP x2).map D.p)))
  have cp1 : ∀ T, compL (srcP (natsP [0, 0])).fin (gNm 5) dYes (dCall m_write_number (dCons (dVar 5) dNil)) [some (.ref n), some (.p (.int (m : Int))), some (.ref S.os.length), none, none, none, none] (srcP (natsP [0, 0])).items [] T = some ((lstsP ([0, 0].map (wnd 60))).map D.p, T) := fun T => comp_enc (j := 5) (m := m_write_number) (σ := [some (.ref n), some (.p (.int (m : Int))), some (.ref S.os.length), none, none, none, none]) (fun (k : Nat) => P.int (k : Int)) (wnd 60) [0, 0] (by decide) (show 5 < 7 by decide) (fun x hx => gives_wn x (by simp only [List.mem_cons, List.mem_nil_iff, or_false, or_self] at hx; exact big_of (by omega))) T
  have cp2 : ∀ T, compL (srcP (natsP [l0.length, l1.length])).fin (gNm 5) dYes (dCall m_write_number (dCons (dVar 5) dNil)) [some (.ref n), some (.p (.int (m : Int))), some (.ref S.os.length), none, none, none, none] (srcP (natsP [l0.length, l1.length])).items [] T = some ((lstsP ([l0.length, l1.length].map (wnd 60))).map D.p, T) := fun T => comp_enc (j := 5) (m := m_write_number) (σ := [some (.ref n), some (.p (.int (m : Int))), some (.ref S.os.length), none, none, none, none]) (fun (k : Nat) => P.int (k : Int)) (wnd 60) [l0.length, l1.length] (show 2 ≤ 1000 by decide) (show 5 < 7 by decide) (fun x hx => gives_wn x (by simp only [List.mem_cons, List.mem_nil_iff, or_false] at hx; exact big_of (by omega))) T
  have nl1 := fun T => newL_f (S := T) (lstsP ([0, 0].map (wnd 60))) (small (show 2 ≤ 1000000 by decide))
  have nl2 := fun T => newL_f (S := T) (lstsP ([l0.length, l1.length].map (wnd 60))) (small (show 2 ≤ 1000000 by decide))
  have wl1 := fun T => wl_eq ([0, 0].map (wnd 60)) (show 2 < 100000 by decide) (by omega) T
  have wl2 := fun T => wl_eq ([l0.length, l1.length].map (wnd 60)) (show 2 < 100000 by decide) (by omega) T
  have e1 := ext_last S.os.length S.os x1 (encL ([0, 0].map (wnd 60))) (by simp only [x1, List.length_append, List.length_cons, List.length_nil]; omega)
  have e2 := ext_last S.os.length S.os x2 (encL ([l0.length, l1.length].map (wnd 60))) (by simp only [x2, x1, List.length_append, List.length_cons, List.length_nil]; omega)
  have t1 : [1] ++ wnd 60 m = x1 := rfl
  have t2 : x1 ++ encL ([0, 0].map (wnd 60)) = x2 := rfl
  have t3 : x2 ++ encL ([l0.length, l1.length].map (wnd 60)) = askH m l0 l1 := rfl
  rw [t1] at a1
  rw [t2] at e1
  rw [t3] at e2
  have h1' := h.app [.lst ((intsP x1).map D.p)]
  have h2' := h.app [.lst ((intsP x2).map D.p)]
  have h3' := h.app [.lst ((intsP (askH m l0 l1)).map D.p)]
  have fl : fldsOf (.ref n) ⟨S.os.length, S.os ++ [.lst ((intsP x2).map D.p)]⟩ = some (2, stoF n) := flds_r (S := ⟨S.os.length, S.os ++ [.lst ((intsP x2).map D.p)]⟩) h2'.o
  have lk : (stoF n).lookup ("counts" : Str) = none := rfl
  have co := counts_eq ⟨S.os.length, S.os ++ [.lst ((intsP x2).map D.p)]⟩ h2'
  have rz4 : ∀ T, rng1 [.p u_SPACES] T = some (srcN 0 4, T) := fun T => srt_rng 4 (by decide)
  have al := askH_len m l0 l1
  have k1 := ask_kept S.os.length S.os n (askH m l0 l1) al
  have k2 := ask_un S.os.length S.os n l0 l1 h h0 h1 (askH m l0 l1 ++ [1, 1, 1, 1]) (by rw [List.length_append]; simp only [List.length_cons, List.length_nil]; omega)
  unfold m_asking
  rw [fn_at (k := 2) rfl, ev, at_dSeq]
  simp only [at_dSet, at_dOp, at_dLst, at_dCons, at_dC, at_dNil, at_dCall, at_dVar, bnd_some, List.getElem?_cons_zero, List.getElem?_cons_succ, o1, wn_eq m hm, a1, List.set_cons_zero, List.set_cons_succ, seqK_nx]
  rw [at_dSeq]
  simp only [at_dDrop, at_dBM, at_dVar, at_dCons, at_dCall, at_dComp, at_dIt, at_dUn, at_dNil, bnd_some, List.getElem?_cons_zero, List.getElem?_cons_succ, ty1, if_true, so_cut h1', it, wipeD, List.set_cons_zero, List.set_cons_succ, cp1, nl1, wl1, e1, seqK_nx]
  rw [at_dSeq]
  simp only [at_dDrop, at_dBM, at_dVar, at_dCons, at_dCall, at_dComp, at_dIt, at_dMeth, at_dNil, bnd_some, List.getElem?_cons_zero, List.getElem?_cons_succ, ty2, if_true, fl, lk, and_self, co, it, wipeD, List.set_cons_zero, List.set_cons_succ, cp2, nl2, wl2, e2, seqK_nx]
  rw [at_dSeq, at_dFor]
  simp only [at_dIt, at_dUn, at_dVar, bnd_some, List.getElem?_cons_zero, List.getElem?_cons_succ, so_kept h3', it, wipeD, List.set_cons_zero, List.set_cons_succ, k1, seqK_nx]
  rw [at_dSeq, at_dFor]
  simp only [at_dRng1, at_dCons, at_dC, at_dNil, bnd_some, rz4, wipeD, List.set_cons_zero, List.set_cons_succ, k2, seqK_nx, at_dRet, at_dVar, List.getElem?_cons_zero, List.getElem?_cons_succ]
  rw [frame_ref (Nat.le_refl _) (at_last _ _ _), cut_app]
  rfl
end Kb
namespace Kb
open PySem PySem.Spec PyProof.Rows L2 Pv
/-! write_store -/
theorem encCh_len (c : Chg) (ok : OkC c) (h : c.parts.length = 4) : (encCh c).length ≤ 140000 := by
  obtain ⟨z1, z2, z3, z4, _⟩ := head_len c ok
  have pf := flat_bound encPt 30100 c.parts fun p hp => by
    cases p with
    | none => simp [encPt]
    | some as =>
      obtain ⟨h1, h2, h3⟩ := ok.tb _ hp as rfl
      have := encL_len (as.map encA)
      simp only [encPt, List.length_append, List.length_cons, List.length_nil]
      omega
  have e : encCh c = head4 c ++ (c.parts.map encPt).flatten := rfl
  rw [e, List.length_append]
  omega
/-- the changes of two members: three at most -/
structure OkS (l0 l1 : List Chg) : Prop where
  h0 : OkL l0
  h1 : OkL l1
  len : l0.length + l1.length ≤ 4
theorem chs_bound (l : List Chg) (h : OkL l) : (l.map encCh).flatten.length ≤ 140000 * l.length := flat_bound encCh 140000 l fun c hc => encCh_len c (h.ok c hc).1 (h.ok c hc).2
def optK : List Int := [1] ++ encK k0
theorem optK_eq (S : SH) : m_write_optional_kept [.p (kpP k0)] S = some (.p (.lst (intsP optK)), S) := by
  have ev : startD 1 [.p (kpP k0)] = [some (.p (kpP k0))] := rfl
  have o1 := one_l 1
  have z := (k_len k0 k0_ok).2.2.2
  have a := fun T => add_l [1] (encK k0) (by simp only [List.length_cons, List.length_nil]; omega) T
  have nn : isNon (.p (kpP k0)) = false := rfl
  unfold m_write_optional_kept
  rw [fn_at (k := 1) rfl, ev]
  simp only [at_dSeq, at_dIf, at_dTest, at_dOp, at_dVar, at_dC, bnd_some, List.getElem?_cons_zero, fIs, nn, toB_p, Bool.false_eq_true, if_false, at_dNx, seqK_nx, at_dRet, at_dLst, at_dCons, at_dNil, at_dCall, o1, wk_eq k0 k0_ok _, a, frame_p, cut_self]
  rfl
theorem optK_len : optK.length ≤ 50001 := by
  have z := (k_len k0 k0_ok).2.2.2
  unfold optK
  simp only [List.length_append, List.length_cons, List.length_nil]
  omega
def stoH : List Int := encL ([0, 0].map (wnd 60)) ++ encL []
def stoK : List Int := stoH ++ (List.replicate 4 optK).flatten
def stoE (l0 l1 : List Chg) : List Int := stoK ++ (encL (l0.map encCh) ++ encL (l1.map encCh))
theorem stoH_len : stoH.length ≤ 1000 := by
  have b1 := encL_len ([0, 0].map (wnd 60))
  have b2 := encL_len []
  have f1 := flat_bound (wnd 60) 61 [0, 0] fun x _ => wnd_len 60 x
  have g1 : [0, 0].length = 2 := rfl
  rw [g1] at f1
  simp only [List.flatten_nil, List.length_nil] at b2
  simp only [stoH, List.length_append]
  omega
theorem rep_len (i : Nat) : (List.replicate i optK).flatten.length ≤ 50001 * i := by
  have := optK_len
  induction i with
  | zero => simp
  | succ i ih =>
    rw [List.replicate_succ, List.flatten_cons, List.length_append]
    omega
theorem sto_kept (b : Nat) (os : List Ob) (y : D) : forL [2, 3] (srcP [kpP k0, kpP k0, kpP k0, kpP k0]).fin (gNm 2) (dDrop (dBM "list" fExt (dVar 1) (dCons (dCall m_write_optional_kept (dCons (dVar 2) dNil)) dNil))) (srcP [kpP k0, kpP k0, kpP k0, kpP k0]).items [some y, some (.ref os.length), none, none, none, none, none] ⟨b, os ++ [.lst ((intsP stoH).map D.p)]⟩ =
    some (.nx [some y, some (.ref os.length), none, none, none, none, none], ⟨b, os ++ [.lst ((intsP stoK).map D.p)]⟩) := by
  have hl := stoH_len
  have ol := optK_len
  obtain ⟨σ', S', h1, rfl, rfl⟩ := p_inv (body := (dDrop (dBM "list" fExt (dVar 1) (dCons (dCall m_write_optional_kept (dCons (dVar 2) dNil)) dNil)))) (ws := [2, 3]) (j := 2) (fun i σ S' => σ = [some y, some (.ref os.length), none, none, none, none, none] ∧ S' = ⟨b, os ++ [.lst ((intsP (stoH ++ (List.replicate i optK).flatten)).map D.p)]⟩) [kpP k0, kpP k0, kpP k0, kpP k0]
    (σ := [some y, some (.ref os.length), none, none, none, none, none]) (S := ⟨b, os ++ [.lst ((intsP stoH).map D.p)]⟩) ⟨rfl, by simp⟩ (by
      rintro i q σ S1 hq ⟨rfl, rfl⟩
      have hi : i < 4 := by
        by_cases h' : i < 4
        · exact h'
        · rw [List.getElem?_eq_none (by show 4 ≤ i; omega)] at hq
          cases hq
      have eq : q = kpP k0 := by
        have := List.mem_of_getElem? hq
        simp only [List.mem_cons, List.mem_nil_iff, or_false, or_self] at this
        exact this
      subst eq
      have rl := rep_len i
      have ty := isTy_ref (at_last b os (.lst ((intsP (stoH ++ (List.replicate i optK).flatten)).map D.p)))
      have ex := ext_last b os (stoH ++ (List.replicate i optK).flatten) optK (by rw [List.length_append]; omega)
      have et : stoH ++ (List.replicate i optK).flatten ++ optK = stoH ++ (List.replicate (i + 1) optK).flatten := by
        rw [List.replicate_succ', List.flatten_append, List.append_assoc]
        simp
      rw [et] at ex
      refine ⟨[some y, some (.ref os.length), some (.p (kpP k0)), none, none, none, none], _, .inl ?_, rfl, rfl⟩
      simp only [at_dDrop, at_dBM, at_dVar, at_dCons, at_dCall, at_dNil, bnd_some, List.getElem?_cons_zero, List.getElem?_cons_succ, List.set_cons_zero, List.set_cons_succ, ty, if_true, optK_eq, ex])
  exact h1
abbrev wsB : MS := (dDrop (dBM "list" fExt (dVar 1) (dCons (dCall m_write_list (dCons (dComp false (dIt (dVar 3)) (gNm 6) dYes (dCall m_write_change (dCons (dVar 6) dNil)) [6]) dNil)) dNil)))
theorem ws_step (b : Nat) (os : List Ob) (m : Nat) (l : List Chg) (hm : os[m]? = some (chO l)) (ok : OkL l) (acc : List Int) (ha : acc.length + 140000 * l.length ≤ 900000) :
    wsB [none, some (.ref os.length), none, some (.ref m), none, none, none] ⟨b, os ++ [.lst ((intsP acc).map D.p)]⟩ = some (.nx [none, some (.ref os.length), none, some (.ref m), none, none, none], ⟨b, os ++ [.lst ((intsP (acc ++ encL (l.map encCh))).map D.p)]⟩) := by
  have cb := chs_bound l ok
  have ll := ok.len
  have el := encL_len (l.map encCh)
  have ty := isTy_ref (at_last b os (.lst ((intsP acc).map D.p)))
  have s := src_r (S := ⟨b, os ++ [.lst ((intsP acc).map D.p)]⟩) (get_app hm)
  rw [List.length_map] at s
  have cp := comp_rx (S := ⟨b, os ++ [.lst ((intsP acc).map D.p)]⟩) (j := 6) (n := m) (elt := (dCall m_write_change (dCons (dVar 6) dNil))) (σ := [none, some (.ref os.length), none, some (.ref m), none, none, none]) (fun c => D.p (chgP c)) (fun c => D.p (.lst (intsP (encCh c)))) l (small (by omega)) (get_app hm) (fun c hc => by
    simp only [at_dCall, at_dCons, at_dVar, at_dNil, bnd_some, List.set_cons_zero, List.set_cons_succ, List.getElem?_cons_zero, List.getElem?_cons_succ]
    exact wch_eq c (ok.ok c hc).1 _)
  have em : l.map (fun c => D.p (.lst (intsP (encCh c)))) = (lstsP (l.map encCh)).map D.p := by
    unfold lstsP
    rw [List.map_map, List.map_map]
    rfl
  rw [em] at cp
  have nl := fun T => newL_f (S := T) (lstsP (l.map encCh)) (small (by unfold lstsP; rw [List.length_map, List.length_map]; omega))
  have wl := fun T => wl_eq (l.map encCh) (by rw [List.length_map]; omega) (by omega) T
  have ex := ext_last b os acc (encL (l.map encCh)) (by omega)
  simp only [at_dDrop, at_dBM, at_dVar, at_dCons, at_dCall, at_dComp, at_dIt, at_dNil, bnd_some, List.getElem?_cons_zero, List.getElem?_cons_succ, ty, if_true, s, wipeD, List.set_cons_zero, List.set_cons_succ, cp, nl, wl, ex]
theorem sto_chs (b : Nat) (os : List Ob) (n : Nat) (l0 l1 : List Chg) (hs : StoAt os n l0 l1) (ok : OkS l0 l1) : forL [0, 2, 3] (srcR (n + 3) 2).fin (gNm 3) wsB (srcR (n + 3) 2).items [none, some (.ref os.length), none, none, none, none, none] ⟨b, os ++ [.lst ((intsP stoK).map D.p)]⟩ =
    some (.nx [none, some (.ref os.length), none, none, none, none, none], ⟨b, os ++ [.lst ((intsP (stoE l0 l1)).map D.p)]⟩) := by
  have hl := stoH_len
  have rl := rep_len 4
  have kl : stoK.length ≤ 202000 := by unfold stoK; rw [List.length_append]; omega
  have sl := ok.len
  have c0 := chs_bound l0 ok.h0
  have c1 := chs_bound l1 ok.h1
  have z0 := encL_len (l0.map encCh)
  obtain ⟨σ', S', h1, rfl, rfl⟩ := r_inv (g := gNm 3) (body := wsB) (ws := [0, 2, 3]) (fun i σ S' => σ = [none, some (.ref os.length), none, none, none, none, none] ∧ S' = ⟨b, os ++ [.lst ((intsP (if i = 0 then stoK else if i = 1 then stoK ++ encL (l0.map encCh) else stoE l0 l1)).map D.p)]⟩) (n + 3) [.ref (n + 1), .ref (n + 2)]
    (σ := [none, some (.ref os.length), none, none, none, none, none]) (S := ⟨b, os ++ [.lst ((intsP stoK).map D.p)]⟩) ⟨rfl, rfl⟩ (by
      rintro i σ S1 ⟨rfl, rfl⟩
      exact get_app hs.d) (by
      rintro i q σ S1 hq ⟨rfl, rfl⟩
      have hi : i = 0 ∨ i = 1 := by
        by_cases h' : i < 2
        · omega
        · rw [List.getElem?_eq_none (by show 2 ≤ i; omega)] at hq
          cases hq
      rcases hi with rfl | rfl
      · cases hq
        exact ⟨_, rfl, _, _, .inl (ws_step b os (n + 1) l0 hs.a ok.h0 stoK (by omega)), rfl, rfl⟩
      · cases hq
        have w := ws_step b os (n + 2) l1 hs.c ok.h1 (stoK ++ encL (l0.map encCh)) (by rw [List.length_append]; omega)
        rw [List.append_assoc] at w
        exact ⟨_, rfl, _, _, .inl w, rfl, rfl⟩)
  exact h1
theorem wst_eq {n : Nat} {l0 l1 : List Chg} (S : SH) (h : StoAt S.os n l0 l1) (ok : OkS l0 l1) : m_write_store [.ref n] S = some (.p (.lst (intsP (stoE l0 l1))), S) := by
  have ev : startD 7 [.ref n] = [some (.ref n), none, none, none, none, none, none] := rfl
  have it : ∀ (ps : List P) (T : SH), srcOf (.p (.lst ps)) T = some (srcP ps, T) := fun _ _ => rfl
  let x1 : List Int := encL ([0, 0].map (wnd 60))
  have b1 := encL_len ([0, 0].map (wnd 60))
  have b2 := encL_len []
  have f1 := flat_bound (wnd 60) 61 [0, 0] fun x _ => wnd_len 60 x
  have g1 : [0, 0].length = 2 := rfl
  rw [g1] at f1
  simp only [List.flatten_nil, List.length_nil] at b2
  have cp1 : ∀ T, compL (srcP (natsP [0, 0])).fin (gNm 4) dYes (dCall m_write_number (dCons (dVar 4) dNil)) [some (.ref n), none, none, none, none, none, none] (srcP (natsP [0, 0])).items [] T = some ((lstsP ([0, 0].map (wnd 60))).map D.p, T) := fun T => comp_enc (j := 4) (m := m_write_number) (σ := [some (.ref n), none, none, none, none, none, none]) (fun (k : Nat) => P.int (k : Int)) (wnd 60) [0, 0] (by decide) (show 4 < 7 by decide) (fun x hx => gives_wn x (by simp only [List.mem_cons, List.mem_nil_iff, or_false, or_self] at hx; exact big_of (by omega))) T
  have cp2 : ∀ T, compL (srcP []).fin (gNm 5) dYes (dCall m_write_capability (dCons (dVar 5) dNil)) [some (.ref n), some (.ref S.os.length), none, none, none, none, none] (srcP []).items [] T = some ([], T) := fun T => rfl
  have nl1 := fun T => newL_f (S := T) (lstsP ([0, 0].map (wnd 60))) (small (show 2 ≤ 1000000 by decide))
  have nl2 : ∀ T, newL false [] T = some (.p (.lst (lstsP [])), T) := fun T => newL_f (S := T) [] (small (by simp))
  have wl1 := wlL_eq ([0, 0].map (wnd 60)) (show 2 < 100000 by decide) (by omega) ⟨S.os.length, S.os⟩
  have wl2 := fun T => wl_eq [] (by decide) (by decide) T
  have ty1 := isTy_ref (at_last S.os.length S.os (.lst ((intsP x1).map D.p)))
  have e1 := ext_last S.os.length S.os x1 (encL []) (by simp only [x1]; omega)
  have t1 : encL ([0, 0].map (wnd 60)) = x1 := rfl
  have t2 : x1 ++ encL [] = stoH := rfl
  rw [t1] at wl1
  rw [t2] at e1
  have h0' := h.app []
  have h1' := h.app [.lst ((intsP x1).map D.p)]
  have h2' := h.app [.lst ((intsP stoH).map D.p)]
  have h3' := h.app [.lst ((intsP stoK).map D.p)]
  have k1 := fun y => sto_kept S.os.length S.os y
  have k2 := sto_chs S.os.length S.os n l0 l1 h ok
  have sr := src_r (S := ⟨S.os.length, S.os ++ [.lst ((intsP stoK).map D.p)]⟩) h3'.d
  have sr' : srcOf (.ref (n + 3)) ⟨S.os.length, S.os ++ [.lst ((intsP stoK).map D.p)]⟩ = some (srcR (n + 3) 2, ⟨S.os.length, S.os ++ [.lst ((intsP stoK).map D.p)]⟩) := sr
  unfold m_write_store
  rw [fn_at (k := 1) rfl, ev, at_dSeq]
  simp only [at_dSet, at_dCall, at_dCons, at_dComp, at_dIt, at_dUn, at_dVar, at_dNil, bnd_some, List.getElem?_cons_zero, List.getElem?_cons_succ, so_cut h, it, wipeD, List.set_cons_zero, List.set_cons_succ, cp1, nl1, wl1, seqK_nx]
  rw [at_dSeq]
  simp only [at_dDrop, at_dBM, at_dVar, at_dCons, at_dCall, at_dComp, at_dIt, at_dUn, at_dNil, bnd_some, List.getElem?_cons_zero, List.getElem?_cons_succ, ty1, if_true, so_caps h1', it, wipeD, List.set_cons_zero, List.set_cons_succ, cp2, nl2, wl2, e1, seqK_nx]
  rw [at_dSeq, at_dFor]
  simp only [at_dIt, at_dUn, at_dVar, bnd_some, List.getElem?_cons_zero, List.getElem?_cons_succ, so_kept h2', it, wipeD, List.set_cons_zero, List.set_cons_succ, k1, seqK_nx]
  rw [at_dSeq, at_dFor]
  simp only [at_dIt, at_dUn, at_dVar, bnd_some, List.getElem?_cons_zero, List.getElem?_cons_succ, so_changes h3', sr', wipeD, List.set_cons_zero, List.set_cons_succ, k2, seqK_nx, at_dRet]
  rw [frame_ref (Nat.le_refl _) (at_last _ _ _), cut_app]
end Kb
namespace Kb
open PySem PySem.Spec PyProof.Rows L2 Pv
theorem eq_ints (a : List Int) (S : SH) : fEq false (.p (.lst (intsP a))) (.p (.lst (intsP a))) S = some (.p (.bl true), S) := by
  have o : okd 40 (.lst (intsP a)) = true := by
    show (intsP a).all (okd 39) = true
    rw [List.all_eq_true]
    intro p hp
    obtain ⟨i, _, rfl⟩ := List.mem_map.mp hp
    rfl
  have e : peq (.lst (intsP a)) (.lst (intsP a)) = true := peq_refl 40 _ o
  show (if okd 40 (.lst (intsP a)) = true ∧ okd 40 (.lst (intsP a)) = true then some (D.p (.bl (if false = true then !peq (.lst (intsP a)) (.lst (intsP a)) else peq (.lst (intsP a)) (.lst (intsP a)))), S) else none) = _
  rw [if_pos ⟨o, o⟩, e]
  rfl
theorem ne_ints (a : List Int) (S : SH) : fEq true (.p (.lst (intsP a))) (.p (.lst (intsP a))) S = some (.p (.bl false), S) := by
  have o : okd 40 (.lst (intsP a)) = true := by
    show (intsP a).all (okd 39) = true
    rw [List.all_eq_true]
    intro p hp
    obtain ⟨i, _, rfl⟩ := List.mem_map.mp hp
    rfl
  have e : peq (.lst (intsP a)) (.lst (intsP a)) = true := peq_refl 40 _ o
  show (if okd 40 (.lst (intsP a)) = true ∧ okd 40 (.lst (intsP a)) = true then some (D.p (.bl (if true = true then !peq (.lst (intsP a)) (.lst (intsP a)) else peq (.lst (intsP a)) (.lst (intsP a)))), S) else none) = _
  rw [if_pos ⟨o, o⟩, e]
  rfl
theorem mkc (T : SH) (c : Chg) (ok : OkC c) {a : MA} {σ : En} (ha : a σ T = some ([.p (.int (c.au : Int)), .p (.int (c.nu : Int)), .p (.tup (natsP c.heard)), .p (optP c.cap), .p (.tup (c.pubs.map pubP)), .p (.tup (c.parts.map ptP))], T)) : dMake false 0 m_Change_init a σ T = some (.p (chgP c), T) := by
  have h1 := ok.hl
  have h2 := ok.pl
  have h3 := ok.tl
  exact mk_eq T _ _ _ ha (.inr rfl) (.inr rfl) (.inr rfl) (small (by unfold natsP; rw [List.length_map]; omega)) (small (by rw [List.length_map]; omega)) (small (by rw [List.length_map]; omega)) (fun p hp => by
    obtain ⟨o, _, rfl⟩ := List.mem_map.mp hp
    cases o <;> rfl)
/-! the law's own order -/
def prtO : List (Option (List Act)) := [none, some [], some [], some []]
def orC (n i : Nat) : Chg := ⟨0, i + 1, [i, n / 3 % 2], none, [], prtO⟩
def orD : Chg := ⟨1, 1, [0, 0], none, [], prtO⟩
theorem prtO_ok : ∀ p ∈ prtO, ∀ as, p = some as → as.length ≤ 10 ∧ (as.map encA).flatten.length ≤ 30000 ∧ ∀ a ∈ as, OkA a := by
  intro p hp as e
  subst e
  simp only [prtO, List.mem_cons, List.mem_nil_iff, or_false, Option.some.injEq, reduceCtorEq, false_or, or_self] at hp
  subst hp
  exact ⟨by simp, by simp, fun a ha => absurd ha (List.not_mem_nil)⟩
theorem orC_ok (n i : Nat) (hi : i < 10) : OkC (orC n i) := by
  refine ⟨show 0 < Big by decide, big_of (by show i + 1 ≤ _; omega), by simp [orC], fun x hx => ?_, trivial, by simp [orC], by simp [orC], by simp [orC, prtO], prtO_ok⟩
  simp only [orC, List.mem_cons, List.mem_nil_iff, or_false] at hx
  exact big_of (by omega)
theorem orD_ok : OkC orD := by
  refine ⟨show 1 < Big by decide, show 1 < Big by decide, by simp [orD], fun x hx => ?_, trivial, by simp [orD], by simp [orD], by simp [orD, prtO], prtO_ok⟩
  simp only [orD, List.mem_cons, List.mem_nil_iff, or_false, or_self] at hx
  exact big_of (by omega)
def orL (n : Nat) (i : Nat) : List Chg := (List.range i).map (orC n)
theorem orL_ok (n i : Nat) (hi : i ≤ 3) : OkL (orL n i) := by
  refine ⟨by unfold orL; rw [List.length_map, List.length_range]; omega, fun c hc => ?_⟩
  obtain ⟨k, hk, rfl⟩ := List.mem_map.mp hc
  have := List.mem_range.mp hk
  exact ⟨orC_ok n k (by omega), rfl⟩
theorem orL_snoc (n i : Nat) : orL n (i + 1) = orL n i ++ [orC n i] := by
  unfold orL
  rw [List.range_succ, List.map_append]
  rfl
def namI (i : Nat) : List Int := ((List.range i).map fun k => [(0 : Int), ((k + 1 : Nat) : Int)]).flatten
theorem namI_snoc (i : Nat) : namI (i + 1) = namI i ++ [(0 : Int), ((i + 1 : Nat) : Int)] := by
  unfold namI
  rw [List.range_succ, List.map_append, List.flatten_append]
  simp
theorem namI_len (i : Nat) : (namI i).length = 2 * i := by
  induction i with
  | zero => rfl
  | succ i ih =>
    rw [namI_snoc, List.length_append, ih]
    simp only [List.length_cons, List.length_nil]
    omega
abbrev orB : MS := (dDrop (dMeth 2 "add" m_Store_add (dVar 1) (dCons (dMake false 0 m_Change_init (dCons (dC (.int 0)) (dCons (dOp (fAdd false) (dVar 2) (dC (.int 1))) (dCons (dTup (dCons (dVar 2) (dCons (dOp fMod (dOp fDiv (dVar 0) (dC (.int 3))) (dC (.int 2))) dNil))) (dCons (dC .non) (dCons (dTup dNil) (dCons (dTup (dCons (dC .non) (dCons (dTup dNil) (dCons (dTup dNil) (dCons (dTup dNil) dNil))))) dNil))))))) dNil)))
theorem t_nil (T : SH) : newT [] T = some (.p (.tup []), T) := newT_p (S := T) [] (small (by simp))
theorem t_prt (T : SH) : newT [.p .non, .p (.tup []), .p (.tup []), .p (.tup [])] T = some (.p (.tup (prtO.map ptP)), T) := newT_p (S := T) (prtO.map ptP) (small (by simp [prtO]))
theorem add_here (b : Nat) (os : List Ob) (l0 l1 : List Chg) : fldsOf (.ref os.length) ⟨b, sto os l0 l1⟩ = some (2, stoF os.length) := flds_r (S := ⟨b, sto os l0 l1⟩) (sto_at os l0 l1).o
theorem lk_add (n : Nat) : (stoF n).lookup ("add" : Str) = none := rfl
theorem or_step (n i : Nat) (hi : i < 3) (b : Nat) (os : List Ob) (l1 : List Chg) : orB [some (.p (.int (n : Int))), some (.ref os.length), some (.p (.int (i : Int))), none, none] ⟨b, sto os (orL n i) l1⟩ = some (.nx [some (.p (.int (n : Int))), some (.ref os.length), some (.p (.int (i : Int))), none, none], ⟨b, sto os (orL n (i + 1)) l1⟩) := by
  have d3 : divOk (n : Int) 3 = true := divOk_c (by decide) (by decide)
  have e1 : (i : Int) + 1 = ((i + 1 : Nat) : Int) := by omega
  have eq : (n : Int) / 3 % 2 = ((n / 3 % 2 : Nat) : Int) := by omega
  have t2 : ∀ T, newT [.p (.int (i : Int)), .p (.int ((n / 3 % 2 : Nat) : Int))] T = some (.p (.tup (natsP [i, n / 3 % 2])), T) := fun T => mk_n [i, n / 3 % 2] _ rfl (show 2 ≤ 100 by decide) T
  have mk : dMake false 0 m_Change_init (dCons (dC (.int 0)) (dCons (dOp (fAdd false) (dVar 2) (dC (.int 1))) (dCons (dTup (dCons (dVar 2) (dCons (dOp fMod (dOp fDiv (dVar 0) (dC (.int 3))) (dC (.int 2))) dNil))) (dCons (dC .non) (dCons (dTup dNil) (dCons (dTup (dCons (dC .non) (dCons (dTup dNil) (dCons (dTup dNil) (dCons (dTup dNil) dNil))))) dNil)))))) [some (.p (.int (n : Int))), some (.ref os.length), some (.p (.int (i : Int))), none, none] ⟨b, sto os (orL n i) l1⟩ = some (.p (chgP (orC n i)), ⟨b, sto os (orL n i) l1⟩) := mkc _ (orC n i) (orC_ok n i (by omega)) (by
    simp only [at_dCons, at_dC, at_dOp, at_dVar, at_dTup, at_dNil, bnd_some, List.getElem?_cons_zero, List.getElem?_cons_succ, fII_eq, fAdd_i, d3, if_true, decide_eq_true_eq, Int.reduceLT, e1, eq, t2, t_nil, t_prt]
    rfl)
  have ad := add_0 b os (orL n i) l1 (orC n i) rfl (by unfold orL; rw [List.length_map, List.length_range]; omega)
  rw [← orL_snoc] at ad
  unfold orB
  rw [at_dDrop, at_dMeth]
  simp only [at_dVar, bnd_some, List.getElem?_cons_zero, List.getElem?_cons_succ, add_here, lk_add, and_self, if_true]
  rw [at_dCons, mk]
  simp only [bnd_some, at_dNil, ad]
theorem order_eq (n : Nat) (S : SH) : m_order [.p (.int (n : Int))] S = some (.p (.bl true), S) := by
  have ev : startD 5 [.p (.int (n : Int))] = [some (.p (.int (n : Int))), none, none, none, none] := rfl
  let os := S.os
  let b := S.os.length
  have em : 1 + (n : Int) % 3 = ((1 + n % 3 : Nat) : Int) := by omega
  have rz := fun T => srt_rng (S := T) (1 + n % 3) (by omega)
  have mkS : ∀ σ : En, dMake true 2 m_Store_init (dCons (dC (.int 2)) dNil) σ ⟨S.os.length, S.os⟩ = some (.ref S.os.length, ⟨S.os.length, sto S.os [] []⟩) := fun σ => by
    rw [at_dMakeT]
    simp only [at_dCons, at_dC, at_dNil, bnd_some]
    rw [sinit S.os.length S.os (Nat.le_refl _)]
    rfl
  have t00 : ∀ T, newT [.p (.int 0), .p (.int 0)] T = some (.p (.tup (natsP [0, 0])), T) := fun T => mk_n [0, 0] _ rfl (by decide) T
  have mk1 : ∀ (σ : En) T, dMake false 0 m_Change_init (dCons (dC (.int 1)) (dCons (dC (.int 1)) (dCons (dTup (dCons (dC (.int 0)) (dCons (dC (.int 0)) dNil))) (dCons (dC .non) (dCons (dTup dNil) (dCons (dTup (dCons (dC .non) (dCons (dTup dNil) (dCons (dTup dNil) (dCons (dTup dNil) dNil))))) dNil)))))) σ T = some (.p (chgP orD), T) := fun σ T => mkc T orD orD_ok (by
    simp only [at_dCons, at_dC, at_dTup, at_dNil, bnd_some, t00, t_nil, t_prt]
    rfl)
  have ad1 := add_1 S.os.length S.os [] [] orD rfl (by simp)
  rw [List.nil_append] at ad1
  obtain ⟨σ1, S1, q1, rfl, rfl⟩ := rng0_inv (body := orB) (ws := [2, 3, 4]) (j := 2) (fun i σ S' => σ = [some (.p (.int (n : Int))), some (.ref S.os.length), none, none, none] ∧ S' = ⟨S.os.length, sto S.os (orL n i) [orD]⟩) (1 + n % 3)
    (σ := [some (.p (.int (n : Int))), some (.ref S.os.length), none, none, none]) (S := ⟨S.os.length, sto S.os [] [orD]⟩) ⟨rfl, rfl⟩ (by
      rintro i σ S1 hi ⟨rfl, rfl⟩
      exact ⟨_, _, .inl (or_step n i (by omega) S.os.length S.os [orD]), rfl, rfl⟩)
  have sa := sto_at S.os (orL n (1 + n % 3)) [orD]
  have n0 : ∀ T, newL false [] T = some (.p (.lst (intsP [])), T) := fun T => newL_f (S := T) [] (small (by simp))
  obtain ⟨σ2, S2, q2, rfl, rfl⟩ := rng0_inv (body := (dSet 3 (dOp (fAdd false) (dVar 3) (dLst false (dCons (dC (.int 0)) (dCons (dOp (fAdd false) (dVar 2) (dC (.int 1))) dNil)))))) (ws := [2, 4]) (j := 2) (fun i σ S' => σ = [some (.p (.int (n : Int))), some (.ref S.os.length), none, some (.p (.lst (intsP (namI i)))), none] ∧ S' = ⟨S.os.length, sto S.os (orL n (1 + n % 3)) [orD]⟩) (1 + n % 3)
    (σ := [some (.p (.int (n : Int))), some (.ref S.os.length), none, some (.p (.lst (intsP []))), none]) (S := ⟨S.os.length, sto S.os (orL n (1 + n % 3)) [orD]⟩) ⟨rfl, rfl⟩ (by
      rintro i σ S1 hi ⟨rfl, rfl⟩
      have e1 : (i : Int) + 1 = ((i + 1 : Nat) : Int) := by omega
      have nl := fun T => ints_lit T [(0 : Int), ((i + 1 : Nat) : Int)] [.p (.int 0), .p (.int ((i + 1 : Nat) : Int))] rfl (show 2 ≤ 1000 by decide)
      have a := fun T => add_l (namI i) [(0 : Int), ((i + 1 : Nat) : Int)] (by rw [namI_len]; simp only [List.length_cons, List.length_nil]; omega) T
      rw [← namI_snoc] at a
      refine ⟨[some (.p (.int (n : Int))), some (.ref S.os.length), some (.p (.int (i : Int))), some (.p (.lst (intsP (namI (i + 1))))), none], _, .inl ?_, rfl, rfl⟩
      simp only [at_dSet, at_dOp, at_dVar, at_dLst, at_dCons, at_dC, at_dNil, bnd_some, List.getElem?_cons_zero, List.getElem?_cons_succ, List.set_cons_zero, List.set_cons_succ, fAdd_i, e1, nl, a])
  let nm : List Int := namI (1 + n % 3) ++ [1, 1]
  have n11 := fun T => ints_lit T [(1 : Int), 1] [.p (.int 1), .p (.int 1)] rfl (by decide)
  have a1 := fun T => add_l (namI (1 + n % 3)) [1, 1] (by rw [namI_len]; simp only [List.length_cons, List.length_nil]; omega) T
  have tn : namI (1 + n % 3) ++ [1, 1] = nm := rfl
  rw [tn] at a1
  have nl : nm.length = 2 * (1 + n % 3) + 2 := by
    rw [← tn, List.length_append, namI_len]
    rfl
  have fl : ∀ T, fLen [.p (.lst (intsP nm))] T = some (.p (.int ((2 * (1 + n % 3) + 2 : Nat) : Int)), T) := fun T => by rw [fLen_l, intsP_len, nl]
  have d2 : divOk ((2 * (1 + n % 3) + 2 : Nat) : Int) 2 = true := divOk_c (by decide) (by decide)
  have e2 : ((2 * (1 + n % 3) + 2 : Nat) : Int) / 2 = ((2 + n % 3 : Nat) : Int) := by omega
  let hd : List Int := [1, 1, 2, 0, 0, 2, ((1 + n % 3 : Nat) : Int), 1, 1, 1, 1, 1, ((2 + n % 3 : Nat) : Int)]
  have nh := fun T => ints_lit T hd [.p (.int 1), .p (.int 1), .p (.int 2), .p (.int 0), .p (.int 0), .p (.int 2), .p (.int ((1 + n % 3 : Nat) : Int)), .p (.int 1), .p (.int 1), .p (.int 1), .p (.int 1), .p (.int 1), .p (.int ((2 + n % 3 : Nat) : Int))] rfl (show 13 ≤ 1000 by decide)
  have n3 := fun T => ints_lit T [(0 : Int), 0, 0] [.p (.int 0), .p (.int 0), .p (.int 0)] rfl (by decide)
  have a2 := fun T => add_l hd nm (by rw [nl]; show 13 + _ ≤ _; omega) T
  have a3 := fun T => add_l (hd ++ nm) [0, 0, 0] (by rw [List.length_append, nl]; show 13 + _ + 3 ≤ _; omega) T
  have ll : (orL n (1 + n % 3)).length = 1 + n % 3 := by unfold orL; rw [List.length_map, List.length_range]
  have ak := ask_eq 1 (by decide) ⟨S.os.length, sto S.os (orL n (1 + n % 3)) [orD]⟩ sa (orL_ok n _ (by omega)) ⟨by simp, fun c hc => by rw [List.mem_singleton.mp hc]; exact ⟨orD_ok, rfl⟩⟩
  have fin : askE 1 (orL n (1 + n % 3)) [orD] = hd ++ nm ++ [0, 0, 0] := by
    have h3 : n % 3 = 0 ∨ n % 3 = 1 ∨ n % 3 = 2 := by omega
    rw [← tn]
    simp only [hd]
    rcases h3 with h | h | h <;> rw [h] <;> rfl
  have ak' : m_asking [.ref S.os.length, .p (.int 1)] ⟨S.os.length, sto S.os (orL n (1 + n % 3)) [orD]⟩ = some (.p (.lst (intsP (hd ++ nm ++ [0, 0, 0]))), ⟨S.os.length, sto S.os (orL n (1 + n % 3)) [orD]⟩) := by
    rw [← fin]
    exact ak
  unfold m_order
  rw [fn_at (k := 1) rfl, ev, at_dSeq, at_dSet, mkS]
  simp only [bnd_some, seqK_nx, List.set_cons_zero, List.set_cons_succ]
  rw [at_dSeq, at_dDrop, at_dMeth]
  simp only [at_dVar, bnd_some, List.getElem?_cons_zero, List.getElem?_cons_succ, add_here, lk_add, and_self, if_true]
  rw [at_dCons, mk1]
  simp only [bnd_some, at_dNil, ad1, seqK_nx]
  rw [at_dSeq, at_dFor]
  simp only [at_dRng1, at_dCons, at_dOp, at_dVar, at_dC, at_dNil, bnd_some, List.getElem?_cons_zero, fII_eq, fAdd_i, if_true, decide_eq_true_eq, Int.reduceLT, em, rz, wipeD, List.set_cons_zero, List.set_cons_succ]
  rw [q1, bnd_some, seqK_nx]
  rw [at_dSeq]
  simp only [at_dSet, at_dLst, at_dNil, bnd_some, n0, List.set_cons_zero, List.set_cons_succ, seqK_nx]
  rw [at_dSeq, at_dFor]
  simp only [at_dRng1, at_dCons, at_dOp, at_dVar, at_dC, at_dNil, bnd_some, List.getElem?_cons_zero, fII_eq, fAdd_i, if_true, decide_eq_true_eq, Int.reduceLT, em, rz, wipeD, List.set_cons_zero, List.set_cons_succ]
  rw [q2, bnd_some, seqK_nx]
  rw [at_dSeq]
  simp only [at_dSet, at_dOp, at_dVar, at_dLst, at_dCons, at_dC, at_dNil, bnd_some, List.getElem?_cons_zero, List.getElem?_cons_succ, n11, a1, List.set_cons_zero, List.set_cons_succ, seqK_nx]
  rw [at_dSeq]
  simp only [at_dSet, at_dOp, at_dVar, at_dLst, at_dCons, at_dC, at_dNil, at_dCall, bnd_some, List.getElem?_cons_zero, List.getElem?_cons_succ, fII_eq, fAdd_i, if_true, decide_eq_true_eq, Int.reduceLT, em, fl, d2, e2, nh, n3, a2, a3, List.set_cons_zero, List.set_cons_succ, seqK_nx]
  simp only [at_dRet, at_dOp, at_dCall, at_dCons, at_dVar, at_dC, at_dNil, bnd_some, List.getElem?_cons_zero, List.getElem?_cons_succ, ak', eq_ints, frame_p]
  rw [show sto S.os (orL n (1 + n % 3)) [orD] = S.os ++ _ from rfl, cut_app]
end Kb
namespace Kb
open PySem PySem.Spec PyProof.Rows L2 Pv
/-! the law's own store -/
def rowsN (n : Nat) : List Act := (List.range (n % 4)).map fun p => .plain "row" 3 [0, 1, p]
def prtS (n i : Nat) : List (Option (List Act)) := if i % 2 = 0 then [some (rowsN n), some [], some [], some []] else [none, some (rowsN n), none, some []]
def stC (n i : Nat) : Chg := ⟨0, i + 1, [i, 0], none, [], prtS n i⟩
def stL (n i : Nat) : List Chg := (List.range i).map (stC n)
theorem rows_ok (n : Nat) : (rowsN n).length ≤ 10 ∧ ((rowsN n).map encA).flatten.length ≤ 30000 ∧ ∀ a ∈ rowsN n, OkA a := by
  have hl : (rowsN n).length = n % 4 := by unfold rowsN; rw [List.length_map, List.length_range]
  have f := flat_bound encA 700 (rowsN n) fun a ha => by
    obtain ⟨p, _, rfl⟩ := List.mem_map.mp ha
    have := enc_len [0, 1, p]
    simp only [List.length_cons, List.length_nil] at this
    simp only [encA, List.length_append, List.length_cons, List.length_nil]
    omega
  refine ⟨by omega, by omega, fun a ha => ?_⟩
  obtain ⟨p, hp, rfl⟩ := List.mem_map.mp ha
  have := List.mem_range.mp hp
  refine ⟨.inl ⟨rfl, rfl⟩, by simp, fun x hx => big_of ?_⟩
  simp only [List.mem_cons, List.mem_nil_iff, or_false] at hx
  omega
theorem prtS_ok (n i : Nat) : ∀ p ∈ prtS n i, ∀ as, p = some as → as.length ≤ 10 ∧ (as.map encA).flatten.length ≤ 30000 ∧ ∀ a ∈ as, OkA a := by
  intro p hp as e
  subst e
  have hp' : as = rowsN n ∨ as = [] := by
    unfold prtS at hp
    split at hp
    · simp only [List.mem_cons, List.mem_nil_iff, or_false, Option.some.injEq, reduceCtorEq, false_or, or_self] at hp
      rcases hp with hp | hp
      · exact .inl hp
      · exact .inr hp
    · simp only [List.mem_cons, List.mem_nil_iff, or_false, Option.some.injEq, reduceCtorEq, false_or, or_self] at hp
      rcases hp with hp | hp
      · exact .inl hp
      · exact .inr hp
  rcases hp' with rfl | rfl
  · exact rows_ok n
  · exact ⟨by simp, by simp, fun a ha => absurd ha (List.not_mem_nil)⟩
theorem prtS_len (n i : Nat) : (prtS n i).length = 4 := by
  unfold prtS
  split <;> rfl
theorem stC_ok (n i : Nat) (hi : i < 10) : OkC (stC n i) := by
  refine ⟨show 0 < Big by decide, big_of (by show i + 1 ≤ _; omega), by simp [stC], fun x hx => ?_, trivial, by simp [stC], by simp [stC], by show (prtS n i).length ≤ 10; rw [prtS_len]; omega, prtS_ok n i⟩
  simp only [stC, List.mem_cons, List.mem_nil_iff, or_false] at hx
  exact big_of (by omega)
theorem stL_ok (n i : Nat) (hi : i ≤ 3) : OkL (stL n i) := by
  refine ⟨by unfold stL; rw [List.length_map, List.length_range]; omega, fun c hc => ?_⟩
  obtain ⟨k, hk, rfl⟩ := List.mem_map.mp hc
  have := List.mem_range.mp hk
  exact ⟨stC_ok n k (by omega), prtS_len n k⟩
theorem nilL_ok : OkL [] := ⟨by simp, by simp⟩
theorem stL_snoc (n i : Nat) : stL n (i + 1) = stL n i ++ [stC n i] := by
  unfold stL
  rw [List.range_succ, List.map_append]
  rfl
def prtP (n : Nat) : List P := [.tup ((prtS n 0).map ptP), .tup ((prtS n 1).map ptP)]
theorem prt_ix (n i : Nat) (T : SH) : fIx (.p (.lst (prtP n))) (.p (.int ((i % 2 : Nat) : Int))) T = some (.p (.tup ((prtS n i).map ptP)), T) := by
  have h : i % 2 = 0 ∨ i % 2 = 1 := by omega
  refine fIx_l ?_
  rcases h with h | h
  · rw [h]
    unfold prtS
    rw [if_pos h]
    rfl
  · rw [h]
    unfold prtS
    rw [if_neg (by omega)]
    rfl
abbrev stB : MS := (dDrop (dMeth 2 "add" m_Store_add (dVar 1) (dCons (dMake false 0 m_Change_init (dCons (dC (.int 0)) (dCons (dOp (fAdd false) (dVar 2) (dC (.int 1))) (dCons (dTup (dCons (dVar 2) (dCons (dC (.int 0)) dNil))) (dCons (dC .non) (dCons (dTup dNil) (dCons (dOp fIx (dVar 4) (dOp fMod (dVar 2) (dC (.int 2)))) dNil))))))) dNil)))
theorem st_step (n i : Nat) (hi : i < 3) (b : Nat) (os : List Ob) : stB [some (.p (.int (n : Int))), some (.ref os.length), some (.p (.int (i : Int))), none, some (.p (.lst (prtP n))), none, none, none, none, none] ⟨b, sto os (stL n i) []⟩ = some (.nx [some (.p (.int (n : Int))), some (.ref os.length), some (.p (.int (i : Int))), none, some (.p (.lst (prtP n))), none, none, none, none, none], ⟨b, sto os (stL n (i + 1)) []⟩) := by
  have e1 : (i : Int) + 1 = ((i + 1 : Nat) : Int) := by omega
  have e2 : (i : Int) % 2 = ((i % 2 : Nat) : Int) := by omega
  have t2 : ∀ T, newT [.p (.int (i : Int)), .p (.int 0)] T = some (.p (.tup (natsP [i, 0])), T) := fun T => mk_n [i, 0] _ rfl (show 2 ≤ 100 by decide) T
  have mk : dMake false 0 m_Change_init (dCons (dC (.int 0)) (dCons (dOp (fAdd false) (dVar 2) (dC (.int 1))) (dCons (dTup (dCons (dVar 2) (dCons (dC (.int 0)) dNil))) (dCons (dC .non) (dCons (dTup dNil) (dCons (dOp fIx (dVar 4) (dOp fMod (dVar 2) (dC (.int 2)))) dNil)))))) [some (.p (.int (n : Int))), some (.ref os.length), some (.p (.int (i : Int))), none, some (.p (.lst (prtP n))), none, none, none, none, none] ⟨b, sto os (stL n i) []⟩ = some (.p (chgP (stC n i)), ⟨b, sto os (stL n i) []⟩) := mkc _ (stC n i) (stC_ok n i (by omega)) (by
    simp only [at_dCons, at_dC, at_dOp, at_dVar, at_dTup, at_dNil, bnd_some, List.getElem?_cons_zero, List.getElem?_cons_succ, fII_eq, fAdd_i, if_true, decide_eq_true_eq, Int.reduceLT, e1, e2, t2, t_nil, prt_ix]
    rfl)
  have ad := add_0 b os (stL n i) [] (stC n i) rfl (by unfold stL; rw [List.length_map, List.length_range]; omega)
  rw [← stL_snoc] at ad
  unfold stB
  rw [at_dDrop, at_dMeth]
  simp only [at_dVar, bnd_some, List.getElem?_cons_zero, List.getElem?_cons_succ, add_here, lk_add, and_self, if_true]
  rw [at_dCons, mk]
  simp only [bnd_some, at_dNil, ad]
def stF (n i : Nat) : List Int := ((List.range i).map fun k => encCh (stC n k)).flatten
theorem stF_snoc (n i : Nat) : stF n (i + 1) = stF n i ++ encCh (stC n i) := by
  unfold stF
  rw [List.range_succ, List.map_append, List.flatten_append]
  simp
theorem stF_len (n i : Nat) (hi : i ≤ 3) : (stF n i).length ≤ 140000 * i := by
  have f := flat_bound (fun k => encCh (stC n k)) 140000 (List.range i) fun k hk => encCh_len _ (stC_ok n k (by have := List.mem_range.mp hk; omega)) (prtS_len n k)
  rw [List.length_range] at f
  exact f
def nmS (i : Nat) : List Int := if 2 ≤ i then [0, 2] else []
abbrev fdB : MS := (dSeq (dSet 6 (dOp (fAdd false) (dVar 6) (dCall m_change_bytes (dCons (dMeth 2 "find" m_Store_find (dVar 1) (dCons (dTup (dCons (dC (.int 0)) (dCons (dOp (fAdd false) (dVar 2) (dC (.int 1))) dNil))) dNil)) dNil))))
    (dIf (dTest (dOp (fEq false) (dVar 2) (dC (.int 1))))
      (dSet 7 (dLst false (dCons (dC (.int 0)) (dCons (dC (.int 2)) dNil))))
      dNx))
theorem lk_find (n : Nat) : (stoF n).lookup ("find" : Str) = none := rfl
theorem fd_step (n m i : Nat) (hm : m < 3) (hi : i < m) (b : Nat) (os : List Ob) (d0 : List Int) (hd : d0.length ≤ 1000) : fdB [some (.p (.int (n : Int))), some (.ref os.length), some (.p (.int (i : Int))), none, none, none, some (.p (.lst (intsP (d0 ++ stF n i)))), some (.p (.lst (intsP (nmS i)))), none, none] ⟨b, sto os (stL n m) []⟩ = some (.nx [some (.p (.int (n : Int))), some (.ref os.length), some (.p (.int (i : Int))), none, none, none, some (.p (.lst (intsP (d0 ++ stF n (i + 1))))), some (.p (.lst (intsP (nmS (i + 1))))), none, none], ⟨b, sto os (stL n m) []⟩) := by
  have e1 : (i : Int) + 1 = ((i + 1 : Nat) : Int) := by omega
  have t2 : ∀ T, newT [.p (.int 0), .p (.int ((i + 1 : Nat) : Int))] T = some (.p (.tup (natsP [0, i + 1])), T) := fun T => mk_n [0, i + 1] _ rfl (show 2 ≤ 100 by decide) T
  have hk : (stL n m)[i]? = some (stC n i) := by
    unfold stL
    rw [List.getElem?_map, List.getElem?_range hi]
    rfl
  have fd := find_eq ⟨b, sto os (stL n m) []⟩ (sto_at os (stL n m) []) i (stC n i) hk
  have ok := stC_ok n i (by omega)
  have cb := fun T => cb_eq (stC n i) ok T
  have fl := stF_len n i (by omega)
  have cl := encCh_len (stC n i) ok (prtS_len n i)
  have a := fun T => add_l (d0 ++ stF n i) (encCh (stC n i)) (by rw [List.length_append]; omega) T
  rw [List.append_assoc, ← stF_snoc] at a
  have n2 := fun T => ints_lit T [(0 : Int), 2] [.p (.int 0), .p (.int 2)] rfl (by decide)
  have h01 : i = 0 ∨ i = 1 := by omega
  unfold fdB
  rw [at_dSeq]
  simp only [at_dSet, at_dOp, at_dVar, at_dCall, at_dCons, at_dMeth, at_dTup, at_dC, at_dNil, bnd_some, List.getElem?_cons_zero, List.getElem?_cons_succ, add_here, lk_find, and_self, if_true, fAdd_i, e1, t2, fd, cb, a, List.set_cons_zero, List.set_cons_succ, seqK_nx]
  rcases h01 with rfl | rfl
  · have fe : ∀ T, fEq false (.p (.int ((0 : Nat) : Int))) (.p (.int 1)) T = some (.p (.bl false), T) := fun T => rfl
    simp only [at_dIf, at_dTest, at_dOp, at_dVar, at_dC, bnd_some, List.getElem?_cons_zero, List.getElem?_cons_succ, fe, toB_p, Bool.false_eq_true, if_false, at_dNx]
    rfl
  · have fe : ∀ T, fEq false (.p (.int ((1 : Nat) : Int))) (.p (.int 1)) T = some (.p (.bl true), T) := fun T => rfl
    simp only [at_dIf, at_dTest, at_dOp, at_dVar, at_dC, bnd_some, List.getElem?_cons_zero, List.getElem?_cons_succ, fe, toB_p, if_true, at_dSet, at_dLst, at_dCons, at_dNil, n2, List.set_cons_zero, List.set_cons_succ]
    rfl
theorem store_eq (n : Nat) (S : SH) : m_store [.p (.int (n : Int))] S = some (.p (.bl true), S) := by
  have ev : startD 10 [.p (.int (n : Int))] = [some (.p (.int (n : Int))), none, none, none, none, none, none, none, none, none] := rfl
  obtain ⟨m, em⟩ : ∃ m, m = n / 4 % 3 := ⟨_, rfl⟩
  have hm : m < 3 := by omega
  have e4 : (n : Int) % 4 = ((n % 4 : Nat) : Int) := by omega
  have em' : (n : Int) / 4 % 3 = (m : Int) := by omega
  have e2 : (n : Int) % 2 = ((n % 2 : Nat) : Int) := by omega
  have d4 : divOk (n : Int) 4 = true := divOk_c (by decide) (by decide)
  have rz := fun T => srt_rng (S := T) (n % 4) (by omega)
  have rzm := fun T => srt_rng (S := T) m (by omega)
  have mkS : ∀ σ : En, dMake true 2 m_Store_init (dCons (dC (.int 2)) dNil) σ ⟨S.os.length, S.os⟩ = some (.ref S.os.length, ⟨S.os.length, sto S.os [] []⟩) := fun σ => by
    rw [at_dMakeT]
    simp only [at_dCons, at_dC, at_dNil, bnd_some]
    rw [sinit S.os.length S.os (Nat.le_refl _)]
    rfl
  -- the rows
  have cp : ∀ T, compL (srcN 0 (n % 4)).fin (gNm 2) dYes (dTup (dCons (dC (.str "row")) (dCons (dTup (dCons (dC (.int 0)) (dCons (dC (.int 1)) (dCons (dVar 2) dNil)))) dNil))) [some (.p (.int (n : Int))), some (.ref S.os.length), none, none, none, none, none, none, none, none] (srcN 0 (n % 4)).items [] T = some (((rowsN n).map actP).map D.p, T) := fun T => by
    rw [comp_rng (S := T) (j := 2) (t := dYes) (elt := (dTup (dCons (dC (.str "row")) (dCons (dTup (dCons (dC (.int 0)) (dCons (dC (.int 1)) (dCons (dVar 2) dNil)))) dNil)))) (σ := [some (.p (.int (n : Int))), some (.ref S.os.length), none, none, none, none, none, none, none, none]) (fun _ => true) (fun p => D.p (actP (.plain "row" 3 [0, 1, p]))) (n % 4) (small (by omega)) (fun p hp => ⟨rfl, fun _ => by
      have t3 : ∀ T, newT [.p (.int 0), .p (.int 1), .p (.int (p : Int))] T = some (.p (.tup (natsP [0, 1, p])), T) := fun T => mk_n [0, 1, p] _ rfl (show 3 ≤ 100 by decide) T
      have ta := fun T => mk_t (.plain "row" 3 [0, 1, p]) [.p (.str "row"), .p (.tup (natsP [0, 1, p]))] rfl (show 2 ≤ 100 by decide) T
      simp only [at_dTup, at_dCons, at_dC, at_dVar, at_dNil, bnd_some, List.set_cons_zero, List.set_cons_succ, List.getElem?_cons_zero, List.getElem?_cons_succ, t3, ta]⟩), List.filter_eq_self.mpr fun _ _ => rfl]
    unfold rowsN
    rw [List.map_map, List.map_map]
    rfl
  have rl : ((rowsN n).map actP).length ≤ 1000000 := by unfold rowsN; rw [List.length_map, List.length_map, List.length_range]; omega
  have nlr := fun T => newL_f (S := T) ((rowsN n).map actP) (small rl)
  have ftr := fun T => fTuple_l (S := T) (ps := (rowsN n).map actP) (small rl)
  let R : P := .tup ((rowsN n).map actP)
  have tp0 : ∀ T, newT [.p (.tup ((rowsN n).map actP)), .p (.tup []), .p (.tup []), .p (.tup [])] T = some (.p (.tup ((prtS n 0).map ptP)), T) := fun T => newT_p (S := T) ((prtS n 0).map ptP) (small (show 4 ≤ 1000000 by decide))
  have tp1 : ∀ T, newT [.p .non, .p (.tup ((rowsN n).map actP)), .p .non, .p (.tup [])] T = some (.p (.tup ((prtS n 1).map ptP)), T) := fun T => newT_p (S := T) ((prtS n 1).map ptP) (small (show 4 ≤ 1000000 by decide))
  have nlp : ∀ T, newL false [.p (.tup ((prtS n 0).map ptP)), .p (.tup ((prtS n 1).map ptP))] T = some (.p (.lst (prtP n)), T) := fun T => newL_f (S := T) (prtP n) (small (show 2 ≤ 1000000 by decide))
  obtain ⟨σ1, S1, q1, rfl, rfl⟩ := rng0_inv (body := stB) (ws := [2, 3, 5, 6, 7, 8, 9]) (j := 2) (fun i σ S' => σ = [some (.p (.int (n : Int))), some (.ref S.os.length), none, none, some (.p (.lst (prtP n))), none, none, none, none, none] ∧ S' = ⟨S.os.length, sto S.os (stL n i) []⟩) m
    (σ := [some (.p (.int (n : Int))), some (.ref S.os.length), none, none, some (.p (.lst (prtP n))), none, none, none, none, none]) (S := ⟨S.os.length, sto S.os [] []⟩) ⟨rfl, rfl⟩ (by
      rintro i σ S1 hi ⟨rfl, rfl⟩
      exact ⟨_, _, .inl (st_step n i (by omega) S.os.length S.os), rfl, rfl⟩)
  have sa := sto_at S.os (stL n m) []
  let nt : List Int := [1, 0, 0, 0]
  let d0 : List Int := [2, 0, 0, 0] ++ nt ++ nt ++ nt ++ nt ++ [(m : Int)]
  have n4 := fun T => ints_lit T nt [.p (.int 1), .p (.int 0), .p (.int 0), .p (.int 0)] rfl (show 4 ≤ 1000 by decide)
  have n4b := fun T => ints_lit T [(2 : Int), 0, 0, 0] [.p (.int 2), .p (.int 0), .p (.int 0), .p (.int 0)] rfl (by decide)
  have nm1 := one_l (m : Int)
  have c1 := fun T => add_l [2, 0, 0, 0] nt (show 8 ≤ 1000000 by decide) T
  have c2 := fun T => add_l ([2, 0, 0, 0] ++ nt) nt (by simp [nt]) T
  have c3 := fun T => add_l ([2, 0, 0, 0] ++ nt ++ nt) nt (by simp [nt]) T
  have c4 := fun T => add_l ([2, 0, 0, 0] ++ nt ++ nt ++ nt) nt (by simp [nt]) T
  have c5 := fun T => add_l ([2, 0, 0, 0] ++ nt ++ nt ++ nt ++ nt) [(m : Int)] (by simp [nt]) T
  have n0 : ∀ T, newL false [] T = some (.p (.lst (intsP (nmS 0))), T) := fun T => newL_f (S := T) [] (small (by simp))
  have f00 : d0 ++ stF n 0 = d0 := List.append_nil _
  obtain ⟨σ2, S2, q2, rfl, rfl⟩ := rng0_inv (body := fdB) (ws := [2, 3, 4, 5, 8, 9]) (j := 2) (fun i σ S' => σ = [some (.p (.int (n : Int))), some (.ref S.os.length), none, none, none, none, some (.p (.lst (intsP (d0 ++ stF n i)))), some (.p (.lst (intsP (nmS i)))), none, none] ∧ S' = ⟨S.os.length, sto S.os (stL n m) []⟩) m
    (σ := [some (.p (.int (n : Int))), some (.ref S.os.length), none, none, none, none, some (.p (.lst (intsP d0))), some (.p (.lst (intsP (nmS 0)))), none, none]) (S := ⟨S.os.length, sto S.os (stL n m) []⟩) ⟨by rw [f00], rfl⟩ (by
      rintro i σ S1 hi ⟨rfl, rfl⟩
      exact ⟨_, _, .inl (fd_step n m i hm hi S.os.length S.os d0 (show 21 ≤ 1000 by decide)), rfl, rfl⟩)
  have fl := stF_len n m (by omega)
  have o0 := one_l 0
  have c6 := fun T => add_l (d0 ++ stF n m) [0] (by rw [List.length_append]; show 21 + _ + 1 ≤ _; omega) T
  have fin1 : stoE (stL n m) [] = d0 ++ stF n m ++ [0] := by
    have ll : (stL n m).length = m := by unfold stL; rw [List.length_map, List.length_range]
    have wm : wnd 60 m = [(m : Int)] := wnd_small (by omega)
    have ek : stoK = [2, 0, 0, 0] ++ nt ++ nt ++ nt ++ nt := rfl
    have eF : ((stL n m).map encCh).flatten = stF n m := by
      unfold stL stF
      rw [List.map_map]
      rfl
    have e0 : encL (([] : List Chg).map encCh) = [0] := rfl
    unfold stoE
    rw [e0, ek]
    unfold encL
    rw [List.length_map, ll, wm, eF]
    simp only [d0, List.append_assoc]
  have wst := wst_eq ⟨S.os.length, sto S.os (stL n m) []⟩ sa ⟨stL_ok n m (by omega), nilL_ok, by unfold stL; rw [List.length_map, List.length_range]; simp; omega⟩
  rw [fin1] at wst
  have ask := ask_eq (n % 2) (big_of (by omega)) ⟨S.os.length, sto S.os (stL n m) []⟩ sa (stL_ok n m (by omega)) nilL_ok
  obtain ⟨ct, ect⟩ : ∃ ct : Nat, ct = (if 2 ≤ m then 1 else 0) := ⟨_, rfl⟩
  have ln : ∀ T, fLen [.p (.lst (intsP (nmS m)))] T = some (.p (.int ((2 * ct : Nat) : Int)), T) := fun T => by
    rw [fLen_l, intsP_len]
    unfold nmS
    rw [ect]
    split <;> rfl
  have d2 : divOk ((2 * ct : Nat) : Int) 2 = true := divOk_c (by decide) (by decide)
  have ec : ((2 * ct : Nat) : Int) / 2 = (ct : Int) := by omega
  let ah : List Int := [1, ((n % 2 : Nat) : Int), 2, 0, 0, 2, (m : Int), 0, 1, 1, 1, 1]
  have nah := fun T => ints_lit T ah [.p (.int 1), .p (.int ((n % 2 : Nat) : Int)), .p (.int 2), .p (.int 0), .p (.int 0), .p (.int 2), .p (.int (m : Int)), .p (.int 0), .p (.int 1), .p (.int 1), .p (.int 1), .p (.int 1)] rfl (show 12 ≤ 1000 by decide)
  have oc := one_l (ct : Int)
  have nml : (nmS m).length ≤ 2 := by
    unfold nmS
    split <;> simp
  have g1 := fun T => add_l ah [(ct : Int)] (show 13 ≤ 1000000 by decide) T
  have g2 := fun T => add_l (ah ++ [(ct : Int)]) (nmS m) (by show 13 + _ ≤ _; omega) T
  have g3 := fun T => add_l (ah ++ [(ct : Int)] ++ nmS m) [0] (by rw [List.length_append]; show 13 + _ + 1 ≤ _; omega) T
  have g4 := fun T => add_l (ah ++ [(ct : Int)] ++ nmS m ++ [0]) [(ct : Int)] (by rw [List.length_append, List.length_append]; show 13 + _ + 1 + 1 ≤ _; omega) T
  have g5 := fun T => add_l (ah ++ [(ct : Int)] ++ nmS m ++ [0] ++ [(ct : Int)]) (nmS m) (by rw [List.length_append, List.length_append, List.length_append]; show 13 + _ + 1 + 1 + _ ≤ _; omega) T
  have g6 := fun T => add_l (ah ++ [(ct : Int)] ++ nmS m ++ [0] ++ [(ct : Int)] ++ nmS m) [0] (by rw [List.length_append, List.length_append, List.length_append, List.length_append]; show 13 + _ + 1 + 1 + _ + 1 ≤ _; omega) T
  have fin2 : askE (n % 2) (stL n m) [] = ah ++ [(ct : Int)] ++ nmS m ++ [0] ++ [(ct : Int)] ++ nmS m ++ [0] := by
    have wm : wnd 60 (n % 2) = [((n % 2 : Nat) : Int)] := wnd_small (by omega)
    have h3 : m = 0 ∨ m = 1 ∨ m = 2 := by omega
    unfold askE askH
    rw [wm]
    simp only [ah]
    rw [ect]
    rcases h3 with h | h | h <;> rw [h] <;> rfl
  rw [fin2] at ask
  have ord := order_eq n ⟨S.os.length, sto S.os (stL n m) []⟩
  unfold m_store
  rw [fn_at (k := 1) rfl, ev, at_dSeq, at_dSet, mkS]
  simp only [bnd_some, seqK_nx, List.set_cons_zero, List.set_cons_succ]
  rw [at_dSeq]
  simp only [at_dSet, at_dCall, at_dCons, at_dComp, at_dRng1, at_dOp, at_dVar, at_dC, at_dNil, bnd_some, List.getElem?_cons_zero, List.getElem?_cons_succ, fII_eq, if_true, decide_eq_true_eq, Int.reduceLT, e4, rz, wipeD, List.set_cons_zero, List.set_cons_succ, cp, nlr, ftr, seqK_nx]
  rw [at_dSeq]
  simp only [at_dSet, at_dLst, at_dTup, at_dCons, at_dVar, at_dC, at_dNil, bnd_some, List.getElem?_cons_zero, List.getElem?_cons_succ, t_nil, tp0, tp1, nlp, List.set_cons_zero, List.set_cons_succ, seqK_nx]
  rw [at_dSeq, at_dFor]
  simp only [at_dRng1, at_dCons, at_dOp, at_dVar, at_dC, at_dNil, bnd_some, List.getElem?_cons_zero, fII_eq, d4, if_true, decide_eq_true_eq, Int.reduceLT, em', rzm, wipeD, List.set_cons_zero, List.set_cons_succ]
  rw [q1, bnd_some, seqK_nx]
  rw [at_dSeq]
  simp only [at_dSet, at_dLst, at_dCons, at_dC, at_dNil, bnd_some, n4, List.set_cons_zero, List.set_cons_succ, seqK_nx]
  rw [at_dSeq]
  simp only [at_dSet, at_dOp, at_dLst, at_dCons, at_dVar, at_dC, at_dNil, bnd_some, List.getElem?_cons_zero, List.getElem?_cons_succ, n4b, fII_eq, d4, if_true, decide_eq_true_eq, Int.reduceLT, em', nm1, c1, c2, c3, c4, c5, List.set_cons_zero, List.set_cons_succ, seqK_nx]
  rw [at_dSeq]
  simp only [at_dSet, at_dLst, at_dNil, bnd_some, n0, List.set_cons_zero, List.set_cons_succ, seqK_nx]
  rw [at_dSeq, at_dFor]
  simp only [at_dRng1, at_dCons, at_dOp, at_dVar, at_dC, at_dNil, bnd_some, List.getElem?_cons_zero, fII_eq, d4, if_true, decide_eq_true_eq, Int.reduceLT, em', rzm, wipeD, List.set_cons_zero, List.set_cons_succ]
  rw [show [2, 0, 0, 0] ++ nt ++ nt ++ nt ++ nt ++ [(m : Int)] = d0 from rfl, q2, bnd_some, seqK_nx]
  rw [at_dSeq]
  simp only [at_dSet, at_dOp, at_dLst, at_dCons, at_dVar, at_dC, at_dNil, bnd_some, List.getElem?_cons_zero, List.getElem?_cons_succ, o0, c6, List.set_cons_zero, List.set_cons_succ, seqK_nx]
  rw [at_dSeq]
  simp only [at_dSet, at_dOp, at_dCall, at_dCons, at_dVar, at_dC, at_dNil, bnd_some, List.getElem?_cons_zero, List.getElem?_cons_succ, ln, fII_eq, d2, if_true, decide_eq_true_eq, Int.reduceLT, ec, List.set_cons_zero, List.set_cons_succ, seqK_nx]
  rw [at_dSeq]
  simp only [at_dSet, at_dOp, at_dLst, at_dCons, at_dVar, at_dC, at_dNil, bnd_some, List.getElem?_cons_zero, List.getElem?_cons_succ, fII_eq, d4, if_true, decide_eq_true_eq, Int.reduceLT, e2, em', nah, List.set_cons_zero, List.set_cons_succ, seqK_nx]
  rw [at_dSeq]
  simp only [at_dSet, at_dOp, at_dLst, at_dCons, at_dVar, at_dC, at_dNil, bnd_some, List.getElem?_cons_zero, List.getElem?_cons_succ, oc, o0, g1, g2, g3, g4, g5, g6, List.set_cons_zero, List.set_cons_succ, seqK_nx]
  simp only [at_dRet, at_dAndV, at_dOp, at_dCall, at_dCons, at_dVar, at_dC, at_dNil, bnd_some, List.getElem?_cons_zero, List.getElem?_cons_succ, wst, eq_ints, toB_p, if_true, fII_eq, decide_eq_true_eq, Int.reduceLT, e2, ask, ord, frame_p]
  rw [show sto S.os (stL n m) [] = S.os ++ _ from rfl, cut_app]
end Kb
namespace Kb
open PySem PySem.Spec PyProof.Rows L2 Pv
/-! a number drawn -/
theorem mod_r (a b : Int) (h : 0 < b) : 0 ≤ a % b := Int.emod_nonneg _ (by omega)
theorem draw_eq (ns : List Int) (hn : ns.length ≤ 63) (k : Nat) (hk : k ≤ 10) (S : SH) : ∃ d : Int, 0 ≤ d ∧ m_draw [.p (.lst (intsP ns)), .p (.int (k : Int))] S = some (.p (.int d), S) := by
  have ev : startD 5 [.p (.lst (intsP ns)), .p (.int (k : Int))] = [some (.p (.lst (intsP ns))), some (.p (.int (k : Int))), none, none, none] := rfl
  have tru : ∀ T, truD (.p (.lst (intsP ns))) T = some (!ns.isEmpty, T) := fun T => by
    show some (!((intsP ns).map D.p).isEmpty, T) = _
    cases ns <;> rfl
  have m5 : mulOk (k : Int) 5 = true := mulOk_r (by decide)
  unfold m_draw
  rw [fn_at (k := 2) rfl, ev]
  by_cases hz : ns.isEmpty = true
  · refine ⟨(k : Int) * 5 % 7, mod_r _ _ (by decide), ?_⟩
    simp only [at_dSeq, at_dIf, at_dNot, at_dTru, at_dVar, bnd_some, List.getElem?_cons_zero, List.getElem?_cons_succ, tru, hz, Bool.not_true, Bool.not_false, if_true, at_dRet, at_dOp, at_dC, fII_eq, m5, decide_eq_true_eq, Int.reduceLT, seqK_ret, frame_p, cut_self]
  · have hz' : ns.isEmpty = false := by simpa using hz
    have hpos : 0 < ns.length := by
      cases ns with
      | nil => exact absurd rfl hz
      | cons a l => simp
    have hl : ∀ T, fLen [.p (.lst (intsP ns))] T = some (.p (.int (ns.length : Int)), T) := fun T => by rw [fLen_l, intsP_len]
    have mo := fun T => mod_eq (n := k) (m := ns.length) hpos T
    have hlt : k % ns.length < ns.length := Nat.mod_lt _ hpos
    have ix : ∀ T, fIx (.p (.lst (intsP ns))) (.p (.int ((k % ns.length : Nat) : Int))) T = some (.p (.int ns[k % ns.length]), T) := fun T => fIx_l (intsP_at (List.getElem?_eq_getElem hlt))
    generalize ns[k % ns.length] = v at ix
    have dl : divOk (k : Int) (ns.length : Int) = true := divOk_c (by omega) (by omega)
    have eq : (k : Int) / (ns.length : Int) = ((k / ns.length : Nat) : Int) := by rw [← Int.natCast_ediv]
    have pw : powOk 10 18 = true := by decide
    have ge : ∀ T, fGe (.p (.int v)) (.p (.int 1000000000000000000)) T = some (.p (.bl (decide (1000000000000000000 ≤ v))), T) := fun T => (fII_eq _ _ _ _ T).trans (by rw [if_pos rfl])
    by_cases hv : (1000000000000000000 : Int) ≤ v
    · obtain ⟨c, ec⟩ : ∃ c : Nat, (if (60 : Int) < ((k / ns.length : Nat) : Int) then (60 : Int) else ((k / ns.length : Nat) : Int)) = (c : Int) ∧ c ≤ 60 := by
        by_cases h : (60 : Int) < ((k / ns.length : Nat) : Int)
        · exact ⟨60, by rw [if_pos h]; rfl, Nat.le_refl _⟩
        · exact ⟨k / ns.length, by rw [if_neg h], by omega⟩
      have mn : ∀ T, fMin [.p (.int ((k / ns.length : Nat) : Int)), .p (.int 60)] T = some (.p (.int (c : Int)), T) := fun T => by rw [fMin_i, ec.1]
      have rz := fun T => srt_rng (S := T) c (by omega)
      obtain ⟨σ1, S1, q1, ⟨w, rfl⟩, rfl⟩ := rng0_inv (body := (dSet 2 (dOp fDiv (dVar 2) (dC (.int 100003))))) (ws := [0, 1, 3, 4]) (j := 4) (fun i σ S' => (∃ w : Int, σ = [none, none, some (.p (.int w)), none, none]) ∧ S' = ⟨S.os.length, S.os⟩) c
        (σ := [none, none, some (.p (.int v)), none, none]) (S := ⟨S.os.length, S.os⟩) ⟨⟨v, rfl⟩, rfl⟩ (by
          rintro i σ S1 hi ⟨⟨w, rfl⟩, rfl⟩
          have dw : divOk w 100003 = true := divOk_c (by decide) (by decide)
          refine ⟨[none, none, some (.p (.int (w / 100003))), none, some (.p (.int (i : Int)))], _, .inl ?_, ⟨w / 100003, rfl⟩, rfl⟩
          simp only [at_dSet, at_dOp, at_dVar, at_dC, bnd_some, List.getElem?_cons_zero, List.getElem?_cons_succ, List.set_cons_zero, List.set_cons_succ, fII_eq, dw, if_true])
      refine ⟨w % 100003, mod_r _ _ (by decide), ?_⟩
      rw [at_dSeq]
      simp only [at_dIf, at_dNot, at_dTru, at_dVar, bnd_some, List.getElem?_cons_zero, tru, hz', Bool.not_true, Bool.not_false, Bool.false_eq_true, if_false, at_dNx, seqK_nx]
      rw [at_dSeq]
      simp only [at_dSet, at_dCall, at_dCons, at_dOp, at_dVar, at_dNil, bnd_some, List.getElem?_cons_zero, List.getElem?_cons_succ, hl, mo, ix, fInt_i, List.set_cons_zero, List.set_cons_succ, seqK_nx]
      rw [at_dSeq]
      simp only [at_dSet, at_dCall, at_dCons, at_dOp, at_dVar, at_dNil, bnd_some, List.getElem?_cons_zero, List.getElem?_cons_succ, hl, fII_eq, dl, if_true, eq, List.set_cons_zero, List.set_cons_succ, seqK_nx]
      rw [at_dSeq, at_dIf]
      simp only [at_dTest, at_dOp, at_dVar, at_dC, bnd_some, List.getElem?_cons_zero, List.getElem?_cons_succ, ge, hv, decide_true, toB_p, if_true]
      rw [at_dSeq, at_dFor]
      simp only [at_dRng1, at_dCons, at_dCall, at_dVar, at_dC, at_dNil, bnd_some, List.getElem?_cons_zero, List.getElem?_cons_succ, mn, rz, wipeD, List.set_cons_zero, List.set_cons_succ]
      rw [q1]
      simp only [bnd_some, seqK_nx, at_dRet, at_dOp, at_dVar, at_dC, List.getElem?_cons_zero, List.getElem?_cons_succ, fII_eq, decide_eq_true_eq, Int.reduceLT, if_true, seqK_ret, frame_p, cut_self]
    · refine ⟨(v * 48271 + (k : Int) * 69621 + 13) % 2147483647 * 16807 % 2147483629, mod_r _ _ (by decide), ?_⟩
      have m1 : mulOk v 48271 = true := mulOk_r (by decide)
      have m2 : mulOk (k : Int) 69621 = true := mulOk_r (by decide)
      have m3 : ∀ x : Int, mulOk x 16807 = true := fun x => mulOk_r (by decide)
      rw [at_dSeq]
      simp only [at_dIf, at_dNot, at_dTru, at_dVar, bnd_some, List.getElem?_cons_zero, tru, hz', Bool.not_true, Bool.not_false, Bool.false_eq_true, if_false, at_dNx, seqK_nx]
      rw [at_dSeq]
      simp only [at_dSet, at_dCall, at_dCons, at_dOp, at_dVar, at_dNil, bnd_some, List.getElem?_cons_zero, List.getElem?_cons_succ, hl, mo, ix, fInt_i, List.set_cons_zero, List.set_cons_succ, seqK_nx]
      rw [at_dSeq]
      simp only [at_dSet, at_dCall, at_dCons, at_dOp, at_dVar, at_dNil, bnd_some, List.getElem?_cons_zero, List.getElem?_cons_succ, hl, fII_eq, dl, if_true, eq, List.set_cons_zero, List.set_cons_succ, seqK_nx]
      rw [at_dSeq, at_dIf]
      simp only [at_dTest, at_dOp, at_dVar, at_dC, bnd_some, List.getElem?_cons_zero, List.getElem?_cons_succ, ge, hv, decide_false, toB_p, Bool.false_eq_true, if_false, at_dNx, seqK_nx]
      simp only [at_dRet, at_dOp, at_dVar, at_dC, bnd_some, List.getElem?_cons_zero, List.getElem?_cons_succ, fII_eq, fAdd_i, m1, m2, m3, decide_eq_true_eq, Int.reduceLT, if_true, frame_p, cut_self]
/-! the text of a round -/
theorem fold_mem (x : Array Nat) (c : Nat) : ∀ (n : Nat) (acc : Array Nat), c ∈ ((List.replicate n x).foldl (· ++ ·) acc).toList → c ∈ acc.toList ∨ c ∈ x.toList
  | 0, acc, h => .inl h
  | n + 1, acc, h => by
    rw [List.replicate_succ, List.foldl_cons] at h
    rcases fold_mem x c n (acc ++ x) h with h | h
    · rw [Array.toList_append] at h
      exact List.mem_append.mp h
    · exact .inr h
theorem rep_cps {z : Str} {n c : Nat} (h : c ∈ cpsN (repS z n)) : c ∈ cpsN z := by
  rcases fold_mem z.cps c n #[] h with h | h
  · simp at h
  · exact h
theorem cut_ok {z : Str} (hl : z.length ≤ 10000) (hc : ∀ c ∈ cpsN z, c < Big) (lo hi : Option Int) : (L2.cutS z lo hi).length ≤ 10000 ∧ ∀ c ∈ cpsN (L2.cutS z lo hi), c < Big := by
  have e : cpsN (L2.cutS z lo hi) = (z.cps.toList.drop (HT.sIx z.length 0 lo)).take (HT.sIx z.length z.length hi - HT.sIx z.length 0 lo) := by
    unfold cpsN L2.cutS
    simp
  refine ⟨?_, fun c h => ?_⟩
  · rw [← cpsN_len, e]
    have := cpsN_len z
    unfold cpsN at this
    refine Nat.le_trans (List.length_take_le' _ _) ?_
    rw [List.length_drop]
    omega
  · rw [e] at h
    exact hc c (List.mem_of_mem_drop (List.mem_of_mem_take h))
theorem txt_eq (n : Nat) (T : SH) : ∃ z : Str, z.length ≤ 10000 ∧ (∀ c ∈ cpsN z, c < Big) ∧
    ∀ (x : D) (w : Option D) (T : SH), dIf (dTest (dOp (fEq false) (dOp fMod (dVar 2) (dC (.int 6))) (dC (.int 1))))
      (dSet 3 (dOp fMulS (dOp (fAdd false) (dVar 3) (dC (.str "ab~ "))) (dOp fMod (dVar 2) (dC (.int 101)))))
      dNx [some x, w, some (.p (.int (n : Int))), some (.p (.str (textS n))), none, none, none, none, none, none, none, none] T = some (.nx [some x, w, some (.p (.int (n : Int))), some (.p (.str z)), none, none, none, none, none, none, none, none], T) := by
  have fe : ∀ T, fEq false (.p (.int ((n : Int) % 6))) (.p (.int 1)) T = some (.p (.bl ((n : Int) % 6 == 1)), T) := fun T => by simp [fEq, okd, peq]
  have tl := textS_len n
  have ab : ("ab~ " : Str).length = 4 := by decide +kernel
  have abc : ∀ c ∈ cpsN ("ab~ " : Str), c < 1000 := by decide +kernel
  have hc := (textS_ok n).cps
  by_cases c : n % 6 = 1
  · have c' : ((n : Int) % 6 == 1) = true := by
      rw [beq_iff_eq]
      omega
    rw [c'] at fe
    have as := fun T => add_s (textS n) "ab~ " (by omega) (by omega) T
    have e101 : (n : Int) % 101 = ((n % 101 : Nat) : Int) := by omega
    have ml : ∀ T, fMulS (.p (.str (textS n ++ "ab~ "))) (.p (.int ((n % 101 : Nat) : Int))) T = some (.p (.str (repS (textS n ++ "ab~ ") (n % 101))), T) := fun T => by
      unfold fMulS
      dsimp only
      rw [if_pos ⟨by omega, by omega, by rw [str_add_len]; omega⟩]
      rfl
    refine ⟨repS (textS n ++ "ab~ ") (n % 101), ?_, fun d hd => ?_, fun x w T => ?_⟩
    · rw [repS_len, str_add_len, ab]
      have : n % 101 ≤ 100 := by omega
      exact Nat.le_trans (Nat.mul_le_mul this (show (textS n).length + 4 ≤ 12 by omega)) (by decide)
    · have h := rep_cps hd
      rw [cd_app] at h
      rcases List.mem_append.mp h with h | h
      · exact hc d h
      · exact Nat.lt_trans (abc d h) (by decide)
    · simp only [at_dIf, at_dTest, at_dOp, at_dVar, at_dC, bnd_some, List.getElem?_cons_zero, List.getElem?_cons_succ, fII_eq, if_true, decide_eq_true_eq, Int.reduceLT, fe, toB_p, at_dSet, as, e101, ml, List.set_cons_zero, List.set_cons_succ]
  · have c' : ((n : Int) % 6 == 1) = false := by
      rw [beq_eq_false_iff_ne]
      omega
    rw [c'] at fe
    refine ⟨textS n, by omega, hc, fun x w T => ?_⟩
    simp only [at_dIf, at_dTest, at_dOp, at_dVar, at_dC, bnd_some, List.getElem?_cons_zero, List.getElem?_cons_succ, fII_eq, if_true, decide_eq_true_eq, Int.reduceLT, fe, toB_p, Bool.false_eq_true, if_false, at_dNx]
end Kb
namespace Kb
open PySem PySem.Spec PyProof.Rows L2 Pv
abbrev inB : MS :=       (dSeq (dSet 6 (dCall m_act (dCons (dVar 5) (dCons (dVar 2) dNil))))
    (dIf (dTest (dOp (fEq true) (dCall m_write_act (dCons (dVar 6) dNil)) (dCall m_act_bytes (dCons (dVar 6) dNil))))
      (dRet (dC (.bl false)))
      dNx))
abbrev lawB : MS :=       (dSeq (dSet 2 (dOp fMod (dCall m_draw (dCons (dVar 0) (dCons (dVar 1) dNil))) (dC (.int 1000003))))
    (dSeq (dSet 3 (dCall m_text (dCons (dVar 2) dNil)))
    (dSeq (dIf (dTest (dOp (fEq false) (dOp fMod (dVar 2) (dC (.int 6))) (dC (.int 1))))
      (dSet 3 (dOp fMulS (dOp (fAdd false) (dVar 3) (dC (.str "ab~ "))) (dOp fMod (dVar 2) (dC (.int 101)))))
      dNx)
    (dSeq (dSet 3 (dSl false (dVar 3) none (some (dC (.int 2000)))))
    (dSeq (dSet 4 (dOp fPow (dVar 2) (dC (.int 6))))
    (dSeq (dIf (dOr (dTest (dOp (fEq true) (dCall m_write_number (dCons (dVar 4) dNil)) (dCall m_number (dCons (dVar 4) dNil)))) (dTest (dOp (fEq true) (dCall m_write_integer (dCons (dUn fNeg (dVar 2)) dNil)) (dCall m_signed (dCons (dUn fNeg (dVar 2)) dNil)))))
      (dRet (dC (.bl false)))
      dNx)
    (dSeq (dIf (dOr (dTest (dOp (fEq true) (dCall m_write_string (dCons (dVar 3) dNil)) (dCall m_string (dCons (dVar 3) dNil)))) (dTest (dOp (fEq true) (dCall m_write_value (dCons (dCall m_value (dCons (dVar 2) dNil)) dNil)) (dCall m_bytes_of (dCons (dCall m_value (dCons (dVar 2) dNil)) dNil)))))
      (dRet (dC (.bl false)))
      dNx)
    (dSeq (dFor [1, 3, 4, 5, 6, 7, 8, 9, 10, 11] (dRng1 (dCons (dC (.int 11)) dNil)) (gNm 5)
      (dSeq (dSet 6 (dCall m_act (dCons (dVar 5) (dCons (dVar 2) dNil))))
    (dIf (dTest (dOp (fEq true) (dCall m_write_act (dCons (dVar 6) dNil)) (dCall m_act_bytes (dCons (dVar 6) dNil))))
      (dRet (dC (.bl false)))
      dNx)))
    (dSeq (dSet 7 (dCall m_change (dCons (dVar 2) dNil)))
    (dSeq (dAsg (dCall m_entry (dCons (dVar 2) dNil)) (gTp 2 (gCn (gNm 8) (gCn (gNm 9) gNl))))
    (dSeq (dAsg (dCall m_kept (dCons (dVar 2) dNil)) (gTp 2 (gCn (gNm 10) (gCn (gNm 11) gNl))))
    (dSeq (dIf (dOr (dTest (dOp (fEq true) (dCall m_write_change (dCons (dVar 7) dNil)) (dCall m_change_bytes (dCons (dVar 7) dNil)))) (dTest (dOp (fEq true) (dCall m_write_capability (dCons (dVar 8) dNil)) (dVar 9))))
      (dRet (dC (.bl false)))
      dNx)
    (dIf (dOr (dTest (dOp (fEq true) (dCall m_write_kept (dCons (dVar 10) dNil)) (dVar 11))) (dNot (dTest (dCall m_store (dCons (dVar 2) dNil)))))
      (dRet (dC (.bl false)))
      dNx)))))))))))))
theorem in_step (n : Nat) (hn : n ≤ 1000003) (x : D) (S : SH) : ∃ σ', forL [1, 3, 4, 5, 6, 7, 8, 9, 10, 11] (srcN 0 11).fin (gNm 5) inB (srcN 0 11).items [some x, none, some (.p (.int (n : Int))), none, none, none, none, none, none, none, none, none] S = some (.nx σ', S) ∧ σ' = [some x, none, some (.p (.int (n : Int))), none, none, none, none, none, none, none, none, none] := by
  obtain ⟨σ1, S1, q1, rfl, rfl⟩ := rng0_inv (body := inB) (ws := [1, 3, 4, 5, 6, 7, 8, 9, 10, 11]) (j := 5) (fun i σ S' => σ = [some x, none, some (.p (.int (n : Int))), none, none, none, none, none, none, none, none, none] ∧ S' = S) 11
    (σ := [some x, none, some (.p (.int (n : Int))), none, none, none, none, none, none, none, none, none]) (S := S) ⟨rfl, rfl⟩ (by
      rintro i σ S1 hi ⟨rfl, rfl⟩
      have ok := act_ok i n (by omega)
      have w := fun T => wa_eq (actN i n) ok T
      have v := fun T => ba_eq (actN i n) ok T
      refine ⟨[some x, none, some (.p (.int (n : Int))), none, none, some (.p (.int (i : Int))), some (.p (actP (actN i n))), none, none, none, none, none], S1, .inl ?_, rfl, rfl⟩
      unfold inB
      simp only [at_dSeq, at_dSet, at_dCall, at_dCons, at_dVar, at_dNil, bnd_some, List.getElem?_cons_zero, List.getElem?_cons_succ, List.set_cons_zero, List.set_cons_succ, act_eq, seqK_nx, at_dIf, at_dTest, at_dOp, w, v, ne_ints, toB_p, Bool.false_eq_true, if_false, at_dNx])
  exact ⟨_, q1, rfl⟩
theorem law_step (ns : List Int) (hn : ns.length ≤ 63) (k : Nat) (hk : k ≤ 10) (S : SH) : ∃ σ2, lawB [some (.p (.lst (intsP ns))), some (.p (.int (k : Int))), none, none, none, none, none, none, none, none, none, none] S = some (.nx σ2, S) ∧ wipeD [1, 2, 3, 4, 5, 6, 7, 8, 9, 10, 11] σ2 = [some (.p (.lst (intsP ns))), none, none, none, none, none, none, none, none, none, none, none] := by
  obtain ⟨d, hd, dr⟩ := draw_eq ns hn k hk S
  obtain ⟨n, en⟩ : ∃ n : Nat, (n : Int) = d % 1000003 := ⟨(d % 1000003).toNat, by have := mod_r d 1000003 (by decide); omega⟩
  have hb : n < 1000003 := by
    have := Int.emod_lt_of_pos d (show (0 : Int) < 1000003 by decide)
    omega
  obtain ⟨z, hz, hc, tx⟩ := txt_eq n S
  obtain ⟨zl, zc⟩ := cut_ok hz hc none (some 2000)
  obtain ⟨y, ey⟩ : ∃ y : Str, y = L2.cutS z none (some 2000) := ⟨_, rfl⟩
  rw [← ey] at zl zc
  have sl : ∀ T, fSl false (.p (.str z)) none (some 2000) T = some (.p (.str y), T) := fun T => by
    rw [ey]
    exact if_pos (small (by omega))
  have pw : ∀ T, fPow (.p (.int (n : Int))) (.p (.int 6)) T = some (.p (.int ((n ^ 6 : Nat) : Int)), T) := fun T => by
    have h : powOk (n : Int) 6 = true := by
      unfold powOk
      rw [decide_eq_true (show (n : Int).natAbs < 2 ^ 64 by omega)]
      decide
    refine (fII_eq _ _ _ _ T).trans ?_
    rw [if_pos h]
    show some (D.p (.int ((n : Int) ^ 6)), T) = _
    rw [Int.natCast_pow]
  have h6 : n ^ 6 < Big := Nat.lt_of_le_of_lt (Nat.pow_le_pow_left (show n ≤ 1000003 by omega) 6) (by decide)
  have w1 := fun T => wn_eq (n ^ 6) h6 T
  have hneg : (-(n : Int)).natAbs < Big := big_of (by omega)
  have w2 := fun T => wi_eq (-(n : Int)) hneg T
  have w3 := fun T => ws_eq y zl zc T
  have w4 := fun T => ss_eq y zl T
  have ov := (val_ok n (by omega)).1
  have w5 := fun T => wv_eq (valP n) ov T
  have w6 := fun T => bv_eq (valP n) ov T
  have co := chg_ok n (by omega)
  have w7 := fun T => wch_eq (chgN n) co T
  have w8 := fun T => cb_eq (chgN n) co T
  have w9 := fun T => wcap_eq n T
  have ko := kp_ok n (by omega)
  have wa := fun T => wk_eq (kpN n) ko T
  have ke := fun T => kept_eq n (by omega) T
  obtain ⟨σi, lp, rfl⟩ := in_step n (by omega) (.p (.lst (intsP ns))) S
  have rz : ∀ T, rng1 [.p (.int 11)] T = some (srcN 0 11, T) := fun T => srt_rng 11 (by decide)
  have md : ∀ T, fMod (.p (.int d)) (.p (.int 1000003)) T = some (.p (.int (n : Int)), T) := fun T => by
    refine (fII_eq _ _ _ _ T).trans ?_
    rw [if_pos (by decide), en]
  have g2 : ∀ a b : P, [a, b].map D.p = [.p a, .p b] := fun _ _ => rfl
  have l2 : ∀ a b : P, [a, b].length = 2 := fun _ _ => rfl
  refine ⟨[some (.p (.lst (intsP ns))), none, some (.p (.int (n : Int))), none, none, none, none, some (.p (chgP (chgN n))), some (.p (entP n)), some (.p (.lst (intsP (encE n)))), some (.p (kpP (kpN n))), some (.p (.lst (intsP (encK (kpN n)))))], ?_, rfl⟩
  unfold lawB
  rw [at_dSeq]
  simp only [at_dSet, at_dOp, at_dCall, at_dCons, at_dVar, at_dC, at_dNil, bnd_some, List.getElem?_cons_zero, List.getElem?_cons_succ, dr, md, List.set_cons_zero, List.set_cons_succ, seqK_nx]
  rw [at_dSeq]
  simp only [at_dSet, at_dCall, at_dCons, at_dVar, at_dNil, bnd_some, List.getElem?_cons_zero, List.getElem?_cons_succ, text_eq, List.set_cons_zero, List.set_cons_succ, seqK_nx]
  rw [at_dSeq, tx, bnd_some, seqK_nx]
  rw [at_dSeq, at_dSet, sl_hi (d := .p (.str z)) (i := 2000) rfl rfl, sl]
  simp only [bnd_some, List.set_cons_zero, List.set_cons_succ, seqK_nx]
  rw [at_dSeq]
  simp only [at_dSet, at_dOp, at_dVar, at_dC, bnd_some, List.getElem?_cons_zero, List.getElem?_cons_succ, pw, List.set_cons_zero, List.set_cons_succ, seqK_nx]
  rw [at_dSeq]
  simp only [at_dIf, at_dOr, at_dTest, at_dOp, at_dUn, at_dCall, at_dCons, at_dVar, at_dNil, bnd_some, List.getElem?_cons_zero, List.getElem?_cons_succ, w1, nb_eq, ne_ints, toB_p, Bool.false_eq_true, if_false, fNeg_i, w2, si_eq, at_dNx, seqK_nx]
  rw [at_dSeq]
  simp only [at_dIf, at_dOr, at_dTest, at_dOp, at_dUn, at_dCall, at_dCons, at_dVar, at_dNil, bnd_some, List.getElem?_cons_zero, List.getElem?_cons_succ, w3, w4, ne_ints, toB_p, Bool.false_eq_true, if_false, value_eq, w5, w6, at_dNx, seqK_nx]
  rw [at_dSeq, at_dFor]
  simp only [at_dRng1, at_dCons, at_dC, at_dNil, bnd_some, rz, wipeD, List.set_cons_zero, List.set_cons_succ]
  rw [lp, bnd_some, seqK_nx]
  rw [at_dSeq]
  simp only [at_dSet, at_dCall, at_dCons, at_dVar, at_dNil, bnd_some, List.getElem?_cons_zero, List.getElem?_cons_succ, change_eq, List.set_cons_zero, List.set_cons_succ, seqK_nx]
  rw [at_dSeq]
  simp only [at_dAsg, at_dCall, at_dCons, at_dVar, at_dNil, bnd_some, List.getElem?_cons_zero, List.getElem?_cons_succ, entry_eq, at_gTp, l2, if_true, g2, at_gCn, at_gNm, at_gNl, List.set_cons_zero, List.set_cons_succ, seqK_nx]
  rw [at_dSeq]
  simp only [at_dAsg, at_dCall, at_dCons, at_dVar, at_dNil, bnd_some, List.getElem?_cons_zero, List.getElem?_cons_succ, ke, at_gTp, l2, if_true, g2, at_gCn, at_gNm, at_gNl, List.set_cons_zero, List.set_cons_succ, seqK_nx]
  rw [at_dSeq]
  simp only [at_dIf, at_dOr, at_dTest, at_dOp, at_dCall, at_dCons, at_dVar, at_dNil, bnd_some, List.getElem?_cons_zero, List.getElem?_cons_succ, w7, w8, ne_ints, toB_p, Bool.false_eq_true, if_false, w9, at_dNx, seqK_nx]
  simp only [at_dIf, at_dOr, at_dNot, at_dTest, at_dOp, at_dCall, at_dCons, at_dVar, at_dNil, bnd_some, List.getElem?_cons_zero, List.getElem?_cons_succ, wa, ne_ints, toB_p, Bool.false_eq_true, if_false, store_eq, Bool.not_true, at_dNx]
theorem law_true (ns : List Int) (hn : ns.length ≤ 63) : m_law [.p (.lst (intsP ns))] ⟨0, []⟩ = some (.p (.bl true), ⟨0, []⟩) := by
  have ev : startD 12 [.p (.lst (intsP ns))] = [some (.p (.lst (intsP ns))), none, none, none, none, none, none, none, none, none, none, none] := rfl
  obtain ⟨c, ec, hc⟩ : ∃ c : Nat, 1 + (if (ns.length : Int) < 4 then (ns.length : Int) else 4) = (c : Int) ∧ c ≤ 5 := by
    by_cases h : (ns.length : Int) < 4
    · exact ⟨1 + ns.length, by rw [if_pos h]; omega, by omega⟩
    · exact ⟨5, by rw [if_neg h]; rfl, Nat.le_refl _⟩
  have rz := fun T => srt_rng (S := T) c (by omega)
  obtain ⟨σ1, S1, q1, rfl, rfl⟩ := rng0_inv (body := lawB) (ws := [1, 2, 3, 4, 5, 6, 7, 8, 9, 10, 11]) (j := 1) (fun i σ S' => σ = [some (.p (.lst (intsP ns))), none, none, none, none, none, none, none, none, none, none, none] ∧ S' = ⟨0, []⟩) c
    (σ := [some (.p (.lst (intsP ns))), none, none, none, none, none, none, none, none, none, none, none]) (S := ⟨0, []⟩) ⟨rfl, rfl⟩ (by
      rintro i σ S1 hi ⟨rfl, rfl⟩
      obtain ⟨σ2, a, b⟩ := law_step ns hn i (by omega) ⟨0, []⟩
      exact ⟨σ2, _, .inl a, b, rfl⟩)
  have hl : ∀ T, fLen [.p (.lst (intsP ns))] T = some (.p (.int (ns.length : Int)), T) := fun T => by rw [fLen_l, intsP_len]
  unfold m_law
  rw [fn_at (k := 1) rfl, ev, at_dSeq, at_dFor]
  simp only [at_dRng1, at_dCons, at_dOp, at_dCall, at_dVar, at_dC, at_dNil, bnd_some, List.getElem?_cons_zero, hl, fMin_i, fAdd_i, ec, rz, wipeD, List.set_cons_zero, List.set_cons_succ]
  rw [show (⟨([] : List Ob).length, []⟩ : SH) = ⟨0, []⟩ from rfl, q1, bnd_some, seqK_nx]
  rfl
end Kb
namespace Kb
open PySem PySem.Spec PyProof.Rows L2 Pv
def spLaw (K : PySem.W.Frag) : Sp := fun vs H Q _ => ∃ (a : Addr) (ns : List Int), vs = [V.ref a] ∧ SqL K H a (ns.map V.int) ∧ ns.length ≤ 63 ∧ ∀ H', Q (.bl true) H'
theorem law_sp {K : PySem.W.Frag} {cl : Nat → Addr} {vs : List V} {H : Hp} {Q : VK} {E : XK} (h : spLaw K vs H Q E) : spOf K cl m_law vs H Q E := by
  obtain ⟨a, ns, rfl, hs, hl, q⟩ := h
  exact law_of hs (law_true ns hl) q
end Kb
namespace Kb
open PySem PySem.Spec PyProof.Rows L2 Pv
def topS (i : Nat) : Stmt := PySem.Challenge.pw_kithbase_k66_bytes_of_codes.main.body.getD i (.Pass ⟨0, 0, 0, 0⟩)
abbrev s_write_number : Stmt := (topS 4)
theorem sc_write_number : FnScope ["number", "data"] ["number"] (defScope s_write_number) := ⟨rfl, rfl, rfl, by decide +kernel, rfl, by decide +kernel, by decide +kernel⟩
abbrev s_write_integer : Stmt := (topS 5)
theorem sc_write_integer : FnScope ["number"] ["number"] (defScope s_write_integer) := ⟨rfl, rfl, rfl, by decide +kernel, rfl, by decide +kernel, by decide +kernel⟩
abbrev s_write_string : Stmt := (topS 6)
theorem sc_write_string : FnScope ["text", "data", "char"] ["text"] (defScope s_write_string) := ⟨rfl, rfl, rfl, by decide +kernel, rfl, by decide +kernel, by decide +kernel⟩
abbrev s_write_numbers : Stmt := (topS 7)
theorem sc_write_numbers : FnScope ["numbers", "data", "number"] ["numbers"] (defScope s_write_numbers) := ⟨rfl, rfl, rfl, by decide +kernel, rfl, by decide +kernel, by decide +kernel⟩
abbrev s_write_list : Stmt := (topS 8)
theorem sc_write_list : FnScope ["items", "data", "item"] ["items"] (defScope s_write_list) := ⟨rfl, rfl, rfl, by decide +kernel, rfl, by decide +kernel, by decide +kernel⟩
abbrev s_write_optional : Stmt := (topS 9)
theorem sc_write_optional : FnScope ["numbers"] ["numbers"] (defScope s_write_optional) := ⟨rfl, rfl, rfl, by decide +kernel, rfl, by decide +kernel, by decide +kernel⟩
abbrev s_write_value : Stmt := (topS 10)
theorem sc_write_value : FnScope ["value"] ["value"] (defScope s_write_value) := ⟨rfl, rfl, rfl, by decide +kernel, rfl, by decide +kernel, by decide +kernel⟩
abbrev s_write_holds : Stmt := (topS 11)
theorem sc_write_holds : FnScope ["holds"] ["holds"] (defScope s_write_holds) := ⟨rfl, rfl, rfl, by decide +kernel, rfl, by decide +kernel, by decide +kernel⟩
abbrev s_write_cell_act : Stmt := (topS 12)
theorem sc_write_cell_act : FnScope ["act", "data"] ["act"] (defScope s_write_cell_act) := ⟨rfl, rfl, rfl, by decide +kernel, rfl, by decide +kernel, by decide +kernel⟩
abbrev s_write_act : Stmt := (topS 13)
theorem sc_write_act : FnScope ["act", "data", "column"] ["act"] (defScope s_write_act) := ⟨rfl, rfl, rfl, by decide +kernel, rfl, by decide +kernel, by decide +kernel⟩
abbrev s_write_rights : Stmt := (topS 14)
theorem sc_write_rights : FnScope ["rights", "data", "read", "write", "give"] ["rights"] (defScope s_write_rights) := ⟨rfl, rfl, rfl, by decide +kernel, rfl, by decide +kernel, by decide +kernel⟩
abbrev s_write_public : Stmt := (topS 15)
theorem sc_write_public : FnScope ["act"] ["act"] (defScope s_write_public) := ⟨rfl, rfl, rfl, by decide +kernel, rfl, by decide +kernel, by decide +kernel⟩
abbrev s_write_change : Stmt := (topS 16)
theorem sc_write_change : FnScope ["change", "data", "part", "count", "act"] ["change"] (defScope s_write_change) := ⟨rfl, rfl, rfl, by decide +kernel, rfl, by decide +kernel, by decide +kernel⟩
abbrev s_write_characters : Stmt := (topS 17)
theorem sc_write_characters : FnScope ["characters", "mark", "char"] ["characters"] (defScope s_write_characters) := ⟨rfl, rfl, rfl, by decide +kernel, rfl, by decide +kernel, by decide +kernel⟩
abbrev s_write_kept : Stmt := (topS 18)
theorem sc_write_kept : FnScope ["kept", "acts", "cell", "sums", "texts", "characters", "spot", "act", "total"] ["kept"] (defScope s_write_kept) := ⟨rfl, rfl, rfl, by decide +kernel, rfl, by decide +kernel, by decide +kernel⟩
abbrev s_write_optional_kept : Stmt := (topS 19)
theorem sc_write_optional_kept : FnScope ["kept"] ["kept"] (defScope s_write_optional_kept) := ⟨rfl, rfl, rfl, by decide +kernel, rfl, by decide +kernel, by decide +kernel⟩
abbrev s_write_capability : Stmt := (topS 20)
theorem sc_write_capability : FnScope ["entry", "capability", "parent", "holder", "rights"] ["entry"] (defScope s_write_capability) := ⟨rfl, rfl, rfl, by decide +kernel, rfl, by decide +kernel, by decide +kernel⟩
abbrev s_write_store : Stmt := (topS 21)
theorem sc_write_store : FnScope ["store", "data", "kept", "changes", "count", "entry", "change"] ["store"] (defScope s_write_store) := ⟨rfl, rfl, rfl, by decide +kernel, rfl, by decide +kernel, by decide +kernel⟩
abbrev s_as_tuple : Stmt := (topS 23)
theorem sc_as_tuple : FnScope ["part"] ["part"] (defScope s_as_tuple) := ⟨rfl, rfl, rfl, by decide +kernel, rfl, by decide +kernel, by decide +kernel⟩
abbrev s_Change_init : Stmt := (inClass (topS 24) 0)
theorem sc_Change_init : FnScope ["self", "author", "number", "heard", "capability", "publics", "parts", "part"] ["self", "author", "number", "heard", "capability", "publics", "parts"] (defScope s_Change_init) := ⟨rfl, rfl, rfl, by decide +kernel, rfl, by decide +kernel, by decide +kernel⟩
abbrev s_Change_name : Stmt := (inClass (topS 24) 1)
theorem sc_Change_name : FnScope ["self"] ["self"] (defScope s_Change_name) := ⟨rfl, rfl, rfl, by decide +kernel, rfl, by decide +kernel, by decide +kernel⟩
abbrev s_Kept_init : Stmt := (inClass (topS 27) 0)
theorem sc_Kept_init : FnScope ["self", "acts", "sums", "texts", "spot", "act", "cell", "total", "characters", "mark", "char"] ["self", "acts", "sums", "texts"] (defScope s_Kept_init) := ⟨rfl, rfl, rfl, by decide +kernel, rfl, by decide +kernel, by decide +kernel⟩
abbrev s_Store_init : Stmt := (inClass (topS 28) 0)
theorem sc_Store_init : FnScope ["self", "members", "_"] ["self", "members"] (defScope s_Store_init) := ⟨rfl, rfl, rfl, by decide +kernel, rfl, by decide +kernel, by decide +kernel⟩
abbrev s_Store_count : Stmt := (inClass (topS 28) 1)
theorem sc_Store_count : FnScope ["self", "member"] ["self", "member"] (defScope s_Store_count) := ⟨rfl, rfl, rfl, by decide +kernel, rfl, by decide +kernel, by decide +kernel⟩
abbrev s_Store_counts : Stmt := (inClass (topS 28) 2)
theorem sc_Store_counts : FnScope ["self", "member"] ["self"] (defScope s_Store_counts) := ⟨rfl, rfl, rfl, by decide +kernel, rfl, by decide +kernel, by decide +kernel⟩
abbrev s_Store_find : Stmt := (inClass (topS 28) 3)
theorem sc_Store_find : FnScope ["self", "name", "author", "number", "index"] ["self", "name"] (defScope s_Store_find) := ⟨rfl, rfl, rfl, by decide +kernel, rfl, by decide +kernel, by decide +kernel⟩
abbrev s_Store_add : Stmt := (inClass (topS 28) 6)
theorem sc_Store_add : FnScope ["self", "change"] ["self", "change"] (defScope s_Store_add) := ⟨rfl, rfl, rfl, by decide +kernel, rfl, by decide +kernel, by decide +kernel⟩
abbrev s_unknown_names : Stmt := (topS 31)
theorem sc_unknown_names : FnScope ["store", "space", "names", "changes", "change"] ["store", "space"] (defScope s_unknown_names) := ⟨rfl, rfl, rfl, by decide +kernel, rfl, by decide +kernel, by decide +kernel⟩
abbrev s_asking : Stmt := (topS 32)
theorem sc_asking : FnScope ["store", "member", "data", "kept", "space", "count", "name"] ["store", "member"] (defScope s_asking) := ⟨rfl, rfl, rfl, by decide +kernel, rfl, by decide +kernel, by decide +kernel⟩
abbrev s_draw : Stmt := (topS 34)
theorem sc_draw : FnScope ["_law_script", "_law_k", "_law_cell", "_law_turn", "_law_step"] ["_law_script", "_law_k"] (defScope s_draw) := ⟨rfl, rfl, rfl, by decide +kernel, rfl, by decide +kernel, by decide +kernel⟩
abbrev s_spot : Stmt := (topS 35)
theorem sc_spot : FnScope ["_law_number_here"] ["_law_number_here"] (defScope s_spot) := ⟨rfl, rfl, rfl, by decide +kernel, rfl, by decide +kernel, by decide +kernel⟩
abbrev s_text : Stmt := (topS 36)
theorem sc_text : FnScope ["_law_number_here", "_law_letters", "_law_k"] ["_law_number_here"] (defScope s_text) := ⟨rfl, rfl, rfl, by decide +kernel, rfl, by decide +kernel, by decide +kernel⟩
abbrev s_value : Stmt := (topS 37)
theorem sc_value : FnScope ["_law_number_here", "_law_choices"] ["_law_number_here"] (defScope s_value) := ⟨rfl, rfl, rfl, by decide +kernel, rfl, by decide +kernel, by decide +kernel⟩
abbrev s_act : Stmt := (topS 38)
theorem sc_act : FnScope ["_law_kind", "_law_number_here", "_law_spot_here", "_law_other", "_law_mark", "_law_holds_here", "_law_acts", "_law_target", "_law_k"] ["_law_kind", "_law_number_here"] (defScope s_act) := ⟨rfl, rfl, rfl, by decide +kernel, rfl, by decide +kernel, by decide +kernel⟩
abbrev s_rights : Stmt := (topS 39)
theorem sc_rights : FnScope ["_law_number_here", "_law_rights_here", "_law_space", "_law_bits"] ["_law_number_here"] (defScope s_rights) := ⟨rfl, rfl, rfl, by decide +kernel, rfl, by decide +kernel, by decide +kernel⟩
abbrev s_number : Stmt := (topS 40)
theorem sc_number : FnScope ["_law_number_here", "_law_data"] ["_law_number_here"] (defScope s_number) := ⟨rfl, rfl, rfl, by decide +kernel, rfl, by decide +kernel, by decide +kernel⟩
abbrev s_numbers : Stmt := (topS 41)
theorem sc_numbers : FnScope ["_law_numbers_here", "_law_data", "_law_number_here"] ["_law_numbers_here"] (defScope s_numbers) := ⟨rfl, rfl, rfl, by decide +kernel, rfl, by decide +kernel, by decide +kernel⟩
abbrev s_signed : Stmt := (topS 42)
theorem sc_signed : FnScope ["_law_number_here"] ["_law_number_here"] (defScope s_signed) := ⟨rfl, rfl, rfl, by decide +kernel, rfl, by decide +kernel, by decide +kernel⟩
abbrev s_string : Stmt := (topS 43)
theorem sc_string : FnScope ["_law_text_here", "_law_char"] ["_law_text_here"] (defScope s_string) := ⟨rfl, rfl, rfl, by decide +kernel, rfl, by decide +kernel, by decide +kernel⟩
abbrev s_optional : Stmt := (topS 44)
theorem sc_optional : FnScope ["_law_numbers_here"] ["_law_numbers_here"] (defScope s_optional) := ⟨rfl, rfl, rfl, by decide +kernel, rfl, by decide +kernel, by decide +kernel⟩
abbrev s_bytes_of : Stmt := (topS 45)
theorem sc_bytes_of : FnScope ["_law_value_here"] ["_law_value_here"] (defScope s_bytes_of) := ⟨rfl, rfl, rfl, by decide +kernel, rfl, by decide +kernel, by decide +kernel⟩
abbrev s_holds : Stmt := (topS 46)
theorem sc_holds : FnScope ["_law_holds_here", "_law_words"] ["_law_holds_here"] (defScope s_holds) := ⟨rfl, rfl, rfl, by decide +kernel, rfl, by decide +kernel, by decide +kernel⟩
abbrev s_act_bytes : Stmt := (topS 47)
theorem sc_act_bytes : FnScope ["_law_act_here", "_law_words", "_law_data", "_law_column"] ["_law_act_here"] (defScope s_act_bytes) := ⟨rfl, rfl, rfl, by decide +kernel, rfl, by decide +kernel, by decide +kernel⟩
abbrev s_rights_bytes : Stmt := (topS 48)
theorem sc_rights_bytes : FnScope ["_law_rights_here", "_law_data", "_law_three", "_law_each"] ["_law_rights_here"] (defScope s_rights_bytes) := ⟨rfl, rfl, rfl, by decide +kernel, rfl, by decide +kernel, by decide +kernel⟩
abbrev s_change_bytes : Stmt := (topS 49)
theorem sc_change_bytes : FnScope ["_law_change_here", "_law_data", "_law_act_here", "_law_part"] ["_law_change_here"] (defScope s_change_bytes) := ⟨rfl, rfl, rfl, by decide +kernel, rfl, by decide +kernel, by decide +kernel⟩
abbrev s_change : Stmt := (topS 50)
theorem sc_change : FnScope ["_law_number_here", "_law_heard", "_law_publics", "_law_parts", "_law_capability", "_law_k"] ["_law_number_here"] (defScope s_change) := ⟨rfl, rfl, rfl, by decide +kernel, rfl, by decide +kernel, by decide +kernel⟩
abbrev s_entry : Stmt := (topS 51)
theorem sc_entry : FnScope ["_law_number_here", "_law_parent", "_law_entry_here", "_law_data"] ["_law_number_here"] (defScope s_entry) := ⟨rfl, rfl, rfl, by decide +kernel, rfl, by decide +kernel, by decide +kernel⟩
abbrev s_kept : Stmt := (topS 52)
theorem sc_kept : FnScope ["_law_number_here", "_law_spot_here", "_law_other", "_law_act_here", "_law_marks", "_law_kept_here", "_law_data", "_law_mark", "_law_char"] ["_law_number_here"] (defScope s_kept) := ⟨rfl, rfl, rfl, by decide +kernel, rfl, by decide +kernel, by decide +kernel⟩
abbrev s_order : Stmt := (topS 53)
theorem sc_order : FnScope ["_law_number_here", "_law_store_here", "_law_k", "_law_names", "_law_due"] ["_law_number_here"] (defScope s_order) := ⟨rfl, rfl, rfl, by decide +kernel, rfl, by decide +kernel, by decide +kernel⟩
abbrev s_store : Stmt := (topS 54)
theorem sc_store : FnScope ["_law_number_here", "_law_store_here", "_law_k", "_law_row", "_law_parts", "_law_empty", "_law_data", "_law_missing", "_law_count", "_law_asked"] ["_law_number_here"] (defScope s_store) := ⟨rfl, rfl, rfl, by decide +kernel, rfl, by decide +kernel, by decide +kernel⟩
abbrev s_law : Stmt := (topS 55)
theorem sc_law : FnScope ["_law_script", "_law_k", "_law_number_here", "_law_text_here", "_law_big", "_law_kind", "_law_act_here", "_law_change_here", "_law_entry_here", "_law_bytes_of_entry", "_law_kept_here", "_law_bytes_of_kept"] ["_law_script"] (defScope s_law) := ⟨rfl, rfl, rfl, by decide +kernel, rfl, by decide +kernel, by decide +kernel⟩
theorem bt_abs : bootBuiltins "abs" = some (.builtin "abs") := by decide +kernel
theorem bt_bool : bootBuiltins "bool" = some (.type "bool") := by decide +kernel
theorem bt_int : bootBuiltins "int" = some (.type "int") := by decide +kernel
theorem bt_isinstance : bootBuiltins "isinstance" = some (.builtin "isinstance") := by decide +kernel
theorem bt_len : bootBuiltins "len" = some (.builtin "len") := by decide +kernel
theorem bt_min : bootBuiltins "min" = some (.builtin "min") := by decide +kernel
theorem bt_ord : bootBuiltins "ord" = some (.builtin "ord") := by decide +kernel
theorem bt_range : bootBuiltins "range" = some (.type "range") := by decide +kernel
theorem bt_str : bootBuiltins "str" = some (.type "str") := by decide +kernel
theorem bt_tuple : bootBuiltins "tuple" = some (.type "tuple") := by decide +kernel
structure Txt (K : PySem.W.Frag) (mg : Str → Option Value) where
  c_Change : Addr
  cl_Change : Cls K c_Change
  g_Change : mg "Change" = some (.ref c_Change)
  n_Change_author : NoAttr K c_Change "author"
  n_Change_capability : NoAttr K c_Change "capability"
  n_Change_heard : NoAttr K c_Change "heard"
  n_Change_number : NoAttr K c_Change "number"
  n_Change_parts : NoAttr K c_Change "parts"
  n_Change_publics : NoAttr K c_Change "publics"
  c_Kept : Addr
  cl_Kept : Cls K c_Kept
  g_Kept : mg "Kept" = some (.ref c_Kept)
  n_Kept_acts : NoAttr K c_Kept "acts"
  n_Kept_sums : NoAttr K c_Kept "sums"
  n_Kept_texts : NoAttr K c_Kept "texts"
  c_Store : Addr
  cl_Store : Cls K c_Store
  g_Store : mg "Store" = some (.ref c_Store)
  n_Store_capabilities : NoAttr K c_Store "capabilities"
  n_Store_changes : NoAttr K c_Store "changes"
  n_Store_cut : NoAttr K c_Store "cut"
  n_Store_kept : NoAttr K c_Store "kept"
  n_Store_members : NoAttr K c_Store "members"
  a_write_number : Addr
  d_write_number : FuncData
  F_write_number : Fun K "write_number" "write_number" s_write_number a_write_number d_write_number
  b_write_number : Binds K d_write_number ["number"] []
  g_write_number : mg "write_number" = some (.ref a_write_number)
  a_write_integer : Addr
  d_write_integer : FuncData
  F_write_integer : Fun K "write_integer" "write_integer" s_write_integer a_write_integer d_write_integer
  b_write_integer : Binds K d_write_integer ["number"] []
  g_write_integer : mg "write_integer" = some (.ref a_write_integer)
  a_write_string : Addr
  d_write_string : FuncData
  F_write_string : Fun K "write_string" "write_string" s_write_string a_write_string d_write_string
  b_write_string : Binds K d_write_string ["text"] []
  g_write_string : mg "write_string" = some (.ref a_write_string)
  a_write_numbers : Addr
  d_write_numbers : FuncData
  F_write_numbers : Fun K "write_numbers" "write_numbers" s_write_numbers a_write_numbers d_write_numbers
  b_write_numbers : Binds K d_write_numbers ["numbers"] []
  g_write_numbers : mg "write_numbers" = some (.ref a_write_numbers)
  a_write_list : Addr
  d_write_list : FuncData
  F_write_list : Fun K "write_list" "write_list" s_write_list a_write_list d_write_list
  b_write_list : Binds K d_write_list ["items"] []
  g_write_list : mg "write_list" = some (.ref a_write_list)
  a_write_optional : Addr
  d_write_optional : FuncData
  F_write_optional : Fun K "write_optional" "write_optional" s_write_optional a_write_optional d_write_optional
  b_write_optional : Binds K d_write_optional ["numbers"] []
  g_write_optional : mg "write_optional" = some (.ref a_write_optional)
  a_write_value : Addr
  d_write_value : FuncData
  F_write_value : Fun K "write_value" "write_value" s_write_value a_write_value d_write_value
  b_write_value : Binds K d_write_value ["value"] []
  g_write_value : mg "write_value" = some (.ref a_write_value)
  a_write_holds : Addr
  d_write_holds : FuncData
  F_write_holds : Fun K "write_holds" "write_holds" s_write_holds a_write_holds d_write_holds
  b_write_holds : Binds K d_write_holds ["holds"] []
  g_write_holds : mg "write_holds" = some (.ref a_write_holds)
  a_write_cell_act : Addr
  d_write_cell_act : FuncData
  F_write_cell_act : Fun K "write_cell_act" "write_cell_act" s_write_cell_act a_write_cell_act d_write_cell_act
  b_write_cell_act : Binds K d_write_cell_act ["act"] []
  g_write_cell_act : mg "write_cell_act" = some (.ref a_write_cell_act)
  a_write_act : Addr
  d_write_act : FuncData
  F_write_act : Fun K "write_act" "write_act" s_write_act a_write_act d_write_act
  b_write_act : Binds K d_write_act ["act"] []
  g_write_act : mg "write_act" = some (.ref a_write_act)
  a_write_rights : Addr
  d_write_rights : FuncData
  F_write_rights : Fun K "write_rights" "write_rights" s_write_rights a_write_rights d_write_rights
  b_write_rights : Binds K d_write_rights ["rights"] []
  g_write_rights : mg "write_rights" = some (.ref a_write_rights)
  a_write_public : Addr
  d_write_public : FuncData
  F_write_public : Fun K "write_public" "write_public" s_write_public a_write_public d_write_public
  b_write_public : Binds K d_write_public ["act"] []
  g_write_public : mg "write_public" = some (.ref a_write_public)
  a_write_change : Addr
  d_write_change : FuncData
  F_write_change : Fun K "write_change" "write_change" s_write_change a_write_change d_write_change
  b_write_change : Binds K d_write_change ["change"] []
  g_write_change : mg "write_change" = some (.ref a_write_change)
  a_write_characters : Addr
  d_write_characters : FuncData
  F_write_characters : Fun K "write_characters" "write_characters" s_write_characters a_write_characters d_write_characters
  b_write_characters : Binds K d_write_characters ["characters"] []
  g_write_characters : mg "write_characters" = some (.ref a_write_characters)
  a_write_kept : Addr
  d_write_kept : FuncData
  F_write_kept : Fun K "write_kept" "write_kept" s_write_kept a_write_kept d_write_kept
  b_write_kept : Binds K d_write_kept ["kept"] []
  g_write_kept : mg "write_kept" = some (.ref a_write_kept)
  a_write_optional_kept : Addr
  d_write_optional_kept : FuncData
  F_write_optional_kept : Fun K "write_optional_kept" "write_optional_kept" s_write_optional_kept a_write_optional_kept d_write_optional_kept
  b_write_optional_kept : Binds K d_write_optional_kept ["kept"] []
  g_write_optional_kept : mg "write_optional_kept" = some (.ref a_write_optional_kept)
  a_write_capability : Addr
  d_write_capability : FuncData
  F_write_capability : Fun K "write_capability" "write_capability" s_write_capability a_write_capability d_write_capability
  b_write_capability : Binds K d_write_capability ["entry"] []
  g_write_capability : mg "write_capability" = some (.ref a_write_capability)
  a_write_store : Addr
  d_write_store : FuncData
  F_write_store : Fun K "write_store" "write_store" s_write_store a_write_store d_write_store
  b_write_store : Binds K d_write_store ["store"] []
  g_write_store : mg "write_store" = some (.ref a_write_store)
  a_as_tuple : Addr
  d_as_tuple : FuncData
  F_as_tuple : Fun K "_as_tuple" "_as_tuple" s_as_tuple a_as_tuple d_as_tuple
  b_as_tuple : Binds K d_as_tuple ["part"] []
  g_as_tuple : mg "_as_tuple" = some (.ref a_as_tuple)
  a_Change_init : Addr
  d_Change_init : FuncData
  F_Change_init : Fun K "__init__" "Change.__init__" s_Change_init a_Change_init d_Change_init
  b_Change_init : Binds K d_Change_init ["self", "author", "number", "heard", "capability", "publics", "parts"] []
  M_Change : Mk K c_Change a_Change_init
  a_Change_name : Addr
  d_Change_name : FuncData
  F_Change_name : Fun K "name" "Change.name" s_Change_name a_Change_name d_Change_name
  b_Change_name : Binds K d_Change_name ["self"] []
  m_Change_name : Meth K c_Change "name" a_Change_name
  a_Kept_init : Addr
  d_Kept_init : FuncData
  F_Kept_init : Fun K "__init__" "Kept.__init__" s_Kept_init a_Kept_init d_Kept_init
  b_Kept_init : Binds K d_Kept_init ["self", "acts", "sums", "texts"] []
  M_Kept : Mk K c_Kept a_Kept_init
  a_Store_init : Addr
  d_Store_init : FuncData
  F_Store_init : Fun K "__init__" "Store.__init__" s_Store_init a_Store_init d_Store_init
  b_Store_init : Binds K d_Store_init ["self", "members"] []
  M_Store : Mk K c_Store a_Store_init
  a_Store_count : Addr
  d_Store_count : FuncData
  F_Store_count : Fun K "count" "Store.count" s_Store_count a_Store_count d_Store_count
  b_Store_count : Binds K d_Store_count ["self", "member"] []
  m_Store_count : Meth K c_Store "count" a_Store_count
  a_Store_counts : Addr
  d_Store_counts : FuncData
  F_Store_counts : Fun K "counts" "Store.counts" s_Store_counts a_Store_counts d_Store_counts
  b_Store_counts : Binds K d_Store_counts ["self"] []
  m_Store_counts : Meth K c_Store "counts" a_Store_counts
  a_Store_find : Addr
  d_Store_find : FuncData
  F_Store_find : Fun K "find" "Store.find" s_Store_find a_Store_find d_Store_find
  b_Store_find : Binds K d_Store_find ["self", "name"] []
  m_Store_find : Meth K c_Store "find" a_Store_find
  a_Store_add : Addr
  d_Store_add : FuncData
  F_Store_add : Fun K "add" "Store.add" s_Store_add a_Store_add d_Store_add
  b_Store_add : Binds K d_Store_add ["self", "change"] []
  m_Store_add : Meth K c_Store "add" a_Store_add
  a_unknown_names : Addr
  d_unknown_names : FuncData
  F_unknown_names : Fun K "unknown_names" "unknown_names" s_unknown_names a_unknown_names d_unknown_names
  b_unknown_names : Binds K d_unknown_names ["store", "space"] []
  g_unknown_names : mg "unknown_names" = some (.ref a_unknown_names)
  a_asking : Addr
  d_asking : FuncData
  F_asking : Fun K "asking" "asking" s_asking a_asking d_asking
  b_asking : Binds K d_asking ["store", "member"] []
  g_asking : mg "asking" = some (.ref a_asking)
  a_draw : Addr
  d_draw : FuncData
  F_draw : Fun K "_law_draw" "_law_draw" s_draw a_draw d_draw
  b_draw : Binds K d_draw ["_law_script", "_law_k"] []
  g_draw : mg "_law_draw" = some (.ref a_draw)
  a_spot : Addr
  d_spot : FuncData
  F_spot : Fun K "_law_spot" "_law_spot" s_spot a_spot d_spot
  b_spot : Binds K d_spot ["_law_number_here"] []
  g_spot : mg "_law_spot" = some (.ref a_spot)
  a_text : Addr
  d_text : FuncData
  F_text : Fun K "_law_text" "_law_text" s_text a_text d_text
  b_text : Binds K d_text ["_law_number_here"] []
  g_text : mg "_law_text" = some (.ref a_text)
  a_value : Addr
  d_value : FuncData
  F_value : Fun K "_law_value" "_law_value" s_value a_value d_value
  b_value : Binds K d_value ["_law_number_here"] []
  g_value : mg "_law_value" = some (.ref a_value)
  a_act : Addr
  d_act : FuncData
  F_act : Fun K "_law_act" "_law_act" s_act a_act d_act
  b_act : Binds K d_act ["_law_kind", "_law_number_here"] []
  g_act : mg "_law_act" = some (.ref a_act)
  a_rights : Addr
  d_rights : FuncData
  F_rights : Fun K "_law_rights" "_law_rights" s_rights a_rights d_rights
  b_rights : Binds K d_rights ["_law_number_here"] []
  g_rights : mg "_law_rights" = some (.ref a_rights)
  a_number : Addr
  d_number : FuncData
  F_number : Fun K "_law_number" "_law_number" s_number a_number d_number
  b_number : Binds K d_number ["_law_number_here"] []
  g_number : mg "_law_number" = some (.ref a_number)
  a_numbers : Addr
  d_numbers : FuncData
  F_numbers : Fun K "_law_numbers" "_law_numbers" s_numbers a_numbers d_numbers
  b_numbers : Binds K d_numbers ["_law_numbers_here"] []
  g_numbers : mg "_law_numbers" = some (.ref a_numbers)
  a_signed : Addr
  d_signed : FuncData
  F_signed : Fun K "_law_signed" "_law_signed" s_signed a_signed d_signed
  b_signed : Binds K d_signed ["_law_number_here"] []
  g_signed : mg "_law_signed" = some (.ref a_signed)
  a_string : Addr
  d_string : FuncData
  F_string : Fun K "_law_string" "_law_string" s_string a_string d_string
  b_string : Binds K d_string ["_law_text_here"] []
  g_string : mg "_law_string" = some (.ref a_string)
  a_optional : Addr
  d_optional : FuncData
  F_optional : Fun K "_law_optional" "_law_optional" s_optional a_optional d_optional
  b_optional : Binds K d_optional ["_law_numbers_here"] []
  g_optional : mg "_law_optional" = some (.ref a_optional)
  a_bytes_of : Addr
  d_bytes_of : FuncData
  F_bytes_of : Fun K "_law_bytes_of" "_law_bytes_of" s_bytes_of a_bytes_of d_bytes_of
  b_bytes_of : Binds K d_bytes_of ["_law_value_here"] []
  g_bytes_of : mg "_law_bytes_of" = some (.ref a_bytes_of)
  a_holds : Addr
  d_holds : FuncData
  F_holds : Fun K "_law_holds" "_law_holds" s_holds a_holds d_holds
  b_holds : Binds K d_holds ["_law_holds_here"] []
  g_holds : mg "_law_holds" = some (.ref a_holds)
  a_act_bytes : Addr
  d_act_bytes : FuncData
  F_act_bytes : Fun K "_law_act_bytes" "_law_act_bytes" s_act_bytes a_act_bytes d_act_bytes
  b_act_bytes : Binds K d_act_bytes ["_law_act_here"] []
  g_act_bytes : mg "_law_act_bytes" = some (.ref a_act_bytes)
  a_rights_bytes : Addr
  d_rights_bytes : FuncData
  F_rights_bytes : Fun K "_law_rights_bytes" "_law_rights_bytes" s_rights_bytes a_rights_bytes d_rights_bytes
  b_rights_bytes : Binds K d_rights_bytes ["_law_rights_here"] []
  g_rights_bytes : mg "_law_rights_bytes" = some (.ref a_rights_bytes)
  a_change_bytes : Addr
  d_change_bytes : FuncData
  F_change_bytes : Fun K "_law_change_bytes" "_law_change_bytes" s_change_bytes a_change_bytes d_change_bytes
  b_change_bytes : Binds K d_change_bytes ["_law_change_here"] []
  g_change_bytes : mg "_law_change_bytes" = some (.ref a_change_bytes)
  a_change : Addr
  d_change : FuncData
  F_change : Fun K "_law_change" "_law_change" s_change a_change d_change
  b_change : Binds K d_change ["_law_number_here"] []
  g_change : mg "_law_change" = some (.ref a_change)
  a_entry : Addr
  d_entry : FuncData
  F_entry : Fun K "_law_entry" "_law_entry" s_entry a_entry d_entry
  b_entry : Binds K d_entry ["_law_number_here"] []
  g_entry : mg "_law_entry" = some (.ref a_entry)
  a_kept : Addr
  d_kept : FuncData
  F_kept : Fun K "_law_kept" "_law_kept" s_kept a_kept d_kept
  b_kept : Binds K d_kept ["_law_number_here"] []
  g_kept : mg "_law_kept" = some (.ref a_kept)
  a_order : Addr
  d_order : FuncData
  F_order : Fun K "_law_order" "_law_order" s_order a_order d_order
  b_order : Binds K d_order ["_law_number_here"] []
  g_order : mg "_law_order" = some (.ref a_order)
  a_store : Addr
  d_store : FuncData
  F_store : Fun K "_law_store" "_law_store" s_store a_store d_store
  b_store : Binds K d_store ["_law_number_here"] []
  g_store : mg "_law_store" = some (.ref a_store)
  a_law : Addr
  d_law : FuncData
  F_law : Fun K "law" "law" s_law a_law d_law
  b_law : Binds K d_law ["_law_script"] []
  g_law : mg "law" = some (.ref a_law)
  z_abs : mg "abs" = none
  z_bool : mg "bool" = none
  z_int : mg "int" = none
  z_isinstance : mg "isinstance" = none
  z_len : mg "len" = none
  z_min : mg "min" = none
  z_ord : mg "ord" = none
  z_range : mg "range" = none
  z_str : mg "str" = none
  z_tuple : mg "tuple" = none
  v_ACTWORDS : V
  u_ACTWORDS : Value
  g_ACTWORDS : mg "ACT_WORDS" = some u_ACTWORDS
  r_ACTWORDS : RelV v_ACTWORDS u_ACTWORDS
  q_ACTWORDS : ∀ (F : Hp) (cl : Nat → Addr), Rp K cl F Kb.u_ACTWORDS v_ACTWORDS
  t_ACTWORDS : TupC K v_ACTWORDS
  v_KINDWORDS : V
  u_KINDWORDS : Value
  g_KINDWORDS : mg "KIND_WORDS" = some u_KINDWORDS
  r_KINDWORDS : RelV v_KINDWORDS u_KINDWORDS
  q_KINDWORDS : ∀ (F : Hp) (cl : Nat → Addr), Rp K cl F Kb.u_KINDWORDS v_KINDWORDS
  t_KINDWORDS : TupC K v_KINDWORDS
  v_SPACES : V
  u_SPACES : Value
  g_SPACES : mg "SPACES" = some u_SPACES
  r_SPACES : RelV v_SPACES u_SPACES
  q_SPACES : ∀ (F : Hp) (cl : Nat → Addr), Rp K cl F Kb.u_SPACES v_SPACES
def Txt.cl {K : PySem.W.Frag} {mg : Str → Option Value} (T : Txt K mg) : Nat → Addr
  | 0 => T.c_Change
  | 1 => T.c_Kept
  | 2 => T.c_Store
  | _ => 0
section
variable {P : Program} {w : World} {K : PySem.W.Frag} {mg : Str → Option Value} {base : Heap}
theorem ok_write_number (T : Txt K mg) : FnOk P w K mg base CX0 1 T.a_write_number T.d_write_number ["number"] (spOf K T.cl m_write_number) :=
  fn_ok T.F_write_number sc_write_number fun cdv A outer s H E hr => (s_cons (s_set (i := 1) sc_write_number.nd rfl (.inl rfl) (k_lst (live := true) a_nil))
    (s_cons (s_while PassesOwn.never (t_cmp d_ge op_ge (k_var 0) k_int (nomark _))
      (s_cons (s_drop (k_bm d_app PySem.F.plainAttrs_list PySem.F.slot_list_append PySem.F.type_list_append mt_append (k_var 1) (a_cons (k_op d_add o_add (k_op d_mod op_mod (k_var 0) k_int) k_int) a_nil)))
    (s_one (s_set (i := 0) sc_write_number.nd rfl (.inl rfl) (k_op d_div op_fdivW (k_var 0) k_int)))))
    (s_cons (s_drop (k_bm d_app PySem.F.plainAttrs_list PySem.F.slot_list_append PySem.F.type_list_append mt_append (k_var 1) (a_cons (k_var 0) a_nil)))
    (s_one (s_ret (k_var 1))))))
theorem okL_write_number (T : Txt K mg) : FnOk P w K mg base CX0 1 T.a_write_number T.d_write_number ["number"] (spOf K T.cl mL_write_number) :=
  fnL_ok T.F_write_number sc_write_number fun cdv A outer s H E hr => (s_cons (s_set (i := 1) sc_write_number.nd rfl (.inl rfl) (k_lst (live := true) a_nil))
    (s_cons (s_while PassesOwn.never (t_cmp d_ge op_ge (k_var 0) k_int (nomark _))
      (s_cons (s_drop (k_bm d_app PySem.F.plainAttrs_list PySem.F.slot_list_append PySem.F.type_list_append mt_append (k_var 1) (a_cons (k_op d_add o_add (k_op d_mod op_mod (k_var 0) k_int) k_int) a_nil)))
    (s_one (s_set (i := 0) sc_write_number.nd rfl (.inl rfl) (k_op d_div op_fdivW (k_var 0) k_int)))))
    (s_cons (s_drop (k_bm d_app PySem.F.plainAttrs_list PySem.F.slot_list_append PySem.F.type_list_append mt_append (k_var 1) (a_cons (k_var 0) a_nil)))
    (s_one (s_ret (k_var 1))))))
theorem ok_write_integer (T : Txt K mg) : FnOk P w K mg base CX0 2 T.a_write_integer T.d_write_integer ["number"] (spOf K T.cl m_write_integer) :=
  fn_ok T.F_write_integer sc_write_integer fun cdv A outer s H E hr => (s_one (s_ret (k_op d_add o_add (k_lst (live := false) (a_cons (k_callT d_int c_int (by rfl) T.z_int bt_int (a_cons (k_cmp d_lt op_lt (k_var 0) k_int (nomark _)) a_nil)) a_nil)) (k_call (ok_write_number T) (hr.mono (by first | decide | omega)) (by rfl) T.g_write_number T.F_write_number.kp T.b_write_number pass0 (a_cons (k_callB d_abs c_abs (by rfl) T.z_abs bt_abs (a_cons (k_var 0) a_nil)) a_nil)))))
theorem ok_write_string (T : Txt K mg) : FnOk P w K mg base CX0 2 T.a_write_string T.d_write_string ["text"] (spOf K T.cl m_write_string) :=
  fn_ok T.F_write_string sc_write_string fun cdv A outer s H E hr => (s_cons (s_set (i := 1) sc_write_string.nd rfl (.inl rfl) (k_call (okL_write_number T) (hr.mono (by first | decide | omega)) (by rfl) T.g_write_number T.F_write_number.kp T.b_write_number pass0 (a_cons (k_callB d_len c_len (by rfl) T.z_len bt_len (a_cons (k_var 0) a_nil)) a_nil)))
    (s_cons (s_for PassesOwn.never rfl (pi_strD (k_var 0)) (g_name (i := 2) sc_write_string.nd rfl (.inl rfl))
      (s_one (s_drop (k_bm d_ext PySem.F.plainAttrs_list PySem.F.slot_list_extend PySem.F.type_list_extend mt_extG (k_var 1) (a_cons (k_call (ok_write_number T) (hr.mono (by first | decide | omega)) (by rfl) T.g_write_number T.F_write_number.kp T.b_write_number pass0 (a_cons (k_callB d_ord c_ord (by rfl) T.z_ord bt_ord (a_cons (k_var 2) a_nil)) a_nil)) a_nil)))))
    (s_one (s_ret (k_var 1)))))
theorem ok_write_numbers (T : Txt K mg) : FnOk P w K mg base CX0 2 T.a_write_numbers T.d_write_numbers ["numbers"] (spOf K T.cl m_write_numbers) :=
  fn_ok T.F_write_numbers sc_write_numbers fun cdv A outer s H E hr => (s_cons (s_set (i := 1) sc_write_numbers.nd rfl (.inl rfl) (k_lst (live := true) a_nil))
    (s_cons (s_for PassesOwn.never rfl (pi_any (k_var 0)) (g_name (i := 2) sc_write_numbers.nd rfl (.inl rfl))
      (s_one (s_drop (k_bm d_ext PySem.F.plainAttrs_list PySem.F.slot_list_extend PySem.F.type_list_extend mt_extG (k_var 1) (a_cons (k_call (ok_write_number T) (hr.mono (by first | decide | omega)) (by rfl) T.g_write_number T.F_write_number.kp T.b_write_number pass0 (a_cons (k_var 2) a_nil)) a_nil)))))
    (s_one (s_ret (k_var 1)))))
theorem ok_write_list (T : Txt K mg) : FnOk P w K mg base CX0 2 T.a_write_list T.d_write_list ["items"] (spOf K T.cl m_write_list) :=
  fn_ok T.F_write_list sc_write_list fun cdv A outer s H E hr => (s_cons (s_set (i := 1) sc_write_list.nd rfl (.inl rfl) (k_call (okL_write_number T) (hr.mono (by first | decide | omega)) (by rfl) T.g_write_number T.F_write_number.kp T.b_write_number pass0 (a_cons (k_callB d_len c_len (by rfl) T.z_len bt_len (a_cons (k_var 0) a_nil)) a_nil)))
    (s_cons (s_for PassesOwn.never rfl (pi_any (k_var 0)) (g_name (i := 2) sc_write_list.nd rfl (.inl rfl))
      (s_one (s_drop (k_bm d_ext PySem.F.plainAttrs_list PySem.F.slot_list_extend PySem.F.type_list_extend mt_extG (k_var 1) (a_cons (k_var 2) a_nil)))))
    (s_one (s_ret (k_var 1)))))
theorem okL_write_list (T : Txt K mg) : FnOk P w K mg base CX0 2 T.a_write_list T.d_write_list ["items"] (spOf K T.cl mL_write_list) :=
  fnL_ok T.F_write_list sc_write_list fun cdv A outer s H E hr => (s_cons (s_set (i := 1) sc_write_list.nd rfl (.inl rfl) (k_call (okL_write_number T) (hr.mono (by first | decide | omega)) (by rfl) T.g_write_number T.F_write_number.kp T.b_write_number pass0 (a_cons (k_callB d_len c_len (by rfl) T.z_len bt_len (a_cons (k_var 0) a_nil)) a_nil)))
    (s_cons (s_for PassesOwn.never rfl (pi_any (k_var 0)) (g_name (i := 2) sc_write_list.nd rfl (.inl rfl))
      (s_one (s_drop (k_bm d_ext PySem.F.plainAttrs_list PySem.F.slot_list_extend PySem.F.type_list_extend mt_extG (k_var 1) (a_cons (k_var 2) a_nil)))))
    (s_one (s_ret (k_var 1)))))
theorem ok_write_optional (T : Txt K mg) : FnOk P w K mg base CX0 3 T.a_write_optional T.d_write_optional ["numbers"] (spOf K T.cl m_write_optional) :=
  fn_ok T.F_write_optional sc_write_optional fun cdv A outer s H E hr => (s_cons (s_if (t_cmp d_is o_is (k_var 0) k_non (nomark _))
      (s_one (s_ret (k_lst (live := false) (a_cons k_int a_nil))))
      s_nil)
    (s_one (s_ret (k_op d_add o_add (k_lst (live := false) (a_cons k_int a_nil)) (k_call (ok_write_numbers T) (hr.mono (by first | decide | omega)) (by rfl) T.g_write_numbers T.F_write_numbers.kp T.b_write_numbers pass0 (a_cons (k_var 0) a_nil))))))
theorem ok_write_value (T : Txt K mg) : FnOk P w K mg base CX0 3 T.a_write_value T.d_write_value ["value"] (spOf K T.cl m_write_value) :=
  fn_ok T.F_write_value sc_write_value fun cdv A outer s H E hr => (s_cons (s_if (t_cmp d_is o_is (k_var 0) k_non (nomark _))
      (s_one (s_ret (k_lst (live := false) (a_cons k_int a_nil))))
      s_nil)
    (s_cons (s_if (t_val (k_isi (k_var 0) (by rfl) T.z_isinstance (by rfl) T.z_bool bt_bool))
      (s_one (s_ret (k_lst (live := false) (a_cons k_int (a_cons (k_callT d_int c_int (by rfl) T.z_int bt_int (a_cons (k_var 0) a_nil)) a_nil)))))
      s_nil)
    (s_cons (s_if (t_val (k_isi (k_var 0) (by rfl) T.z_isinstance (by rfl) T.z_int bt_int))
      (s_one (s_ret (k_op d_add o_add (k_lst (live := false) (a_cons k_int a_nil)) (k_call (ok_write_integer T) (hr.mono (by first | decide | omega)) (by rfl) T.g_write_integer T.F_write_integer.kp T.b_write_integer pass0 (a_cons (k_var 0) a_nil)))))
      s_nil)
    (s_one (s_ret (k_op d_add o_add (k_lst (live := false) (a_cons k_int a_nil)) (k_call (ok_write_string T) (hr.mono (by first | decide | omega)) (by rfl) T.g_write_string T.F_write_string.kp T.b_write_string pass0 (a_cons (k_var 0) a_nil))))))))
theorem ok_write_holds (T : Txt K mg) : FnOk P w K mg base CX0 3 T.a_write_holds T.d_write_holds ["holds"] (spOf K T.cl m_write_holds) :=
  fn_ok T.F_write_holds sc_write_holds fun cdv A outer s H E hr => (s_cons (s_if (t_val (k_isi (k_var 0) (by rfl) T.z_isinstance (by rfl) T.z_str bt_str))
      (s_one (s_ret (k_lst (live := false) (a_cons (k_idxC (by rfl) T.g_KINDWORDS T.r_KINDWORDS (fun F => T.q_KINDWORDS F T.cl) T.t_KINDWORDS (a_cons (k_var 0) a_nil)) a_nil))))
      s_nil)
    (s_one (s_ret (k_op d_add o_add (k_lst (live := false) (a_cons (k_callB d_len c_len (by rfl) T.z_len bt_len (a_cons (k_glob (by rfl) T.g_KINDWORDS T.r_KINDWORDS (fun F => T.q_KINDWORDS F T.cl)) a_nil)) a_nil)) (k_call (ok_write_numbers T) (hr.mono (by first | decide | omega)) (by rfl) T.g_write_numbers T.F_write_numbers.kp T.b_write_numbers pass0 (a_cons (k_ix (k_var 0) k_int) a_nil))))))
theorem ok_write_cell_act (T : Txt K mg) : FnOk P w K mg base CX0 4 T.a_write_cell_act T.d_write_cell_act ["act"] (spOf K T.cl m_write_cell_act) :=
  fn_ok T.F_write_cell_act sc_write_cell_act fun cdv A outer s H E hr => (s_cons (s_set (i := 1) sc_write_cell_act.nd rfl (.inl rfl) (k_op d_add o_add (k_call (ok_write_numbers T) (hr.mono (by first | decide | omega)) (by rfl) T.g_write_numbers T.F_write_numbers.kp T.b_write_numbers pass0 (a_cons (k_ix (k_var 0) k_int) a_nil)) (k_call (ok_write_numbers T) (hr.mono (by first | decide | omega)) (by rfl) T.g_write_numbers T.F_write_numbers.kp T.b_write_numbers pass0 (a_cons (k_ix (k_var 0) k_int) a_nil))))
    (s_cons (s_if (t_cmp d_eq (o_eq hr.units) (k_ix (k_var 0) k_int) k_str (nomark _))
      (s_one (s_ret (k_op d_add o_add (k_var 1) (k_call (ok_write_value T) (hr.mono (by first | decide | omega)) (by rfl) T.g_write_value T.F_write_value.kp T.b_write_value pass0 (a_cons (k_ix (k_var 0) k_int) a_nil)))))
      s_nil)
    (s_cons (s_if (t_cmp d_eq (o_eq hr.units) (k_ix (k_var 0) k_int) k_str (nomark _))
      (s_one (s_ret (k_op d_add o_add (k_var 1) (k_call (ok_write_optional T) (hr.mono (by first | decide | omega)) (by rfl) T.g_write_optional T.F_write_optional.kp T.b_write_optional pass0 (a_cons (k_ix (k_var 0) k_int) a_nil)))))
      s_nil)
    (s_cons (s_if (t_cmp d_eq (o_eq hr.units) (k_ix (k_var 0) k_int) k_str (nomark _))
      (s_one (s_ret (k_op d_add o_add (k_var 1) (k_call (ok_write_integer T) (hr.mono (by first | decide | omega)) (by rfl) T.g_write_integer T.F_write_integer.kp T.b_write_integer pass0 (a_cons (k_ix (k_var 0) k_int) a_nil)))))
      s_nil)
    (s_one (s_ret (k_op d_add o_add (k_op d_add o_add (k_var 1) (k_call (ok_write_optional T) (hr.mono (by first | decide | omega)) (by rfl) T.g_write_optional T.F_write_optional.kp T.b_write_optional pass0 (a_cons (k_ix (k_var 0) k_int) a_nil))) (k_call (ok_write_string T) (hr.mono (by first | decide | omega)) (by rfl) T.g_write_string T.F_write_string.kp T.b_write_string pass0 (a_cons (k_ix (k_var 0) k_int) a_nil)))))))))
theorem ok_write_act (T : Txt K mg) : FnOk P w K mg base CX0 5 T.a_write_act T.d_write_act ["act"] (spOf K T.cl m_write_act) :=
  fn_ok T.F_write_act sc_write_act fun cdv A outer s H E hr => (s_cons (s_set (i := 1) sc_write_act.nd rfl (.inl rfl) (k_lst (live := false) (a_cons (k_idxC (by rfl) T.g_ACTWORDS T.r_ACTWORDS (fun F => T.q_ACTWORDS F T.cl) T.t_ACTWORDS (a_cons (k_ix (k_var 0) k_int) a_nil)) a_nil)))
    (s_cons (s_if (t_cmp d_eq (o_eq hr.units) (k_ix (k_var 0) k_int) k_str (nomark _))
      (s_one (s_ret (k_op d_add o_add (k_var 1) (k_call (ok_write_string T) (hr.mono (by first | decide | omega)) (by rfl) T.g_write_string T.F_write_string.kp T.b_write_string pass0 (a_cons (k_ix (k_var 0) k_int) a_nil)))))
      s_nil)
    (s_cons (s_if (t_cmp d_eq (o_eq hr.units) (k_ix (k_var 0) k_int) k_str (nomark _))
      (s_one (s_ret (k_op d_add o_add (k_op d_add o_add (k_op d_add o_add (k_var 1) (k_call (ok_write_numbers T) (hr.mono (by first | decide | omega)) (by rfl) T.g_write_numbers T.F_write_numbers.kp T.b_write_numbers pass0 (a_cons (k_ix (k_var 0) k_int) a_nil))) (k_call (ok_write_string T) (hr.mono (by first | decide | omega)) (by rfl) T.g_write_string T.F_write_string.kp T.b_write_string pass0 (a_cons (k_ix (k_var 0) k_int) a_nil))) (k_call (ok_write_holds T) (hr.mono (by first | decide | omega)) (by rfl) T.g_write_holds T.F_write_holds.kp T.b_write_holds pass0 (a_cons (k_ix (k_var 0) k_int) a_nil)))))
      s_nil)
    (s_cons (s_if (t_cmp d_eq (o_eq hr.units) (k_ix (k_var 0) k_int) k_str (nomark _))
      (s_one (s_ret (k_op d_add o_add (k_op d_add o_add (k_var 1) (k_call (ok_write_numbers T) (hr.mono (by first | decide | omega)) (by rfl) T.g_write_numbers T.F_write_numbers.kp T.b_write_numbers pass0 (a_cons (k_ix (k_var 0) k_int) a_nil))) (k_call (ok_write_list T) (hr.mono (by first | decide | omega)) (by rfl) T.g_write_list T.F_write_list.kp T.b_write_list pass0 (a_cons (k_comp (own := [("column", 2)]) (live := false) rfl sc_write_act.nd (pi_any (k_ix (k_var 0) k_int)) (blkOk_by (own := [("column", 2)]) (N := ["act", "data", "column"]) (sc := defScope s_write_act) (by decide +kernel)) (fun _ _ _ _ _ => (g_name (i := 2) sc_write_act.nd rfl (.inl rfl))) (fun _ _ _ _ _ => ts_nil) (fun _ _ _ _ _ => (k_call (ok_write_numbers T) (hr.mono (by first | decide | omega)) (by rfl) T.g_write_numbers T.F_write_numbers.kp T.b_write_numbers pass0 (a_cons (k_var 2) a_nil)))) a_nil)))))
      s_nil)
    (s_cons (s_if (t_cmp d_inG (o_inG (u65 hr)) (k_ix (k_var 0) k_int) (k_tup (a_cons k_str (a_cons k_str (a_cons k_str (a_cons k_str a_nil))))) (by rfl))
      (s_one (s_ret (k_op d_add o_add (k_var 1) (k_call (ok_write_numbers T) (hr.mono (by first | decide | omega)) (by rfl) T.g_write_numbers T.F_write_numbers.kp T.b_write_numbers pass0 (a_cons (k_ix (k_var 0) k_int) a_nil)))))
      s_nil)
    (s_one (s_ret (k_op d_add o_add (k_var 1) (k_call (ok_write_cell_act T) (hr.mono (by first | decide | omega)) (by rfl) T.g_write_cell_act T.F_write_cell_act.kp T.b_write_cell_act pass0 (a_cons (k_var 0) a_nil))))))))))
theorem ok_write_rights (T : Txt K mg) : FnOk P w K mg base CX0 1 T.a_write_rights T.d_write_rights ["rights"] (spOf K T.cl m_write_rights) :=
  fn_ok T.F_write_rights sc_write_rights fun cdv A outer s H E hr => (s_cons (s_set (i := 1) sc_write_rights.nd rfl (.inl rfl) (k_lst (live := true) a_nil))
    (s_cons (s_for PassesOwn.never rfl (pi_any (k_var 0)) (g_tup rfl (gs_cons (g_name (i := 2) sc_write_rights.nd rfl (.inl rfl)) (gs_cons (g_name (i := 3) sc_write_rights.nd rfl (.inl rfl)) (gs_cons (g_name (i := 4) sc_write_rights.nd rfl (.inl rfl)) gs_nil))))
      (s_one (s_drop (k_bm d_ext PySem.F.plainAttrs_list PySem.F.slot_list_extend PySem.F.type_list_extend mt_extG (k_var 1) (a_cons (k_lst (live := false) (a_cons (k_callT d_int c_int (by rfl) T.z_int bt_int (a_cons (k_var 2) a_nil)) (a_cons (k_callT d_int c_int (by rfl) T.z_int bt_int (a_cons (k_var 3) a_nil)) (a_cons (k_callT d_int c_int (by rfl) T.z_int bt_int (a_cons (k_var 4) a_nil)) a_nil)))) a_nil)))))
    (s_one (s_ret (k_var 1)))))
theorem ok_write_public (T : Txt K mg) : FnOk P w K mg base CX0 4 T.a_write_public T.d_write_public ["act"] (spOf K T.cl m_write_public) :=
  fn_ok T.F_write_public sc_write_public fun cdv A outer s H E hr => (s_cons (s_if (t_cmp d_eq (o_eq hr.units) (k_ix (k_var 0) k_int) k_str (nomark _))
      (s_one (s_ret (k_op d_add o_add (k_op d_add o_add (k_lst (live := false) (a_cons k_int a_nil)) (k_call (ok_write_number T) (hr.mono (by first | decide | omega)) (by rfl) T.g_write_number T.F_write_number.kp T.b_write_number pass0 (a_cons (k_ix (k_var 0) k_int) a_nil))) (k_call (ok_write_rights T) (hr.mono (by first | decide | omega)) (by rfl) T.g_write_rights T.F_write_rights.kp T.b_write_rights pass0 (a_cons (k_ix (k_var 0) k_int) a_nil)))))
      s_nil)
    (s_cons (s_if (t_cmp d_eq (o_eq hr.units) (k_ix (k_var 0) k_int) k_str (nomark _))
      (s_one (s_ret (k_op d_add o_add (k_lst (live := false) (a_cons k_int a_nil)) (k_call (ok_write_optional T) (hr.mono (by first | decide | omega)) (by rfl) T.g_write_optional T.F_write_optional.kp T.b_write_optional pass0 (a_cons (k_ix (k_var 0) k_int) a_nil)))))
      s_nil)
    (s_one (s_ret (k_lst (live := false) (a_cons k_int a_nil))))))
theorem ok_write_change (T : Txt K mg) : FnOk P w K mg base CX0 6 T.a_write_change T.d_write_change ["change"] (spOf K T.cl m_write_change) :=
  fn_ok T.F_write_change sc_write_change fun cdv A outer s H E hr => (s_cons (s_set (i := 1) sc_write_change.nd rfl (.inl rfl) (k_op d_add o_add (k_call (ok_write_number T) (hr.mono (by first | decide | omega)) (by rfl) T.g_write_number T.F_write_number.kp T.b_write_number pass0 (a_cons (k_fld (cs_cons ⟨T.cl_Change, T.n_Change_author⟩ cs_nil) (k_var 0)) a_nil)) (k_call (ok_write_number T) (hr.mono (by first | decide | omega)) (by rfl) T.g_write_number T.F_write_number.kp T.b_write_number pass0 (a_cons (k_fld (cs_cons ⟨T.cl_Change, T.n_Change_number⟩ cs_nil) (k_var 0)) a_nil))))
    (s_cons (s_drop (k_bm d_ext PySem.F.plainAttrs_list PySem.F.slot_list_extend PySem.F.type_list_extend mt_extG (k_var 1) (a_cons (k_call (ok_write_list T) (hr.mono (by first | decide | omega)) (by rfl) T.g_write_list T.F_write_list.kp T.b_write_list pass0 (a_cons (k_comp (own := [("count", 3)]) (live := false) rfl sc_write_change.nd (pi_any (k_fld (cs_cons ⟨T.cl_Change, T.n_Change_heard⟩ cs_nil) (k_var 0))) (blkOk_by (own := [("count", 3)]) (N := ["change", "data", "part", "count", "act"]) (sc := defScope s_write_change) (by decide +kernel)) (fun _ _ _ _ _ => (g_name (i := 3) sc_write_change.nd rfl (.inl rfl))) (fun _ _ _ _ _ => ts_nil) (fun _ _ _ _ _ => (k_call (ok_write_number T) (hr.mono (by first | decide | omega)) (by rfl) T.g_write_number T.F_write_number.kp T.b_write_number pass0 (a_cons (k_var 3) a_nil)))) a_nil)) a_nil)))
    (s_cons (s_drop (k_bm d_ext PySem.F.plainAttrs_list PySem.F.slot_list_extend PySem.F.type_list_extend mt_extG (k_var 1) (a_cons (k_call (ok_write_optional T) (hr.mono (by first | decide | omega)) (by rfl) T.g_write_optional T.F_write_optional.kp T.b_write_optional pass0 (a_cons (k_fld (cs_cons ⟨T.cl_Change, T.n_Change_capability⟩ cs_nil) (k_var 0)) a_nil)) a_nil)))
    (s_cons (s_drop (k_bm d_ext PySem.F.plainAttrs_list PySem.F.slot_list_extend PySem.F.type_list_extend mt_extG (k_var 1) (a_cons (k_call (ok_write_list T) (hr.mono (by first | decide | omega)) (by rfl) T.g_write_list T.F_write_list.kp T.b_write_list pass0 (a_cons (k_comp (own := [("act", 4)]) (live := false) rfl sc_write_change.nd (pi_any (k_fld (cs_cons ⟨T.cl_Change, T.n_Change_publics⟩ cs_nil) (k_var 0))) (blkOk_by (own := [("act", 4)]) (N := ["change", "data", "part", "count", "act"]) (sc := defScope s_write_change) (by decide +kernel)) (fun _ _ _ _ _ => (g_name (i := 4) sc_write_change.nd rfl (.inl rfl))) (fun _ _ _ _ _ => ts_nil) (fun _ _ _ _ _ => (k_call (ok_write_public T) (hr.mono (by first | decide | omega)) (by rfl) T.g_write_public T.F_write_public.kp T.b_write_public pass0 (a_cons (k_var 4) a_nil)))) a_nil)) a_nil)))
    (s_cons (s_for PassesOwn.never rfl (pi_any (k_fld (cs_cons ⟨T.cl_Change, T.n_Change_parts⟩ cs_nil) (k_var 0))) (g_name (i := 2) sc_write_change.nd rfl (.inl rfl))
      (s_one (s_if (t_cmp d_is o_is (k_var 2) k_non (nomark _))
      (s_one (s_drop (k_bm d_app PySem.F.plainAttrs_list PySem.F.slot_list_append PySem.F.type_list_append mt_append (k_var 1) (a_cons k_int a_nil))))
      (s_cons (s_drop (k_bm d_app PySem.F.plainAttrs_list PySem.F.slot_list_append PySem.F.type_list_append mt_append (k_var 1) (a_cons k_int a_nil)))
    (s_one (s_drop (k_bm d_ext PySem.F.plainAttrs_list PySem.F.slot_list_extend PySem.F.type_list_extend mt_extG (k_var 1) (a_cons (k_call (ok_write_list T) (hr.mono (by first | decide | omega)) (by rfl) T.g_write_list T.F_write_list.kp T.b_write_list pass0 (a_cons (k_comp (own := [("act", 4)]) (live := false) rfl sc_write_change.nd (pi_any (k_var 2)) (blkOk_by (own := [("act", 4)]) (N := ["change", "data", "part", "count", "act"]) (sc := defScope s_write_change) (by decide +kernel)) (fun _ _ _ _ _ => (g_name (i := 4) sc_write_change.nd rfl (.inl rfl))) (fun _ _ _ _ _ => ts_nil) (fun _ _ _ _ _ => (k_call (ok_write_act T) (hr.mono (by first | decide | omega)) (by rfl) T.g_write_act T.F_write_act.kp T.b_write_act pass0 (a_cons (k_var 4) a_nil)))) a_nil)) a_nil))))))))
    (s_one (s_ret (k_var 1))))))))
theorem ok_write_characters (T : Txt K mg) : FnOk P w K mg base CX0 3 T.a_write_characters T.d_write_characters ["characters"] (spOf K T.cl m_write_characters) :=
  fn_ok T.F_write_characters sc_write_characters fun cdv A outer s H E hr => (s_one (s_ret (k_call (ok_write_list T) (hr.mono (by first | decide | omega)) (by rfl) T.g_write_list T.F_write_list.kp T.b_write_list pass0 (a_cons (k_comp (own := [("mark", 1), ("char", 2)]) (live := false) rfl sc_write_characters.nd (pi_any (k_var 0)) (blkOk_by (own := [("mark", 1), ("char", 2)]) (N := ["characters", "mark", "char"]) (sc := defScope s_write_characters) (by decide +kernel)) (fun _ _ _ _ _ => (g_tup rfl (gs_cons (g_name (i := 1) sc_write_characters.nd rfl (.inl rfl)) (gs_cons (g_name (i := 2) sc_write_characters.nd rfl (.inl rfl)) gs_nil)))) (fun _ _ _ _ _ => ts_nil) (fun _ _ _ _ _ => (k_op d_add o_add (k_call (ok_write_numbers T) (hr.mono (by first | decide | omega)) (by rfl) T.g_write_numbers T.F_write_numbers.kp T.b_write_numbers pass0 (a_cons (k_var 1) a_nil)) (k_call (ok_write_number T) (hr.mono (by first | decide | omega)) (by rfl) T.g_write_number T.F_write_number.kp T.b_write_number pass0 (a_cons (k_callB d_ord c_ord (by rfl) T.z_ord bt_ord (a_cons (k_var 2) a_nil)) a_nil))))) a_nil))))
theorem ok_write_kept (T : Txt K mg) : FnOk P w K mg base CX0 6 T.a_write_kept T.d_write_kept ["kept"] (spOf K T.cl m_write_kept) :=
  fn_ok T.F_write_kept sc_write_kept fun cdv A outer s H E hr => (s_cons (s_setComp (i := 1) (own := [("spot", 6), ("act", 7)]) (live := false) rfl sc_write_kept.nd rfl rfl (sw_true rfl rfl rfl (by decide +kernel)) (pi_any (k_fld (cs_cons ⟨T.cl_Kept, T.n_Kept_acts⟩ cs_nil) (k_var 0))) (blkOk_by (own := [("spot", 6), ("act", 7)]) (N := ["kept", "acts", "cell", "sums", "texts", "characters", "spot", "act", "total"]) (sc := defScope s_write_kept) (by decide +kernel)) (fun _ _ _ _ _ => (g_tup rfl (gs_cons (g_name (i := 6) sc_write_kept.nd rfl (.inl rfl)) (gs_cons (g_name (i := 7) sc_write_kept.nd rfl (.inl rfl)) gs_nil)))) (fun _ _ _ _ _ => ts_nil) (fun _ _ _ _ _ => (k_op d_add o_add (k_call (ok_write_numbers T) (hr.mono (by first | decide | omega)) (by rfl) T.g_write_numbers T.F_write_numbers.kp T.b_write_numbers pass0 (a_cons (k_var 6) a_nil)) (k_call (ok_write_act T) (hr.mono (by first | decide | omega)) (by rfl) T.g_write_act T.F_write_act.kp T.b_write_act pass0 (a_cons (k_var 7) a_nil)))))
    (s_cons (s_setComp (i := 3) (own := [("cell", 2), ("total", 8)]) (live := false) rfl sc_write_kept.nd rfl rfl (sw_true rfl rfl rfl (by decide +kernel)) (pi_any (k_fld (cs_cons ⟨T.cl_Kept, T.n_Kept_sums⟩ cs_nil) (k_var 0))) (blkOk_by (own := [("cell", 2), ("total", 8)]) (N := ["kept", "acts", "cell", "sums", "texts", "characters", "spot", "act", "total"]) (sc := defScope s_write_kept) (by decide +kernel)) (fun _ _ _ _ _ => (g_tup rfl (gs_cons (g_name (i := 2) sc_write_kept.nd rfl (.inl rfl)) (gs_cons (g_name (i := 8) sc_write_kept.nd rfl (.inl rfl)) gs_nil)))) (fun _ _ _ _ _ => ts_nil) (fun _ _ _ _ _ => (k_op d_add o_add (k_op d_add o_add (k_call (ok_write_numbers T) (hr.mono (by first | decide | omega)) (by rfl) T.g_write_numbers T.F_write_numbers.kp T.b_write_numbers pass0 (a_cons (k_ix (k_var 2) k_int) a_nil)) (k_call (ok_write_numbers T) (hr.mono (by first | decide | omega)) (by rfl) T.g_write_numbers T.F_write_numbers.kp T.b_write_numbers pass0 (a_cons (k_ix (k_var 2) k_int) a_nil))) (k_call (ok_write_integer T) (hr.mono (by first | decide | omega)) (by rfl) T.g_write_integer T.F_write_integer.kp T.b_write_integer pass0 (a_cons (k_var 8) a_nil)))))
    (s_cons (s_set (i := 4) sc_write_kept.nd rfl (.inl rfl) (k_lst (live := true) a_nil))
    (s_cons (s_for PassesOwn.never rfl (pi_any (k_fld (cs_cons ⟨T.cl_Kept, T.n_Kept_texts⟩ cs_nil) (k_var 0))) (g_tup rfl (gs_cons (g_name (i := 2) sc_write_kept.nd rfl (.inl rfl)) (gs_cons (g_name (i := 5) sc_write_kept.nd rfl (.inl rfl)) gs_nil)))
      (s_one (s_drop (k_bm d_app PySem.F.plainAttrs_list PySem.F.slot_list_append PySem.F.type_list_append mt_append (k_var 4) (a_cons (k_op d_add o_add (k_op d_add o_add (k_call (ok_write_numbers T) (hr.mono (by first | decide | omega)) (by rfl) T.g_write_numbers T.F_write_numbers.kp T.b_write_numbers pass0 (a_cons (k_ix (k_var 2) k_int) a_nil)) (k_call (ok_write_numbers T) (hr.mono (by first | decide | omega)) (by rfl) T.g_write_numbers T.F_write_numbers.kp T.b_write_numbers pass0 (a_cons (k_ix (k_var 2) k_int) a_nil))) (k_call (ok_write_characters T) (hr.mono (by first | decide | omega)) (by rfl) T.g_write_characters T.F_write_characters.kp T.b_write_characters pass0 (a_cons (k_var 5) a_nil))) a_nil)))))
    (s_one (s_ret (k_op d_add o_add (k_op d_add o_add (k_call (ok_write_list T) (hr.mono (by first | decide | omega)) (by rfl) T.g_write_list T.F_write_list.kp T.b_write_list pass0 (a_cons (k_var 1) a_nil)) (k_call (ok_write_list T) (hr.mono (by first | decide | omega)) (by rfl) T.g_write_list T.F_write_list.kp T.b_write_list pass0 (a_cons (k_var 3) a_nil))) (k_call (ok_write_list T) (hr.mono (by first | decide | omega)) (by rfl) T.g_write_list T.F_write_list.kp T.b_write_list pass0 (a_cons (k_var 4) a_nil)))))))))
theorem ok_write_optional_kept (T : Txt K mg) : FnOk P w K mg base CX0 7 T.a_write_optional_kept T.d_write_optional_kept ["kept"] (spOf K T.cl m_write_optional_kept) :=
  fn_ok T.F_write_optional_kept sc_write_optional_kept fun cdv A outer s H E hr => (s_cons (s_if (t_cmp d_is o_is (k_var 0) k_non (nomark _))
      (s_one (s_ret (k_lst (live := false) (a_cons k_int a_nil))))
      s_nil)
    (s_one (s_ret (k_op d_add o_add (k_lst (live := false) (a_cons k_int a_nil)) (k_call (ok_write_kept T) (hr.mono (by first | decide | omega)) (by rfl) T.g_write_kept T.F_write_kept.kp T.b_write_kept pass0 (a_cons (k_var 0) a_nil))))))
theorem ok_write_capability (T : Txt K mg) : FnOk P w K mg base CX0 4 T.a_write_capability T.d_write_capability ["entry"] (spOf K T.cl m_write_capability) :=
  fn_ok T.F_write_capability sc_write_capability fun cdv A outer s H E hr => (s_cons (s_asg (k_var 0) (g_tup rfl (gs_cons (g_name (i := 1) sc_write_capability.nd rfl (.inl rfl)) (gs_cons (g_name (i := 2) sc_write_capability.nd rfl (.inl rfl)) (gs_cons (g_name (i := 3) sc_write_capability.nd rfl (.inl rfl)) (gs_cons (g_name (i := 4) sc_write_capability.nd rfl (.inl rfl)) gs_nil))))))
    (s_one (s_ret (k_op d_add o_add (k_op d_add o_add (k_op d_add o_add (k_call (ok_write_numbers T) (hr.mono (by first | decide | omega)) (by rfl) T.g_write_numbers T.F_write_numbers.kp T.b_write_numbers pass0 (a_cons (k_var 1) a_nil)) (k_call (ok_write_optional T) (hr.mono (by first | decide | omega)) (by rfl) T.g_write_optional T.F_write_optional.kp T.b_write_optional pass0 (a_cons (k_var 2) a_nil))) (k_call (ok_write_number T) (hr.mono (by first | decide | omega)) (by rfl) T.g_write_number T.F_write_number.kp T.b_write_number pass0 (a_cons (k_var 3) a_nil))) (k_call (ok_write_rights T) (hr.mono (by first | decide | omega)) (by rfl) T.g_write_rights T.F_write_rights.kp T.b_write_rights pass0 (a_cons (k_var 4) a_nil))))))
theorem ok_write_store (T : Txt K mg) : FnOk P w K mg base CX0 8 T.a_write_store T.d_write_store ["store"] (spOf K T.cl m_write_store) :=
  fn_ok T.F_write_store sc_write_store fun cdv A outer s H E hr => (s_cons (s_set (i := 1) sc_write_store.nd rfl (.inl rfl) (k_call (okL_write_list T) (hr.mono (by first | decide | omega)) (by rfl) T.g_write_list T.F_write_list.kp T.b_write_list pass0 (a_cons (k_comp (own := [("count", 4)]) (live := false) rfl sc_write_store.nd (pi_any (k_fld (cs_cons ⟨T.cl_Store, T.n_Store_cut⟩ cs_nil) (k_var 0))) (blkOk_by (own := [("count", 4)]) (N := ["store", "data", "kept", "changes", "count", "entry", "change"]) (sc := defScope s_write_store) (by decide +kernel)) (fun _ _ _ _ _ => (g_name (i := 4) sc_write_store.nd rfl (.inl rfl))) (fun _ _ _ _ _ => ts_nil) (fun _ _ _ _ _ => (k_call (ok_write_number T) (hr.mono (by first | decide | omega)) (by rfl) T.g_write_number T.F_write_number.kp T.b_write_number pass0 (a_cons (k_var 4) a_nil)))) a_nil)))
    (s_cons (s_drop (k_bm d_ext PySem.F.plainAttrs_list PySem.F.slot_list_extend PySem.F.type_list_extend mt_extG (k_var 1) (a_cons (k_call (ok_write_list T) (hr.mono (by first | decide | omega)) (by rfl) T.g_write_list T.F_write_list.kp T.b_write_list pass0 (a_cons (k_comp (own := [("entry", 5)]) (live := false) rfl sc_write_store.nd (pi_any (k_fld (cs_cons ⟨T.cl_Store, T.n_Store_capabilities⟩ cs_nil) (k_var 0))) (blkOk_by (own := [("entry", 5)]) (N := ["store", "data", "kept", "changes", "count", "entry", "change"]) (sc := defScope s_write_store) (by decide +kernel)) (fun _ _ _ _ _ => (g_name (i := 5) sc_write_store.nd rfl (.inl rfl))) (fun _ _ _ _ _ => ts_nil) (fun _ _ _ _ _ => (k_call (ok_write_capability T) (hr.mono (by first | decide | omega)) (by rfl) T.g_write_capability T.F_write_capability.kp T.b_write_capability pass0 (a_cons (k_var 5) a_nil)))) a_nil)) a_nil)))
    (s_cons (s_for PassesOwn.never rfl (pi_any (k_fld (cs_cons ⟨T.cl_Store, T.n_Store_kept⟩ cs_nil) (k_var 0))) (g_name (i := 2) sc_write_store.nd rfl (.inl rfl))
      (s_one (s_drop (k_bm d_ext PySem.F.plainAttrs_list PySem.F.slot_list_extend PySem.F.type_list_extend mt_extG (k_var 1) (a_cons (k_call (ok_write_optional_kept T) (hr.mono (by first | decide | omega)) (by rfl) T.g_write_optional_kept T.F_write_optional_kept.kp T.b_write_optional_kept pass0 (a_cons (k_var 2) a_nil)) a_nil)))))
    (s_cons (s_for PassesOwn.never rfl (pi_any (k_fld (cs_cons ⟨T.cl_Store, T.n_Store_changes⟩ cs_nil) (k_var 0))) (g_name (i := 3) sc_write_store.nd rfl (.inl rfl))
      (s_one (s_drop (k_bm d_ext PySem.F.plainAttrs_list PySem.F.slot_list_extend PySem.F.type_list_extend mt_extG (k_var 1) (a_cons (k_call (ok_write_list T) (hr.mono (by first | decide | omega)) (by rfl) T.g_write_list T.F_write_list.kp T.b_write_list pass0 (a_cons (k_comp (own := [("change", 6)]) (live := false) rfl sc_write_store.nd (pi_any (k_var 3)) (blkOk_by (own := [("change", 6)]) (N := ["store", "data", "kept", "changes", "count", "entry", "change"]) (sc := defScope s_write_store) (by decide +kernel)) (fun _ _ _ _ _ => (g_name (i := 6) sc_write_store.nd rfl (.inl rfl))) (fun _ _ _ _ _ => ts_nil) (fun _ _ _ _ _ => (k_call (ok_write_change T) (hr.mono (by first | decide | omega)) (by rfl) T.g_write_change T.F_write_change.kp T.b_write_change pass0 (a_cons (k_var 6) a_nil)))) a_nil)) a_nil)))))
    (s_one (s_ret (k_var 1)))))))
theorem ok_as_tuple (T : Txt K mg) : FnOk P w K mg base CX0 1 T.a_as_tuple T.d_as_tuple ["part"] (spOf K T.cl m_as_tuple) :=
  fn_ok T.F_as_tuple sc_as_tuple fun cdv A outer s H E hr => (s_cons (s_if (t_cmp d_is o_is (k_var 0) k_non (nomark _))
      (s_one (s_ret k_non))
      s_nil)
    (s_one (s_ret (k_callT d_tuple c_tuple (by rfl) T.z_tuple bt_tuple (a_cons (k_var 0) a_nil)))))
theorem ok_Change_init (T : Txt K mg) : FnOk P w K mg base CX0 2 T.a_Change_init T.d_Change_init ["self", "author", "number", "heard", "capability", "publics", "parts"] (spOf K T.cl m_Change_init) :=
  fnL_ok T.F_Change_init sc_Change_init fun cdv A outer s H E hr => (s_cons (s_fld (cs_cons ⟨T.cl_Change, T.n_Change_author⟩ cs_nil) (k_var 0) (k_var 1))
    (s_cons (s_fld (cs_cons ⟨T.cl_Change, T.n_Change_number⟩ cs_nil) (k_var 0) (k_var 2))
    (s_cons (s_fld (cs_cons ⟨T.cl_Change, T.n_Change_heard⟩ cs_nil) (k_var 0) (k_callT d_tuple c_tuple (by rfl) T.z_tuple bt_tuple (a_cons (k_var 3) a_nil)))
    (s_cons (s_fld (cs_cons ⟨T.cl_Change, T.n_Change_capability⟩ cs_nil) (k_var 0) (k_var 4))
    (s_cons (s_fld (cs_cons ⟨T.cl_Change, T.n_Change_publics⟩ cs_nil) (k_var 0) (k_callT d_tuple c_tuple (by rfl) T.z_tuple bt_tuple (a_cons (k_var 5) a_nil)))
    (s_one (s_fld (cs_cons ⟨T.cl_Change, T.n_Change_parts⟩ cs_nil) (k_var 0) (k_callT d_tuple c_tuple (by rfl) T.z_tuple bt_tuple (a_cons (k_comp (own := [("part", 7)]) (live := false) rfl sc_Change_init.nd (pi_any (k_var 6)) (blkOk_by (own := [("part", 7)]) (N := ["self", "author", "number", "heard", "capability", "publics", "parts", "part"]) (sc := defScope s_Change_init) (by decide +kernel)) (fun _ _ _ _ _ => (g_name (i := 7) sc_Change_init.nd rfl (.inl rfl))) (fun _ _ _ _ _ => ts_nil) (fun _ _ _ _ _ => (k_call (ok_as_tuple T) (hr.mono (by first | decide | omega)) (by rfl) T.g_as_tuple T.F_as_tuple.kp T.b_as_tuple pass0 (a_cons (k_var 7) a_nil)))) a_nil)))))))))
theorem ok_Change_name (T : Txt K mg) : FnOk P w K mg base CX0 1 T.a_Change_name T.d_Change_name ["self"] (spOf K T.cl m_Change_name) :=
  fn_ok T.F_Change_name sc_Change_name fun cdv A outer s H E hr => (s_one (s_ret (k_tup (a_cons (k_fld (cs_cons ⟨T.cl_Change, T.n_Change_author⟩ cs_nil) (k_var 0)) (a_cons (k_fld (cs_cons ⟨T.cl_Change, T.n_Change_number⟩ cs_nil) (k_var 0)) a_nil)))))
theorem ok_Kept_init (T : Txt K mg) : FnOk P w K mg base CX0 1 T.a_Kept_init T.d_Kept_init ["self", "acts", "sums", "texts"] (spOf K T.cl m_Kept_init) :=
  fnL_ok T.F_Kept_init sc_Kept_init fun cdv A outer s H E hr => (s_cons (s_fld (cs_cons ⟨T.cl_Kept, T.n_Kept_acts⟩ cs_nil) (k_var 0) (k_comp (own := [("spot", 4), ("act", 5)]) (live := false) rfl sc_Kept_init.nd (pi_any (k_var 1)) (blkOk_by (own := [("spot", 4), ("act", 5)]) (N := ["self", "acts", "sums", "texts", "spot", "act", "cell", "total", "characters", "mark", "char"]) (sc := defScope s_Kept_init) (by decide +kernel)) (fun _ _ _ _ _ => (g_tup rfl (gs_cons (g_name (i := 4) sc_Kept_init.nd rfl (.inl rfl)) (gs_cons (g_name (i := 5) sc_Kept_init.nd rfl (.inl rfl)) gs_nil)))) (fun _ _ _ _ _ => ts_nil) (fun _ _ _ _ _ => (k_tup (a_cons (k_var 4) (a_cons (k_var 5) a_nil))))))
    (s_cons (s_fld (cs_cons ⟨T.cl_Kept, T.n_Kept_sums⟩ cs_nil) (k_var 0) (k_comp (own := [("cell", 6), ("total", 7)]) (live := false) rfl sc_Kept_init.nd (pi_any (k_var 2)) (blkOk_by (own := [("cell", 6), ("total", 7)]) (N := ["self", "acts", "sums", "texts", "spot", "act", "cell", "total", "characters", "mark", "char"]) (sc := defScope s_Kept_init) (by decide +kernel)) (fun _ _ _ _ _ => (g_tup rfl (gs_cons (g_name (i := 6) sc_Kept_init.nd rfl (.inl rfl)) (gs_cons (g_name (i := 7) sc_Kept_init.nd rfl (.inl rfl)) gs_nil)))) (fun _ _ _ _ _ => ts_nil) (fun _ _ _ _ _ => (k_tup (a_cons (k_var 6) (a_cons (k_var 7) a_nil))))))
    (s_one (s_fld (cs_cons ⟨T.cl_Kept, T.n_Kept_texts⟩ cs_nil) (k_var 0) (k_comp (own := [("cell", 6), ("characters", 8)]) (live := false) rfl sc_Kept_init.nd (pi_any (k_var 3)) (blkOk_by (own := [("cell", 6), ("characters", 8)]) (N := ["self", "acts", "sums", "texts", "spot", "act", "cell", "total", "characters", "mark", "char"]) (sc := defScope s_Kept_init) (by decide +kernel)) (fun _ _ _ _ _ => (g_tup rfl (gs_cons (g_name (i := 6) sc_Kept_init.nd rfl (.inl rfl)) (gs_cons (g_name (i := 8) sc_Kept_init.nd rfl (.inl rfl)) gs_nil)))) (fun _ _ _ _ _ => ts_nil) (fun _ _ _ _ _ => (k_tup (a_cons (k_var 6) (a_cons (k_comp (own := [("mark", 9), ("char", 10)]) (live := false) rfl sc_Kept_init.nd (pi_any (k_var 8)) (blkOk_by (own := [("mark", 9), ("char", 10)]) (N := ["self", "acts", "sums", "texts", "spot", "act", "cell", "total", "characters", "mark", "char"]) (sc := ({ kind := .function, names := [(PySem.Str.ofString ".0", .local), (PySem.Str.ofString "cell", .local), (PySem.Str.ofString "characters", .local)], isGenerator := false, isCoroutine := false } : Scope)) (by decide +kernel)) (fun _ _ _ _ _ => (g_tup rfl (gs_cons (g_name (i := 9) sc_Kept_init.nd rfl (.inl rfl)) (gs_cons (g_name (i := 10) sc_Kept_init.nd rfl (.inl rfl)) gs_nil)))) (fun _ _ _ _ _ => ts_nil) (fun _ _ _ _ _ => (k_tup (a_cons (k_var 9) (a_cons (k_var 10) a_nil))))) a_nil)))))))))
theorem ok_Store_init (T : Txt K mg) : FnOk P w K mg base CX0 4 T.a_Store_init T.d_Store_init ["self", "members"] (spOf K T.cl m_Store_init) :=
  fnL_ok T.F_Store_init sc_Store_init fun cdv A outer s H E hr => (s_cons (s_fld (cs_cons ⟨T.cl_Store, T.n_Store_members⟩ cs_nil) (k_var 0) (k_var 1))
    (s_cons (s_fld (cs_cons ⟨T.cl_Store, T.n_Store_cut⟩ cs_nil) (k_var 0) (k_comp (own := [("_", 2)]) (live := false) rfl sc_Store_init.nd (pi_rng1 (by rfl) T.z_range (a_cons (k_var 1) a_nil)) (blkOk_by (own := [("_", 2)]) (N := ["self", "members", "_"]) (sc := defScope s_Store_init) (by decide +kernel)) (fun _ _ _ _ _ => (g_name (i := 2) sc_Store_init.nd rfl (.inl rfl))) (fun _ _ _ _ _ => ts_nil) (fun _ _ _ _ _ => k_int)))
    (s_cons (s_fld (cs_cons ⟨T.cl_Store, T.n_Store_capabilities⟩ cs_nil) (k_var 0) (k_lst (live := false) a_nil))
    (s_cons (s_fld (cs_cons ⟨T.cl_Store, T.n_Store_kept⟩ cs_nil) (k_var 0) (k_comp (own := [("_", 2)]) (live := false) rfl sc_Store_init.nd (pi_rng1 (by rfl) T.z_range (a_cons (k_glob (by rfl) T.g_SPACES T.r_SPACES (fun F => T.q_SPACES F T.cl)) a_nil)) (blkOk_by (own := [("_", 2)]) (N := ["self", "members", "_"]) (sc := defScope s_Store_init) (by decide +kernel)) (fun _ _ _ _ _ => (g_name (i := 2) sc_Store_init.nd rfl (.inl rfl))) (fun _ _ _ _ _ => ts_nil) (fun _ _ _ _ _ => (k_make (live := false) (c := 1) T.M_Kept (ok_Kept_init T) (hr.mono (by first | decide | omega)) (by rfl) T.g_Kept T.b_Kept_init pass0 (a_cons (k_lst (live := false) a_nil) (a_cons (k_lst (live := false) a_nil) (a_cons (k_lst (live := false) a_nil) a_nil)))))))
    (s_one (s_fld (cs_cons ⟨T.cl_Store, T.n_Store_changes⟩ cs_nil) (k_var 0) (k_comp (own := [("_", 2)]) (live := true) rfl sc_Store_init.nd (pi_rng1 (by rfl) T.z_range (a_cons (k_var 1) a_nil)) (blkOk_by (own := [("_", 2)]) (N := ["self", "members", "_"]) (sc := defScope s_Store_init) (by decide +kernel)) (fun _ _ _ _ _ => (g_name (i := 2) sc_Store_init.nd rfl (.inl rfl))) (fun _ _ _ _ _ => ts_nil) (fun _ _ _ _ _ => (k_lst (live := true) a_nil)))))))))
theorem ok_Store_count (T : Txt K mg) : FnOk P w K mg base CX0 1 T.a_Store_count T.d_Store_count ["self", "member"] (spOf K T.cl m_Store_count) :=
  fn_ok T.F_Store_count sc_Store_count fun cdv A outer s H E hr => (s_one (s_ret (k_op d_add o_add (k_ix (k_fld (cs_cons ⟨T.cl_Store, T.n_Store_cut⟩ cs_nil) (k_var 0)) (k_var 1)) (k_callB d_len c_len (by rfl) T.z_len bt_len (a_cons (k_ix (k_fld (cs_cons ⟨T.cl_Store, T.n_Store_changes⟩ cs_nil) (k_var 0)) (k_var 1)) a_nil)))))
theorem ok_Store_counts (T : Txt K mg) : FnOk P w K mg base CX0 2 T.a_Store_counts T.d_Store_counts ["self"] (spOf K T.cl m_Store_counts) :=
  fn_ok T.F_Store_counts sc_Store_counts fun cdv A outer s H E hr => (s_one (s_ret (k_comp (own := [("member", 1)]) (live := false) rfl sc_Store_counts.nd (pi_rng1 (by rfl) T.z_range (a_cons (k_fld (cs_cons ⟨T.cl_Store, T.n_Store_members⟩ cs_nil) (k_var 0)) a_nil)) (blkOk_by (own := [("member", 1)]) (N := ["self", "member"]) (sc := defScope s_Store_counts) (by decide +kernel)) (fun _ _ _ _ _ => (g_name (i := 1) sc_Store_counts.nd rfl (.inl rfl))) (fun _ _ _ _ _ => ts_nil) (fun _ _ _ _ _ => (k_meth (c := 2) (k_var 0) T.cl_Store T.m_Store_count (ok_Store_count T) (hr.mono (by first | decide | omega)) T.b_Store_count pass0 (a_cons (k_var 1) a_nil))))))
theorem ok_Store_find (T : Txt K mg) : FnOk P w K mg base CX0 1 T.a_Store_find T.d_Store_find ["self", "name"] (spOf K T.cl m_Store_find) :=
  fn_ok T.F_Store_find sc_Store_find fun cdv A outer s H E hr => (s_cons (s_asg (k_var 1) (g_tup rfl (gs_cons (g_name (i := 2) sc_Store_find.nd rfl (.inl rfl)) (gs_cons (g_name (i := 3) sc_Store_find.nd rfl (.inl rfl)) gs_nil))))
    (s_cons (s_if (t_not (t_chain d_le d_lt op_le op_lt k_int (k_var 2) (k_fld (cs_cons ⟨T.cl_Store, T.n_Store_members⟩ cs_nil) (k_var 0))))
      (s_one (s_ret k_non))
      s_nil)
    (s_cons (s_set (i := 4) sc_Store_find.nd rfl (.inl rfl) (k_op d_sub op_sub (k_op d_sub op_sub (k_var 3) (k_ix (k_fld (cs_cons ⟨T.cl_Store, T.n_Store_cut⟩ cs_nil) (k_var 0)) (k_var 2))) k_int))
    (s_cons (s_if (t_chain d_le d_lt op_le op_lt k_int (k_var 4) (k_callB d_len c_len (by rfl) T.z_len bt_len (a_cons (k_ix (k_fld (cs_cons ⟨T.cl_Store, T.n_Store_changes⟩ cs_nil) (k_var 0)) (k_var 2)) a_nil)))
      (s_one (s_ret (k_ix (k_ix (k_fld (cs_cons ⟨T.cl_Store, T.n_Store_changes⟩ cs_nil) (k_var 0)) (k_var 2)) (k_var 4))))
      s_nil)
    (s_one (s_ret k_non))))))
theorem ok_Store_add (T : Txt K mg) : FnOk P w K mg base CX0 1 T.a_Store_add T.d_Store_add ["self", "change"] (spOf K T.cl m_Store_add) :=
  fn_ok T.F_Store_add sc_Store_add fun cdv A outer s H E hr => (s_one (s_drop (k_bm d_app PySem.F.plainAttrs_list PySem.F.slot_list_append PySem.F.type_list_append mt_append (k_ix (k_fld (cs_cons ⟨T.cl_Store, T.n_Store_changes⟩ cs_nil) (k_var 0)) (k_fld (cs_cons ⟨T.cl_Change, T.n_Change_author⟩ cs_nil) (k_var 1))) (a_cons (k_var 1) a_nil))))
theorem ok_unknown_names (T : Txt K mg) : FnOk P w K mg base CX0 2 T.a_unknown_names T.d_unknown_names ["store", "space"] (spOf K T.cl m_unknown_names) :=
  fn_ok T.F_unknown_names sc_unknown_names fun cdv A outer s H E hr => (s_cons (s_set (i := 2) sc_unknown_names.nd rfl (.inl rfl) (k_lst (live := true) a_nil))
    (s_cons (s_for PassesOwn.never rfl (pi_any (k_fld (cs_cons ⟨T.cl_Store, T.n_Store_changes⟩ cs_nil) (k_var 0))) (g_name (i := 3) sc_unknown_names.nd rfl (.inl rfl))
      (s_one (s_for PassesOwn.never rfl (pi_any (k_var 3)) (g_name (i := 4) sc_unknown_names.nd rfl (.inl rfl))
      (s_one (s_if (t_cmp d_is o_is (k_ix (k_fld (cs_cons ⟨T.cl_Change, T.n_Change_parts⟩ cs_nil) (k_var 4)) (k_var 1)) k_non (nomark _))
      (s_one (s_drop (k_bm d_app PySem.F.plainAttrs_list PySem.F.slot_list_append PySem.F.type_list_append mt_append (k_var 2) (a_cons (k_meth0 (c := 0) (k_var 4) T.cl_Change T.m_Change_name (ok_Change_name T) (hr.mono (by first | decide | omega)) T.b_Change_name pass0) a_nil))))
      s_nil)))))
    (s_one (s_ret (k_var 2)))))
theorem ok_asking (T : Txt K mg) : FnOk P w K mg base CX0 3 T.a_asking T.d_asking ["store", "member"] (spOf K T.cl m_asking) :=
  fn_ok T.F_asking sc_asking fun cdv A outer s H E hr => (s_cons (s_set (i := 2) sc_asking.nd rfl (.inl rfl) (k_op d_add o_add (k_lst (live := false) (a_cons k_int a_nil)) (k_call (ok_write_number T) (hr.mono (by first | decide | omega)) (by rfl) T.g_write_number T.F_write_number.kp T.b_write_number pass0 (a_cons (k_var 1) a_nil))))
    (s_cons (s_drop (k_bm d_ext PySem.F.plainAttrs_list PySem.F.slot_list_extend PySem.F.type_list_extend mt_extG (k_var 2) (a_cons (k_call (ok_write_list T) (hr.mono (by first | decide | omega)) (by rfl) T.g_write_list T.F_write_list.kp T.b_write_list pass0 (a_cons (k_comp (own := [("count", 5)]) (live := false) rfl sc_asking.nd (pi_any (k_fld (cs_cons ⟨T.cl_Store, T.n_Store_cut⟩ cs_nil) (k_var 0))) (blkOk_by (own := [("count", 5)]) (N := ["store", "member", "data", "kept", "space", "count", "name"]) (sc := defScope s_asking) (by decide +kernel)) (fun _ _ _ _ _ => (g_name (i := 5) sc_asking.nd rfl (.inl rfl))) (fun _ _ _ _ _ => ts_nil) (fun _ _ _ _ _ => (k_call (ok_write_number T) (hr.mono (by first | decide | omega)) (by rfl) T.g_write_number T.F_write_number.kp T.b_write_number pass0 (a_cons (k_var 5) a_nil)))) a_nil)) a_nil)))
    (s_cons (s_drop (k_bm d_ext PySem.F.plainAttrs_list PySem.F.slot_list_extend PySem.F.type_list_extend mt_extG (k_var 2) (a_cons (k_call (ok_write_list T) (hr.mono (by first | decide | omega)) (by rfl) T.g_write_list T.F_write_list.kp T.b_write_list pass0 (a_cons (k_comp (own := [("count", 5)]) (live := false) rfl sc_asking.nd (pi_any (k_meth0 (c := 2) (k_var 0) T.cl_Store T.m_Store_counts (ok_Store_counts T) (hr.mono (by first | decide | omega)) T.b_Store_counts pass0)) (blkOk_by (own := [("count", 5)]) (N := ["store", "member", "data", "kept", "space", "count", "name"]) (sc := defScope s_asking) (by decide +kernel)) (fun _ _ _ _ _ => (g_name (i := 5) sc_asking.nd rfl (.inl rfl))) (fun _ _ _ _ _ => ts_nil) (fun _ _ _ _ _ => (k_call (ok_write_number T) (hr.mono (by first | decide | omega)) (by rfl) T.g_write_number T.F_write_number.kp T.b_write_number pass0 (a_cons (k_var 5) a_nil)))) a_nil)) a_nil)))
    (s_cons (s_for PassesOwn.never rfl (pi_any (k_fld (cs_cons ⟨T.cl_Store, T.n_Store_kept⟩ cs_nil) (k_var 0))) (g_name (i := 3) sc_asking.nd rfl (.inl rfl))
      (s_one (s_drop (k_bm d_app PySem.F.plainAttrs_list PySem.F.slot_list_append PySem.F.type_list_append mt_append (k_var 2) (a_cons (k_callT d_int c_int (by rfl) T.z_int bt_int (a_cons (k_cmp d_is o_isnot (k_var 3) k_non (nomark _)) a_nil)) a_nil)))))
    (s_cons (s_for PassesOwn.never rfl (pi_rng1 (by rfl) T.z_range (a_cons (k_glob (by rfl) T.g_SPACES T.r_SPACES (fun F => T.q_SPACES F T.cl)) a_nil)) (g_name (i := 4) sc_asking.nd rfl (.inl rfl))
      (s_one (s_drop (k_bm d_ext PySem.F.plainAttrs_list PySem.F.slot_list_extend PySem.F.type_list_extend mt_extG (k_var 2) (a_cons (k_call (ok_write_list T) (hr.mono (by first | decide | omega)) (by rfl) T.g_write_list T.F_write_list.kp T.b_write_list pass0 (a_cons (k_comp (own := [("name", 6)]) (live := false) rfl sc_asking.nd (pi_any (k_call (ok_unknown_names T) (hr.mono (by first | decide | omega)) (by rfl) T.g_unknown_names T.F_unknown_names.kp T.b_unknown_names pass0 (a_cons (k_var 0) (a_cons (k_var 4) a_nil)))) (blkOk_by (own := [("name", 6)]) (N := ["store", "member", "data", "kept", "space", "count", "name"]) (sc := defScope s_asking) (by decide +kernel)) (fun _ _ _ _ _ => (g_name (i := 6) sc_asking.nd rfl (.inl rfl))) (fun _ _ _ _ _ => ts_nil) (fun _ _ _ _ _ => (k_call (ok_write_numbers T) (hr.mono (by first | decide | omega)) (by rfl) T.g_write_numbers T.F_write_numbers.kp T.b_write_numbers pass0 (a_cons (k_var 6) a_nil)))) a_nil)) a_nil)))))
    (s_one (s_ret (k_var 2))))))))
theorem ok_draw (T : Txt K mg) : FnOk P w K mg base CX0 1 T.a_draw T.d_draw ["_law_script", "_law_k"] (spOf K T.cl m_draw) :=
  fn_ok T.F_draw sc_draw fun cdv A outer s H E hr => (s_cons (s_if (t_not (t_tru (k_var 0)))
      (s_one (s_ret (k_op d_mod op_mod (k_op d_mul op_mulG (k_var 1) k_int) k_int)))
      s_nil)
    (s_cons (s_set (i := 2) sc_draw.nd rfl (.inl rfl) (k_callT d_int c_int (by rfl) T.z_int bt_int (a_cons (k_ix (k_var 0) (k_op d_mod op_mod (k_var 1) (k_callB d_len c_len (by rfl) T.z_len bt_len (a_cons (k_var 0) a_nil)))) a_nil)))
    (s_cons (s_set (i := 3) sc_draw.nd rfl (.inl rfl) (k_op d_div op_fdivW (k_var 1) (k_callB d_len c_len (by rfl) T.z_len bt_len (a_cons (k_var 0) a_nil))))
    (s_cons (s_if (t_cmp d_ge op_ge (k_var 2) k_int (nomark _))
      (s_cons (s_for PassesOwn.never rfl (pi_rng1 (by rfl) T.z_range (a_cons (k_callB d_min (c_min rfl) (by rfl) T.z_min bt_min (a_cons (k_var 3) (a_cons k_int a_nil))) a_nil)) (g_name (i := 4) sc_draw.nd rfl (.inl rfl))
      (s_one (s_set (i := 2) sc_draw.nd rfl (.inl rfl) (k_op d_div op_fdivW (k_var 2) k_int))))
    (s_one (s_ret (k_op d_mod op_mod (k_var 2) k_int))))
      s_nil)
    (s_one (s_ret (k_op d_mod op_mod (k_op d_mul op_mulG (k_op d_mod op_mod (k_op d_add o_add (k_op d_add o_add (k_op d_mul op_mulG (k_var 2) k_int) (k_op d_mul op_mulG (k_var 1) k_int)) k_int) k_int) k_int) k_int)))))))
theorem ok_spot (T : Txt K mg) : FnOk P w K mg base CX0 1 T.a_spot T.d_spot ["_law_number_here"] (spOf K T.cl m_spot) :=
  fn_ok T.F_spot sc_spot fun cdv A outer s H E hr => (s_one (s_ret (k_tup (a_cons (k_op d_mod op_mod (k_var 0) k_int) (a_cons (k_op d_add o_add k_int (k_op d_mod op_mod (k_op d_div op_fdivW (k_var 0) k_int) k_int)) (a_cons (k_op d_mod op_mod (k_op d_div op_fdivW (k_var 0) k_int) k_int) a_nil))))))
theorem ok_text (T : Txt K mg) : FnOk P w K mg base CX0 1 T.a_text T.d_text ["_law_number_here"] (spOf K T.cl m_text) :=
  fn_ok T.F_text sc_text fun cdv A outer s H E hr => (s_cons (s_set (i := 1) sc_text.nd rfl (.inr rfl) k_str)
    (s_one (s_ret (k_join k_str (k_comp (own := [("_law_k", 2)]) (live := false) rfl sc_text.nd (pi_rng1 (by rfl) T.z_range (a_cons (k_op d_mod op_mod (k_op d_div op_fdivW (k_var 0) k_int) k_int) a_nil)) (blkOk_by (own := [("_law_k", 2)]) (N := ["_law_number_here", "_law_letters", "_law_k"]) (sc := defScope s_text) (by decide +kernel)) (fun _ _ _ _ _ => (g_name (i := 2) sc_text.nd rfl (.inl rfl))) (fun _ _ _ _ _ => ts_nil) (fun _ _ _ _ _ => (k_ix (k_var 1) (k_op d_mod op_mod (k_op d_add o_add (k_var 0) (k_op d_mul op_mulG k_int (k_var 2))) k_int))))))))
theorem ok_value (T : Txt K mg) : FnOk P w K mg base CX0 2 T.a_value T.d_value ["_law_number_here"] (spOf K T.cl m_value) :=
  fn_ok T.F_value sc_value fun cdv A outer s H E hr => (s_cons (s_set (i := 1) sc_value.nd rfl (.inl rfl) (k_lst (live := false) (a_cons k_non (a_cons k_bl (a_cons k_bl (a_cons (k_var 0) (a_cons (k_un d_neg un_neg (k_var 0)) (a_cons (k_call (ok_text T) (hr.mono (by first | decide | omega)) (by rfl) T.g_text T.F_text.kp T.b_text pass0 (a_cons (k_var 0) a_nil)) (a_cons k_int a_nil)))))))))
    (s_one (s_ret (k_ix (k_var 1) (k_op d_mod op_mod (k_var 0) k_int)))))
theorem ok_act (T : Txt K mg) : FnOk P w K mg base CX0 3 T.a_act T.d_act ["_law_kind", "_law_number_here"] (spOf K T.cl m_act) :=
  fn_ok T.F_act sc_act fun cdv A outer s H E hr => (s_cons (s_set (i := 2) sc_act.nd rfl (.inl rfl) (k_call (ok_spot T) (hr.mono (by first | decide | omega)) (by rfl) T.g_spot T.F_spot.kp T.b_spot pass0 (a_cons (k_var 1) a_nil)))
    (s_cons (s_set (i := 3) sc_act.nd rfl (.inl rfl) (k_call (ok_spot T) (hr.mono (by first | decide | omega)) (by rfl) T.g_spot T.F_spot.kp T.b_spot pass0 (a_cons (k_op d_add o_add (k_op d_mul op_mulG (k_var 1) k_int) k_int) a_nil)))
    (s_cons (s_set (i := 4) sc_act.nd rfl (.inl rfl) k_non)
    (s_cons (s_if (t_cmp d_gt op_gt (k_op d_mod op_mod (k_var 1) k_int) k_int (nomark _))
      (s_one (s_set (i := 4) sc_act.nd rfl (.inl rfl) (k_tup (a_cons (k_op d_mod op_mod (k_var 1) k_int) (a_cons (k_op d_add o_add k_int (k_op d_div op_fdivW (k_var 1) k_int)) (a_cons (k_op d_mod op_mod (k_op d_div op_fdivW (k_var 1) k_int) k_int) (a_cons (k_op d_mod op_mod (k_op d_div op_fdivW (k_var 1) k_int) k_int) a_nil)))))))
      s_nil)
    (s_cons (s_set (i := 5) sc_act.nd rfl (.inl rfl) (k_ix (k_lst (live := false) (a_cons k_str (a_cons k_str (a_cons k_str (a_cons k_str (a_cons k_str (a_cons (k_tup (a_cons k_str (a_cons (k_var 3) a_nil))) a_nil))))))) (k_op d_mod op_mod (k_var 1) k_int)))
    (s_cons (s_set (i := 6) sc_act.nd rfl (.inl rfl) (k_lst (live := true) (a_cons (k_tup (a_cons k_str (a_cons (k_op d_add o_add k_str (k_callT d_str c_str (by rfl) T.z_str bt_str (a_cons (k_op d_mod op_mod (k_var 1) k_int) a_nil))) a_nil))) (a_cons (k_tup (a_cons k_str (a_cons (k_var 2) (a_cons (k_op d_add o_add k_str (k_callT d_str c_str (by rfl) T.z_str bt_str (a_cons (k_op d_mod op_mod (k_var 1) k_int) a_nil))) (a_cons (k_var 5) a_nil))))) a_nil))))
    (s_cons (s_drop (k_bm d_app PySem.F.plainAttrs_list PySem.F.slot_list_append PySem.F.type_list_append mt_append (k_var 6) (a_cons (k_tup (a_cons k_str (a_cons (k_var 2) (a_cons (k_callT d_tuple c_tuple (by rfl) T.z_tuple bt_tuple (a_cons (k_comp (own := [("_law_k", 8)]) (live := false) rfl sc_act.nd (pi_rng1 (by rfl) T.z_range (a_cons (k_op d_mod op_mod (k_var 1) k_int) a_nil)) (blkOk_by (own := [("_law_k", 8)]) (N := ["_law_kind", "_law_number_here", "_law_spot_here", "_law_other", "_law_mark", "_law_holds_here", "_law_acts", "_law_target", "_law_k"]) (sc := defScope s_act) (by decide +kernel)) (fun _ _ _ _ _ => (g_name (i := 8) sc_act.nd rfl (.inl rfl))) (fun _ _ _ _ _ => ts_nil) (fun _ _ _ _ _ => (k_call (ok_spot T) (hr.mono (by first | decide | omega)) (by rfl) T.g_spot T.F_spot.kp T.b_spot pass0 (a_cons (k_op d_add o_add (k_var 1) (k_var 8)) a_nil)))) a_nil)) a_nil)))) a_nil)))
    (s_cons (s_set (i := 6) sc_act.nd rfl (.inl rfl) (k_op d_add o_add (k_var 6) (k_lst (live := false) (a_cons (k_tup (a_cons k_str (a_cons (k_var 2) a_nil))) (a_cons (k_tup (a_cons k_str (a_cons (k_var 2) a_nil))) (a_cons (k_tup (a_cons k_str (a_cons (k_var 2) (a_cons (k_var 3) (a_cons (k_call (ok_value T) (hr.mono (by first | decide | omega)) (by rfl) T.g_value T.F_value.kp T.b_value pass0 (a_cons (k_op d_div op_fdivW (k_var 1) k_int) a_nil)) a_nil))))) a_nil))))))
    (s_cons (s_set (i := 7) sc_act.nd rfl (.inl rfl) k_non)
    (s_cons (s_if (t_cmp d_eq (o_eq hr.units) (k_op d_mod op_mod (k_var 1) k_int) k_int (nomark _))
      (s_one (s_set (i := 7) sc_act.nd rfl (.inl rfl) (k_call (ok_spot T) (hr.mono (by first | decide | omega)) (by rfl) T.g_spot T.F_spot.kp T.b_spot pass0 (a_cons (k_op d_add o_add (k_var 1) k_int) a_nil))))
      s_nil)
    (s_cons (s_set (i := 6) sc_act.nd rfl (.inl rfl) (k_op d_add o_add (k_var 6) (k_lst (live := false) (a_cons (k_tup (a_cons k_str (a_cons (k_var 2) (a_cons (k_var 3) (a_cons (k_var 7) a_nil))))) (a_cons (k_tup (a_cons k_str (a_cons (k_var 2) (a_cons (k_var 3) (a_cons (k_op d_sub op_sub (k_var 1) k_int) a_nil))))) a_nil)))))
    (s_cons (s_set (i := 6) sc_act.nd rfl (.inl rfl) (k_op d_add o_add (k_var 6) (k_lst (live := false) (a_cons (k_tup (a_cons k_str (a_cons (k_var 2) (a_cons (k_var 3) (a_cons (k_var 4) (a_cons (k_call (ok_text T) (hr.mono (by first | decide | omega)) (by rfl) T.g_text T.F_text.kp T.b_text pass0 (a_cons (k_var 1) a_nil)) a_nil)))))) (a_cons (k_tup (a_cons k_str (a_cons (k_tup (a_cons k_int (a_cons k_int (a_cons k_int (a_cons (k_var 1) a_nil))))) a_nil))) a_nil)))))
    (s_cons (s_drop (k_bm d_app PySem.F.plainAttrs_list PySem.F.slot_list_append PySem.F.type_list_append mt_append (k_var 6) (a_cons (k_tup (a_cons k_str (a_cons (k_tup (a_cons (k_op d_mod op_mod (k_var 1) k_int) (a_cons (k_op d_add o_add k_int (k_var 1)) a_nil))) a_nil))) a_nil)))
    (s_one (s_ret (k_ix (k_var 6) (k_op d_mod op_mod (k_var 0) k_int)))))))))))))))))
theorem ok_rights (T : Txt K mg) : FnOk P w K mg base CX0 1 T.a_rights T.d_rights ["_law_number_here"] (spOf K T.cl m_rights) :=
  fn_ok T.F_rights sc_rights fun cdv A outer s H E hr => (s_cons (s_set (i := 1) sc_rights.nd rfl (.inl rfl) (k_lst (live := true) a_nil))
    (s_cons (s_for PassesOwn.never rfl (pi_rng1 (by rfl) T.z_range (a_cons k_int a_nil)) (g_name (i := 2) sc_rights.nd rfl (.inl rfl))
      (s_cons (s_set (i := 3) sc_rights.nd rfl (.inl rfl) (k_op d_div op_fdivW (k_var 0) (k_ix (k_lst (live := false) (a_cons k_int (a_cons k_int (a_cons k_int (a_cons k_int a_nil))))) (k_var 2))))
    (s_one (s_drop (k_bm d_app PySem.F.plainAttrs_list PySem.F.slot_list_append PySem.F.type_list_append mt_append (k_var 1) (a_cons (k_tup (a_cons (k_cmp d_eq (o_eq hr.units) (k_op d_mod op_mod (k_var 3) k_int) k_int (nomark _)) (a_cons (k_cmp d_eq (o_eq hr.units) (k_op d_mod op_mod (k_op d_div op_fdivW (k_var 3) k_int) k_int) k_int (nomark _)) (a_cons (k_cmp d_eq (o_eq hr.units) (k_op d_mod op_mod (k_op d_div op_fdivW (k_var 3) k_int) k_int) k_int (nomark _)) a_nil)))) a_nil))))))
    (s_one (s_ret (k_callT d_tuple c_tuple (by rfl) T.z_tuple bt_tuple (a_cons (k_var 1) a_nil))))))
theorem ok_number (T : Txt K mg) : FnOk P w K mg base CX0 1 T.a_number T.d_number ["_law_number_here"] (spOf K T.cl m_number) :=
  fn_ok T.F_number sc_number fun cdv A outer s H E hr => (s_cons (s_set (i := 1) sc_number.nd rfl (.inl rfl) (k_lst (live := true) a_nil))
    (s_cons (s_while PassesOwn.never (PW.pt (w_and (t_cmp d_ge op_ge (k_var 0) k_int (nomark _)) (w_and1 (t_cmp d_lt op_lt (k_callB d_len c_len (by rfl) T.z_len bt_len (a_cons (k_var 1) a_nil)) k_int (nomark _)))))
      (s_cons (s_drop (k_bm d_app PySem.F.plainAttrs_list PySem.F.slot_list_append PySem.F.type_list_append mt_append (k_var 1) (a_cons (k_op d_add o_add (k_op d_mod op_mod (k_var 0) k_int) k_int) a_nil)))
    (s_one (s_set (i := 0) sc_number.nd rfl (.inl rfl) (k_op d_div op_fdivW (k_var 0) k_int)))))
    (s_one (s_ret (k_op d_add o_add (k_var 1) (k_lst (live := false) (a_cons (k_var 0) a_nil)))))))
theorem ok_numbers (T : Txt K mg) : FnOk P w K mg base CX0 2 T.a_numbers T.d_numbers ["_law_numbers_here"] (spOf K T.cl m_numbers) :=
  fn_ok T.F_numbers sc_numbers fun cdv A outer s H E hr => (s_cons (s_set (i := 1) sc_numbers.nd rfl (.inl rfl) (k_lst (live := false) a_nil))
    (s_cons (s_for PassesOwn.never rfl (pi_any (k_var 0)) (g_name (i := 2) sc_numbers.nd rfl (.inl rfl))
      (s_one (s_set (i := 1) sc_numbers.nd rfl (.inl rfl) (k_op d_add o_add (k_var 1) (k_call (ok_number T) (hr.mono (by first | decide | omega)) (by rfl) T.g_number T.F_number.kp T.b_number pass0 (a_cons (k_var 2) a_nil))))))
    (s_one (s_ret (k_var 1)))))
theorem ok_signed (T : Txt K mg) : FnOk P w K mg base CX0 2 T.a_signed T.d_signed ["_law_number_here"] (spOf K T.cl m_signed) :=
  fn_ok T.F_signed sc_signed fun cdv A outer s H E hr => (s_one (s_ret (k_op d_add o_add (k_lst (live := false) (a_cons (k_callT d_int c_int (by rfl) T.z_int bt_int (a_cons (k_cmp d_lt op_lt (k_var 0) k_int (nomark _)) a_nil)) a_nil)) (k_call (ok_number T) (hr.mono (by first | decide | omega)) (by rfl) T.g_number T.F_number.kp T.b_number pass0 (a_cons (k_callB d_abs c_abs (by rfl) T.z_abs bt_abs (a_cons (k_var 0) a_nil)) a_nil)))))
theorem ok_string (T : Txt K mg) : FnOk P w K mg base CX0 3 T.a_string T.d_string ["_law_text_here"] (spOf K T.cl m_string) :=
  fn_ok T.F_string sc_string fun cdv A outer s H E hr => (s_one (s_ret (k_op d_add o_add (k_call (ok_number T) (hr.mono (by first | decide | omega)) (by rfl) T.g_number T.F_number.kp T.b_number pass0 (a_cons (k_callB d_len c_len (by rfl) T.z_len bt_len (a_cons (k_var 0) a_nil)) a_nil)) (k_call (ok_numbers T) (hr.mono (by first | decide | omega)) (by rfl) T.g_numbers T.F_numbers.kp T.b_numbers pass0 (a_cons (k_comp (own := [("_law_char", 1)]) (live := false) rfl sc_string.nd (pi_strD (k_var 0)) (blkOk_by (own := [("_law_char", 1)]) (N := ["_law_text_here", "_law_char"]) (sc := defScope s_string) (by decide +kernel)) (fun _ _ _ _ _ => (g_name (i := 1) sc_string.nd rfl (.inl rfl))) (fun _ _ _ _ _ => ts_nil) (fun _ _ _ _ _ => (k_callB d_ord c_ord (by rfl) T.z_ord bt_ord (a_cons (k_var 1) a_nil)))) a_nil)))))
theorem ok_optional (T : Txt K mg) : FnOk P w K mg base CX0 3 T.a_optional T.d_optional ["_law_numbers_here"] (spOf K T.cl m_optional) :=
  fn_ok T.F_optional sc_optional fun cdv A outer s H E hr => (s_cons (s_if (t_cmp d_is o_is (k_var 0) k_non (nomark _))
      (s_one (s_ret (k_lst (live := false) (a_cons k_int a_nil))))
      s_nil)
    (s_one (s_ret (k_op d_add o_add (k_lst (live := false) (a_cons k_int a_nil)) (k_call (ok_numbers T) (hr.mono (by first | decide | omega)) (by rfl) T.g_numbers T.F_numbers.kp T.b_numbers pass0 (a_cons (k_var 0) a_nil))))))
theorem ok_bytes_of (T : Txt K mg) : FnOk P w K mg base CX0 4 T.a_bytes_of T.d_bytes_of ["_law_value_here"] (spOf K T.cl m_bytes_of) :=
  fn_ok T.F_bytes_of sc_bytes_of fun cdv A outer s H E hr => (s_cons (s_if (t_cmp d_is o_is (k_var 0) k_non (nomark _))
      (s_one (s_ret (k_lst (live := false) (a_cons k_int a_nil))))
      s_nil)
    (s_cons (s_if (t_val (k_isi (k_var 0) (by rfl) T.z_isinstance (by rfl) T.z_bool bt_bool))
      (s_one (s_ret (k_lst (live := false) (a_cons k_int (a_cons (k_callT d_int c_int (by rfl) T.z_int bt_int (a_cons (k_var 0) a_nil)) a_nil)))))
      s_nil)
    (s_cons (s_if (t_val (k_isi (k_var 0) (by rfl) T.z_isinstance (by rfl) T.z_int bt_int))
      (s_one (s_ret (k_op d_add o_add (k_lst (live := false) (a_cons k_int a_nil)) (k_call (ok_signed T) (hr.mono (by first | decide | omega)) (by rfl) T.g_signed T.F_signed.kp T.b_signed pass0 (a_cons (k_var 0) a_nil)))))
      s_nil)
    (s_one (s_ret (k_op d_add o_add (k_lst (live := false) (a_cons k_int a_nil)) (k_call (ok_string T) (hr.mono (by first | decide | omega)) (by rfl) T.g_string T.F_string.kp T.b_string pass0 (a_cons (k_var 0) a_nil))))))))
theorem ok_holds (T : Txt K mg) : FnOk P w K mg base CX0 3 T.a_holds T.d_holds ["_law_holds_here"] (spOf K T.cl m_holds) :=
  fn_ok T.F_holds sc_holds fun cdv A outer s H E hr => (s_cons (s_set (i := 1) sc_holds.nd rfl (.inl rfl) (k_lst (live := false) (a_cons k_str (a_cons k_str (a_cons k_str (a_cons k_str (a_cons k_str a_nil)))))))
    (s_cons (s_if (t_cmp d_inG (o_inG (u65 hr)) (k_var 0) (k_var 1) (by rfl))
      (s_one (s_ret (k_lst (live := false) (a_cons (k_bm d_index PySem.F.plainAttrs_list PySem.F.slot_list_index PySem.F.type_list_index mt_index (k_var 1) (a_cons (k_var 0) a_nil)) a_nil))))
      s_nil)
    (s_one (s_ret (k_op d_add o_add (k_lst (live := false) (a_cons k_int a_nil)) (k_call (ok_numbers T) (hr.mono (by first | decide | omega)) (by rfl) T.g_numbers T.F_numbers.kp T.b_numbers pass0 (a_cons (k_ix (k_var 0) k_int) a_nil)))))))
theorem ok_act_bytes (T : Txt K mg) : FnOk P w K mg base CX0 5 T.a_act_bytes T.d_act_bytes ["_law_act_here"] (spOf K T.cl m_act_bytes) :=
  fn_ok T.F_act_bytes sc_act_bytes fun cdv A outer s H E hr => (s_cons (s_set (i := 1) sc_act_bytes.nd rfl (.inl rfl) (k_lst (live := false) (a_cons k_str (a_cons k_str (a_cons k_str (a_cons k_str (a_cons k_str (a_cons k_str (a_cons k_str (a_cons k_str (a_cons k_str (a_cons k_str (a_cons k_str a_nil)))))))))))))
    (s_cons (s_set (i := 2) sc_act_bytes.nd rfl (.inl rfl) (k_lst (live := false) (a_cons (k_bm d_index PySem.F.plainAttrs_list PySem.F.slot_list_index PySem.F.type_list_index mt_index (k_var 1) (a_cons (k_ix (k_var 0) k_int) a_nil)) a_nil)))
    (s_cons (s_if (t_cmp d_eq (o_eq hr.units) (k_ix (k_var 0) k_int) k_str (nomark _))
      (s_one (s_ret (k_op d_add o_add (k_var 2) (k_call (ok_string T) (hr.mono (by first | decide | omega)) (by rfl) T.g_string T.F_string.kp T.b_string pass0 (a_cons (k_ix (k_var 0) k_int) a_nil)))))
      s_nil)
    (s_cons (s_set (i := 2) sc_act_bytes.nd rfl (.inl rfl) (k_op d_add o_add (k_var 2) (k_call (ok_numbers T) (hr.mono (by first | decide | omega)) (by rfl) T.g_numbers T.F_numbers.kp T.b_numbers pass0 (a_cons (k_ix (k_var 0) k_int) a_nil))))
    (s_cons (s_if (t_cmp d_eq (o_eq hr.units) (k_ix (k_var 0) k_int) k_str (nomark _))
      (s_one (s_ret (k_op d_add o_add (k_op d_add o_add (k_var 2) (k_call (ok_string T) (hr.mono (by first | decide | omega)) (by rfl) T.g_string T.F_string.kp T.b_string pass0 (a_cons (k_ix (k_var 0) k_int) a_nil))) (k_call (ok_holds T) (hr.mono (by first | decide | omega)) (by rfl) T.g_holds T.F_holds.kp T.b_holds pass0 (a_cons (k_ix (k_var 0) k_int) a_nil)))))
      s_nil)
    (s_cons (s_if (t_cmp d_eq (o_eq hr.units) (k_ix (k_var 0) k_int) k_str (nomark _))
      (s_cons (s_set (i := 2) sc_act_bytes.nd rfl (.inl rfl) (k_op d_add o_add (k_var 2) (k_call (ok_number T) (hr.mono (by first | decide | omega)) (by rfl) T.g_number T.F_number.kp T.b_number pass0 (a_cons (k_callB d_len c_len (by rfl) T.z_len bt_len (a_cons (k_ix (k_var 0) k_int) a_nil)) a_nil))))
    (s_cons (s_for PassesOwn.never rfl (pi_any (k_ix (k_var 0) k_int)) (g_name (i := 3) sc_act_bytes.nd rfl (.inl rfl))
      (s_one (s_set (i := 2) sc_act_bytes.nd rfl (.inl rfl) (k_op d_add o_add (k_var 2) (k_call (ok_numbers T) (hr.mono (by first | decide | omega)) (by rfl) T.g_numbers T.F_numbers.kp T.b_numbers pass0 (a_cons (k_var 3) a_nil))))))
    (s_one (s_ret (k_var 2)))))
      s_nil)
    (s_cons (s_if (t_cmp d_inG (o_inG (u65 hr)) (k_ix (k_var 0) k_int) (k_lst (live := false) (a_cons k_str (a_cons k_str (a_cons k_str (a_cons k_str a_nil))))) (by rfl))
      (s_one (s_ret (k_var 2)))
      s_nil)
    (s_cons (s_set (i := 2) sc_act_bytes.nd rfl (.inl rfl) (k_op d_add o_add (k_var 2) (k_call (ok_numbers T) (hr.mono (by first | decide | omega)) (by rfl) T.g_numbers T.F_numbers.kp T.b_numbers pass0 (a_cons (k_ix (k_var 0) k_int) a_nil))))
    (s_cons (s_if (t_cmp d_eq (o_eq hr.units) (k_ix (k_var 0) k_int) k_str (nomark _))
      (s_one (s_ret (k_op d_add o_add (k_var 2) (k_call (ok_bytes_of T) (hr.mono (by first | decide | omega)) (by rfl) T.g_bytes_of T.F_bytes_of.kp T.b_bytes_of pass0 (a_cons (k_ix (k_var 0) k_int) a_nil)))))
      s_nil)
    (s_cons (s_if (t_cmp d_eq (o_eq hr.units) (k_ix (k_var 0) k_int) k_str (nomark _))
      (s_one (s_ret (k_op d_add o_add (k_var 2) (k_call (ok_optional T) (hr.mono (by first | decide | omega)) (by rfl) T.g_optional T.F_optional.kp T.b_optional pass0 (a_cons (k_ix (k_var 0) k_int) a_nil)))))
      s_nil)
    (s_cons (s_if (t_cmp d_eq (o_eq hr.units) (k_ix (k_var 0) k_int) k_str (nomark _))
      (s_one (s_ret (k_op d_add o_add (k_var 2) (k_call (ok_signed T) (hr.mono (by first | decide | omega)) (by rfl) T.g_signed T.F_signed.kp T.b_signed pass0 (a_cons (k_ix (k_var 0) k_int) a_nil)))))
      s_nil)
    (s_one (s_ret (k_op d_add o_add (k_op d_add o_add (k_var 2) (k_call (ok_optional T) (hr.mono (by first | decide | omega)) (by rfl) T.g_optional T.F_optional.kp T.b_optional pass0 (a_cons (k_ix (k_var 0) k_int) a_nil))) (k_call (ok_string T) (hr.mono (by first | decide | omega)) (by rfl) T.g_string T.F_string.kp T.b_string pass0 (a_cons (k_ix (k_var 0) k_int) a_nil))))))))))))))))
theorem ok_rights_bytes (T : Txt K mg) : FnOk P w K mg base CX0 1 T.a_rights_bytes T.d_rights_bytes ["_law_rights_here"] (spOf K T.cl m_rights_bytes) :=
  fn_ok T.F_rights_bytes sc_rights_bytes fun cdv A outer s H E hr => (s_cons (s_set (i := 1) sc_rights_bytes.nd rfl (.inl rfl) (k_lst (live := false) a_nil))
    (s_cons (s_for PassesOwn.never rfl (pi_any (k_var 0)) (g_name (i := 2) sc_rights_bytes.nd rfl (.inl rfl))
      (s_one (s_set (i := 1) sc_rights_bytes.nd rfl (.inl rfl) (k_op d_add o_add (k_var 1) (k_comp (own := [("_law_each", 3)]) (live := false) rfl sc_rights_bytes.nd (pi_any (k_var 2)) (blkOk_by (own := [("_law_each", 3)]) (N := ["_law_rights_here", "_law_data", "_law_three", "_law_each"]) (sc := defScope s_rights_bytes) (by decide +kernel)) (fun _ _ _ _ _ => (g_name (i := 3) sc_rights_bytes.nd rfl (.inl rfl))) (fun _ _ _ _ _ => ts_nil) (fun _ _ _ _ _ => (k_callT d_int c_int (by rfl) T.z_int bt_int (a_cons (k_var 3) a_nil))))))))
    (s_one (s_ret (k_var 1)))))
theorem ok_change_bytes (T : Txt K mg) : FnOk P w K mg base CX0 6 T.a_change_bytes T.d_change_bytes ["_law_change_here"] (spOf K T.cl m_change_bytes) :=
  fn_ok T.F_change_bytes sc_change_bytes fun cdv A outer s H E hr => (s_cons (s_set (i := 1) sc_change_bytes.nd rfl (.inl rfl) (k_op d_add o_add (k_call (ok_numbers T) (hr.mono (by first | decide | omega)) (by rfl) T.g_numbers T.F_numbers.kp T.b_numbers pass0 (a_cons (k_lst (live := false) (a_cons (k_fld (cs_cons ⟨T.cl_Change, T.n_Change_author⟩ cs_nil) (k_var 0)) (a_cons (k_fld (cs_cons ⟨T.cl_Change, T.n_Change_number⟩ cs_nil) (k_var 0)) (a_cons (k_callB d_len c_len (by rfl) T.z_len bt_len (a_cons (k_fld (cs_cons ⟨T.cl_Change, T.n_Change_heard⟩ cs_nil) (k_var 0)) a_nil)) a_nil)))) a_nil)) (k_call (ok_numbers T) (hr.mono (by first | decide | omega)) (by rfl) T.g_numbers T.F_numbers.kp T.b_numbers pass0 (a_cons (k_fld (cs_cons ⟨T.cl_Change, T.n_Change_heard⟩ cs_nil) (k_var 0)) a_nil))))
    (s_cons (s_set (i := 1) sc_change_bytes.nd rfl (.inl rfl) (k_op d_add o_add (k_op d_add o_add (k_var 1) (k_call (ok_optional T) (hr.mono (by first | decide | omega)) (by rfl) T.g_optional T.F_optional.kp T.b_optional pass0 (a_cons (k_fld (cs_cons ⟨T.cl_Change, T.n_Change_capability⟩ cs_nil) (k_var 0)) a_nil))) (k_call (ok_number T) (hr.mono (by first | decide | omega)) (by rfl) T.g_number T.F_number.kp T.b_number pass0 (a_cons (k_callB d_len c_len (by rfl) T.z_len bt_len (a_cons (k_fld (cs_cons ⟨T.cl_Change, T.n_Change_publics⟩ cs_nil) (k_var 0)) a_nil)) a_nil))))
    (s_cons (s_for PassesOwn.never rfl (pi_any (k_fld (cs_cons ⟨T.cl_Change, T.n_Change_publics⟩ cs_nil) (k_var 0))) (g_name (i := 2) sc_change_bytes.nd rfl (.inl rfl))
      (s_one (s_if (t_cmp d_eq (o_eq hr.units) (k_ix (k_var 2) k_int) k_str (nomark _))
      (s_one (s_set (i := 1) sc_change_bytes.nd rfl (.inl rfl) (k_op d_add o_add (k_op d_add o_add (k_op d_add o_add (k_var 1) (k_lst (live := false) (a_cons k_int a_nil))) (k_call (ok_number T) (hr.mono (by first | decide | omega)) (by rfl) T.g_number T.F_number.kp T.b_number pass0 (a_cons (k_ix (k_var 2) k_int) a_nil))) (k_call (ok_rights_bytes T) (hr.mono (by first | decide | omega)) (by rfl) T.g_rights_bytes T.F_rights_bytes.kp T.b_rights_bytes pass0 (a_cons (k_ix (k_var 2) k_int) a_nil)))))
      (s_one (s_if (t_cmp d_eq (o_eq hr.units) (k_ix (k_var 2) k_int) k_str (nomark _))
      (s_one (s_set (i := 1) sc_change_bytes.nd rfl (.inl rfl) (k_op d_add o_add (k_op d_add o_add (k_var 1) (k_lst (live := false) (a_cons k_int a_nil))) (k_call (ok_optional T) (hr.mono (by first | decide | omega)) (by rfl) T.g_optional T.F_optional.kp T.b_optional pass0 (a_cons (k_ix (k_var 2) k_int) a_nil)))))
      (s_one (s_set (i := 1) sc_change_bytes.nd rfl (.inl rfl) (k_op d_add o_add (k_var 1) (k_lst (live := false) (a_cons k_int a_nil))))))))))
    (s_cons (s_for PassesOwn.never rfl (pi_any (k_fld (cs_cons ⟨T.cl_Change, T.n_Change_parts⟩ cs_nil) (k_var 0))) (g_name (i := 3) sc_change_bytes.nd rfl (.inl rfl))
      (s_one (s_if (t_cmp d_is o_is (k_var 3) k_non (nomark _))
      (s_one (s_set (i := 1) sc_change_bytes.nd rfl (.inl rfl) (k_op d_add o_add (k_var 1) (k_lst (live := false) (a_cons k_int a_nil)))))
      (s_cons (s_set (i := 1) sc_change_bytes.nd rfl (.inl rfl) (k_op d_add o_add (k_op d_add o_add (k_var 1) (k_lst (live := false) (a_cons k_int a_nil))) (k_call (ok_number T) (hr.mono (by first | decide | omega)) (by rfl) T.g_number T.F_number.kp T.b_number pass0 (a_cons (k_callB d_len c_len (by rfl) T.z_len bt_len (a_cons (k_var 3) a_nil)) a_nil))))
    (s_one (s_for PassesOwn.never rfl (pi_any (k_var 3)) (g_name (i := 2) sc_change_bytes.nd rfl (.inl rfl))
      (s_one (s_set (i := 1) sc_change_bytes.nd rfl (.inl rfl) (k_op d_add o_add (k_var 1) (k_call (ok_act_bytes T) (hr.mono (by first | decide | omega)) (by rfl) T.g_act_bytes T.F_act_bytes.kp T.b_act_bytes pass0 (a_cons (k_var 2) a_nil)))))))))))
    (s_one (s_ret (k_var 1)))))))
theorem ok_change (T : Txt K mg) : FnOk P w K mg base CX0 5 T.a_change T.d_change ["_law_number_here"] (spOf K T.cl m_change) :=
  fn_ok T.F_change sc_change fun cdv A outer s H E hr => (s_cons (s_setComp (i := 1) (own := [("_law_k", 5)]) (live := false) rfl sc_change.nd rfl rfl (sw_true rfl rfl rfl (by decide +kernel)) (pi_rng1 (by rfl) T.z_range (a_cons (k_op d_add o_add k_int (k_op d_mod op_mod (k_var 0) k_int)) a_nil)) (blkOk_by (own := [("_law_k", 5)]) (N := ["_law_number_here", "_law_heard", "_law_publics", "_law_parts", "_law_capability", "_law_k"]) (sc := defScope s_change) (by decide +kernel)) (fun _ _ _ _ _ => (g_name (i := 5) sc_change.nd rfl (.inl rfl))) (fun _ _ _ _ _ => ts_nil) (fun _ _ _ _ _ => (k_op d_mod op_mod (k_op d_div op_fdivW (k_var 0) (k_op d_add o_add (k_var 5) k_int)) k_int)))
    (s_cons (s_set (i := 2) sc_change.nd rfl (.inl rfl) (k_lst (live := false) (a_cons (k_tup (a_cons k_str (a_cons (k_op d_mod op_mod (k_var 0) k_int) (a_cons (k_call (ok_rights T) (hr.mono (by first | decide | omega)) (by rfl) T.g_rights T.F_rights.kp T.b_rights pass0 (a_cons (k_var 0) a_nil)) a_nil)))) (a_cons (k_tup (a_cons k_str (a_cons k_non a_nil))) (a_cons (k_tup (a_cons k_str (a_cons (k_call (ok_spot T) (hr.mono (by first | decide | omega)) (by rfl) T.g_spot T.F_spot.kp T.b_spot pass0 (a_cons (k_var 0) a_nil)) a_nil))) (a_cons (k_tup (a_cons k_str a_nil)) a_nil))))))
    (s_cons (s_set (i := 3) sc_change.nd rfl (.inl rfl) (k_lst (live := false) (a_cons k_non (a_cons (k_tup a_nil) (a_cons (k_tup (a_cons (k_call (ok_act T) (hr.mono (by first | decide | omega)) (by rfl) T.g_act T.F_act.kp T.b_act pass0 (a_cons (k_var 0) (a_cons (k_var 0) a_nil))) a_nil)) (a_cons (k_tup (a_cons (k_call (ok_act T) (hr.mono (by first | decide | omega)) (by rfl) T.g_act T.F_act.kp T.b_act pass0 (a_cons (k_op d_add o_add (k_var 0) k_int) (a_cons (k_op d_div op_fdivW (k_var 0) k_int) a_nil))) (a_cons (k_call (ok_act T) (hr.mono (by first | decide | omega)) (by rfl) T.g_act T.F_act.kp T.b_act pass0 (a_cons (k_op d_add o_add (k_var 0) k_int) (a_cons (k_var 0) a_nil))) a_nil))) a_nil))))))
    (s_cons (s_set (i := 4) sc_change.nd rfl (.inl rfl) k_non)
    (s_cons (s_if (t_cmp d_eq (o_eq hr.units) (k_op d_mod op_mod (k_var 0) k_int) k_int (nomark _))
      (s_one (s_set (i := 4) sc_change.nd rfl (.inl rfl) (k_call (ok_spot T) (hr.mono (by first | decide | omega)) (by rfl) T.g_spot T.F_spot.kp T.b_spot pass0 (a_cons (k_op d_div op_fdivW (k_var 0) k_int) a_nil))))
      s_nil)
    (s_one (s_ret (k_make (live := false) (c := 0) T.M_Change (ok_Change_init T) (hr.mono (by first | decide | omega)) (by rfl) T.g_Change T.b_Change_init pass0 (a_cons (k_op d_mod op_mod (k_var 0) (k_callB d_len c_len (by rfl) T.z_len bt_len (a_cons (k_var 1) a_nil))) (a_cons (k_op d_add o_add k_int (k_op d_mod op_mod (k_var 0) k_int)) (a_cons (k_var 1) (a_cons (k_var 4) (a_cons (k_sl (live := false) (k_var 2) o_none (o_some (k_op d_mod op_mod (k_op d_div op_fdivW (k_var 0) k_int) k_int))) (a_cons (k_var 3) a_nil))))))))))))))
theorem ok_entry (T : Txt K mg) : FnOk P w K mg base CX0 4 T.a_entry T.d_entry ["_law_number_here"] (spOf K T.cl m_entry) :=
  fn_ok T.F_entry sc_entry fun cdv A outer s H E hr => (s_cons (s_set (i := 1) sc_entry.nd rfl (.inl rfl) k_non)
    (s_cons (s_if (t_cmp d_eq (o_eq hr.units) (k_op d_mod op_mod (k_var 0) k_int) k_int (nomark _))
      (s_one (s_set (i := 1) sc_entry.nd rfl (.inl rfl) (k_call (ok_spot T) (hr.mono (by first | decide | omega)) (by rfl) T.g_spot T.F_spot.kp T.b_spot pass0 (a_cons (k_op d_add o_add (k_var 0) k_int) a_nil))))
      s_nil)
    (s_cons (s_set (i := 2) sc_entry.nd rfl (.inl rfl) (k_tup (a_cons (k_call (ok_spot T) (hr.mono (by first | decide | omega)) (by rfl) T.g_spot T.F_spot.kp T.b_spot pass0 (a_cons (k_var 0) a_nil)) (a_cons (k_var 1) (a_cons (k_op d_mod op_mod (k_var 0) k_int) (a_cons (k_call (ok_rights T) (hr.mono (by first | decide | omega)) (by rfl) T.g_rights T.F_rights.kp T.b_rights pass0 (a_cons (k_op d_div op_fdivW (k_var 0) k_int) a_nil)) a_nil))))))
    (s_cons (s_set (i := 3) sc_entry.nd rfl (.inl rfl) (k_op d_add o_add (k_op d_add o_add (k_op d_add o_add (k_call (ok_numbers T) (hr.mono (by first | decide | omega)) (by rfl) T.g_numbers T.F_numbers.kp T.b_numbers pass0 (a_cons (k_ix (k_var 2) k_int) a_nil)) (k_call (ok_optional T) (hr.mono (by first | decide | omega)) (by rfl) T.g_optional T.F_optional.kp T.b_optional pass0 (a_cons (k_var 1) a_nil))) (k_lst (live := false) (a_cons (k_op d_mod op_mod (k_var 0) k_int) a_nil))) (k_call (ok_rights_bytes T) (hr.mono (by first | decide | omega)) (by rfl) T.g_rights_bytes T.F_rights_bytes.kp T.b_rights_bytes pass0 (a_cons (k_ix (k_var 2) k_int) a_nil))))
    (s_one (s_ret (k_tup (a_cons (k_var 2) (a_cons (k_var 3) a_nil)))))))))
theorem ok_kept (T : Txt K mg) : FnOk P w K mg base CX0 6 T.a_kept T.d_kept ["_law_number_here"] (spOf K T.cl m_kept) :=
  fn_ok T.F_kept sc_kept fun cdv A outer s H E hr => (s_cons (s_set (i := 1) sc_kept.nd rfl (.inl rfl) (k_call (ok_spot T) (hr.mono (by first | decide | omega)) (by rfl) T.g_spot T.F_spot.kp T.b_spot pass0 (a_cons (k_var 0) a_nil)))
    (s_cons (s_set (i := 2) sc_kept.nd rfl (.inl rfl) (k_call (ok_spot T) (hr.mono (by first | decide | omega)) (by rfl) T.g_spot T.F_spot.kp T.b_spot pass0 (a_cons (k_op d_add o_add (k_var 0) k_int) a_nil)))
    (s_cons (s_set (i := 3) sc_kept.nd rfl (.inl rfl) (k_call (ok_act T) (hr.mono (by first | decide | omega)) (by rfl) T.g_act T.F_act.kp T.b_act pass0 (a_cons (k_var 0) (a_cons (k_op d_add o_add (k_var 0) k_int) a_nil))))
    (s_cons (s_set (i := 4) sc_kept.nd rfl (.inl rfl) (k_sl (live := false) (k_lst (live := false) (a_cons (k_tup (a_cons (k_tup (a_cons k_int (a_cons k_int (a_cons k_int (a_cons k_int a_nil))))) (a_cons k_str a_nil))) (a_cons (k_tup (a_cons (k_tup (a_cons k_int (a_cons k_int (a_cons k_int (a_cons (k_op d_mod op_mod (k_var 0) k_int) a_nil))))) (a_cons k_str a_nil))) a_nil))) o_none (o_some (k_op d_mod op_mod (k_var 0) k_int))))
    (s_cons (s_set (i := 5) sc_kept.nd rfl (.inl rfl) (k_make (live := false) (c := 1) T.M_Kept (ok_Kept_init T) (hr.mono (by first | decide | omega)) (by rfl) T.g_Kept T.b_Kept_init pass0 (a_cons (k_lst (live := false) (a_cons (k_tup (a_cons (k_var 1) (a_cons (k_var 3) a_nil))) a_nil)) (a_cons (k_lst (live := false) (a_cons (k_tup (a_cons (k_tup (a_cons (k_var 1) (a_cons (k_var 2) a_nil))) (a_cons (k_un d_neg un_neg (k_var 0)) a_nil))) a_nil)) (a_cons (k_lst (live := false) (a_cons (k_tup (a_cons (k_tup (a_cons (k_var 2) (a_cons (k_var 1) a_nil))) (a_cons (k_var 4) a_nil))) a_nil)) a_nil)))))
    (s_cons (s_set (i := 6) sc_kept.nd rfl (.inl rfl) (k_op d_add o_add (k_op d_add o_add (k_lst (live := false) (a_cons k_int a_nil)) (k_call (ok_numbers T) (hr.mono (by first | decide | omega)) (by rfl) T.g_numbers T.F_numbers.kp T.b_numbers pass0 (a_cons (k_var 1) a_nil))) (k_call (ok_act_bytes T) (hr.mono (by first | decide | omega)) (by rfl) T.g_act_bytes T.F_act_bytes.kp T.b_act_bytes pass0 (a_cons (k_var 3) a_nil))))
    (s_cons (s_set (i := 6) sc_kept.nd rfl (.inl rfl) (k_op d_add o_add (k_op d_add o_add (k_op d_add o_add (k_op d_add o_add (k_var 6) (k_lst (live := false) (a_cons k_int a_nil))) (k_call (ok_numbers T) (hr.mono (by first | decide | omega)) (by rfl) T.g_numbers T.F_numbers.kp T.b_numbers pass0 (a_cons (k_var 1) a_nil))) (k_call (ok_numbers T) (hr.mono (by first | decide | omega)) (by rfl) T.g_numbers T.F_numbers.kp T.b_numbers pass0 (a_cons (k_var 2) a_nil))) (k_call (ok_signed T) (hr.mono (by first | decide | omega)) (by rfl) T.g_signed T.F_signed.kp T.b_signed pass0 (a_cons (k_un d_neg un_neg (k_var 0)) a_nil))))
    (s_cons (s_set (i := 6) sc_kept.nd rfl (.inl rfl) (k_op d_add o_add (k_op d_add o_add (k_op d_add o_add (k_op d_add o_add (k_var 6) (k_lst (live := false) (a_cons k_int a_nil))) (k_call (ok_numbers T) (hr.mono (by first | decide | omega)) (by rfl) T.g_numbers T.F_numbers.kp T.b_numbers pass0 (a_cons (k_var 2) a_nil))) (k_call (ok_numbers T) (hr.mono (by first | decide | omega)) (by rfl) T.g_numbers T.F_numbers.kp T.b_numbers pass0 (a_cons (k_var 1) a_nil))) (k_lst (live := false) (a_cons (k_callB d_len c_len (by rfl) T.z_len bt_len (a_cons (k_var 4) a_nil)) a_nil))))
    (s_cons (s_for PassesOwn.never rfl (pi_any (k_var 4)) (g_tup rfl (gs_cons (g_name (i := 7) sc_kept.nd rfl (.inl rfl)) (gs_cons (g_name (i := 8) sc_kept.nd rfl (.inl rfl)) gs_nil)))
      (s_one (s_set (i := 6) sc_kept.nd rfl (.inl rfl) (k_op d_add o_add (k_op d_add o_add (k_var 6) (k_call (ok_numbers T) (hr.mono (by first | decide | omega)) (by rfl) T.g_numbers T.F_numbers.kp T.b_numbers pass0 (a_cons (k_var 7) a_nil))) (k_call (ok_number T) (hr.mono (by first | decide | omega)) (by rfl) T.g_number T.F_number.kp T.b_number pass0 (a_cons (k_callB d_ord c_ord (by rfl) T.z_ord bt_ord (a_cons (k_var 8) a_nil)) a_nil))))))
    (s_one (s_ret (k_tup (a_cons (k_var 5) (a_cons (k_var 6) a_nil))))))))))))))
theorem ok_order (T : Txt K mg) : FnOk P w K mg base CX0 7 T.a_order T.d_order ["_law_number_here"] (spOf K T.cl m_order) :=
  fn_ok T.F_order sc_order fun cdv A outer s H E hr => (s_cons (s_set (i := 1) sc_order.nd rfl (.inl rfl) (k_make (live := true) (c := 2) T.M_Store (ok_Store_init T) (hr.mono (by first | decide | omega)) (by rfl) T.g_Store T.b_Store_init pass0 (a_cons k_int a_nil)))
    (s_cons (s_drop (k_meth (c := 2) (k_var 1) T.cl_Store T.m_Store_add (ok_Store_add T) (hr.mono (by first | decide | omega)) T.b_Store_add pass0 (a_cons (k_make (live := false) (c := 0) T.M_Change (ok_Change_init T) (hr.mono (by first | decide | omega)) (by rfl) T.g_Change T.b_Change_init pass0 (a_cons k_int (a_cons k_int (a_cons (k_tup (a_cons k_int (a_cons k_int a_nil))) (a_cons k_non (a_cons (k_tup a_nil) (a_cons (k_tup (a_cons k_non (a_cons (k_tup a_nil) (a_cons (k_tup a_nil) (a_cons (k_tup a_nil) a_nil))))) a_nil))))))) a_nil)))
    (s_cons (s_for PassesOwn.never rfl (pi_rng1 (by rfl) T.z_range (a_cons (k_op d_add o_add k_int (k_op d_mod op_mod (k_var 0) k_int)) a_nil)) (g_name (i := 2) sc_order.nd rfl (.inl rfl))
      (s_one (s_drop (k_meth (c := 2) (k_var 1) T.cl_Store T.m_Store_add (ok_Store_add T) (hr.mono (by first | decide | omega)) T.b_Store_add pass0 (a_cons (k_make (live := false) (c := 0) T.M_Change (ok_Change_init T) (hr.mono (by first | decide | omega)) (by rfl) T.g_Change T.b_Change_init pass0 (a_cons k_int (a_cons (k_op d_add o_add (k_var 2) k_int) (a_cons (k_tup (a_cons (k_var 2) (a_cons (k_op d_mod op_mod (k_op d_div op_fdivW (k_var 0) k_int) k_int) a_nil))) (a_cons k_non (a_cons (k_tup a_nil) (a_cons (k_tup (a_cons k_non (a_cons (k_tup a_nil) (a_cons (k_tup a_nil) (a_cons (k_tup a_nil) a_nil))))) a_nil))))))) a_nil)))))
    (s_cons (s_set (i := 3) sc_order.nd rfl (.inl rfl) (k_lst (live := false) a_nil))
    (s_cons (s_for PassesOwn.never rfl (pi_rng1 (by rfl) T.z_range (a_cons (k_op d_add o_add k_int (k_op d_mod op_mod (k_var 0) k_int)) a_nil)) (g_name (i := 2) sc_order.nd rfl (.inl rfl))
      (s_one (s_set (i := 3) sc_order.nd rfl (.inl rfl) (k_op d_add o_add (k_var 3) (k_lst (live := false) (a_cons k_int (a_cons (k_op d_add o_add (k_var 2) k_int) a_nil)))))))
    (s_cons (s_set (i := 3) sc_order.nd rfl (.inl rfl) (k_op d_add o_add (k_var 3) (k_lst (live := false) (a_cons k_int (a_cons k_int a_nil)))))
    (s_cons (s_set (i := 4) sc_order.nd rfl (.inl rfl) (k_op d_add o_add (k_op d_add o_add (k_lst (live := false) (a_cons k_int (a_cons k_int (a_cons k_int (a_cons k_int (a_cons k_int (a_cons k_int (a_cons (k_op d_add o_add k_int (k_op d_mod op_mod (k_var 0) k_int)) (a_cons k_int (a_cons k_int (a_cons k_int (a_cons k_int (a_cons k_int (a_cons (k_op d_div op_fdivW (k_callB d_len c_len (by rfl) T.z_len bt_len (a_cons (k_var 3) a_nil)) k_int) a_nil)))))))))))))) (k_var 3)) (k_lst (live := false) (a_cons k_int (a_cons k_int (a_cons k_int a_nil))))))
    (s_one (s_ret (k_cmp d_eq (o_eq hr.units) (k_call (ok_asking T) (hr.mono (by first | decide | omega)) (by rfl) T.g_asking T.F_asking.kp T.b_asking pass0 (a_cons (k_var 1) (a_cons k_int a_nil))) (k_var 4) (nomark _)))))))))))
theorem ok_store (T : Txt K mg) : FnOk P w K mg base CX0 9 T.a_store T.d_store ["_law_number_here"] (spOf K T.cl m_store) :=
  fn_ok T.F_store sc_store fun cdv A outer s H E hr => (s_cons (s_set (i := 1) sc_store.nd rfl (.inl rfl) (k_make (live := true) (c := 2) T.M_Store (ok_Store_init T) (hr.mono (by first | decide | omega)) (by rfl) T.g_Store T.b_Store_init pass0 (a_cons k_int a_nil)))
    (s_cons (s_set (i := 3) sc_store.nd rfl (.inl rfl) (k_callT d_tuple c_tuple (by rfl) T.z_tuple bt_tuple (a_cons (k_comp (own := [("_law_k", 2)]) (live := false) rfl sc_store.nd (pi_rng1 (by rfl) T.z_range (a_cons (k_op d_mod op_mod (k_var 0) k_int) a_nil)) (blkOk_by (own := [("_law_k", 2)]) (N := ["_law_number_here", "_law_store_here", "_law_k", "_law_row", "_law_parts", "_law_empty", "_law_data", "_law_missing", "_law_count", "_law_asked"]) (sc := defScope s_store) (by decide +kernel)) (fun _ _ _ _ _ => (g_name (i := 2) sc_store.nd rfl (.inl rfl))) (fun _ _ _ _ _ => ts_nil) (fun _ _ _ _ _ => (k_tup (a_cons k_str (a_cons (k_tup (a_cons k_int (a_cons k_int (a_cons (k_var 2) a_nil)))) a_nil))))) a_nil)))
    (s_cons (s_set (i := 4) sc_store.nd rfl (.inl rfl) (k_lst (live := false) (a_cons (k_tup (a_cons (k_var 3) (a_cons (k_tup a_nil) (a_cons (k_tup a_nil) (a_cons (k_tup a_nil) a_nil))))) (a_cons (k_tup (a_cons k_non (a_cons (k_var 3) (a_cons k_non (a_cons (k_tup a_nil) a_nil))))) a_nil))))
    (s_cons (s_for PassesOwn.never rfl (pi_rng1 (by rfl) T.z_range (a_cons (k_op d_mod op_mod (k_op d_div op_fdivW (k_var 0) k_int) k_int) a_nil)) (g_name (i := 2) sc_store.nd rfl (.inl rfl))
      (s_one (s_drop (k_meth (c := 2) (k_var 1) T.cl_Store T.m_Store_add (ok_Store_add T) (hr.mono (by first | decide | omega)) T.b_Store_add pass0 (a_cons (k_make (live := false) (c := 0) T.M_Change (ok_Change_init T) (hr.mono (by first | decide | omega)) (by rfl) T.g_Change T.b_Change_init pass0 (a_cons k_int (a_cons (k_op d_add o_add (k_var 2) k_int) (a_cons (k_tup (a_cons (k_var 2) (a_cons k_int a_nil))) (a_cons k_non (a_cons (k_tup a_nil) (a_cons (k_ix (k_var 4) (k_op d_mod op_mod (k_var 2) k_int)) a_nil))))))) a_nil)))))
    (s_cons (s_set (i := 5) sc_store.nd rfl (.inl rfl) (k_lst (live := false) (a_cons k_int (a_cons k_int (a_cons k_int (a_cons k_int a_nil))))))
    (s_cons (s_set (i := 6) sc_store.nd rfl (.inl rfl) (k_op d_add o_add (k_op d_add o_add (k_op d_add o_add (k_op d_add o_add (k_op d_add o_add (k_lst (live := false) (a_cons k_int (a_cons k_int (a_cons k_int (a_cons k_int a_nil))))) (k_var 5)) (k_var 5)) (k_var 5)) (k_var 5)) (k_lst (live := false) (a_cons (k_op d_mod op_mod (k_op d_div op_fdivW (k_var 0) k_int) k_int) a_nil))))
    (s_cons (s_set (i := 7) sc_store.nd rfl (.inl rfl) (k_lst (live := false) a_nil))
    (s_cons (s_for PassesOwn.never rfl (pi_rng1 (by rfl) T.z_range (a_cons (k_op d_mod op_mod (k_op d_div op_fdivW (k_var 0) k_int) k_int) a_nil)) (g_name (i := 2) sc_store.nd rfl (.inl rfl))
      (s_cons (s_set (i := 6) sc_store.nd rfl (.inl rfl) (k_op d_add o_add (k_var 6) (k_call (ok_change_bytes T) (hr.mono (by first | decide | omega)) (by rfl) T.g_change_bytes T.F_change_bytes.kp T.b_change_bytes pass0 (a_cons (k_meth (c := 2) (k_var 1) T.cl_Store T.m_Store_find (ok_Store_find T) (hr.mono (by first | decide | omega)) T.b_Store_find pass0 (a_cons (k_tup (a_cons k_int (a_cons (k_op d_add o_add (k_var 2) k_int) a_nil))) a_nil)) a_nil))))
    (s_one (s_if (t_cmp d_eq (o_eq hr.units) (k_var 2) k_int (nomark _))
      (s_one (s_set (i := 7) sc_store.nd rfl (.inl rfl) (k_lst (live := false) (a_cons k_int (a_cons k_int a_nil)))))
      s_nil))))
    (s_cons (s_set (i := 6) sc_store.nd rfl (.inl rfl) (k_op d_add o_add (k_var 6) (k_lst (live := false) (a_cons k_int a_nil))))
    (s_cons (s_set (i := 8) sc_store.nd rfl (.inl rfl) (k_op d_div op_fdivW (k_callB d_len c_len (by rfl) T.z_len bt_len (a_cons (k_var 7) a_nil)) k_int))
    (s_cons (s_set (i := 9) sc_store.nd rfl (.inl rfl) (k_lst (live := false) (a_cons k_int (a_cons (k_op d_mod op_mod (k_var 0) k_int) (a_cons k_int (a_cons k_int (a_cons k_int (a_cons k_int (a_cons (k_op d_mod op_mod (k_op d_div op_fdivW (k_var 0) k_int) k_int) (a_cons k_int (a_cons k_int (a_cons k_int (a_cons k_int (a_cons k_int a_nil))))))))))))))
    (s_cons (s_set (i := 9) sc_store.nd rfl (.inl rfl) (k_op d_add o_add (k_op d_add o_add (k_op d_add o_add (k_op d_add o_add (k_op d_add o_add (k_op d_add o_add (k_var 9) (k_lst (live := false) (a_cons (k_var 8) a_nil))) (k_var 7)) (k_lst (live := false) (a_cons k_int a_nil))) (k_lst (live := false) (a_cons (k_var 8) a_nil))) (k_var 7)) (k_lst (live := false) (a_cons k_int a_nil))))
    (s_one (s_ret (k_and (k_cmp d_eq (o_eq hr.units) (k_call (ok_write_store T) (hr.mono (by first | decide | omega)) (by rfl) T.g_write_store T.F_write_store.kp T.b_write_store pass0 (a_cons (k_var 1) a_nil)) (k_var 6) (nomark _)) (k_and (k_cmp d_eq (o_eq hr.units) (k_call (ok_asking T) (hr.mono (by first | decide | omega)) (by rfl) T.g_asking T.F_asking.kp T.b_asking pass0 (a_cons (k_var 1) (a_cons (k_op d_mod op_mod (k_var 0) k_int) a_nil))) (k_var 9) (nomark _)) (k_one (k_call (ok_order T) (hr.mono (by first | decide | omega)) (by rfl) T.g_order T.F_order.kp T.b_order pass0 (a_cons (k_var 0) a_nil)))))))))))))))))))
theorem ok_law (T : Txt K mg) : FnOk P w K mg base CX0 10 T.a_law T.d_law ["_law_script"] (spOf K T.cl m_law) :=
  fn_ok T.F_law sc_law fun cdv A outer s H E hr => (s_cons (s_for PassesOwn.never rfl (pi_rng1 (by rfl) T.z_range (a_cons (k_op d_add o_add k_int (k_callB d_min (c_min rfl) (by rfl) T.z_min bt_min (a_cons k_int (a_cons (k_callB d_len c_len (by rfl) T.z_len bt_len (a_cons (k_var 0) a_nil)) a_nil)))) a_nil)) (g_name (i := 1) sc_law.nd rfl (.inl rfl))
      (s_cons (s_set (i := 2) sc_law.nd rfl (.inl rfl) (k_op d_mod op_mod (k_call (ok_draw T) (hr.mono (by first | decide | omega)) (by rfl) T.g_draw T.F_draw.kp T.b_draw pass0 (a_cons (k_var 0) (a_cons (k_var 1) a_nil))) k_int))
    (s_cons (s_set (i := 3) sc_law.nd rfl (.inl rfl) (k_call (ok_text T) (hr.mono (by first | decide | omega)) (by rfl) T.g_text T.F_text.kp T.b_text pass0 (a_cons (k_var 2) a_nil)))
    (s_cons (s_if (t_cmp d_eq (o_eq hr.units) (k_op d_mod op_mod (k_var 2) k_int) k_int (nomark _))
      (s_one (s_set (i := 3) sc_law.nd rfl (.inl rfl) (k_op d_mulS o_mulS (k_op d_add o_add (k_var 3) k_str) (k_op d_mod op_mod (k_var 2) k_int))))
      s_nil)
    (s_cons (s_set (i := 3) sc_law.nd rfl (.inl rfl) (k_sl (live := false) (k_var 3) o_none (o_some k_int)))
    (s_cons (s_set (i := 4) sc_law.nd rfl (.inl rfl) (k_op d_pow op_pow (k_var 2) k_int))
    (s_cons (s_if (PW.pt (w_or (t_cmp d_eq (o_ne hr.units) (k_call (ok_write_number T) (hr.mono (by first | decide | omega)) (by rfl) T.g_write_number T.F_write_number.kp T.b_write_number pass0 (a_cons (k_var 4) a_nil)) (k_call (ok_number T) (hr.mono (by first | decide | omega)) (by rfl) T.g_number T.F_number.kp T.b_number pass0 (a_cons (k_var 4) a_nil)) (nomark _)) (w_or1 (t_cmp d_eq (o_ne hr.units) (k_call (ok_write_integer T) (hr.mono (by first | decide | omega)) (by rfl) T.g_write_integer T.F_write_integer.kp T.b_write_integer pass0 (a_cons (k_un d_neg un_neg (k_var 2)) a_nil)) (k_call (ok_signed T) (hr.mono (by first | decide | omega)) (by rfl) T.g_signed T.F_signed.kp T.b_signed pass0 (a_cons (k_un d_neg un_neg (k_var 2)) a_nil)) (nomark _)))))
      (s_one (s_ret k_bl))
      s_nil)
    (s_cons (s_if (PW.pt (w_or (t_cmp d_eq (o_ne hr.units) (k_call (ok_write_string T) (hr.mono (by first | decide | omega)) (by rfl) T.g_write_string T.F_write_string.kp T.b_write_string pass0 (a_cons (k_var 3) a_nil)) (k_call (ok_string T) (hr.mono (by first | decide | omega)) (by rfl) T.g_string T.F_string.kp T.b_string pass0 (a_cons (k_var 3) a_nil)) (nomark _)) (w_or1 (t_cmp d_eq (o_ne hr.units) (k_call (ok_write_value T) (hr.mono (by first | decide | omega)) (by rfl) T.g_write_value T.F_write_value.kp T.b_write_value pass0 (a_cons (k_call (ok_value T) (hr.mono (by first | decide | omega)) (by rfl) T.g_value T.F_value.kp T.b_value pass0 (a_cons (k_var 2) a_nil)) a_nil)) (k_call (ok_bytes_of T) (hr.mono (by first | decide | omega)) (by rfl) T.g_bytes_of T.F_bytes_of.kp T.b_bytes_of pass0 (a_cons (k_call (ok_value T) (hr.mono (by first | decide | omega)) (by rfl) T.g_value T.F_value.kp T.b_value pass0 (a_cons (k_var 2) a_nil)) a_nil)) (nomark _)))))
      (s_one (s_ret k_bl))
      s_nil)
    (s_cons (s_for PassesOwn.never rfl (pi_rng1 (by rfl) T.z_range (a_cons k_int a_nil)) (g_name (i := 5) sc_law.nd rfl (.inl rfl))
      (s_cons (s_set (i := 6) sc_law.nd rfl (.inl rfl) (k_call (ok_act T) (hr.mono (by first | decide | omega)) (by rfl) T.g_act T.F_act.kp T.b_act pass0 (a_cons (k_var 5) (a_cons (k_var 2) a_nil))))
    (s_one (s_if (t_cmp d_eq (o_ne hr.units) (k_call (ok_write_act T) (hr.mono (by first | decide | omega)) (by rfl) T.g_write_act T.F_write_act.kp T.b_write_act pass0 (a_cons (k_var 6) a_nil)) (k_call (ok_act_bytes T) (hr.mono (by first | decide | omega)) (by rfl) T.g_act_bytes T.F_act_bytes.kp T.b_act_bytes pass0 (a_cons (k_var 6) a_nil)) (nomark _))
      (s_one (s_ret k_bl))
      s_nil))))
    (s_cons (s_set (i := 7) sc_law.nd rfl (.inl rfl) (k_call (ok_change T) (hr.mono (by first | decide | omega)) (by rfl) T.g_change T.F_change.kp T.b_change pass0 (a_cons (k_var 2) a_nil)))
    (s_cons (s_asg (k_call (ok_entry T) (hr.mono (by first | decide | omega)) (by rfl) T.g_entry T.F_entry.kp T.b_entry pass0 (a_cons (k_var 2) a_nil)) (g_tup rfl (gs_cons (g_name (i := 8) sc_law.nd rfl (.inl rfl)) (gs_cons (g_name (i := 9) sc_law.nd rfl (.inl rfl)) gs_nil))))
    (s_cons (s_asg (k_call (ok_kept T) (hr.mono (by first | decide | omega)) (by rfl) T.g_kept T.F_kept.kp T.b_kept pass0 (a_cons (k_var 2) a_nil)) (g_tup rfl (gs_cons (g_name (i := 10) sc_law.nd rfl (.inl rfl)) (gs_cons (g_name (i := 11) sc_law.nd rfl (.inl rfl)) gs_nil))))
    (s_cons (s_if (PW.pt (w_or (t_cmp d_eq (o_ne hr.units) (k_call (ok_write_change T) (hr.mono (by first | decide | omega)) (by rfl) T.g_write_change T.F_write_change.kp T.b_write_change pass0 (a_cons (k_var 7) a_nil)) (k_call (ok_change_bytes T) (hr.mono (by first | decide | omega)) (by rfl) T.g_change_bytes T.F_change_bytes.kp T.b_change_bytes pass0 (a_cons (k_var 7) a_nil)) (nomark _)) (w_or1 (t_cmp d_eq (o_ne hr.units) (k_call (ok_write_capability T) (hr.mono (by first | decide | omega)) (by rfl) T.g_write_capability T.F_write_capability.kp T.b_write_capability pass0 (a_cons (k_var 8) a_nil)) (k_var 9) (nomark _)))))
      (s_one (s_ret k_bl))
      s_nil)
    (s_one (s_if (PW.pt (w_or (t_cmp d_eq (o_ne hr.units) (k_call (ok_write_kept T) (hr.mono (by first | decide | omega)) (by rfl) T.g_write_kept T.F_write_kept.kp T.b_write_kept pass0 (a_cons (k_var 10) a_nil)) (k_var 11) (nomark _)) (w_or1 (t_not (t_val (k_call (ok_store T) (hr.mono (by first | decide | omega)) (by rfl) T.g_store T.F_store.kp T.b_store pass0 (a_cons (k_var 2) a_nil)))))))
      (s_one (s_ret k_bl))
      s_nil)))))))))))))))
    (s_one (s_ret k_bl)))
end
theorem all_mk {l : PySem.W.OpenLaw} {w : World} {K : PySem.W.Frag} {h : Heap} {mg : Str → Option Value} {fa C_Change C_Kept C_Store f_write_number f_write_integer f_write_string f_write_numbers f_write_list f_write_optional f_write_value f_write_holds f_write_cell_act f_write_act f_write_rights f_write_public f_write_change f_write_characters f_write_kept f_write_optional_kept f_write_capability f_write_store f_as_tuple f_Change_init f_Change_name f_Kept_init f_Store_init f_Store_count f_Store_counts f_Store_find f_Store_add f_unknown_names f_asking f_draw f_spot f_text f_value f_act f_rights f_number f_numbers f_signed f_string f_optional f_bytes_of f_holds f_act_bytes f_rights_bytes f_change_bytes f_change f_entry f_kept f_order f_store f_law : Addr} (X : K.In h) (G : h.Ns mainGlobals mg) (hfa : mg "law" = some (.ref fa))
    {od_write_number an_write_number : Option Addr} {sl_write_number : Array (Option Value)} {oc_write_number kV_write_number dc_write_number pm_write_number cd_write_number ct_write_number : Value}
    {od_write_integer an_write_integer : Option Addr} {sl_write_integer : Array (Option Value)} {oc_write_integer kV_write_integer dc_write_integer pm_write_integer cd_write_integer ct_write_integer : Value}
    {od_write_string an_write_string : Option Addr} {sl_write_string : Array (Option Value)} {oc_write_string kV_write_string dc_write_string pm_write_string cd_write_string ct_write_string : Value}
    {od_write_numbers an_write_numbers : Option Addr} {sl_write_numbers : Array (Option Value)} {oc_write_numbers kV_write_numbers dc_write_numbers pm_write_numbers cd_write_numbers ct_write_numbers : Value}
    {od_write_list an_write_list : Option Addr} {sl_write_list : Array (Option Value)} {oc_write_list kV_write_list dc_write_list pm_write_list cd_write_list ct_write_list : Value}
    {od_write_optional an_write_optional : Option Addr} {sl_write_optional : Array (Option Value)} {oc_write_optional kV_write_optional dc_write_optional pm_write_optional cd_write_optional ct_write_optional : Value}
    {od_write_value an_write_value : Option Addr} {sl_write_value : Array (Option Value)} {oc_write_value kV_write_value dc_write_value pm_write_value cd_write_value ct_write_value : Value}
    {od_write_holds an_write_holds : Option Addr} {sl_write_holds : Array (Option Value)} {oc_write_holds kV_write_holds dc_write_holds pm_write_holds cd_write_holds ct_write_holds : Value}
    {od_write_cell_act an_write_cell_act : Option Addr} {sl_write_cell_act : Array (Option Value)} {oc_write_cell_act kV_write_cell_act dc_write_cell_act pm_write_cell_act cd_write_cell_act ct_write_cell_act : Value}
    {od_write_act an_write_act : Option Addr} {sl_write_act : Array (Option Value)} {oc_write_act kV_write_act dc_write_act pm_write_act cd_write_act ct_write_act : Value}
    {od_write_rights an_write_rights : Option Addr} {sl_write_rights : Array (Option Value)} {oc_write_rights kV_write_rights dc_write_rights pm_write_rights cd_write_rights ct_write_rights : Value}
    {od_write_public an_write_public : Option Addr} {sl_write_public : Array (Option Value)} {oc_write_public kV_write_public dc_write_public pm_write_public cd_write_public ct_write_public : Value}
    {od_write_change an_write_change : Option Addr} {sl_write_change : Array (Option Value)} {oc_write_change kV_write_change dc_write_change pm_write_change cd_write_change ct_write_change : Value}
    {od_write_characters an_write_characters : Option Addr} {sl_write_characters : Array (Option Value)} {oc_write_characters kV_write_characters dc_write_characters pm_write_characters cd_write_characters ct_write_characters : Value}
    {od_write_kept an_write_kept : Option Addr} {sl_write_kept : Array (Option Value)} {oc_write_kept kV_write_kept dc_write_kept pm_write_kept cd_write_kept ct_write_kept : Value}
    {od_write_optional_kept an_write_optional_kept : Option Addr} {sl_write_optional_kept : Array (Option Value)} {oc_write_optional_kept kV_write_optional_kept dc_write_optional_kept pm_write_optional_kept cd_write_optional_kept ct_write_optional_kept : Value}
    {od_write_capability an_write_capability : Option Addr} {sl_write_capability : Array (Option Value)} {oc_write_capability kV_write_capability dc_write_capability pm_write_capability cd_write_capability ct_write_capability : Value}
    {od_write_store an_write_store : Option Addr} {sl_write_store : Array (Option Value)} {oc_write_store kV_write_store dc_write_store pm_write_store cd_write_store ct_write_store : Value}
    {od_as_tuple an_as_tuple : Option Addr} {sl_as_tuple : Array (Option Value)} {oc_as_tuple kV_as_tuple dc_as_tuple pm_as_tuple cd_as_tuple ct_as_tuple : Value}
    {od_Change_init an_Change_init : Option Addr} {sl_Change_init : Array (Option Value)} {oc_Change_init kV_Change_init dc_Change_init pm_Change_init cd_Change_init ct_Change_init : Value}
    {od_Change_name an_Change_name : Option Addr} {sl_Change_name : Array (Option Value)} {oc_Change_name kV_Change_name dc_Change_name pm_Change_name cd_Change_name ct_Change_name : Value}
    {od_Kept_init an_Kept_init : Option Addr} {sl_Kept_init : Array (Option Value)} {oc_Kept_init kV_Kept_init dc_Kept_init pm_Kept_init cd_Kept_init ct_Kept_init : Value}
    {od_Store_init an_Store_init : Option Addr} {sl_Store_init : Array (Option Value)} {oc_Store_init kV_Store_init dc_Store_init pm_Store_init cd_Store_init ct_Store_init : Value}
    {od_Store_count an_Store_count : Option Addr} {sl_Store_count : Array (Option Value)} {oc_Store_count kV_Store_count dc_Store_count pm_Store_count cd_Store_count ct_Store_count : Value}
    {od_Store_counts an_Store_counts : Option Addr} {sl_Store_counts : Array (Option Value)} {oc_Store_counts kV_Store_counts dc_Store_counts pm_Store_counts cd_Store_counts ct_Store_counts : Value}
    {od_Store_find an_Store_find : Option Addr} {sl_Store_find : Array (Option Value)} {oc_Store_find kV_Store_find dc_Store_find pm_Store_find cd_Store_find ct_Store_find : Value}
    {od_Store_add an_Store_add : Option Addr} {sl_Store_add : Array (Option Value)} {oc_Store_add kV_Store_add dc_Store_add pm_Store_add cd_Store_add ct_Store_add : Value}
    {od_unknown_names an_unknown_names : Option Addr} {sl_unknown_names : Array (Option Value)} {oc_unknown_names kV_unknown_names dc_unknown_names pm_unknown_names cd_unknown_names ct_unknown_names : Value}
    {od_asking an_asking : Option Addr} {sl_asking : Array (Option Value)} {oc_asking kV_asking dc_asking pm_asking cd_asking ct_asking : Value}
    {od_draw an_draw : Option Addr} {sl_draw : Array (Option Value)} {oc_draw kV_draw dc_draw pm_draw cd_draw ct_draw : Value}
    {od_spot an_spot : Option Addr} {sl_spot : Array (Option Value)} {oc_spot kV_spot dc_spot pm_spot cd_spot ct_spot : Value}
    {od_text an_text : Option Addr} {sl_text : Array (Option Value)} {oc_text kV_text dc_text pm_text cd_text ct_text : Value}
    {od_value an_value : Option Addr} {sl_value : Array (Option Value)} {oc_value kV_value dc_value pm_value cd_value ct_value : Value}
    {od_act an_act : Option Addr} {sl_act : Array (Option Value)} {oc_act kV_act dc_act pm_act cd_act ct_act : Value}
    {od_rights an_rights : Option Addr} {sl_rights : Array (Option Value)} {oc_rights kV_rights dc_rights pm_rights cd_rights ct_rights : Value}
    {od_number an_number : Option Addr} {sl_number : Array (Option Value)} {oc_number kV_number dc_number pm_number cd_number ct_number : Value}
    {od_numbers an_numbers : Option Addr} {sl_numbers : Array (Option Value)} {oc_numbers kV_numbers dc_numbers pm_numbers cd_numbers ct_numbers : Value}
    {od_signed an_signed : Option Addr} {sl_signed : Array (Option Value)} {oc_signed kV_signed dc_signed pm_signed cd_signed ct_signed : Value}
    {od_string an_string : Option Addr} {sl_string : Array (Option Value)} {oc_string kV_string dc_string pm_string cd_string ct_string : Value}
    {od_optional an_optional : Option Addr} {sl_optional : Array (Option Value)} {oc_optional kV_optional dc_optional pm_optional cd_optional ct_optional : Value}
    {od_bytes_of an_bytes_of : Option Addr} {sl_bytes_of : Array (Option Value)} {oc_bytes_of kV_bytes_of dc_bytes_of pm_bytes_of cd_bytes_of ct_bytes_of : Value}
    {od_holds an_holds : Option Addr} {sl_holds : Array (Option Value)} {oc_holds kV_holds dc_holds pm_holds cd_holds ct_holds : Value}
    {od_act_bytes an_act_bytes : Option Addr} {sl_act_bytes : Array (Option Value)} {oc_act_bytes kV_act_bytes dc_act_bytes pm_act_bytes cd_act_bytes ct_act_bytes : Value}
    {od_rights_bytes an_rights_bytes : Option Addr} {sl_rights_bytes : Array (Option Value)} {oc_rights_bytes kV_rights_bytes dc_rights_bytes pm_rights_bytes cd_rights_bytes ct_rights_bytes : Value}
    {od_change_bytes an_change_bytes : Option Addr} {sl_change_bytes : Array (Option Value)} {oc_change_bytes kV_change_bytes dc_change_bytes pm_change_bytes cd_change_bytes ct_change_bytes : Value}
    {od_change an_change : Option Addr} {sl_change : Array (Option Value)} {oc_change kV_change dc_change pm_change cd_change ct_change : Value}
    {od_entry an_entry : Option Addr} {sl_entry : Array (Option Value)} {oc_entry kV_entry dc_entry pm_entry cd_entry ct_entry : Value}
    {od_kept an_kept : Option Addr} {sl_kept : Array (Option Value)} {oc_kept kV_kept dc_kept pm_kept cd_kept ct_kept : Value}
    {od_order an_order : Option Addr} {sl_order : Array (Option Value)} {oc_order kV_order dc_order pm_order cd_order ct_order : Value}
    {od_store an_store : Option Addr} {sl_store : Array (Option Value)} {oc_store kV_store dc_store pm_store cd_store ct_store : Value}
    {od_law an_law : Option Addr} {sl_law : Array (Option Value)} {oc_law kV_law dc_law pm_law cd_law ct_law : Value}
    (aC_Change : PySem.W.nsIn K mainGlobals "Change" = some (some (.ref C_Change)))
    (pg_Change : PySem.W.plainGet K C_Change Str.empty = true)
    (hd_Change : PySem.W.hasDictIn K C_Change = true)
    (po_Change : PySem.W.plainOver K C_Change = true)
    (sa_Change : PySem.W.findIn K (.ref C_Change) "__setattr__" = some (some (.builtin "object.__setattr__")))
    (mk_Change : PySem.W.makesIn K C_Change = true)
    (kc_Change : PySem.W.keepIn K (.ref C_Change) = true)
    (n_Change_author : PySem.W.findIn K (.ref C_Change) "author" = some none)
    (n_Change_capability : PySem.W.findIn K (.ref C_Change) "capability" = some none)
    (n_Change_heard : PySem.W.findIn K (.ref C_Change) "heard" = some none)
    (n_Change_number : PySem.W.findIn K (.ref C_Change) "number" = some none)
    (n_Change_parts : PySem.W.findIn K (.ref C_Change) "parts" = some none)
    (n_Change_publics : PySem.W.findIn K (.ref C_Change) "publics" = some none)
    (aC_Kept : PySem.W.nsIn K mainGlobals "Kept" = some (some (.ref C_Kept)))
    (pg_Kept : PySem.W.plainGet K C_Kept Str.empty = true)
    (hd_Kept : PySem.W.hasDictIn K C_Kept = true)
    (po_Kept : PySem.W.plainOver K C_Kept = true)
    (sa_Kept : PySem.W.findIn K (.ref C_Kept) "__setattr__" = some (some (.builtin "object.__setattr__")))
    (mk_Kept : PySem.W.makesIn K C_Kept = true)
    (kc_Kept : PySem.W.keepIn K (.ref C_Kept) = true)
    (n_Kept_acts : PySem.W.findIn K (.ref C_Kept) "acts" = some none)
    (n_Kept_sums : PySem.W.findIn K (.ref C_Kept) "sums" = some none)
    (n_Kept_texts : PySem.W.findIn K (.ref C_Kept) "texts" = some none)
    (aC_Store : PySem.W.nsIn K mainGlobals "Store" = some (some (.ref C_Store)))
    (pg_Store : PySem.W.plainGet K C_Store Str.empty = true)
    (hd_Store : PySem.W.hasDictIn K C_Store = true)
    (po_Store : PySem.W.plainOver K C_Store = true)
    (sa_Store : PySem.W.findIn K (.ref C_Store) "__setattr__" = some (some (.builtin "object.__setattr__")))
    (mk_Store : PySem.W.makesIn K C_Store = true)
    (kc_Store : PySem.W.keepIn K (.ref C_Store) = true)
    (n_Store_capabilities : PySem.W.findIn K (.ref C_Store) "capabilities" = some none)
    (n_Store_changes : PySem.W.findIn K (.ref C_Store) "changes" = some none)
    (n_Store_cut : PySem.W.findIn K (.ref C_Store) "cut" = some none)
    (n_Store_kept : PySem.W.findIn K (.ref C_Store) "kept" = some none)
    (n_Store_members : PySem.W.findIn K (.ref C_Store) "members" = some none)
    (a_write_number : PySem.W.nsIn K mainGlobals "write_number" = some (some (.ref f_write_number)))
    (l_write_number : K.lookup f_write_number = some ⟨oc_write_number, od_write_number, .func (PySem.W.fnOf "write_number" "write_number" (defArgs s_write_number) (defBody s_write_number) (defScope s_write_number) .none kV_write_number dc_write_number pm_write_number an_write_number cd_write_number ct_write_number), sl_write_number⟩)
    (c_write_number : PySem.W.codeIn K cd_write_number "write_number" = true)
    (k_write_number : PySem.W.keepIn K (.ref f_write_number) = true)
    (a_write_integer : PySem.W.nsIn K mainGlobals "write_integer" = some (some (.ref f_write_integer)))
    (l_write_integer : K.lookup f_write_integer = some ⟨oc_write_integer, od_write_integer, .func (PySem.W.fnOf "write_integer" "write_integer" (defArgs s_write_integer) (defBody s_write_integer) (defScope s_write_integer) .none kV_write_integer dc_write_integer pm_write_integer an_write_integer cd_write_integer ct_write_integer), sl_write_integer⟩)
    (c_write_integer : PySem.W.codeIn K cd_write_integer "write_integer" = true)
    (k_write_integer : PySem.W.keepIn K (.ref f_write_integer) = true)
    (a_write_string : PySem.W.nsIn K mainGlobals "write_string" = some (some (.ref f_write_string)))
    (l_write_string : K.lookup f_write_string = some ⟨oc_write_string, od_write_string, .func (PySem.W.fnOf "write_string" "write_string" (defArgs s_write_string) (defBody s_write_string) (defScope s_write_string) .none kV_write_string dc_write_string pm_write_string an_write_string cd_write_string ct_write_string), sl_write_string⟩)
    (c_write_string : PySem.W.codeIn K cd_write_string "write_string" = true)
    (k_write_string : PySem.W.keepIn K (.ref f_write_string) = true)
    (a_write_numbers : PySem.W.nsIn K mainGlobals "write_numbers" = some (some (.ref f_write_numbers)))
    (l_write_numbers : K.lookup f_write_numbers = some ⟨oc_write_numbers, od_write_numbers, .func (PySem.W.fnOf "write_numbers" "write_numbers" (defArgs s_write_numbers) (defBody s_write_numbers) (defScope s_write_numbers) .none kV_write_numbers dc_write_numbers pm_write_numbers an_write_numbers cd_write_numbers ct_write_numbers), sl_write_numbers⟩)
    (c_write_numbers : PySem.W.codeIn K cd_write_numbers "write_numbers" = true)
    (k_write_numbers : PySem.W.keepIn K (.ref f_write_numbers) = true)
    (a_write_list : PySem.W.nsIn K mainGlobals "write_list" = some (some (.ref f_write_list)))
    (l_write_list : K.lookup f_write_list = some ⟨oc_write_list, od_write_list, .func (PySem.W.fnOf "write_list" "write_list" (defArgs s_write_list) (defBody s_write_list) (defScope s_write_list) .none kV_write_list dc_write_list pm_write_list an_write_list cd_write_list ct_write_list), sl_write_list⟩)
    (c_write_list : PySem.W.codeIn K cd_write_list "write_list" = true)
    (k_write_list : PySem.W.keepIn K (.ref f_write_list) = true)
    (a_write_optional : PySem.W.nsIn K mainGlobals "write_optional" = some (some (.ref f_write_optional)))
    (l_write_optional : K.lookup f_write_optional = some ⟨oc_write_optional, od_write_optional, .func (PySem.W.fnOf "write_optional" "write_optional" (defArgs s_write_optional) (defBody s_write_optional) (defScope s_write_optional) .none kV_write_optional dc_write_optional pm_write_optional an_write_optional cd_write_optional ct_write_optional), sl_write_optional⟩)
    (c_write_optional : PySem.W.codeIn K cd_write_optional "write_optional" = true)
    (k_write_optional : PySem.W.keepIn K (.ref f_write_optional) = true)
    (a_write_value : PySem.W.nsIn K mainGlobals "write_value" = some (some (.ref f_write_value)))
    (l_write_value : K.lookup f_write_value = some ⟨oc_write_value, od_write_value, .func (PySem.W.fnOf "write_value" "write_value" (defArgs s_write_value) (defBody s_write_value) (defScope s_write_value) .none kV_write_value dc_write_value pm_write_value an_write_value cd_write_value ct_write_value), sl_write_value⟩)
    (c_write_value : PySem.W.codeIn K cd_write_value "write_value" = true)
    (k_write_value : PySem.W.keepIn K (.ref f_write_value) = true)
    (a_write_holds : PySem.W.nsIn K mainGlobals "write_holds" = some (some (.ref f_write_holds)))
    (l_write_holds : K.lookup f_write_holds = some ⟨oc_write_holds, od_write_holds, .func (PySem.W.fnOf "write_holds" "write_holds" (defArgs s_write_holds) (defBody s_write_holds) (defScope s_write_holds) .none kV_write_holds dc_write_holds pm_write_holds an_write_holds cd_write_holds ct_write_holds), sl_write_holds⟩)
    (c_write_holds : PySem.W.codeIn K cd_write_holds "write_holds" = true)
    (k_write_holds : PySem.W.keepIn K (.ref f_write_holds) = true)
    (a_write_cell_act : PySem.W.nsIn K mainGlobals "write_cell_act" = some (some (.ref f_write_cell_act)))
    (l_write_cell_act : K.lookup f_write_cell_act = some ⟨oc_write_cell_act, od_write_cell_act, .func (PySem.W.fnOf "write_cell_act" "write_cell_act" (defArgs s_write_cell_act) (defBody s_write_cell_act) (defScope s_write_cell_act) .none kV_write_cell_act dc_write_cell_act pm_write_cell_act an_write_cell_act cd_write_cell_act ct_write_cell_act), sl_write_cell_act⟩)
    (c_write_cell_act : PySem.W.codeIn K cd_write_cell_act "write_cell_act" = true)
    (k_write_cell_act : PySem.W.keepIn K (.ref f_write_cell_act) = true)
    (a_write_act : PySem.W.nsIn K mainGlobals "write_act" = some (some (.ref f_write_act)))
    (l_write_act : K.lookup f_write_act = some ⟨oc_write_act, od_write_act, .func (PySem.W.fnOf "write_act" "write_act" (defArgs s_write_act) (defBody s_write_act) (defScope s_write_act) .none kV_write_act dc_write_act pm_write_act an_write_act cd_write_act ct_write_act), sl_write_act⟩)
    (c_write_act : PySem.W.codeIn K cd_write_act "write_act" = true)
    (k_write_act : PySem.W.keepIn K (.ref f_write_act) = true)
    (a_write_rights : PySem.W.nsIn K mainGlobals "write_rights" = some (some (.ref f_write_rights)))
    (l_write_rights : K.lookup f_write_rights = some ⟨oc_write_rights, od_write_rights, .func (PySem.W.fnOf "write_rights" "write_rights" (defArgs s_write_rights) (defBody s_write_rights) (defScope s_write_rights) .none kV_write_rights dc_write_rights pm_write_rights an_write_rights cd_write_rights ct_write_rights), sl_write_rights⟩)
    (c_write_rights : PySem.W.codeIn K cd_write_rights "write_rights" = true)
    (k_write_rights : PySem.W.keepIn K (.ref f_write_rights) = true)
    (a_write_public : PySem.W.nsIn K mainGlobals "write_public" = some (some (.ref f_write_public)))
    (l_write_public : K.lookup f_write_public = some ⟨oc_write_public, od_write_public, .func (PySem.W.fnOf "write_public" "write_public" (defArgs s_write_public) (defBody s_write_public) (defScope s_write_public) .none kV_write_public dc_write_public pm_write_public an_write_public cd_write_public ct_write_public), sl_write_public⟩)
    (c_write_public : PySem.W.codeIn K cd_write_public "write_public" = true)
    (k_write_public : PySem.W.keepIn K (.ref f_write_public) = true)
    (a_write_change : PySem.W.nsIn K mainGlobals "write_change" = some (some (.ref f_write_change)))
    (l_write_change : K.lookup f_write_change = some ⟨oc_write_change, od_write_change, .func (PySem.W.fnOf "write_change" "write_change" (defArgs s_write_change) (defBody s_write_change) (defScope s_write_change) .none kV_write_change dc_write_change pm_write_change an_write_change cd_write_change ct_write_change), sl_write_change⟩)
    (c_write_change : PySem.W.codeIn K cd_write_change "write_change" = true)
    (k_write_change : PySem.W.keepIn K (.ref f_write_change) = true)
    (a_write_characters : PySem.W.nsIn K mainGlobals "write_characters" = some (some (.ref f_write_characters)))
    (l_write_characters : K.lookup f_write_characters = some ⟨oc_write_characters, od_write_characters, .func (PySem.W.fnOf "write_characters" "write_characters" (defArgs s_write_characters) (defBody s_write_characters) (defScope s_write_characters) .none kV_write_characters dc_write_characters pm_write_characters an_write_characters cd_write_characters ct_write_characters), sl_write_characters⟩)
    (c_write_characters : PySem.W.codeIn K cd_write_characters "write_characters" = true)
    (k_write_characters : PySem.W.keepIn K (.ref f_write_characters) = true)
    (a_write_kept : PySem.W.nsIn K mainGlobals "write_kept" = some (some (.ref f_write_kept)))
    (l_write_kept : K.lookup f_write_kept = some ⟨oc_write_kept, od_write_kept, .func (PySem.W.fnOf "write_kept" "write_kept" (defArgs s_write_kept) (defBody s_write_kept) (defScope s_write_kept) .none kV_write_kept dc_write_kept pm_write_kept an_write_kept cd_write_kept ct_write_kept), sl_write_kept⟩)
    (c_write_kept : PySem.W.codeIn K cd_write_kept "write_kept" = true)
    (k_write_kept : PySem.W.keepIn K (.ref f_write_kept) = true)
    (a_write_optional_kept : PySem.W.nsIn K mainGlobals "write_optional_kept" = some (some (.ref f_write_optional_kept)))
    (l_write_optional_kept : K.lookup f_write_optional_kept = some ⟨oc_write_optional_kept, od_write_optional_kept, .func (PySem.W.fnOf "write_optional_kept" "write_optional_kept" (defArgs s_write_optional_kept) (defBody s_write_optional_kept) (defScope s_write_optional_kept) .none kV_write_optional_kept dc_write_optional_kept pm_write_optional_kept an_write_optional_kept cd_write_optional_kept ct_write_optional_kept), sl_write_optional_kept⟩)
    (c_write_optional_kept : PySem.W.codeIn K cd_write_optional_kept "write_optional_kept" = true)
    (k_write_optional_kept : PySem.W.keepIn K (.ref f_write_optional_kept) = true)
    (a_write_capability : PySem.W.nsIn K mainGlobals "write_capability" = some (some (.ref f_write_capability)))
    (l_write_capability : K.lookup f_write_capability = some ⟨oc_write_capability, od_write_capability, .func (PySem.W.fnOf "write_capability" "write_capability" (defArgs s_write_capability) (defBody s_write_capability) (defScope s_write_capability) .none kV_write_capability dc_write_capability pm_write_capability an_write_capability cd_write_capability ct_write_capability), sl_write_capability⟩)
    (c_write_capability : PySem.W.codeIn K cd_write_capability "write_capability" = true)
    (k_write_capability : PySem.W.keepIn K (.ref f_write_capability) = true)
    (a_write_store : PySem.W.nsIn K mainGlobals "write_store" = some (some (.ref f_write_store)))
    (l_write_store : K.lookup f_write_store = some ⟨oc_write_store, od_write_store, .func (PySem.W.fnOf "write_store" "write_store" (defArgs s_write_store) (defBody s_write_store) (defScope s_write_store) .none kV_write_store dc_write_store pm_write_store an_write_store cd_write_store ct_write_store), sl_write_store⟩)
    (c_write_store : PySem.W.codeIn K cd_write_store "write_store" = true)
    (k_write_store : PySem.W.keepIn K (.ref f_write_store) = true)
    (a_as_tuple : PySem.W.nsIn K mainGlobals "_as_tuple" = some (some (.ref f_as_tuple)))
    (l_as_tuple : K.lookup f_as_tuple = some ⟨oc_as_tuple, od_as_tuple, .func (PySem.W.fnOf "_as_tuple" "_as_tuple" (defArgs s_as_tuple) (defBody s_as_tuple) (defScope s_as_tuple) .none kV_as_tuple dc_as_tuple pm_as_tuple an_as_tuple cd_as_tuple ct_as_tuple), sl_as_tuple⟩)
    (c_as_tuple : PySem.W.codeIn K cd_as_tuple "_as_tuple" = true)
    (k_as_tuple : PySem.W.keepIn K (.ref f_as_tuple) = true)
    (a_Change_init : PySem.W.findIn K (.ref C_Change) "__init__" = some (some (.ref f_Change_init)))
    (i_Change_init : PySem.W.isFn K (.ref f_Change_init) = true)
    (l_Change_init : K.lookup f_Change_init = some ⟨oc_Change_init, od_Change_init, .func (PySem.W.fnOf "__init__" "Change.__init__" (defArgs s_Change_init) (defBody s_Change_init) (defScope s_Change_init) .none kV_Change_init dc_Change_init pm_Change_init an_Change_init cd_Change_init ct_Change_init), sl_Change_init⟩)
    (c_Change_init : PySem.W.codeIn K cd_Change_init "Change.__init__" = true)
    (k_Change_init : PySem.W.keepIn K (.ref f_Change_init) = true)
    (a_Change_name : PySem.W.findIn K (.ref C_Change) "name" = some (some (.ref f_Change_name)))
    (i_Change_name : PySem.W.isFn K (.ref f_Change_name) = true)
    (l_Change_name : K.lookup f_Change_name = some ⟨oc_Change_name, od_Change_name, .func (PySem.W.fnOf "name" "Change.name" (defArgs s_Change_name) (defBody s_Change_name) (defScope s_Change_name) .none kV_Change_name dc_Change_name pm_Change_name an_Change_name cd_Change_name ct_Change_name), sl_Change_name⟩)
    (c_Change_name : PySem.W.codeIn K cd_Change_name "Change.name" = true)
    (k_Change_name : PySem.W.keepIn K (.ref f_Change_name) = true)
    (a_Kept_init : PySem.W.findIn K (.ref C_Kept) "__init__" = some (some (.ref f_Kept_init)))
    (i_Kept_init : PySem.W.isFn K (.ref f_Kept_init) = true)
    (l_Kept_init : K.lookup f_Kept_init = some ⟨oc_Kept_init, od_Kept_init, .func (PySem.W.fnOf "__init__" "Kept.__init__" (defArgs s_Kept_init) (defBody s_Kept_init) (defScope s_Kept_init) .none kV_Kept_init dc_Kept_init pm_Kept_init an_Kept_init cd_Kept_init ct_Kept_init), sl_Kept_init⟩)
    (c_Kept_init : PySem.W.codeIn K cd_Kept_init "Kept.__init__" = true)
    (k_Kept_init : PySem.W.keepIn K (.ref f_Kept_init) = true)
    (a_Store_init : PySem.W.findIn K (.ref C_Store) "__init__" = some (some (.ref f_Store_init)))
    (i_Store_init : PySem.W.isFn K (.ref f_Store_init) = true)
    (l_Store_init : K.lookup f_Store_init = some ⟨oc_Store_init, od_Store_init, .func (PySem.W.fnOf "__init__" "Store.__init__" (defArgs s_Store_init) (defBody s_Store_init) (defScope s_Store_init) .none kV_Store_init dc_Store_init pm_Store_init an_Store_init cd_Store_init ct_Store_init), sl_Store_init⟩)
    (c_Store_init : PySem.W.codeIn K cd_Store_init "Store.__init__" = true)
    (k_Store_init : PySem.W.keepIn K (.ref f_Store_init) = true)
    (a_Store_count : PySem.W.findIn K (.ref C_Store) "count" = some (some (.ref f_Store_count)))
    (i_Store_count : PySem.W.isFn K (.ref f_Store_count) = true)
    (l_Store_count : K.lookup f_Store_count = some ⟨oc_Store_count, od_Store_count, .func (PySem.W.fnOf "count" "Store.count" (defArgs s_Store_count) (defBody s_Store_count) (defScope s_Store_count) .none kV_Store_count dc_Store_count pm_Store_count an_Store_count cd_Store_count ct_Store_count), sl_Store_count⟩)
    (c_Store_count : PySem.W.codeIn K cd_Store_count "Store.count" = true)
    (k_Store_count : PySem.W.keepIn K (.ref f_Store_count) = true)
    (a_Store_counts : PySem.W.findIn K (.ref C_Store) "counts" = some (some (.ref f_Store_counts)))
    (i_Store_counts : PySem.W.isFn K (.ref f_Store_counts) = true)
    (l_Store_counts : K.lookup f_Store_counts = some ⟨oc_Store_counts, od_Store_counts, .func (PySem.W.fnOf "counts" "Store.counts" (defArgs s_Store_counts) (defBody s_Store_counts) (defScope s_Store_counts) .none kV_Store_counts dc_Store_counts pm_Store_counts an_Store_counts cd_Store_counts ct_Store_counts), sl_Store_counts⟩)
    (c_Store_counts : PySem.W.codeIn K cd_Store_counts "Store.counts" = true)
    (k_Store_counts : PySem.W.keepIn K (.ref f_Store_counts) = true)
    (a_Store_find : PySem.W.findIn K (.ref C_Store) "find" = some (some (.ref f_Store_find)))
    (i_Store_find : PySem.W.isFn K (.ref f_Store_find) = true)
    (l_Store_find : K.lookup f_Store_find = some ⟨oc_Store_find, od_Store_find, .func (PySem.W.fnOf "find" "Store.find" (defArgs s_Store_find) (defBody s_Store_find) (defScope s_Store_find) .none kV_Store_find dc_Store_find pm_Store_find an_Store_find cd_Store_find ct_Store_find), sl_Store_find⟩)
    (c_Store_find : PySem.W.codeIn K cd_Store_find "Store.find" = true)
    (k_Store_find : PySem.W.keepIn K (.ref f_Store_find) = true)
    (a_Store_add : PySem.W.findIn K (.ref C_Store) "add" = some (some (.ref f_Store_add)))
    (i_Store_add : PySem.W.isFn K (.ref f_Store_add) = true)
    (l_Store_add : K.lookup f_Store_add = some ⟨oc_Store_add, od_Store_add, .func (PySem.W.fnOf "add" "Store.add" (defArgs s_Store_add) (defBody s_Store_add) (defScope s_Store_add) .none kV_Store_add dc_Store_add pm_Store_add an_Store_add cd_Store_add ct_Store_add), sl_Store_add⟩)
    (c_Store_add : PySem.W.codeIn K cd_Store_add "Store.add" = true)
    (k_Store_add : PySem.W.keepIn K (.ref f_Store_add) = true)
    (a_unknown_names : PySem.W.nsIn K mainGlobals "unknown_names" = some (some (.ref f_unknown_names)))
    (l_unknown_names : K.lookup f_unknown_names = some ⟨oc_unknown_names, od_unknown_names, .func (PySem.W.fnOf "unknown_names" "unknown_names" (defArgs s_unknown_names) (defBody s_unknown_names) (defScope s_unknown_names) .none kV_unknown_names dc_unknown_names pm_unknown_names an_unknown_names cd_unknown_names ct_unknown_names), sl_unknown_names⟩)
    (c_unknown_names : PySem.W.codeIn K cd_unknown_names "unknown_names" = true)
    (k_unknown_names : PySem.W.keepIn K (.ref f_unknown_names) = true)
    (a_asking : PySem.W.nsIn K mainGlobals "asking" = some (some (.ref f_asking)))
    (l_asking : K.lookup f_asking = some ⟨oc_asking, od_asking, .func (PySem.W.fnOf "asking" "asking" (defArgs s_asking) (defBody s_asking) (defScope s_asking) .none kV_asking dc_asking pm_asking an_asking cd_asking ct_asking), sl_asking⟩)
    (c_asking : PySem.W.codeIn K cd_asking "asking" = true)
    (k_asking : PySem.W.keepIn K (.ref f_asking) = true)
    (a_draw : PySem.W.nsIn K mainGlobals "_law_draw" = some (some (.ref f_draw)))
    (l_draw : K.lookup f_draw = some ⟨oc_draw, od_draw, .func (PySem.W.fnOf "_law_draw" "_law_draw" (defArgs s_draw) (defBody s_draw) (defScope s_draw) .none kV_draw dc_draw pm_draw an_draw cd_draw ct_draw), sl_draw⟩)
    (c_draw : PySem.W.codeIn K cd_draw "_law_draw" = true)
    (k_draw : PySem.W.keepIn K (.ref f_draw) = true)
    (a_spot : PySem.W.nsIn K mainGlobals "_law_spot" = some (some (.ref f_spot)))
    (l_spot : K.lookup f_spot = some ⟨oc_spot, od_spot, .func (PySem.W.fnOf "_law_spot" "_law_spot" (defArgs s_spot) (defBody s_spot) (defScope s_spot) .none kV_spot dc_spot pm_spot an_spot cd_spot ct_spot), sl_spot⟩)
    (c_spot : PySem.W.codeIn K cd_spot "_law_spot" = true)
    (k_spot : PySem.W.keepIn K (.ref f_spot) = true)
    (a_text : PySem.W.nsIn K mainGlobals "_law_text" = some (some (.ref f_text)))
    (l_text : K.lookup f_text = some ⟨oc_text, od_text, .func (PySem.W.fnOf "_law_text" "_law_text" (defArgs s_text) (defBody s_text) (defScope s_text) .none kV_text dc_text pm_text an_text cd_text ct_text), sl_text⟩)
    (c_text : PySem.W.codeIn K cd_text "_law_text" = true)
    (k_text : PySem.W.keepIn K (.ref f_text) = true)
    (a_value : PySem.W.nsIn K mainGlobals "_law_value" = some (some (.ref f_value)))
    (l_value : K.lookup f_value = some ⟨oc_value, od_value, .func (PySem.W.fnOf "_law_value" "_law_value" (defArgs s_value) (defBody s_value) (defScope s_value) .none kV_value dc_value pm_value an_value cd_value ct_value), sl_value⟩)
    (c_value : PySem.W.codeIn K cd_value "_law_value" = true)
    (k_value : PySem.W.keepIn K (.ref f_value) = true)
    (a_act : PySem.W.nsIn K mainGlobals "_law_act" = some (some (.ref f_act)))
    (l_act : K.lookup f_act = some ⟨oc_act, od_act, .func (PySem.W.fnOf "_law_act" "_law_act" (defArgs s_act) (defBody s_act) (defScope s_act) .none kV_act dc_act pm_act an_act cd_act ct_act), sl_act⟩)
    (c_act : PySem.W.codeIn K cd_act "_law_act" = true)
    (k_act : PySem.W.keepIn K (.ref f_act) = true)
    (a_rights : PySem.W.nsIn K mainGlobals "_law_rights" = some (some (.ref f_rights)))
    (l_rights : K.lookup f_rights = some ⟨oc_rights, od_rights, .func (PySem.W.fnOf "_law_rights" "_law_rights" (defArgs s_rights) (defBody s_rights) (defScope s_rights) .none kV_rights dc_rights pm_rights an_rights cd_rights ct_rights), sl_rights⟩)
    (c_rights : PySem.W.codeIn K cd_rights "_law_rights" = true)
    (k_rights : PySem.W.keepIn K (.ref f_rights) = true)
    (a_number : PySem.W.nsIn K mainGlobals "_law_number" = some (some (.ref f_number)))
    (l_number : K.lookup f_number = some ⟨oc_number, od_number, .func (PySem.W.fnOf "_law_number" "_law_number" (defArgs s_number) (defBody s_number) (defScope s_number) .none kV_number dc_number pm_number an_number cd_number ct_number), sl_number⟩)
    (c_number : PySem.W.codeIn K cd_number "_law_number" = true)
    (k_number : PySem.W.keepIn K (.ref f_number) = true)
    (a_numbers : PySem.W.nsIn K mainGlobals "_law_numbers" = some (some (.ref f_numbers)))
    (l_numbers : K.lookup f_numbers = some ⟨oc_numbers, od_numbers, .func (PySem.W.fnOf "_law_numbers" "_law_numbers" (defArgs s_numbers) (defBody s_numbers) (defScope s_numbers) .none kV_numbers dc_numbers pm_numbers an_numbers cd_numbers ct_numbers), sl_numbers⟩)
    (c_numbers : PySem.W.codeIn K cd_numbers "_law_numbers" = true)
    (k_numbers : PySem.W.keepIn K (.ref f_numbers) = true)
    (a_signed : PySem.W.nsIn K mainGlobals "_law_signed" = some (some (.ref f_signed)))
    (l_signed : K.lookup f_signed = some ⟨oc_signed, od_signed, .func (PySem.W.fnOf "_law_signed" "_law_signed" (defArgs s_signed) (defBody s_signed) (defScope s_signed) .none kV_signed dc_signed pm_signed an_signed cd_signed ct_signed), sl_signed⟩)
    (c_signed : PySem.W.codeIn K cd_signed "_law_signed" = true)
    (k_signed : PySem.W.keepIn K (.ref f_signed) = true)
    (a_string : PySem.W.nsIn K mainGlobals "_law_string" = some (some (.ref f_string)))
    (l_string : K.lookup f_string = some ⟨oc_string, od_string, .func (PySem.W.fnOf "_law_string" "_law_string" (defArgs s_string) (defBody s_string) (defScope s_string) .none kV_string dc_string pm_string an_string cd_string ct_string), sl_string⟩)
    (c_string : PySem.W.codeIn K cd_string "_law_string" = true)
    (k_string : PySem.W.keepIn K (.ref f_string) = true)
    (a_optional : PySem.W.nsIn K mainGlobals "_law_optional" = some (some (.ref f_optional)))
    (l_optional : K.lookup f_optional = some ⟨oc_optional, od_optional, .func (PySem.W.fnOf "_law_optional" "_law_optional" (defArgs s_optional) (defBody s_optional) (defScope s_optional) .none kV_optional dc_optional pm_optional an_optional cd_optional ct_optional), sl_optional⟩)
    (c_optional : PySem.W.codeIn K cd_optional "_law_optional" = true)
    (k_optional : PySem.W.keepIn K (.ref f_optional) = true)
    (a_bytes_of : PySem.W.nsIn K mainGlobals "_law_bytes_of" = some (some (.ref f_bytes_of)))
    (l_bytes_of : K.lookup f_bytes_of = some ⟨oc_bytes_of, od_bytes_of, .func (PySem.W.fnOf "_law_bytes_of" "_law_bytes_of" (defArgs s_bytes_of) (defBody s_bytes_of) (defScope s_bytes_of) .none kV_bytes_of dc_bytes_of pm_bytes_of an_bytes_of cd_bytes_of ct_bytes_of), sl_bytes_of⟩)
    (c_bytes_of : PySem.W.codeIn K cd_bytes_of "_law_bytes_of" = true)
    (k_bytes_of : PySem.W.keepIn K (.ref f_bytes_of) = true)
    (a_holds : PySem.W.nsIn K mainGlobals "_law_holds" = some (some (.ref f_holds)))
    (l_holds : K.lookup f_holds = some ⟨oc_holds, od_holds, .func (PySem.W.fnOf "_law_holds" "_law_holds" (defArgs s_holds) (defBody s_holds) (defScope s_holds) .none kV_holds dc_holds pm_holds an_holds cd_holds ct_holds), sl_holds⟩)
    (c_holds : PySem.W.codeIn K cd_holds "_law_holds" = true)
    (k_holds : PySem.W.keepIn K (.ref f_holds) = true)
    (a_act_bytes : PySem.W.nsIn K mainGlobals "_law_act_bytes" = some (some (.ref f_act_bytes)))
    (l_act_bytes : K.lookup f_act_bytes = some ⟨oc_act_bytes, od_act_bytes, .func (PySem.W.fnOf "_law_act_bytes" "_law_act_bytes" (defArgs s_act_bytes) (defBody s_act_bytes) (defScope s_act_bytes) .none kV_act_bytes dc_act_bytes pm_act_bytes an_act_bytes cd_act_bytes ct_act_bytes), sl_act_bytes⟩)
    (c_act_bytes : PySem.W.codeIn K cd_act_bytes "_law_act_bytes" = true)
    (k_act_bytes : PySem.W.keepIn K (.ref f_act_bytes) = true)
    (a_rights_bytes : PySem.W.nsIn K mainGlobals "_law_rights_bytes" = some (some (.ref f_rights_bytes)))
    (l_rights_bytes : K.lookup f_rights_bytes = some ⟨oc_rights_bytes, od_rights_bytes, .func (PySem.W.fnOf "_law_rights_bytes" "_law_rights_bytes" (defArgs s_rights_bytes) (defBody s_rights_bytes) (defScope s_rights_bytes) .none kV_rights_bytes dc_rights_bytes pm_rights_bytes an_rights_bytes cd_rights_bytes ct_rights_bytes), sl_rights_bytes⟩)
    (c_rights_bytes : PySem.W.codeIn K cd_rights_bytes "_law_rights_bytes" = true)
    (k_rights_bytes : PySem.W.keepIn K (.ref f_rights_bytes) = true)
    (a_change_bytes : PySem.W.nsIn K mainGlobals "_law_change_bytes" = some (some (.ref f_change_bytes)))
    (l_change_bytes : K.lookup f_change_bytes = some ⟨oc_change_bytes, od_change_bytes, .func (PySem.W.fnOf "_law_change_bytes" "_law_change_bytes" (defArgs s_change_bytes) (defBody s_change_bytes) (defScope s_change_bytes) .none kV_change_bytes dc_change_bytes pm_change_bytes an_change_bytes cd_change_bytes ct_change_bytes), sl_change_bytes⟩)
    (c_change_bytes : PySem.W.codeIn K cd_change_bytes "_law_change_bytes" = true)
    (k_change_bytes : PySem.W.keepIn K (.ref f_change_bytes) = true)
    (a_change : PySem.W.nsIn K mainGlobals "_law_change" = some (some (.ref f_change)))
    (l_change : K.lookup f_change = some ⟨oc_change, od_change, .func (PySem.W.fnOf "_law_change" "_law_change" (defArgs s_change) (defBody s_change) (defScope s_change) .none kV_change dc_change pm_change an_change cd_change ct_change), sl_change⟩)
    (c_change : PySem.W.codeIn K cd_change "_law_change" = true)
    (k_change : PySem.W.keepIn K (.ref f_change) = true)
    (a_entry : PySem.W.nsIn K mainGlobals "_law_entry" = some (some (.ref f_entry)))
    (l_entry : K.lookup f_entry = some ⟨oc_entry, od_entry, .func (PySem.W.fnOf "_law_entry" "_law_entry" (defArgs s_entry) (defBody s_entry) (defScope s_entry) .none kV_entry dc_entry pm_entry an_entry cd_entry ct_entry), sl_entry⟩)
    (c_entry : PySem.W.codeIn K cd_entry "_law_entry" = true)
    (k_entry : PySem.W.keepIn K (.ref f_entry) = true)
    (a_kept : PySem.W.nsIn K mainGlobals "_law_kept" = some (some (.ref f_kept)))
    (l_kept : K.lookup f_kept = some ⟨oc_kept, od_kept, .func (PySem.W.fnOf "_law_kept" "_law_kept" (defArgs s_kept) (defBody s_kept) (defScope s_kept) .none kV_kept dc_kept pm_kept an_kept cd_kept ct_kept), sl_kept⟩)
    (c_kept : PySem.W.codeIn K cd_kept "_law_kept" = true)
    (k_kept : PySem.W.keepIn K (.ref f_kept) = true)
    (a_order : PySem.W.nsIn K mainGlobals "_law_order" = some (some (.ref f_order)))
    (l_order : K.lookup f_order = some ⟨oc_order, od_order, .func (PySem.W.fnOf "_law_order" "_law_order" (defArgs s_order) (defBody s_order) (defScope s_order) .none kV_order dc_order pm_order an_order cd_order ct_order), sl_order⟩)
    (c_order : PySem.W.codeIn K cd_order "_law_order" = true)
    (k_order : PySem.W.keepIn K (.ref f_order) = true)
    (a_store : PySem.W.nsIn K mainGlobals "_law_store" = some (some (.ref f_store)))
    (l_store : K.lookup f_store = some ⟨oc_store, od_store, .func (PySem.W.fnOf "_law_store" "_law_store" (defArgs s_store) (defBody s_store) (defScope s_store) .none kV_store dc_store pm_store an_store cd_store ct_store), sl_store⟩)
    (c_store : PySem.W.codeIn K cd_store "_law_store" = true)
    (k_store : PySem.W.keepIn K (.ref f_store) = true)
    (a_law : PySem.W.nsIn K mainGlobals "law" = some (some (.ref f_law)))
    (l_law : K.lookup f_law = some ⟨oc_law, od_law, .func (PySem.W.fnOf "law" "law" (defArgs s_law) (defBody s_law) (defScope s_law) .none kV_law dc_law pm_law an_law cd_law ct_law), sl_law⟩)
    (c_law : PySem.W.codeIn K cd_law "law" = true)
    (k_law : PySem.W.keepIn K (.ref f_law) = true)
    (z_abs : PySem.W.nsIn K mainGlobals "abs" = some none)
    (z_bool : PySem.W.nsIn K mainGlobals "bool" = some none)
    (z_int : PySem.W.nsIn K mainGlobals "int" = some none)
    (z_isinstance : PySem.W.nsIn K mainGlobals "isinstance" = some none)
    (z_len : PySem.W.nsIn K mainGlobals "len" = some none)
    (z_min : PySem.W.nsIn K mainGlobals "min" = some none)
    (z_ord : PySem.W.nsIn K mainGlobals "ord" = some none)
    (z_range : PySem.W.nsIn K mainGlobals "range" = some none)
    (z_str : PySem.W.nsIn K mainGlobals "str" = some none)
    (z_tuple : PySem.W.nsIn K mainGlobals "tuple" = some none)
    {u_ACTWORDS : Value} {v_ACTWORDS : V}
    {u_KINDWORDS : Value} {v_KINDWORDS : V}
    {u_SPACES : Value} {v_SPACES : V}
    (gc_ACTWORDS : PySem.W.nsIn K mainGlobals "ACT_WORDS" = some (some u_ACTWORDS)) (rc_ACTWORDS : RelV v_ACTWORDS u_ACTWORDS) (qc_ACTWORDS : ∀ (F : Hp) (cl : Nat → Addr), Rp K cl F Kb.u_ACTWORDS v_ACTWORDS) (tc_ACTWORDS : TupC K v_ACTWORDS)
    (gc_KINDWORDS : PySem.W.nsIn K mainGlobals "KIND_WORDS" = some (some u_KINDWORDS)) (rc_KINDWORDS : RelV v_KINDWORDS u_KINDWORDS) (qc_KINDWORDS : ∀ (F : Hp) (cl : Nat → Addr), Rp K cl F Kb.u_KINDWORDS v_KINDWORDS) (tc_KINDWORDS : TupC K v_KINDWORDS)
    (gc_SPACES : PySem.W.nsIn K mainGlobals "SPACES" = some (some u_SPACES)) (rc_SPACES : RelV v_SPACES u_SPACES) (qc_SPACES : ∀ (F : Hp) (cl : Nat → Addr), Rp K cl F Kb.u_SPACES v_SPACES)
    : ∃ fd : FuncData, (∀ (s : Shared) (v : Value), BindsTo s fd ⟨[v], []⟩ [("_law_script", v)]) ∧ ∀ base : Heap, K.In base → base.Ns mainGlobals mg → FnOk l.prog w K mg base CX0 10 fa fd ["_law_script"] (spLaw K) := by
  have e := hfa.symm.trans (PySem.W.mg_of X G a_law)
  have e2 : fa = f_law := by cases e; rfl
  rw [e2]
  exact ⟨PySem.W.fnOf "law" "law" (defArgs s_law) (defBody s_law) (defScope s_law) .none kV_law dc_law pm_law an_law cd_law ct_law, fun s v => .of_eq rfl, fun base _ _ =>
    (ok_law { 
      u_ACTWORDS := u_ACTWORDS
      v_ACTWORDS := v_ACTWORDS
      g_ACTWORDS := PySem.W.mg_of X G gc_ACTWORDS
      r_ACTWORDS := rc_ACTWORDS
      q_ACTWORDS := qc_ACTWORDS
      t_ACTWORDS := tc_ACTWORDS
      u_KINDWORDS := u_KINDWORDS
      v_KINDWORDS := v_KINDWORDS
      g_KINDWORDS := PySem.W.mg_of X G gc_KINDWORDS
      r_KINDWORDS := rc_KINDWORDS
      q_KINDWORDS := qc_KINDWORDS
      t_KINDWORDS := tc_KINDWORDS
      u_SPACES := u_SPACES
      v_SPACES := v_SPACES
      g_SPACES := PySem.W.mg_of X G gc_SPACES
      r_SPACES := rc_SPACES
      q_SPACES := qc_SPACES
      c_Change := C_Change
      cl_Change := ⟨pg_Change, hd_Change, po_Change, sa_Change⟩
      g_Change := PySem.W.mg_of X G aC_Change
      n_Change_author := n_Change_author
      n_Change_capability := n_Change_capability
      n_Change_heard := n_Change_heard
      n_Change_number := n_Change_number
      n_Change_parts := n_Change_parts
      n_Change_publics := n_Change_publics
      c_Kept := C_Kept
      cl_Kept := ⟨pg_Kept, hd_Kept, po_Kept, sa_Kept⟩
      g_Kept := PySem.W.mg_of X G aC_Kept
      n_Kept_acts := n_Kept_acts
      n_Kept_sums := n_Kept_sums
      n_Kept_texts := n_Kept_texts
      c_Store := C_Store
      cl_Store := ⟨pg_Store, hd_Store, po_Store, sa_Store⟩
      g_Store := PySem.W.mg_of X G aC_Store
      n_Store_capabilities := n_Store_capabilities
      n_Store_changes := n_Store_changes
      n_Store_cut := n_Store_cut
      n_Store_kept := n_Store_kept
      n_Store_members := n_Store_members
      a_write_number := f_write_number
      d_write_number := PySem.W.fnOf "write_number" "write_number" (defArgs s_write_number) (defBody s_write_number) (defScope s_write_number) .none kV_write_number dc_write_number pm_write_number an_write_number cd_write_number ct_write_number
      F_write_number := fun_mk (st := s_write_number) l_write_number c_write_number k_write_number
      b_write_number := (fun_mk (st := s_write_number) l_write_number c_write_number k_write_number).binds (ps := ["number"]) fun _ _ _ _ _ _ us hl => match us, hl with | [_], _ => rfl
      g_write_number := PySem.W.mg_of X G a_write_number
      a_write_integer := f_write_integer
      d_write_integer := PySem.W.fnOf "write_integer" "write_integer" (defArgs s_write_integer) (defBody s_write_integer) (defScope s_write_integer) .none kV_write_integer dc_write_integer pm_write_integer an_write_integer cd_write_integer ct_write_integer
      F_write_integer := fun_mk (st := s_write_integer) l_write_integer c_write_integer k_write_integer
      b_write_integer := (fun_mk (st := s_write_integer) l_write_integer c_write_integer k_write_integer).binds (ps := ["number"]) fun _ _ _ _ _ _ us hl => match us, hl with | [_], _ => rfl
      g_write_integer := PySem.W.mg_of X G a_write_integer
      a_write_string := f_write_string
      d_write_string := PySem.W.fnOf "write_string" "write_string" (defArgs s_write_string) (defBody s_write_string) (defScope s_write_string) .none kV_write_string dc_write_string pm_write_string an_write_string cd_write_string ct_write_string
      F_write_string := fun_mk (st := s_write_string) l_write_string c_write_string k_write_string
      b_write_string := (fun_mk (st := s_write_string) l_write_string c_write_string k_write_string).binds (ps := ["text"]) fun _ _ _ _ _ _ us hl => match us, hl with | [_], _ => rfl
      g_write_string := PySem.W.mg_of X G a_write_string
      a_write_numbers := f_write_numbers
      d_write_numbers := PySem.W.fnOf "write_numbers" "write_numbers" (defArgs s_write_numbers) (defBody s_write_numbers) (defScope s_write_numbers) .none kV_write_numbers dc_write_numbers pm_write_numbers an_write_numbers cd_write_numbers ct_write_numbers
      F_write_numbers := fun_mk (st := s_write_numbers) l_write_numbers c_write_numbers k_write_numbers
      b_write_numbers := (fun_mk (st := s_write_numbers) l_write_numbers c_write_numbers k_write_numbers).binds (ps := ["numbers"]) fun _ _ _ _ _ _ us hl => match us, hl with | [_], _ => rfl
      g_write_numbers := PySem.W.mg_of X G a_write_numbers
      a_write_list := f_write_list
      d_write_list := PySem.W.fnOf "write_list" "write_list" (defArgs s_write_list) (defBody s_write_list) (defScope s_write_list) .none kV_write_list dc_write_list pm_write_list an_write_list cd_write_list ct_write_list
      F_write_list := fun_mk (st := s_write_list) l_write_list c_write_list k_write_list
      b_write_list := (fun_mk (st := s_write_list) l_write_list c_write_list k_write_list).binds (ps := ["items"]) fun _ _ _ _ _ _ us hl => match us, hl with | [_], _ => rfl
      g_write_list := PySem.W.mg_of X G a_write_list
      a_write_optional := f_write_optional
      d_write_optional := PySem.W.fnOf "write_optional" "write_optional" (defArgs s_write_optional) (defBody s_write_optional) (defScope s_write_optional) .none kV_write_optional dc_write_optional pm_write_optional an_write_optional cd_write_optional ct_write_optional
      F_write_optional := fun_mk (st := s_write_optional) l_write_optional c_write_optional k_write_optional
      b_write_optional := (fun_mk (st := s_write_optional) l_write_optional c_write_optional k_write_optional).binds (ps := ["numbers"]) fun _ _ _ _ _ _ us hl => match us, hl with | [_], _ => rfl
      g_write_optional := PySem.W.mg_of X G a_write_optional
      a_write_value := f_write_value
      d_write_value := PySem.W.fnOf "write_value" "write_value" (defArgs s_write_value) (defBody s_write_value) (defScope s_write_value) .none kV_write_value dc_write_value pm_write_value an_write_value cd_write_value ct_write_value
      F_write_value := fun_mk (st := s_write_value) l_write_value c_write_value k_write_value
      b_write_value := (fun_mk (st := s_write_value) l_write_value c_write_value k_write_value).binds (ps := ["value"]) fun _ _ _ _ _ _ us hl => match us, hl with | [_], _ => rfl
      g_write_value := PySem.W.mg_of X G a_write_value
      a_write_holds := f_write_holds
      d_write_holds := PySem.W.fnOf "write_holds" "write_holds" (defArgs s_write_holds) (defBody s_write_holds) (defScope s_write_holds) .none kV_write_holds dc_write_holds pm_write_holds an_write_holds cd_write_holds ct_write_holds
      F_write_holds := fun_mk (st := s_write_holds) l_write_holds c_write_holds k_write_holds
      b_write_holds := (fun_mk (st := s_write_holds) l_write_holds c_write_holds k_write_holds).binds (ps := ["holds"]) fun _ _ _ _ _ _ us hl => match us, hl with | [_], _ => rfl
      g_write_holds := PySem.W.mg_of X G a_write_holds
      a_write_cell_act := f_write_cell_act
      d_write_cell_act := PySem.W.fnOf "write_cell_act" "write_cell_act" (defArgs s_write_cell_act) (defBody s_write_cell_act) (defScope s_write_cell_act) .none kV_write_cell_act dc_write_cell_act pm_write_cell_act an_write_cell_act cd_write_cell_act ct_write_cell_act
      F_write_cell_act := fun_mk (st := s_write_cell_act) l_write_cell_act c_write_cell_act k_write_cell_act
      b_write_cell_act := (fun_mk (st := s_write_cell_act) l_write_cell_act c_write_cell_act k_write_cell_act).binds (ps := ["act"]) fun _ _ _ _ _ _ us hl => match us, hl with | [_], _ => rfl
      g_write_cell_act := PySem.W.mg_of X G a_write_cell_act
      a_write_act := f_write_act
      d_write_act := PySem.W.fnOf "write_act" "write_act" (defArgs s_write_act) (defBody s_write_act) (defScope s_write_act) .none kV_write_act dc_write_act pm_write_act an_write_act cd_write_act ct_write_act
      F_write_act := fun_mk (st := s_write_act) l_write_act c_write_act k_write_act
      b_write_act := (fun_mk (st := s_write_act) l_write_act c_write_act k_write_act).binds (ps := ["act"]) fun _ _ _ _ _ _ us hl => match us, hl with | [_], _ => rfl
      g_write_act := PySem.W.mg_of X G a_write_act
      a_write_rights := f_write_rights
      d_write_rights := PySem.W.fnOf "write_rights" "write_rights" (defArgs s_write_rights) (defBody s_write_rights) (defScope s_write_rights) .none kV_write_rights dc_write_rights pm_write_rights an_write_rights cd_write_rights ct_write_rights
      F_write_rights := fun_mk (st := s_write_rights) l_write_rights c_write_rights k_write_rights
      b_write_rights := (fun_mk (st := s_write_rights) l_write_rights c_write_rights k_write_rights).binds (ps := ["rights"]) fun _ _ _ _ _ _ us hl => match us, hl with | [_], _ => rfl
      g_write_rights := PySem.W.mg_of X G a_write_rights
      a_write_public := f_write_public
      d_write_public := PySem.W.fnOf "write_public" "write_public" (defArgs s_write_public) (defBody s_write_public) (defScope s_write_public) .none kV_write_public dc_write_public pm_write_public an_write_public cd_write_public ct_write_public
      F_write_public := fun_mk (st := s_write_public) l_write_public c_write_public k_write_public
      b_write_public := (fun_mk (st := s_write_public) l_write_public c_write_public k_write_public).binds (ps := ["act"]) fun _ _ _ _ _ _ us hl => match us, hl with | [_], _ => rfl
      g_write_public := PySem.W.mg_of X G a_write_public
      a_write_change := f_write_change
      d_write_change := PySem.W.fnOf "write_change" "write_change" (defArgs s_write_change) (defBody s_write_change) (defScope s_write_change) .none kV_write_change dc_write_change pm_write_change an_write_change cd_write_change ct_write_change
      F_write_change := fun_mk (st := s_write_change) l_write_change c_write_change k_write_change
      b_write_change := (fun_mk (st := s_write_change) l_write_change c_write_change k_write_change).binds (ps := ["change"]) fun _ _ _ _ _ _ us hl => match us, hl with | [_], _ => rfl
      g_write_change := PySem.W.mg_of X G a_write_change
      a_write_characters := f_write_characters
      d_write_characters := PySem.W.fnOf "write_characters" "write_characters" (defArgs s_write_characters) (defBody s_write_characters) (defScope s_write_characters) .none kV_write_characters dc_write_characters pm_write_characters an_write_characters cd_write_characters ct_write_characters
      F_write_characters := fun_mk (st := s_write_characters) l_write_characters c_write_characters k_write_characters
      b_write_characters := (fun_mk (st := s_write_characters) l_write_characters c_write_characters k_write_characters).binds (ps := ["characters"]) fun _ _ _ _ _ _ us hl => match us, hl with | [_], _ => rfl
      g_write_characters := PySem.W.mg_of X G a_write_characters
      a_write_kept := f_write_kept
      d_write_kept := PySem.W.fnOf "write_kept" "write_kept" (defArgs s_write_kept) (defBody s_write_kept) (defScope s_write_kept) .none kV_write_kept dc_write_kept pm_write_kept an_write_kept cd_write_kept ct_write_kept
      F_write_kept := fun_mk (st := s_write_kept) l_write_kept c_write_kept k_write_kept
      b_write_kept := (fun_mk (st := s_write_kept) l_write_kept c_write_kept k_write_kept).binds (ps := ["kept"]) fun _ _ _ _ _ _ us hl => match us, hl with | [_], _ => rfl
      g_write_kept := PySem.W.mg_of X G a_write_kept
      a_write_optional_kept := f_write_optional_kept
      d_write_optional_kept := PySem.W.fnOf "write_optional_kept" "write_optional_kept" (defArgs s_write_optional_kept) (defBody s_write_optional_kept) (defScope s_write_optional_kept) .none kV_write_optional_kept dc_write_optional_kept pm_write_optional_kept an_write_optional_kept cd_write_optional_kept ct_write_optional_kept
      F_write_optional_kept := fun_mk (st := s_write_optional_kept) l_write_optional_kept c_write_optional_kept k_write_optional_kept
      b_write_optional_kept := (fun_mk (st := s_write_optional_kept) l_write_optional_kept c_write_optional_kept k_write_optional_kept).binds (ps := ["kept"]) fun _ _ _ _ _ _ us hl => match us, hl with | [_], _ => rfl
      g_write_optional_kept := PySem.W.mg_of X G a_write_optional_kept
      a_write_capability := f_write_capability
      d_write_capability := PySem.W.fnOf "write_capability" "write_capability" (defArgs s_write_capability) (defBody s_write_capability) (defScope s_write_capability) .none kV_write_capability dc_write_capability pm_write_capability an_write_capability cd_write_capability ct_write_capability
      F_write_capability := fun_mk (st := s_write_capability) l_write_capability c_write_capability k_write_capability
      b_write_capability := (fun_mk (st := s_write_capability) l_write_capability c_write_capability k_write_capability).binds (ps := ["entry"]) fun _ _ _ _ _ _ us hl => match us, hl with | [_], _ => rfl
      g_write_capability := PySem.W.mg_of X G a_write_capability
      a_write_store := f_write_store
      d_write_store := PySem.W.fnOf "write_store" "write_store" (defArgs s_write_store) (defBody s_write_store) (defScope s_write_store) .none kV_write_store dc_write_store pm_write_store an_write_store cd_write_store ct_write_store
      F_write_store := fun_mk (st := s_write_store) l_write_store c_write_store k_write_store
      b_write_store := (fun_mk (st := s_write_store) l_write_store c_write_store k_write_store).binds (ps := ["store"]) fun _ _ _ _ _ _ us hl => match us, hl with | [_], _ => rfl
      g_write_store := PySem.W.mg_of X G a_write_store
      a_as_tuple := f_as_tuple
      d_as_tuple := PySem.W.fnOf "_as_tuple" "_as_tuple" (defArgs s_as_tuple) (defBody s_as_tuple) (defScope s_as_tuple) .none kV_as_tuple dc_as_tuple pm_as_tuple an_as_tuple cd_as_tuple ct_as_tuple
      F_as_tuple := fun_mk (st := s_as_tuple) l_as_tuple c_as_tuple k_as_tuple
      b_as_tuple := (fun_mk (st := s_as_tuple) l_as_tuple c_as_tuple k_as_tuple).binds (ps := ["part"]) fun _ _ _ _ _ _ us hl => match us, hl with | [_], _ => rfl
      g_as_tuple := PySem.W.mg_of X G a_as_tuple
      a_Change_init := f_Change_init
      d_Change_init := PySem.W.fnOf "__init__" "Change.__init__" (defArgs s_Change_init) (defBody s_Change_init) (defScope s_Change_init) .none kV_Change_init dc_Change_init pm_Change_init an_Change_init cd_Change_init ct_Change_init
      F_Change_init := fun_mk (st := s_Change_init) l_Change_init c_Change_init k_Change_init
      b_Change_init := (fun_mk (st := s_Change_init) l_Change_init c_Change_init k_Change_init).binds (ps := ["self", "author", "number", "heard", "capability", "publics", "parts"]) fun _ _ _ _ _ _ us hl => match us, hl with | [_, _, _, _, _, _, _], _ => rfl
      M_Change := ⟨mk_Change, a_Change_init, i_Change_init, kc_Change⟩
      a_Change_name := f_Change_name
      d_Change_name := PySem.W.fnOf "name" "Change.name" (defArgs s_Change_name) (defBody s_Change_name) (defScope s_Change_name) .none kV_Change_name dc_Change_name pm_Change_name an_Change_name cd_Change_name ct_Change_name
      F_Change_name := fun_mk (st := s_Change_name) l_Change_name c_Change_name k_Change_name
      b_Change_name := (fun_mk (st := s_Change_name) l_Change_name c_Change_name k_Change_name).binds (ps := ["self"]) fun _ _ _ _ _ _ us hl => match us, hl with | [_], _ => rfl
      m_Change_name := ⟨a_Change_name, i_Change_name, k_Change_name⟩
      a_Kept_init := f_Kept_init
      d_Kept_init := PySem.W.fnOf "__init__" "Kept.__init__" (defArgs s_Kept_init) (defBody s_Kept_init) (defScope s_Kept_init) .none kV_Kept_init dc_Kept_init pm_Kept_init an_Kept_init cd_Kept_init ct_Kept_init
      F_Kept_init := fun_mk (st := s_Kept_init) l_Kept_init c_Kept_init k_Kept_init
      b_Kept_init := (fun_mk (st := s_Kept_init) l_Kept_init c_Kept_init k_Kept_init).binds (ps := ["self", "acts", "sums", "texts"]) fun _ _ _ _ _ _ us hl => match us, hl with | [_, _, _, _], _ => rfl
      M_Kept := ⟨mk_Kept, a_Kept_init, i_Kept_init, kc_Kept⟩
      a_Store_init := f_Store_init
      d_Store_init := PySem.W.fnOf "__init__" "Store.__init__" (defArgs s_Store_init) (defBody s_Store_init) (defScope s_Store_init) .none kV_Store_init dc_Store_init pm_Store_init an_Store_init cd_Store_init ct_Store_init
      F_Store_init := fun_mk (st := s_Store_init) l_Store_init c_Store_init k_Store_init
      b_Store_init := (fun_mk (st := s_Store_init) l_Store_init c_Store_init k_Store_init).binds (ps := ["self", "members"]) fun _ _ _ _ _ _ us hl => match us, hl with | [_, _], _ => rfl
      M_Store := ⟨mk_Store, a_Store_init, i_Store_init, kc_Store⟩
      a_Store_count := f_Store_count
      d_Store_count := PySem.W.fnOf "count" "Store.count" (defArgs s_Store_count) (defBody s_Store_count) (defScope s_Store_count) .none kV_Store_count dc_Store_count pm_Store_count an_Store_count cd_Store_count ct_Store_count
      F_Store_count := fun_mk (st := s_Store_count) l_Store_count c_Store_count k_Store_count
      b_Store_count := (fun_mk (st := s_Store_count) l_Store_count c_Store_count k_Store_count).binds (ps := ["self", "member"]) fun _ _ _ _ _ _ us hl => match us, hl with | [_, _], _ => rfl
      m_Store_count := ⟨a_Store_count, i_Store_count, k_Store_count⟩
      a_Store_counts := f_Store_counts
      d_Store_counts := PySem.W.fnOf "counts" "Store.counts" (defArgs s_Store_counts) (defBody s_Store_counts) (defScope s_Store_counts) .none kV_Store_counts dc_Store_counts pm_Store_counts an_Store_counts cd_Store_counts ct_Store_counts
      F_Store_counts := fun_mk (st := s_Store_counts) l_Store_counts c_Store_counts k_Store_counts
      b_Store_counts := (fun_mk (st := s_Store_counts) l_Store_counts c_Store_counts k_Store_counts).binds (ps := ["self"]) fun _ _ _ _ _ _ us hl => match us, hl with | [_], _ => rfl
      m_Store_counts := ⟨a_Store_counts, i_Store_counts, k_Store_counts⟩
      a_Store_find := f_Store_find
      d_Store_find := PySem.W.fnOf "find" "Store.find" (defArgs s_Store_find) (defBody s_Store_find) (defScope s_Store_find) .none kV_Store_find dc_Store_find pm_Store_find an_Store_find cd_Store_find ct_Store_find
      F_Store_find := fun_mk (st := s_Store_find) l_Store_find c_Store_find k_Store_find
      b_Store_find := (fun_mk (st := s_Store_find) l_Store_find c_Store_find k_Store_find).binds (ps := ["self", "name"]) fun _ _ _ _ _ _ us hl => match us, hl with | [_, _], _ => rfl
      m_Store_find := ⟨a_Store_find, i_Store_find, k_Store_find⟩
      a_Store_add := f_Store_add
      d_Store_add := PySem.W.fnOf "add" "Store.add" (defArgs s_Store_add) (defBody s_Store_add) (defScope s_Store_add) .none kV_Store_add dc_Store_add pm_Store_add an_Store_add cd_Store_add ct_Store_add
      F_Store_add := fun_mk (st := s_Store_add) l_Store_add c_Store_add k_Store_add
      b_Store_add := (fun_mk (st := s_Store_add) l_Store_add c_Store_add k_Store_add).binds (ps := ["self", "change"]) fun _ _ _ _ _ _ us hl => match us, hl with | [_, _], _ => rfl
      m_Store_add := ⟨a_Store_add, i_Store_add, k_Store_add⟩
      a_unknown_names := f_unknown_names
      d_unknown_names := PySem.W.fnOf "unknown_names" "unknown_names" (defArgs s_unknown_names) (defBody s_unknown_names) (defScope s_unknown_names) .none kV_unknown_names dc_unknown_names pm_unknown_names an_unknown_names cd_unknown_names ct_unknown_names
      F_unknown_names := fun_mk (st := s_unknown_names) l_unknown_names c_unknown_names k_unknown_names
      b_unknown_names := (fun_mk (st := s_unknown_names) l_unknown_names c_unknown_names k_unknown_names).binds (ps := ["store", "space"]) fun _ _ _ _ _ _ us hl => match us, hl with | [_, _], _ => rfl
      g_unknown_names := PySem.W.mg_of X G a_unknown_names
      a_asking := f_asking
      d_asking := PySem.W.fnOf "asking" "asking" (defArgs s_asking) (defBody s_asking) (defScope s_asking) .none kV_asking dc_asking pm_asking an_asking cd_asking ct_asking
      F_asking := fun_mk (st := s_asking) l_asking c_asking k_asking
      b_asking := (fun_mk (st := s_asking) l_asking c_asking k_asking).binds (ps := ["store", "member"]) fun _ _ _ _ _ _ us hl => match us, hl with | [_, _], _ => rfl
      g_asking := PySem.W.mg_of X G a_asking
      a_draw := f_draw
      d_draw := PySem.W.fnOf "_law_draw" "_law_draw" (defArgs s_draw) (defBody s_draw) (defScope s_draw) .none kV_draw dc_draw pm_draw an_draw cd_draw ct_draw
      F_draw := fun_mk (st := s_draw) l_draw c_draw k_draw
      b_draw := (fun_mk (st := s_draw) l_draw c_draw k_draw).binds (ps := ["_law_script", "_law_k"]) fun _ _ _ _ _ _ us hl => match us, hl with | [_, _], _ => rfl
      g_draw := PySem.W.mg_of X G a_draw
      a_spot := f_spot
      d_spot := PySem.W.fnOf "_law_spot" "_law_spot" (defArgs s_spot) (defBody s_spot) (defScope s_spot) .none kV_spot dc_spot pm_spot an_spot cd_spot ct_spot
      F_spot := fun_mk (st := s_spot) l_spot c_spot k_spot
      b_spot := (fun_mk (st := s_spot) l_spot c_spot k_spot).binds (ps := ["_law_number_here"]) fun _ _ _ _ _ _ us hl => match us, hl with | [_], _ => rfl
      g_spot := PySem.W.mg_of X G a_spot
      a_text := f_text
      d_text := PySem.W.fnOf "_law_text" "_law_text" (defArgs s_text) (defBody s_text) (defScope s_text) .none kV_text dc_text pm_text an_text cd_text ct_text
      F_text := fun_mk (st := s_text) l_text c_text k_text
      b_text := (fun_mk (st := s_text) l_text c_text k_text).binds (ps := ["_law_number_here"]) fun _ _ _ _ _ _ us hl => match us, hl with | [_], _ => rfl
      g_text := PySem.W.mg_of X G a_text
      a_value := f_value
      d_value := PySem.W.fnOf "_law_value" "_law_value" (defArgs s_value) (defBody s_value) (defScope s_value) .none kV_value dc_value pm_value an_value cd_value ct_value
      F_value := fun_mk (st := s_value) l_value c_value k_value
      b_value := (fun_mk (st := s_value) l_value c_value k_value).binds (ps := ["_law_number_here"]) fun _ _ _ _ _ _ us hl => match us, hl with | [_], _ => rfl
      g_value := PySem.W.mg_of X G a_value
      a_act := f_act
      d_act := PySem.W.fnOf "_law_act" "_law_act" (defArgs s_act) (defBody s_act) (defScope s_act) .none kV_act dc_act pm_act an_act cd_act ct_act
      F_act := fun_mk (st := s_act) l_act c_act k_act
      b_act := (fun_mk (st := s_act) l_act c_act k_act).binds (ps := ["_law_kind", "_law_number_here"]) fun _ _ _ _ _ _ us hl => match us, hl with | [_, _], _ => rfl
      g_act := PySem.W.mg_of X G a_act
      a_rights := f_rights
      d_rights := PySem.W.fnOf "_law_rights" "_law_rights" (defArgs s_rights) (defBody s_rights) (defScope s_rights) .none kV_rights dc_rights pm_rights an_rights cd_rights ct_rights
      F_rights := fun_mk (st := s_rights) l_rights c_rights k_rights
      b_rights := (fun_mk (st := s_rights) l_rights c_rights k_rights).binds (ps := ["_law_number_here"]) fun _ _ _ _ _ _ us hl => match us, hl with | [_], _ => rfl
      g_rights := PySem.W.mg_of X G a_rights
      a_number := f_number
      d_number := PySem.W.fnOf "_law_number" "_law_number" (defArgs s_number) (defBody s_number) (defScope s_number) .none kV_number dc_number pm_number an_number cd_number ct_number
      F_number := fun_mk (st := s_number) l_number c_number k_number
      b_number := (fun_mk (st := s_number) l_number c_number k_number).binds (ps := ["_law_number_here"]) fun _ _ _ _ _ _ us hl => match us, hl with | [_], _ => rfl
      g_number := PySem.W.mg_of X G a_number
      a_numbers := f_numbers
      d_numbers := PySem.W.fnOf "_law_numbers" "_law_numbers" (defArgs s_numbers) (defBody s_numbers) (defScope s_numbers) .none kV_numbers dc_numbers pm_numbers an_numbers cd_numbers ct_numbers
      F_numbers := fun_mk (st := s_numbers) l_numbers c_numbers k_numbers
      b_numbers := (fun_mk (st := s_numbers) l_numbers c_numbers k_numbers).binds (ps := ["_law_numbers_here"]) fun _ _ _ _ _ _ us hl => match us, hl with | [_], _ => rfl
      g_numbers := PySem.W.mg_of X G a_numbers
      a_signed := f_signed
      d_signed := PySem.W.fnOf "_law_signed" "_law_signed" (defArgs s_signed) (defBody s_signed) (defScope s_signed) .none kV_signed dc_signed pm_signed an_signed cd_signed ct_signed
      F_signed := fun_mk (st := s_signed) l_signed c_signed k_signed
      b_signed := (fun_mk (st := s_signed) l_signed c_signed k_signed).binds (ps := ["_law_number_here"]) fun _ _ _ _ _ _ us hl => match us, hl with | [_], _ => rfl
      g_signed := PySem.W.mg_of X G a_signed
      a_string := f_string
      d_string := PySem.W.fnOf "_law_string" "_law_string" (defArgs s_string) (defBody s_string) (defScope s_string) .none kV_string dc_string pm_string an_string cd_string ct_string
      F_string := fun_mk (st := s_string) l_string c_string k_string
      b_string := (fun_mk (st := s_string) l_string c_string k_string).binds (ps := ["_law_text_here"]) fun _ _ _ _ _ _ us hl => match us, hl with | [_], _ => rfl
      g_string := PySem.W.mg_of X G a_string
      a_optional := f_optional
      d_optional := PySem.W.fnOf "_law_optional" "_law_optional" (defArgs s_optional) (defBody s_optional) (defScope s_optional) .none kV_optional dc_optional pm_optional an_optional cd_optional ct_optional
      F_optional := fun_mk (st := s_optional) l_optional c_optional k_optional
      b_optional := (fun_mk (st := s_optional) l_optional c_optional k_optional).binds (ps := ["_law_numbers_here"]) fun _ _ _ _ _ _ us hl => match us, hl with | [_], _ => rfl
      g_optional := PySem.W.mg_of X G a_optional
      a_bytes_of := f_bytes_of
      d_bytes_of := PySem.W.fnOf "_law_bytes_of" "_law_bytes_of" (defArgs s_bytes_of) (defBody s_bytes_of) (defScope s_bytes_of) .none kV_bytes_of dc_bytes_of pm_bytes_of an_bytes_of cd_bytes_of ct_bytes_of
      F_bytes_of := fun_mk (st := s_bytes_of) l_bytes_of c_bytes_of k_bytes_of
      b_bytes_of := (fun_mk (st := s_bytes_of) l_bytes_of c_bytes_of k_bytes_of).binds (ps := ["_law_value_here"]) fun _ _ _ _ _ _ us hl => match us, hl with | [_], _ => rfl
      g_bytes_of := PySem.W.mg_of X G a_bytes_of
      a_holds := f_holds
      d_holds := PySem.W.fnOf "_law_holds" "_law_holds" (defArgs s_holds) (defBody s_holds) (defScope s_holds) .none kV_holds dc_holds pm_holds an_holds cd_holds ct_holds
      F_holds := fun_mk (st := s_holds) l_holds c_holds k_holds
      b_holds := (fun_mk (st := s_holds) l_holds c_holds k_holds).binds (ps := ["_law_holds_here"]) fun _ _ _ _ _ _ us hl => match us, hl with | [_], _ => rfl
      g_holds := PySem.W.mg_of X G a_holds
      a_act_bytes := f_act_bytes
      d_act_bytes := PySem.W.fnOf "_law_act_bytes" "_law_act_bytes" (defArgs s_act_bytes) (defBody s_act_bytes) (defScope s_act_bytes) .none kV_act_bytes dc_act_bytes pm_act_bytes an_act_bytes cd_act_bytes ct_act_bytes
      F_act_bytes := fun_mk (st := s_act_bytes) l_act_bytes c_act_bytes k_act_bytes
      b_act_bytes := (fun_mk (st := s_act_bytes) l_act_bytes c_act_bytes k_act_bytes).binds (ps := ["_law_act_here"]) fun _ _ _ _ _ _ us hl => match us, hl with | [_], _ => rfl
      g_act_bytes := PySem.W.mg_of X G a_act_bytes
      a_rights_bytes := f_rights_bytes
      d_rights_bytes := PySem.W.fnOf "_law_rights_bytes" "_law_rights_bytes" (defArgs s_rights_bytes) (defBody s_rights_bytes) (defScope s_rights_bytes) .none kV_rights_bytes dc_rights_bytes pm_rights_bytes an_rights_bytes cd_rights_bytes ct_rights_bytes
      F_rights_bytes := fun_mk (st := s_rights_bytes) l_rights_bytes c_rights_bytes k_rights_bytes
      b_rights_bytes := (fun_mk (st := s_rights_bytes) l_rights_bytes c_rights_bytes k_rights_bytes).binds (ps := ["_law_rights_here"]) fun _ _ _ _ _ _ us hl => match us, hl with | [_], _ => rfl
      g_rights_bytes := PySem.W.mg_of X G a_rights_bytes
      a_change_bytes := f_change_bytes
      d_change_bytes := PySem.W.fnOf "_law_change_bytes" "_law_change_bytes" (defArgs s_change_bytes) (defBody s_change_bytes) (defScope s_change_bytes) .none kV_change_bytes dc_change_bytes pm_change_bytes an_change_bytes cd_change_bytes ct_change_bytes
      F_change_bytes := fun_mk (st := s_change_bytes) l_change_bytes c_change_bytes k_change_bytes
      b_change_bytes := (fun_mk (st := s_change_bytes) l_change_bytes c_change_bytes k_change_bytes).binds (ps := ["_law_change_here"]) fun _ _ _ _ _ _ us hl => match us, hl with | [_], _ => rfl
      g_change_bytes := PySem.W.mg_of X G a_change_bytes
      a_change := f_change
      d_change := PySem.W.fnOf "_law_change" "_law_change" (defArgs s_change) (defBody s_change) (defScope s_change) .none kV_change dc_change pm_change an_change cd_change ct_change
      F_change := fun_mk (st := s_change) l_change c_change k_change
      b_change := (fun_mk (st := s_change) l_change c_change k_change).binds (ps := ["_law_number_here"]) fun _ _ _ _ _ _ us hl => match us, hl with | [_], _ => rfl
      g_change := PySem.W.mg_of X G a_change
      a_entry := f_entry
      d_entry := PySem.W.fnOf "_law_entry" "_law_entry" (defArgs s_entry) (defBody s_entry) (defScope s_entry) .none kV_entry dc_entry pm_entry an_entry cd_entry ct_entry
      F_entry := fun_mk (st := s_entry) l_entry c_entry k_entry
      b_entry := (fun_mk (st := s_entry) l_entry c_entry k_entry).binds (ps := ["_law_number_here"]) fun _ _ _ _ _ _ us hl => match us, hl with | [_], _ => rfl
      g_entry := PySem.W.mg_of X G a_entry
      a_kept := f_kept
      d_kept := PySem.W.fnOf "_law_kept" "_law_kept" (defArgs s_kept) (defBody s_kept) (defScope s_kept) .none kV_kept dc_kept pm_kept an_kept cd_kept ct_kept
      F_kept := fun_mk (st := s_kept) l_kept c_kept k_kept
      b_kept := (fun_mk (st := s_kept) l_kept c_kept k_kept).binds (ps := ["_law_number_here"]) fun _ _ _ _ _ _ us hl => match us, hl with | [_], _ => rfl
      g_kept := PySem.W.mg_of X G a_kept
      a_order := f_order
      d_order := PySem.W.fnOf "_law_order" "_law_order" (defArgs s_order) (defBody s_order) (defScope s_order) .none kV_order dc_order pm_order an_order cd_order ct_order
      F_order := fun_mk (st := s_order) l_order c_order k_order
      b_order := (fun_mk (st := s_order) l_order c_order k_order).binds (ps := ["_law_number_here"]) fun _ _ _ _ _ _ us hl => match us, hl with | [_], _ => rfl
      g_order := PySem.W.mg_of X G a_order
      a_store := f_store
      d_store := PySem.W.fnOf "_law_store" "_law_store" (defArgs s_store) (defBody s_store) (defScope s_store) .none kV_store dc_store pm_store an_store cd_store ct_store
      F_store := fun_mk (st := s_store) l_store c_store k_store
      b_store := (fun_mk (st := s_store) l_store c_store k_store).binds (ps := ["_law_number_here"]) fun _ _ _ _ _ _ us hl => match us, hl with | [_], _ => rfl
      g_store := PySem.W.mg_of X G a_store
      a_law := f_law
      d_law := PySem.W.fnOf "law" "law" (defArgs s_law) (defBody s_law) (defScope s_law) .none kV_law dc_law pm_law an_law cd_law ct_law
      F_law := fun_mk (st := s_law) l_law c_law k_law
      b_law := (fun_mk (st := s_law) l_law c_law k_law).binds (ps := ["_law_script"]) fun _ _ _ _ _ _ us hl => match us, hl with | [_], _ => rfl
      g_law := PySem.W.mg_of X G a_law
      z_abs := PySem.W.mg_none_of X G z_abs
      z_bool := PySem.W.mg_none_of X G z_bool
      z_int := PySem.W.mg_none_of X G z_int
      z_isinstance := PySem.W.mg_none_of X G z_isinstance
      z_len := PySem.W.mg_none_of X G z_len
      z_min := PySem.W.mg_none_of X G z_min
      z_ord := PySem.W.mg_none_of X G z_ord
      z_range := PySem.W.mg_none_of X G z_range
      z_str := PySem.W.mg_none_of X G z_str
      z_tuple := PySem.W.mg_none_of X G z_tuple }).imp (fun vs H Q E q => law_sp q)⟩
end Kb
open PySem PySem.W PyProof.Rows
theorem Kb.relI (i : Int) (t : Tok) : L2.RelV (L2.V.int i) (Value.int i t) := ⟨t, rfl⟩
theorem Kb.relS (x : Str) (t : Tok) : L2.RelV (L2.V.str x) (Value.str x t) := ⟨t, rfl⟩
set_option maxRecDepth 100000 in
set_option maxHeartbeats 0 in
theorem PySem.Challenge.cw_kithbase_k66_bytes_of_codes_holds : PySem.Challenge.rw_kithbase_k66_bytes_of_codes.Holds := by
  w_on; o_law; k_head; (case hw => w_witness2)
  k_fill
  refine L2.walk_of (l := PySem.Challenge.rw_kithbase_k66_bytes_of_codes) (n := 63) (k := 10) (x := "_law_script") (CX := fun _ => L2.CX0) (sp := fun w => Kb.spLaw _) rfl (by decide) rfl ⟨rfl, by decide, by decide⟩ (fun w h Y => PySem.W.kIn_of Y) ?F (fun _ _ a ns hl _ hS => ⟨a, ns, rfl, hS, hl, fun _ => rfl⟩) (fun _ _ _ _ _ h => h)
  case F =>
    intro w mg fa h KX G hmg
    refine' Kb.all_mk KX G hmg ?aC_Change ?pg_Change ?hd_Change ?po_Change ?sa_Change ?mk_Change ?kc_Change ?n_Change_author ?n_Change_capability ?n_Change_heard ?n_Change_number ?n_Change_parts ?n_Change_publics ?aC_Kept ?pg_Kept ?hd_Kept ?po_Kept ?sa_Kept ?mk_Kept ?kc_Kept ?n_Kept_acts ?n_Kept_sums ?n_Kept_texts ?aC_Store ?pg_Store ?hd_Store ?po_Store ?sa_Store ?mk_Store ?kc_Store ?n_Store_capabilities ?n_Store_changes ?n_Store_cut ?n_Store_kept ?n_Store_members ?a_write_number ?l_write_number ?c_write_number ?k_write_number ?a_write_integer ?l_write_integer ?c_write_integer ?k_write_integer ?a_write_string ?l_write_string ?c_write_string ?k_write_string ?a_write_numbers ?l_write_numbers ?c_write_numbers ?k_write_numbers ?a_write_list ?l_write_list ?c_write_list ?k_write_list ?a_write_optional ?l_write_optional ?c_write_optional ?k_write_optional ?a_write_value ?l_write_value ?c_write_value ?k_write_value ?a_write_holds ?l_write_holds ?c_write_holds ?k_write_holds ?a_write_cell_act ?l_write_cell_act ?c_write_cell_act ?k_write_cell_act ?a_write_act ?l_write_act ?c_write_act ?k_write_act ?a_write_rights ?l_write_rights ?c_write_rights ?k_write_rights ?a_write_public ?l_write_public ?c_write_public ?k_write_public ?a_write_change ?l_write_change ?c_write_change ?k_write_change ?a_write_characters ?l_write_characters ?c_write_characters ?k_write_characters ?a_write_kept ?l_write_kept ?c_write_kept ?k_write_kept ?a_write_optional_kept ?l_write_optional_kept ?c_write_optional_kept ?k_write_optional_kept ?a_write_capability ?l_write_capability ?c_write_capability ?k_write_capability ?a_write_store ?l_write_store ?c_write_store ?k_write_store ?a_as_tuple ?l_as_tuple ?c_as_tuple ?k_as_tuple ?a_Change_init ?i_Change_init ?l_Change_init ?c_Change_init ?k_Change_init ?a_Change_name ?i_Change_name ?l_Change_name ?c_Change_name ?k_Change_name ?a_Kept_init ?i_Kept_init ?l_Kept_init ?c_Kept_init ?k_Kept_init ?a_Store_init ?i_Store_init ?l_Store_init ?c_Store_init ?k_Store_init ?a_Store_count ?i_Store_count ?l_Store_count ?c_Store_count ?k_Store_count ?a_Store_counts ?i_Store_counts ?l_Store_counts ?c_Store_counts ?k_Store_counts ?a_Store_find ?i_Store_find ?l_Store_find ?c_Store_find ?k_Store_find ?a_Store_add ?i_Store_add ?l_Store_add ?c_Store_add ?k_Store_add ?a_unknown_names ?l_unknown_names ?c_unknown_names ?k_unknown_names ?a_asking ?l_asking ?c_asking ?k_asking ?a_draw ?l_draw ?c_draw ?k_draw ?a_spot ?l_spot ?c_spot ?k_spot ?a_text ?l_text ?c_text ?k_text ?a_value ?l_value ?c_value ?k_value ?a_act ?l_act ?c_act ?k_act ?a_rights ?l_rights ?c_rights ?k_rights ?a_number ?l_number ?c_number ?k_number ?a_numbers ?l_numbers ?c_numbers ?k_numbers ?a_signed ?l_signed ?c_signed ?k_signed ?a_string ?l_string ?c_string ?k_string ?a_optional ?l_optional ?c_optional ?k_optional ?a_bytes_of ?l_bytes_of ?c_bytes_of ?k_bytes_of ?a_holds ?l_holds ?c_holds ?k_holds ?a_act_bytes ?l_act_bytes ?c_act_bytes ?k_act_bytes ?a_rights_bytes ?l_rights_bytes ?c_rights_bytes ?k_rights_bytes ?a_change_bytes ?l_change_bytes ?c_change_bytes ?k_change_bytes ?a_change ?l_change ?c_change ?k_change ?a_entry ?l_entry ?c_entry ?k_entry ?a_kept ?l_kept ?c_kept ?k_kept ?a_order ?l_order ?c_order ?k_order ?a_store ?l_store ?c_store ?k_store ?a_law ?l_law ?c_law ?k_law ?z_abs ?z_bool ?z_int ?z_isinstance ?z_len ?z_min ?z_ord ?z_range ?z_str ?z_tuple ?gc_ACTWORDS ?rc_ACTWORDS ?qc_ACTWORDS ?tc_ACTWORDS ?gc_KINDWORDS ?rc_KINDWORDS ?qc_KINDWORDS ?tc_KINDWORDS ?gc_SPACES ?rc_SPACES ?qc_SPACES
    (case aC_Change => k_is)
    (case pg_Change => k_is)
    (case hd_Change => k_is)
    (case po_Change => k_is)
    (case sa_Change => k_is)
    (case mk_Change => k_is)
    (case kc_Change => k_is)
    (case n_Change_author => k_is)
    (case n_Change_capability => k_is)
    (case n_Change_heard => k_is)
    (case n_Change_number => k_is)
    (case n_Change_parts => k_is)
    (case n_Change_publics => k_is)
    (case aC_Kept => k_is)
    (case pg_Kept => k_is)
    (case hd_Kept => k_is)
    (case po_Kept => k_is)
    (case sa_Kept => k_is)
    (case mk_Kept => k_is)
    (case kc_Kept => k_is)
    (case n_Kept_acts => k_is)
    (case n_Kept_sums => k_is)
    (case n_Kept_texts => k_is)
    (case aC_Store => k_is)
    (case pg_Store => k_is)
    (case hd_Store => k_is)
    (case po_Store => k_is)
    (case sa_Store => k_is)
    (case mk_Store => k_is)
    (case kc_Store => k_is)
    (case n_Store_capabilities => k_is)
    (case n_Store_changes => k_is)
    (case n_Store_cut => k_is)
    (case n_Store_kept => k_is)
    (case n_Store_members => k_is)
    (case a_write_number => k_is)
    (case l_write_number => k_is)
    (case c_write_number => k_is)
    (case k_write_number => k_is)
    (case a_write_integer => k_is)
    (case l_write_integer => k_is)
    (case c_write_integer => k_is)
    (case k_write_integer => k_is)
    (case a_write_string => k_is)
    (case l_write_string => k_is)
    (case c_write_string => k_is)
    (case k_write_string => k_is)
    (case a_write_numbers => k_is)
    (case l_write_numbers => k_is)
    (case c_write_numbers => k_is)
    (case k_write_numbers => k_is)
    (case a_write_list => k_is)
    (case l_write_list => k_is)
    (case c_write_list => k_is)
    (case k_write_list => k_is)
    (case a_write_optional => k_is)
    (case l_write_optional => k_is)
    (case c_write_optional => k_is)
    (case k_write_optional => k_is)
    (case a_write_value => k_is)
    (case l_write_value => k_is)
    (case c_write_value => k_is)
    (case k_write_value => k_is)
    (case a_write_holds => k_is)
    (case l_write_holds => k_is)
    (case c_write_holds => k_is)
    (case k_write_holds => k_is)
    (case a_write_cell_act => k_is)
    (case l_write_cell_act => k_is)
    (case c_write_cell_act => k_is)
    (case k_write_cell_act => k_is)
    (case a_write_act => k_is)
    (case l_write_act => k_is)
    (case c_write_act => k_is)
    (case k_write_act => k_is)
    (case a_write_rights => k_is)
    (case l_write_rights => k_is)
    (case c_write_rights => k_is)
    (case k_write_rights => k_is)
    (case a_write_public => k_is)
    (case l_write_public => k_is)
    (case c_write_public => k_is)
    (case k_write_public => k_is)
    (case a_write_change => k_is)
    (case l_write_change => k_is)
    (case c_write_change => k_is)
    (case k_write_change => k_is)
    (case a_write_characters => k_is)
    (case l_write_characters => k_is)
    (case c_write_characters => k_is)
    (case k_write_characters => k_is)
    (case a_write_kept => k_is)
    (case l_write_kept => k_is)
    (case c_write_kept => k_is)
    (case k_write_kept => k_is)
    (case a_write_optional_kept => k_is)
    (case l_write_optional_kept => k_is)
    (case c_write_optional_kept => k_is)
    (case k_write_optional_kept => k_is)
    (case a_write_capability => k_is)
    (case l_write_capability => k_is)
    (case c_write_capability => k_is)
    (case k_write_capability => k_is)
    (case a_write_store => k_is)
    (case l_write_store => k_is)
    (case c_write_store => k_is)
    (case k_write_store => k_is)
    (case a_as_tuple => k_is)
    (case l_as_tuple => k_is)
    (case c_as_tuple => k_is)
    (case k_as_tuple => k_is)
    (case a_Change_init => k_is)
    (case i_Change_init => k_is)
    (case l_Change_init => k_is)
    (case c_Change_init => k_is)
    (case k_Change_init => k_is)
    (case a_Change_name => k_is)
    (case i_Change_name => k_is)
    (case l_Change_name => k_is)
    (case c_Change_name => k_is)
    (case k_Change_name => k_is)
    (case a_Kept_init => k_is)
    (case i_Kept_init => k_is)
    (case l_Kept_init => k_is)
    (case c_Kept_init => k_is)
    (case k_Kept_init => k_is)
    (case a_Store_init => k_is)
    (case i_Store_init => k_is)
    (case l_Store_init => k_is)
    (case c_Store_init => k_is)
    (case k_Store_init => k_is)
    (case a_Store_count => k_is)
    (case i_Store_count => k_is)
    (case l_Store_count => k_is)
    (case c_Store_count => k_is)
    (case k_Store_count => k_is)
    (case a_Store_counts => k_is)
    (case i_Store_counts => k_is)
    (case l_Store_counts => k_is)
    (case c_Store_counts => k_is)
    (case k_Store_counts => k_is)
    (case a_Store_find => k_is)
    (case i_Store_find => k_is)
    (case l_Store_find => k_is)
    (case c_Store_find => k_is)
    (case k_Store_find => k_is)
    (case a_Store_add => k_is)
    (case i_Store_add => k_is)
    (case l_Store_add => k_is)
    (case c_Store_add => k_is)
    (case k_Store_add => k_is)
    (case a_unknown_names => k_is)
    (case l_unknown_names => k_is)
    (case c_unknown_names => k_is)
    (case k_unknown_names => k_is)
    (case a_asking => k_is)
    (case l_asking => k_is)
    (case c_asking => k_is)
    (case k_asking => k_is)
    (case a_draw => k_is)
    (case l_draw => k_is)
    (case c_draw => k_is)
    (case k_draw => k_is)
    (case a_spot => k_is)
    (case l_spot => k_is)
    (case c_spot => k_is)
    (case k_spot => k_is)
    (case a_text => k_is)
    (case l_text => k_is)
    (case c_text => k_is)
    (case k_text => k_is)
    (case a_value => k_is)
    (case l_value => k_is)
    (case c_value => k_is)
    (case k_value => k_is)
    (case a_act => k_is)
    (case l_act => k_is)
    (case c_act => k_is)
    (case k_act => k_is)
    (case a_rights => k_is)
    (case l_rights => k_is)
    (case c_rights => k_is)
    (case k_rights => k_is)
    (case a_number => k_is)
    (case l_number => k_is)
    (case c_number => k_is)
    (case k_number => k_is)
    (case a_numbers => k_is)
    (case l_numbers => k_is)
    (case c_numbers => k_is)
    (case k_numbers => k_is)
    (case a_signed => k_is)
    (case l_signed => k_is)
    (case c_signed => k_is)
    (case k_signed => k_is)
    (case a_string => k_is)
    (case l_string => k_is)
    (case c_string => k_is)
    (case k_string => k_is)
    (case a_optional => k_is)
    (case l_optional => k_is)
    (case c_optional => k_is)
    (case k_optional => k_is)
    (case a_bytes_of => k_is)
    (case l_bytes_of => k_is)
    (case c_bytes_of => k_is)
    (case k_bytes_of => k_is)
    (case a_holds => k_is)
    (case l_holds => k_is)
    (case c_holds => k_is)
    (case k_holds => k_is)
    (case a_act_bytes => k_is)
    (case l_act_bytes => k_is)
    (case c_act_bytes => k_is)
    (case k_act_bytes => k_is)
    (case a_rights_bytes => k_is)
    (case l_rights_bytes => k_is)
    (case c_rights_bytes => k_is)
    (case k_rights_bytes => k_is)
    (case a_change_bytes => k_is)
    (case l_change_bytes => k_is)
    (case c_change_bytes => k_is)
    (case k_change_bytes => k_is)
    (case a_change => k_is)
    (case l_change => k_is)
    (case c_change => k_is)
    (case k_change => k_is)
    (case a_entry => k_is)
    (case l_entry => k_is)
    (case c_entry => k_is)
    (case k_entry => k_is)
    (case a_kept => k_is)
    (case l_kept => k_is)
    (case c_kept => k_is)
    (case k_kept => k_is)
    (case a_order => k_is)
    (case l_order => k_is)
    (case c_order => k_is)
    (case k_order => k_is)
    (case a_store => k_is)
    (case l_store => k_is)
    (case c_store => k_is)
    (case k_store => k_is)
    (case a_law => k_is)
    (case l_law => k_is)
    (case c_law => k_is)
    (case k_law => k_is)
    (case z_abs => k_is)
    (case z_bool => k_is)
    (case z_int => k_is)
    (case z_isinstance => k_is)
    (case z_len => k_is)
    (case z_min => k_is)
    (case z_ord => k_is)
    (case z_range => k_is)
    (case z_str => k_is)
    (case z_tuple => k_is)
    (case gc_ACTWORDS => k_is)
    (case rc_ACTWORDS => exact Pv.rel_ref)
    (case qc_ACTWORDS => intro F cl; exact Pv.rp_const (vs := [L2.V.str "table", L2.V.str "column", L2.V.str "unique", L2.V.str "row", L2.V.str "drop", L2.V.str "put", L2.V.str "refer", L2.V.str "add", L2.V.str "insert", L2.V.str "remove", L2.V.str "undo"]) (by k_is) rfl rfl (by decide) (.cons ⟨_, rfl⟩ (.cons ⟨_, rfl⟩ (.cons ⟨_, rfl⟩ (.cons ⟨_, rfl⟩ (.cons ⟨_, rfl⟩ (.cons ⟨_, rfl⟩ (.cons ⟨_, rfl⟩ (.cons ⟨_, rfl⟩ (.cons ⟨_, rfl⟩ (.cons ⟨_, rfl⟩ (.cons ⟨_, rfl⟩ .nil))))))))))) (.cons (.str _) (.cons (.str _) (.cons (.str _) (.cons (.str _) (.cons (.str _) (.cons (.str _) (.cons (.str _) (.cons (.str _) (.cons (.str _) (.cons (.str _) (.cons (.str _) .nil))))))))))))
    (case tc_ACTWORDS => exact ⟨_, _, rfl, by k_is, rfl, rfl⟩)
    (case gc_KINDWORDS => k_is)
    (case rc_KINDWORDS => exact Pv.rel_ref)
    (case qc_KINDWORDS => intro F cl; exact Pv.rp_const (vs := [L2.V.str "integer", L2.V.str "text", L2.V.str "boolean", L2.V.str "counter", L2.V.str "letters"]) (by k_is) rfl rfl (by decide) (.cons ⟨_, rfl⟩ (.cons ⟨_, rfl⟩ (.cons ⟨_, rfl⟩ (.cons ⟨_, rfl⟩ (.cons ⟨_, rfl⟩ .nil))))) (.cons (.str _) (.cons (.str _) (.cons (.str _) (.cons (.str _) (.cons (.str _) .nil))))))
    (case tc_KINDWORDS => exact ⟨_, _, rfl, by k_is, rfl, rfl⟩)
    (case gc_SPACES => k_is)
    (case rc_SPACES => exact Kb.relI _ _)
    (case qc_SPACES => intro F cl; exact .int _)

import PyProof.Rows.All
import Wide.All
import OpenK.AllK
import Wide.FinOn
import HandS.ForMost
import HandS.IsInst
import HandS.Wide
import HandS.TupAny
import HandS.Flow
import HandS.Text
import HandS.Codes
import HandS.Dict
import KE.KeyNested
import KE.KTupSum
import KE.SortKeyHeap
import HandS.SortKw
import HandS.Keys
import HandS.Strs
import HandS.Head0
import HandS.Head1
import HandS.Head2
import HandS.HeadEnd
import HandS.HeadHook1
import KE.KDictCopyH
import HandS.TupLen
import HandS.DictComp
import HandS.TupSets
import HandS.NamedTupSort
import KE.GoesEnum
import HandS.Star
import HandS.TupLe
import KE.KDictOf
import HandS.Iter
import KE.KDictWalk
import KE.KDictList
import PySem.Challenge.RW_kithbase_k34_groups_and_aggregates
set_option Elab.async false
set_option linter.all false
set_option maxRecDepth 100000
set_option maxHeartbeats 4000000
/-! values without a heap, over HandS -/
namespace Pv
open PySem PySem.Spec PyProof.Rows L2

/-- data, by value -/
inductive P where
  | non | bl (b : Bool) | int (i : Int) | str (x : Str)
  | tup (ps : List P) | lst (ps : List P)
  | dK (kvs : List (Key × P)) | dT (kvs : List (P × P))
  | ins (c : Nat) (fs : List (Str × P))
/-- a value of a name: data, or the place of an object that may change -/
inductive D where
  | p (x : P) | ref (n : Nat)
/-- an object that may change -/
inductive Ob where
  | lst (ds : List D) | dK (kvs : List (Key × D)) | dT (kvs : List (P × D)) | ins (c : Nat) (fs : List (Str × D))
/-- the classes by number, and the run that hashes -/
structure ClW where
  f : Nat → Addr
  P : Program
  w : World
instance : CoeFun ClW fun _ => Nat → Addr := ⟨ClW.f⟩
/-! data as a key of a dict -/
mutual
def keyP : P → Option NestedKey
  | .non => some .none
  | .bl b => some (.num (if b = true then 1 else 0))
  | .int i => some (.num i)
  | .str x => some (.text x)
  | .tup ps => (keyPs ps).map .tup
  | _ => none
def keyPs : List P → Option (List NestedKey)
  | [] => some []
  | p :: ps => match keyP p, keyPs ps with
    | some k, some ks => some (k :: ks)
    | _, _ => none
end
/-- a dict's entries as they stand in its object -/
abbrev Ent := NestedKey × Addr × V
def EntR (p : Ent) (q : NestedKey × Addr × Value) : Prop := p.1 = q.1 ∧ p.2.1 = q.2.1 ∧ RelV p.2.2 q.2.2
def dNO (P : Program) (w : World) (a : Addr) (vs : List Ent) : HO := .ext fun h => (a == sysModules) = false ∧ vs.length ≤ sizeLine ∧ ∃ xs, Paired EntR vs xs ∧ ∃ o es ep, h.get? a = some o ∧ o.ExactDict ∧ o.data = .dict es ep ∧ es.toList = xs.map (entryOfKey (nestedKind P w)) ∧ (xs.map (·.1)).Nodup
/-- .. as it stands, or locked while a loop walks it -/
def HD (P : Program) (w : World) (a : Addr) (vs : List Ent) (H : Hp) : Prop := ∃ u, H a = some u ∧ (u = dNO P w a vs ∨ ∃ o, u = .frz o (dNO P w a vs))
theorem HD.mono {P : Program} {w : World} {a : Addr} {vs : List Ent} {F F' : Hp} (h : Same F F') (d : HD P w a vs F) : HD P w a vs F' := let ⟨u, e, r⟩ := d; ⟨u, h _ _ e, r⟩
theorem HD.of {P : Program} {w : World} {a : Addr} {vs : List Ent} {F : Hp} (h : F a = some (dNO P w a vs)) : HD P w a vs F := ⟨_, h, .inl rfl⟩
/-- all objects that may change; those from b on were made by the def that runs -/
structure SH where
  b : Nat
  os : List Ob
abbrev SH.len (S : SH) : Nat := S.os.length
abbrev En := List (Option D)
def D.lt (k : Nat) : D → Prop | .p _ => True | .ref n => n < k
def Ob.ds : Ob → List D | .lst ds => ds | .dK kvs => kvs.map (·.2) | .dT kvs => kvs.map (·.2) | .ins _ fs => fs.map (·.2)
def Ob.lt (k : Nat) (o : Ob) : Prop := ∀ d ∈ o.ds, d.lt k
theorem D.lt.mono {j k : Nat} {d : D} (h : d.lt j) (l : j ≤ k) : d.lt k := by
  cases d with
  | p x => trivial
  | ref n => exact Nat.lt_of_lt_of_le h l

section
variable (K : PySem.W.Frag) (cl : ClW)
mutual
inductive Rp (F : Hp) : P → V → Prop
  | non : Rp F .non .non
  | bl (b : Bool) : Rp F (.bl b) (.bl b)
  | int (i : Int) : Rp F (.int i) (.int i)
  | str (x : Str) : Rp F (.str x) (.str x)
  | tup {a : Addr} {ps : List P} {vs : List V} : SqT K F a vs → RpA F ps vs → Rp F (.tup ps) (.ref a)
  | lst {a : Addr} {ps : List P} {vs : List V} : SqL K F a vs → RpA F ps vs → Rp F (.lst ps) (.ref a)
  | dK {a : Addr} {kvs : List (Key × P)} {vs : List (Key × V)} : F a = some (.dK vs) → RpK F kvs vs → Rp F (.dK kvs) (.ref a)
  | dT {a : Addr} {kvs : List (P × P)} {vs : List Ent} : HD cl.P cl.w a vs F → RpT F kvs vs → Rp F (.dT kvs) (.ref a)
  | ins {a dx : Addr} {c : Nat} {fs : List (Str × P)} {gs : List (Str × V)} : F a = some (.ins (cl c) dx gs) → RpF F fs gs → Rp F (.ins c fs) (.ref a)
inductive RpA (F : Hp) : List P → List V → Prop
  | nil : RpA F [] []
  | cons {x : P} {xs : List P} {v : V} {vs : List V} : Rp F x v → RpA F xs vs → RpA F (x :: xs) (v :: vs)
inductive RpK (F : Hp) : List (Key × P) → List (Key × V) → Prop
  | nil : RpK F [] []
  | cons {k : Key} {x : P} {xs : List (Key × P)} {v : V} {vs : List (Key × V)} : Rp F x v → RpK F xs vs → RpK F ((k, x) :: xs) ((k, v) :: vs)
inductive RpT (F : Hp) : List (P × P) → List Ent → Prop
  | nil : RpT F [] []
  | cons {p : P} {k : NestedKey} {b : Addr} {x : P} {xs : List (P × P)} {v : V} {vs : List Ent} : keyP p = some k → k.depth ≤ 8 → Rp F p (.ref b) → Rp F x v → RpT F xs vs → RpT F ((p, x) :: xs) ((k, b, v) :: vs)
inductive RpF (F : Hp) : List (Str × P) → List (Str × V) → Prop
  | nil : RpF F [] []
  | cons {k : Str} {x : P} {xs : List (Str × P)} {v : V} {vs : List (Str × V)} : Rp F x v → RpF F xs vs → RpF F ((k, x) :: xs) ((k, v) :: vs)
end
/-- a value of a name -/
def DR (F : Hp) (φ : Nat → Addr) : D → V → Prop
  | .p x, v => Rp K cl F x v
  | .ref n, v => v = .ref (φ n)
abbrev DRA (F : Hp) (φ : Nat → Addr) : List D → List V → Prop := Paired (DR K cl F φ)
abbrev DRK {κ : Type} (F : Hp) (φ : Nat → Addr) : List (κ × D) → List (κ × V) → Prop := Paired fun p q => p.1 = q.1 ∧ DR K cl F φ p.2 q.2
/-- an entry of a dict that may change -/
def EntD (F : Hp) (φ : Nat → Addr) (p : P × D) (q : Ent) : Prop := keyP p.1 = some q.1 ∧ q.1.depth ≤ 8 ∧ Rp K cl F p.1 (.ref q.2.1) ∧ DR K cl F φ p.2 q.2.2
abbrev DRT (F : Hp) (φ : Nat → Addr) : List (P × D) → List Ent → Prop := Paired (EntD K cl F φ)
def OR (F : Hp) (φ : Nat → Addr) (a : Addr) (x : Option HO) : Ob → Prop
  | .lst ds => ∃ vs, x = some (.lst vs) ∧ DRA K cl F φ ds vs
  | .dK kvs => ∃ vs, x = some (.dK vs) ∧ DRK K cl F φ kvs vs
  | .dT kvs => ∃ vs, x = some (dNO cl.P cl.w a vs) ∧ DRT K cl F φ kvs vs
  | .ins c fs => ∃ dx gs, x = some (.ins (cl c) dx gs) ∧ DRK K cl F φ fs gs
/-- the objects by place, the data, and the heap -/
structure Sim (S : SH) (B : List Nat) (F : Hp) (φ : Nat → Addr) (H : Hp) : Prop where
  le : Same F H
  ob : ∀ (n : Nat) (o : Ob), S.os[n]? = some o → F (φ n) = none ∧ OR K cl F φ (φ n) (H (φ n)) o
  inj : ∀ n m, n < S.len → m < S.len → φ n = φ m → n = m
  wf : ∀ (n : Nat) (o : Ob), S.os[n]? = some o → o.lt S.len
  bs : ∀ b ∈ B, b ≤ S.b ∧ ∀ (n : Nat) (o : Ob), S.os[n]? = some o → n < b → o.lt b
  bl : S.b ≤ S.len
/-- what a step may have done -/
structure Ext (S : SH) (F : Hp) (φ : Nat → Addr) (H : Hp) (S' : SH) (F' : Hp) (φ' : Nat → Addr) (H' : Hp) : Prop where
  fz : Same F F'
  len : S.len ≤ S'.len
  b : S'.b = S.b
  phi : ∀ n, n < S.len → φ' n = φ n
  new : ∀ n, S.len ≤ n → n < S'.len → H (φ' n) = none
  keep : ∀ a o, H a = some o → (∀ n, n < S.len → φ n ≠ a) → H' a = some o
  tr : ∀ n, n < S.len → H' (φ n) ≠ none
  fr : ∀ a o, H a = some o → F a = none → (∀ n, n < S.len → φ n ≠ a) → F' a = none
/-- the names -/
def RS (F : Hp) (φ : Nat → Addr) (k : Nat) (σd : En) (σ : L2.St) : Prop :=
  σd.length = σ.length ∧ ∀ (i : Nat) (d : D), σd[i]? = some (some d) → d.lt k ∧ ∃ v : V, σ[i]? = some (some v) ∧ DR K cl F φ d v
end

section
variable {K : PySem.W.Frag} {cl : ClW} {S S' S1 S2 : SH} {B : List Nat} {F F' F1 F2 H H' H1 H2 : Hp} {φ φ' φ1 φ2 : Nat → Addr}
theorem SqL.mono (h : Same F F') {a : Addr} {xs : List V} (q : SqL K F a xs) : SqL K F' a xs := h.seq q
theorem SqT.mono (e : Same F F') {a : Addr} {xs : List V} (h : SqT K F a xs) : SqT K F' a xs := by
  rcases h with (h | ⟨o, h⟩) | h
  · exact .inl (.inl (e _ _ h))
  · exact .inl (.inr ⟨o, e _ _ h⟩)
  · exact .inr h
mutual
theorem Rp.mono (h : Same F F') {x : P} {v : V} : Rp K cl F x v → Rp K cl F' x v
  | .non => .non
  | .bl b => .bl b
  | .int i => .int i
  | .str x => .str x
  | .tup q r => .tup (SqT.mono h q) (RpA.mono h r)
  | .lst q r => .lst (SqL.mono h q) (RpA.mono h r)
  | .dK q r => .dK (h _ _ q) (RpK.mono h r)
  | .dT q r => .dT (q.mono h) (RpT.mono h r)
  | .ins q r => .ins (h _ _ q) (RpF.mono h r)
theorem RpA.mono (h : Same F F') {x : List P} {v : List V} : RpA K cl F x v → RpA K cl F' x v
  | .nil => .nil
  | .cons a b => .cons (Rp.mono h a) (RpA.mono h b)
theorem RpK.mono (h : Same F F') {x : List (Key × P)} {v : List (Key × V)} : RpK K cl F x v → RpK K cl F' x v
  | .nil => .nil
  | .cons a b => .cons (Rp.mono h a) (RpK.mono h b)
theorem RpT.mono (h : Same F F') {x : List (P × P)} {v : List Ent} : RpT K cl F x v → RpT K cl F' x v
  | .nil => .nil
  | .cons e d k a b => .cons e d (Rp.mono h k) (Rp.mono h a) (RpT.mono h b)
theorem RpF.mono (h : Same F F') {x : List (Str × P)} {v : List (Str × V)} : RpF K cl F x v → RpF K cl F' x v
  | .nil => .nil
  | .cons a b => .cons (Rp.mono h a) (RpF.mono h b)
end
theorem DR.mono (h : Same F F') {k : Nat} (p : ∀ n, n < k → φ' n = φ n) {d : D} {v : V} (l : d.lt k) (r : DR K cl F φ d v) : DR K cl F' φ' d v := by
  cases d with
  | p x => exact Rp.mono h r
  | ref n => exact r.trans (congrArg V.ref (p n l).symm)
theorem DRA.mono (h : Same F F') {k : Nat} (p : ∀ n, n < k → φ' n = φ n) : ∀ {ds : List D} {vs : List V}, (∀ d ∈ ds, d.lt k) → DRA K cl F φ ds vs → DRA K cl F' φ' ds vs
  | _, _, _, .nil => .nil
  | _, _, l, .cons a b => .cons (DR.mono h p (l _ List.mem_cons_self) a) (DRA.mono h p (fun d q => l d (List.mem_cons_of_mem _ q)) b)
theorem DRK.mono {κ : Type} (h : Same F F') {k : Nat} (p : ∀ n, n < k → φ' n = φ n) : ∀ {ds : List (κ × D)} {vs : List (κ × V)}, (∀ d ∈ ds.map (·.2), d.lt k) → DRK K cl F φ ds vs → DRK K cl F' φ' ds vs
  | _, _, _, .nil => .nil
  | _, _, l, .cons a b => .cons ⟨a.1, DR.mono h p (l _ List.mem_cons_self) a.2⟩ (DRK.mono h p (fun d q => l d (List.mem_cons_of_mem _ q)) b)
theorem DRT.mono (h : Same F F') {k : Nat} (p : ∀ n, n < k → φ' n = φ n) : ∀ {ds : List (P × D)} {vs : List Ent}, (∀ d ∈ ds.map (·.2), d.lt k) → DRT K cl F φ ds vs → DRT K cl F' φ' ds vs
  | _, _, _, .nil => .nil
  | _, _, l, .cons a b => .cons ⟨a.1, a.2.1, Rp.mono h a.2.2.1, DR.mono h p (l _ List.mem_cons_self) a.2.2.2⟩ (DRT.mono h p (fun d q => l d (List.mem_cons_of_mem _ q)) b)
theorem OR.mono (h : Same F F') {k : Nat} (p : ∀ n, n < k → φ' n = φ n) {a : Addr} {x : Option HO} {o : Ob} (l : o.lt k) (r : OR K cl F φ a x o) : OR K cl F' φ' a x o := by
  cases o with
  | lst ds => obtain ⟨vs, e, r⟩ := r; exact ⟨vs, e, DRA.mono h p l r⟩
  | dK ds => obtain ⟨vs, e, r⟩ := r; exact ⟨vs, e, DRK.mono h p l r⟩
  | dT ds => obtain ⟨vs, e, r⟩ := r; exact ⟨vs, e, DRT.mono h p l r⟩
  | ins c ds => obtain ⟨dx, vs, e, r⟩ := r; exact ⟨dx, vs, e, DRK.mono h p l r⟩
theorem OR.ne0 {a : Addr} {x : Option HO} {o : Ob} (r : OR K cl F φ a x o) : x ≠ none := by
  cases o with
  | lst ds => obtain ⟨vs, e, r⟩ := r; rw [e]; simp
  | dK ds => obtain ⟨vs, e, r⟩ := r; rw [e]; simp
  | dT ds => obtain ⟨vs, e, r⟩ := r; rw [e]; simp
  | ins c ds => obtain ⟨dx, vs, e, r⟩ := r; rw [e]; simp
theorem Sim.ne0 (s : Sim K cl S B F φ H) {n : Nat} (h : n < S.len) : H (φ n) ≠ none := (s.ob n _ (List.getElem?_eq_getElem h)).2.ne0
theorem Ext.refl (s : Sim K cl S B F φ H) : Ext S F φ H S F φ H := ⟨Same.refl _, Nat.le_refl _, rfl, fun _ _ => rfl, fun n h1 h2 => absurd h1 (Nat.not_le_of_lt h2), fun _ _ h _ => h, fun _ h => s.ne0 h, fun _ _ _ h _ => h⟩
theorem Ext.trans (a : Ext S F φ H S1 F1 φ1 H1) (b : Ext S1 F1 φ1 H1 S2 F2 φ2 H2) : Ext S F φ H S2 F2 φ2 H2 where
  fz := a.fz.trans b.fz
  len := Nat.le_trans a.len b.len
  b := b.b.trans a.b
  phi := fun n h => (b.phi n (Nat.lt_of_lt_of_le h a.len)).trans (a.phi n h)
  new := fun n h1 h2 => by
    by_cases h3 : n < S1.len
    · rw [b.phi n h3]
      exact a.new n h1 h3
    · cases e : H (φ2 n) with
      | none => rfl
      | some o =>
        have z := b.new n (Nat.le_of_not_lt h3) h2
        by_cases q : ∃ m, m < S.len ∧ φ m = φ2 n
        · obtain ⟨m, hm, ee⟩ := q
          exact absurd (by rw [ee]; exact z) (a.tr m hm)
        · rw [a.keep _ o e fun m hm ee => q ⟨m, hm, ee⟩] at z; cases z
  keep := fun c o h n => b.keep c o (a.keep c o h n) fun m hm e => by
    by_cases h3 : m < S.len
    · exact n m h3 (by rw [← a.phi m h3]; exact e)
    · have z := a.new m (Nat.le_of_not_lt h3) hm
      rw [e, h] at z; cases z
  tr := fun n h => by
    rw [← a.phi n h]
    exact b.tr n (Nat.lt_of_lt_of_le h a.len)
  fr := fun c o h f n => b.fr c o (a.keep c o h n) (a.fr c o h f n) fun m hm e => by
    by_cases h3 : m < S.len
    · exact n m h3 (by rw [← a.phi m h3]; exact e)
    · have z := a.new m (Nat.le_of_not_lt h3) hm
      rw [e, h] at z; cases z
theorem RS.mono (h : Same F F') {k k' : Nat} (l : k ≤ k') (p : ∀ n, n < k → φ' n = φ n) {σd : En} {σ : L2.St} (r : RS K cl F φ k σd σ) : RS K cl F' φ' k' σd σ :=
  ⟨r.1, fun i d e => let ⟨a, v, b, c⟩ := r.2 i d e; ⟨a.mono l, v, b, DR.mono h p a c⟩⟩
end
end Pv
namespace Pv
open PySem PySem.Spec PyProof.Rows L2

abbrev ME := En → SH → Option (D × SH)
abbrev MT := En → SH → Option (Bool × SH)
abbrev MA := En → SH → Option (List D × SH)
inductive Fl where
  | nx (σ : En) | ret (d : D) | brk (σ : En) | ct (σ : En)
abbrev MS := En → SH → Option (Fl × SH)
abbrev MF := List D → SH → Option (D × SH)

section
variable (K : PySem.W.Frag) (cl : ClW)
/-- an end as wished: a value, a truth, values -/
def OkE (S : SH) (B : List Nat) (F : Hp) (φ : Nat → Addr) (H : Hp) (r : Option (D × SH)) (Q : VK) : Prop :=
  ∃ d S1, r = some (d, S1) ∧ ∀ F1 φ1 H1 u, Sim K cl S1 B F1 φ1 H1 → Ext S F φ H S1 F1 φ1 H1 → DR K cl F1 φ1 d u → d.lt S1.len → Q u H1
def OkT (S : SH) (B : List Nat) (F : Hp) (φ : Nat → Addr) (H : Hp) (r : Option (Bool × SH)) (Q : Bool → Hp → Prop) : Prop :=
  ∃ d S1, r = some (d, S1) ∧ ∀ F1 φ1 H1, Sim K cl S1 B F1 φ1 H1 → Ext S F φ H S1 F1 φ1 H1 → Q d H1
def OkA (S : SH) (B : List Nat) (F : Hp) (φ : Nat → Addr) (H : Hp) (r : Option (List D × SH)) (Q : List V → Hp → Prop) : Prop :=
  ∃ ds S1, r = some (ds, S1) ∧ ∀ F1 φ1 H1 us, Sim K cl S1 B F1 φ1 H1 → Ext S F φ H S1 F1 φ1 H1 → DRA K cl F1 φ1 ds us → (∀ d ∈ ds, d.lt S1.len) → Q us H1
def OkF (S : SH) (B : List Nat) (F : Hp) (φ : Nat → Addr) (H : Hp) (Z : Ends) (S1 : SH) : Fl → Prop
  | .nx σd => ∀ F1 φ1 H1 σ, Sim K cl S1 B F1 φ1 H1 → Ext S F φ H S1 F1 φ1 H1 → RS K cl F1 φ1 S1.len σd σ → Z.nx σ H1
  | .ret d => ∀ F1 φ1 H1 u, Sim K cl S1 B F1 φ1 H1 → Ext S F φ H S1 F1 φ1 H1 → DR K cl F1 φ1 d u → d.lt S1.len → Z.rt u H1
  | .brk σd => ∀ F1 φ1 H1 σ, Sim K cl S1 B F1 φ1 H1 → Ext S F φ H S1 F1 φ1 H1 → RS K cl F1 φ1 S1.len σd σ → Z.bk σ H1
  | .ct σd => ∀ F1 φ1 H1 σ, Sim K cl S1 B F1 φ1 H1 → Ext S F φ H S1 F1 φ1 H1 → RS K cl F1 φ1 S1.len σd σ → Z.ct σ H1
def OkS (S : SH) (B : List Nat) (F : Hp) (φ : Nat → Addr) (H : Hp) (r : Option (Fl × SH)) (Z : Ends) : Prop :=
  ∃ f S1, r = some (f, S1) ∧ OkF K cl S B F φ H Z S1 f
/-- readings out of computations by value -/
def LE (m : ME) : TE := fun σ H Q => ∃ σd S B F φ, Sim K cl S B F φ H ∧ RS K cl F φ S.len σd σ ∧ OkE K cl S B F φ H (m σd S) Q
def LT (m : MT) : TT := fun σ H Q => ∃ σd S B F φ, Sim K cl S B F φ H ∧ RS K cl F φ S.len σd σ ∧ OkT K cl S B F φ H (m σd S) Q
def LA (m : MA) : TA := fun σ H Q => ∃ σd S B F φ, Sim K cl S B F φ H ∧ RS K cl F φ S.len σd σ ∧ OkA K cl S B F φ H (m σd S) Q
def LS (m : MS) : TS := fun Z σ H => ∃ σd S B F φ, Sim K cl S B F φ H ∧ RS K cl F φ S.len σd σ ∧ OkS K cl S B F φ H (m σd S) Z
end

/-! the combinators -/
def bnd {α β : Type} (r : Option (α × SH)) (f : α → SH → Option (β × SH)) : Option (β × SH) := match r with
  | some (a, S) => f a S
  | none => none
@[simp] theorem bnd_some {α β : Type} (a : α) (S : SH) (f : α → SH → Option (β × SH)) : bnd (some (a, S)) f = f a S := id rfl
@[simp] theorem bnd_none {α β : Type} (f : α → SH → Option (β × SH)) : bnd none f = none := id rfl
theorem bnd_of {α β : Type} {r : Option (α × SH)} {f : α → SH → Option (β × SH)} {x : β × SH} (h : bnd r f = some x) : ∃ a S, r = some (a, S) ∧ f a S = some x := by
  cases r with
  | none => cases h
  | some p => exact ⟨p.1, p.2, rfl, h⟩
def isB : D → Option Bool
  | .p (.bl b) => some b
  | _ => none
theorem isB_of {d : D} {b : Bool} (h : isB d = some b) : d = .p (.bl b) := by
  cases d with
  | ref n => cases h
  | p x => cases x <;> cases h <;> rfl
def dVar (i : Nat) : ME := fun σ S => match σ[i]? with | some (some d) => some (d, S) | _ => none
def dC (x : P) : ME := fun _ S => some (.p x, S)
def dOp (f : D → D → SH → Option (D × SH)) (a b : ME) : ME := fun σ S => bnd (a σ S) fun x S1 => bnd (b σ S1) fun y S2 => f x y S2
def dUn (f : D → SH → Option (D × SH)) (a : ME) : ME := fun σ S => bnd (a σ S) fun x S1 => f x S1
def toB (d : D) (S : SH) : Option (Bool × SH) := match isB d with | some b => some (b, S) | none => none
@[simp] theorem toB_p (b : Bool) (S : SH) : toB (.p (.bl b)) S = some (b, S) := id rfl
def dTest (a : ME) : MT := fun σ S => bnd (a σ S) toB
def dAnd (a b : MT) : MT := fun σ S => bnd (a σ S) fun t S1 => if t = true then b σ S1 else some (false, S1)
def dOr (a b : MT) : MT := fun σ S => bnd (a σ S) fun t S1 => if t = true then some (true, S1) else b σ S1
def dNot (a : MT) : MT := fun σ S => bnd (a σ S) fun t S1 => some (!t, S1)
def dNotV (a : ME) : ME := fun σ S => bnd (a σ S) fun d S1 => bnd (toB d S1) fun t S2 => some (.p (.bl (!t)), S2)
def dAndV (a b : ME) : ME := fun σ S => bnd (a σ S) fun d S1 => bnd (toB d S1) fun t S2 => if t = true then b σ S2 else some (.p (.bl false), S2)
def dOrV (a b : ME) : ME := fun σ S => bnd (a σ S) fun d S1 => bnd (toB d S1) fun t S2 => if t = true then some (.p (.bl true), S2) else b σ S2
def dIfE (t : MT) (a b : ME) : ME := fun σ S => bnd (t σ S) fun t S1 => if t = true then a σ S1 else b σ S1
def dNil : MA := fun _ S => some ([], S)
def dCons (a : ME) (r : MA) : MA := fun σ S => bnd (a σ S) fun x S1 => bnd (r σ S1) fun xs S2 => some (x :: xs, S2)
def dCall (f : MF) (a : MA) : ME := fun σ S => bnd (a σ S) fun xs S1 => f xs S1
def dNx : MS := fun σ S => some (.nx σ, S)
def dSeq (a b : MS) : MS := fun σ S => bnd (a σ S) fun f S1 => match f with | .nx σ1 => b σ1 S1 | r => some (r, S1)
def dBrk : MS := fun σ S => some (.brk σ, S)
def dCt : MS := fun σ S => some (.ct σ, S)
def dDrop (a : ME) : MS := fun σ S => bnd (a σ S) fun _ S1 => some (.nx σ, S1)
def dRet (a : ME) : MS := fun σ S => bnd (a σ S) fun d S1 => some (.ret d, S1)
def dRetN : MS := fun _ S => some (.ret (.p .non), S)
def dIf (t : MT) (a b : MS) : MS := fun σ S => bnd (t σ S) fun t S1 => if t = true then a σ S1 else b σ S1
def dNever : MS := fun _ _ => none
def dSet (i : Nat) (a : ME) : MS := fun σ S => bnd (a σ S) fun d S1 => some (.nx (σ.set i (some d)), S1)
/-- forget what some names hold -/
def wipeD : List Nat → En → En
  | [], σ => σ
  | i :: r, σ => wipeD r (σ.set i none)
section
variable {K : PySem.W.Frag} {cl : ClW} {S S' S1 S2 : SH} {B : List Nat} {F F' F1 F2 H H' H1 H2 : Hp} {φ φ' φ1 φ2 : Nat → Addr}
theorem Ext.rs (e : Ext S F φ H S1 F1 φ1 H1) {σd : En} {σ : L2.St} (r : RS K cl F φ S.len σd σ) : RS K cl F1 φ1 S1.len σd σ := r.mono e.fz e.len e.phi
theorem Ext.dr (e : Ext S F φ H S1 F1 φ1 H1) {d : D} {v : V} (l : d.lt S.len) (r : DR K cl F φ d v) : DR K cl F1 φ1 d v := DR.mono e.fz e.phi l r
theorem Ext.lt (e : Ext S F φ H S1 F1 φ1 H1) {d : D} (l : d.lt S.len) : d.lt S1.len := l.mono e.len
theorem Ext.dra (e : Ext S F φ H S1 F1 φ1 H1) {d : List D} {v : List V} (l : ∀ x ∈ d, x.lt S.len) (r : DRA K cl F φ d v) : DRA K cl F1 φ1 d v := DRA.mono e.fz e.phi l r
theorem OkE.ext (e : Ext S F φ H S1 F1 φ1 H1) {r : Option (D × SH)} {Q : VK} (h : OkE K cl S B F φ H r Q) : OkE K cl S1 B F1 φ1 H1 r Q := by
  obtain ⟨d, S2, er, k⟩ := h
  exact ⟨d, S2, er, fun F2 φ2 H2 u s x => k F2 φ2 H2 u s (e.trans x)⟩
theorem OkT.ext (e : Ext S F φ H S1 F1 φ1 H1) {r : Option (Bool × SH)} {Q : Bool → Hp → Prop} (h : OkT K cl S B F φ H r Q) : OkT K cl S1 B F1 φ1 H1 r Q := by
  obtain ⟨d, S2, er, k⟩ := h
  exact ⟨d, S2, er, fun F2 φ2 H2 s x => k F2 φ2 H2 s (e.trans x)⟩
theorem OkA.ext (e : Ext S F φ H S1 F1 φ1 H1) {r : Option (List D × SH)} {Q : List V → Hp → Prop} (h : OkA K cl S B F φ H r Q) : OkA K cl S1 B F1 φ1 H1 r Q := by
  obtain ⟨d, S2, er, k⟩ := h
  exact ⟨d, S2, er, fun F2 φ2 H2 u s x => k F2 φ2 H2 u s (e.trans x)⟩
theorem OkF.ext (e : Ext S F φ H S1 F1 φ1 H1) {f : Fl} {Z : Ends} (h : OkF K cl S B F φ H Z S2 f) : OkF K cl S1 B F1 φ1 H1 Z S2 f := by
  cases f with
  | nx σ => exact fun F2 φ2 H2 u s x => h F2 φ2 H2 u s (e.trans x)
  | ret d => exact fun F2 φ2 H2 u s x => h F2 φ2 H2 u s (e.trans x)
  | brk σ => exact fun F2 φ2 H2 u s x => h F2 φ2 H2 u s (e.trans x)
  | ct σ => exact fun F2 φ2 H2 u s x => h F2 φ2 H2 u s (e.trans x)
theorem OkS.ext (e : Ext S F φ H S1 F1 φ1 H1) {r : Option (Fl × SH)} {Z : Ends} (h : OkS K cl S B F φ H r Z) : OkS K cl S1 B F1 φ1 H1 r Z := by
  obtain ⟨f, S2, er, k⟩ := h
  exact ⟨f, S2, er, k.ext e⟩
/-- one after the other: what the first one leaves -/
theorem LE.then_ {m : ME} {σ : L2.St} {σd : En} {Q : VK} {d : D} (s : Sim K cl S B F φ H) (r : RS K cl F φ S.len σd σ) (e : m σd S = some (d, S1))
    (k : ∀ F1 φ1 H1 u, Sim K cl S1 B F1 φ1 H1 → Ext S F φ H S1 F1 φ1 H1 → RS K cl F1 φ1 S1.len σd σ → DR K cl F1 φ1 d u → d.lt S1.len → Q u H1) : LE K cl m σ H Q :=
  ⟨σd, S, B, F, φ, s, r, d, S1, e, fun F1 φ1 H1 u s1 x dr l => k F1 φ1 H1 u s1 x (x.rs r) dr l⟩
theorem LT.then_ {m : MT} {σ : L2.St} {σd : En} {Q : Bool → Hp → Prop} {d : Bool} (s : Sim K cl S B F φ H) (r : RS K cl F φ S.len σd σ) (e : m σd S = some (d, S1))
    (k : ∀ F1 φ1 H1, Sim K cl S1 B F1 φ1 H1 → Ext S F φ H S1 F1 φ1 H1 → RS K cl F1 φ1 S1.len σd σ → Q d H1) : LT K cl m σ H Q :=
  ⟨σd, S, B, F, φ, s, r, d, S1, e, fun F1 φ1 H1 s1 x => k F1 φ1 H1 s1 x (x.rs r)⟩
theorem LA.then_ {m : MA} {σ : L2.St} {σd : En} {Q : List V → Hp → Prop} {d : List D} (s : Sim K cl S B F φ H) (r : RS K cl F φ S.len σd σ) (e : m σd S = some (d, S1))
    (k : ∀ F1 φ1 H1 u, Sim K cl S1 B F1 φ1 H1 → Ext S F φ H S1 F1 φ1 H1 → RS K cl F1 φ1 S1.len σd σ → DRA K cl F1 φ1 d u → (∀ x ∈ d, x.lt S1.len) → Q u H1) : LA K cl m σ H Q :=
  ⟨σd, S, B, F, φ, s, r, d, S1, e, fun F1 φ1 H1 u s1 x dr l => k F1 φ1 H1 u s1 x (x.rs r) dr l⟩
theorem LS.then_ {m : MS} {σ : L2.St} {σd : En} {Z : Ends} {f : Fl} (s : Sim K cl S B F φ H) (r : RS K cl F φ S.len σd σ) (e : m σd S = some (f, S1))
    (k : OkF K cl S B F φ H Z S1 f) : LS K cl m Z σ H := ⟨σd, S, B, F, φ, s, r, f, S1, e, k⟩
/-- the end as it is -/
theorem OkE.fin {r : Option (D × SH)} {Q : VK} {d : D} {u : V} (h : OkE K cl S B F φ H r Q) (e : r = some (d, S1)) (s : Sim K cl S1 B F1 φ1 H1) (x : Ext S F φ H S1 F1 φ1 H1) (dr : DR K cl F1 φ1 d u) (l : d.lt S1.len) : Q u H1 := by
  obtain ⟨d', S', e', k⟩ := h
  rw [e] at e'; cases e'
  exact k F1 φ1 H1 u s x dr l
theorem OkE.fin0 {r : Option (D × SH)} {Q : VK} {d : D} {u : V} (h : OkE K cl S B F φ H r Q) (e : r = some (d, S)) (s : Sim K cl S B F φ H) (dr : DR K cl F φ d u) (l : d.lt S.len) : Q u H := h.fin e s (.refl s) dr l
end

theorem _root_.L2.PE.imp {X : Cx} {e : Expr} {t t' : TE} (h : PE X e t) (i : ∀ σ H Q, t' σ H Q → t σ H Q) : PE X e t' := ⟨fun pins s σ H Q I q => h.run pins s σ H Q I (i σ H Q q)⟩
theorem _root_.L2.PT.imp {X : Cx} {e : Expr} {t t' : TT} (h : PT X e t) (i : ∀ σ H Q, t' σ H Q → t σ H Q) : PT X e t' := ⟨fun pins s σ H Q I q => h.run pins s σ H Q I (i σ H Q q)⟩
theorem _root_.L2.PW.imp {X : Cx} {e : Expr} {t t' : TT} (h : PW X e t) (i : ∀ σ H Q, t' σ H Q → t σ H Q) : PW X e t' := ⟨fun w pins s σ H Q I q => h.run w pins s σ H Q I (i σ H Q q)⟩
theorem _root_.L2.PA.imp {X : Cx} {e : List Expr} {t t' : TA} (h : PA X e t) (i : ∀ σ H Q, t' σ H Q → t σ H Q) : PA X e t' := ⟨fun p pins s σ H Q I q => h.run p pins s σ H Q I (i σ H Q q)⟩
theorem _root_.L2.PS.imp {X : Cx} {e : Stmt} {t t' : TS} (h : PS X e t) (i : ∀ Z σ H, t' Z σ H → t Z σ H) : PS X e t' := ⟨fun pins s σ H Z I q => h.run pins s σ H Z I (i Z σ H q)⟩
theorem _root_.L2.PSs.imp {X : Cx} {e : List Stmt} {t t' : TS} (h : PSs X e t) (i : ∀ Z σ H, t' Z σ H → t Z σ H) : PSs X e t' := ⟨fun pins s σ H Z I q => h.run pins s σ H Z I (i Z σ H q)⟩

/-! the rules -/
section
variable {X : Cx} {cl : ClW}
/-- an operation by values: its reading follows from its computation -/
def OpD (K : PySem.W.Frag) (cl : ClW) (f : D → D → SH → Option (D × SH)) (r : R2) : Prop :=
  ∀ S B F φ H d1 d2 x y Q, Sim K cl S B F φ H → DR K cl F φ d1 x → DR K cl F φ d2 y → d1.lt S.len → d2.lt S.len → OkE K cl S B F φ H (f d1 d2 S) Q → r x y H Q
def UnD (K : PySem.W.Frag) (cl : ClW) (f : D → SH → Option (D × SH)) (r : V → Hp → VK → Prop) : Prop :=
  ∀ S B F φ H d x Q, Sim K cl S B F φ H → DR K cl F φ d x → d.lt S.len → OkE K cl S B F φ H (f d S) Q → r x H Q
def CallD (K : PySem.W.Frag) (cl : ClW) (f : MF) (r : List V → Hp → VK → Prop) : Prop :=
  ∀ S B F φ H ds xs Q, Sim K cl S B F φ H → DRA K cl F φ ds xs → (∀ d ∈ ds, d.lt S.len) → OkE K cl S B F φ H (f ds S) Q → r xs H Q

theorem okE_bnd {K : PySem.W.Frag} {α : Type} {S : SH} {B : List Nat} {F : Hp} {φ : Nat → Addr} {H : Hp} {r : Option (α × SH)} {f : α → SH → Option (D × SH)} {Q : VK} (h : OkE K cl S B F φ H (bnd r f) Q) : ∃ a S1, r = some (a, S1) ∧ OkE K cl S B F φ H (f a S1) Q := by
  cases r with
  | none => obtain ⟨_, _, z, _⟩ := h; cases z
  | some p => exact ⟨p.1, p.2, rfl, h⟩
theorem okT_bnd {K : PySem.W.Frag} {α : Type} {S : SH} {B : List Nat} {F : Hp} {φ : Nat → Addr} {H : Hp} {r : Option (α × SH)} {f : α → SH → Option (Bool × SH)} {Q : Bool → Hp → Prop} (h : OkT K cl S B F φ H (bnd r f) Q) : ∃ a S1, r = some (a, S1) ∧ OkT K cl S B F φ H (f a S1) Q := by
  cases r with
  | none => obtain ⟨_, _, z, _⟩ := h; cases z
  | some p => exact ⟨p.1, p.2, rfl, h⟩
theorem okA_bnd {K : PySem.W.Frag} {α : Type} {S : SH} {B : List Nat} {F : Hp} {φ : Nat → Addr} {H : Hp} {r : Option (α × SH)} {f : α → SH → Option (List D × SH)} {Q : List V → Hp → Prop} (h : OkA K cl S B F φ H (bnd r f) Q) : ∃ a S1, r = some (a, S1) ∧ OkA K cl S B F φ H (f a S1) Q := by
  cases r with
  | none => obtain ⟨_, _, z, _⟩ := h; cases z
  | some p => exact ⟨p.1, p.2, rfl, h⟩
theorem okS_bnd {K : PySem.W.Frag} {α : Type} {S : SH} {B : List Nat} {F : Hp} {φ : Nat → Addr} {H : Hp} {r : Option (α × SH)} {f : α → SH → Option (Fl × SH)} {Q : Ends} (h : OkS K cl S B F φ H (bnd r f) Q) : ∃ a S1, r = some (a, S1) ∧ OkS K cl S B F φ H (f a S1) Q := by
  cases r with
  | none => obtain ⟨_, _, z, _⟩ := h; cases z
  | some p => exact ⟨p.1, p.2, rfl, h⟩
theorem toB_of {d : D} {S S' : SH} {b : Bool} (h : toB d S = some (b, S')) : d = .p (.bl b) ∧ S' = S := by
  unfold toB at h
  cases e : isB d with
  | none => rw [e] at h; cases h
  | some c => rw [e] at h; cases h; exact ⟨isB_of e, rfl⟩
theorem rp_bl {K : PySem.W.Frag} {F : Hp} {φ : Nat → Addr} {b : Bool} {x : V} (h : DR K cl F φ (.p (.bl b)) x) : x = .bl b := by
  cases (show Rp K cl F (.bl b) x from h); rfl
theorem e_op {K : PySem.W.Frag} {f : D → D → SH → Option (D × SH)} {r : R2} (h : OpD K cl f r) {ma mb : ME} {σ : L2.St} {H : Hp} {Q : VK} (q : LE K cl (dOp f ma mb) σ H Q) : tOp r (LE K cl ma) (LE K cl mb) σ H Q := by
  obtain ⟨σd, S, B, F, φ, s, rs, o⟩ := q
  obtain ⟨d1, S1, ea, o⟩ := okE_bnd o
  obtain ⟨d2, S2, eb, o⟩ := okE_bnd o
  refine LE.then_ s rs ea fun F1 φ1 H1 x s1 x1 rs1 dr1 l1 => ?_
  refine LE.then_ s1 rs1 eb fun F2 φ2 H2 y s2 x2 rs2 dr2 l2 => ?_
  exact h S2 B F2 φ2 H2 d1 d2 x y Q s2 (x2.dr l1 dr1) dr2 (x2.lt l1) l2 (o.ext (x1.trans x2))
theorem e_un {K : PySem.W.Frag} {f : D → SH → Option (D × SH)} {r : V → Hp → VK → Prop} (h : UnD K cl f r) {ma : ME} {σ : L2.St} {H : Hp} {Q : VK} (q : LE K cl (dUn f ma) σ H Q) : tUn r (LE K cl ma) σ H Q := by
  obtain ⟨σd, S, B, F, φ, s, rs, o⟩ := q
  obtain ⟨d1, S1, ea, o⟩ := okE_bnd o
  exact LE.then_ s rs ea fun F1 φ1 H1 x s1 x1 rs1 dr1 l1 => h S1 B F1 φ1 H1 d1 x Q s1 dr1 l1 (o.ext x1)
theorem k_var (i : Nat) {x : Str} {pos : Pos} (hN : X.N[i]? = some x := by rfl) (hv : Vis X.env.scope x := by first | exact Or.inl rfl | exact Or.inr (Or.inl rfl) | exact Or.inr (Or.inr rfl)) (hd : (x == ("__debug__" : Str)) = false := by decide)
    (hcd : (x == ("__classdict__" : Str)) = false := by decide) : PE X (.Name x pos) (LE X.K cl (dVar i)) := by
  refine (pe_var hN hv hd hcd).imp fun σ H Q q => ?_
  obtain ⟨σd, S, B, F, φ, s, rs, d, S1, e, k⟩ := q
  unfold dVar at e
  split at e
  · rename_i d' h
    cases e
    obtain ⟨l, v, hv, dr⟩ := rs.2 i _ h
    exact ⟨v, hv, k F φ H v s (.refl s) dr l⟩
  · cases e
theorem e_c {K : PySem.W.Frag} {p : P} {v : V} {σ : L2.St} {H : Hp} {Q : VK} (q : LE K cl (dC p) σ H Q) (h : ∀ F, Rp K cl F p v) : Q v H := by
  obtain ⟨σd, S, B, F, φ, s, rs, o⟩ := q
  exact o.fin0 rfl s (h F) trivial
theorem k_int {i j pos} : PE X (.Constant (.int i) j pos) (LE X.K cl (dC (.int i))) := pe_int.imp fun _ _ _ q => e_c q fun _ => .int _
theorem k_bl {i j pos} : PE X (.Constant (.bool i) j pos) (LE X.K cl (dC (.bl i))) := pe_bl.imp fun _ _ _ q => e_c q fun _ => .bl _
theorem k_str {i j pos} : PE X (.Constant (.str i) j pos) (LE X.K cl (dC (.str i))) := pe_str.imp fun _ _ _ q => e_c q fun _ => .str _
theorem k_non {j pos} : PE X (.Constant .none j pos) (LE X.K cl (dC .non)) := pe_non.imp fun _ _ _ q => e_c q fun _ => .non
variable {a b c : Expr} {ma mb mc : ME} {ta tb : MT} {pos : Pos}
theorem k_op {op : Operator} {f : D → D → SH → Option (D × SH)} {r : R2} (hd : OpD X.K cl f r) (ho : OpR X (binaryOp op) r) (ha : PE X a (LE X.K cl ma)) (hb : PE X b (LE X.K cl mb)) : PE X (.BinOp a op b pos) (LE X.K cl (dOp f ma mb)) :=
  (pe_op ho ha hb).imp fun _ _ _ q => e_op hd q
theorem k_un {op : UnaryOp} {f : D → SH → Option (D × SH)} {r : V → Hp → VK → Prop} (hd : UnD X.K cl f r) (ho : UnR X (unaryOp op) r) (ha : PE X a (LE X.K cl ma)) : PE X (.UnaryOp op a pos) (LE X.K cl (dUn f ma)) :=
  (pe_un ho ha).imp fun _ _ _ q => e_un hd q
theorem k_cmp {op : CmpOp} {f : D → D → SH → Option (D × SH)} {r : R2} (hd : OpD X.K cl f r) (ho : OpR X (compareOp op) r) (ha : PE X a (LE X.K cl ma)) (hb : PE X b (LE X.K cl mb)) (hm : behindInMarks op b = false) : PE X (.Compare a [op] [b] pos) (LE X.K cl (dOp f ma mb)) :=
  (pe_cmpR ho ha hb hm).imp fun _ _ _ q => e_op hd q
theorem e_test {K : PySem.W.Frag} {ma : ME} {σ : L2.St} {H : Hp} {Q : Bool → Hp → Prop} (q : LT K cl (dTest ma) σ H Q) : LE K cl ma σ H fun x H' => ∃ k, x = .bl k ∧ Q k H' := by
  obtain ⟨σd, S, B, F, φ, s, rs, o⟩ := q
  obtain ⟨d, S1, e, o⟩ := okT_bnd o
  obtain ⟨b, S2, e2, k⟩ := o
  obtain ⟨rfl, rfl⟩ := toB_of e2
  exact LE.then_ s rs e fun F1 φ1 H1 x s1 x1 rs1 dr1 l1 => ⟨b, rp_bl dr1, k F1 φ1 H1 s1 x1⟩
theorem e_test2 {K : PySem.W.Frag} {f : D → D → SH → Option (D × SH)} {r : R2} (h : OpD K cl f r) {ma mb : ME} {σ : L2.St} {H : Hp} {Q : Bool → Hp → Prop} (q : LT K cl (dTest (dOp f ma mb)) σ H Q) : tTest (tOp r (LE K cl ma) (LE K cl mb)) σ H Q := by
  refine e_op h ?_
  exact e_test q
theorem t_cmp {op : CmpOp} {f : D → D → SH → Option (D × SH)} {r : R2} (hd : OpD X.K cl f r) (ho : OpR X (compareOp op) r) (ha : PE X a (LE X.K cl ma)) (hb : PE X b (LE X.K cl mb)) (hm : behindInMarks op b = false) : PT X (.Compare a [op] [b] pos) (LT X.K cl (dTest (dOp f ma mb))) :=
  (pt_cmpR ho ha hb hm).imp fun _ _ _ q => e_test2 hd q
theorem t_val {e : Expr} {m : ME} (h : PE X e (LE X.K cl m)) (he : ∀ whole, isTrue e X.env whole = (do let v ← whole; standAt e.pos; holding [v] (truthy v)) := by intro _; rfl) : PT X e (LT X.K cl (dTest m)) :=
  (pt_val h he).imp fun σ H Q q => e_test q
theorem w_and1 (ha : PT X a (LT X.K cl ta)) : PW X (.BoolOp .And [a] pos) (LT X.K cl ta) := pw_and1 ha
theorem w_or1 (ha : PT X a (LT X.K cl ta)) : PW X (.BoolOp .Or [a] pos) (LT X.K cl ta) := pw_or1 ha
variable {rest : List Expr}
theorem w_and (ha : PT X a (LT X.K cl ta)) (hb : PW X (.BoolOp .And (b :: rest) pos) (LT X.K cl tb)) : PW X (.BoolOp .And (a :: b :: rest) pos) (LT X.K cl (dAnd ta tb)) := by
  refine (pw_and ha hb).imp fun σ H Q q => ?_
  obtain ⟨σd, S, B, F, φ, s, rs, o⟩ := q
  obtain ⟨t, S1, e, o⟩ := okT_bnd o
  refine LT.then_ s rs e fun F1 φ1 H1 s1 x1 rs1 => ?_
  split
  · rename_i ht; rw [if_pos ht] at o; exact ⟨σd, S1, B, F1, φ1, s1, rs1, o.ext x1⟩
  · rename_i ht; rw [if_neg ht] at o
    obtain ⟨_, _, z, k⟩ := o
    cases z
    exact k F1 φ1 H1 s1 x1
theorem w_or (ha : PT X a (LT X.K cl ta)) (hb : PW X (.BoolOp .Or (b :: rest) pos) (LT X.K cl tb)) : PW X (.BoolOp .Or (a :: b :: rest) pos) (LT X.K cl (dOr ta tb)) := by
  refine (pw_or ha hb).imp fun σ H Q q => ?_
  obtain ⟨σd, S, B, F, φ, s, rs, o⟩ := q
  obtain ⟨t, S1, e, o⟩ := okT_bnd o
  refine LT.then_ s rs e fun F1 φ1 H1 s1 x1 rs1 => ?_
  split
  · rename_i ht; rw [if_pos ht] at o
    obtain ⟨_, _, z, k⟩ := o
    cases z
    exact k F1 φ1 H1 s1 x1
  · rename_i ht; rw [if_neg ht] at o; exact ⟨σd, S1, B, F1, φ1, s1, rs1, o.ext x1⟩
theorem t_not (ha : PT X a (LT X.K cl ta)) : PT X (.UnaryOp .Not a pos) (LT X.K cl (dNot ta)) := by
  refine (pt_not ha).imp fun σ H Q q => ?_
  obtain ⟨σd, S, B, F, φ, s, rs, o⟩ := q
  obtain ⟨t, S1, e, o⟩ := okT_bnd o
  refine LT.then_ s rs e fun F1 φ1 H1 s1 x1 rs1 => ?_
  obtain ⟨_, _, z, k⟩ := o
  cases z
  exact k F1 φ1 H1 s1 x1
theorem k_not (ha : PE X a (LE X.K cl ma)) : PE X (.UnaryOp .Not a pos) (LE X.K cl (dNotV ma)) := by
  refine (pe_not ha).imp fun σ H Q q => ?_
  obtain ⟨σd, S, B, F, φ, s, rs, o⟩ := q
  obtain ⟨d, S1, e, o⟩ := okE_bnd o
  obtain ⟨b, S2, e2, o2⟩ := okE_bnd o
  clear o
  obtain ⟨rfl, rfl⟩ := toB_of e2
  have o := o2
  clear o2
  exact LE.then_ s rs e fun F1 φ1 H1 x s1 x1 rs1 dr1 l1 => ⟨b, rp_bl dr1, o.fin rfl s1 x1 (Rp.bl _) trivial⟩
theorem k_one {op} (h : PE X a (LE X.K cl ma)) : PE X (.BoolOp op [a] pos) (LE X.K cl ma) := pe_one h
theorem k_and (ha : PE X a (LE X.K cl ma)) (hb : PE X (.BoolOp .And (b :: rest) pos) (LE X.K cl mb)) : PE X (.BoolOp .And (a :: b :: rest) pos) (LE X.K cl (dAndV ma mb)) := by
  refine (pe_and ha hb).imp fun σ H Q q => ?_
  obtain ⟨σd, S, B, F, φ, s, rs, o⟩ := q
  obtain ⟨d, S1, e, o⟩ := okE_bnd o
  obtain ⟨b, S2, e2, o2⟩ := okE_bnd o
  clear o
  obtain ⟨rfl, rfl⟩ := toB_of e2
  have o := o2
  clear o2
  refine LE.then_ s rs e fun F1 φ1 H1 x s1 x1 rs1 dr1 l1 => ⟨b, rp_bl dr1, ?_⟩
  split
  · rename_i ht; rw [if_pos ht] at o; exact ⟨σd, S2, B, F1, φ1, s1, rs1, o.ext x1⟩
  · rename_i ht; rw [if_neg ht] at o; exact o.fin rfl s1 x1 (Rp.bl _) trivial
variable {e : Expr} {es : List Expr} {mr : MA}
theorem a_nil : PA X [] (LA X.K cl dNil) := pa_nil.imp fun σ H Q q => by
  obtain ⟨σd, S, B, F, φ, s, rs, d, S1, e, k⟩ := q
  cases e
  exact k F φ H [] s (.refl s) .nil (fun _ z => absurd z (by simp))
theorem a_cons (he : PE X e (LE X.K cl ma)) (hr : PA X es (LA X.K cl mr)) (hs : starEach (e :: es) X.env = (false, eval e X.env) :: starEach es X.env := by rfl) : PA X (e :: es) (LA X.K cl (dCons ma mr)) := by
  refine (pa_cons he hr hs).imp fun σ H Q q => ?_
  obtain ⟨σd, S, B, F, φ, s, rs, o⟩ := q
  obtain ⟨d1, S1, ea, o⟩ := okA_bnd o
  obtain ⟨d2, S2, eb, o⟩ := okA_bnd o
  refine LE.then_ s rs ea fun F1 φ1 H1 x s1 x1 rs1 dr1 l1 => ?_
  refine LA.then_ s1 rs1 eb fun F2 φ2 H2 y s2 x2 rs2 dr2 l2 => ?_
  obtain ⟨_, _, z, k⟩ := o
  cases z
  exact k F2 φ2 H2 (x :: y) s2 (x1.trans x2) (.cons (x2.dr l1 dr1) dr2) fun d hd => by
    rcases List.mem_cons.mp hd with rfl | hd
    · exact x2.lt l1
    · exact l2 d hd
theorem e_call {K : PySem.W.Frag} {f : MF} {r : List V → Hp → VK → Prop} (h : CallD K cl f r) {m : MA} {σ : L2.St} {H : Hp} {Q : VK} (q : LE K cl (dCall f m) σ H Q) : LA K cl m σ H fun vs H1 => r vs H1 Q := by
  obtain ⟨σd, S, B, F, φ, s, rs, o⟩ := q
  obtain ⟨d1, S1, ea, o⟩ := okE_bnd o
  exact LA.then_ s rs ea fun F1 φ1 H1 x s1 x1 rs1 dr1 l1 => h S1 B F1 φ1 H1 d1 x Q s1 dr1 l1 (o.ext x1)
end
end Pv
namespace Pv
open PySem PySem.Spec PyProof.Rows L2

/-! ### what a def leaves behind: the objects that it made are data from then on -/
def toP : Nat → Nat → SH → D → Option P
  | _, _, _, .p x => some x
  | 0, _, _, .ref _ => none
  | k + 1, b, S, .ref n => if n < b then none else match S.os[n]? with
    | some (.lst ds) => (ds.mapM (toP k b S)).map .lst
    | some (.dK kvs) => (kvs.mapM fun p => (toP k b S p.2).map fun x => (p.1, x)).map .dK
    | some (.dT kvs) => (kvs.mapM fun p => (toP k b S p.2).map fun x => (p.1, x)).map .dT
    | some (.ins c fs) => (fs.mapM fun p => (toP k b S p.2).map fun x => (p.1, x)).map (.ins c)
    | none => none
/-- a value as it is behind the end of a def that began at b -/
def outD (b : Nat) (S : SH) (d : D) : Option D := match d with
  | .p x => some (.p x)
  | .ref n => if n < b then some (.ref n) else (toP 8 b S (.ref n)).map .p
def cutS (S0 S1 : SH) : SH := ⟨S0.b, S1.os.take S0.len⟩
/-- a def's call: what it made becomes data, or goes -/
def frameF (S : SH) (r : Option (Fl × SH)) : Option (D × SH) := bnd r fun f S1 => match f with
  | .ret d => match outD S.len S1 d with | some d' => some (d', cutS S S1) | none => none
  | .nx _ => some (.p .non, cutS S S1)
  | _ => none
/-- a def's call where what it made stays -/
def liveF (r : Option (Fl × SH)) : Option (D × SH) := bnd r fun f S1 => match f with
  | .ret d => some (d, S1)
  | .nx _ => some (.p .non, S1)
  | _ => none
/-- a block whose new objects become data at its end; a name that can't be data is forgotten -/
def outO (b : Nat) (S : SH) : Option D → Option D
  | some d => outD b S d
  | none => none
def outE (b : Nat) (S : SH) (σ : En) : En := σ.map (outO b S)
def dBlock (m : MS) : MS := fun σ S => bnd (m σ ⟨S.len, S.os⟩) fun f S1 => match f with
  | .nx σ1 => some (.nx (outE S.len S1 σ1), cutS S S1)
  | .ct σ1 => some (.ct (outE S.len S1 σ1), cutS S S1)
  | .brk σ1 => some (.brk (outE S.len S1 σ1), cutS S S1)
  | .ret d => match outD S.len S1 d with | some d' => some (.ret d', cutS S S1) | none => none

section
variable {K : PySem.W.Frag} {cl : ClW} {S S' S1 S2 : SH} {B : List Nat} {F F' F0 F1 F2 H H' H0 H1 H2 : Hp} {φ φ' φ0 φ1 φ2 : Nat → Addr}
open Classical in
/-- the heap of data with the objects from b on -/
noncomputable def addF (b k : Nat) (F H : Hp) (φ : Nat → Addr) : Hp := fun a => if ∃ n, b ≤ n ∧ n < k ∧ φ n = a then H a else F a
theorem addF_in {b k n : Nat} (h1 : b ≤ n) (h2 : n < k) : addF b k F H φ (φ n) = H (φ n) := by unfold addF; rw [if_pos ⟨n, h1, h2, rfl⟩]
theorem addF_out {b k : Nat} {a : Addr} (h : ∀ n, b ≤ n → n < k → φ n ≠ a) : addF b k F H φ a = F a := by
  unfold addF; rw [if_neg]; rintro ⟨n, h1, h2, e⟩; exact h n h1 h2 e
theorem addF_le (s : Sim K cl S B F φ H) (b : Nat) : Same F (addF b S.len F H φ) := fun a o e => by
  rw [addF_out]
  · exact e
  · intro n h1 h2 q
    have z := (s.ob n _ (List.getElem?_eq_getElem h2)).1
    rw [q, e] at z; cases z
theorem addF_heap (s : Sim K cl S B F φ H) (b : Nat) : Same (addF b S.len F H φ) H := fun a o e => by
  by_cases h : ∃ n, b ≤ n ∧ n < S.len ∧ φ n = a
  · obtain ⟨n, h1, h2, rfl⟩ := h
    rw [addF_in h1 h2] at e; exact e
  · rw [addF_out fun n h1 h2 q => h ⟨n, h1, h2, q⟩] at e
    exact s.le _ _ e
theorem mapM_rp {α : Type} {g : α → Option P} {R : α → V → Prop} {F : Hp} (hR : ∀ a x v, g a = some x → R a v → Rp K cl F x v) : ∀ {l : List α} {xs : List P} {vs : List V}, l.mapM g = some xs → Paired R l vs → RpA K cl F xs vs
  | [], xs, vs, e, r => by
    cases r
    simp at e
    subst e
    exact .nil
  | a :: l, xs, vs, e, r => by
    cases r with
    | cons r1 r2 =>
      rw [List.mapM_cons] at e
      cases e1 : g a with
      | none => rw [e1] at e; cases e
      | some x =>
        rw [e1] at e
        cases e2 : l.mapM g with
        | none => rw [e2] at e; cases e
        | some ys =>
          rw [e2] at e
          cases e
          exact .cons (hR a x _ e1 r1) (mapM_rp hR e2 r2)
theorem mapM_rpk {κ : Type} {g : D → Option P} {R : D → V → Prop} {F : Hp} {Z : List (κ × P) → List (κ × V) → Prop} (z0 : Z [] []) (z1 : ∀ k x v xs vs, Rp K cl F x v → Z xs vs → Z ((k, x) :: xs) ((k, v) :: vs))
    (hR : ∀ a x v, g a = some x → R a v → Rp K cl F x v) : ∀ {l : List (κ × D)} {xs : List (κ × P)} {vs : List (κ × V)}, l.mapM (fun p => (g p.2).map fun x => (p.1, x)) = some xs → Paired (fun p q => p.1 = q.1 ∧ R p.2 q.2) l vs → Z xs vs
  | [], xs, vs, e, r => by
    cases r
    simp at e
    subst e
    exact z0
  | (k, a) :: l, xs, vs, e, r => by
    cases r with
    | cons r1 r2 =>
      rename_i q vs'
      obtain ⟨k', v⟩ := q
      obtain ⟨rfl, r1⟩ := r1
      rw [List.mapM_cons] at e
      cases e1 : g a with
      | none => rw [e1] at e; cases e
      | some x =>
        rw [e1] at e
        cases e2 : l.mapM (fun p => (g p.2).map fun x => (p.1, x)) with
        | none =>
          simp only [Option.map_some] at e
          rw [e2] at e; cases e
        | some ys =>
          simp only [Option.map_some] at e
          rw [e2] at e
          cases e
          exact z1 _ _ _ _ _ (hR a x _ e1 r1) (mapM_rpk z0 z1 hR e2 r2)
theorem mapM_rpt {F F' : Hp} {φ : Nat → Addr} {g : D → Option P} (hk : ∀ p v, Rp K cl F p v → Rp K cl F' p v) (hR : ∀ a x v, g a = some x → DR K cl F φ a v → Rp K cl F' x v) : ∀ {l : List (P × D)} {xs : List (P × P)} {vs : List Ent}, l.mapM (fun p => (g p.2).map fun x => (p.1, x)) = some xs → DRT K cl F φ l vs → RpT K cl F' xs vs
  | [], xs, vs, e, r => by
    cases r
    simp at e
    subst e
    exact .nil
  | (k, a) :: l, xs, vs, e, r => by
    cases r with
    | cons r1 r2 =>
      rename_i q vs'
      obtain ⟨k', b, v⟩ := q
      obtain ⟨h1, h2, h3, h4⟩ := r1
      rw [List.mapM_cons] at e
      cases e1 : g a with
      | none => rw [e1] at e; cases e
      | some x =>
        rw [e1] at e
        cases e2 : l.mapM (fun p => (g p.2).map fun x => (p.1, x)) with
        | none =>
          simp only [Option.map_some] at e
          rw [e2] at e; cases e
        | some ys =>
          simp only [Option.map_some] at e
          rw [e2] at e
          cases e
          exact .cons h1 h2 (hk _ _ h3) (hR a x _ e1 h4) (mapM_rpt hk hR e2 r2)
theorem toP_ok (s : Sim K cl S B F φ H) (b : Nat) : ∀ (k : Nat) (d : D) (x : P) (v : V), toP k b S d = some x → DR K cl F φ d v → Rp K cl (addF b S.len F H φ) x v
  | k, .p y, x, v, e, r => by
    have e : y = x := by cases k <;> (simp [toP] at e; exact e)
    subst e
    exact Rp.mono (addF_le s b) r
  | 0, .ref n, x, v, e, r => by simp [toP] at e
  | k + 1, .ref n, x, v, e, r => by
    have r' : v = .ref (φ n) := r
    subst r'
    unfold toP at e
    by_cases hb : n < b
    · rw [if_pos hb] at e; cases e
    · rw [if_neg hb] at e
      have ih : ∀ (a : D) (x : P) (v : V), toP k b S a = some x → DR K cl F φ a v → Rp K cl (addF b S.len F H φ) x v := toP_ok s b k
      cases ho : S.os[n]? with
      | none => rw [ho] at e; cases e
      | some o =>
        rw [ho] at e
        have hn : n < S.len := (List.getElem?_eq_some_iff.mp ho).1
        have hF : addF b S.len F H φ (φ n) = H (φ n) := addF_in (Nat.le_of_not_lt hb) hn
        have ob := (s.ob n o ho).2
        cases o with
        | lst ds =>
          obtain ⟨vs, ev, rv⟩ := ob
          dsimp only at e
          cases e2 : ds.mapM (toP k b S) with
          | none => rw [e2] at e; cases e
          | some xs =>
            rw [e2] at e
            cases e
            exact .lst (.inl (.inl (hF.trans ev))) (mapM_rp ih e2 rv)
        | dK kvs =>
          obtain ⟨vs, ev, rv⟩ := ob
          dsimp only at e
          cases e2 : kvs.mapM fun p => (toP k b S p.2).map fun x => (p.1, x) with
          | none => rw [e2] at e; cases e
          | some xs =>
            rw [e2] at e
            cases e
            exact .dK (hF.trans ev) (mapM_rpk (Z := RpK K cl _) .nil (fun _ _ _ _ _ h1 h2 => .cons h1 h2) ih e2 rv)
        | dT kvs =>
          obtain ⟨vs, ev, rv⟩ := ob
          dsimp only at e
          cases e2 : kvs.mapM fun p => (toP k b S p.2).map fun x => (p.1, x) with
          | none => rw [e2] at e; cases e
          | some xs =>
            rw [e2] at e
            cases e
            exact .dT (.of (hF.trans ev)) (mapM_rpt (fun p v h => Rp.mono (addF_le s b) h) ih e2 rv)
        | ins c fs =>
          obtain ⟨dx, vs, ev, rv⟩ := ob
          dsimp only at e
          cases e2 : fs.mapM fun p => (toP k b S p.2).map fun x => (p.1, x) with
          | none => rw [e2] at e; cases e
          | some xs =>
            rw [e2] at e
            cases e
            exact .ins (hF.trans ev) (mapM_rpk (Z := RpF K cl _) .nil (fun _ _ _ _ _ h1 h2 => .cons h1 h2) ih e2 rv)
/-- a block, a def's body begins -/
theorem Sim.begin (s : Sim K cl S B F φ H) : Sim K cl ⟨S.len, S.os⟩ (S.len :: B) F φ H := by
  refine ⟨s.le, s.ob, s.inj, s.wf, fun b hb => ?_, Nat.le_refl _⟩
  rcases List.mem_cons.mp hb with rfl | hb
  · exact ⟨Nat.le_refl _, fun n o e _ => s.wf n o e⟩
  · exact ⟨Nat.le_trans (s.bs b hb).1 s.bl, (s.bs b hb).2⟩
theorem cutS_len (h : S.len ≤ S1.len) : (cutS S S1).len = S.len := by
  show (S1.os.take S.len).length = _
  rw [List.length_take]
  exact Nat.min_eq_left h
theorem cutS_get {n : Nat} {o : Ob} (e : (cutS S S1).os[n]? = some o) : n < S.len ∧ S1.os[n]? = some o := by
  have e : (S1.os.take S.len)[n]? = some o := e
  rw [List.getElem?_take] at e
  split at e
  · rename_i h; exact ⟨h, e⟩
  · cases e
/-- .. and ends -/
theorem Sim.end_ (s0 : Sim K cl S B F0 φ0 H0) (s : Sim K cl S1 (S.len :: B) F φ H) (h : S.len ≤ S1.len) : Sim K cl (cutS S S1) B (addF S.len S1.len F H φ) φ H := by
  have hl := cutS_len h
  refine ⟨addF_heap s _, fun n o e => ?_, fun n m h1 h2 => ?_, fun n o e => ?_, fun b hb => ⟨(s0.bs b hb).1, fun n o e hn => ?_⟩, ?_⟩
  · obtain ⟨hn, e⟩ := cutS_get e
    refine ⟨?_, ?_⟩
    · rw [addF_out fun m h1 h2 q => ?_]
      · exact (s.ob n o e).1
      · have := s.inj m n h2 (Nat.lt_of_lt_of_le hn h) q
        omega
    · exact OR.mono (addF_le s _) (fun _ _ => rfl) (s.wf n o e) (s.ob n o e).2
  · exact s.inj n m (by omega) (by omega)
  · obtain ⟨hn, e⟩ := cutS_get e
    rw [hl]
    exact (s.bs S.len List.mem_cons_self).2 n o e hn
  · obtain ⟨_, e⟩ := cutS_get e
    exact (s.bs b (List.mem_cons_of_mem _ hb)).2 n o e hn
  · rw [hl]; exact s0.bl
theorem Ext.end_ (s : Sim K cl S1 (S.len :: B) F φ H) (x : Ext ⟨S.len, S.os⟩ F0 φ0 H0 S1 F φ H) : Ext S F0 φ0 H0 (cutS S S1) (addF S.len S1.len F H φ) φ H := by
  have hl := cutS_len (S := S) (S1 := S1) x.len
  refine ⟨x.fz.trans (addF_le s _), Nat.le_of_eq hl.symm, rfl, x.phi, fun n h1 h2 => by omega, x.keep, x.tr, fun a o h f n => ?_⟩
  rw [addF_out fun m h1 h2 q => ?_]
  · exact x.fr a o h f n
  · have := x.new m h1 h2
    rw [q, h] at this; cases this
theorem outD_ok (s : Sim K cl S1 (S.len :: B) F φ H) (h : S.len ≤ S1.len) {d d' : D} {v : V} (e : outD S.len S1 d = some d') (r : DR K cl F φ d v) (l : d.lt S1.len) : DR K cl (addF S.len S1.len F H φ) φ d' v ∧ d'.lt (cutS S S1).len := by
  rw [cutS_len h]
  cases d with
  | p x => cases e; exact ⟨Rp.mono (addF_le s _) r, trivial⟩
  | ref n =>
    unfold outD at e
    dsimp only at e
    by_cases hn : n < S.len
    · rw [if_pos hn] at e; cases e; exact ⟨r, hn⟩
    · rw [if_neg hn] at e
      cases e2 : toP 8 S.len S1 (.ref n) with
      | none => rw [e2] at e; cases e
      | some x => rw [e2] at e; cases e; exact ⟨toP_ok s _ _ _ _ _ e2 r, trivial⟩
theorem outE_ok (s : Sim K cl S1 (S.len :: B) F φ H) (h : S.len ≤ S1.len) {σd : En} {σ : L2.St} (r : RS K cl F φ S1.len σd σ) : RS K cl (addF S.len S1.len F H φ) φ (cutS S S1).len (outE S.len S1 σd) σ := by
  refine ⟨by unfold outE; rw [List.length_map]; exact r.1, fun i d e => ?_⟩
  unfold outE at e
  rw [List.getElem?_map] at e
  cases e1 : σd[i]? with
  | none => rw [e1] at e; cases e
  | some o =>
    rw [e1] at e
    cases o with
    | none => cases e
    | some d0 =>
      have e : outD S.len S1 d0 = some d := Option.some.inj e
      obtain ⟨l, v, ev, rv⟩ := r.2 i d0 e1
      obtain ⟨a, b⟩ := outD_ok s h e rv l
      exact ⟨b, v, ev, a⟩
end
section
variable {X : Cx} {cl : ClW} {st : Stmt} {rest : List Stmt} {m n : MS} {me : ME} {mt : MT} {e : Expr} {pos : Pos}
theorem s_nil : PSs X [] (LS X.K cl dNx) := pss_nil.imp fun Z σ H q => by
  obtain ⟨σd, S, B, F, φ, s, rs, f, S1, e, k⟩ := q
  cases e
  exact k F φ H σ s (.refl s) rs
theorem s_one (h : PS X st (LS X.K cl m)) : PSs X [st] (LS X.K cl m) := pss_one h
theorem s_cons (h1 : PS X st (LS X.K cl m)) (h2 : PSs X rest (LS X.K cl n)) : PSs X (st :: rest) (LS X.K cl (dSeq m n)) := by
  refine (pss_cons h1 h2).imp fun Z σ H q => ?_
  obtain ⟨σd, S, B, F, φ, s, rs, o⟩ := q
  obtain ⟨f, S1, e, o⟩ := okS_bnd o
  refine LS.then_ s rs e ?_
  cases f with
  | nx σ1 => exact fun F1 φ1 H1 σ' s1 x1 rs1 => ⟨σ1, S1, B, F1, φ1, s1, rs1, o.ext x1⟩
  | ret d => obtain ⟨_, _, z, k⟩ := o; cases z; exact k
  | brk d => obtain ⟨_, _, z, k⟩ := o; cases z; exact k
  | ct d => obtain ⟨_, _, z, k⟩ := o; cases z; exact k
theorem ss_never {sts : List Stmt} : PSs X sts (LS X.K cl dNever) := pss_never.imp fun Z σ H q => by
  obtain ⟨σd, S, B, F, φ, s, rs, f, S1, e, k⟩ := q
  cases e
theorem s_if {c : Expr} {a b : List Stmt} (hc : PT X c (LT X.K cl mt)) (ha : PSs X a (LS X.K cl m)) (hb : PSs X b (LS X.K cl n)) : PS X (.If c a b pos) (LS X.K cl (dIf mt m n)) := by
  refine (ps_if hc ha hb).imp fun Z σ H q => ?_
  obtain ⟨σd, S, B, F, φ, s, rs, o⟩ := q
  obtain ⟨t, S1, e, o⟩ := okS_bnd o
  refine LT.then_ s rs e fun F1 φ1 H1 s1 x1 rs1 => ?_
  split
  · rename_i ht; rw [if_pos ht] at o; exact ⟨σd, S1, B, F1, φ1, s1, rs1, o.ext x1⟩
  · rename_i ht; rw [if_neg ht] at o; exact ⟨σd, S1, B, F1, φ1, s1, rs1, o.ext x1⟩
theorem s_ret (he : PE X e (LE X.K cl me)) : PS X (.Return (some e) pos) (LS X.K cl (dRet me)) := by
  refine (ps_ret he).imp fun Z σ H q => ?_
  obtain ⟨σd, S, B, F, φ, s, rs, o⟩ := q
  obtain ⟨d, S1, e, o⟩ := okS_bnd o
  obtain ⟨_, _, z, k⟩ := o
  cases z
  exact LE.then_ s rs e fun F1 φ1 H1 u s1 x1 _ dr l => k F1 φ1 H1 u s1 x1 dr l
theorem s_drop (he : PE X e (LE X.K cl me)) (hs : swapsWith e none pos.line X.env = pure false := by rfl) : PS X (.Expr e pos) (LS X.K cl (dDrop me)) := by
  refine (ps_expr he hs).imp fun Z σ H q => ?_
  obtain ⟨σd, S, B, F, φ, s, rs, o⟩ := q
  obtain ⟨d, S1, e, o⟩ := okS_bnd o
  obtain ⟨_, _, z, k⟩ := o
  cases z
  exact LE.then_ s rs e fun F1 φ1 H1 u s1 x1 rs1 dr l => k F1 φ1 H1 σ s1 x1 rs1
theorem RS.set {K : PySem.W.Frag} {F : Hp} {φ : Nat → Addr} {k : Nat} {σd : En} {σ : L2.St} (r : RS K cl F φ k σd σ) (i : Nat) {d : D} {v : V} (dr : DR K cl F φ d v) (l : d.lt k) : RS K cl F φ k (σd.set i (some d)) (σ.set i (some v)) := by
  refine ⟨by rw [List.length_set, List.length_set]; exact r.1, fun j d' e => ?_⟩
  by_cases h : i = j
  · subst h
    rw [List.getElem?_set] at e
    rw [if_pos rfl] at e
    by_cases hi : i < σd.length
    · rw [if_pos hi] at e
      cases e
      exact ⟨l, v, by rw [List.getElem?_set_self (by rw [← r.1]; exact hi)], dr⟩
    · rw [if_neg hi] at e; cases e
  · rw [List.getElem?_set_ne h] at e
    obtain ⟨a, v', b, c⟩ := r.2 j d' e
    exact ⟨a, v', by rw [List.getElem?_set_ne h]; exact b, c⟩
theorem RS.unset {K : PySem.W.Frag} {F : Hp} {φ : Nat → Addr} {k : Nat} {σd : En} {σ : L2.St} (r : RS K cl F φ k σd σ) (i : Nat) : RS K cl F φ k (σd.set i none) σ := by
  refine ⟨by rw [List.length_set]; exact r.1, fun j d' e => ?_⟩
  by_cases h : i = j
  · subst h
    rw [List.getElem?_set, if_pos rfl] at e
    split at e <;> cases e
  · rw [List.getElem?_set_ne h] at e
    exact r.2 j d' e
theorem RS.wipe {K : PySem.W.Frag} {F : Hp} {φ : Nat → Addr} {k : Nat} {σ : L2.St} : ∀ (vs : List Nat) {σd : En}, RS K cl F φ k σd σ → RS K cl F φ k (wipeD vs σd) σ
  | [], _, r => r
  | i :: vs, _, r => RS.wipe vs (r.unset i)
theorem s_set {i : Nat} {x : Str} {pos' : Pos} (hN : X.N.Nodup) (hi : X.N[i]? = some x) (hx : Loc X.env.scope x) (he : PE X e (LE X.K cl me)) (hs : swapsWith e (some (.Name x pos')) pos.line X.env = pure false := by rfl) (hf : X.fn x = true ∨ X.env.scope.names.lookup x = some .local := by first | exact .inl rfl | exact .inr rfl | assumption) :
    PS X (.Assign [.Name x pos'] e pos) (LS X.K cl (dSet i me)) := by
  refine (ps_set hN hi hx he hs hf).imp fun Z σ H q => ?_
  obtain ⟨σd, S, B, F, φ, s, rs, o⟩ := q
  obtain ⟨d, S1, e, o⟩ := okS_bnd o
  obtain ⟨_, _, z, k⟩ := o
  cases z
  exact LE.then_ s rs e fun F1 φ1 H1 u s1 x1 rs1 dr l => k F1 φ1 H1 _ s1 x1 (rs1.set i dr l)
theorem ss_block (h : PSs X rest (LS X.K cl m)) : PSs X rest (LS X.K cl (dBlock m)) := h.imp fun Z σ H q => by
  obtain ⟨σd, S, B, F, φ, s, rs, o⟩ := q
  obtain ⟨f, S1, e, o⟩ := okS_bnd o
  refine ⟨σd, ⟨S.len, S.os⟩, S.len :: B, F, φ, s.begin, rs, f, S1, e, ?_⟩
  cases f with
  | nx σ1 =>
    obtain ⟨_, _, z, k⟩ := o; cases z
    exact fun F1 φ1 H1 σ' s1 x1 rs1 => k _ _ _ _ (Sim.end_ s s1 x1.len) (Ext.end_ s1 x1) (outE_ok s1 x1.len rs1)
  | ct σ1 =>
    obtain ⟨_, _, z, k⟩ := o; cases z
    exact fun F1 φ1 H1 σ' s1 x1 rs1 => k _ _ _ _ (Sim.end_ s s1 x1.len) (Ext.end_ s1 x1) (outE_ok s1 x1.len rs1)
  | brk σ1 =>
    obtain ⟨_, _, z, k⟩ := o; cases z
    exact fun F1 φ1 H1 σ' s1 x1 rs1 => k _ _ _ _ (Sim.end_ s s1 x1.len) (Ext.end_ s1 x1) (outE_ok s1 x1.len rs1)
  | ret d =>
    dsimp only at o
    cases ed : outD S.len S1 d with
    | none => rw [ed] at o; obtain ⟨_, _, z, _⟩ := o; cases z
    | some d' =>
      rw [ed] at o
      obtain ⟨_, _, z, k⟩ := o; cases z
      intro F1 φ1 H1 u s1 x1 dr l
      obtain ⟨a, b⟩ := outD_ok s1 x1.len ed dr l
      exact k _ _ _ _ (Sim.end_ s s1 x1.len) (Ext.end_ s1 x1) a b

/-! ### defs -/
def startD (n : Nat) (ds : List D) : En := ds.map some ++ List.replicate (n - ds.length) none
theorem DRA.length {K : PySem.W.Frag} {F : Hp} {φ : Nat → Addr} {ds : List D} {vs : List V} (h : DRA K cl F φ ds vs) : ds.length = vs.length := Paired.length h
theorem DRA.get {K : PySem.W.Frag} {F : Hp} {φ : Nat → Addr} : ∀ {ds : List D} {vs : List V} {i : Nat} {d : D}, DRA K cl F φ ds vs → ds[i]? = some d → ∃ v, vs[i]? = some v ∧ DR K cl F φ d v
  | _, _, _, _, .nil, e => by simp at e
  | _, _, 0, _, .cons r _, e => by simp at e; subst e; exact ⟨_, rfl, r⟩
  | _, _, i + 1, d, .cons _ t, e => by
    obtain ⟨u, h1, h2⟩ := DRA.get (i := i) (d := d) t (by simpa using e)
    exact ⟨u, by simpa using h1, h2⟩
theorem rs_start {K : PySem.W.Frag} {F : Hp} {φ : Nat → Addr} {k : Nat} {N : List Str} {ds : List D} {vs : List V} (r : DRA K cl F φ ds vs) (l : ∀ d ∈ ds, d.lt k) : RS K cl F φ k (startD N.length ds) (L2.start N vs) := by
  have hl := r.length
  refine ⟨by unfold startD L2.start; simp [hl], fun i d e => ?_⟩
  unfold startD at e
  by_cases hi : i < ds.length
  · rw [List.getElem?_append_left (by simpa using hi), List.getElem?_map] at e
    cases e1 : ds[i]? with
    | none => rw [e1] at e; cases e
    | some d0 =>
      rw [e1] at e; cases e
      obtain ⟨v, ev, dr⟩ := r.get e1
      refine ⟨l d (List.mem_of_getElem? e1), v, ?_, dr⟩
      unfold L2.start
      rw [List.getElem?_append_left (by simpa [← hl] using hi), List.getElem?_map, ev]
      rfl
  · rw [List.getElem?_append_right (by simpa using hi), List.getElem?_replicate] at e
    split at e <;> cases e
/-- what a def promises, by its computation -/
def spOf (K : PySem.W.Frag) (cl : ClW) (m : MF) : Sp := fun vs H Q _ => ∃ ds S B F φ, Sim K cl S B F φ H ∧ DRA K cl F φ ds vs ∧ (∀ d ∈ ds, d.lt S.len) ∧ OkE K cl S B F φ H (m ds S) Q
/-- a def by its body: what it made becomes data -/
def dFn (k n : Nat) (body : MS) : MF := fun ds S => if ds.length = k then frameF S (body (startD n ds) ⟨S.len, S.os⟩) else none
def dFnL (k n : Nat) (body : MS) : MF := fun ds S => if ds.length = k then liveF (body (startD n ds) S) else none
theorem fn_len {K : PySem.W.Frag} {S : SH} {B : List Nat} {F : Hp} {φ : Nat → Addr} {H : Hp} {Q : VK} {ds : List D} {k : Nat} {r : Option (D × SH)} (h : OkE K cl S B F φ H (if ds.length = k then r else none) Q) : ds.length = k ∧ OkE K cl S B F φ H r Q := by
  by_cases e : ds.length = k
  · rw [if_pos e] at h; exact ⟨e, h⟩
  · rw [if_neg e] at h; obtain ⟨_, _, z, _⟩ := h; cases z
theorem sp_len {K : PySem.W.Frag} {k n : Nat} {m : MS} {vs : List V} {H : Hp} {Q : VK} {E : XK} (h : spOf K cl (dFn k n m) vs H Q E) : vs.length = k := by
  obtain ⟨ds, S, B, F, φ, s, dr, l, o⟩ := h
  rw [← dr.length]
  exact (fn_len o).1
theorem spL_len {K : PySem.W.Frag} {k n : Nat} {m : MS} {vs : List V} {H : Hp} {Q : VK} {E : XK} (h : spOf K cl (dFnL k n m) vs H Q E) : vs.length = k := by
  obtain ⟨ds, S, B, F, φ, s, dr, l, o⟩ := h
  rw [← dr.length]
  exact (fn_len o).1
theorem fn_body {K : PySem.W.Frag} {N : List Str} {k : Nat} {m : MS} {vs : List V} {H : Hp} {Q : VK} {E : XK} (h : spOf K cl (dFn k N.length m) vs H Q E) : LS K cl m { nx := fun _ H' => Q .non H', rt := Q } (L2.start N vs) H := by
  obtain ⟨ds, S, B, F, φ, s, dr, l, o⟩ := h
  have o := (fn_len o).2
  obtain ⟨f, S1, e, o⟩ := okE_bnd o
  refine ⟨_, ⟨S.len, S.os⟩, S.len :: B, F, φ, s.begin, rs_start dr l, f, S1, e, ?_⟩
  cases f with
  | nx σ1 =>
    obtain ⟨_, _, z, k⟩ := o; cases z
    exact fun F1 φ1 H1 σ' s1 x1 rs1 => k _ _ _ _ (Sim.end_ s s1 x1.len) (Ext.end_ s1 x1) .non trivial
  | ret d =>
    dsimp only at o
    cases ed : outD S.len S1 d with
    | none => rw [ed] at o; obtain ⟨_, _, z, _⟩ := o; cases z
    | some d' =>
      rw [ed] at o
      obtain ⟨_, _, z, k⟩ := o; cases z
      intro F1 φ1 H1 u s1 x1 dr l
      obtain ⟨a, b⟩ := outD_ok s1 x1.len ed dr l
      exact k _ _ _ _ (Sim.end_ s s1 x1.len) (Ext.end_ s1 x1) a b
  | brk _ => obtain ⟨_, _, z, _⟩ := o; cases z
  | ct _ => obtain ⟨_, _, z, _⟩ := o; cases z
theorem fnL_body {K : PySem.W.Frag} {N : List Str} {k : Nat} {m : MS} {vs : List V} {H : Hp} {Q : VK} {E : XK} (h : spOf K cl (dFnL k N.length m) vs H Q E) : LS K cl m { nx := fun _ H' => Q .non H', rt := Q } (L2.start N vs) H := by
  obtain ⟨ds, S, B, F, φ, s, dr, l, o⟩ := h
  have o := (fn_len o).2
  obtain ⟨f, S1, e, o⟩ := okE_bnd o
  refine ⟨_, S, B, F, φ, s, rs_start dr l, f, S1, e, ?_⟩
  cases f with
  | nx σ1 =>
    obtain ⟨_, _, z, k⟩ := o; cases z
    exact fun F1 φ1 H1 σ' s1 x1 rs1 => k _ _ _ _ s1 x1 .non trivial
  | ret d => obtain ⟨_, _, z, k⟩ := o; cases z; exact k
  | brk _ => obtain ⟨_, _, z, _⟩ := o; cases z
  | ct _ => obtain ⟨_, _, z, _⟩ := o; cases z
/-- THE RULE for a def -/
theorem fn_ok {P : Program} {w : World} {K : PySem.W.Frag} {mg : Str → Option Value} {base : Heap} {x qual : Str} {st : Stmt} {f : Addr} {fd : FuncData} {N ps : List Str} {k : Nat} {m : MS} (F : Fun K x qual st f fd) (S : FnScope N ps (defScope st))
    (h : ∀ (cdv : Value) (A : Around) (outer : List Env) (s : Shared) (H : Hp) (E : XK), Room k (A.deeper (envOfC qual (defScope st) s.heap.objs.size f cdv)) →
      PSs (cxOf CX0 P w K mg base N qual (defScope st) f cdv A outer s H E).nox (defBody st) (LS K cl m)) : FnOk P w K mg base CX0 (k + 1) f fd ps (spOf K cl (dFn ps.length N.length m)) :=
  F.ok S (fun vs H Q E q => sp_len q) fun cdv A outer s H vs Q E hr q => ⟨_, h cdv A outer s H E hr, fn_body q⟩
theorem fnL_ok {P : Program} {w : World} {K : PySem.W.Frag} {mg : Str → Option Value} {base : Heap} {x qual : Str} {st : Stmt} {f : Addr} {fd : FuncData} {N ps : List Str} {k : Nat} {m : MS} (F : Fun K x qual st f fd) (S : FnScope N ps (defScope st))
    (h : ∀ (cdv : Value) (A : Around) (outer : List Env) (s : Shared) (H : Hp) (E : XK), Room k (A.deeper (envOfC qual (defScope st) s.heap.objs.size f cdv)) →
      PSs (cxOf CX0 P w K mg base N qual (defScope st) f cdv A outer s H E).nox (defBody st) (LS K cl m)) : FnOk P w K mg base CX0 (k + 1) f fd ps (spOf K cl (dFnL ps.length N.length m)) :=
  F.ok S (fun vs H Q E q => spL_len q) fun cdv A outer s H vs Q E hr q => ⟨_, h cdv A outer s H E hr, fnL_body q⟩
end
end Pv
namespace Pv
open PySem PySem.Spec PyProof.Rows L2

theorem _root_.L2.Same.new {H H1 : Hp} {q : Addr} {o : HO} (a : Same H H1) (h : H1 q = none) : Same H (L2.upd H1 q o) := fun c u e => by
  rw [upd_ne (ne_of_none (a c u e) h)]
  exact a c u e
/-! ### new objects -/
def toPs : List D → Option (List P)
  | [] => some []
  | .p x :: r => (toPs r).map (x :: ·)
  | .ref _ :: _ => none
@[simp] theorem toPs_map (ps : List P) : toPs (ps.map D.p) = some ps := by
  induction ps with
  | nil => rfl
  | cons x r ih => simp [toPs, ih]
theorem toPs_of : ∀ {ds : List D} {ps : List P}, toPs ds = some ps → ds = ps.map D.p
  | [], ps, h => by cases h; rfl
  | .p x :: r, ps, h => by
    unfold toPs at h
    cases e : toPs r with
    | none => rw [e] at h; cases h
    | some qs => rw [e] at h; cases h; rw [List.map_cons, ← toPs_of e]
  | .ref n :: r, ps, h => by cases h
abbrev SH.push (S : SH) (o : Ob) : SH := ⟨S.b, S.os ++ [o]⟩
abbrev SH.put (S : SH) (n : Nat) (o : Ob) : SH := ⟨S.b, S.os.set n o⟩
def newT (ds : List D) (S : SH) : Option (D × SH) := match toPs ds with
  | some ps => if ps.length ≤ sizeLine then some (.p (.tup ps), S) else none
  | none => none
def newL (live : Bool) (ds : List D) (S : SH) : Option (D × SH) := if ds.length ≤ sizeLine then (if live = true then some (.ref S.len, S.push (.lst ds)) else match toPs ds with
  | some ps => some (.p (.lst ps), S)
  | none => none) else none
/-- the items of a list, wherever it stands -/
def asL (d : D) (S : SH) : Option (List D) := match d with
  | .p (.lst ps) => some (ps.map .p)
  | .ref n => match S.os[n]? with | some (.lst ds) => some ds | _ => none
  | _ => none
/-- .. of a list or a tuple -/
def asQ (d : D) (S : SH) : Option (List D) := match d with
  | .p (.lst ps) => some (ps.map .p)
  | .p (.tup ps) => some (ps.map .p)
  | .ref n => match S.os[n]? with | some (.lst ds) => some ds | _ => none
  | _ => none
section
variable {K : PySem.W.Frag} {cl : ClW} {S S' S1 S2 : SH} {B : List Nat} {F F' F0 F1 F2 H H' H0 H1 H2 : Hp} {φ φ' φ0 φ1 φ2 : Nat → Addr} {Q : VK}
theorem RpA.dra {ps : List P} {vs : List V} (h : RpA K cl F ps vs) : DRA K cl F φ (ps.map D.p) vs := by
  induction ps generalizing vs with
  | nil => cases h; exact .nil
  | cons x r ih => cases h with | cons a b => exact .cons a (ih b)
theorem DRA.rpa {ps : List P} {vs : List V} (h : DRA K cl F φ (ps.map D.p) vs) : RpA K cl F ps vs := by
  induction ps generalizing vs with
  | nil => cases h; exact .nil
  | cons x r ih => cases h with | cons a b => exact .cons a (ih b)
theorem lt_map {ps : List P} {k : Nat} : ∀ d ∈ ps.map D.p, d.lt k := fun d hd => by
  obtain ⟨x, _, rfl⟩ := List.mem_map.mp hd
  trivial
theorem Sim.keep (s : Sim K cl S B F φ H) (k : Same H H') : Sim K cl S B F φ H' := by
  refine ⟨s.le.trans k, fun n o e => ⟨(s.ob n o e).1, ?_⟩, s.inj, s.wf, s.bs, s.bl⟩
  have z := (s.ob n o e).2
  cases q : H (φ n) with
  | none => exact absurd q z.ne0
  | some u => rw [k _ _ q, ← q]; exact z
theorem Sim.none_p (s : Sim K cl S B F φ H) {p : Addr} (hp : H p = none) : F p = none ∧ ∀ n, n < S.len → φ n ≠ p := by
  refine ⟨?_, fun n h e => s.ne0 h (by rw [e]; exact hp)⟩
  cases q : F p with
  | none => rfl
  | some u => rw [s.le _ _ q] at hp; cases hp
theorem Ext.ofSame (s : Sim K cl S B F φ H) (k : Same H H') : Ext S F φ H S F φ H' :=
  ⟨Same.refl _, Nat.le_refl _, rfl, fun _ _ => rfl, fun n h1 h2 => absurd h1 (Nat.not_le_of_lt h2), fun a o e _ => k a o e, fun n h => (s.keep k).ne0 h, fun _ _ _ h _ => h⟩
/-- a new object that is data -/
theorem Sim.frz (s : Sim K cl S B F φ H) (k : Same H H') {p : Addr} {o : HO} (hp : H p = none) (ho : H' p = some o) : Sim K cl S B (upd F p o) φ H' ∧ Ext S F φ H S (upd F p o) φ H' := by
  obtain ⟨fp, np⟩ := s.none_p hp
  have sf : Same F (upd F p o) := fun a u e => by rw [upd_ne (ne_of_none e fp)]; exact e
  have s1 := s.keep k
  refine ⟨⟨fun a u e => ?_, fun n u e => ⟨?_, OR.mono sf (fun _ _ => rfl) (s1.wf n u e) (s1.ob n u e).2⟩, s1.inj, s1.wf, s1.bs, s1.bl⟩, ⟨sf, Nat.le_refl _, rfl, fun _ _ => rfl, fun n h1 h2 => absurd h1 (Nat.not_le_of_lt h2), fun a u e _ => k a u e, fun n h => s1.ne0 h, fun a u e f _ => ?_⟩⟩
  · by_cases h : a = p
    · subst h; rw [upd_same] at e; rw [ho, e]
    · rw [upd_ne h] at e; exact s1.le a u e
  · rw [upd_ne (np n (List.getElem?_eq_some_iff.mp e).1)]; exact (s1.ob n u e).1
  · rw [upd_ne (ne_of_none e hp)]; exact f
/-- a new object that may change -/
theorem Sim.push (s : Sim K cl S B F φ H) (k : Same H H') {p : Addr} {o : Ob} (hp : H p = none) (ho : OR K cl F φ p (H' p) o) (hl : o.lt S.len) :
    Sim K cl (S.push o) B F (fun n => if n = S.len then p else φ n) H' ∧ Ext S F φ H (S.push o) F (fun n => if n = S.len then p else φ n) H' := by
  obtain ⟨fp, np⟩ := s.none_p hp
  have s1 := s.keep k
  have hlen : (S.push o).len = S.len + 1 := by show (S.os ++ [o]).length = _; simp
  have ph : ∀ n, n < S.len → (if n = S.len then p else φ n) = φ n := fun n h => if_neg (by omega)
  have get : ∀ (n : Nat) (u : Ob), (S.push o).os[n]? = some u → (n < S.len ∧ S.os[n]? = some u) ∨ (n = S.len ∧ u = o) := fun n u e => by
    have e : (S.os ++ [o])[n]? = some u := e
    by_cases h : n < S.len
    · rw [List.getElem?_append_left h] at e; exact .inl ⟨h, e⟩
    · have hz : S.os.length = S.len := rfl
      rw [List.getElem?_append_right (by omega)] at e
      right
      have h2 : n - S.os.length = 0 := by
        have := (List.getElem?_eq_some_iff.mp e).1
        simp at this; omega
      rw [h2] at e
      simp at e
      exact ⟨by have : S.os.length = S.len := rfl; omega, e.symm⟩
  refine ⟨⟨s1.le, fun n u e => ?_, fun n m h1 h2 e => ?_, fun n u e => ?_, fun b hb => ⟨(s1.bs b hb).1, fun n u e h => ?_⟩, by rw [hlen]; exact Nat.le_succ_of_le s.bl⟩, ⟨Same.refl _, by rw [hlen]; exact Nat.le_succ _, rfl, ph, fun n h1 h2 => ?_, fun a u e _ => k a u e, fun n h => s1.ne0 h, fun _ _ _ h _ => h⟩⟩
  · rcases get n u e with ⟨h, e'⟩ | ⟨h, e'⟩
    · rw [ph n h]; exact ⟨(s1.ob n u e').1, OR.mono (Same.refl _) ph (s1.wf n u e') (s1.ob n u e').2⟩
    · subst h; subst e'; rw [if_pos rfl]; exact ⟨fp, OR.mono (Same.refl _) ph hl ho⟩
  · rw [hlen] at h1 h2
    by_cases a : n = S.len
    · by_cases b : m = S.len
      · omega
      · rw [if_pos a, if_neg b] at e
        exact absurd e.symm (np m (by omega))
    · by_cases b : m = S.len
      · rw [if_neg a, if_pos b] at e
        exact absurd e (np n (by omega))
      · rw [if_neg a, if_neg b] at e
        exact s1.inj n m (by omega) (by omega) e
  · rw [hlen]
    rcases get n u e with ⟨h, e'⟩ | ⟨h, e'⟩
    · exact fun d hd => (s1.wf n u e' d hd).mono (Nat.le_succ _)
    · subst e'; exact fun d hd => (hl d hd).mono (Nat.le_succ _)
  · rcases get n u e with ⟨h1, e'⟩ | ⟨h1, e'⟩
    · exact (s1.bs b hb).2 n u e' h
    · have := (s1.bs b hb).1; have := s.bl; omega
  · rw [hlen] at h2
    have e : n = S.len := by omega
    rw [if_pos e]; exact hp
/-- an object that may change is changed -/
theorem Sim.put (s : Sim K cl S B F φ H) {n : Nat} {o : Ob} {x : HO} (hn : n < S.len) (ho : OR K cl F φ (φ n) (some x) o) (hl : o.lt S.len) (hb : S.b ≤ n ∨ ∀ k, o.lt k) :
    Sim K cl (S.put n o) B F φ (upd H (φ n) x) ∧ Ext S F φ H (S.put n o) F φ (upd H (φ n) x) := by
  have hlen : (S.put n o).len = S.len := by show (S.os.set n o).length = _; simp
  have fn := (s.ob n _ (List.getElem?_eq_getElem hn)).1
  have get : ∀ (m : Nat) (u : Ob), (S.put n o).os[m]? = some u → (m ≠ n ∧ S.os[m]? = some u) ∨ (m = n ∧ u = o) := fun m u e => by
    have e : (S.os.set n o)[m]? = some u := e
    by_cases h : n = m
    · subst h
      rw [List.getElem?_set_self hn] at e
      cases e
      exact .inr ⟨rfl, rfl⟩
    · rw [List.getElem?_set_ne h] at e; exact .inl ⟨Ne.symm h, e⟩
  have ne : ∀ m, m < S.len → m ≠ n → φ m ≠ φ n := fun m hm h e => h (s.inj m n hm hn e)
  have all : Sim K cl (S.put n o) B F φ (upd H (φ n) x) := by
    refine ⟨fun a u e => ?_, fun m u e => ?_, fun a b h1 h2 => ?_, fun m u e => ?_, fun b hb' => ⟨(s.bs b hb').1, fun m u e h => ?_⟩, by rw [hlen]; exact s.bl⟩
    · rw [upd_ne (ne_of_none e fn)]; exact s.le a u e
    · rcases get m u e with ⟨h, e⟩ | ⟨rfl, rfl⟩
      · rw [upd_ne (ne m (List.getElem?_eq_some_iff.mp e).1 h)]; exact s.ob m u e
      · rw [upd_same]; exact ⟨fn, ho⟩
    · exact s.inj a b (by omega) (by omega)
    · rw [hlen]
      rcases get m u e with ⟨h, e⟩ | ⟨rfl, rfl⟩
      · exact s.wf m u e
      · exact hl
    · rcases get m u e with ⟨h1, e⟩ | ⟨rfl, rfl⟩
      · exact (s.bs b hb').2 m u e h
      · rcases hb with hb | hb
        · have := (s.bs b hb').1; omega
        · exact hb b
  refine ⟨all, ⟨Same.refl _, Nat.le_of_eq hlen.symm, rfl, fun _ _ => rfl, fun m h1 h2 => by omega, fun a u e h => ?_, fun m hm => all.ne0 (by omega), fun _ _ _ h _ => h⟩⟩
  rw [upd_ne (fun z => h n hn z.symm)]; exact e
theorem newT_ok {ds : List D} {vs : List V} (h : OkE K cl S B F φ H (newT ds S) Q) (s : Sim K cl S B F φ H) (r : DRA K cl F φ ds vs) : vs.length ≤ sizeLine ∧ ∀ p, H p = none → Q (.ref p) (upd H p (.tup vs)) := by
  unfold newT at h
  cases e : toPs ds with
  | none => rw [e] at h; obtain ⟨_, _, z, _⟩ := h; cases z
  | some ps =>
    rw [e] at h
    have ed := toPs_of e
    subst ed
    have hlen := r.length
    rw [List.length_map] at hlen
    dsimp only at h
    by_cases hz : ps.length ≤ sizeLine
    · rw [if_pos hz] at h
      refine ⟨by rw [← hlen]; exact hz, fun p hp => ?_⟩
      obtain ⟨s1, x1⟩ := s.frz (H' := upd H p (.tup vs)) (Same.new (Same.refl H) hp) hp upd_same
      exact h.fin rfl s1 x1 (Rp.tup (.inl (.inl upd_same)) (RpA.mono x1.fz r.rpa)) trivial
    · rw [if_neg hz] at h; obtain ⟨_, _, z, _⟩ := h; cases z
theorem newL_ok {live : Bool} {ds : List D} {vs : List V} (h : OkE K cl S B F φ H (newL live ds S) Q) (s : Sim K cl S B F φ H) (r : DRA K cl F φ ds vs) (l : ∀ d ∈ ds, d.lt S.len) : vs.length ≤ sizeLine ∧ ∀ p H', H p = none → Same H H' → H' p = some (.lst vs) → Q (.ref p) H' := by
  unfold newL at h
  have hlen := r.length
  by_cases hz : ds.length ≤ sizeLine
  · rw [if_pos hz] at h
    refine ⟨by rw [← hlen]; exact hz, fun p H' hp sm hv => ?_⟩
    cases live with
    | true =>
      rw [if_pos rfl] at h
      obtain ⟨s1, x1⟩ := s.push (H' := H') sm (o := .lst ds) hp ⟨vs, hv, r⟩ l
      exact h.fin rfl s1 x1 (show V.ref p = V.ref (if S.len = S.len then p else φ S.len) by rw [if_pos rfl]) (show S.len < (S.os ++ [Ob.lst ds]).length by simp)
    | false =>
      rw [if_neg Bool.false_ne_true] at h
      cases e : toPs ds with
      | none => rw [e] at h; obtain ⟨_, _, z, _⟩ := h; cases z
      | some ps =>
        rw [e] at h
        have ed := toPs_of e
        subst ed
        obtain ⟨s1, x1⟩ := s.frz (H' := H') sm hp hv
        exact h.fin rfl s1 x1 (Rp.lst (.inl (.inl upd_same)) (RpA.mono x1.fz r.rpa)) trivial
  · rw [if_neg hz] at h; obtain ⟨_, _, z, _⟩ := h; cases z
theorem newL_ok1 {live : Bool} {ds : List D} {vs : List V} (h : OkE K cl S B F φ H (newL live ds S) Q) (s : Sim K cl S B F φ H) (r : DRA K cl F φ ds vs) (l : ∀ d ∈ ds, d.lt S.len) : vs.length ≤ sizeLine ∧ ∀ p, H p = none → Q (.ref p) (upd H p (.lst vs)) := by
  obtain ⟨a, b⟩ := newL_ok h s r l
  exact ⟨a, fun p hp => b p _ hp (Same.new (Same.refl H) hp) upd_same⟩
/-- a list's items are there -/
theorem asL_ok (s : Sim K cl S B F φ H) {d : D} {ds : List D} {v : V} (e : asL d S = some ds) (r : DR K cl F φ d v) (l : d.lt S.len) : ∃ a vs, v = .ref a ∧ SqL K H a vs ∧ DRA K cl F φ ds vs ∧ ∀ x ∈ ds, x.lt S.len := by
  cases d with
  | p x =>
    cases x <;> try (cases e; done)
    rename_i ps
    cases e
    cases (show Rp K cl F (.lst ps) v from r) with
    | lst q t => exact ⟨_, _, rfl, SqL.mono s.le q, t.dra, lt_map⟩
  | ref n =>
    unfold asL at e
    dsimp only at e
    cases q : S.os[n]? with
    | none => rw [q] at e; cases e
    | some o =>
      rw [q] at e
      cases o <;> try (cases e; done)
      rename_i ds'
      cases e
      obtain ⟨vs, ev, rv⟩ := (s.ob n _ q).2
      exact ⟨_, vs, r, .inl (.inl ev), rv, s.wf n _ q⟩
theorem asQ_ok (s : Sim K cl S B F φ H) {d : D} {ds : List D} {v : V} (e : asQ d S = some ds) (r : DR K cl F φ d v) (l : d.lt S.len) : ∃ a vs, v = .ref a ∧ (SqL K H a vs ∨ SqT K H a vs) ∧ DRA K cl F φ ds vs ∧ ∀ x ∈ ds, x.lt S.len := by
  cases d with
  | p x =>
    cases x <;> try (cases e; done)
    · rename_i ps
      cases e
      cases (show Rp K cl F (.tup ps) v from r) with
      | tup q t => exact ⟨_, _, rfl, .inr (SqT.mono s.le q), t.dra, lt_map⟩
    · rename_i ps
      cases e
      cases (show Rp K cl F (.lst ps) v from r) with
      | lst q t => exact ⟨_, _, rfl, .inl (SqL.mono s.le q), t.dra, lt_map⟩
  | ref n =>
    obtain ⟨a, vs, h1, h2, h3⟩ := asL_ok s (d := .ref n) e r l
    exact ⟨a, vs, h1, .inl h2, h3⟩
end

/-! ### displays, calls -/
def dTup (m : MA) : ME := fun σ S => bnd (m σ S) fun ds S1 => newT ds S1
def dLst (live : Bool) (m : MA) : ME := fun σ S => bnd (m σ S) fun ds S1 => newL live ds S1
def fldsOf (d : D) (S : SH) : Option (Nat × List (Str × D)) := match d with
  | .p (.ins c fs) => some (c, fs.map fun p => (p.1, .p p.2))
  | .ref n => match S.os[n]? with | some (.ins c fs) => some (c, fs) | _ => none
  | _ => none
def dFld (cs : List Nat) (f : Str) (d : D) (S : SH) : Option (D × SH) := match fldsOf d S with
  | some (c, fs) => if cs.contains c = true then (match fs.lookup f with | some x => some (x, S) | none => none) else none
  | none => none
def dMeth (c : Nat) (nm : Str) (f : MF) (o : ME) (a : MA) : ME := fun σ S => bnd (o σ S) fun d S1 => match fldsOf d S1 with
  | some (c', fs) => if c' = c ∧ fs.lookup nm = none then bnd (a σ S1) fun xs S2 => f (d :: xs) S2 else none
  | none => none
/-- C(..) -/
def dMake (live : Bool) (c : Nat) (init : MF) (a : MA) : ME := fun σ S => bnd (a σ S) fun xs S1 =>
  if live = true then bnd (init (.ref S1.len :: xs) (S1.push (.ins c []))) fun d S2 => match d with | .p .non => some (.ref S1.len, S2) | _ => none
  else bnd (init (.ref S1.len :: xs) ⟨S1.len, S1.os ++ [.ins c []]⟩) fun d S2 => match d with
    | .p .non => match outD S1.len S2 (.ref S1.len) with | some d' => some (d', cutS S1 S2) | none => none
    | _ => none
/-- o.f = v -/
def putFD (f : Str) (v : D) : List (Str × D) → List (Str × D)
  | [] => [(f, v)]
  | (g, x) :: r => if g = f then (g, v) :: r else (g, x) :: putFD f v r
def okRef (S : SH) (n : Nat) : D → Bool
  | .p _ => true
  | .ref _ => decide (S.b ≤ n)
@[simp] theorem okRef_p (S : SH) (n : Nat) (x : P) : okRef S n (.p x) = true := id rfl
def setFld (cs : List Nat) (f : Str) (o v : D) (S : SH) : Option SH := match o with
  | .ref n => match S.os[n]? with
    | some (.ins c fs) => if cs.contains c = true ∧ fs.length < 1000 ∧ okRef S n v = true then some (S.put n (.ins c (putFD f v fs))) else none
    | _ => none
  | _ => none
def dSetF (cs : List Nat) (f : Str) (o v : ME) : MS := fun σ S => bnd (v σ S) fun y S1 => bnd (o σ S1) fun x S2 => match setFld cs f x y S2 with | some S3 => some (.nx σ, S3) | none => none

section
variable {X : Cx} {cl : ClW} {es : List Expr} {e o value : Expr} {pos pos' : Pos} {mr : MA} {me mo mv : ME}
theorem k_tup {x1} (h : PA X es (LA X.K cl mr)) : PE X (.Tuple es x1 pos) (LE X.K cl (dTup mr)) := by
  refine (pe_tup h).imp fun σ H Q q => ?_
  obtain ⟨σd, S, B, F, φ, s, rs, o⟩ := q
  obtain ⟨ds, S1, e, o⟩ := okE_bnd o
  exact LA.then_ s rs e fun F1 φ1 H1 vs s1 x1 rs1 dr l => newT_ok (o.ext x1) s1 dr
theorem k_lst {live : Bool} (h : PA X es (LA X.K cl mr)) : PE X (.List es pos) (LE X.K cl (dLst live mr)) := by
  refine (pe_lst h).imp fun σ H Q q => ?_
  obtain ⟨σd, S, B, F, φ, s, rs, o⟩ := q
  obtain ⟨ds, S1, e, o⟩ := okE_bnd o
  exact LA.then_ s rs e fun F1 φ1 H1 vs s1 x1 rs1 dr l => newL_ok1 (o.ext x1) s1 dr l
theorem lookup_drk {K : PySem.W.Frag} {F : Hp} {φ : Nat → Addr} {f : Str} : ∀ {fs : List (Str × D)} {gs : List (Str × V)}, DRK K cl F φ fs gs → (fs.lookup f = none → gs.lookup f = none) ∧ ∀ x, fs.lookup f = some x → ∃ v, gs.lookup f = some v ∧ DR K cl F φ x v
  | _, _, .nil => ⟨fun _ => rfl, fun x h => by cases h⟩
  | (k, x) :: fs, (k', v) :: gs, .cons r t => by
    obtain ⟨rfl, r⟩ := r
    obtain ⟨i1, i2⟩ := lookup_drk (f := f) t
    rw [List.lookup_cons, List.lookup_cons]
    cases hk : f == k with
    | true => exact ⟨fun z => by simp at z, fun y hy => by simp at hy; subst hy; exact ⟨v, by simp, r⟩⟩
    | false => exact ⟨fun z => by simpa using i1 (by simpa using z), fun y hy => by simpa using i2 y (by simpa using hy)⟩
theorem RpF.drk {K : PySem.W.Frag} {F : Hp} {φ : Nat → Addr} : ∀ {fs : List (Str × P)} {gs : List (Str × V)}, RpF K cl F fs gs → DRK K cl F φ (fs.map fun p => (p.1, D.p p.2)) gs
  | _, _, .nil => .nil
  | _, _, .cons a b => .cons ⟨rfl, a⟩ (RpF.drk b)
theorem flds_ok {K : PySem.W.Frag} {S : SH} {B : List Nat} {F : Hp} {φ : Nat → Addr} {H : Hp} (s : Sim K cl S B F φ H) {d : D} {c : Nat} {fs : List (Str × D)} {v : V} (e : fldsOf d S = some (c, fs)) (r : DR K cl F φ d v) : ∃ a dx gs, v = .ref a ∧ H a = some (.ins (cl c) dx gs) ∧ DRK K cl F φ fs gs ∧ ∀ x ∈ fs.map (·.2), x.lt S.len := by
  cases d with
  | p x =>
    cases x <;> try (cases e; done)
    rename_i c' fs'
    cases e
    cases (show Rp K cl F (.ins c fs') v from r) with
    | ins q t => exact ⟨_, _, _, rfl, s.le _ _ q, t.drk, fun x hx => by
        obtain ⟨p, hp, rfl⟩ := List.mem_map.mp hx
        obtain ⟨p', hp', rfl⟩ := List.mem_map.mp hp
        trivial⟩
  | ref n =>
    unfold fldsOf at e
    dsimp only at e
    cases q : S.os[n]? with
    | none => rw [q] at e; cases e
    | some o =>
      rw [q] at e
      cases o <;> try (cases e; done)
      rename_i c' fs'
      cases e
      obtain ⟨dx, gs, ev, rv⟩ := (s.ob n _ q).2
      exact ⟨_, dx, gs, r, ev, rv, s.wf n _ q⟩
theorem k_fld {f : Str} {cs : List Nat} (hc : ∀ c ∈ cs, Cls X.K (cl c) ∧ NoAttr X.K (cl c) f) (he : PE X e (LE X.K cl me)) (hb : attributeBase e f X.env (eval e X.env) = eval e X.env := by rfl) : PE X (.Attribute e f pos) (LE X.K cl (dUn (dFld cs f) me)) := by
  refine (pe_fld he hb).imp fun σ H Q q => ?_
  obtain ⟨σd, S, B, F, φ, s, rs, o⟩ := q
  obtain ⟨d, S1, e, o⟩ := okE_bnd o
  refine LE.then_ s rs e fun F1 φ1 H1 x s1 x1 rs1 dr l => ?_
  have o := o.ext x1
  unfold dFld at o
  cases e1 : fldsOf d S1 with
  | none => rw [e1] at o; obtain ⟨_, _, z, _⟩ := o; cases z
  | some p =>
    obtain ⟨c, fs⟩ := p
    rw [e1] at o
    obtain ⟨a, dx, gs, rfl, ha, rf, lf⟩ := flds_ok s1 e1 dr
    dsimp only at o
    by_cases hm : cs.contains c = true
    · rw [if_pos hm] at o
      cases e2 : fs.lookup f with
      | none => rw [e2] at o; obtain ⟨_, _, z, _⟩ := o; cases z
      | some y =>
        rw [e2] at o
        obtain ⟨v, hv, rv⟩ := (lookup_drk rf).2 y e2
        obtain ⟨h1, h2⟩ := hc c (by simpa using hm)
        exact ⟨a, cl c, dx, gs, v, rfl, ha, h1, h2, hv, o.fin0 rfl s1 rv (lf y (by
          exact List.mem_map.mpr ⟨_, PySem.mem_of_lookup e2, rfl⟩))⟩
    · rw [if_neg hm] at o; obtain ⟨_, _, z, _⟩ := o; cases z
end
section
variable {K : PySem.W.Frag} {cl : ClW} {S S' S1 S2 : SH} {B : List Nat} {F F' F1 F2 H H' H1 H2 : Hp} {φ φ' φ1 φ2 : Nat → Addr}
theorem okRef_b {n : Nat} {d : D} (h : okRef S n d = true) : S.b ≤ n ∨ ∀ k, d.lt k := by
  cases d with
  | p x => exact .inr fun _ => trivial
  | ref m => exact .inl (of_decide_eq_true h)
/-- the object at n may hold what o holds: what it held, data, or places where it is of this def -/
theorem putGen {n : Nat} {o : Ob} {x : HO} {u0 : Ob} (s : Sim K cl S B F φ H) (q : S.os[n]? = some u0) (he : ∀ y ∈ o.ds, (∀ k, y.lt k) ∨ y ∈ u0.ds ∨ (S.b ≤ n ∧ y.lt S.len)) (ho : OR K cl F φ (φ n) (some x) o) :
    Sim K cl (S.put n o) B F φ (upd H (φ n) x) ∧ Ext S F φ H (S.put n o) F φ (upd H (φ n) x) := by
  have hn : n < S.len := (List.getElem?_eq_some_iff.mp q).1
  have wf := s.wf n _ q
  have lt1 : o.lt S.len := fun y hy => by
    rcases he y hy with h | h | h
    · exact h _
    · exact wf y h
    · exact h.2
  have hlen : (S.put n o).len = S.len := by show (S.os.set n o).length = _; simp
  have fn := (s.ob n _ q).1
  have get : ∀ (m : Nat) (u : Ob), (S.put n o).os[m]? = some u → (m ≠ n ∧ S.os[m]? = some u) ∨ (m = n ∧ u = o) := fun m u e => by
    have e : (S.os.set n o)[m]? = some u := e
    by_cases h : n = m
    · subst h
      rw [List.getElem?_set_self hn] at e
      cases e
      exact .inr ⟨rfl, rfl⟩
    · rw [List.getElem?_set_ne h] at e; exact .inl ⟨Ne.symm h, e⟩
  have ne : ∀ m, m < S.len → m ≠ n → φ m ≠ φ n := fun m hm h e => h (s.inj m n hm hn e)
  have all : Sim K cl (S.put n o) B F φ (upd H (φ n) x) := by
    refine ⟨fun a u e => ?_, fun m u e => ?_, fun a b h1 h2 => ?_, fun m u e => ?_, fun b hb' => ⟨(s.bs b hb').1, fun m u e h' => ?_⟩, by rw [hlen]; exact s.bl⟩
    · rw [upd_ne (ne_of_none e fn)]; exact s.le a u e
    · rcases get m u e with ⟨h, e⟩ | ⟨rfl, rfl⟩
      · rw [upd_ne (ne m (List.getElem?_eq_some_iff.mp e).1 h)]; exact s.ob m u e
      · rw [upd_same]; exact ⟨fn, ho⟩
    · exact s.inj a b (by omega) (by omega)
    · rw [hlen]
      rcases get m u e with ⟨h, e⟩ | ⟨rfl, rfl⟩
      · exact s.wf m u e
      · exact lt1
    · rcases get m u e with ⟨h1, e⟩ | ⟨rfl, rfl⟩
      · exact (s.bs b hb').2 m u e h'
      · intro y hy
        rcases he y hy with h | h | h
        · exact h b
        · exact (s.bs b hb').2 m _ q h' y h
        · have := (s.bs b hb').1; omega
  refine ⟨all, ⟨Same.refl _, Nat.le_of_eq hlen.symm, rfl, fun _ _ => rfl, fun m h1 h2 => by omega, fun a u e h => ?_, fun m hm => all.ne0 (by omega), fun _ _ _ h _ => h⟩⟩
  rw [upd_ne (fun z => h n hn z.symm)]; exact e
end
end Pv
namespace Pv
open PySem PySem.Spec PyProof.Rows L2

section
variable {X : Cx} {cl : ClW} {CX : CXT} {es : List Expr} {e o value : Expr} {pos pos' p apos : Pos} {mr : MA} {me mo mv : ME} {k : Nat} {f C : Addr} {fd : FuncData} {ps : List Str} {m : MF} {E : XK} {x nm : Str}
theorem k_call (F : FnOk X.prog X.w X.K X.mg X.base CX k f fd ps (spOf X.K cl m)) (hr : Room k X.A) (hg : Gl X x) (hm : X.mg x = some (.ref f)) (hk : PySem.W.keepIn X.K (.ref f) = true) (hb : Binds X.K fd ps []) (hx : Passes CX X E)
    (ha : PA X (e :: es) (LA X.K cl mr)) (hdb : (x == ("__debug__" : Str)) = false := by decide) (he : starEach (e :: es) X.env = (false, eval e X.env) :: starEach es X.env := by rfl) (hpl : (backTo pos (starEach es X.env)).any (·.1) = false := by rfl) :
    PE X (.Call (.Name x p) (e :: es) [] pos) (LE X.K cl (dCall m mr)) := by
  refine (pe_call F hr hg hm hk hb .nil hx ha hdb he hpl).imp fun σ H Q q => ?_
  refine e_call (r := fun vs H1 Q => spOf X.K cl m (vs ++ []) H1 Q E) (fun S B F φ H ds xs Q s dr l o => ?_) q
  show spOf X.K cl m (xs ++ []) H Q E
  rw [List.append_nil]
  exact ⟨ds, S, B, F, φ, s, dr, l, o⟩
theorem e_make {live : Bool} {c : Nat} {σ : L2.St} {H : Hp} {Q : VK} (hx : C = cl c) (q : LE X.K cl (dMake live c m mr) σ H Q) : tMake C (spOf X.K cl m) [] E (LA X.K cl mr) σ H Q := by
  obtain ⟨σd, S, B, F, φ, s, rs, o⟩ := q
  obtain ⟨ds, S1, e, o⟩ := okE_bnd o
  refine LA.then_ s rs e fun F1 φ1 H1 vs s1 x1 rs1 dr l => ?_
  intro a dx na ndx nad
  rw [List.append_nil]
  have o := o.ext x1
  have sm : Same H1 (upd (upd H1 dx (.own a)) a (.ins C dx [])) := Same.new (Same.new (Same.refl _) ndx) (by rw [upd_ne (Ne.symm nad)]; exact na)
  have none_lt : (Ob.ins c []).lt S1.len := fun d hd => by simp [Ob.ds] at hd
  have hor : OR X.K cl F1 φ1 a (upd (upd H1 dx (.own a)) a (.ins C dx []) a) (.ins c []) := ⟨dx, [], by rw [upd_same, hx], .nil⟩
  cases live with
  | true =>
    rw [if_pos rfl] at o
    obtain ⟨s2, x2⟩ := s1.push sm na hor none_lt
    obtain ⟨d, S2, e2, o⟩ := okE_bnd o
    refine ⟨.ref S1.len :: ds, _, B, F1, _, s2, .cons (show V.ref a = V.ref (if S1.len = S1.len then a else φ1 S1.len) by rw [if_pos rfl]) (x2.dra l dr), fun d hd => ?_, ⟨d, S2, e2, fun F3 φ3 H3 u s3 x3 dr3 l3 => ?_⟩⟩
    · rcases List.mem_cons.mp hd with rfl | hd
      · show S1.len < (S1.os ++ [_]).length
        simp
      · exact (l d hd).mono x2.len
    · cases d with
      | ref n => obtain ⟨_, _, z, _⟩ := o; cases z
      | p y =>
        cases y <;> first | (obtain ⟨_, _, z, _⟩ := o; cases z; done) | skip
        cases (show Rp X.K cl F3 .non u from dr3)
        refine ⟨rfl, o.fin rfl s3 (x2.trans x3) ?_ (Nat.lt_of_lt_of_le (show S1.len < (S1.os ++ [_]).length by simp) x3.len)⟩
        show V.ref a = V.ref (φ3 S1.len)
        rw [x3.phi S1.len (show S1.len < (S1.os ++ [_]).length by simp)]
        show V.ref a = V.ref (if S1.len = S1.len then a else φ1 S1.len)
        rw [if_pos rfl]
  | false =>
    rw [if_neg Bool.false_ne_true] at o
    obtain ⟨s2, x2⟩ := s1.begin.push sm na hor none_lt
    obtain ⟨d, S2, e2, o⟩ := okE_bnd o
    refine ⟨.ref S1.len :: ds, _, S1.len :: B, F1, _, s2, .cons (show V.ref a = V.ref (if S1.len = S1.len then a else φ1 S1.len) by rw [if_pos rfl]) (x2.dra l dr), fun d hd => ?_, ⟨d, S2, e2, fun F3 φ3 H3 u s3 x3 dr3 l3 => ?_⟩⟩
    · rcases List.mem_cons.mp hd with rfl | hd
      · show S1.len < (S1.os ++ [_]).length
        simp
      · exact (l d hd).mono x2.len
    · cases d with
      | ref n => obtain ⟨_, _, z, _⟩ := o; cases z
      | p y =>
        cases y <;> first | (obtain ⟨_, _, z, _⟩ := o; cases z; done) | skip
        cases (show Rp X.K cl F3 .non u from dr3)
        refine ⟨rfl, ?_⟩
        dsimp only at o
        cases ed : outD S1.len S2 (.ref S1.len) with
        | none => rw [ed] at o; obtain ⟨_, _, z, _⟩ := o; cases z
        | some d' =>
          rw [ed] at o
          have x4 := x2.trans x3
          have hl : S1.len < S2.len := Nat.lt_of_lt_of_le (show S1.len < (S1.os ++ [_]).length by simp) x3.len
          obtain ⟨h1, h2⟩ := outD_ok (S := S1) s3 x4.len (v := .ref (φ3 S1.len)) ed rfl hl
          have ea : φ3 S1.len = a := by
            rw [x3.phi S1.len (show S1.len < (S1.os ++ [_]).length by simp)]
            exact if_pos rfl
          rw [ea] at h1
          exact o.fin rfl (Sim.end_ s1 s3 x4.len) (Ext.end_ s3 x4) h1 h2
theorem k_make {live : Bool} {c : Nat} (M : Mk X.K C f) (F : FnOk X.prog X.w X.K X.mg X.base CX k f fd ps (spOf X.K cl m)) (hr : Room (k + 1) X.A) (hg : Gl X x) (hm : X.mg x = some (.ref C)) (hb : Binds X.K fd ps []) (hx : Passes CX X E)
    (ha : PA X (e :: es) (LA X.K cl mr)) (hcl : C = cl c := by rfl) (hdb : (x == ("__debug__" : Str)) = false := by decide) (he : starEach (e :: es) X.env = (false, eval e X.env) :: starEach es X.env := by rfl) (hpl : (backTo pos (starEach es X.env)).any (·.1) = false := by rfl) :
    PE X (.Call (.Name x p) (e :: es) [] pos) (LE X.K cl (dMake live c m mr)) :=
  (pe_make M F hr hg hm hb .nil hx ha hdb he hpl).imp fun _ _ _ q => e_make hcl q
theorem putFD_drk {K : PySem.W.Frag} {F : Hp} {φ : Nat → Addr} {f : Str} {d : D} {v : V} (r : DR K cl F φ d v) : ∀ {fs : List (Str × D)} {gs : List (Str × V)}, DRK K cl F φ fs gs → DRK K cl F φ (putFD f d fs) (putF f v gs)
  | _, _, .nil => .cons ⟨rfl, r⟩ .nil
  | (k, x) :: fs, (k', u) :: gs, .cons q t => by
    obtain ⟨rfl, q⟩ := q
    unfold putFD putF
    dsimp only
    by_cases h : k = f
    · rw [if_pos h, if_pos h]; exact .cons ⟨rfl, r⟩ t
    · rw [if_neg h, if_neg h]; exact .cons ⟨rfl, q⟩ (putFD_drk r t)
theorem mem_putFD {f : Str} {d : D} : ∀ {fs : List (Str × D)} {y : D}, y ∈ (putFD f d fs).map (·.2) → y = d ∨ y ∈ fs.map (·.2)
  | [], y, h => by simp [putFD] at h; exact .inl h
  | (k, x) :: r, y, h => by
    unfold putFD at h
    by_cases hk : k = f
    · rw [if_pos hk] at h
      simp only [List.map_cons, List.mem_cons] at h ⊢
      rcases h with h | h
      · exact .inl h
      · exact .inr (.inr h)
    · rw [if_neg hk] at h
      simp only [List.map_cons, List.mem_cons] at h ⊢
      rcases h with h | h
      · exact .inr (.inl h)
      · rcases mem_putFD h with h | h
        · exact .inl h
        · exact .inr (.inr h)
theorem DRK.length {K : PySem.W.Frag} {F : Hp} {φ : Nat → Addr} {κ : Type} {fs : List (κ × D)} {gs : List (κ × V)} (h : DRK K cl F φ fs gs) : fs.length = gs.length := Paired.length h
theorem setFld_ok {K : PySem.W.Frag} {cs : List Nat} {f : Str} {d v : D} {S S' : SH} {B : List Nat} {F : Hp} {φ : Nat → Addr} {H : Hp} {x y : V} (e : setFld cs f d v S = some S') (s : Sim K cl S B F φ H) (r : DR K cl F φ d x) (rv : DR K cl F φ v y) (lv : v.lt S.len) :
    ∃ a c dx gs, x = .ref a ∧ H a = some (.ins (cl c) dx gs) ∧ c ∈ cs ∧ gs.length < 1000 ∧ Sim K cl S' B F φ (upd H a (.ins (cl c) dx (putF f y gs))) ∧ Ext S F φ H S' F φ (upd H a (.ins (cl c) dx (putF f y gs))) := by
  cases d with
  | p _ => cases e
  | ref n =>
    unfold setFld at e
    dsimp only at e
    cases q : S.os[n]? with
    | none => rw [q] at e; cases e
    | some ob =>
      rw [q] at e
      cases ob <;> try (cases e; done)
      rename_i c fs
      dsimp only at e
      obtain ⟨dx, gs, ev, rf⟩ := (s.ob n _ q).2
      have hn : n < S.len := (List.getElem?_eq_some_iff.mp q).1
      have hl := rf.length
      have hor : OR K cl F φ (φ n) (some (.ins (cl c) dx (putF f y gs))) (.ins c (putFD f v fs)) := ⟨dx, _, rfl, putFD_drk rv rf⟩
      have r' : x = .ref (φ n) := r
      by_cases h1 : cs.contains c = true ∧ fs.length < 1000 ∧ okRef S n v = true
      · rw [if_pos h1] at e
        cases e
        obtain ⟨h1, h2, h3⟩ := h1
        obtain ⟨s2, x2⟩ := putGen (o := .ins c (putFD f v fs)) s q (fun z hz => by
          rcases mem_putFD hz with rfl | hz
          · rcases okRef_b h3 with h | h
            · exact .inr (.inr ⟨h, lv⟩)
            · exact .inl h
          · exact .inr (.inl hz)) hor
        exact ⟨φ n, c, dx, gs, r', ev, by simpa using h1, by omega, s2, x2⟩
      · rw [if_neg h1] at e; cases e
theorem s_fld {f : Str} {cs : List Nat} (hc : ∀ c ∈ cs, Cls X.K (cl c) ∧ NoAttr X.K (cl c) f) (ha : PE X o (LE X.K cl mo)) (hv : PE X value (LE X.K cl mv)) (hs : swapsWith value (some (.Attribute o f pos')) pos.line X.env = pure false := by rfl) :
    PS X (.Assign [.Attribute o f pos'] value pos) (LS X.K cl (dSetF cs f mo mv)) := by
  refine (ps_fld ha hv hs).imp fun Z σ H q => ?_
  obtain ⟨σd, S, B, F, φ, s, rs, o⟩ := q
  obtain ⟨y, S1, e, o⟩ := okS_bnd o
  obtain ⟨d, S2, e2, o⟩ := okS_bnd o
  refine LE.then_ s rs e fun F1 φ1 H1 u s1 x1 rs1 dr1 l1 => LE.then_ s1 rs1 e2 fun F2 φ2 H2 v s2 x2 rs2 dr2 l2 => ?_
  cases e3 : setFld cs f d y S2 with
  | none => rw [e3] at o; obtain ⟨_, _, z, _⟩ := o; cases z
  | some S3 =>
    rw [e3] at o
    obtain ⟨_, _, z, k⟩ := o
    cases z
    obtain ⟨a, c, dx, gs, rfl, ha, hm, hz, s3, x3⟩ := setFld_ok e3 s2 dr2 (x2.dr l1 dr1) (x2.lt l1)
    obtain ⟨h1, h2⟩ := hc c hm
    exact ⟨a, cl c, dx, gs, rfl, ha, h1, h2, hz, k _ _ _ σ s3 ((x1.trans x2).trans x3) (x3.rs rs2)⟩
end
end Pv
namespace Pv
open PySem PySem.Spec PyProof.Rows L2

/-! ### targets -/
abbrev MG := D → En → SH → Option (En × SH)
abbrev MGs := List D → En → SH → Option (En × SH)
section
variable (K : PySem.W.Frag) (cl : ClW)
def OkG (vs : List Nat) (σ : L2.St) (S : SH) (B : List Nat) (F : Hp) (φ : Nat → Addr) (H : Hp) (r : Option (En × SH)) (Q : L2.St → Hp → Prop) : Prop :=
  ∃ σ1 S1, r = some (σ1, S1) ∧ ∀ F1 φ1 H1 σ', Sim K cl S1 B F1 φ1 H1 → Ext S F φ H S1 F1 φ1 H1 → RS K cl F1 φ1 S1.len σ1 σ' → (σ'.length = σ.length ∧ ∀ j, j ∉ vs → σ'[j]? = σ[j]?) → Q σ' H1
def LG (vs : List Nat) (g : MG) : TG := fun v σ H Q => ∃ d σd S B F φ, Sim K cl S B F φ H ∧ RS K cl F φ S.len σd σ ∧ DR K cl F φ d v ∧ d.lt S.len ∧ OkG K cl vs σ S B F φ H (g d σd S) Q
def LGs (vs : List Nat) (g : MGs) : TGs := fun us σ H Q => ∃ ds σd S B F φ, Sim K cl S B F φ H ∧ RS K cl F φ S.len σd σ ∧ DRA K cl F φ ds us ∧ (∀ d ∈ ds, d.lt S.len) ∧ OkG K cl vs σ S B F φ H (g ds σd S) Q
end
def gNm (i : Nat) : MG := fun d σ S => some (σ.set i (some d), S)
def gNl : MGs := fun ds σ S => match ds with | [] => some (σ, S) | _ => none
def gCn (g : MG) (gs : MGs) : MGs := fun ds σ S => match ds with | d :: r => bnd (g d σ S) fun σ1 S1 => gs r σ1 S1 | [] => none
def gTp (n : Nat) (gs : MGs) : MG := fun d σ S => match d with | .p (.tup ps) => if ps.length = n then gs (ps.map .p) σ S else none | _ => none
/-- o[i] = v -/
def setIx (o i v : D) (S : SH) : Option SH := match o, i with
  | .ref n, .p (.int k) => match S.os[n]? with
    | some (.lst ds) => match ixN ds.length k with
      | some j => if okRef S n v = true then some (S.put n (.lst (ds.set j v))) else none
      | none => none
    | _ => none
  | _, _ => none
def gSb (o i : ME) : MG := fun d σ S => bnd (o σ S) fun x S1 => bnd (i σ S1) fun y S2 => match setIx x y d S2 with | some S3 => some (σ, S3) | none => none
def dAsg (e : ME) (g : MG) : MS := fun σ S => bnd (e σ S) fun d S1 => bnd (g d σ S1) fun σ2 S2 => some (.nx σ2, S2)

section
variable {K : PySem.W.Frag} {cl : ClW} {S S' S1 S2 : SH} {B : List Nat} {F F' F1 F2 H H' H1 H2 : Hp} {φ φ' φ1 φ2 : Nat → Addr}
theorem okG_bnd {vs : List Nat} {σ : L2.St} {α : Type} {r : Option (α × SH)} {f : α → SH → Option (En × SH)} {Q : L2.St → Hp → Prop} (h : OkG K cl vs σ S B F φ H (bnd r f) Q) : ∃ a S1, r = some (a, S1) ∧ OkG K cl vs σ S B F φ H (f a S1) Q := by
  cases r with
  | none => obtain ⟨_, _, z, _⟩ := h; cases z
  | some p => exact ⟨p.1, p.2, rfl, h⟩
theorem DRA.set {ds : List D} {vs : List V} {d : D} {v : V} (r : DR K cl F φ d v) : ∀ {ds : List D} {vs : List V} (j : Nat), DRA K cl F φ ds vs → DRA K cl F φ (ds.set j d) (vs.set j v)
  | _, _, _, .nil => .nil
  | _, _, 0, .cons _ t => .cons r t
  | _, _, j + 1, .cons a t => .cons a (DRA.set (ds := ds) (vs := vs) r j t)
theorem DRA.append {ds es : List D} {vs us : List V} (a : DRA K cl F φ ds vs) (b : DRA K cl F φ es us) : DRA K cl F φ (ds ++ es) (vs ++ us) := by
  induction a with
  | nil => exact b
  | cons r t ih => exact .cons r ih
theorem putOk {n : Nat} {o : Ob} {x : HO} {ds : List D} {d : D} (s : Sim K cl S B F φ H) (q : S.os[n]? = some (.lst ds)) (hd : okRef S n d = true) (l : d.lt S.len) (he : ∀ y ∈ o.ds, y = d ∨ y ∈ ds) (ho : OR K cl F φ (φ n) (some x) o) :
    Sim K cl (S.put n o) B F φ (upd H (φ n) x) ∧ Ext S F φ H (S.put n o) F φ (upd H (φ n) x) :=
  putGen s q (fun y hy => by
    rcases he y hy with rfl | h
    · rcases okRef_b hd with h | h
      · exact .inr (.inr ⟨h, l⟩)
      · exact .inl h
    · exact .inr (.inl h)) ho
theorem setIx_ok {o i v : D} {x y u : V} (e : setIx o i v S = some S') (s : Sim K cl S B F φ H) (ro : DR K cl F φ o x) (ri : DR K cl F φ i y) (rv : DR K cl F φ v u) (lv : v.lt S.len) :
    ∃ p xs k j, x = .ref p ∧ y = .int k ∧ H p = some (.lst xs) ∧ ixN xs.length k = some j ∧ Sim K cl S' B F φ (upd H p (.lst (xs.set j u))) ∧ Ext S F φ H S' F φ (upd H p (.lst (xs.set j u))) := by
  cases o with
  | p _ => cases e
  | ref n =>
    cases i with
    | ref _ => cases e
    | p z =>
      cases z <;> try (cases e; done)
      rename_i k
      unfold setIx at e
      dsimp only at e
      cases q : S.os[n]? with
      | none => rw [q] at e; cases e
      | some ob =>
        rw [q] at e
        cases ob <;> try (cases e; done)
        rename_i ds
        dsimp only at e
        cases hj : ixN ds.length k with
        | none => rw [hj] at e; cases e
        | some j =>
          rw [hj] at e
          dsimp only at e
          by_cases hr : okRef S n v = true
          · rw [if_pos hr] at e
            cases e
            obtain ⟨vs, ev, rvs⟩ := (s.ob n _ q).2
            have hl := rvs.length
            cases (show Rp K cl F (.int k) y from ri)
            obtain ⟨a, b⟩ := putOk (o := .lst (ds.set j v)) (x := .lst (vs.set j u)) s q hr lv (fun y hy => by
              rcases List.mem_or_eq_of_mem_set hy with h | h
              · exact .inr h
              · exact .inl h) ⟨_, rfl, DRA.set (ds := ds) (vs := vs) rv j rvs⟩
            exact ⟨φ n, vs, k, j, ro, rfl, ev, by rw [← hl]; exact hj, a, b⟩
          · rw [if_neg hr] at e; cases e
end
section
variable {X : Cx} {cl : ClW} {tg e o ix : Expr} {es : List Expr} {pos : Pos} {g : MG} {gs : MGs} {vs us : List Nat} {me mo mi : ME}
theorem g_name {i : Nat} {x : Str} (hN : X.N.Nodup) (hi : X.N[i]? = some x) (hx : Loc X.env.scope x) (hf : X.fn x = true ∨ X.env.scope.names.lookup x = some .local := by first | exact .inl rfl | exact .inr rfl | assumption) : PG X (.Name x pos) (LG X.K cl [i] (gNm i)) := by
  have h := pg_name (pos := pos) hN hi hx hf
  refine ⟨fun pins s σ H v u Q I r q => h.run pins s σ H v u Q I r ?_⟩
  obtain ⟨d, σd, S, B, F, φ, sm, rs, dr, l, σ1, S1, e, k⟩ := q
  cases e
  refine k F φ H _ sm (.refl sm) (rs.set i dr l) ⟨by rw [List.length_set], fun j hj => ?_⟩
  rw [List.getElem?_set_ne]
  rintro rfl
  exact hj (by simp)
theorem gs_nil : PGs X [] (LGs X.K cl [] gNl) := by
  have h := pgs_nil (X := X)
  refine ⟨fun pins s σ H v u Q I r q => h.run pins s σ H v u Q I r ?_⟩
  obtain ⟨ds, σd, S, B, F, φ, sm, rs, dr, l, σ1, S1, e, k⟩ := q
  cases dr with
  | nil => cases e; exact ⟨rfl, k F φ H σ sm (.refl sm) rs ⟨rfl, fun _ _ => rfl⟩⟩
  | cons _ _ => cases e
theorem gs_cons (h1 : PG X e (LG X.K cl vs g)) (h2 : PGs X es (LGs X.K cl us gs)) (hs : (assignEach (e :: es) X.env).map (·.2) = assign e X.env :: (assignEach es X.env).map (·.2) := by rfl) : PGs X (e :: es) (LGs X.K cl (vs ++ us) (gCn g gs)) := by
  have h := pgs_cons h1 h2 hs
  refine ⟨fun pins s σ H v u Q I r q => h.run pins s σ H v u Q I r ?_⟩
  obtain ⟨ds, σd, S, B, F, φ, sm, rs, dr, l, ok⟩ := q
  cases dr with
  | nil => obtain ⟨_, _, z, _⟩ := ok; cases z
  | @cons d v0 ds' vs' r1 r2 =>
    obtain ⟨σ1, S1, e1, ok⟩ := okG_bnd ok
    refine ⟨v0, vs', rfl, d, σd, S, B, F, φ, sm, rs, r1, l d List.mem_cons_self, σ1, S1, e1, fun F1 φ1 H1 σ' s1 x1 rs1 hk => ?_⟩
    obtain ⟨σ2, S2, e2, k2⟩ := ok
    refine ⟨ds', σ1, S1, B, F1, φ1, s1, rs1, x1.dra (fun y hy => l y (List.mem_cons_of_mem _ hy)) r2, fun y hy => x1.lt (l y (List.mem_cons_of_mem _ hy)), σ2, S2, e2, fun F2 φ2 H2 σ'' s2 x2 rs2 hk2 => ?_⟩
    refine k2 F2 φ2 H2 σ'' s2 (x1.trans x2) rs2 ⟨hk2.1.trans hk.1, fun j hj => ?_⟩
    rw [List.mem_append, not_or] at hj
    exact (hk2.2 j hj.2).trans (hk.2 j hj.1)
theorem g_tup {k n : Nat} (hc : X.calm = true) (h : PGs X es (LGs X.K cl vs gs)) (hn : (assignEach es X.env).length = n := by rfl) (hst : (assignEach es X.env).findIdx? (·.1) = none := by rfl) : PG X (.Tuple es k pos) (LG X.K cl vs (gTp n gs)) := by
  have h := pg_tup (k := k) (pos := pos) hc h hn hst
  refine ⟨fun pins s σ H v u Q I r q => h.run pins s σ H v u Q I r ?_⟩
  obtain ⟨d, σd, S, B, F, φ, sm, rs, dr, l, ok⟩ := q
  cases d with
  | ref _ => obtain ⟨_, _, z, _⟩ := ok; cases z
  | p x =>
    cases x <;> try (obtain ⟨_, _, z, _⟩ := ok; cases z; done)
    rename_i ps
    unfold gTp at ok
    dsimp only at ok
    by_cases hp : ps.length = n
    · rw [if_pos hp] at ok
      cases (show Rp X.K cl F (.tup ps) v from dr) with
      | tup q t =>
        have tr : DRA X.K cl F φ (ps.map D.p) _ := t.dra
        have hl := tr.length
        rw [List.length_map] at hl
        exact ⟨_, _, rfl, SqT.mono sm.le q, by rw [← hl]; exact hp, _, σd, S, B, F, φ, sm, rs, tr, lt_map, ok⟩
    · rw [if_neg hp] at ok; obtain ⟨_, _, z, _⟩ := ok; cases z
theorem g_sub (ho : PE X o (LE X.K cl mo)) (hi : PE X ix (LE X.K cl mi))
    (ha : ∀ v, assign (.Subscript o ix pos) X.env v = (do
      let ov ← holding [v] (eval o X.env)
      let iv ← holding [v, ov] (eval ix X.env)
      standAt pos
      holding [v, ov, iv] (setItem ov iv v)
      release [v, ov, iv] []) := by intro _; rfl) : PG X (.Subscript o ix pos) (LG X.K cl [] (gSb mo mi)) := by
  have h := pg_sub ho hi set_list ha
  refine ⟨fun pins s σ H v u Q I r q => h.run pins s σ H v u Q I r ?_⟩
  obtain ⟨d, σd, S, B, F, φ, sm, rs, dr, l, ok⟩ := q
  obtain ⟨a, S1, e1, ok1⟩ := okG_bnd ok
  obtain ⟨b, S2, e2, ok2⟩ := okG_bnd ok1
  refine LE.then_ sm rs e1 fun F1 φ1 H1 x s1 x1 rs1 dr1 l1 => LE.then_ s1 rs1 e2 fun F2 φ2 H2 y s2 x2 rs2 dr2 l2 => ?_
  cases e3 : setIx a b d S2 with
  | none => rw [e3] at ok2; obtain ⟨_, _, z, _⟩ := ok2; cases z
  | some S3 =>
    rw [e3] at ok2
    obtain ⟨_, _, z, k⟩ := ok2
    cases z
    have x12 := x1.trans x2
    obtain ⟨p, xs, k0, j, h1, h2, h3, h4, s5, x5⟩ := setIx_ok e3 s2 (x2.dr l1 dr1) dr2 (x12.dr l dr) (x12.lt l)
    exact ⟨p, xs, k0, j, h1, h2, h3, h4, k _ _ _ σ s5 (x12.trans x5) (x5.rs rs2) ⟨rfl, fun _ _ => rfl⟩⟩
theorem s_asg (he : PE X e (LE X.K cl me)) (hg : PG X tg (LG X.K cl vs g)) (hs : swapsWithSole [tg] e pos.line X.env = pure false := by rfl) (hw : swappedStores [tg] e X.env = pure none := by rfl)
    (h1 : (assignEach [tg] X.env).map (·.2) = [assign tg X.env] := by rfl) : PS X (.Assign [tg] e pos) (LS X.K cl (dAsg me g)) := by
  refine (ps_asg he hg hs hw h1).imp fun Z σ H q => ?_
  obtain ⟨σd, S, B, F, φ, s, rs, o⟩ := q
  obtain ⟨d, S1, e1, o1⟩ := okS_bnd o
  obtain ⟨σ2, S2, e2, o2⟩ := okS_bnd o1
  obtain ⟨_, _, z, k⟩ := o2
  cases z
  exact LE.then_ s rs e1 fun F1 φ1 H1 u s1 x1 rs1 dr l => ⟨d, σd, S1, B, F1, φ1, s1, rs1, dr, l, σ2, S2, e2, fun F2 φ2 H2 σ' s2 x2 rs2 _ => k F2 φ2 H2 σ' s2 (x1.trans x2) rs2⟩
end

/-! ### what is walked -/
structure Src where
  items : List (SH → Option D)
  fin : SH → Bool
abbrev MI := En → SH → Option (Src × SH)
def srcP (ps : List P) : Src := ⟨ps.map fun p _ => some (.p p), fun _ => true⟩
/-- the list at n, its length unchanged -/
def itemR (n len i : Nat) (S : SH) : Option D := match S.os[n]? with
  | some (.lst ds) => if ds.length = len then ds[i]? else none
  | _ => none
def finR (n len : Nat) (S : SH) : Bool := match S.os[n]? with
  | some (.lst ds) => decide (ds.length = len)
  | _ => false
def srcR (n len : Nat) : Src := ⟨(List.range len).map (itemR n len), finR n len⟩
def srcOf (d : D) (S : SH) : Option (Src × SH) := match d with
  | .p (.lst ps) => some (srcP ps, S)
  | .p (.tup ps) => some (srcP ps, S)
  | .ref n => match S.os[n]? with | some (.lst ds) => some (srcR n ds.length, S) | _ => none
  | _ => none
def dIt (m : ME) : MI := fun σ S => bnd (m σ S) srcOf
def srcN (lo : Int) (n : Nat) : Src := ⟨(List.range n).map fun (i : Nat) _ => some (.p (.int (lo + (i : Int)))), fun _ => true⟩
def rng1 (ds : List D) (S : SH) : Option (Src × SH) := match ds with
  | [.p (.int j)] => if -(2 ^ 62) ≤ j ∧ j < 2 ^ 62 then some (srcN 0 j.toNat, S) else none
  | _ => none
def rng2 (ds : List D) (S : SH) : Option (Src × SH) := match ds with
  | [.p (.int i), .p (.int j)] => if -(2 ^ 62) ≤ i ∧ i < 2 ^ 62 ∧ -(2 ^ 62) ≤ j ∧ j < 2 ^ 62 then some (srcN i (j - i).toNat, S) else none
  | _ => none
def dRng1 (m : MA) : MI := fun σ S => bnd (m σ S) rng1
def dRng2 (m : MA) : MI := fun σ S => bnd (m σ S) rng2

section
variable (K : PySem.W.Frag) (cl : ClW)
def ItD (S1 : SH) (F1 : Hp) (φ1 : Nat → Addr) (J : It) (src : Src) : Prop :=
  ∀ S' B' F' φ' H', Sim K cl S' B' F' φ' H' → Same F1 F' → S1.len ≤ S'.len → (∀ n, n < S1.len → φ' n = φ1 n) → ∀ i : Nat,
    (∀ t d, src.items[i]? = some t → t S' = some d → d.lt S'.len ∧ J.go i H' ∧ ∀ x H2, J.yld i H' x H2 → ∃ F2, Sim K cl S' B' F2 φ' H2 ∧ Ext S' F' φ' H' S' F2 φ' H2 ∧ DR K cl F2 φ' d x) ∧
    (src.items.length ≤ i → src.fin S' = true → J.stop i H')
def LI (m : MI) : TI := fun σ H R => ∃ σd S B F φ, Sim K cl S B F φ H ∧ RS K cl F φ S.len σd σ ∧ ∃ src S1, m σd S = some (src, S1) ∧
  ∀ F1 φ1 H1 J, Sim K cl S1 B F1 φ1 H1 → Ext S F φ H S1 F1 φ1 H1 → ItD K cl S1 F1 φ1 J src → R J H1
end
section
variable {X : Cx} {cl : ClW} {tg e l : Expr} {pos p : Pos} {me : ME} {ma : MA}
theorem itD_seq {K : PySem.W.Frag} {S : SH} {F : Hp} {φ : Nat → Addr} {ps : List P} {vs : List V} {J : It} (hr : RpA K cl F ps vs)
    (hg : ∀ H, Same F H → ∀ (i : Nat) (x : V), vs[i]? = some x → J.go i H) (hy : ∀ H, Same F H → ∀ (i : Nat) (x : V), vs[i]? = some x → ∀ y H2, J.yld i H y H2 → H2 = H ∧ y = x) (hs : ∀ H, Same F H → ∀ i : Nat, vs.length ≤ i → J.stop i H) : ItD K cl S F φ J (srcP ps) := by
  intro S' B' F' φ' H' s sf hl hp i
  have dr : DRA K cl F' φ' (ps.map D.p) vs := (RpA.mono sf hr).dra
  have hlen := dr.length
  rw [List.length_map] at hlen
  refine ⟨fun t d ht htd => ?_, fun hi _ => ?_⟩
  · have ht : (ps.map fun p (_ : SH) => some (D.p p))[i]? = some t := ht
    rw [List.getElem?_map] at ht
    cases e : ps[i]? with
    | none => rw [e] at ht; cases ht
    | some q =>
      rw [e] at ht
      cases ht
      cases htd
      obtain ⟨v, hv, rv⟩ := dr.get (i := i) (d := .p q) (by rw [List.getElem?_map, e]; rfl)
      refine ⟨trivial, hg H' (sf.trans s.le) i v hv, fun x H2 y => ?_⟩
      obtain ⟨rfl, rfl⟩ := hy H' (sf.trans s.le) i v hv x H2 y
      exact ⟨F', s, .refl s, rv⟩
  · have hi : (ps.map fun p (_ : SH) => some (D.p p)).length ≤ i := hi
    rw [List.length_map] at hi
    exact hs H' (sf.trans s.le) i (by omega)
/-- any list or tuple, walked -/
theorem pi_any (hl : PE X l (LE X.K cl me)) : PI X tg l (LI X.K cl (dIt me)) := by
  refine ⟨fun pins s σ H R I h => ?_⟩
  obtain ⟨σd, S, B, F, φ, sm, rs, src, S1, e, k⟩ := h
  obtain ⟨d, S2, e1, e2⟩ := bnd_of e
  have base : LE X.K cl me σ H fun x H1 => ∃ F1 φ1, Sim X.K cl S2 B F1 φ1 H1 ∧ Ext S F φ H S2 F1 φ1 H1 ∧ DR X.K cl F1 φ1 d x ∧ d.lt S2.len :=
    LE.then_ sm rs e1 fun F1 φ1 H1 x s1 x1 rs1 dr1 l1 => ⟨F1, φ1, s1, x1, dr1, l1⟩
  refine thn (hl.run pins s σ H _ I base) fun v s1 ⟨x, H1, I1, r1, F1, φ1, sm1, x1, dr1, l1⟩ => ?_
  -- a list at a
  have lst : ∀ (a : Addr) (xs : List V), x = .ref a → SqL X.K H1 a xs → R (Itl X.K a) H1 → wpAny (model X.prog X.w) X.A (pyIter v) (PIE X pins σ tg R) X.xe s1 := by
    intro a xs ex hq hR
    subst ex
    cases r1
    obtain ⟨its, rv, p, hz⟩ := I1.list hq
    refine wpAny_pyIter_list p.isList ?_
    refine ⟨s1.heap.objs.size, [s1.heap.objs.size], _, _, H1, rfl, I1.kept (t' := s1.toks) fun b o e => Heap.get?_push_of_some _ e, turn_list a _, ⟨_, Heap.get?_push_size _ rfl, rfl, rfl⟩, fun b hb => ?_, hR⟩
    have e : b = s1.heap.objs.size := by simpa using hb
    subst e
    exact I1.fpOk (Nat.le_refl _) (I1.hok.fresh (Nat.le_refl _))
  have tup : ∀ (a : Addr) (xs : List V), x = .ref a → SqT X.K H1 a xs → R (Itt X.K a) H1 → wpAny (model X.prog X.w) X.A (pyIter v) (PIE X pins σ tg R) X.xe s1 := by
    intro a xs ex hq hR
    subst ex
    cases r1
    obtain ⟨its, rv, p, hz⟩ := I1.tuple hq
    refine wpAny_pyIter_tuple (show s1.heap.IsTuple a its.toArray from p) ?_
    refine ⟨s1.heap.objs.size, [s1.heap.objs.size], _, _, H1, rfl, I1.kept (t' := s1.toks) fun b o e => Heap.get?_push_of_some _ e, turn_tuple a _, ⟨_, Heap.get?_push_size _ rfl, rfl, rfl⟩, fun b hb => ?_, hR⟩
    have e : b = s1.heap.objs.size := by simpa using hb
    subst e
    exact I1.fpOk (Nat.le_refl _) (I1.hok.fresh (Nat.le_refl _))
  cases d with
  | p y =>
    cases y with
    | tup zs =>
      simp only [srcOf, Option.some.injEq, Prod.mk.injEq] at e2
      obtain ⟨rfl, rfl⟩ := e2
      cases (show Rp X.K cl F1 (.tup zs) x from dr1) with
      | @tup a _ vs q t =>
        refine tup a vs rfl (SqT.mono sm1.le q) (k F1 φ1 H1 _ sm1 x1 (itD_seq t (fun H sf i x hx => ⟨vs, x, SqT.mono sf q, hx⟩) (fun H sf i x hx y H2 hy => ⟨hy.1, ?_⟩) fun H sf i hi => ⟨vs, SqT.mono sf q, hi⟩))
        have := hy.2 vs (SqT.mono sf q)
        rw [hx] at this
        exact (Option.some.inj this).symm
    | lst zs =>
      simp only [srcOf, Option.some.injEq, Prod.mk.injEq] at e2
      obtain ⟨rfl, rfl⟩ := e2
      cases (show Rp X.K cl F1 (.lst zs) x from dr1) with
      | @lst a _ vs q t =>
        refine lst a vs rfl (SqL.mono sm1.le q) (k F1 φ1 H1 _ sm1 x1 (itD_seq t (fun H sf i x hx => ⟨vs, x, SqL.mono sf q, hx⟩) (fun H sf i x hx y H2 hy => ⟨hy.1, ?_⟩) fun H sf i hi => ⟨vs, SqL.mono sf q, hi⟩))
        have := hy.2 vs (SqL.mono sf q)
        rw [hx] at this
        exact (Option.some.inj this).symm
    | _ => cases e2
  | ref n =>
    unfold srcOf at e2
    dsimp only at e2
    cases q : S2.os[n]? with
    | none => rw [q] at e2; cases e2
    | some ob =>
      rw [q] at e2
      cases ob <;> try (cases e2; done)
      rename_i ds
      simp only [Option.some.injEq, Prod.mk.injEq] at e2
      obtain ⟨rfl, rfl⟩ := e2
      have hn : n < S2.len := (List.getElem?_eq_some_iff.mp q).1
      obtain ⟨vs, ev, rv⟩ := (sm1.ob n _ q).2
      refine lst (φ1 n) vs dr1 (.inl (.inl ev)) (k F1 φ1 H1 _ sm1 x1 ?_)
      intro S' B' F' φ' H' s' sf hl hp i
      have at_ : ∀ ds', S'.os[n]? = some (.lst ds') → ∃ vs', SqL X.K H' (φ1 n) vs' ∧ H' (φ1 n) = some (.lst vs') ∧ DRA X.K cl F' φ' ds' vs' := fun ds' q' => by
        obtain ⟨vs', ev', rv'⟩ := (s'.ob n _ q').2
        rw [hp n hn] at ev'
        exact ⟨vs', .inl (.inl ev'), ev', rv'⟩
      refine ⟨fun t d ht htd => ?_, fun hi hf => ?_⟩
      · have ht : ((List.range ds.length).map (itemR n ds.length))[i]? = some t := ht
        rw [List.getElem?_map] at ht
        cases er : (List.range ds.length)[i]? with
        | none => rw [er] at ht; cases ht
        | some j =>
          rw [er] at ht
          cases ht
          have hj : j = i := by
            have := List.getElem?_eq_some_iff.mp er
            obtain ⟨h1, h2⟩ := this
            rw [List.getElem_range] at h2
            exact h2.symm
          subst hj
          unfold itemR at htd
          cases q' : S'.os[n]? with
          | none => rw [q'] at htd; cases htd
          | some ob' =>
            rw [q'] at htd
            cases ob' <;> try (cases htd; done)
            rename_i ds'
            dsimp only at htd
            by_cases hlen : ds'.length = ds.length
            · rw [if_pos hlen] at htd
              obtain ⟨vs', h1, h2, h3⟩ := at_ ds' q'
              obtain ⟨v', hv', rv'⟩ := h3.get htd
              refine ⟨s'.wf n _ q' d (List.mem_of_getElem? htd), ⟨vs', v', h1, hv'⟩, fun x H2 hy => ?_⟩
              obtain ⟨rfl, hy⟩ := hy
              have := hy vs' h1
              rw [hv'] at this
              cases this
              exact ⟨F', s', .refl s', rv'⟩
            · rw [if_neg hlen] at htd; cases htd
      · have hf : finR n ds.length S' = true := hf
        unfold finR at hf
        cases q' : S'.os[n]? with
        | none => rw [q'] at hf; cases hf
        | some ob' =>
          rw [q'] at hf
          cases ob' <;> try (cases hf; done)
          rename_i ds'
          have hlen : ds'.length = ds.length := of_decide_eq_true hf
          obtain ⟨vs', h1, h2, h3⟩ := at_ ds' q'
          refine ⟨vs', h1, ?_⟩
          have := h3.length
          have hi : ((List.range ds.length).map (itemR n ds.length)).length ≤ i := hi
          rw [List.length_map, List.length_range] at hi
          omega
theorem itD_rng {K : PySem.W.Frag} {S : SH} {F : Hp} {φ : Nat → Addr} {lo : Int} {n : Nat} : ItD K cl S F φ (Itr lo n) (srcN lo n) := by
  intro S' B' F' φ' H' s sf hl hp i
  refine ⟨fun t d ht htd => ?_, fun hi _ => ?_⟩
  · have ht : ((List.range n).map fun (i : Nat) (_ : SH) => some (D.p (.int (lo + (i : Int)))))[i]? = some t := ht
    rw [List.getElem?_map] at ht
    cases er : (List.range n)[i]? with
    | none => rw [er] at ht; cases ht
    | some j =>
      rw [er] at ht
      cases ht
      obtain ⟨h1, h2⟩ := List.getElem?_eq_some_iff.mp er
      rw [List.getElem_range] at h2
      rw [List.length_range] at h1
      subst h2
      cases htd
      refine ⟨trivial, h1, fun x H2 y => ?_⟩
      obtain ⟨rfl, rfl⟩ := y
      exact ⟨F', s, .refl s, Rp.int _⟩
  · have hi : ((List.range n).map fun (i : Nat) (_ : SH) => some (D.p (.int (lo + (i : Int))))).length ≤ i := hi
    rw [List.length_map, List.length_range] at hi
    exact hi
theorem drInt {K : PySem.W.Frag} {F : Hp} {φ : Nat → Addr} {i : Int} {x : V} (h : DR K cl F φ (.p (.int i)) x) : x = .int i := by
  cases (show Rp K cl F (.int i) x from h); rfl
theorem pi_rng1 {a : Expr} (hg : Gl X "range") (hm : X.mg "range" = none) (ha : PA X [a] (LA X.K cl ma)) (hs : starEach [a] X.env = [(false, eval a X.env)] := by rfl) : PI X tg (.Call (.Name "range" p) [a] [] pos) (LI X.K cl (dRng1 ma)) := by
  have h := pi_range1 (tg := tg) (p := p) (pos := pos) hg hm ha hs
  refine ⟨fun pins s σ H R I q => h.run pins s σ H R I ?_⟩
  obtain ⟨σd, S, B, F, φ, sm, rs, src, S1, e, k⟩ := q
  obtain ⟨ds, S2, e1, e2⟩ := bnd_of e
  refine LA.then_ sm rs e1 fun F1 φ1 H1 us s1 x1 rs1 dr l => ?_
  unfold rng1 at e2
  split at e2
  · rename_i j
    split at e2
    · rename_i hj
      cases e2
      cases dr with
      | cons r t =>
        cases t
        exact ⟨j, by rw [drInt r], hj.1, hj.2, k F1 φ1 H1 _ s1 x1 itD_rng⟩
    · cases e2
  · cases e2
end

/-! ### loops -/
def forL (ws : List Nat) (fin : SH → Bool) (g : MG) (body : MS) : List (SH → Option D) → MS
  | [], σ, S => if fin S = true then some (.nx σ, S) else none
  | t :: ts, σ, S => match t S with
    | some d => bnd (g d σ S) fun σ1 S1 => bnd (body σ1 S1) fun f S2 => match f with
      | .nx σ2 => forL ws fin g body ts (wipeD ws σ2) S2
      | .ct σ2 => forL ws fin g body ts (wipeD ws σ2) S2
      | .brk σ2 => some (.nx (wipeD ws σ2), S2)
      | .ret d => some (.ret d, S2)
    | none => none
/-- ws: the names that no turn needs from the one before, nor what follows -/
def dFor (ws : List Nat) (m : MI) (g : MG) (body : MS) : MS := fun σ S => bnd (m σ S) fun src S1 => forL ws src.fin g body src.items (wipeD ws σ) S1
def whL (ws : List Nat) (t : MT) (body : MS) : Nat → MS
  | 0, _, _ => none
  | k + 1, σ, S => bnd (t σ S) fun b S1 => if b = true then bnd (body σ S1) fun f S2 => match f with
      | .nx σ2 => whL ws t body k (wipeD ws σ2) S2
      | .ct σ2 => whL ws t body k (wipeD ws σ2) S2
      | .brk σ2 => some (.nx (wipeD ws σ2), S2)
      | .ret d => some (.ret d, S2)
    else some (.nx σ, S1)
def dWhile (ws : List Nat) (fuel : Nat) (t : MT) (body : MS) : MS := fun σ S => whL ws t body fuel (wipeD ws σ) S
def compL (fin : SH → Bool) (g : MG) (c : MT) (elt : ME) (σ : En) : List (SH → Option D) → List D → SH → Option (List D × SH)
  | [], acc, S => if fin S = true then some (acc, S) else none
  | t :: ts, acc, S => match t S with
    | some d => bnd (g d σ S) fun σ1 S1 => bnd (c σ1 S1) fun b S2 => if b = true then
        (if acc.length < sizeLine then bnd (elt σ1 S2) fun y S3 => compL fin g c elt σ ts (acc ++ [y]) S3 else none)
        else compL fin g c elt σ ts acc S2
    | none => none
def dComp (live : Bool) (m : MI) (g : MG) (c : MT) (elt : ME) (vs : List Nat) : ME := fun σ S => bnd (m σ S) fun src S1 => bnd (compL src.fin g c elt (wipeD vs σ) src.items [] S1) fun ds S2 => newL live ds S2
def dYes : MT := fun _ S => some (true, S)
section
variable {X : Cx} {cl : ClW} {tg iter e : Expr} {body : List Stmt} {pos : Pos} {m : MI} {g : MG} {vs : List Nat} {mb : MS} {mt : MT} {me : ME}
theorem s_for {ws : List Nat} (hp : PassesOwn (model X.prog X.w) X.A X.env X.xe) (hc : X.calm = true) (hi : PI X tg iter (LI X.K cl m)) (hg : PG X tg (LG X.K cl vs g)) (hb : PSs X body (LS X.K cl mb))
    (hs : ∀ x, foldedSetIterable iter X.env x = pure x := by intro _; rfl) : PS X (.For tg iter body [] pos) (LS X.K cl (dFor ws m g mb)) := by
  refine (ps_for hp hc hi hg hb hs).imp fun Z σ H q => ?_
  obtain ⟨σd, S, B, F, φ, s, rs, o⟩ := q
  obtain ⟨src, S1, e1, o1⟩ := okS_bnd o
  refine ⟨σd, S, B, F, φ, s, rs, src, S1, e1, fun F1 φ1 H1 J s1 x1 it => ?_⟩
  refine ⟨fun i mm σ' H' => mm = src.items.length - i ∧ i ≤ src.items.length ∧ ∃ σd' S' F' φ', Sim X.K cl S' B F' φ' H' ∧ Ext S1 F1 φ1 H1 S' F' φ' H' ∧ RS X.K cl F' φ' S'.len σd' σ' ∧ OkS X.K cl S' B F' φ' H' (forL ws src.fin g mb (src.items.drop i) σd' S') Z,
    ⟨src.items.length, by simp, Nat.zero_le _, wipeD ws σd, S1, F1, φ1, s1, .refl s1, (x1.rs rs).wipe ws, by rw [List.drop_zero]; exact o1.ext x1⟩, ?_⟩
  rintro i mm σ' H' ⟨rfl, hi, σd', S', F', φ', s', x', rs', o'⟩
  obtain ⟨turn, stop⟩ := it S' B F' φ' H' s' x'.fz x'.len x'.phi i
  by_cases hlt : i < src.items.length
  · rw [List.drop_eq_getElem_cons hlt] at o'
    unfold forL at o'
    cases ht : src.items[i] S' with
    | none => rw [ht] at o'; obtain ⟨_, _, z, _⟩ := o'; cases z
    | some d =>
      rw [ht] at o'
      dsimp only at o'
      obtain ⟨ld, go, yld⟩ := turn _ d (List.getElem?_eq_getElem hlt) ht
      refine .inr ⟨go, fun σ3 H3 => ∃ σd3 S3 F3 φ3, Sim X.K cl S3 B F3 φ3 H3 ∧ Ext S1 F1 φ1 H1 S3 F3 φ3 H3 ∧ RS X.K cl F3 φ3 S3.len σd3 σ3 ∧ OkS X.K cl S3 B F3 φ3 H3 (forL ws src.fin g mb (src.items.drop (i + 1)) σd3 S3) Z, fun σ3 H3 h => ⟨src.items.length - (i + 1), by omega, rfl, hlt, h⟩, fun x H2 y => ?_⟩
      obtain ⟨F2, s2, x2, dr⟩ := yld x H2 y
      have o2 := o'.ext x2
      obtain ⟨σ3, S3, e3, o3⟩ := okS_bnd o2
      refine ⟨d, σd', S', B, F2, φ', s2, x2.rs rs', dr, ld, σ3, S3, e3, fun F4 φ4 H4 σ4 s4 x4 rs4 _ => ?_⟩
      obtain ⟨f, S5, e5, o5⟩ := okS_bnd (o3.ext x4)
      refine ⟨σ3, S3, B, F4, φ4, s4, rs4, f, S5, e5, ?_⟩
      cases f with
      | nx σ5 => exact fun F6 φ6 H6 σ6 s6 x6 rs6 => ⟨wipeD ws σ5, S5, F6, φ6, s6, x'.trans (x2.trans (x4.trans x6)), rs6.wipe ws, o5.ext x6⟩
      | ct σ5 => exact fun F6 φ6 H6 σ6 s6 x6 rs6 => ⟨wipeD ws σ5, S5, F6, φ6, s6, x'.trans (x2.trans (x4.trans x6)), rs6.wipe ws, o5.ext x6⟩
      | brk σ5 => obtain ⟨_, _, z, k⟩ := o5; cases z; exact fun F6 φ6 H6 σ6 s6 x6 rs6 => k F6 φ6 H6 σ6 s6 x6 (rs6.wipe ws)
      | ret d => obtain ⟨_, _, z, k⟩ := o5; cases z; exact k
  · have hd : src.items.drop i = [] := List.drop_eq_nil_iff.mpr (by omega)
    rw [hd] at o'
    unfold forL at o'
    by_cases hf : src.fin S' = true
    · rw [if_pos hf] at o'
      obtain ⟨_, _, z, k⟩ := o'
      cases z
      exact .inl ⟨stop (by omega) hf, k F' φ' H' σ' s' (.refl s') rs'⟩
    · rw [if_neg hf] at o'; obtain ⟨_, _, z, _⟩ := o'; cases z
theorem s_while {ws : List Nat} {c : Expr} {fuel : Nat} (hp : PassesOwn (model X.prog X.w) X.A X.env X.xe) (hc : PT X c (LT X.K cl mt)) (hb : PSs X body (LS X.K cl mb)) : PS X (.While c body [] pos) (LS X.K cl (dWhile ws fuel mt mb)) := by
  refine (ps_while hp hc hb).imp fun Z σ H q => ?_
  obtain ⟨σd, S, B, F, φ, s, rs, o⟩ := q
  refine ⟨fun k σ' H' => ∃ σd' S' F' φ', Sim X.K cl S' B F' φ' H' ∧ RS X.K cl F' φ' S'.len σd' σ' ∧ OkS X.K cl S' B F' φ' H' (whL ws mt mb k σd' S') Z, ⟨fuel, wipeD ws σd, S, F, φ, s, rs.wipe ws, o⟩, ?_⟩
  rintro k σ' H' ⟨σd', S', F', φ', s', rs', o'⟩
  cases k with
  | zero => obtain ⟨_, _, z, _⟩ := o'; cases z
  | succ k =>
    unfold whL at o'
    obtain ⟨b, S1, e1, o1⟩ := okS_bnd o'
    refine LT.then_ s' rs' e1 fun F1 φ1 H1 s1 x1 rs1 => ?_
    split
    · rename_i hb; rw [if_pos hb] at o1
      obtain ⟨f, S2, e2, o2⟩ := okS_bnd (o1.ext x1)
      refine ⟨fun σ3 H3 => ∃ σd3 S3 F3 φ3, Sim X.K cl S3 B F3 φ3 H3 ∧ RS X.K cl F3 φ3 S3.len σd3 σ3 ∧ OkS X.K cl S3 B F3 φ3 H3 (whL ws mt mb k σd3 S3) Z, fun σ3 H3 h => ⟨k, Nat.lt_succ_self _, h⟩, ?_⟩
      refine ⟨σd', S1, B, F1, φ1, s1, rs1, f, S2, e2, ?_⟩
      cases f with
      | nx σ5 => exact fun F6 φ6 H6 σ6 s6 x6 rs6 => ⟨wipeD ws σ5, S2, F6, φ6, s6, rs6.wipe ws, o2.ext x6⟩
      | ct σ5 => exact fun F6 φ6 H6 σ6 s6 x6 rs6 => ⟨wipeD ws σ5, S2, F6, φ6, s6, rs6.wipe ws, o2.ext x6⟩
      | brk σ5 => obtain ⟨_, _, z, k⟩ := o2; cases z; exact fun F6 φ6 H6 σ6 s6 x6 rs6 => k F6 φ6 H6 σ6 s6 x6 (rs6.wipe ws)
      | ret d => obtain ⟨_, _, z, k⟩ := o2; cases z; exact k
    · rename_i hb; rw [if_neg hb] at o1
      obtain ⟨_, _, z, k⟩ := o1
      cases z
      exact k F1 φ1 H1 σ' s1 x1 rs1
theorem wipe_get {σ : L2.St} {i : Nat} : ∀ {vs : List Nat}, i ∉ vs → (wipe σ vs)[i]? = σ[i]?
  | [], _ => rfl
  | v :: vs, h => by
    unfold wipe
    rw [List.mem_cons, not_or] at h
    rw [List.getElem?_set_ne (fun e => h.1 e.symm)]
    exact wipe_get h.2
theorem wipe_in {σ : L2.St} {i : Nat} : ∀ {vs : List Nat}, i ∈ vs → i < σ.length → (wipe σ vs)[i]? = some none
  | v :: vs, h, hl => by
    unfold wipe
    by_cases e : v = i
    · subst e
      rw [List.getElem?_set_self (by rw [wipe_length]; exact hl)]
    · rw [List.getElem?_set_ne e]
      rcases List.mem_cons.mp h with h | h
      · exact absurd h.symm e
      · exact wipe_in h hl
theorem wipe_eq {σ σ' : L2.St} {vs : List Nat} (h : σ'.length = σ.length) (k : ∀ j, j ∉ vs → σ'[j]? = σ[j]?) : wipe σ' vs = wipe σ vs := by
  apply List.ext_getElem?
  intro i
  by_cases hi : i ∈ vs
  · by_cases hl : i < σ.length
    · rw [wipe_in hi (by omega), wipe_in hi hl]
    · rw [List.getElem?_eq_none (by rw [wipe_length]; omega), List.getElem?_eq_none (by rw [wipe_length]; omega)]
  · rw [wipe_get hi, wipe_get hi]; exact k i hi
theorem wipe_wipe {σ : L2.St} {vs : List Nat} : wipe (wipe σ vs) vs = wipe σ vs := wipe_eq (wipe_length _ _) fun j h => wipe_get h
theorem wipeD_len : ∀ (vs : List Nat) (σd : En), (wipeD vs σd).length = σd.length
  | [], _ => rfl
  | i :: r, σd => by unfold wipeD; rw [wipeD_len r, List.length_set]
theorem wipeD_some : ∀ {vs : List Nat} {σd : En} {i : Nat} {d : D}, (wipeD vs σd)[i]? = some (some d) → σd[i]? = some (some d) ∧ i ∉ vs
  | [], _, _, _, h => ⟨h, by simp⟩
  | v :: vs, σd, i, d, h => by
    unfold wipeD at h
    obtain ⟨h1, h2⟩ := wipeD_some h
    by_cases e : v = i
    · subst e
      rw [List.getElem?_set, if_pos rfl] at h1
      split at h1 <;> cases h1
    · rw [List.getElem?_set_ne e] at h1
      exact ⟨h1, by rw [List.mem_cons, not_or]; exact ⟨fun z => e z.symm, h2⟩⟩
theorem RS.wipe2 {K : PySem.W.Frag} {F : Hp} {φ : Nat → Addr} {k : Nat} {σd : En} {σ : L2.St} (r : RS K cl F φ k σd σ) (vs : List Nat) : RS K cl F φ k (wipeD vs σd) (L2.wipe σ vs) := by
  refine ⟨by rw [wipeD_len, wipe_length]; exact r.1, fun i d e => ?_⟩
  obtain ⟨h1, h2⟩ := wipeD_some e
  obtain ⟨a, v, b, c⟩ := r.2 i d h1
  exact ⟨a, v, by rw [wipe_get h2]; exact b, c⟩
/-- another object, neither data nor one that may change here -/
def At (L : Addr) (us : List V) (S : SH) (F : Hp) (φ : Nat → Addr) (H : Hp) : Prop := H L = some (.lst us) ∧ F L = none ∧ ∀ n, n < S.len → φ n ≠ L
theorem At.ext {L : Addr} {us : List V} {S S' : SH} {F F' H H' : Hp} {φ φ' : Nat → Addr} (x : Ext S F φ H S' F' φ' H') (a : At L us S F φ H) : At L us S' F' φ' H' := by
  refine ⟨x.keep L _ a.1 a.2.2, x.fr L _ a.1 a.2.1 a.2.2, fun n hn e => ?_⟩
  by_cases h : n < S.len
  · exact a.2.2 n h ((x.phi n h).symm.trans e)
  · have := x.new n (Nat.le_of_not_lt h) hn
    rw [e, a.1] at this; cases this
theorem Sim.other {K : PySem.W.Frag} {S : SH} {B : List Nat} {F H : Hp} {φ : Nat → Addr} (s : Sim K cl S B F φ H) {L : Addr} (o : HO) (fL : F L = none) (np : ∀ n, n < S.len → φ n ≠ L) : Sim K cl S B F φ (upd H L o) := by
  refine ⟨fun a u e => ?_, fun n u e => ⟨(s.ob n u e).1, ?_⟩, s.inj, s.wf, s.bs, s.bl⟩
  · rw [upd_ne (ne_of_none e fL)]; exact s.le a u e
  · rw [upd_ne (np n (List.getElem?_eq_some_iff.mp e).1)]; exact (s.ob n u e).2
theorem Ext.other {S S' : SH} {F F' H H' : Hp} {φ φ' : Nat → Addr} (x : Ext S F φ H S' F' φ' H') {L : Addr} (o : HO) (h : H L = none) : Ext S F φ H S' F' φ' (upd H' L o) :=
  ⟨x.fz, x.len, x.b, x.phi, x.new, fun a u e n => by rw [upd_ne (ne_of_none e h)]; exact x.keep a u e n, fun n hn => by
    by_cases e : φ n = L
    · rw [e, upd_same]; simp
    · rw [upd_ne e]; exact x.tr n hn, x.fr⟩
theorem newL_at {K : PySem.W.Frag} {S0 S : SH} {B : List Nat} {F0 F H0 H : Hp} {φ0 φ : Nat → Addr} {Q : VK} {live : Bool} {ds : List D} {us : List V} {L : Addr} (h : OkE K cl S0 B F0 φ0 H0 (newL live ds S) Q) (s : Sim K cl S B F φ H) (x : Ext S0 F0 φ0 H0 S F φ H)
    (r : DRA K cl F φ ds us) (l : ∀ d ∈ ds, d.lt S.len) (a : At L us S F φ H) (h0 : H0 L = none) : Q (.ref L) H := by
  -- as if the object were laid just now
  obtain ⟨aL, fL, np⟩ := a
  let Hm : Hp := fun b => if b = L then none else H b
  have hm : Hm L = none := if_pos rfl
  have ne : ∀ b, b ≠ L → Hm b = H b := fun b hb => if_neg hb
  have sm : Sim K cl S B F φ Hm := ⟨fun b o e => by rw [ne b (ne_of_none e fL)]; exact s.le b o e, fun n o e => ⟨(s.ob n o e).1, by rw [ne _ (np n (List.getElem?_eq_some_iff.mp e).1)]; exact (s.ob n o e).2⟩, s.inj, s.wf, s.bs, s.bl⟩
  have xm : Ext S0 F0 φ0 H0 S F φ Hm := ⟨x.fz, x.len, x.b, x.phi, x.new, fun b o e n => by rw [ne b (ne_of_none e h0)]; exact x.keep b o e n, fun n hn e => by
      by_cases q : φ0 n = L
      · exact np n (Nat.lt_of_lt_of_le hn x.len) ((x.phi n hn).trans q)
      · rw [ne _ q] at e; exact x.tr n hn e, x.fr⟩
  have same : Same Hm H := fun b o e => by
    by_cases q : b = L
    · rw [q, hm] at e; cases e
    · rw [ne b q] at e; exact e
  exact (newL_ok (h.ext xm) sm r l).2 L H hm same aL
theorem e_comp {K : PySem.W.Frag} {live : Bool} {σ : L2.St} {H : Hp} {Q : VK} {ws : List Nat} (hw : ∀ j ∈ vs, j ∈ ws) (q : LE K cl (dComp live m g mt me ws) σ H Q) : tLc (LI K cl m) (LG K cl vs g) (LT K cl mt) (LE K cl me) ws σ H Q := by
  obtain ⟨σd, S, B, F, φ, s, rs, o⟩ := q
  obtain ⟨src, S1, e1, o1⟩ := okE_bnd o
  refine ⟨σd, S, B, F, φ, s, rs, src, S1, e1, fun F1 φ1 H1 J s1 x1 it => ?_⟩
  intro L hL
  have o1 := o1.ext x1
  have smL : Same H1 (upd H1 L (.lst [])) := Same.new (Same.refl _) hL
  obtain ⟨fL, pL⟩ := s1.none_p hL
  refine ⟨fun i mm H' => mm = src.items.length - i ∧ i ≤ src.items.length ∧ ∃ acc us S' F' φ', Sim K cl S' B F' φ' H' ∧ Ext S1 F1 φ1 H1 S' F' φ' H' ∧ At L us S' F' φ' H' ∧ DRA K cl F' φ' acc us ∧ (∀ d ∈ acc, d.lt S'.len) ∧
      OkE K cl S1 B F1 φ1 H1 (bnd (compL src.fin g mt me (wipeD ws σd) (src.items.drop i) acc S') fun ds S2 => newL live ds S2) Q,
    ⟨src.items.length, by simp, Nat.zero_le _, [], [], S1, F1, φ1, s1.keep smL, Ext.ofSame s1 smL, ⟨upd_same, fL, pL⟩, .nil, fun _ z => absurd z (by simp), by rw [List.drop_zero]; exact o1⟩, ?_⟩
  rintro i mm H' ⟨rfl, hi, acc, us, S', F', φ', s', x', at', ra, la, o'⟩
  obtain ⟨turn, stop⟩ := it S' B F' φ' H' s' x'.fz x'.len x'.phi i
  by_cases hlt : i < src.items.length
  · rw [List.drop_eq_getElem_cons hlt] at o'
    unfold compL at o'
    cases ht : src.items[i] S' with
    | none => rw [ht] at o'; obtain ⟨_, _, z, _⟩ := o'; cases z
    | some d =>
      rw [ht] at o'
      dsimp only at o'
      obtain ⟨ld, go, yld⟩ := turn _ d (List.getElem?_eq_getElem hlt) ht
      refine .inr ⟨go, fun H3 => ∃ acc us S' F' φ', Sim K cl S' B F' φ' H3 ∧ Ext S1 F1 φ1 H1 S' F' φ' H3 ∧ At L us S' F' φ' H3 ∧ DRA K cl F' φ' acc us ∧ (∀ d ∈ acc, d.lt S'.len) ∧
        OkE K cl S1 B F1 φ1 H1 (bnd (compL src.fin g mt me (wipeD ws σd) (src.items.drop (i + 1)) acc S') fun ds S2 => newL live ds S2) Q, fun H3 h => ⟨src.items.length - (i + 1), by omega, rfl, hlt, h⟩, fun x H2 y => ?_⟩
      obtain ⟨F2, s2, x2, dr⟩ := yld x H2 y
      obtain ⟨out, S9, eo, ko⟩ := okE_bnd o'
      obtain ⟨σ3, S3, e3, e4⟩ := bnd_of eo
      obtain ⟨b, S4, e5, e6⟩ := bnd_of e4
      refine ⟨d, wipeD ws σd, S', B, F2, φ', s2, (((x1.trans x').trans x2).rs rs).wipe2 ws, dr, ld, σ3, S3, e3, fun F4 φ4 H4 σ4 s4 x4 rs4 hk => ⟨?_, ?_⟩⟩
      · exact (wipe_eq hk.1 fun j hj => hk.2 j fun z => hj (hw j z)).trans wipe_wipe
      · refine LT.then_ s4 rs4 e5 fun F5 φ5 H5 s5 x5 rs5 => ?_
        have xa := (x2.trans x4).trans x5
        split
        · rename_i hb
          rw [if_pos hb] at e6
          by_cases hz : acc.length < sizeLine
          · rw [if_pos hz] at e6
            obtain ⟨y1, S6, e7, e8⟩ := bnd_of e6
            refine LE.then_ s5 rs5 e7 fun F6 φ6 H6 u s6 x6 rs6 dr6 l6 => ?_
            have xb := xa.trans x6
            have at6 := at'.ext xb
            have hlen := ra.length
            refine ⟨us, at6.1, by omega, acc ++ [y1], us ++ [u], S6, F6, φ6, s6.other _ at6.2.1 at6.2.2, (x'.trans xb).other _ hL, ⟨upd_same, at6.2⟩, ?_, fun z hz' => ?_, ?_⟩
            · exact DRA.append (xb.dra la ra) (.cons dr6 .nil)
            · rcases List.mem_append.mp hz' with h | h
              · exact xb.lt (la z h)
              · rw [List.mem_singleton.mp h]; exact l6
            · rw [e8]; exact ko
          · rw [if_neg hz] at e6; cases e6
        · rename_i hb
          rw [if_neg hb] at e6
          exact ⟨acc, us, S4, F5, φ5, s5, x'.trans xa, at'.ext xa, xa.dra la ra, fun z hz' => xa.lt (la z hz'), by rw [e6]; exact ko⟩
  · have hd : src.items.drop i = [] := List.drop_eq_nil_iff.mpr (by omega)
    rw [hd] at o'
    unfold compL at o'
    by_cases hf : src.fin S' = true
    · rw [if_pos hf] at o'
      exact .inl ⟨stop (by omega) hf, newL_at o' s' x' ra la at' hL⟩
    · rw [if_neg hf] at o'; obtain ⟨_, _, z, _⟩ := o'; cases z
theorem ts_nil : PTs X [] (LT X.K cl dYes) := by
  refine ⟨fun pins s σ H Q I h => pts_nil.run pins s σ H Q I ?_⟩
  obtain ⟨σd, S, B, F, φ, s, rs, d, S1, e, k⟩ := h
  cases e
  exact k F φ H s (.refl s)
theorem ts_one {c : Expr} (h : PT X c (LT X.K cl mt)) : PTs X [c] (LT X.K cl mt) := pts_one h
theorem k_comp {elt : Expr} {ifs : List Expr} {scope : Scope} {own : List (Str × Nat)} {live : Bool} (hc : X.calm = true) (hN : X.N.Nodup) (hi : PI X tg iter (LI X.K cl m)) (ok : BlkOk X.N X.env.scope scope own)
    (hg : ∀ (s : Shared) (H : Hp) (C : Addr) (cs : List (Str × Addr)) (fp : List Addr), PG (X.blk s H scope (compEnvC scope cs C X.env) fp) tg (LG X.K cl vs g)) (ht : ∀ (s : Shared) (H : Hp) (C : Addr) (cs : List (Str × Addr)) (fp : List Addr), PTs (X.blk s H scope (compEnvC scope cs C X.env) fp) ifs (LT X.K cl mt))
    (he : ∀ (s : Shared) (H : Hp) (C : Addr) (cs : List (Str × Addr)) (fp : List Addr), PE (X.blk s H scope (compEnvC scope cs C X.env) fp) elt (LE X.K cl me)) (hw : ∀ j ∈ vs, j ∈ own.map (·.2) := by decide) (hs : ∀ x, foldedSetIterable iter X.env x = pure x := by intro _; rfl) :
    PE X (.ListComp elt [⟨tg, iter, ifs, 0⟩] scope pos) (LE X.K cl (dComp live m g mt me (own.map (·.2)))) :=
  (pe_lc hc hN hi ok hg ht he hs).imp fun _ _ _ q => e_comp hw q
theorem s_setComp {i : Nat} {y : Str} {py spos : Pos} {elt : Expr} {ifs : List Expr} {scope : Scope} {own : List (Str × Nat)} {live : Bool} (hc : X.calm = true) (hN : X.N.Nodup) (hy : X.N[i]? = some y) (hyl : X.env.scope.names.lookup y = some .local)
    (hsw : swapsWith (.ListComp elt [⟨tg, iter, ifs, 0⟩] scope pos) (some (.Name y py)) spos.line X.env = pure true) (hi : PI X tg iter (LI X.K cl m)) (ok : BlkOk X.N X.env.scope scope own)
    (hg : ∀ (s : Shared) (H : Hp) (C : Addr) (cs : List (Str × Addr)) (fp : List Addr), PG (X.blk s H scope (compEnvC scope cs C X.env) fp) tg (LG X.K cl vs g)) (ht : ∀ (s : Shared) (H : Hp) (C : Addr) (cs : List (Str × Addr)) (fp : List Addr), PTs (X.blk s H scope (compEnvC scope cs C X.env) fp) ifs (LT X.K cl mt))
    (he : ∀ (s : Shared) (H : Hp) (C : Addr) (cs : List (Str × Addr)) (fp : List Addr), PE (X.blk s H scope (compEnvC scope cs C X.env) fp) elt (LE X.K cl me)) (hw : ∀ j ∈ vs, j ∈ own.map (·.2) := by decide) (hs : ∀ x, foldedSetIterable iter X.env x = pure x := by intro _; rfl) :
    PS X (.Assign [.Name y py] (.ListComp elt [⟨tg, iter, ifs, 0⟩] scope pos) spos) (LS X.K cl (dSet i (dComp live m g mt me (own.map (·.2))))) := by
  refine (ps_setLc hc hN hy hyl hsw hi ok hg ht he hs).imp fun Z σ H q => ?_
  obtain ⟨σd, S, B, F, φ, s, rs, o⟩ := q
  obtain ⟨d, S1, e1, o1⟩ := okS_bnd o
  obtain ⟨_, _, z, k⟩ := o1
  cases z
  exact e_comp hw ⟨σd, S, B, F, φ, s, rs, d, S1, e1, fun F1 φ1 H1 u s1 x1 dr l => k F1 φ1 H1 _ s1 x1 ((x1.rs rs).set i dr l)⟩
end
end Pv
namespace Pv
open PySem PySem.Spec PyProof.Rows L2

/-! ### == of data -/
mutual
def peq : P → P → Bool
  | .non, .non => true
  | .bl a, .bl b => a == b
  | .bl a, .int j => (if a = true then 1 else 0) == j
  | .int i, .bl b => i == (if b = true then 1 else 0)
  | .int i, .int j => i == j
  | .str x, .str y => x == y
  | .lst xs, .lst ys => peqA xs ys
  | .tup xs, .tup ys => peqA xs ys
  | _, _ => false
def peqA : List P → List P → Bool
  | [], [] => true
  | x :: xs, y :: ys => peq x y && peqA xs ys
  | _, _ => false
end
/-- data of nested lists and tuples, so deep at most -/
def okd : Nat → P → Bool
  | _, .non => true
  | _, .bl _ => true
  | _, .int _ => true
  | _, .str _ => true
  | k + 1, .lst ps => ps.all (okd k)
  | k + 1, .tup ps => ps.all (okd k)
  | _, _ => false
theorem peqA_len : ∀ {xs ys : List P}, xs.length ≠ ys.length → peqA xs ys = false
  | [], [], h => absurd rfl h
  | [], _ :: _, _ => by simp [peqA]
  | _ :: _, [], _ => by simp [peqA]
  | x :: xs, y :: ys, h => by
    rw [peqA, peqA_len (xs := xs) (ys := ys) (fun e => h (by rw [List.length_cons, List.length_cons, e])), Bool.and_false]
def pAt (xs ys : List P) (j : Nat) : Bool := peq (xs.getD j .non) (ys.getD j .non)
theorem peqA_all : ∀ {xs ys : List P}, xs.length = ys.length → peqA xs ys = (List.range xs.length).all (pAt xs ys)
  | [], [], _ => by simp [peqA]
  | [], _ :: _, h => by simp at h
  | _ :: _, [], h => by simp at h
  | x :: xs, y :: ys, h => by
    have h' : xs.length = ys.length := by simpa using h
    rw [peqA, peqA_all h', List.length_cons, List.range_succ_eq_map, List.all_cons, List.all_map]
    rfl
theorem pAt_get {xs ys : List P} {j : Nat} {x y : P} (h1 : xs[j]? = some x) (h2 : ys[j]? = some y) : pAt xs ys j = peq x y := by
  unfold pAt
  rw [List.getD_eq_getElem?_getD, List.getD_eq_getElem?_getD, h1, h2]
  rfl
section
variable {X : Cx} {cl : ClW} {pins : List (Addr × Obj)} {σ : L2.St} {H F : Hp} {s : Shared}
theorem RpA.get {K : PySem.W.Frag} : ∀ {ps : List P} {vs : List V} {i : Nat} {v : V}, RpA K cl F ps vs → vs[i]? = some v → ∃ p, ps[i]? = some p ∧ Rp K cl F p v
  | _, _, _, _, .nil, e => by simp at e
  | _, _, 0, _, .cons r _, e => by simp at e; subst e; exact ⟨_, rfl, r⟩
  | _, _, i + 1, _, .cons _ t, e => by
    obtain ⟨u, h1, h2⟩ := RpA.get (i := i) t (by simpa using e)
    exact ⟨u, by simpa using h1, h2⟩
theorem RpA.len {K : PySem.W.Frag} {ps : List P} {vs : List V} (h : RpA K cl F ps vs) : ps.length = vs.length := by
  induction ps generalizing vs with
  | nil => cases h; rfl
  | cons x r ih => cases h with | cons a b => rw [List.length_cons, List.length_cons, ih b]
/-- a list's, a tuple's items, by place -/
theorem lst_items (I : L2.Inv X pins σ H s) (sf : Same F H) {ps : List P} {v : V} {u : Value} (r : Rp X.K cl F (.lst ps) v) (ru : RelV v u) : ∃ a its, u = .ref a ∧ v = .ref a ∧ s.heap.IsList a its ∧ its.size = ps.length ∧ ∀ j (hj : j < its.size), ∃ p w, ps[j]? = some p ∧ Rp X.K cl F p w ∧ RelV w its[j] := by
  cases r with
  | @lst a _ vs q t =>
    cases ru
    obtain ⟨its, rv, pl, hz⟩ := I.list (SqL.mono sf q)
    have e1 := rv.length
    have e2 := t.len
    refine ⟨a, its.toArray, rfl, rfl, pl.isList, by rw [List.size_toArray]; omega, fun j hj => ?_⟩
    have hj2 : j < its.length := by simpa using hj
    have hv : vs[j]? = some vs[j] := List.getElem?_eq_getElem (by omega)
    obtain ⟨p, hp, rp⟩ := t.get hv
    obtain ⟨w, hw, rw'⟩ := rv.get hv
    refine ⟨p, vs[j], hp, rp, ?_⟩
    have : its[j] = w := by
      rw [List.getElem?_eq_getElem hj2] at hw
      exact Option.some.inj hw
    rw [List.getElem_toArray, this]
    exact rw'
theorem tup_items (I : L2.Inv X pins σ H s) (sf : Same F H) {ps : List P} {v : V} {u : Value} (r : Rp X.K cl F (.tup ps) v) (ru : RelV v u) : ∃ a its, u = .ref a ∧ v = .ref a ∧ s.heap.IsTuple a its ∧ its.size = ps.length ∧ ∀ j (hj : j < its.size), ∃ p w, ps[j]? = some p ∧ Rp X.K cl F p w ∧ RelV w its[j] := by
  cases r with
  | @tup a _ vs q t =>
    cases ru
    obtain ⟨its, rv, pl, hz⟩ := I.tuple (SqT.mono sf q)
    have e1 := rv.length
    have e2 := t.len
    refine ⟨a, its.toArray, rfl, rfl, pl, by rw [List.size_toArray]; omega, fun j hj => ?_⟩
    have hj2 : j < its.length := by simpa using hj
    have hv : vs[j]? = some vs[j] := List.getElem?_eq_getElem (by omega)
    obtain ⟨p, hp, rp⟩ := t.get hv
    obtain ⟨w, hw, rw'⟩ := rv.get hv
    refine ⟨p, vs[j], hp, rp, ?_⟩
    have : its[j] = w := by
      rw [List.getElem?_eq_getElem hj2] at hw
      exact Option.some.inj hw
    rw [List.getElem_toArray, this]
    exact rw'
theorem okd_at {k : Nat} {ps : List P} (h : ps.all (okd k) = true) {j : Nat} {p : P} (e : ps[j]? = some p) : okd k p = true := List.all_eq_true.mp h p (List.mem_of_getElem? e)
mutual
theorem peq_refl : ∀ (k : Nat) (p : P), okd k p = true → peq p p = true
  | _, .non, _ => rfl
  | _, .bl b, _ => by simp [peq]
  | _, .int i, _ => by simp [peq]
  | _, .str x, _ => by simp [peq]
  | 0, .lst _, h => by simp [okd] at h
  | 0, .tup _, h => by simp [okd] at h
  | k + 1, .lst ps, h => by rw [peq]; exact peqA_refl k ps (by simpa [okd] using h)
  | k + 1, .tup ps, h => by rw [peq]; exact peqA_refl k ps (by simpa [okd] using h)
  | 0, .dK _, h => by simp [okd] at h
  | _ + 1, .dK _, h => by simp [okd] at h
  | 0, .dT _, h => by simp [okd] at h
  | _ + 1, .dT _, h => by simp [okd] at h
  | 0, .ins _ _, h => by simp [okd] at h
  | _ + 1, .ins _ _, h => by simp [okd] at h
theorem peqA_refl : ∀ (k : Nat) (ps : List P), (∀ x, x ∈ ps → okd k x = true) → peqA ps ps = true
  | _, [], _ => rfl
  | k, p :: ps, h => by rw [peqA, peq_refl k p (h p List.mem_cons_self), peqA_refl k ps (fun x hx => h x (List.mem_cons_of_mem _ hx))]; rfl
end
/-- one address holds one datum -/
theorem Rp.uniq (I : L2.Inv X pins σ H s) (sf : Same F H) : ∀ (k : Nat) (p q : P) (v : V), okd k p = true → okd k q = true → Rp X.K cl F p v → Rp X.K cl F q v → p = q := by
  intro k
  induction k with
  | zero =>
    intro p q v hp hq r1 r2
    cases p <;> cases q <;> first | (simp [okd] at hp; done) | (simp [okd] at hq; done) | (cases r1; cases r2; rfl) | (cases r1; cases r2)
  | succ k ih =>
    have all : ∀ (ps qs : List P) (vs : List V), ps.all (okd k) = true → qs.all (okd k) = true → RpA X.K cl F ps vs → RpA X.K cl F qs vs → ps = qs := by
      intro ps
      induction ps with
      | nil => intro qs vs _ _ r1 r2; cases r1; cases r2; rfl
      | cons p ps ihp =>
        intro qs vs h1 h2 r1 r2
        cases r1 with
        | cons a b =>
          cases r2 with
          | cons c d =>
            simp only [List.all_cons, Bool.and_eq_true] at h1 h2
            rw [ih _ _ _ h1.1 h2.1 a c, ihp _ _ h1.2 h2.2 b d]
    intro p q v hp hq r1 r2
    have lt : ∀ {a : Addr} {xs ys : List V}, SqL X.K F a xs → SqT X.K F a ys → False := fun {a xs ys} h1 h2 => by
      obtain ⟨its, _, ⟨o, n, e, c, _⟩, _⟩ := I.list (SqL.mono sf h1)
      obtain ⟨its2, _, ⟨o2, e2, c2, _⟩, _⟩ := I.tuple (SqT.mono sf h2)
      rw [e] at e2; cases e2
      rw [c] at c2
      injection c2 with c3
      exact absurd c3 (by decide)
    cases p <;> cases q <;> first | (simp [okd] at hp; done) | (simp [okd] at hq; done) | (cases r1; cases r2; rfl) | (cases r1; cases r2; done) | skip
    · cases r1 with
      | tup q1 t1 =>
        cases r2 with
        | tup q2 t2 =>
          have e := I.tuple_inj (SqT.mono sf q1) (SqT.mono sf q2)
          subst e
          rw [all _ _ _ (by simpa [okd] using hp) (by simpa [okd] using hq) t1 t2]
    · cases r1 with
      | tup q1 t1 => cases r2 with | lst q2 t2 => exact (lt q2 q1).elim
    · cases r1 with
      | lst q1 t1 => cases r2 with | tup q2 t2 => exact (lt q1 q2).elim
    · cases r1 with
      | lst q1 t1 =>
        cases r2 with
        | lst q2 t2 =>
          have e := I.list_inj (SqL.mono sf q1) (SqL.mono sf q2)
          subst e
          rw [all _ _ _ (by simpa [okd] using hp) (by simpa [okd] using hq) t1 t2]
theorem flat_V {K : PySem.W.Frag} : ∀ {p : P} {v : V}, okd 0 p = true → Rp K cl F p v → flatV v = true ∧ ∀ {q : P} {w : V}, okd 0 q = true → Rp K cl F q w → eqV v w = peq p q
  | .non, _, _, .non => ⟨rfl, fun {q w} hq r => by cases q <;> first | (simp [okd] at hq; done) | (cases r; simp [eqV, peq])⟩
  | .bl a, _, _, .bl _ => ⟨rfl, fun {q w} hq r => by cases q <;> first | (simp [okd] at hq; done) | (cases r; simp [eqV, peq])⟩
  | .int i, _, _, .int _ => ⟨rfl, fun {q w} hq r => by cases q <;> first | (simp [okd] at hq; done) | (cases r; simp [eqV, peq])⟩
  | .str x, _, _, .str _ => ⟨rfl, fun {q w} hq r => by cases q <;> first | (simp [okd] at hq; done) | (cases r; simp [eqV, peq])⟩
theorem eqAt_flat (p q : P) (v w : V) (u z : Value) (A : Around) (hp : okd 0 p = true) (hq : okd 0 q = true) (r1 : Rp X.K cl F p v) (e1 : RelV v u) (r2 : Rp X.K cl F q w) (e2 : RelV w z) : SeqAt.EqAt A s u z (peq p q) := by
  obtain ⟨f1, h⟩ := flat_V hp r1
  rw [← h hq r2]
  exact eqAt_V e1 e2 f1 (flat_V hq r2).1
theorem eqAt_P (I : L2.Inv X pins σ H s) (sf : Same F H) : ∀ (k : Nat) (p q : P) (v w : V) (u z : Value) (A : Around), okd k p = true → okd k q = true → Rp X.K cl F p v → RelV v u → Rp X.K cl F q w → RelV w z → A.units + k < cLine → SeqAt.EqAt A s u z (peq p q) := by
  intro k
  induction k with
  | zero =>
    intro p q v w u z A hp hq r1 e1 r2 e2 hu
    exact eqAt_flat p q v w u z A hp hq r1 e1 r2 e2
  | succ k ih =>
    intro p q v w u z A hp hq r1 e1 r2 e2 hu
    have hu0 : A.units < cLine := by omega
    have flat : okd 0 p = true → okd 0 q = true → SeqAt.EqAt A s u z (peq p q) := fun h1 h2 => by
      have up : ∀ x : P, okd 0 x = true → okd k x = true := fun x h => by cases x <;> first | (simp [okd] at h; done) | (cases k <;> rfl)
      exact ih p q v w u z A (up p h1) (up q h2) r1 e1 r2 e2 (by omega)
    cases p with
    | dK _ => simp [okd] at hp
    | dT _ => simp [okd] at hp
    | ins _ _ => simp [okd] at hp
    | lst ps =>
      obtain ⟨a, its, eu, ev, il, hs, hi⟩ := lst_items I sf r1 e1
      subst eu
      cases q with
      | dK _ => simp [okd] at hq
      | dT _ => simp [okd] at hq
      | ins _ _ => simp [okd] at hq
      | non => cases r2; cases e2; exact SeqAt.EqAt.list_none il hu0
      | bl b => cases r2; cases e2; exact SeqAt.EqAt.list_bool b il hu0
      | int i => cases r2; obtain ⟨t, rfl⟩ := e2; exact SeqAt.EqAt.list_int i t il hu0
      | str i => cases r2; obtain ⟨t, rfl⟩ := e2; exact SeqAt.EqAt.list_str i t il hu0
      | tup qs =>
        obtain ⟨b, its2, eu2, ev2, il2, hs2, hi2⟩ := tup_items I sf r2 e2
        subst eu2
        exact SeqAt.EqAt.list_tuple il il2 hu0
      | lst qs =>
        obtain ⟨b, its2, eu2, ev2, il2, hs2, hi2⟩ := lst_items I sf r2 e2
        subst eu2
        by_cases hab : a = b
        · subst hab
          rw [ev] at r1
          rw [ev2] at r2
          rw [Rp.uniq I sf _ _ _ _ hp hq r1 r2, peq_refl _ _ hq]
          exact SeqAt.EqAt.same _
        · rw [peq]
          by_cases hsz : its.size = its2.size
          · rw [peqA_all (by omega : ps.length = qs.length), ← hs]
            refine SeqAt.EqAt.of_refs hab (SeqAt.RcAt.lists il il2 hsz hu0 fun j h1 h2 => ?_)
            obtain ⟨x, w1, hx, rx, ex⟩ := hi j h1
            obtain ⟨y, w2, hy, ry, ey⟩ := hi2 j h2
            rw [pAt_get hx hy]
            exact ih x y w1 w2 _ _ A.in1 (okd_at (by simpa only [okd] using hp) hx) (okd_at (by simpa only [okd] using hq) hy) rx ex ry ey (by show A.units + 1 + k < cLine; omega)
          · rw [peqA_len (by omega : ps.length ≠ qs.length)]
            exact SeqAt.EqAt.of_refs hab (SeqAt.RcAt.lists_lengths il il2 (by simpa using hsz) hu0)
    | tup ps =>
      obtain ⟨a, its, eu, ev, il, hs, hi⟩ := tup_items I sf r1 e1
      subst eu
      cases q with
      | dK _ => simp [okd] at hq
      | dT _ => simp [okd] at hq
      | ins _ _ => simp [okd] at hq
      | non => cases r2; cases e2; exact SeqAt.EqAt.tuple_none il hu0
      | bl b => cases r2; cases e2; exact SeqAt.EqAt.tuple_bool b il hu0
      | int i => cases r2; obtain ⟨t, rfl⟩ := e2; exact SeqAt.EqAt.tuple_int i t il hu0
      | str i => cases r2; obtain ⟨t, rfl⟩ := e2; exact SeqAt.EqAt.tuple_str i t il hu0
      | lst qs =>
        obtain ⟨b, its2, eu2, ev2, il2, hs2, hi2⟩ := lst_items I sf r2 e2
        subst eu2
        exact SeqAt.EqAt.tuple_list il il2 hu0
      | tup qs =>
        obtain ⟨b, its2, eu2, ev2, il2, hs2, hi2⟩ := tup_items I sf r2 e2
        subst eu2
        by_cases hab : a = b
        · subst hab
          rw [ev] at r1
          rw [ev2] at r2
          rw [Rp.uniq I sf _ _ _ _ hp hq r1 r2, peq_refl _ _ hq]
          exact SeqAt.EqAt.same _
        · rw [peq]
          have main := SeqAt.RcAt.tuples (A := A) (s := s) (e := pAt ps qs) il il2 hu0 fun j h1 h2 => by
            obtain ⟨x, w1, hx, rx, ex⟩ := hi j h1
            obtain ⟨y, w2, hy, ry, ey⟩ := hi2 j h2
            rw [pAt_get hx hy]
            exact ih x y w1 w2 _ _ A.in1 (okd_at (by simpa only [okd] using hp) hx) (okd_at (by simpa only [okd] using hq) hy) rx ex ry ey (by show A.units + 1 + k < cLine; omega)
          by_cases hsz : its.size = its2.size
          · rw [peqA_all (by omega : ps.length = qs.length), ← hs]
            rw [hsz, Nat.min_self, beq_self_eq_true, Bool.and_true, ← hsz] at main
            exact SeqAt.EqAt.of_refs hab main
          · rw [peqA_len (by omega : ps.length ≠ qs.length)]
            have : (its.size == its2.size) = false := beq_eq_false_iff_ne.mpr hsz
            rw [this, Bool.and_false] at main
            exact SeqAt.EqAt.of_refs hab main
    | non =>
      cases q with
      | lst qs => obtain ⟨b, its2, eu2, ev2, il2, hs2, hi2⟩ := lst_items I sf r2 e2; subst eu2; cases r1; cases e1; exact SeqAt.EqAt.none_list il2 hu0
      | tup qs => obtain ⟨b, its2, eu2, ev2, il2, hs2, hi2⟩ := tup_items I sf r2 e2; subst eu2; cases r1; cases e1; exact SeqAt.EqAt.none_tuple il2 hu0
      | dK _ => simp [okd] at hq
      | dT _ => simp [okd] at hq
      | ins _ _ => simp [okd] at hq
      | _ => exact flat rfl rfl
    | bl c =>
      cases q with
      | lst qs => obtain ⟨b, its2, eu2, ev2, il2, hs2, hi2⟩ := lst_items I sf r2 e2; subst eu2; cases r1; cases e1; exact SeqAt.EqAt.bool_list c il2 hu0
      | tup qs => obtain ⟨b, its2, eu2, ev2, il2, hs2, hi2⟩ := tup_items I sf r2 e2; subst eu2; cases r1; cases e1; exact SeqAt.EqAt.bool_tuple c il2 hu0
      | dK _ => simp [okd] at hq
      | dT _ => simp [okd] at hq
      | ins _ _ => simp [okd] at hq
      | _ => exact flat rfl rfl
    | int c =>
      cases q with
      | lst qs => obtain ⟨b, its2, eu2, ev2, il2, hs2, hi2⟩ := lst_items I sf r2 e2; subst eu2; cases r1; obtain ⟨t, rfl⟩ := e1; exact SeqAt.EqAt.int_list c t il2 hu0
      | tup qs => obtain ⟨b, its2, eu2, ev2, il2, hs2, hi2⟩ := tup_items I sf r2 e2; subst eu2; cases r1; obtain ⟨t, rfl⟩ := e1; exact SeqAt.EqAt.int_tuple c t il2 hu0
      | dK _ => simp [okd] at hq
      | dT _ => simp [okd] at hq
      | ins _ _ => simp [okd] at hq
      | _ => exact flat rfl rfl
    | str c =>
      cases q with
      | lst qs => obtain ⟨b, its2, eu2, ev2, il2, hs2, hi2⟩ := lst_items I sf r2 e2; subst eu2; cases r1; obtain ⟨t, rfl⟩ := e1; exact SeqAt.EqAt.str_list c t il2 hu0
      | tup qs => obtain ⟨b, its2, eu2, ev2, il2, hs2, hi2⟩ := tup_items I sf r2 e2; subst eu2; cases r1; obtain ⟨t, rfl⟩ := e1; exact SeqAt.EqAt.str_tuple c t il2 hu0
      | dK _ => simp [okd] at hq
      | dT _ => simp [okd] at hq
      | ins _ _ => simp [okd] at hq
      | _ => exact flat rfl rfl
theorem rcAt_P (I : L2.Inv X pins σ H s) (sf : Same F H) (k : Nat) (p q : P) (v w : V) (u z : Value) (A : Around) (hp : okd (k + 1) p = true) (hq : okd (k + 1) q = true) (r1 : Rp X.K cl F p v) (e1 : RelV v u) (r2 : Rp X.K cl F q w) (e2 : RelV w z) (hu : A.units + k + 1 < cLine) : SeqAt.RcAt A s u z (peq p q) := by
  have hu0 : A.units < cLine := by omega
  cases p with
  | non =>
    cases r1; cases e1
    cases q with
    | non =>
      cases r2; cases e2
      exact SeqAt.RcAt.none_none
    | bl c2 =>
      cases r2; cases e2
      exact SeqAt.RcAt.none_bool c2
    | int c2 =>
      cases r2; obtain ⟨t2, rfl⟩ := e2
      exact SeqAt.RcAt.none_int c2 t2
    | str c2 =>
      cases r2; obtain ⟨t2, rfl⟩ := e2
      exact SeqAt.RcAt.none_str c2 t2
    | lst qs =>
      obtain ⟨b, its2, eu2, ev2, il2, hs2, hi2⟩ := lst_items I sf r2 e2
      subst eu2
      exact SeqAt.RcAt.none_list il2 hu0
    | tup qs =>
      obtain ⟨b, its2, eu2, ev2, il2, hs2, hi2⟩ := tup_items I sf r2 e2
      subst eu2
      exact SeqAt.RcAt.none_tuple il2 hu0
    | dK _ => simp [okd] at hq
    | dT _ => simp [okd] at hq
    | ins _ _ => simp [okd] at hq
  | bl c =>
    cases r1; cases e1
    cases q with
    | non =>
      cases r2; cases e2
      exact SeqAt.RcAt.bool_none c
    | bl c2 =>
      cases r2; cases e2
      exact SeqAt.RcAt.bool_bool c c2
    | int c2 =>
      cases r2; obtain ⟨t2, rfl⟩ := e2
      exact SeqAt.RcAt.bool_int c c2 t2
    | str c2 =>
      cases r2; obtain ⟨t2, rfl⟩ := e2
      exact SeqAt.RcAt.bool_str c c2 t2
    | lst qs =>
      obtain ⟨b, its2, eu2, ev2, il2, hs2, hi2⟩ := lst_items I sf r2 e2
      subst eu2
      exact SeqAt.RcAt.bool_list c il2 hu0
    | tup qs =>
      obtain ⟨b, its2, eu2, ev2, il2, hs2, hi2⟩ := tup_items I sf r2 e2
      subst eu2
      exact SeqAt.RcAt.bool_tuple c il2 hu0
    | dK _ => simp [okd] at hq
    | dT _ => simp [okd] at hq
    | ins _ _ => simp [okd] at hq
  | int c =>
    cases r1; obtain ⟨t, rfl⟩ := e1
    cases q with
    | non =>
      cases r2; cases e2
      exact SeqAt.RcAt.int_none c t
    | bl c2 =>
      cases r2; cases e2
      exact SeqAt.RcAt.int_bool c t c2
    | int c2 =>
      cases r2; obtain ⟨t2, rfl⟩ := e2
      exact SeqAt.RcAt.int_int c t c2 t2
    | str c2 =>
      cases r2; obtain ⟨t2, rfl⟩ := e2
      exact SeqAt.RcAt.int_str c t c2 t2
    | lst qs =>
      obtain ⟨b, its2, eu2, ev2, il2, hs2, hi2⟩ := lst_items I sf r2 e2
      subst eu2
      exact SeqAt.RcAt.int_list c t il2 hu0
    | tup qs =>
      obtain ⟨b, its2, eu2, ev2, il2, hs2, hi2⟩ := tup_items I sf r2 e2
      subst eu2
      exact SeqAt.RcAt.int_tuple c t il2 hu0
    | dK _ => simp [okd] at hq
    | dT _ => simp [okd] at hq
    | ins _ _ => simp [okd] at hq
  | str c =>
    cases r1; obtain ⟨t, rfl⟩ := e1
    cases q with
    | non =>
      cases r2; cases e2
      exact SeqAt.RcAt.str_none c t
    | bl c2 =>
      cases r2; cases e2
      exact SeqAt.RcAt.str_bool c t c2
    | int c2 =>
      cases r2; obtain ⟨t2, rfl⟩ := e2
      exact SeqAt.RcAt.str_int c t c2 t2
    | str c2 =>
      cases r2; obtain ⟨t2, rfl⟩ := e2
      exact SeqAt.RcAt.str_str c t c2 t2
    | lst qs =>
      obtain ⟨b, its2, eu2, ev2, il2, hs2, hi2⟩ := lst_items I sf r2 e2
      subst eu2
      exact SeqAt.RcAt.str_list c t il2 hu0
    | tup qs =>
      obtain ⟨b, its2, eu2, ev2, il2, hs2, hi2⟩ := tup_items I sf r2 e2
      subst eu2
      exact SeqAt.RcAt.str_tuple c t il2 hu0
    | dK _ => simp [okd] at hq
    | dT _ => simp [okd] at hq
    | ins _ _ => simp [okd] at hq
  | lst ps =>
    obtain ⟨a, its, eu, ev, il, hs, hi⟩ := lst_items I sf r1 e1
    subst eu
    cases q with
    | non =>
      cases r2; cases e2
      exact SeqAt.RcAt.list_none il hu0
    | bl c2 =>
      cases r2; cases e2
      exact SeqAt.RcAt.list_bool c2 il hu0
    | int c2 =>
      cases r2; obtain ⟨t2, rfl⟩ := e2
      exact SeqAt.RcAt.list_int c2 t2 il hu0
    | str c2 =>
      cases r2; obtain ⟨t2, rfl⟩ := e2
      exact SeqAt.RcAt.list_str c2 t2 il hu0
    | lst qs =>
      obtain ⟨b, its2, eu2, ev2, il2, hs2, hi2⟩ := lst_items I sf r2 e2
      subst eu2
      have he : ∀ j (h1 : j < its.size) (h2 : j < its2.size), SeqAt.EqAt A.in1 s its[j] its2[j] (pAt ps qs j) := fun j h1 h2 => by
        obtain ⟨x, w1, hx, rx, ex⟩ := hi j h1
        obtain ⟨y, w2, hy, ry, ey⟩ := hi2 j h2
        rw [pAt_get hx hy]
        exact eqAt_P I sf k x y w1 w2 _ _ A.in1 (okd_at (by simpa only [okd] using hp) hx) (okd_at (by simpa only [okd] using hq) hy) rx ex ry ey (by show A.units + 1 + k < cLine; omega)
      rw [peq]
      by_cases hsz : its.size = its2.size
      · rw [peqA_all (by omega : ps.length = qs.length), ← hs]
        exact SeqAt.RcAt.lists il il2 hsz hu0 he
      · rw [peqA_len (by omega : ps.length ≠ qs.length)]
        exact SeqAt.RcAt.lists_lengths il il2 (by simpa using hsz) hu0
    | tup qs =>
      obtain ⟨b, its2, eu2, ev2, il2, hs2, hi2⟩ := tup_items I sf r2 e2
      subst eu2
      exact SeqAt.RcAt.list_tuple il il2 hu0
    | dK _ => simp [okd] at hq
    | dT _ => simp [okd] at hq
    | ins _ _ => simp [okd] at hq
  | tup ps =>
    obtain ⟨a, its, eu, ev, il, hs, hi⟩ := tup_items I sf r1 e1
    subst eu
    cases q with
    | non =>
      cases r2; cases e2
      exact SeqAt.RcAt.tuple_none il hu0
    | bl c2 =>
      cases r2; cases e2
      exact SeqAt.RcAt.tuple_bool c2 il hu0
    | int c2 =>
      cases r2; obtain ⟨t2, rfl⟩ := e2
      exact SeqAt.RcAt.tuple_int c2 t2 il hu0
    | str c2 =>
      cases r2; obtain ⟨t2, rfl⟩ := e2
      exact SeqAt.RcAt.tuple_str c2 t2 il hu0
    | lst qs =>
      obtain ⟨b, its2, eu2, ev2, il2, hs2, hi2⟩ := lst_items I sf r2 e2
      subst eu2
      exact SeqAt.RcAt.tuple_list il il2 hu0
    | tup qs =>
      obtain ⟨b, its2, eu2, ev2, il2, hs2, hi2⟩ := tup_items I sf r2 e2
      subst eu2
      have he : ∀ j (h1 : j < its.size) (h2 : j < its2.size), SeqAt.EqAt A.in1 s its[j] its2[j] (pAt ps qs j) := fun j h1 h2 => by
        obtain ⟨x, w1, hx, rx, ex⟩ := hi j h1
        obtain ⟨y, w2, hy, ry, ey⟩ := hi2 j h2
        rw [pAt_get hx hy]
        exact eqAt_P I sf k x y w1 w2 _ _ A.in1 (okd_at (by simpa only [okd] using hp) hx) (okd_at (by simpa only [okd] using hq) hy) rx ex ry ey (by show A.units + 1 + k < cLine; omega)
      rw [peq]
      have main := SeqAt.RcAt.tuples (A := A) (s := s) (e := pAt ps qs) il il2 hu0 he
      by_cases hsz : its.size = its2.size
      · rw [peqA_all (by omega : ps.length = qs.length), ← hs]
        rw [hsz, Nat.min_self, beq_self_eq_true, Bool.and_true, ← hsz] at main
        exact main
      · rw [peqA_len (by omega : ps.length ≠ qs.length)]
        have z : (its.size == its2.size) = false := beq_eq_false_iff_ne.mpr hsz
        rw [z, Bool.and_false] at main
        exact main
    | dK _ => simp [okd] at hq
    | dT _ => simp [okd] at hq
    | ins _ _ => simp [okd] at hq
  | dK _ => simp [okd] at hp
  | dT _ => simp [okd] at hp
  | ins _ _ => simp [okd] at hp
theorem rcNe_P (I : L2.Inv X pins σ H s) (sf : Same F H) (k : Nat) (p q : P) (v w : V) (u z : Value) (A : Around) (hp : okd (k + 1) p = true) (hq : okd (k + 1) q = true) (r1 : Rp X.K cl F p v) (e1 : RelV v u) (r2 : Rp X.K cl F q w) (e2 : RelV w z) (hu : A.units + k + 1 < cLine) : SeqAt.RcNeAt A s u z (!peq p q) := by
  have hu0 : A.units < cLine := by omega
  cases p with
  | non =>
    cases r1; cases e1
    cases q with
    | non =>
      cases r2; cases e2
      exact SeqAt.RcNeAt.none_none
    | bl c2 =>
      cases r2; cases e2
      exact SeqAt.RcNeAt.none_bool c2
    | int c2 =>
      cases r2; obtain ⟨t2, rfl⟩ := e2
      exact SeqAt.RcNeAt.none_int c2 t2
    | str c2 =>
      cases r2; obtain ⟨t2, rfl⟩ := e2
      exact SeqAt.RcNeAt.none_str c2 t2
    | lst qs =>
      obtain ⟨b, its2, eu2, ev2, il2, hs2, hi2⟩ := lst_items I sf r2 e2
      subst eu2
      exact SeqAt.RcNeAt.none_list il2 hu0
    | tup qs =>
      obtain ⟨b, its2, eu2, ev2, il2, hs2, hi2⟩ := tup_items I sf r2 e2
      subst eu2
      exact SeqAt.RcNeAt.none_tuple il2 hu0
    | dK _ => simp [okd] at hq
    | dT _ => simp [okd] at hq
    | ins _ _ => simp [okd] at hq
  | bl c =>
    cases r1; cases e1
    cases q with
    | non =>
      cases r2; cases e2
      exact SeqAt.RcNeAt.bool_none c
    | bl c2 =>
      cases r2; cases e2
      exact SeqAt.RcNeAt.bool_bool c c2
    | int c2 =>
      cases r2; obtain ⟨t2, rfl⟩ := e2
      exact SeqAt.RcNeAt.bool_int c c2 t2
    | str c2 =>
      cases r2; obtain ⟨t2, rfl⟩ := e2
      exact SeqAt.RcNeAt.bool_str c c2 t2
    | lst qs =>
      obtain ⟨b, its2, eu2, ev2, il2, hs2, hi2⟩ := lst_items I sf r2 e2
      subst eu2
      exact SeqAt.RcNeAt.bool_list c il2 hu0
    | tup qs =>
      obtain ⟨b, its2, eu2, ev2, il2, hs2, hi2⟩ := tup_items I sf r2 e2
      subst eu2
      exact SeqAt.RcNeAt.bool_tuple c il2 hu0
    | dK _ => simp [okd] at hq
    | dT _ => simp [okd] at hq
    | ins _ _ => simp [okd] at hq
  | int c =>
    cases r1; obtain ⟨t, rfl⟩ := e1
    cases q with
    | non =>
      cases r2; cases e2
      exact SeqAt.RcNeAt.int_none c t
    | bl c2 =>
      cases r2; cases e2
      exact SeqAt.RcNeAt.int_bool c t c2
    | int c2 =>
      cases r2; obtain ⟨t2, rfl⟩ := e2
      exact SeqAt.RcNeAt.int_int c t c2 t2
    | str c2 =>
      cases r2; obtain ⟨t2, rfl⟩ := e2
      exact SeqAt.RcNeAt.int_str c t c2 t2
    | lst qs =>
      obtain ⟨b, its2, eu2, ev2, il2, hs2, hi2⟩ := lst_items I sf r2 e2
      subst eu2
      exact SeqAt.RcNeAt.int_list c t il2 hu0
    | tup qs =>
      obtain ⟨b, its2, eu2, ev2, il2, hs2, hi2⟩ := tup_items I sf r2 e2
      subst eu2
      exact SeqAt.RcNeAt.int_tuple c t il2 hu0
    | dK _ => simp [okd] at hq
    | dT _ => simp [okd] at hq
    | ins _ _ => simp [okd] at hq
  | str c =>
    cases r1; obtain ⟨t, rfl⟩ := e1
    cases q with
    | non =>
      cases r2; cases e2
      exact SeqAt.RcNeAt.str_none c t
    | bl c2 =>
      cases r2; cases e2
      exact SeqAt.RcNeAt.str_bool c t c2
    | int c2 =>
      cases r2; obtain ⟨t2, rfl⟩ := e2
      exact SeqAt.RcNeAt.str_int c t c2 t2
    | str c2 =>
      cases r2; obtain ⟨t2, rfl⟩ := e2
      exact SeqAt.RcNeAt.str_str c t c2 t2
    | lst qs =>
      obtain ⟨b, its2, eu2, ev2, il2, hs2, hi2⟩ := lst_items I sf r2 e2
      subst eu2
      exact SeqAt.RcNeAt.str_list c t il2 hu0
    | tup qs =>
      obtain ⟨b, its2, eu2, ev2, il2, hs2, hi2⟩ := tup_items I sf r2 e2
      subst eu2
      exact SeqAt.RcNeAt.str_tuple c t il2 hu0
    | dK _ => simp [okd] at hq
    | dT _ => simp [okd] at hq
    | ins _ _ => simp [okd] at hq
  | lst ps =>
    obtain ⟨a, its, eu, ev, il, hs, hi⟩ := lst_items I sf r1 e1
    subst eu
    cases q with
    | non =>
      cases r2; cases e2
      exact SeqAt.RcNeAt.list_none il hu0
    | bl c2 =>
      cases r2; cases e2
      exact SeqAt.RcNeAt.list_bool c2 il hu0
    | int c2 =>
      cases r2; obtain ⟨t2, rfl⟩ := e2
      exact SeqAt.RcNeAt.list_int c2 t2 il hu0
    | str c2 =>
      cases r2; obtain ⟨t2, rfl⟩ := e2
      exact SeqAt.RcNeAt.list_str c2 t2 il hu0
    | lst qs =>
      obtain ⟨b, its2, eu2, ev2, il2, hs2, hi2⟩ := lst_items I sf r2 e2
      subst eu2
      have he : ∀ j (h1 : j < its.size) (h2 : j < its2.size), SeqAt.EqAt A.in1 s its[j] its2[j] (pAt ps qs j) := fun j h1 h2 => by
        obtain ⟨x, w1, hx, rx, ex⟩ := hi j h1
        obtain ⟨y, w2, hy, ry, ey⟩ := hi2 j h2
        rw [pAt_get hx hy]
        exact eqAt_P I sf k x y w1 w2 _ _ A.in1 (okd_at (by simpa only [okd] using hp) hx) (okd_at (by simpa only [okd] using hq) hy) rx ex ry ey (by show A.units + 1 + k < cLine; omega)
      rw [peq]
      by_cases hsz : its.size = its2.size
      · rw [peqA_all (by omega : ps.length = qs.length), ← hs]
        exact SeqAt.RcNeAt.lists il il2 hsz hu0 he
      · rw [peqA_len (by omega : ps.length ≠ qs.length)]
        exact SeqAt.RcNeAt.lists_lengths il il2 (by simpa using hsz) hu0
    | tup qs =>
      obtain ⟨b, its2, eu2, ev2, il2, hs2, hi2⟩ := tup_items I sf r2 e2
      subst eu2
      exact SeqAt.RcNeAt.list_tuple il il2 hu0
    | dK _ => simp [okd] at hq
    | dT _ => simp [okd] at hq
    | ins _ _ => simp [okd] at hq
  | tup ps =>
    obtain ⟨a, its, eu, ev, il, hs, hi⟩ := tup_items I sf r1 e1
    subst eu
    cases q with
    | non =>
      cases r2; cases e2
      exact SeqAt.RcNeAt.tuple_none il hu0
    | bl c2 =>
      cases r2; cases e2
      exact SeqAt.RcNeAt.tuple_bool c2 il hu0
    | int c2 =>
      cases r2; obtain ⟨t2, rfl⟩ := e2
      exact SeqAt.RcNeAt.tuple_int c2 t2 il hu0
    | str c2 =>
      cases r2; obtain ⟨t2, rfl⟩ := e2
      exact SeqAt.RcNeAt.tuple_str c2 t2 il hu0
    | lst qs =>
      obtain ⟨b, its2, eu2, ev2, il2, hs2, hi2⟩ := lst_items I sf r2 e2
      subst eu2
      exact SeqAt.RcNeAt.tuple_list il il2 hu0
    | tup qs =>
      obtain ⟨b, its2, eu2, ev2, il2, hs2, hi2⟩ := tup_items I sf r2 e2
      subst eu2
      have he : ∀ j (h1 : j < its.size) (h2 : j < its2.size), SeqAt.EqAt A.in1 s its[j] its2[j] (pAt ps qs j) := fun j h1 h2 => by
        obtain ⟨x, w1, hx, rx, ex⟩ := hi j h1
        obtain ⟨y, w2, hy, ry, ey⟩ := hi2 j h2
        rw [pAt_get hx hy]
        exact eqAt_P I sf k x y w1 w2 _ _ A.in1 (okd_at (by simpa only [okd] using hp) hx) (okd_at (by simpa only [okd] using hq) hy) rx ex ry ey (by show A.units + 1 + k < cLine; omega)
      rw [peq]
      have main := SeqAt.RcNeAt.tuples (A := A) (s := s) (e := pAt ps qs) il il2 hu0 he
      by_cases hsz : its.size = its2.size
      · rw [peqA_all (by omega : ps.length = qs.length), ← hs]
        rw [hsz, Nat.min_self, beq_self_eq_true, Bool.and_true, ← hsz] at main
        exact main
      · rw [peqA_len (by omega : ps.length ≠ qs.length)]
        have z : (its.size == its2.size) = false := beq_eq_false_iff_ne.mpr hsz
        rw [z, Bool.and_false] at main
        exact main
    | dK _ => simp [okd] at hq
    | dT _ => simp [okd] at hq
    | ins _ _ => simp [okd] at hq
  | dK _ => simp [okd] at hp
  | dT _ => simp [okd] at hp
  | ins _ _ => simp [okd] at hp
/-- what a value is as data, read where it stands -/
abbrev rdP (S : SH) (d : D) : Option P := toP 8 0 S d
@[simp] theorem rdP_p (S : SH) (x : P) : rdP S (.p x) = some x := id rfl
/-- two at once -/
theorem rdP_ok2 {K : PySem.W.Frag} {S : SH} {B : List Nat} {F : Hp} {φ : Nat → Addr} {H : Hp} {d e : D} {x y : P} {v w : V} (s : Sim K cl S B F φ H) (e1 : rdP S d = some x) (e2 : rdP S e = some y) (r1 : DR K cl F φ d v) (r2 : DR K cl F φ e w) : ∃ F', Same F' H ∧ Rp K cl F' x v ∧ Rp K cl F' y w :=
  ⟨_, addF_heap s 0, toP_ok s 0 8 d x v e1 r1, toP_ok s 0 8 e y w e2 r2⟩
def fEq (neg : Bool) (d e : D) (S : SH) : Option (D × SH) := match rdP S d, rdP S e with
  | some x, some y => if okd 40 x = true ∧ okd 40 y = true then some (.p (.bl (if neg = true then !peq x y else peq x y)), S) else none
  | _, _ => none
def rEqP (K : PySem.W.Frag) (cl : ClW) (neg : Bool) : R2 := fun v w H Q => ∃ F x y, Same F H ∧ Rp K cl F x v ∧ Rp K cl F y w ∧ okd 40 x = true ∧ okd 40 y = true ∧ Q (.bl (if neg = true then !peq x y else peq x y)) H
theorem o_eq (hu : X.A.units + 64 < cLine) : OpR X (compareOp .Eq) (rEqP X.K cl false) := by
  intro pins s σ H x y v u Q I rx ry h
  obtain ⟨F, p, q, sf, r1, r2, h1, h2, k⟩ := h
  exact rcAt_P I sf 39 p q x y v u X.A h1 h2 r1 rx r2 ry (by omega) X.prog X.w X.xe _ ⟨.bl _, H, I, rfl, k⟩
theorem o_ne (hu : X.A.units + 64 < cLine) : OpR X (compareOp .NotEq) (rEqP X.K cl true) := by
  intro pins s σ H x y v u Q I rx ry h
  obtain ⟨F, p, q, sf, r1, r2, h1, h2, k⟩ := h
  exact rcNe_P I sf 39 p q x y v u X.A h1 h2 r1 rx r2 ry (by omega) X.prog X.w X.xe _ ⟨.bl _, H, I, rfl, k⟩
theorem d_eq {K : PySem.W.Frag} {neg : Bool} : OpD K cl (fEq neg) (rEqP K cl neg) := by
  intro S B F φ H d1 d2 x y Q s r1 r2 l1 l2 o
  unfold fEq at o
  cases e1 : rdP S d1 with
  | none => rw [e1] at o; obtain ⟨_, _, z, _⟩ := o; cases z
  | some p =>
    cases e2 : rdP S d2 with
    | none => rw [e1, e2] at o; obtain ⟨_, _, z, _⟩ := o; cases z
    | some q =>
      rw [e1, e2] at o
      dsimp only at o
      by_cases h : okd 40 p = true ∧ okd 40 q = true
      · rw [if_pos h] at o
        obtain ⟨F', sf, ra, rb⟩ := rdP_ok2 s e1 e2 r1 r2
        exact ⟨F', p, q, sf, ra, rb, h.1, h.2, o.fin0 rfl s (Rp.bl _) trivial⟩
      · rw [if_neg h] at o; obtain ⟨_, _, z, _⟩ := o; cases z
/-! ### in -/
def fIn (neg : Bool) (d e : D) (S : SH) : Option (D × SH) := match rdP S d, rdP S e with
  | some x, some (.lst ys) => if okd 40 x = true ∧ ys.all (okd 40) = true then some (.p (.bl (if neg = true then !ys.any (fun y => peq y x) else ys.any fun y => peq y x)), S) else none
  | some x, some (.tup ys) => if okd 40 x = true ∧ ys.all (okd 40) = true then some (.p (.bl (if neg = true then !ys.any (fun y => peq y x) else ys.any fun y => peq y x)), S) else none
  | _, _ => none
def rInP (K : PySem.W.Frag) (cl : ClW) (neg : Bool) : R2 := fun v w H Q => ∃ F x ys, Same F H ∧ Rp K cl F x v ∧ (Rp K cl F (.lst ys) w ∨ Rp K cl F (.tup ys) w) ∧ okd 40 x = true ∧ ys.all (okd 40) = true ∧ Q (.bl (if neg = true then !ys.any (fun y => peq y x) else ys.any fun y => peq y x)) H
theorem in_core {neg : Bool} {op : CmpOp} (hu : X.A.units + 65 < cLine)
    (hl : ∀ (s : Shared) (l : Addr) (items : Array Value) (x : Value) (e : Value → Bool) (Q : Value → Shared → Prop), s.heap.IsList l items → (∀ y, y ∈ items → SeqAt.EqAt X.A.in1 s y x (e y)) → Q (.bool (if neg = true then !items.any e else items.any e)) s → wpAny (model X.prog X.w) X.A (compareOp op x (.ref l)) Q X.xe s)
    (ht : ∀ (s : Shared) (l : Addr) (items : Array Value) (x : Value) (e : Value → Bool) (Q : Value → Shared → Prop), s.heap.IsTuple l items → (∀ y, y ∈ items → SeqAt.EqAt X.A.in1 s y x (e y)) → Q (.bool (if neg = true then !items.any e else items.any e)) s → wpAny (model X.prog X.w) X.A (compareOp op x (.ref l)) Q X.xe s) : OpR X (compareOp op) (rInP X.K cl neg) := by
  intro pins s σ H x y v u Q I rx ry h
  obtain ⟨F, p, ys, sf, r1, r2, h1, h2, k⟩ := h
  -- the items' answers, by the value
  classical
  have go : ∀ (its : Array Value), its.size = ys.length → (∀ j (hj : j < its.size), ∃ q w, ys[j]? = some q ∧ Rp X.K cl F q w ∧ RelV w its[j]) →
      ∃ e : Value → Bool, (∀ z, z ∈ its → SeqAt.EqAt X.A.in1 s z v (e z)) ∧ its.any e = ys.any fun q => peq q p := fun its hs hi => by
    have key : ∀ z, z ∈ its → ∃ b, (∀ j (hj : j < its.size), its[j] = z → ∀ q, ys[j]? = some q → peq q p = b) ∧ SeqAt.EqAt X.A.in1 s z v b := fun z hz => by
      obtain ⟨j, hj, ej⟩ := Array.mem_iff_getElem.mp hz
      obtain ⟨q, w, hq, rq, rw'⟩ := hi j hj
      refine ⟨peq q p, fun j2 hj2 e2 q2 hq2 => ?_, ?_⟩
      · obtain ⟨q', w', hq', rq', rw''⟩ := hi j2 hj2
        rw [hq'] at hq2; cases hq2
        rw [e2] at rw''
        rw [ej] at rw'
        have : w' = w := rw''.inj rw'
        subst this
        rw [Rp.uniq I sf 40 _ _ _ (okd_at h2 hq') (okd_at h2 hq) rq' rq]
      · rw [← ej]
        exact eqAt_P I sf 40 q p w x _ _ X.A.in1 (okd_at h2 hq) h1 rq rw' r1 rx (by show X.A.units + 1 + 40 < cLine; omega)
    refine ⟨fun z => if hz : z ∈ its then (key z hz).choose else false, fun z hz => ?_, ?_⟩
    · show SeqAt.EqAt X.A.in1 s z v (if hz : z ∈ its then (key z hz).choose else false)
      rw [dif_pos hz]; exact (key z hz).choose_spec.2
    · rw [Bool.eq_iff_iff]
      simp only [Array.any_eq_true, List.any_eq_true]
      constructor
      · rintro ⟨j, hj, e⟩
        obtain ⟨q, w, hq, _, _⟩ := hi j hj
        have hm : its[j] ∈ its := Array.getElem_mem hj
        rw [dif_pos hm] at e
        exact ⟨q, List.mem_of_getElem? hq, ((key _ hm).choose_spec.1 j hj rfl q hq).trans e⟩
      · rintro ⟨q, hq, e⟩
        obtain ⟨j, hj⟩ := List.getElem?_of_mem hq
        have hjl : j < its.size := by rw [hs]; exact (List.getElem?_eq_some_iff.mp hj).1
        have hm : its[j] ∈ its := Array.getElem_mem hjl
        refine ⟨j, hjl, ?_⟩
        rw [dif_pos hm]
        exact ((key _ hm).choose_spec.1 j hjl rfl q hj).symm.trans e
  rcases r2 with r2 | r2
  · obtain ⟨a, its, eu, ev, il, hs, hi⟩ := lst_items I sf r2 ry
    subst eu
    obtain ⟨e, he, hany⟩ := go its hs hi
    exact hl s a its v e _ il he ⟨.bl (if neg = true then !its.any e else its.any e), H, I, rfl, by rw [hany]; exact k⟩
  · obtain ⟨a, its, eu, ev, il, hs, hi⟩ := tup_items I sf r2 ry
    subst eu
    obtain ⟨e, he, hany⟩ := go its hs hi
    exact ht s a its v e _ il he ⟨.bl (if neg = true then !its.any e else its.any e), H, I, rfl, by rw [hany]; exact k⟩
theorem o_in (hu : X.A.units + 65 < cLine) : OpR X (compareOp .In) (rInP X.K cl false) :=
  in_core hu (fun s l items x e Q h he q => SeqAt.in_listAt e h he (by simpa using q)) (fun s l items x e Q h he q => SeqAt.in_tupleAt e h he (by simpa using q))
theorem d_in {K : PySem.W.Frag} {neg : Bool} : OpD K cl (fIn neg) (rInP K cl neg) := by
  intro S B F φ H d1 d2 x y Q s r1 r2 l1 l2 o
  unfold fIn at o
  split at o
  · rename_i p ys e1 e2
    split at o
    · rename_i h
      obtain ⟨F', sf, ra, rb⟩ := rdP_ok2 s e1 e2 r1 r2
      exact ⟨F', p, ys, sf, ra, .inl rb, h.1, h.2, o.fin0 rfl s (Rp.bl _) trivial⟩
    · obtain ⟨_, _, z, _⟩ := o; cases z
  · rename_i p ys e1 e2
    split at o
    · rename_i h
      obtain ⟨F', sf, ra, rb⟩ := rdP_ok2 s e1 e2 r1 r2
      exact ⟨F', p, ys, sf, ra, .inr rb, h.1, h.2, o.fin0 rfl s (Rp.bl _) trivial⟩
    · obtain ⟨_, _, z, _⟩ := o; cases z
  · obtain ⟨_, _, z, _⟩ := o; cases z
end
end Pv
namespace Pv
open PySem PySem.Spec PyProof.Rows L2
section
variable {X : Cx} {K : PySem.W.Frag} {cl : ClW}
theorem OkE.no {S : SH} {B : List Nat} {F : Hp} {φ : Nat → Addr} {H : Hp} {Q : VK} {p : Prop} (h : OkE K cl S B F φ H none Q) : p := by obtain ⟨_, _, z, _⟩ := h; cases z
theorem drI {F : Hp} {φ : Nat → Addr} {i : Int} {x : V} (h : DR K cl F φ (.p (.int i)) x) : x = .int i := by cases (show Rp K cl F (.int i) x from h); rfl
theorem drS {F : Hp} {φ : Nat → Addr} {i : Str} {x : V} (h : DR K cl F φ (.p (.str i)) x) : x = .str i := by cases (show Rp K cl F (.str i) x from h); rfl
theorem drB {F : Hp} {φ : Nat → Addr} {i : Bool} {x : V} (h : DR K cl F φ (.p (.bl i)) x) : x = .bl i := by cases (show Rp K cl F (.bl i) x from h); rfl
theorem drN {F : Hp} {φ : Nat → Addr} {x : V} (h : DR K cl F φ (.p .non) x) : x = .non := by cases (show Rp K cl F .non x from h); rfl

/-! ### ints -/
/-- two ints under a test, a datum out -/
def fII (c : Int → Int → Bool) (g : Int → Int → P) (d e : D) (S : SH) : Option (D × SH) := match d, e with
  | .p (.int i), .p (.int j) => if c i j = true then some (.p (g i j), S) else none
  | _, _ => none
@[simp] theorem fII_eq (c : Int → Int → Bool) (g : Int → Int → P) (i j : Int) (S : SH) : fII c g (.p (.int i)) (.p (.int j)) S = if c i j = true then some (.p (g i j), S) else none := id rfl
theorem d_II {c : Int → Int → Bool} {C : Int → Int → Prop} {g : Int → Int → P} {g' : Int → Int → V} (hc : ∀ i j, c i j = true → C i j) (hg : ∀ F i j, Rp K cl F (g i j) (g' i j)) : OpD K cl (fII c g) (rI C g') := by
  intro S B F φ H d1 d2 x y Q s r1 r2 l1 l2 o
  unfold fII at o
  split at o
  · rename_i i j
    split at o
    · rename_i h
      exact ⟨i, j, drI r1, drI r2, hc i j h, o.fin0 rfl s (hg F i j) trivial⟩
    · exact o.no
  · exact o.no
theorem d_II0 {g : Int → Int → P} {g' : Int → Int → V} (hg : ∀ F i j, Rp K cl F (g i j) (g' i j)) : OpD K cl (fII (fun _ _ => true) g) (rI0 g') := by
  intro S B F φ H d1 d2 x y Q s r1 r2 l1 l2 o
  obtain ⟨i, j, h1, h2, _, q⟩ := d_II (C := fun _ _ => True) (fun _ _ _ => trivial) hg S B F φ H d1 d2 x y Q s r1 r2 l1 l2 o
  exact ⟨i, j, h1, h2, q⟩
abbrev fSub := fII (fun _ _ => true) fun i j => .int (i - j)
def mulOk (i j : Int) : Bool := decide (i.natAbs < 2 ^ 64) || decide (j.natAbs < 2 ^ 64) || decide (i.natAbs.log2 + j.natAbs.log2 < 1000000)
abbrev fMul := fII mulOk fun i j => .int (i * j)
def divOk (i j : Int) : Bool := decide (0 < j) && decide (j.natAbs.log2 < 9000)
abbrev fDiv := fII divOk fun i j => .int (i / j)
abbrev fMod := fII (fun _ j => decide (0 < j)) fun i j => .int (i % j)
def powOk (i j : Int) : Bool := decide (0 ≤ j) && decide (j ≤ 1000000) && decide (i.natAbs < 2 ^ 64)
abbrev fPow := fII powOk fun i j => .int (i ^ j.toNat)
abbrev fLt := fII (fun _ _ => true) fun i j => .bl (decide (i < j))
abbrev fLe := fII (fun _ _ => true) fun i j => .bl (decide (i ≤ j))
abbrev fGt := fII (fun _ _ => true) fun i j => .bl (decide (j < i))
abbrev fGe := fII (fun _ _ => true) fun i j => .bl (decide (j ≤ i))
theorem d_sub : OpD K cl fSub (rI0 fun i j => .int (i - j)) := d_II0 fun _ _ _ => .int _
theorem op_mulG : OpR X (binaryOp .Mult) (rI (fun i j => CMul i j ∨ CMulW i j) fun i j => .int (i * j)) := opI fun i j _ _ _ _ _ hc q => mul_int q (hc.elim (fun h => h.ok) fun h => h.ok)
theorem mulOk_c {i j : Int} (h : mulOk i j = true) : CMul i j ∨ CMulW i j := by
  unfold mulOk at h
  simp only [Bool.or_eq_true, decide_eq_true_eq] at h
  rcases h with (h | h) | h
  · exact .inl (.inl ⟨by omega, by omega⟩)
  · exact .inl (.inr ⟨by omega, by omega⟩)
  · exact .inr h
theorem d_mul : OpD K cl fMul (rI (fun i j => CMul i j ∨ CMulW i j) fun i j => .int (i * j)) := d_II (fun _ _ h => mulOk_c h) fun _ _ _ => .int _
theorem d_div : OpD K cl fDiv (rI CDivW fun i j => .int (i / j)) := d_II (fun _ _ h => by
  unfold divOk at h; simp only [Bool.and_eq_true, decide_eq_true_eq] at h; exact h) fun _ _ _ => .int _
theorem d_mod : OpD K cl fMod (rI (fun _ j => 0 < j) fun i j => .int (i % j)) := d_II (fun _ _ h => of_decide_eq_true h) fun _ _ _ => .int _
theorem d_pow : OpD K cl fPow (rI CPow fun i j => .int (i ^ j.toNat)) := d_II (fun _ _ h => by
  unfold powOk at h; simp only [Bool.and_eq_true, decide_eq_true_eq] at h; exact ⟨h.1.1, h.1.2, h.2⟩) fun _ _ _ => .int _
theorem d_lt : OpD K cl fLt (rI0 fun i j => .bl (decide (i < j))) := d_II0 fun _ _ _ => .bl _
theorem d_gt : OpD K cl fGt (rI0 fun i j => .bl (decide (j < i))) := d_II0 fun _ _ _ => .bl _
theorem d_ge : OpD K cl fGe (rI0 fun i j => .bl (decide (j ≤ i))) := d_II0 fun _ _ _ => .bl _
def fNeg (d : D) (S : SH) : Option (D × SH) := match d with | .p (.int i) => some (.p (.int (-i)), S) | _ => none
theorem d_neg : UnD K cl fNeg (rU fun i => .int (-i)) := by
  intro S B F φ H d x Q s r l o
  unfold fNeg at o
  split at o
  · exact ⟨_, drI r, o.fin0 rfl s (Rp.int _) trivial⟩
  · exact o.no

/-! ### + -/
def fAdd (live : Bool) (d e : D) (S : SH) : Option (D × SH) := match d, e with
  | .p (.int i), .p (.int j) => some (.p (.int (i + j)), S)
  | .p (.str a), .p (.str b) => if a.length + b.length ≤ sizeLine then some (.p (.str (a ++ b)), S) else none
  | .p (.tup a), .p (.tup b) => if a.length + b.length ≤ sizeLine then some (.p (.tup (a ++ b)), S) else none
  | d, e => match asL d S, asL e S with
    | some a, some b => newL live (a ++ b) S
    | _, _ => none
def rCatL (K : PySem.W.Frag) : R2 := fun x y H Q => ∃ l b xs zs, x = .ref l ∧ y = .ref b ∧ SqL K H l xs ∧ SqL K H b zs ∧ xs.length + zs.length ≤ sizeLine ∧ ∀ p, H p = none → Q (.ref p) (upd H p (.lst (xs ++ zs)))
open PySem.AutoSeq1 (wpAny_loadPart') in
open PySem.MeetsSeq PySem.MeetsSeq2 PySem.MeetsSeq3 in
theorem list_add_any (l : Addr) (items : Array Value) (n : Nat) (b : Addr) (items2 : Array Value) (n2 : Nat) (dd dd2 : Option Addr) (sl sl2 : Array (Option Value)) (hz : items.size + items2.size ≤ sizeLine) :
    Meets (Builtin.«list.__add__» ⟨[.ref l, .ref b], []⟩) (fun _ R s => s.heap.get? l = some { cls := .type "list", dict := dd, data := .seq items n, slots := sl } ∧ s.heap.get? b = some { cls := .type "list", dict := dd2, data := .seq items2 n2, slots := sl2 } ∧
      R (.ok (.ret (Value.ref s.heap.objs.size))) { s with heap := s.heap.push { cls := Value.type "list", data := Data.seq (items ++ items2) }, toks := s.toks }) :=
  .of_wp fun prog w A R s h => by
    obtain ⟨hp, g, d, tk, os⟩ := s
    obtain ⟨hl, hb, h⟩ := h
    have f1 := AutoSeq1.sub_list_list
    have f2 := AutoSeq1.sub_tuple_list
    wp_walk using wpAny_loadPart' hl, wpAny_loadPart' hb
    exact ⟨_, rfl, h⟩
theorem op_catL : OpR X (binaryOp .Add) (rCatL X.K) := by
  intro pins s σ H x y v u Q I rx ry h
  obtain ⟨l, b, xs, zs, rfl, rfl, hH, hB, hz, q⟩ := h
  cases rx
  cases ry
  obtain ⟨its, r, ⟨o1, n1, e1, c1, d1, t1⟩, _⟩ := I.list hH
  obtain ⟨its2, r2, ⟨o2, n2, e2, c2, d2, t2⟩, _⟩ := I.list hB
  have hl := r.length
  have hl2 := r2.length
  obtain ⟨_, dd1, _, sl1⟩ := o1
  obtain ⟨_, dd2, _, sl2⟩ := o2
  simp only at c1 d1 t1 c2 d2 t2
  subst c1 d1 t1 c2 d2 t2
  refine PySem.concat_meets ⟨_, e1, rfl⟩ ⟨_, e2, rfl⟩ PySem.noFill_list_add PySem.seq_list_add F.slot_list_add F.entry_list_add (F.args_list_add_2 _ _) (list_add_any l its.toArray n1 b its2.toArray n2 _ _ _ _ (by rw [List.size_toArray, List.size_toArray]; omega)) ⟨e1, e2, ?_⟩
  have ea : its.toArray ++ its2.toArray = (its ++ its2).toArray := by simp
  rw [ea]
  exact ⟨.ref _, _, I.lnew (t' := s.toks) (r.append r2) (by rw [List.length_append]; omega), rfl, q _ I.fresh⟩
def rAddG (K : PySem.W.Frag) : R2 := fun x y H Q => rI0 (fun i j => .int (i + j)) x y H Q ∨ (∃ i j, x = .str i ∧ y = .str j ∧ i.length + j.length ≤ sizeLine ∧ Q (.str (i ++ j)) H) ∨ rCatA K x y H Q ∨ rCatL K x y H Q
theorem o_add : OpR X (binaryOp .Add) (rAddG X.K) := op_add.or (op_add_str.or (op_catA.or op_catL))
theorem d_add {live : Bool} : OpD K cl (fAdd live) (rAddG K) := by
  intro S B F φ H d1 d2 x y Q s r1 r2 l1 l2 o
  unfold fAdd at o
  split at o
  · exact .inl ⟨_, _, drI r1, drI r2, o.fin0 rfl s (Rp.int _) trivial⟩
  · split at o
    · rename_i h
      exact .inr (.inl ⟨_, _, drS r1, drS r2, h, o.fin0 rfl s (Rp.str _) trivial⟩)
    · exact o.no
  · rename_i a b
    split at o
    · rename_i h
      cases (show Rp K cl F (.tup a) x from r1) with
      | @tup p _ vs q1 t1 =>
        cases (show Rp K cl F (.tup b) y from r2) with
        | @tup p2 _ us q2 t2 =>
          have e1 := t1.len
          have e2 := t2.len
          have al : ∀ {ps qs : List P} {vs us : List V} {F : Hp}, RpA K cl F ps vs → RpA K cl F qs us → RpA K cl F (ps ++ qs) (vs ++ us) := by
            intro ps
            induction ps with
            | nil => intro qs vs us F a b; cases a; exact b
            | cons p ps ih => intro qs vs us F a b; cases a with | cons a a2 => exact .cons a (ih a2 b)
          refine .inr (.inr (.inl ⟨p, p2, vs, us, rfl, rfl, SqT.mono s.le q1, SqT.mono s.le q2, by omega, fun h1 => ?_, fun h1 h2 => ?_, fun h1 h2 r hr => ?_⟩))
          · subst h1
            cases t1
            exact o.fin0 rfl s (Rp.tup q2 t2) trivial
          · subst h2
            cases t2
            rw [List.append_nil] at o
            exact o.fin0 rfl s (Rp.tup q1 t1) trivial
          · obtain ⟨s1, x1⟩ := s.frz (H' := upd H r (.tup (vs ++ us))) (Same.new (Same.refl H) hr) hr upd_same
            exact o.fin rfl s1 x1 (Rp.tup (.inl (.inl upd_same)) (RpA.mono x1.fz (al t1 t2))) trivial
    · exact o.no
  · split at o
    · rename_i a b e1 e2
      obtain ⟨p, vs, rfl, q1, t1, m1⟩ := asL_ok s e1 r1 l1
      obtain ⟨p2, us, rfl, q2, t2, m2⟩ := asL_ok s e2 r2 l2
      obtain ⟨hz, k⟩ := newL_ok1 o s (DRA.append t1 t2) fun z hz => (List.mem_append.mp hz).elim (m1 z) (m2 z)
      exact .inr (.inr (.inr ⟨p, p2, vs, us, rfl, rfl, q1, q2, by rw [List.length_append] at hz; exact hz, k⟩))
    · exact o.no

/-! ### is -/
def isNon : D → Bool
  | .p .non => true
  | _ => false
def isBl (b : Bool) : D → Bool
  | .p (.bl c) => c == b
  | _ => false
def fIs (neg : Bool) (d e : D) (S : SH) : Option (D × SH) := match e with
  | .p .non => some (.p (.bl (if neg = true then !isNon d else isNon d)), S)
  | .p (.bl b) => some (.p (.bl (if neg = true then !isBl b d else isBl b d)), S)
  | _ => none
theorem RelV.bl_iff {x : V} {v : Value} (b : Bool) (r : RelV x v) : (v == Value.bool b) = decide (x = .bl b) := by
  cases x <;> first
    | (obtain ⟨t, rfl⟩ := r; rfl)
    | (cases r; rfl)
    | skip
  cases r
  rename_i c
  cases b <;> cases c <;> rfl
theorem plain_bool {x : V} {v : Value} (b : Bool) (r : RelV x v) : plainIs v (.bool b) = true := by
  cases x <;> first
    | (obtain ⟨t, rfl⟩ := r; rfl)
    | (cases r; rfl)
def rIsG (neg : Bool) : R2 := fun x y H Q => (y = .non ∧ Q (.bl (if neg = true then !decide (x = .non) else decide (x = .non))) H) ∨ ∃ b, y = .bl b ∧ Q (.bl (if neg = true then !decide (x = .bl b) else decide (x = .bl b))) H
theorem o_is : OpR X (compareOp .Is) (rIsG false) := by
  intro pins s σ H x y v u Q I rx ry h
  rcases h with ⟨rfl, q⟩ | ⟨b, rfl, q⟩
  · exact op_isN pins s σ H x .non v u Q I rx ry ⟨rfl, q⟩
  · cases (show u = Value.bool b from ry)
    exact wpAny_is_plain (plain_bool b rx) (fin_bl I (by rw [if_neg Bool.false_ne_true] at q; exact q) (RelV.bl_iff b rx).symm)
theorem o_isnot : OpR X (compareOp .IsNot) (rIsG true) := by
  intro pins s σ H x y v u Q I rx ry h
  rcases h with ⟨rfl, q⟩ | ⟨b, rfl, q⟩
  · exact op_notN pins s σ H x .non v u Q I rx ry ⟨rfl, q⟩
  · cases (show u = Value.bool b from ry)
    exact wpAny_isNot_plain (plain_bool b rx) (fin_bl I (by rw [if_pos rfl] at q; exact q) (by rw [RelV.bl_iff b rx]))
theorem isNon_ok {F : Hp} {φ : Nat → Addr} {d : D} {x : V} (r : DR K cl F φ d x) : isNon d = decide (x = .non) := by
  cases d with
  | ref n => cases (show x = .ref (φ n) from r); rfl
  | p y =>
    have r : Rp K cl F y x := r
    cases r <;> rfl
theorem isBl_ok {F : Hp} {φ : Nat → Addr} {d : D} {x : V} (b : Bool) (r : DR K cl F φ d x) : isBl b d = decide (x = .bl b) := by
  cases d with
  | ref n => cases (show x = .ref (φ n) from r); rfl
  | p y =>
    have r : Rp K cl F y x := r
    cases r <;> first | rfl | (rename_i c; cases b <;> cases c <;> rfl)
theorem d_is {neg : Bool} : OpD K cl (fIs neg) (rIsG neg) := by
  intro S B F φ H d1 d2 x y Q s r1 r2 l1 l2 o
  unfold fIs at o
  split at o
  · refine .inl ⟨drN r2, ?_⟩
    rw [← isNon_ok r1]
    exact o.fin0 rfl s (Rp.bl _) trivial
  · rename_i b
    refine .inr ⟨b, drB r2, ?_⟩
    rw [← isBl_ok b r1]
    exact o.fin0 rfl s (Rp.bl _) trivial
  · exact o.no

/-! ### built-in functions -/
theorem k_callB {x : Str} {p pos : Pos} {e : Expr} {es : List Expr} {m : MA} {id : String} {f : MF} {r : List V → Hp → VK → Prop} (hd : CallD X.K cl f r) (hc : CallR X (.builtin id) r) (hg : Gl X x) (hm : X.mg x = none) (hv : bootBuiltins x = some (.builtin id)) (ha : PA X (e :: es) (LA X.K cl m)) (hn : x ≠ "__name__" := by decide) (hdb : (x == ("__debug__" : Str)) = false := by decide)
    (he : starEach (e :: es) X.env = (false, eval e X.env) :: starEach es X.env := by rfl) (hpl : (backTo pos (starEach es X.env)).any (·.1) = false := by rfl) : PE X (.Call (.Name x p) (e :: es) [] pos) (LE X.K cl (dCall f m)) :=
  (pe_callB hc hg hm hv ha hn hdb he hpl).imp fun _ _ _ q => e_call hd q
theorem k_callT {x : Str} {p pos : Pos} {e : Expr} {es : List Expr} {m : MA} {T : String} {f : MF} {r : List V → Hp → VK → Prop} (hd : CallD X.K cl f r) (hc : CallR X (.type T) r) (hg : Gl X x) (hm : X.mg x = none) (hv : bootBuiltins x = some (.type T)) (ha : PA X (e :: es) (LA X.K cl m)) (hn : x ≠ "__name__" := by decide) (hdb : (x == ("__debug__" : Str)) = false := by decide)
    (he : starEach (e :: es) X.env = (false, eval e X.env) :: starEach es X.env := by rfl) (hpl : (backTo pos (starEach es X.env)).any (·.1) = false := by rfl) : PE X (.Call (.Name x p) (e :: es) [] pos) (LE X.K cl (dCall f m)) :=
  (pe_callTy hc hg hm hv ha hn hdb he hpl).imp fun _ _ _ q => e_call hd q
theorem dra1 {F : Hp} {φ : Nat → Addr} {d : D} {xs : List V} (r : DRA K cl F φ [d] xs) : ∃ x, xs = [x] ∧ DR K cl F φ d x := by
  cases r with | cons a b => cases b; exact ⟨_, rfl, a⟩
def fLen : MF := fun ds S => match ds with
  | [.p (.str z)] => if z.length ≤ sizeLine then some (.p (.int z.length), S) else none
  | [d] => match asQ d S with | some xs => some (.p (.int xs.length), S) | none => none
  | _ => none
def rLenG (K : PySem.W.Frag) : List V → Hp → VK → Prop := fun xs H Q => (∃ z, xs = [.str z] ∧ z.length ≤ sizeLine ∧ Q (.int z.length) H) ∨ ∃ p ys, xs = [.ref p] ∧ (SqL K H p ys ∨ SqT K H p ys) ∧ Q (.int ys.length) H
theorem c_len : CallR X (.builtin "len") (rLenG X.K) := call_len_str.or call_len_seq
theorem d_len : CallD K cl fLen (rLenG K) := by
  intro S B F φ H ds xs Q s r l o
  unfold fLen at o
  split at o
  · split at o
    · rename_i z h
      obtain ⟨x, rfl, rx⟩ := dra1 r
      exact .inl ⟨z, by rw [drS rx], h, o.fin0 rfl s (Rp.int _) trivial⟩
    · exact o.no
  · split at o
    · rename_i d hd ys e
      obtain ⟨x, rfl, rx⟩ := dra1 r
      obtain ⟨a, vs, rfl, q, t, _⟩ := asQ_ok s e rx (l _ List.mem_cons_self)
      exact .inr ⟨a, vs, rfl, q, by rw [← t.length]; exact o.fin0 rfl s (Rp.int _) trivial⟩
    · exact o.no
  · exact o.no
def fList (live : Bool) : MF := fun ds S => match ds with
  | [d] => match asQ d S with | some xs => newL live xs S | none => none
  | _ => none
def rListG (K : PySem.W.Frag) : List V → Hp → VK → Prop := fun xs H Q => ∃ p ys, xs = [.ref p] ∧ (SqL K H p ys ∨ SqT K H p ys) ∧ ∀ l, H l = none → Q (.ref l) (upd H l (.lst ys))
theorem c_list : CallR X (.type "list") (rListG X.K) := call_list_of
theorem d_list {live : Bool} : CallD K cl (fList live) (rListG K) := by
  intro S B F φ H ds xs Q s r l o
  unfold fList at o
  split at o
  · split at o
    · rename_i d ys e
      obtain ⟨x, rfl, rx⟩ := dra1 r
      obtain ⟨a, vs, rfl, q, t, m⟩ := asQ_ok s e rx (l _ List.mem_cons_self)
      exact ⟨a, vs, rfl, q, (newL_ok1 o s t m).2⟩
    · exact o.no
  · exact o.no
def fTuple : MF := fun ds S => match ds with
  | [.p (.tup ps)] => some (.p (.tup ps), S)
  | [d] => match asL d S with | some xs => newT xs S | none => none
  | _ => none
def rTupG (K : PySem.W.Frag) : List V → Hp → VK → Prop := fun xs H Q => ∃ p ys, xs = [.ref p] ∧ ((SqL K H p ys ∧ ∀ l, H l = none → Q (.ref l) (upd H l (.tup ys))) ∨ (SqT K H p ys ∧ Q (.ref p) H))
theorem c_tuple : CallR X (.type "tuple") (rTupG X.K) := call_tuple_of
theorem d_tuple : CallD K cl fTuple (rTupG K) := by
  intro S B F φ H ds xs Q s r l o
  unfold fTuple at o
  split at o
  · rename_i ps
    obtain ⟨x, rfl, rx⟩ := dra1 r
    cases (show Rp K cl F (.tup ps) x from rx) with
    | tup q t => exact ⟨_, _, rfl, .inr ⟨SqT.mono s.le q, o.fin0 rfl s (Rp.tup q t) trivial⟩⟩
  · split at o
    · rename_i d hd ys e
      obtain ⟨x, rfl, rx⟩ := dra1 r
      obtain ⟨a, vs, rfl, q, t, m⟩ := asL_ok s e rx (l _ List.mem_cons_self)
      exact ⟨a, vs, rfl, .inl ⟨q, (newT_ok o s t).2⟩⟩
    · exact o.no
  · exact o.no
def fInt : MF := fun ds S => match ds with
  | [.p (.int i)] => some (.p (.int i), S)
  | [.p (.bl b)] => some (.p (.int (if b = true then 1 else 0)), S)
  | _ => none
def rIntG : List V → Hp → VK → Prop := fun xs H Q => (∃ i, xs = [.int i] ∧ Q (.int i) H) ∨ ∃ k, xs = [.bl k] ∧ Q (.int (if k then 1 else 0)) H
theorem c_int : CallR X (.type "int") rIntG := call_int1
theorem d_int : CallD K cl fInt rIntG := by
  intro S B F φ H ds xs Q s r l o
  unfold fInt at o
  split at o
  · obtain ⟨x, rfl, rx⟩ := dra1 r
    exact .inl ⟨_, by rw [drI rx], o.fin0 rfl s (Rp.int _) trivial⟩
  · obtain ⟨x, rfl, rx⟩ := dra1 r
    exact .inr ⟨_, by rw [drB rx], o.fin0 rfl s (Rp.int _) trivial⟩
  · exact o.no
def fAbs : MF := fun ds S => match ds with
  | [.p (.int i)] => some (.p (.int (if i < 0 then -i else i)), S)
  | _ => none
def rAbsG : List V → Hp → VK → Prop := fun xs H Q => ∃ i, xs = [.int i] ∧ Q (.int (if i < 0 then -i else i)) H
theorem c_abs : CallR X (.builtin "abs") rAbsG := call_abs
theorem d_abs : CallD K cl fAbs rAbsG := by
  intro S B F φ H ds xs Q s r l o
  unfold fAbs at o
  split at o
  · obtain ⟨x, rfl, rx⟩ := dra1 r
    exact ⟨_, by rw [drI rx], o.fin0 rfl s (Rp.int _) trivial⟩
  · exact o.no
/-- max(i, j), min(i, j) -/
def fMax : MF := fun ds S => match ds with
  | [.p (.int i), .p (.int j)] => some (.p (.int (if j > i then j else i)), S)
  | _ => none
def fMin : MF := fun ds S => match ds with
  | [.p (.int i), .p (.int j)] => some (.p (.int (if j < i then j else i)), S)
  | _ => none
def fStr : MF := fun ds S => match ds with
  | [.p (.int i)] => if i.natAbs.log2 < 1920 then some (.p (.str (toString i)), S) else none
  | _ => none
def rStrG : List V → Hp → VK → Prop := fun xs H Q => ∃ i, xs = [.int i] ∧ i.natAbs.log2 < 1920 ∧ Q (.str (toString i)) H
theorem c_str : CallR X (.type "str") rStrG := call_str_int
theorem d_str : CallD K cl fStr rStrG := by
  intro S B F φ H ds xs Q s r l o
  unfold fStr at o
  split at o
  · split at o
    · rename_i i h
      obtain ⟨x, rfl, rx⟩ := dra1 r
      exact ⟨i, by rw [drI rx], h, o.fin0 rfl s (Rp.str _) trivial⟩
    · exact o.no
  · exact o.no
/-- ints out of a list of data -/
def intsOf : List D → Option (List Int)
  | [] => some []
  | .p (.int i) :: r => (intsOf r).map (i :: ·)
  | _ => none
@[simp] theorem intsOf_map (ns : List Int) : intsOf (ns.map fun n => D.p (.int n)) = some ns := by
  induction ns with
  | nil => rfl
  | cons x r ih => simp [intsOf, ih]
theorem intsOf_of : ∀ {ds : List D} {ns : List Int} {F : Hp} {φ : Nat → Addr} {vs : List V}, intsOf ds = some ns → DRA K cl F φ ds vs → vs = ns.map V.int
  | [], ns, F, φ, vs, h, r => by cases h; cases r; rfl
  | .p (.int i) :: r, ns, F, φ, vs, h, q => by
    unfold intsOf at h
    cases e : intsOf r with
    | none => rw [e] at h; cases h
    | some ms =>
      rw [e] at h; cases h
      cases q with
      | cons a b => rw [List.map_cons, ← intsOf_of e b, drI a]
  | .ref n :: r, _, _, _, _, h, _ => by cases h
  | .p .non :: r, _, _, _, _, h, _ => by cases h
  | .p (.bl _) :: r, _, _, _, _, h, _ => by cases h
  | .p (.str _) :: r, _, _, _, _, h, _ => by cases h
  | .p (.tup _) :: r, _, _, _, _, h, _ => by cases h
  | .p (.lst _) :: r, _, _, _, _, h, _ => by cases h
  | .p (.dK _) :: r, _, _, _, _, h, _ => by cases h
  | .p (.dT _) :: r, _, _, _, _, h, _ => by cases h
  | .p (.ins _ _) :: r, _, _, _, _, h, _ => by cases h
def fSum : MF := fun ds S => match ds with
  | [d] => match asQ d S with | some xs => (match intsOf xs with | some ns => some (.p (.int ns.sum), S) | none => none) | none => none
  | _ => none
def rSumG (K : PySem.W.Frag) : List V → Hp → VK → Prop := fun vs H Q => ∃ (a : Addr) (ns : List Int), vs = [V.ref a] ∧ (SqL K H a (ns.map V.int) ∨ SqT K H a (ns.map V.int)) ∧ Q (.int ns.sum) H
theorem c_sum (hc : X.calm = true) : CallR X (.builtin "sum") (rSumG X.K) := by
  intro pins s σ H vs us Q I r h
  obtain ⟨a, ns, rfl, hs | hs, q⟩ := h
  · exact cr_sum hc pins s σ H _ us Q I r ⟨a, ns, rfl, hs, q⟩
  · obtain ⟨its, rv, ht, _⟩ := I.tuple hs
    rw [Vals.ref1 r]
    obtain ⟨xs, e⟩ := rv.ints.allInts.items
    have hn : numsOf (intItems xs).toList = ns := by rw [← e]; exact rv.ints.numsOf
    rw [nums_intItems] at hn
    have ht2 : s.heap.IsTuple a (intItems xs) := by rw [← e]; exact ht
    refine PySem.W.ktm_sumG (I.ok.hd hc) ht2 fun h' tk t' hk => ⟨.int ns.sum, H, I.kept hk, ⟨t', ?_⟩, q⟩
    rw [preSum_eq, List.take_of_length_le (by simp), hn]
theorem d_sum : CallD K cl fSum (rSumG K) := by
  intro S B F φ H ds xs Q s r l o
  unfold fSum at o
  split at o
  · split at o
    · rename_i d ys e
      split at o
      · rename_i ns e2
        obtain ⟨x, rfl, rx⟩ := dra1 r
        obtain ⟨a, vs, rfl, q, t, m⟩ := asQ_ok s e rx (l _ List.mem_cons_self)
        have := intsOf_of e2 t
        subst this
        exact ⟨a, ns, rfl, q, o.fin0 rfl s (Rp.int _) trivial⟩
      · exact o.no
    · exact o.no
  · exact o.no
end
end Pv
namespace Pv
open PySem PySem.Spec PyProof.Rows L2
section
variable {X : Cx} {K : PySem.W.Frag} {cl : ClW}
/-! ### o[i], o[i:j] -/
def fIx (d e : D) (S : SH) : Option (D × SH) := match d, e with
  | .p (.str z), .p (.int i) => if z.length ≤ sizeLine then (match atI z.cps.toList i with | some c => some (.p (.str ⟨#[c]⟩), S) | none => none) else none
  | d, .p (.int i) => match asQ d S with
    | some xs => (match atI xs i with | some x => some (x, S) | none => none)
    | none => none
  | _, _ => none
theorem atI_dra {F : Hp} {φ : Nat → Addr} {ds : List D} {vs : List V} {i : Int} {d : D} (r : DRA K cl F φ ds vs) (e : atI ds i = some d) : ∃ v, atI vs i = some v ∧ DR K cl F φ d v ∧ d ∈ ds := by
  unfold atI at e ⊢
  rw [← r.length]
  cases h : ixN ds.length i with
  | none => rw [h] at e; cases e
  | some j =>
    rw [h] at e
    obtain ⟨v, hv, rv⟩ := r.get e
    exact ⟨v, hv, rv, List.mem_of_getElem? e⟩
theorem o_ix : IxR X (rIx X.K) := ix_seq
theorem d_ix : OpD K cl fIx (rIx K) := by
  intro S B F φ H d1 d2 x y Q s r1 r2 l1 l2 o
  unfold fIx at o
  split at o
  · rename_i z i
    split at o
    · rename_i hz
      split at o
      · rename_i c e
        exact .inr (.inr ⟨z, i, c, drS r1, drI r2, hz, e, o.fin0 rfl s (Rp.str _) trivial⟩)
      · exact o.no
    · exact o.no
  · rename_i i _
    split at o
    · rename_i xs e
      split at o
      · rename_i d e2
        obtain ⟨a, vs, rfl, q, t, m⟩ := asQ_ok s e r1 l1
        obtain ⟨v, hv, rv, hm⟩ := atI_dra t e2
        have fin := o.fin0 rfl s rv (m d hm)
        rcases q with q | q
        · exact .inl ⟨a, vs, i, v, rfl, drI r2, q, hv, fin⟩
        · exact .inr (.inl ⟨a, vs, i, v, rfl, drI r2, q, hv, fin⟩)
      · exact o.no
    · exact o.no
  · exact o.no
theorem k_ix {a b : Expr} {ma mb : ME} {pos : Pos} (ha : PE X a (LE X.K cl ma)) (hb : PE X b (LE X.K cl mb)) (hs : PlainIx b := by exact fun _ _ => rfl) : PE X (.Subscript a b pos) (LE X.K cl (dOp fIx ma mb)) :=
  (pe_ix o_ix ha hb hs).imp fun _ _ _ q => e_op d_ix q
/-- the items between two places -/
def cutD {α : Type} (xs : List α) (lo hi : Option Int) : List α := (xs.drop (HT.sIx xs.length 0 lo)).take (HT.sIx xs.length xs.length hi - HT.sIx xs.length 0 lo)
def fSl (live : Bool) (d : D) (lo hi : Option Int) (S : SH) : Option (D × SH) := match d with
  | .p (.str z) => if z.length ≤ sizeLine then some (.p (.str (L2.cutS z lo hi)), S) else none
  | .p (.tup ps) => some (.p (.tup (cutD ps lo hi)), S)
  | d => match asL d S with
    | some xs => newL live (cutD xs lo hi) S
    | none => none
def dSl (live : Bool) (a : ME) (lo hi : Option ME) : ME := fun σ S => bnd (a σ S) fun d S1 =>
  bnd (match lo with | some m => bnd (m σ S1) fun x S2 => (match x with | .p (.int i) => some (some i, S2) | _ => none) | none => some (none, S1)) fun l S2 =>
  bnd (match hi with | some m => bnd (m σ S2) fun x S3 => (match x with | .p (.int i) => some (some i, S3) | _ => none) | none => some (none, S2)) fun h S3 => fSl live d l h S3
/-- a part of a slice -/
def LO (K : PySem.W.Frag) (cl : ClW) : Option ME → TO
  | some m => tPart (LE K cl m)
  | none => tNoPart
theorem o_none : PO X none (LO X.K cl none) := po_none
theorem o_some {e : Expr} {m : ME} (h : PE X e (LE X.K cl m)) : PO X (some e) (LO X.K cl (some m)) := po_some h
def rSlG (K : PySem.W.Frag) : V → Option Int → Option Int → Hp → VK → Prop := fun x lo hi H Q => rSlL K x lo hi H Q ∨ rSlA K x lo hi H Q ∨ rSlS x lo hi H Q
theorem o_sl : SlR X (rSlG X.K) := sl_list.or (sl_tupA.or sl_str)
theorem cut_dra {F : Hp} {φ : Nat → Addr} {ds : List D} {vs : List V} (r : DRA K cl F φ ds vs) (lo hi : Option Int) : DRA K cl F φ (cutD ds lo hi) (cutV vs lo hi) := by
  have td : ∀ {ds : List D} {vs : List V} (n : Nat), DRA K cl F φ ds vs → DRA K cl F φ (ds.drop n) (vs.drop n) := by
    intro ds vs n r
    induction n generalizing ds vs with
    | zero => exact r
    | succ n ih => cases r with | nil => exact .nil | cons a b => exact ih b
  have tt : ∀ {ds : List D} {vs : List V} (n : Nat), DRA K cl F φ ds vs → DRA K cl F φ (ds.take n) (vs.take n) := by
    intro ds vs n r
    induction n generalizing ds vs with
    | zero => exact .nil
    | succ n ih => cases r with | nil => exact .nil | cons a b => exact .cons a (ih b)
  unfold cutD cutV
  rw [r.length]
  exact tt _ (td _ r)
theorem cut_mem {α : Type} {xs : List α} {lo hi : Option Int} {x : α} (h : x ∈ cutD xs lo hi) : x ∈ xs := List.mem_of_mem_drop (List.mem_of_mem_take h)
theorem cut_map {α β : Type} (f : α → β) (xs : List α) (lo hi : Option Int) : cutD (xs.map f) lo hi = (cutD xs lo hi).map f := by
  unfold cutD
  rw [List.length_map, List.map_take, List.map_drop]
theorem d_sl {live : Bool} {S : SH} {B : List Nat} {F : Hp} {φ : Nat → Addr} {H : Hp} {d : D} {x : V} {lo hi : Option Int} {Q : VK} (s : Sim K cl S B F φ H) (r : DR K cl F φ d x) (l : d.lt S.len) (o : OkE K cl S B F φ H (fSl live d lo hi S) Q) : rSlG K x lo hi H Q := by
  unfold fSl at o
  split at o
  · split at o
    · rename_i z hz
      exact .inr (.inr ⟨z, drS r, hz, o.fin0 rfl s (Rp.str _) trivial⟩)
    · exact o.no
  · rename_i ps
    cases (show Rp K cl F (.tup ps) x from r) with
    | @tup a _ vs q t =>
      have tr : DRA K cl F φ (ps.map D.p) vs := t.dra
      have hl := t.len
      refine .inr (.inl ⟨a, vs, rfl, SqT.mono s.le q, fun h => ?_, fun h p hp => ?_⟩)
      · have e : cutD ps lo hi = ps := by
          unfold cutD
          rw [hl, h.1, h.2, List.drop_zero, List.take_of_length_le (by omega)]
        rw [e] at o
        exact o.fin0 rfl s (Rp.tup q t) trivial
      · obtain ⟨s1, x1⟩ := s.frz (H' := upd H p (.tup (cutV vs lo hi))) (Same.new (Same.refl H) hp) hp upd_same
        have := cut_dra tr lo hi
        rw [cut_map] at this
        exact o.fin rfl s1 x1 (Rp.tup (.inl (.inl upd_same)) (RpA.mono x1.fz this.rpa)) trivial
  · split at o
    · rename_i xs e
      obtain ⟨a, vs, rfl, q, t, m⟩ := asL_ok s e r l
      exact .inl ⟨a, vs, rfl, q, (newL_ok1 o s (cut_dra t lo hi) fun z hz => m z (cut_mem hz)).2⟩
    · exact o.no
theorem k_sl {live : Bool} {e : Expr} {lo hi : Option Expr} {me : ME} {ml mh : Option ME} {pos p2 : Pos} (he : PE X e (LE X.K cl me)) (hl : PO X lo (LO X.K cl ml)) (hh : PO X hi (LO X.K cl mh)) : PE X (.Subscript e (.Slice lo hi none p2) pos) (LE X.K cl (dSl live me ml mh)) := by
  refine (pe_slice o_sl he hl hh).imp fun σ H Q q => ?_
  obtain ⟨σd, S, B, F, φ, s, rs, o⟩ := q
  obtain ⟨d, S1, e1, o1⟩ := okE_bnd o
  obtain ⟨l, S2, e2, o2⟩ := okE_bnd o1
  obtain ⟨h, S3, e3, o3⟩ := okE_bnd o2
  refine LE.then_ s rs e1 fun F1 φ1 H1 x s1 x1 rs1 dr1 l1 => ?_
  have part : ∀ (m : Option ME) (S4 S5 : SH) (B : List Nat) (F4 : Hp) (φ4 : Nat → Addr) (H4 : Hp) (k : Option Int) (R : Option Int → Hp → Prop), Sim X.K cl S4 B F4 φ4 H4 → RS X.K cl F4 φ4 S4.len σd σ →
      (match m with | some m => bnd (m σd S4) fun x S2 => (match x with | .p (.int i) => some (some i, S2) | _ => none) | none => some (none, S4)) = some (k, S5) →
      (∀ F5 φ5 H5, Sim X.K cl S5 B F5 φ5 H5 → Ext S4 F4 φ4 H4 S5 F5 φ5 H5 → RS X.K cl F5 φ5 S5.len σd σ → R k H5) → LO X.K cl m σ H4 R := by
    intro m S4 S5 B F4 φ4 H4 k R s4 rs4 e kk
    cases m with
    | none => cases e; exact kk F4 φ4 H4 s4 (.refl s4) rs4
    | some m =>
      obtain ⟨y, S6, e6, e7⟩ := bnd_of e
      refine LE.then_ s4 rs4 e6 fun F6 φ6 H6 u s6 x6 rs6 dr6 l6 => ?_
      split at e7
      · cases e7
        exact ⟨_, drI dr6, kk F6 φ6 H6 s6 x6 rs6⟩
      · cases e7
  refine part ml S1 S2 B F1 φ1 H1 l _ s1 rs1 e2 fun F2 φ2 H2 s2 x2 rs2 => ?_
  refine part mh S2 S3 B F2 φ2 H2 h _ s2 rs2 e3 fun F3 φ3 H3 s3 x3 rs3 => ?_
  have x23 := x2.trans x3
  exact d_sl s3 (x23.dr l1 dr1) (x23.lt l1) (o3.ext (x1.trans x23))

/-! ### methods of lists -/
def MtD (K : PySem.W.Frag) (cl : ClW) (f : MF) (T : String) (r : V → List V → Hp → VK → Prop) : Prop :=
  ∀ S B F φ H d ds x xs Q, Sim K cl S B F φ H → DR K cl F φ d x → d.lt S.len → DRA K cl F φ ds xs → (∀ y ∈ ds, y.lt S.len) → OkE K cl S B F φ H (f (d :: ds) S) Q → r x xs H Q
def isTy (T : String) (d : D) (S : SH) : Bool := match d with
  | .p (.str _) => T == "str"
  | .p (.lst _) => T == "list"
  | .p (.dK _) => T == "dict"
  | .ref n => match S.os[n]? with
    | some (.lst _) => T == "list"
    | some (.dK _) => T == "dict"
    | _ => false
  | _ => false
theorem isTy_ok {S : SH} {B : List Nat} {F : Hp} {φ : Nat → Addr} {H : Hp} {T : String} {d : D} {x : V} (s : Sim K cl S B F φ H) (e : isTy T d S = true) (r : DR K cl F φ d x) : tyV K T x H := by
  cases d with
  | p y =>
    have r : Rp K cl F y x := r
    cases r with
    | str z => exact (beq_iff_eq.mp e)
    | lst q t => exact .inl ⟨beq_iff_eq.mp e, _, SqL.mono s.le q⟩
    | dK q t => exact .inr (.inr (.inl ⟨beq_iff_eq.mp e, .inl ⟨_, s.le _ _ q⟩⟩))
    | _ => cases e
  | ref n =>
    unfold isTy at e
    dsimp only at e
    have r : x = .ref (φ n) := r
    subst r
    cases q : S.os[n]? with
    | none => rw [q] at e; cases e
    | some o =>
      rw [q] at e
      have ob := (s.ob n _ q).2
      cases o with
      | lst ds => obtain ⟨vs, ev, _⟩ := ob; exact .inl ⟨beq_iff_eq.mp e, _, .inl (.inl ev)⟩
      | dK ds => obtain ⟨vs, ev, _⟩ := ob; exact .inr (.inr (.inl ⟨beq_iff_eq.mp e, .inl ⟨_, ev⟩⟩))
      | dT ds => cases e
      | ins _ _ => cases e
def dBM (T : String) (f : MF) (o : ME) (a : MA) : ME := fun σ S => bnd (o σ S) fun d S1 => if isTy T d S1 = true then bnd (a σ S1) fun ds S2 => f (d :: ds) S2 else none
theorem e_bm {T : String} {f : MF} {r : V → List V → Hp → VK → Prop} {mo : ME} {ma : MA} {σ : L2.St} {H : Hp} {Q : VK} (hd : MtD K cl f T r) (q : LE K cl (dBM T f mo ma) σ H Q) : tBM K T r (LE K cl mo) (LA K cl ma) σ H Q := by
  obtain ⟨σd, S, B, F, φ, s, rs, o⟩ := q
  obtain ⟨d, S1, e1, o1⟩ := okE_bnd o
  refine LE.then_ s rs e1 fun F1 φ1 H1 x s1 x1 rs1 dr1 l1 => ?_
  split at o1
  · rename_i ht
    obtain ⟨ds, S2, e2, o2⟩ := okE_bnd o1
    refine ⟨isTy_ok s1 ht dr1, LA.then_ s1 rs1 e2 fun F2 φ2 H2 vs s2 x2 rs2 dr2 l2 => ?_⟩
    exact hd S2 B F2 φ2 H2 d ds x vs Q s2 (x2.dr l1 dr1) (x2.lt l1) dr2 l2 (o2.ext (x1.trans x2))
  · exact o1.no
theorem k_bm {o e : Expr} {es : List Expr} {name : Str} {apos cpos : Pos} {T id : String} {f : MF} {r : V → List V → Hp → VK → Prop} {mo : ME} {ma : MA} (hd : MtD X.K cl f T r) (pa : PlainAttrs T) (slot : Slot T name id) (hty : typeOf (.builtin id) = pure (.type "method_descriptor")) (hm : MtR X id r) (ho : PE X o (LE X.K cl mo)) (ha : PA X (e :: es) (LA X.K cl ma))
    (hbase : attributeBase o name X.env (eval o X.env) = eval o X.env := by rfl)
    (hfew : ((backTo cpos (starEach (e :: es) X.env)).all (fun x => !x.1) && (backToKw cpos (keywordEach [] X.env)).all (fun x => x.1.isSome)
      && decide ((e :: es).length + ([] : List Keyword).length + (if ([] : List Keyword).isEmpty then 0 else 1) < 30)) = true := by rfl)
    (hline : (apos.endLine == cpos.line) = true := by rfl) (hs : starEach (e :: es) X.env = (false, eval e X.env) :: starEach es X.env := by rfl) (hplain : (backTo cpos (starEach es X.env)).any (·.1) = false := by rfl) :
    PE X (.Call (.Attribute o name apos) (e :: es) [] cpos) (LE X.K cl (dBM T f mo ma)) :=
  (pe_bm pa slot hty hm ho ha hbase hfew hline hs hplain).imp fun _ _ _ q => e_bm hd q
/-- xs.append(v) -/
def fApp : MF := fun ds S => match ds with
  | [.ref n, v] => match S.os[n]? with
    | some (.lst xs) => if xs.length < sizeLine ∧ okRef S n v = true then some (.p .non, S.put n (.lst (xs ++ [v]))) else none
    | _ => none
  | _ => none
theorem d_app : MtD K cl fApp "list" rAppend := by
  intro S B F φ H d ds x xs Q s r l rs ls o
  unfold fApp at o
  split at o
  · rename_i n v e0
    split at o
    · rename_i ys q
      split at o
      · rename_i h
        injection e0 with e1 e2
        subst e1 e2
        obtain ⟨y, rfl, ry⟩ := dra1 rs
        obtain ⟨vs, ev, rv⟩ := (s.ob n _ q).2
        have hl := rv.length
        obtain ⟨s2, x2⟩ := putOk (o := .lst (ys ++ [v])) (x := .lst (vs ++ [y])) s q h.2 (ls v List.mem_cons_self) (fun z hz => by
          rcases List.mem_append.mp hz with hz | hz
          · exact .inr hz
          · exact .inl (List.mem_singleton.mp hz)) ⟨_, rfl, DRA.append rv (.cons ry .nil)⟩
        exact ⟨φ n, vs, y, r, rfl, ev, by omega, o.fin rfl s2 x2 .non trivial⟩
      · exact o.no
    · exact o.no
  · exact o.no
/-- xs.extend(ys) of a list or a tuple -/
def fExt : MF := fun ds S => match ds with
  | [.ref n, v] => match S.os[n]?, asQ v S with
    | some (.lst xs), some ys => match toPs ys with
      | some ps => if xs.length + ps.length ≤ sizeLine then some (.p .non, S.put n (.lst (xs ++ ps.map D.p))) else none
      | none => none
    | _, _ => none
  | _ => none
open PySem.AutoSeq1 (wpAny_loadPart') in
open PySem.MeetsSeq PySem.MeetsSeq2 PySem.MeetsSeq3 in
theorem ext_tup (l : Addr) (xs : Array Value) (n : Nat) (b : Addr) (ys : Array Value) (m : Nat) (dd : Option Addr) (sl : Array (Option Value)) (h0 : ¬(!xs.isEmpty && Builtin.List.listTooLong (xs.size + ys.size)) = true) (h1 : xs.size ≤ sizeLine) (h2 : xs.size + ys.size ≤ sizeLine + 1) :
    Meets (Builtin.«list.extend» ⟨[.ref l, .ref b], []⟩) (fun _ R s => s.heap.get? l = some { cls := .type "list", dict := none, data := .seq xs n, slots := #[] } ∧ s.heap.get? b = some { cls := .type "tuple", dict := dd, data := .seq ys m, slots := sl } ∧
      R (.ok (.ret Value.none)) { s with heap := s.heap.update l (Obj.mapSeq fun x => x ++ ys), toks := s.toks }) :=
  .of_wp fun prog w A R s h => by
    obtain ⟨hp, g, d, tk, os⟩ := s; obtain ⟨hl, hb, h⟩ := h
    have e1 := AutoSeq1.sub_tuple_tuple
    have e2 := AutoSeq1.sub_list_list
    have e3 := AutoSeq1.sub_tuple_list
    have e4 := AutoSeq1.sub_list_tuple
    have hz' : (xs ++ ys).size ≤ sizeLine + 1 := by rw [Array.size_append]; exact h2
    wp_walk using (wpAny_updateSeq hl rfl (hz := h1) (_hz' := hz')), wpAny_loadPart' hl, wpAny_loadPart' hb
    exact ⟨_, rfl, h⟩
open PySem.AutoSeq1 (wpAny_loadPart') in
open PySem.MeetsSeq PySem.MeetsSeq2 PySem.MeetsSeq3 in
theorem ext_lst (l : Addr) (xs : Array Value) (n : Nat) (b : Addr) (ys : Array Value) (m : Nat) (dd : Option Addr) (sl : Array (Option Value)) (h0 : ¬(!xs.isEmpty && Builtin.List.listTooLong (xs.size + ys.size)) = true) (h1 : xs.size ≤ sizeLine) (h2 : xs.size + ys.size ≤ sizeLine + 1) :
    Meets (Builtin.«list.extend» ⟨[.ref l, .ref b], []⟩) (fun _ R s => s.heap.get? l = some { cls := .type "list", dict := none, data := .seq xs n, slots := #[] } ∧ s.heap.get? b = some { cls := .type "list", dict := dd, data := .seq ys m, slots := sl } ∧
      R (.ok (.ret Value.none)) { s with heap := s.heap.update l (Obj.mapSeq fun x => x ++ ys), toks := s.toks }) :=
  .of_wp fun prog w A R s h => by
    obtain ⟨hp, g, d, tk, os⟩ := s; obtain ⟨hl, hb, h⟩ := h
    have e1 := AutoSeq1.sub_tuple_tuple
    have e2 := AutoSeq1.sub_list_list
    have e3 := AutoSeq1.sub_tuple_list
    have e4 := AutoSeq1.sub_list_tuple
    have hz' : (xs ++ ys).size ≤ sizeLine + 1 := by rw [Array.size_append]; exact h2
    wp_walk using (wpAny_updateSeq hl rfl (hz := h1) (_hz' := hz')), wpAny_loadPart' hl, wpAny_loadPart' hb
    exact ⟨_, rfl, h⟩
def rExtG (K : PySem.W.Frag) : V → List V → Hp → VK → Prop := fun x vs H Q => ∃ l b xs zs, x = .ref l ∧ vs = [.ref b] ∧ H l = some (.lst xs) ∧ (SqL K H b zs ∨ SqT K H b zs) ∧ xs.length + zs.length ≤ sizeLine ∧ Q .non (upd H l (.lst (xs ++ zs)))
theorem mt_extG : MtM X "list.extend" (rExtG X.K) := by
  intro pins s σ H x vs v us Q I rx rv h
  obtain ⟨l, b, xs, zs, rfl, rfl, hH, hB, hz, q⟩ := h
  cases rx
  obtain ⟨u, rfl, ru⟩ := rv.one
  cases ru
  obtain ⟨z, its, n, r, hl, e⟩ := I.lstM hH
  have l1 := r.length
  have fin : ∀ its2 : List Value, Vals zs its2 → EP X pins σ Q .none { s with heap := s.heap.update l (Obj.mapSeq fun x => x ++ its2.toArray), toks := s.toks } := fun its2 r2 => by
    refine ⟨.non, _, I.lset (its' := its ++ its2) hH e (by simp) (r.append r2) ?_, rfl, q⟩
    rw [List.length_append]
    omega
  have small : ∀ its2 : List Value, Vals zs its2 → its.toArray.size + its2.toArray.size ≤ sizeLine := fun its2 r2 => by
    have l2 := r2.length
    rw [List.size_toArray, List.size_toArray]; omega
  have long : ∀ its2 : List Value, Vals zs its2 → ¬ (!its.toArray.isEmpty && Builtin.List.listTooLong (its.toArray.size + its2.toArray.size)) = true := fun its2 r2 => by
    rw [notLongL (small its2 r2), Bool.and_false]
    exact Bool.false_ne_true
  rcases hB with hB | hB
  · obtain ⟨its2, r2, ⟨⟨_, dd, _, sl⟩, m, e2, c2, d2, t2⟩, _⟩ := I.list hB
    simp only at c2 d2 t2
    subst c2 d2 t2
    have sm := small its2 r2
    exact call_meets F.slot_list_extend ⟨_, e, rfl⟩ F.entry_list_extend (F.args_list_extend_2 _ _)
      (ext_lst l its.toArray n b its2.toArray m _ sl (long its2 r2) (by rw [List.size_toArray]; omega) (by omega)) ⟨e, e2, fin its2 r2⟩
  · obtain ⟨its2, r2, pT, _⟩ := I.tuple hB
    obtain ⟨⟨_, dd, _, sl⟩, e2, hc, m, hd⟩ := pT
    simp only at hc hd
    subst hc hd
    have sm := small its2 r2
    exact call_meets F.slot_list_extend ⟨_, e, rfl⟩ F.entry_list_extend (F.args_list_extend_2 _ _)
      (ext_tup l its.toArray n b its2.toArray m dd sl (long its2 r2) (by rw [List.size_toArray]; omega) (by omega)) ⟨e, e2, fin its2 r2⟩
theorem d_ext : MtD K cl fExt "list" (rExtG K) := by
  intro S B F φ H d ds x xs Q s r l rs ls o
  unfold fExt at o
  split at o
  · rename_i n v e0
    split at o
    · rename_i ys zs q e1
      split at o
      · rename_i ps ep
        split at o
        · rename_i hz
          injection e0 with e2 e3
          subst e2 e3
          obtain ⟨y, rfl, ry⟩ := dra1 rs
          obtain ⟨a, ws, rfl, qw, tw, mw⟩ := asQ_ok s e1 ry (ls v List.mem_cons_self)
          obtain ⟨vs, ev, rv⟩ := (s.ob n _ q).2
          have hzs := toPs_of ep
          subst hzs
          have hl := rv.length
          have hl2 := tw.length
          rw [List.length_map] at hl2
          obtain ⟨s2, x2⟩ := putGen (o := .lst (ys ++ ps.map D.p)) (x := .lst (vs ++ ws)) s q (fun z hz => by
            rcases List.mem_append.mp hz with hz | hz
            · exact .inr (.inl hz)
            · exact .inl fun k => lt_map z hz) ⟨_, rfl, DRA.append rv tw⟩
          exact ⟨φ n, a, vs, ws, r, rfl, ev, qw, by omega, o.fin rfl s2 x2 .non trivial⟩
        · exact o.no
      · exact o.no
    · exact o.no
  · exact o.no
end
end Pv
namespace Pv
open PySem PySem.Spec PyProof.Rows L2
section
variable {X : Cx} {K : PySem.W.Frag} {cl : ClW}
/-! ### isinstance of built-in types -/
def tyName (d : D) (S : SH) : Option String := match d with
  | .p .non => some "NoneType"
  | .p (.bl _) => some "bool"
  | .p (.int _) => some "int"
  | .p (.str _) => some "str"
  | .p (.tup _) => some "tuple"
  | .p (.lst _) => some "list"
  | .p (.dK _) => some "dict"
  | .p (.dT _) => none
  | .p (.ins _ _) => none
  | .ref n => match S.os[n]? with
    | some (.lst _) => some "list"
    | some (.dK _) => some "dict"
    | _ => none
def isSub (a b : String) : Bool := a == b || (a == "bool" && b == "int")
def tyOk (b : String) : Bool := ["bool", "int", "str", "tuple", "list", "dict"].contains b
theorem kit_tab : ∀ a ∈ ["NoneType", "bool", "int", "str", "tuple", "list", "dict"], ∀ b ∈ ["bool", "int", "str", "tuple", "list", "dict"], kitB a b = some (isSub a b) := by decide +kernel
theorem tyName_mem {d : D} {S : SH} {t : String} (h : tyName d S = some t) : t ∈ ["NoneType", "bool", "int", "str", "tuple", "list", "dict"] := by
  unfold tyName at h
  split at h <;> first | (cases h; decide) | (cases h; done) | skip
  split at h <;> first | (cases h; decide) | (cases h; done)
theorem tyName_ok {S : SH} {B : List Nat} {F : Hp} {φ : Nat → Addr} {H : Hp} {d : D} {x : V} {t : String} (s : Sim K cl S B F φ H) (h : tyName d S = some t) (r : DR K cl F φ d x) : TyX K H x (.type t) := by
  cases d with
  | p y =>
    have r : Rp K cl F y x := r
    cases r with
    | non => cases h; exact .base .non
    | bl b => cases h; exact .base (.bl b)
    | int i => cases h; exact .base (.int i)
    | str z => cases h; exact .base (.str z)
    | tup q t =>
      cases h
      rcases SqT.mono s.le q with (q | ⟨o, q⟩) | ⟨o, its, n, hk, hc, _⟩
      · exact .base (.tup q)
      · exact .fTuple q
      · exact .kTuple hk hc
    | lst q t =>
      cases h
      rcases SqL.mono s.le q with (q | ⟨o, q⟩) | ⟨o, its, n, hk, hc, _⟩
      · exact .base (.lst q)
      · exact .base (.frz q)
      · exact .kList hk hc
    | dK q t => cases h; exact .base (.dK (s.le _ _ q))
    | dT q t => cases h
    | ins q t => cases h
  | ref n =>
    have r : x = .ref (φ n) := r
    subst r
    unfold tyName at h
    dsimp only at h
    cases q : S.os[n]? with
    | none => rw [q] at h; cases h
    | some o =>
      rw [q] at h
      have ob := (s.ob n _ q).2
      cases o with
      | lst ds => cases h; obtain ⟨vs, ev, _⟩ := ob; exact .base (.lst ev)
      | dK ds => cases h; obtain ⟨vs, ev, _⟩ := ob; exact .base (.dK ev)
      | dT ds => cases h
      | ins _ _ => cases h
def fIsi (bs : List String) (d : D) (S : SH) : Option (D × SH) := match tyName d S with
  | some t => if bs.all tyOk = true then some (.p (.bl (bs.any (isSub t))), S) else none
  | none => none
theorem k_isi {e : Expr} {me : ME} {T : Str} {Tn : String} {p p2 pos : Pos} (he : PE X e (LE X.K cl me)) (hg : Gl X "isinstance") (hm : X.mg "isinstance" = none) (hT : Gl X T) (hmT : X.mg T = none) (hvT : bootBuiltins T = some (.type Tn)) (hn : T ≠ "__name__" := by decide) (hd : (T == ("__debug__" : Str)) = false := by decide)
    (h1 : starEach [e, .Name T p2] X.env = (false, eval e X.env) :: starEach [.Name T p2] X.env := by rfl) (h2 : starEach [Expr.Name T p2] X.env = (false, eval (.Name T p2) X.env) :: starEach [] X.env := by rfl) (hpl : (backTo pos (starEach [Expr.Name T p2] X.env)).any (·.1) = false := by rfl) :
    PE X (.Call (.Name "isinstance" p) [e, .Name T p2] [] pos) (LE X.K cl (dUn (fIsi [Tn]) me)) := by
  refine (pe_callB call_isi hg hm (by decide +kernel : bootBuiltins "isinstance" = some (.builtin "isinstance")) (pa_cons he (pa_cons (pe_bltn hT hmT hvT (show RelV (.ty Tn) _ from rfl) hn hd) pa_nil h2) h1) (by decide) (by decide) h1 hpl).imp fun σ H Q q => ?_
  obtain ⟨σd, S, B, F, φ, s, rs, o⟩ := q
  obtain ⟨d, S1, e1, o1⟩ := okE_bnd o
  refine LE.then_ s rs e1 fun F1 φ1 H1 x s1 x1 rs1 dr1 l1 => ?_
  have o1 := o1.ext x1
  unfold fIsi at o1
  split at o1
  · rename_i t ht
    split at o1
    · rename_i hb
      have hb1 : tyOk Tn = true := by simpa using hb
      refine ⟨x, .ty Tn, _, _, isSub t Tn, rfl, .ty Tn, tyName_ok s1 ht dr1, kit_ty (kit_tab t (tyName_mem ht) Tn (by simpa [tyOk] using hb1)), ?_⟩
      have := o1.fin0 rfl s1 (Rp.bl _) trivial
      simpa using this
    · exact o1.no
  · exact o1.no
/-! ### a module's constant -/
theorem k_glob {x : Str} {v : V} {u : Value} {q : P} {pos : Pos} (hg : Gl X x) (hm : X.mg x = some u) (r : RelV v u) (hq : ∀ F, Rp X.K cl F q v) (hd : (x == ("__debug__" : Str)) = false := by decide) : PE X (.Name x pos) (LE X.K cl (dC q)) :=
  (pe_glob hg hm r hd).imp fun _ _ _ h => e_c h hq
/-! ### truth -/
def truD (d : D) (S : SH) : Option (Bool × SH) := match d with
  | .p .non => some (false, S)
  | .p (.bl b) => some (b, S)
  | .p (.int i) => some (i != 0, S)
  | .p (.str z) => if z.length ≤ sizeLine then some ((z.length : Int) != 0, S) else none
  | d => match asQ d S with | some xs => some (!xs.isEmpty, S) | none => none
def dTru (a : ME) : MT := fun σ S => bnd (a σ S) truD
theorem truD_ok {S S1 : SH} {B : List Nat} {F : Hp} {φ : Nat → Addr} {H : Hp} {d : D} {x : V} {b : Bool} (s : Sim K cl S B F φ H) (e : truD d S = some (b, S1)) (r : DR K cl F φ d x) (l : d.lt S.len) : S1 = S ∧ TruV K x H b := by
  unfold truD at e
  split at e
  · cases e; exact ⟨rfl, by rw [drN r]; rfl⟩
  · cases e; exact ⟨rfl, by rw [drB r]; rfl⟩
  · cases e; exact ⟨rfl, by rw [drI r]; rfl⟩
  · split at e
    · rename_i z hz
      cases e
      exact ⟨rfl, by rw [drS r]; exact ⟨hz, rfl⟩⟩
    · cases e
  · split at e
    · rename_i xs h
      cases e
      obtain ⟨a, vs, rfl, q, t, m⟩ := asQ_ok s h r l
      refine ⟨rfl, ?_⟩
      have he : xs.isEmpty = vs.isEmpty := by cases t <;> rfl
      rcases q with q | q
      · exact .inl ⟨vs, q, by rw [he]⟩
      · exact .inr (.inl ⟨vs, q, by rw [he]⟩)
    · cases e
theorem t_tru {a : Expr} {ma : ME} (ha : PE X a (LE X.K cl ma)) (he : ∀ whole, isTrue a X.env whole = (do let v ← whole; standAt a.pos; holding [v] (truthy v)) := by intro _; rfl) : PT X a (LT X.K cl (dTru ma)) := by
  refine (pt_truth ha he).imp fun σ H Q q => ?_
  obtain ⟨σd, S, B, F, φ, s, rs, o⟩ := q
  obtain ⟨d, S1, e1, b, S2, e2, k⟩ := okT_bnd o
  refine LE.then_ s rs e1 fun F1 φ1 H1 x s1 x1 rs1 dr1 l1 => ?_
  obtain ⟨rfl, h⟩ := truD_ok s1 e2 dr1 l1
  exact ⟨b, h, k F1 φ1 H1 s1 x1⟩
/-! ### chains of comparisons -/
def dChain (f g : D → D → SH → Option (D × SH)) (a b c : ME) : ME := fun σ S => bnd (a σ S) fun x S1 => bnd (b σ S1) fun y S2 => bnd (f x y S2) fun z S3 => bnd (toB z S3) fun t S4 => if t = true then bnd (c σ S4) fun w S5 => g y w S5 else some (.p (.bl false), S4)
/-! ### name op= e, o[i] op= e -/
theorem PIp.of {op : Operator} {r : R2} (h : OpR X (inplaceOp op) r) : PIp X op r := fun pins s σ H x y v u Q I rx ry q => h pins s σ H x y v u Q I rx ry q
def ixL (o i : D) (S : SH) : Option D := match o, i with
  | .ref n, .p (.int k) => (match S.os[n]? with | some (.lst ds) => atI ds k | _ => none)
  | _, _ => none
theorem ixL_ok {S : SH} {B : List Nat} {F : Hp} {φ : Nat → Addr} {H : Hp} {o i d : D} {x y : V} (s : Sim K cl S B F φ H) (e : ixL o i S = some d) (r1 : DR K cl F φ o x) (r2 : DR K cl F φ i y) : ∃ a vs k v, x = .ref a ∧ y = .int k ∧ SqL K H a vs ∧ atI vs k = some v ∧ DR K cl F φ d v ∧ d.lt S.len := by
  unfold ixL at e
  split at e
  · rename_i n k
    split at e
    · rename_i ds q
      obtain ⟨vs, ev, rv⟩ := (s.ob n _ q).2
      obtain ⟨v, hv, rv', hm⟩ := atI_dra rv e
      exact ⟨φ n, vs, k, v, r1, drI r2, .inl (.inl ev), hv, rv', s.wf n _ q d hm⟩
    · cases e
  · cases e
def dAugS (o i e : ME) (f : D → D → SH → Option (D × SH)) : MS := fun σ S => bnd (o σ S) fun x S1 => bnd (i σ S1) fun y S2 => match ixL x y S2 with
  | some old => bnd (e σ S2) fun v S4 => bnd (f old v S4) fun z S5 => match setIx x y z S5 with | some S6 => some (.nx σ, S6) | none => none
  | none => none
theorem get_seqL : PGet X (rIxL X.K) := by
  intro pins s σ H x y v u Q I rx ry h
  obtain ⟨p, xs, i, z, rfl, rfl, hq, he, q⟩ := h
  cases rx
  obtain ⟨t, rfl⟩ := ry
  obtain ⟨its, r, pl, hz⟩ := I.list hq
  obtain ⟨j, h1, h2, h3, h4, h5⟩ := atI_get he
  obtain ⟨w, ew, rw'⟩ := r.get h2
  have hl := r.length
  have hn := line63
  have fin : EP X pins σ Q w s := ⟨z, H, I, rw', q⟩
  by_cases h0 : 0 ≤ i
  · have hj : i.toNat = j := by
      rw [seqIndex_of h0 h5] at h1
      exact Option.some.inj h1
    exact getItem_listL pl.isList h0 (by omega) (by rw [hj]; exact ew) fin
  · have hj : (i + (its.toArray.size : Int)).toNat = j := by
      rw [seqIndex_neg (by omega) h4] at h1
      rw [List.size_toArray, ← hl]
      exact Option.some.inj h1
    exact wpAny_getItem_list_neg pl.isList (by omega) (by rw [List.size_toArray] <;> omega) (by omega) (by rw [hj]; simpa using ew) fin
theorem s_augS {o i e : Expr} {mo mi me : ME} {op : Operator} {f : D → D → SH → Option (D × SH)} {r : R2} {pos tpos : Pos} (hd : OpD X.K cl f r) (hop : OpR X (inplaceOp op) r) (ho : PE X o (LE X.K cl mo)) (hi : PE X i (LE X.K cl mi)) (he : PE X e (LE X.K cl me))
    (ha : ∀ ov iv new, augStore i ov iv new = (do holding [new, ov, iv] (setItem ov iv new); release [new, ov, iv] []; pure .next) := by intros; rfl) : PS X (.AugAssign (.Subscript o i tpos) op e pos) (LS X.K cl (dAugS mo mi me f)) := by
  refine (ps_augS ho hi get_seqL he (PIp.of hop) set_list ha).imp fun Z σ H q => ?_
  obtain ⟨σd, S, B, F, φ, s, rs, o0⟩ := q
  obtain ⟨x, S1, e1, o1⟩ := okS_bnd o0
  obtain ⟨y, S2, e2, o2⟩ := okS_bnd o1
  split at o2
  · rename_i old e3
    obtain ⟨v, S4, e4, o4⟩ := okS_bnd o2
    obtain ⟨z, S5, e5, o5⟩ := okS_bnd o4
    refine LE.then_ s rs e1 fun F1 φ1 H1 u s1 x1 rs1 dr1 l1 => LE.then_ s1 rs1 e2 fun F2 φ2 H2 w s2 x2 rs2 dr2 l2 => ?_
    cases e6 : setIx x y z S5 with
    | none => rw [e6] at o5; obtain ⟨_, _, z, _⟩ := o5; cases z
    | some S6 =>
      rw [e6] at o5
      obtain ⟨_, _, ez, k⟩ := o5
      cases ez
      obtain ⟨a, vs, i0, v0, eu, ew, q, hv0, rv0, l0⟩ := ixL_ok s2 e3 (x2.dr l1 dr1) dr2
      refine ⟨a, vs, i0, v0, eu, ew, q, hv0, ?_⟩
      refine LE.then_ s2 rs2 e4 fun F4 φ4 H4 y' s4 x4 rs4 dr4 l4 => ?_
      refine hd S4 B F4 φ4 H4 old v v0 y' _ s4 (x4.dr l0 rv0) dr4 (x4.lt l0) l4 ⟨z, S5, e5, fun F5 φ5 H5 z' s5 x5 dr5 l5 => ?_⟩
      have x45 := x4.trans x5
      obtain ⟨p, xs, k0, j, h1, h2, h3, h4, s6, x6⟩ := setIx_ok e6 s5 ((x2.trans x45).dr l1 dr1) (x45.dr l2 dr2) dr5 l5
      exact ⟨p, xs, k0, j, h1, h2, h3, h4, k _ _ _ σ s6 (((x1.trans x2).trans x45).trans x6) ((x5.trans x6).rs rs4)⟩
  · obtain ⟨_, _, z, _⟩ := o2; cases z
/-! ### the in-place operators -/
/-- int += int, text += text (a list's += changes the list: not here) -/
def fAug (d e : D) (S : SH) : Option (D × SH) := match d, e with
  | .p (.int i), .p (.int j) => some (.p (.int (i + j)), S)
  | .p (.str a), .p (.str b) => if a.length + b.length ≤ sizeLine then some (.p (.str (a ++ b)), S) else none
  | _, _ => none
def rAugG : R2 := fun x y H Q => rI0 (fun i j => .int (i + j)) x y H Q ∨ (∃ i j, x = .str i ∧ y = .str j ∧ i.length + j.length ≤ sizeLine ∧ Q (.str (i ++ j)) H)
theorem io_add : OpR X (inplaceOp .Add) rAugG := iop_add.or iop_add_str
theorem d_aug : OpD K cl fAug rAugG := by
  intro S B F φ H d1 d2 x y Q s r1 r2 l1 l2 o
  unfold fAug at o
  split at o
  · exact .inl ⟨_, _, drI r1, drI r2, o.fin0 rfl s (Rp.int _) trivial⟩
  · split at o
    · rename_i h
      exact .inr ⟨_, _, drS r1, drS r2, h, o.fin0 rfl s (Rp.str _) trivial⟩
    · exact o.no
  · exact o.no
/-! ### signs -/
/-- one sign in a text -/
def fInS (neg : Bool) (d e : D) (S : SH) : Option (D × SH) := match d, e with
  | .p (.str y), .p (.str z) => if y.cps.size = 1 then some (.p (.bl (if neg = true then !decide (y.cps.getD 0 0 ∈ z.cps.toList) else decide (y.cps.getD 0 0 ∈ z.cps.toList))), S) else none
  | _, _ => none
def rInSG (neg : Bool) : R2 := fun x y H Q => ∃ (c : Nat) (z : Str), x = .str ⟨#[c]⟩ ∧ y = .str z ∧ Q (.bl (if neg = true then !decide (c ∈ z.cps.toList) else decide (c ∈ z.cps.toList))) H
theorem o_inS : OpR X (compareOp .In) (rInSG false) := by
  intro pins s σ H x y v u Q I rx ry h
  obtain ⟨c, z, h1, h2, q⟩ := h
  exact op_in_sign pins s σ H x y v u Q I rx ry ⟨c, z, h1, h2, by simpa using q⟩
theorem d_inS {neg : Bool} : OpD K cl (fInS neg) (rInSG neg) := by
  intro S B F φ H d1 d2 x y Q s r1 r2 l1 l2 o
  unfold fInS at o
  split at o
  · rename_i w z
    split at o
    · rename_i hs
      refine ⟨w.cps.getD 0 0, z, ?_, drS r2, o.fin0 rfl s (Rp.bl _) trivial⟩
      rw [drS r1]
      obtain ⟨cs⟩ := w
      have hs : cs.size = 1 := hs
      congr 2
      apply Array.ext
      · simpa using hs
      · intro i h1 h2
        have : i = 0 := by simp at h2; omega
        subst this
        simp [Array.getD, hs]
    · exact o.no
  · exact o.no
/-- sep.join(texts) -/
def strsOf : List D → Option (List Str)
  | [] => some []
  | .p (.str i) :: r => (strsOf r).map (i :: ·)
  | _ => none
@[simp] theorem strsOf_map (ns : List Str) : strsOf (ns.map fun n => D.p (.str n)) = some ns := by
  induction ns with
  | nil => rfl
  | cons x r ih => simp [strsOf, ih]
end
end Pv
namespace Pv
open PySem PySem.Spec PyProof.Rows L2
theorem cs_nil {p : Nat → Prop} : ∀ c ∈ ([] : List Nat), p c := fun _ h => absurd h (by simp)
theorem cs_cons {p : Nat → Prop} {a : Nat} {l : List Nat} (h : p a) (t : ∀ c ∈ l, p c) : ∀ c ∈ a :: l, p c := fun c hc => by
  rcases List.mem_cons.mp hc with rfl | hc
  · exact h
  · exact t c hc
abbrev wFuel : Nat := 1000000
theorem u65 {k : Nat} {A : Around} (hr : Room k A) : A.units + 65 < cLine := by have := hr.un; omega
theorem fn_no {P : Program} {w : World} {K : PySem.W.Frag} {mg : Str → Option Value} {base : Heap} {k : Nat} {f : Addr} {fd : FuncData} {ps : List Str} {cl : ClW} : FnOk P w K mg base CX0 k f fd ps (spOf K cl fun _ _ => none) :=
  ⟨fun vs H Q E h => (by
    obtain ⟨_, _, _, _, _, _, _, _, _, _, z, _⟩ := h; cases z), fun A outer s H args us vs Q E _ _ _ _ h => (by
    obtain ⟨_, _, _, _, _, _, _, _, _, _, z, _⟩ := h; cases z)⟩
section
variable {X : Cx} {K : PySem.W.Frag} {cl : ClW}
/-- in: a sign in a text, or a datum in a list or tuple -/
def fInG (neg : Bool) (d e : D) (S : SH) : Option (D × SH) := match d, e with
  | .p (.str y), .p (.str z) => fInS neg (.p (.str y)) (.p (.str z)) S
  | d, e => fIn neg d e S
def rInG (K : PySem.W.Frag) (cl : ClW) (neg : Bool) : R2 := fun x y H Q => rInSG neg x y H Q ∨ rInP K cl neg x y H Q
theorem o_inG (hu : X.A.units + 65 < cLine) : OpR X (compareOp .In) (rInG X.K cl false) := o_inS.or (o_in hu)
theorem d_inG {neg : Bool} : OpD K cl (fInG neg) (rInG K cl neg) := by
  intro S B F φ H d1 d2 x y Q s r1 r2 l1 l2 o
  unfold fInG at o
  split at o
  · exact .inl (d_inS S B F φ H _ _ x y Q s r1 r2 l1 l2 o)
  · exact .inr (d_in S B F φ H _ _ x y Q s r1 r2 l1 l2 o)
end
/-! ### the end -/
def intsP (ns : List Int) : List P := ns.map P.int
theorem rpA_ints {K : PySem.W.Frag} {cl : ClW} {F : Hp} : ∀ ns : List Int, RpA K cl F (intsP ns) (ns.map V.int)
  | [] => .nil
  | n :: r => .cons (.int n) (rpA_ints r)
open Classical in
/-- the law's promise, from what its computation gives -/
theorem law_of {K : PySem.W.Frag} {cl : ClW} {m : MF} {a : Addr} {ns : List Int} {H : Hp} {Q : VK} {E : XK} (hs : SqL K H a (ns.map V.int)) (h : m [.p (.lst (intsP ns))] ⟨0, []⟩ = some (.p (.bl true), ⟨0, []⟩)) (q : ∀ H', Q (.bl true) H') : spOf K cl m [.ref a] H Q E := by
  refine ⟨[.p (.lst (intsP ns))], ⟨0, []⟩, [], H, fun _ => 0, ⟨Same.refl _, fun n o e => by simp at e, fun n m h => absurd h (Nat.not_lt_zero _), fun n o e => by simp at e, fun b hb => absurd hb (by simp), Nat.le_refl _⟩, .cons (Rp.lst hs (rpA_ints ns)) .nil, fun d hd => ?_, .p (.bl true), ⟨0, []⟩, h, fun F1 φ1 H1 u s x r l => ?_⟩
  · rw [List.mem_singleton.mp hd]; trivial
  · rw [drB r]; exact q H1
end Pv
/-! sorted(list, key=a def) -/
namespace Pv
open PySem PySem.Spec PyProof.Rows L2
def allSome {α : Type} : List (Option α) → Option (List α)
  | [] => some []
  | some a :: r => (allSome r).map (a :: ·)
  | none :: _ => none
/-- atoms and tuples of these, as the kit's data -/
def pyOf : Nat → P → Option PyData
  | _, .non => some .none
  | _, .bl b => some (.bool b)
  | _, .int i => some (.int i)
  | _, .str x => some (.str x)
  | k + 1, .tup ps => (allSome (ps.map (pyOf k))).map .tuple
  | _, _ => none
def isTup1 : PyData → Bool
  | .tuple (_ :: _) => true
  | _ => false
def noTup : PyData → Bool
  | .tuple _ => false
  | .none => false
  | _ => true
def okKeys (ks : List PyData) : Bool := ks.all (fun a => ks.all (PySem.W.alike a)) && (ks.all isTup1 || ks.all noTup) && ks.all fun a => decide (a.depth ≤ 60)
theorem okKeys_of {ks : List PyData} (h : okKeys ks = true) : PySem.W.AllAlike ks ∧ PySem.W.Sortable ks ∧ ∀ d ∈ ks, d.depth ≤ 60 := by
  unfold okKeys at h
  simp only [Bool.and_eq_true, Bool.or_eq_true, List.all_eq_true, decide_eq_true_eq] at h
  obtain ⟨⟨h1, h2⟩, h3⟩ := h
  refine ⟨h1, ?_, h3⟩
  rcases h2 with h2 | h2
  · refine .inl fun d hd => ?_
    have q := h2 d hd
    unfold isTup1 at q
    split at q
    · exact ⟨_, _, rfl⟩
    · cases q
  · refine .inr fun d hd => ?_
    have q := h2 d hd
    unfold noTup at q
    split at q
    · cases q
    · cases q
    · rename_i n1 n2
      exact ⟨n2, fun xs z => n1 xs z⟩
def keysL (m : MF) : List P → SH → Option (List (P × PyData) × SH)
  | [], S => some ([], S)
  | p :: r, S => bnd (m [.p p] S) fun k S1 => match k with
    | .p q => match pyOf 60 q with
      | some d => bnd (keysL m r S1) fun l S2 => some ((p, d) :: l, S2)
      | none => none
    | _ => none
def sortK (live : Bool) (m : MF) (d : D) (S : SH) : Option (D × SH) := match asL d S with
  | some ds => match toPs ds with
    | some ps => bnd (keysL m ps S) fun l S1 => if okKeys (l.map (·.2)) = true then newL live ((l.mergeSort (PySem.W.dataLe false (·.2))).map fun x => D.p x.1) S1 else none
    | none => none
  | none => none
def dSortK (live : Bool) (m : MF) (me : ME) : ME := fun σ S => bnd (me σ S) (sortK live m)
section
variable {X : Cx} {cl : ClW} {pins : List (Addr × Obj)} {σ : L2.St} {F H : Hp} {s : Shared}
theorem rdAll (I : L2.Inv X pins σ H s) (sf : Same F H) {k : Nat} (ih : ∀ (p : P) (d : PyData) (v : V) (u : Value), pyOf k p = some d → Rp X.K cl F p v → RelV v u → Reads s.heap u d []) :
    ∀ (ps : List P) (ds : List PyData) (vs : List V) (us : List Value), allSome (ps.map (pyOf k)) = some ds → RpA X.K cl F ps vs → Vals vs us → ReadsAll s.heap us ds [] := by
  intro ps
  induction ps with
  | nil =>
    intro ds vs us e r q
    cases r; cases q
    have e' : ([] : List PyData) = ds := Option.some.inj e
    subst e'
    exact .nil
  | cons p ps hi =>
    intro ds vs us e r q
    cases r with
    | cons r1 r2 =>
      cases q with
      | cons q1 q2 =>
        rw [List.map_cons] at e
        cases e1 : pyOf k p with
        | none => rw [e1] at e; cases e
        | some d =>
          rw [e1] at e
          cases e2 : allSome (ps.map (pyOf k)) with
          | none => rw [allSome, e2] at e; cases e
          | some ds' =>
            rw [allSome, e2] at e
            have e' : d :: ds' = ds := Option.some.inj e
            subst e'
            have q := ReadsAll.cons (ih _ _ _ _ e1 r1 q1) (hi _ _ _ e2 r2 q2)
            exact q
theorem rdR (I : L2.Inv X pins σ H s) (sf : Same F H) : ∀ (k : Nat) (p : P) (d : PyData) (v : V) (u : Value), pyOf k p = some d → Rp X.K cl F p v → RelV v u → Reads s.heap u d [] := by
  intro k
  induction k with
  | zero =>
    intro p d v u e r q
    cases r <;> first | (cases e; done) | skip
    · cases e; cases q; exact .none
    · cases e; cases q; exact .bool _
    · cases e; obtain ⟨t, rfl⟩ := q; exact .int _ t
    · cases e; obtain ⟨t, rfl⟩ := q; exact .str _ t
  | succ k ih =>
    intro p d v u e r q
    cases r <;> first | (cases e; done) | skip
    · cases e; cases q; exact .none
    · cases e; cases q; exact .bool _
    · cases e; obtain ⟨t, rfl⟩ := q; exact .int _ t
    · cases e; obtain ⟨t, rfl⟩ := q; exact .str _ t
    · rename_i a ps vs st ra
      cases q
      rw [pyOf] at e
      cases e1 : allSome (ps.map (pyOf k)) with
      | none => rw [e1] at e; cases e
      | some ds =>
        rw [e1] at e
        have e' : PyData.tuple ds = d := Option.some.inj e
        subst e'
        obtain ⟨its, rv, ⟨o, n, h1, h2, h3⟩, _⟩ := I.tuple (SqT.mono sf st)
        exact .tuple ‹_› ‹_› ‹_› (rdAll I sf ih ps ds vs its e1 ra rv)
theorem map_fst_of {α β : Type} {l : List (α × β)} : ∀ {ps : List α}, l.map (·.1) = ps → l.length = ps.length := fun h => by rw [← h, List.length_map]
theorem keysL_fst {m : MF} : ∀ {ps : List P} {S S1 : SH} {l : List (P × PyData)}, keysL m ps S = some (l, S1) → l.map (·.1) = ps
  | [], S, S1, l, h => by cases h; rfl
  | p :: r, S, S1, l, h => by
    unfold keysL at h
    obtain ⟨k, S2, e1, h⟩ := bnd_of h
    cases k with
    | ref n => cases h
    | p q =>
      dsimp only at h
      cases e2 : pyOf 60 q with
      | none => rw [e2] at h; cases h
      | some d =>
        rw [e2] at h
        obtain ⟨l', S3, e3, h⟩ := bnd_of h
        cases h
        rw [List.map_cons, keysL_fst e3]

theorem vals_at : ∀ {xs : List V} {us : List Value} {i : Nat} {u : Value}, Vals xs us → us[i]? = some u → ∃ x, xs[i]? = some x ∧ RelV x u
  | _, _, _, _, .nil, e => by simp at e
  | _, _, 0, _, .cons r _, e => by simp at e; subst e; exact ⟨_, rfl, r⟩
  | _, _, i + 1, u, .cons _ t, e => by
    obtain ⟨x, h1, h2⟩ := vals_at (i := i) (u := u) t (by simpa using e)
    exact ⟨x, by simpa using h1, h2⟩
theorem rpa_snoc {K : PySem.W.Frag} {p : P} {v : V} (r : Rp K cl F p v) : ∀ {ps : List P} {vs : List V}, RpA K cl F ps vs → RpA K cl F (ps ++ [p]) (vs ++ [v])
  | _, _, .nil => .cons r .nil
  | _, _, .cons a b => .cons a (rpa_snoc r b)
theorem upd_none {h : Heap} {a b : Addr} {o : Obj} (e : h.get? b = some o) (n : b ≠ a) {f : Obj → Obj} : (h.update a f).get? b = some o := (Heap.get?_update_ne _ _ _ _ n).trans e
/-- a heap without the object at a -/
def lessH (h : Heap) (a : Addr) : Heap := h.update a fun o => { o with data := .freed }
theorem lessH_at (h : Heap) (a : Addr) : (lessH h a).get? a = none := by
  unfold lessH Heap.get?
  rw [Heap.objs_update_self]
  cases h.objs[a]? <;> rfl
theorem rp_each {K : PySem.W.Frag} : ∀ {l : List (P × PyData)} {vs : List V} {us : List Value}, RpA K cl F (l.map (·.1)) vs → Vals vs us → PySem.W.EachIs (fun (u : Value) (x : P × PyData) => ∃ v, RelV v u ∧ Rp K cl F x.1 v) us l
  | [], _, _, r, q => by
    cases r; cases q; exact .nil
  | x :: l, _, _, r, q => by
    rw [List.map_cons] at r
    cases r with
    | cons r1 r2 =>
      cases q with
      | cons q1 q2 => exact .cons ⟨_, q1, r1⟩ (rp_each r2 q2)
theorem each_rp {K : PySem.W.Frag} : ∀ {l : List (P × PyData)} {us : List Value}, PySem.W.EachIs (fun (u : Value) (x : P × PyData) => ∃ v, RelV v u ∧ Rp K cl F x.1 v) us l → ∃ vs : List V, Vals vs us ∧ RpA K cl F (l.map (·.1)) vs
  | _, _, .nil => ⟨[], .nil, .nil⟩
  | _, _, .cons ⟨v, q1, r1⟩ e => by
    obtain ⟨vs, q2, r2⟩ := each_rp e
    exact ⟨v :: vs, .cons q1 q2, .cons r1 r2⟩
theorem key_each (I : L2.Inv X pins σ H s) (sf : Same F H) : ∀ {l : List (P × PyData)} {kps : List P} {kv : List V} {us : List Value}, kps.map (pyOf 60) = l.map (fun x => some x.2) → RpA X.K cl F kps kv → Vals kv us → PySem.W.EachIs (fun v d => ∃ as, Reads s.heap v d as) us (l.map (·.2))
  | [], [], _, _, _, r, q => by
    cases r; cases q; exact .nil
  | [], _ :: _, _, _, e, _, _ => by cases e
  | _ :: _, [], _, _, e, _, _ => by cases e
  | x :: l, p :: kps, _, _, e, r, q => by
    rw [List.map_cons, List.map_cons] at e
    injection e with e1 e2
    cases r with
    | cons r1 r2 =>
      cases q with
      | cons q1 q2 => exact .cons ⟨[], rdR I sf 60 _ _ _ _ e1 r1 q1⟩ (key_each I sf e2 r2 q2)
def rSortK (K : PySem.W.Frag) (cl : ClW) (live : Bool) (m : MF) (f : Addr) : List V → List V → Hp → VK → Prop := fun vs zs H Q => zs = [V.ref f] ∧ ∃ d v S B F φ, vs = [v] ∧ Sim K cl S B F φ H ∧ DR K cl F φ d v ∧ d.lt S.len ∧ OkE K cl S B F φ H (sortK live m d S) Q
theorem fpAt {H' : Hp} {b : Addr} (f : FpOk X pins H b) (n : H' b = none) : FpOk X pins H' b := ⟨n, f.2⟩
theorem pins2 {a b : Addr} {oa ob : Obj} (I : L2.Inv X pins σ H s) (fa : FpOk X pins H a) (fb : FpOk X pins H b) (ha : s.heap.get? a = some oa) (hb : s.heap.get? b = some ob) (ca : ∀ v, oa.data ≠ .cell v) (cb : ∀ v, ob.data ≠ .cell v) : L2.Inv X (pins ++ [(a, oa), (b, ob)]) σ H s := by
  refine I.pins_of fun p hp => ?_
  rcases List.mem_append.mp hp with hp | hp
  · exact I.pin p (List.mem_append_right _ hp)
  · rcases List.mem_cons.mp hp with rfl | hp
    · exact ⟨ha, fa.1, fa.2.1, fa.2.2.1, ca⟩
    · rw [List.mem_singleton.mp hp]
      exact ⟨hb, fb.1, fb.2.1, fb.2.2.1, cb⟩
theorem sortK_run {k : Nat} {f : Addr} {fd : FuncData} {ps0 : List Str} {m : MF} {live : Bool} (FN : FnOk X.prog X.w X.K X.mg X.base CX0 k f fd ps0 (spOf X.K cl m)) (hr : Room (k + 2) X.A) (hb : Binds X.K fd ps0 []) : CallRK X (.builtin "sorted") [Str.ofString "key"] (rSortK X.K cl live m f) := by
  intro pins s σ H vs zs us ws Q I rv rz h
  obtain ⟨rfl, d, v, S, B, F0, φ, rfl, sim, dr, l, o⟩ := h
  obtain rfl := Vals.ref1 rz
  unfold sortK at o
  cases e1 : asL d S with
  | none => rw [e1] at o; obtain ⟨_, _, z, _⟩ := o; cases z
  | some ds =>
  rw [e1] at o
  dsimp only at o
  cases e2 : toPs ds with
  | none => rw [e2] at o; obtain ⟨_, _, z, _⟩ := o; cases z
  | some ps =>
  rw [e2] at o
  dsimp only at o
  obtain ⟨la, xs, rfl, hs, ra, lx⟩ := asL_ok sim e1 dr l
  obtain rfl := toPs_of e2
  obtain ⟨l0, S1, ek, o⟩ := okE_bnd o
  by_cases hok : okKeys (l0.map (·.2)) = true
  case neg => rw [if_neg hok] at o; obtain ⟨_, _, z, _⟩ := o; cases z
  rw [if_pos hok] at o
  obtain ⟨hal, hsk, hdp⟩ := okKeys_of hok
  obtain ⟨its, rvi, hl, hz⟩ := I.list hs
  obtain rfl := Vals.ref1 rv
  have ra0 : RpA X.K cl F0 ps xs := ra.rpa
  have hil : its.length = xs.length := rvi.length.symm
  have hpl : ps.length = xs.length := ra0.len
  have hl0 : l0.map (·.1) = ps := keysL_fst ek
  have hll : l0.length = ps.length := map_fst_of hl0
  refine PySem.W.sorted_of_sort hl.isList (by omega) (ksk_s1 _ _) (fun _ => ksk_l1 _ _) fun E' => ?_
  show wpAny (model X.prog X.w) X.A.in1.in1 (ksk_tree (s.heap.objs.size + 1) (.ref f) false) _ E' _
  have n1 := PySem.W.copyHeap_at s.heap its
  generalize hG : PySem.W.copyHeap s.heap its = G at n1
  have kG : ∀ b u, s.heap.get? b = some u → G.get? b = some u := fun b u e => by rw [← hG]; exact PySem.W.copyHeap_old e
  have zG : s.heap.objs.size + 1 < G.objs.size := Heap.lt_size n1
  generalize hA : s.heap.objs.size + 1 = A1 at n1 zG
  have nA : ∀ b u, s.heap.get? b = some u → b ≠ A1 := fun b u e z => absurd (Heap.lt_size e) (by rw [z, ← hA]; exact Nat.not_lt.mpr (Nat.le_succ _))
  obtain ⟨e1', n2⟩ : ∃ q, (G.update A1 (Obj.mapSeq fun _ => (#[] : Array Value))).get? A1 = some (seqObj "list" #[] q) := ⟨_, get?_update_seq n1 fun _ => #[]⟩
  unfold ksk_tree
  refine wpAny_bind (listItems_at n1 rfl ?_)
  refine wpAny_bind (listUpdate_at n1 rfl ?_ (by rw [List.size_toArray]; omega) (Nat.zero_le _))
  refine wpAny_bind (seqEpoch_at n2 rfl ?_)
  refine wpAny_bind (wpAny_newTuple ?_ (by show its.length ≤ _; omega))
  refine wpAny_bind (wpAny_newList ?_ (Nat.zero_le _))
  refine wpAny_holding ?_
  have n3 := Heap.get?_push_size (((G.update A1 (Obj.mapSeq fun _ => (#[] : Array Value))).push (seqObj "tuple" its.toArray 0))) (o := seqObj "list" #[] 0) rfl
  have zU : (G.update A1 (Obj.mapSeq fun _ => (#[] : Array Value))).objs.size = G.objs.size := Heap.size_update _ _ _
  have zP : ((G.update A1 (Obj.mapSeq fun _ => (#[] : Array Value))).push (seqObj "tuple" its.toArray 0)).objs.size = G.objs.size + 1 := by rw [size_push', zU]
  have n4 : (((G.update A1 (Obj.mapSeq fun _ => (#[] : Array Value))).push (seqObj "tuple" its.toArray 0)).push (seqObj "list" #[] 0)).get? A1 = some (seqObj "list" #[] e1') := Heap.get?_push_of_some _ (Heap.get?_push_of_some _ n2)
  have kT : ∀ b u, s.heap.get? b = some u → (((G.update A1 (Obj.mapSeq fun _ => (#[] : Array Value))).push (seqObj "tuple" its.toArray 0)).push (seqObj "list" #[] 0)).get? b = some u := fun b u e =>
    Heap.get?_push_of_some _ (Heap.get?_push_of_some _ (upd_none (kG b u e) (nA b u e)))
  show wpAny _ _ (ksk_rest A1 (.ref f) false its.toArray e1' (.ref ((G.update A1 (Obj.mapSeq fun _ => (#[] : Array Value))).push (seqObj "tuple" its.toArray 0)).objs.size)) _ _ { s with heap := ((G.update A1 (Obj.mapSeq fun _ => (#[] : Array Value))).push (seqObj "tuple" its.toArray 0)).push (seqObj "list" #[] 0) }
  rw [zP] at n3 ⊢
  generalize (((G.update A1 (Obj.mapSeq fun _ => (#[] : Array Value))).push (seqObj "tuple" its.toArray 0)).push (seqObj "list" #[] 0)) = T at n3 n4 kT ⊢
  have hne : A1 ≠ G.objs.size + 1 := by omega
  generalize hK : G.objs.size + 1 = KS at n3 hne ⊢
  have fA : FpOk X pins H A1 := I.fpOk (by omega) (I.hok.fresh (by omega))
  have fK : FpOk X pins H KS := I.fpOk (by omega) (I.hok.fresh (by omega))
  have I0 := I.kept (t' := s.toks) kT
  have nc : ∀ (xs : Array Value) (n : Nat) (v : Option Value), (seqObj "list" xs n).data ≠ .cell v := fun xs n v z => by cases z
  unfold ksk_rest
  refine wpAny_bind (wpAny_rule ?_)
  first
    | rw [List.forIn_toArray]
    | (rw [← Array.forIn_toList]; simp only [List.toList_toArray])
  refine wpAny_bind (ksk_fold (fun i s' => ∃ S2 F2 φ2 H2 kA e l1 l2 kps kv, L2.Inv X (pins ++ [(A1, seqObj "list" #[] e1'), (KS, seqObj "list" kA e)]) σ H2 s' ∧ Sim X.K cl S2 B F2 φ2 H2 ∧ Ext S F0 φ H S2 F2 φ2 H2 ∧ keysL m (ps.drop i) S2 = some (l2, S1) ∧ l0 = l1 ++ l2 ∧ l1.length = i ∧ Vals kv kA.toList ∧ RpA X.K cl F2 kps kv ∧ kps.map (pyOf 60) = l1.map (fun x => some x.2)) its 0 _
    ⟨S, F0, φ, H, #[], 0, [], l0, [], [], pins2 I0 fA fK n4 n3 (nc _ _) (nc _ _), sim, .refl sim, ek, rfl, rfl, .nil, .nil, rfl⟩ ?step ?done)
  case step =>
    rintro j x s' hx ⟨S2, F2, φ2, H2, kA, e, l1, l2, kps, kv, I2, sm, ex, ek2, hla, hlb, rk, rpk, hkp⟩
    simp only [Nat.zero_add] at ek2 hlb ⊢
    have hj : j < its.length := (List.getElem?_eq_some_iff.mp hx).1
    obtain ⟨y, hy, ry⟩ := vals_at rvi hx
    obtain ⟨p, hp, rp⟩ := ra0.get hy
    have hd : ps.drop j = p :: ps.drop (j + 1) := by
      obtain ⟨hp1, hp2⟩ := List.getElem?_eq_some_iff.mp hp
      rw [List.drop_eq_getElem_cons hp1, hp2]
    rw [hd] at ek2
    unfold keysL at ek2
    obtain ⟨kd, S3, em, ek2⟩ := bnd_of ek2
    cases kd with
    | ref n => cases ek2
    | p q =>
    dsimp only at ek2
    cases e3 : pyOf 60 q with
    | none => rw [e3] at ek2; cases ek2
    | some dk =>
    rw [e3] at ek2
    obtain ⟨l3, S4, e4, ek2⟩ := bnd_of ek2
    cases ek2
    have hsp : spOf X.K cl m [y] H2 (fun w H3 => ∃ F3 φ3, Sim X.K cl S3 B F3 φ3 H3 ∧ Ext S2 F2 φ2 H2 S3 F3 φ3 H3 ∧ Rp X.K cl F3 q w) (fun _ _ _ => False) :=
      ⟨[.p p], S2, B, F2, φ2, sm, .cons (Rp.mono ex.fz rp) .nil, fun z hz => by rw [List.mem_singleton.mp hz]; trivial, .p q, S3, em, fun F3 φ3 H3 u s3 x3 r3 l3 => ⟨F3, φ3, s3, x3, r3⟩⟩
    have hlen : [x].length = ps0.length := FN.len _ _ _ _ hsp
    have pA := I2.pin (A1, seqObj "list" #[] e1') (by simp)
    refine wpAny_bind (wpAny_attempt (wpAny_mono (Q := EP X (pins ++ [(A1, seqObj "list" #[] e1'), (KS, seqObj "list" kA e)]) σ (fun w H3 => ∃ F3 φ3, Sim X.K cl S3 B F3 φ3 H3 ∧ Ext S2 F2 φ2 H2 S3 F3 φ3 H3 ∧ Rp X.K cl F3 q w)) (E := fun _ _ => False) (wpAny_call (codeAny_mono (FN.run X.A.in1.in1 X.stack s' H2 ⟨[x], []⟩ [x] [y] _ _ hr.in1.in1 I2.env0.in1.in1 (by
      have bb := hb s' [x] I2.kIn (by rw [List.append_nil]; exact hlen)
      rw [List.append_nil] at bb
      exact bb) (.cons ry .nil) hsp) fun r s'' hq => ?_)) (fun u s'' he => ?_) fun _ _ hF => hF.elim))
    · cases r with
      | error e => exact hq.elim
      | ok fl =>
        cases fl with
        | ret u => exact I2.after hq
        | next => exact False.elim hq
        | brk => exact False.elim hq
        | cont => exact False.elim hq
    · obtain ⟨w, H3, I3, rw', F3, φ3, sm3, ex3, rq⟩ := he
      dsimp only
      have qA := I3.pin (A1, seqObj "list" #[] e1') (by simp)
      have qK := I3.pin (KS, seqObj "list" kA e) (by simp)
      have nk2 : s''.heap.get? KS = some (seqObj "list" kA e) := qK.1
      have na2 : s''.heap.get? A1 = some (seqObj "list" #[] e1') := qA.1
      have hks : kA.size = j := by
        have t1 : kv.length = kA.size := rk.length
        have t2 : kps.length = kv.length := rpk.len
        have t3 := congrArg List.length hkp
        rw [List.length_map, List.length_map] at t3
        rw [← t1, ← t2, t3, hlb]
      obtain ⟨c2, hc2⟩ : ∃ c2, (s''.heap.update KS (Obj.mapSeq (·.push u))).get? KS = some (seqObj "list" (kA.push u) c2) := ⟨_, get?_update_seq nk2 (·.push u)⟩
      refine wpAny_bind (listUpdate_at nk2 rfl ?_ (by omega) (by rw [Array.size_push]; omega))
      refine wpAny_pure ⟨rfl, S3, F3, φ3, H3, kA.push u, c2, l1 ++ [(p, dk)], l3, kps ++ [q], kv ++ [w], ?_, sm3, ex.trans ex3, e4, by rw [hla, List.append_assoc]; rfl, by rw [List.length_append, hlb]; rfl, ?_, ?_, by rw [List.map_append, List.map_append, hkp]; simp [e3]⟩
      · have I4 : L2.Inv X pins σ H3 s'' := I3.pins_of fun p hp => I3.pin p (by simp [hp])
        have fK3 : FpOk X pins H3 KS := fpAt fK qK.2.1
        have I5 := I4.turned (t' := s''.toks) (h' := s''.heap.update KS (Obj.mapSeq (·.push u))) (it := KS) (fun b o hb e => upd_none e hb) qK.2.1 fK3.2.1 fK3.2.2.2.1 fK3.2.2.2.2.1 fK3.2.2.2.2.2
        exact pins2 I5 (fpAt fA qA.2.1) fK3 (upd_none na2 hne) hc2 (nc _ _) (nc _ _)
      · rw [Array.toList_push]
        exact rk.append (.cons rw' .nil)
      · exact rpa_snoc rq (RpA.mono ex3.fz rpk)
  case done =>
    rintro s' ⟨S2, F2, φ2, H2, kA, e, l1, l2, kps, kv, I2, sm, ex, ek2, hla, hlb, rk, rpk, hkp⟩
    have hdn : ps.drop (0 + its.length) = [] := List.drop_eq_nil_of_le (by omega)
    rw [hdn] at ek2
    cases ek2
    rw [List.append_nil] at hla
    subst hla
    have qA := I2.pin (A1, seqObj "list" #[] e1') (by simp)
    have qK := I2.pin (KS, seqObj "list" kA e) (by simp)
    have nk : s'.heap.get? KS = some (seqObj "list" kA e) := qK.1
    have na : s'.heap.get? A1 = some (seqObj "list" #[] e1') := qA.1
    have hea := key_each I2 sm.le hkp rpk rk
    have hsz : kA.size = its.length := by
      have t1 := hea.length
      rw [Array.length_toList, List.length_map] at t1
      omega
    have kp : PySem.W.KeepsBut A1 (lessH s'.heap KS) s'.heap := fun b o hb q => by
      by_cases hbk : b = KS
      · rw [hbk, lessH_at] at q; cases q
      · rw [← q]; exact (Heap.get?_update_ne _ _ _ _ hbk).symm
    refine wpAny_bind (listItems_at nk rfl ?_)
    have un : X.A.in1.in1.units = X.A.units + 2 := rfl
    refine PySem.W.keyH_end (κ := PySem.W.dataKind s'.heap (l0.map (·.2))) (h₁ := lessH s'.heap KS) kp (lessH_at _ _) nk na hne.symm (PySem.W.SortsAt.data (s := s') hea hal hsk fun d hd => by
      have t1 := hdp d hd
      have t2 := hr.un
      omega) hsz (by omega) fun h' tk c k' n' => ?_
    have keep : ∀ b o, b ∉ [A1, KS] → s'.heap.get? b = some o → h'.get? b = some o := fun b o hb q => by
      rw [List.mem_cons, List.mem_singleton, not_or] at hb
      exact k' b o hb.1 (upd_none q hb.2)
    have ko : PySem.W.KeyedOut false (l0.map (·.2)) its (PySem.W.sortVals (PySem.W.dataKind s'.heap (l0.map (·.2))) false kA.toList its) := ⟨s'.heap, kA.toList, hal, rfl, hea⟩
    have ra2 : RpA X.K cl F2 (l0.map (·.1)) xs := by rw [hl0]; exact RpA.mono ex.fz ra0
    obtain ⟨vs', rv', rp'⟩ := each_rp (PySem.W.keyedOut_each (fun x : P × PyData => x.2) ko (rp_each ra2 rvi))
    have I4 : L2.Inv X pins σ H2 s' := I2.pins_of fun p hp => I2.pin p (by simp [hp])
    have fA2 : FpOk X pins H2 A1 := fpAt fA qA.2.1
    have I5 := I4.turnedL (t' := tk) (h' := h') keep fun b hb => by
      rcases List.mem_cons.mp hb with rfl | hb
      · exact fA2
      · rw [List.mem_singleton.mp hb]; exact fpAt fK qK.2.1
    have dr' : DRA X.K cl F2 φ2 ((l0.mergeSort (PySem.W.dataLe false (·.2))).map fun x => D.p x.1) vs' := by
      have q := rp'.dra (φ := φ2)
      rw [List.map_map] at q
      exact q
    have o' := OkE.ext ex o
    obtain ⟨hz', w'⟩ := newL_ok1 o' sm dr' (fun z hz => by
      obtain ⟨y, _, rfl⟩ := List.mem_map.mp hz
      trivial)
    refine ⟨rfl, .ref A1, upd H2 A1 (.lst vs'), ?_, rfl, w' A1 qA.2.1⟩
    exact I5.take (fun _ _ _ q => q) fA2 ⟨hz', _, c, rv', n'⟩

theorem k_sortK {k : Nat} {f : Addr} {fd : FuncData} {ps0 : List Str} {m : MF} {live : Bool} {x y : Str} {p q kpos pos : Pos} {e : Expr} {me : ME} (FN : FnOk X.prog X.w X.K X.mg X.base CX0 k f fd ps0 (spOf X.K cl m)) (hr : Room (k + 2) X.A)
    (hg : Gl X x) (hm : X.mg x = none) (hv : bootBuiltins x = some (.builtin "sorted")) (hg2 : Gl X y) (hm2 : X.mg y = some (.ref f)) (hb : Binds X.K fd ps0 []) (he : PE X e (LE X.K cl me))
    (hn : x ≠ "__name__" := by decide) (hdb : (x == ("__debug__" : Str)) = false := by decide) (hdb2 : (y == ("__debug__" : Str)) = false := by decide)
    (hs : starEach [e] X.env = (false, eval e X.env) :: starEach [] X.env := by rfl) (he1 : backTo pos (starEach [e] X.env) = (false, eval e X.env) :: backTo pos (starEach [] X.env) := by rfl) (hpl : (backTo pos (starEach [e] X.env)).any (·.1) = false := by rfl)
    (hall : (backToKw pos (keywordEach [⟨some (Str.ofString "key"), .Name y q, kpos⟩] X.env)).all (·.1.isSome) = true := by rfl) (hnone : (backToKw pos (keywordEach [⟨some (Str.ofString "key"), .Name y q, kpos⟩] X.env)).any (·.1.isNone) = false := by rfl) (hks : (backToKw pos (keywordEach [⟨some (Str.ofString "key"), .Name y q, kpos⟩] X.env)).filterMap (·.1) = [Str.ofString "key"] := by rfl) :
    PE X (.Call (.Name x p) [e] [⟨some (Str.ofString "key"), .Name y q, kpos⟩] pos) (LE X.K cl (dSortK live m me)) := by
  refine (pe_callBK (sortK_run (live := live) FN hr hb) hg hm hv (pa_cons he pa_nil hs) (pk_cons (pe_glob hg2 hm2 (v := V.ref f) rfl hdb2) pk_nil) hn hdb he1 hpl hall hnone hks).imp fun σ H Q h => ?_
  obtain ⟨σd, S, B, F, φ, s, rs, o⟩ := h
  obtain ⟨d, S1, e1, o⟩ := okE_bnd o
  exact LE.then_ s rs e1 fun F1 φ1 H1 v s1 x1 rs1 dr l => ⟨rfl, d, v, S1, B, F1, φ1, rfl, s1, dr, l, OkE.ext x1 o⟩
end
end Pv
/-! a comprehension with two loops -/
namespace Pv
open PySem PySem.Spec PyProof.Rows L2
def compL2 (fin : SH → Bool) (g : MG) (c : MT) (m1 : MI) (g1 : MG) (c1 : MT) (elt : ME) (ws1 : List Nat) (σ : En) : List (SH → Option D) → List D → SH → Option (List D × SH)
  | [], acc, S => if fin S = true then some (acc, S) else none
  | t :: ts, acc, S => match t S with
    | some d => bnd (g d σ S) fun σ1 S1 => bnd (c σ1 S1) fun b S2 => if b = true then
        bnd (m1 σ1 S2) fun src S3 => bnd (compL src.fin g1 c1 elt (wipeD ws1 σ1) src.items acc S3) fun acc' S4 => compL2 fin g c m1 g1 c1 elt ws1 σ ts acc' S4
        else compL2 fin g c m1 g1 c1 elt ws1 σ ts acc S2
    | none => none
def dComp2 (live : Bool) (m : MI) (g : MG) (c : MT) (m1 : MI) (g1 : MG) (c1 : MT) (elt : ME) (vs ws1 : List Nat) : ME := fun σ S => bnd (m σ S) fun src S1 => bnd (compL2 src.fin g c m1 g1 c1 elt ws1 (wipeD vs σ) src.items [] S1) fun ds S2 => newL live ds S2
section
variable {X : Cx} {K : PySem.W.Frag} {cl : ClW} {tg iter tg1 iter1 e : Expr} {pos : Pos} {m m1 : MI} {g g1 : MG} {vs vs1 ws ws1 : List Nat} {mt mt1 : MT} {me : ME}
end
end Pv
/-! .index of texts; tuples of the module -/
namespace Pv
open PySem PySem.Spec PyProof.Rows L2
section
variable {X : Cx} {K : PySem.W.Frag} {cl : ClW}
/-- a tuple of the module -/
def TupC (K : PySem.W.Frag) (v : V) : Prop := ∃ (a : Addr) (o : Obj), v = .ref a ∧ K.lookup a = some o ∧ o.cls = .type "tuple" ∧ o.dict = none
theorem rp_const {F : Hp} {a : Addr} {o : Obj} {its : Array Value} {n : Nat} {ps : List P} {vs : List V} (h : K.lookup a = some o) (hc : o.cls = .type "tuple") (hd : o.data = .seq its n) (hz : its.size ≤ sizeLine) (hv : Vals vs its.toList) (hp : RpA K cl F ps vs) : Rp K cl F (.tup ps) (.ref a) :=
  .tup (.inr ⟨o, its, n, h, hc, hd, hz, hv⟩) hp
/-! ### a text, walked -/
/-! ### a text times a number -/
end
end Pv
/-! the first statements of a def as a block: what they made is data from then on -/
namespace Pv
open PySem PySem.Spec PyProof.Rows L2
theorem sem_assoc {α β γ : Type} (t : Sem α) (f : α → Sem β) (g : β → Sem γ) : (t.bind f).bind g = t.bind fun a => (f a).bind g := by
  induction t with
  | pure a => rfl
  | raise e => rfl
  | unsupported w => rfl
  | finish e => rfl
  | _ => simp only [Sem.bind]; congr 1; funext x; first | (rename_i ih; exact ih x)
theorem execs_app (A B : List Stmt) (env : Env) : execs (A ++ B) env = (do match ← execs A env with | .next => execs B env | f => pure f) := by
  induction A with
  | nil => rfl
  | cons st A ih =>
    rw [List.cons_append, PySem.execs_cons, PySem.execs_cons, ih]
    refine Eq.trans ?_ (sem_assoc _ _ _).symm
    show Sem.bind _ _ = Sem.bind _ _
    congr 1
    funext f
    cases f <;> rfl
section
variable {X : Cx} {cl : ClW} {A B : List Stmt} {t u : TS} {m n : MS}
theorem pss_app (h1 : PSs X A t) (h2 : PSs X B u) : PSs X (A ++ B) (tSeq t u) := by
  refine ⟨fun pins s σ H D I h => ?_⟩
  rw [execs_app]
  refine wpAny_bind (thn (h1.run pins s σ H { D with nx := u D } I h) fun f s1 q => ?_)
  cases f with
  | next =>
    obtain ⟨σ', H', I', q⟩ := q
    exact h2.run pins s1 σ' H' D I' q
  | ret v => exact wpAny_pure q
  | brk => exact wpAny_pure q
  | cont => exact wpAny_pure q
theorem ss_app (h1 : PSs X A (LS X.K cl m)) (h2 : PSs X B (LS X.K cl n)) : PSs X (A ++ B) (LS X.K cl (dSeq m n)) := by
  refine (pss_app h1 h2).imp fun Z σ H q => ?_
  obtain ⟨σd, S, Bs, F, φ, s, rs, o⟩ := q
  obtain ⟨f, S1, e, o⟩ := okS_bnd o
  refine LS.then_ s rs e ?_
  cases f with
  | nx σ1 => exact fun F1 φ1 H1 σ' s1 x1 rs1 => ⟨σ1, S1, Bs, F1, φ1, s1, rs1, o.ext x1⟩
  | ret d => obtain ⟨_, _, z, k⟩ := o; cases z; exact k
  | brk d => obtain ⟨_, _, z, k⟩ := o; cases z; exact k
  | ct d => obtain ⟨_, _, z, k⟩ := o; cases z; exact k
/-- the first k statements as a block -/
theorem ss_pre (k : Nat) {st : List Stmt} (h1 : PSs X (st.take k) (LS X.K cl m)) (h2 : PSs X (st.drop k) (LS X.K cl n)) : PSs X st (LS X.K cl (dSeq (dBlock m) n)) := by
  have h := ss_app (ss_block h1) h2
  rw [List.take_append_drop] at h
  exact h
end
end Pv
/-! the head by one kernel run, the facts of the top by lists -/
namespace Pv
open PySem PySem.Spec PyProof.Rows L2
/-! constants of the module -/
mutual
def cstB (K : PySem.W.Frag) : P → Value → Bool
  | .non, u => (match u with
    | .none => true
    | _ => false)
  | .bl b, u => (match u with
    | .bool c => decide (b = c)
    | _ => false)
  | .int i, u => (match u with
    | .int j _ => decide (i = j)
    | _ => false)
  | .str s, u => (match u with
    | .str t _ => decide (s = t)
    | _ => false)
  | .tup ps, u => (match u with
    | .ref a => (match K.lookup a with
      | some ⟨.type c, none, .seq its _, _⟩ => decide (c = "tuple") && (decide (its.size ≤ sizeLine) && cstBs K ps its.toList)
      | _ => false)
    | _ => false)
  | _, _ => false
def cstBs (K : PySem.W.Frag) : List P → List Value → Bool
  | [], us => (match us with
    | [] => true
    | _ => false)
  | p :: ps, us => (match us with
    | u :: us => cstB K p u && cstBs K ps us
    | [] => false)
end
mutual
theorem cstB_ok {K : PySem.W.Frag} : ∀ (p : P) (u : Value), cstB K p u = true → ∃ v, RelV v u ∧ (∀ (F : Hp) (cl : ClW), Rp K cl F p v) ∧ ((∃ ps, p = .tup ps) → TupC K v)
  | .non, u, h => by
    cases u with
    | none => exact ⟨.non, rfl, fun _ _ => .non, fun ⟨_, e⟩ => by cases e⟩
    | _ => simp [cstB] at h
  | .bl b, u, h => by
    cases u with
    | bool c =>
      have e : b = c := by simpa [cstB] using h
      exact ⟨.bl b, by rw [e]; rfl, fun _ _ => .bl b, fun ⟨_, e⟩ => by cases e⟩
    | _ => simp [cstB] at h
  | .int i, u, h => by
    cases u with
    | int j t =>
      have e : i = j := by simpa [cstB] using h
      exact ⟨.int i, ⟨t, by rw [e]⟩, fun _ _ => .int i, fun ⟨_, e⟩ => by cases e⟩
    | _ => simp [cstB] at h
  | .str s, u, h => by
    cases u with
    | str z t =>
      have e : s = z := by simpa [cstB] using h
      exact ⟨.str s, ⟨t, by rw [e]⟩, fun _ _ => .str s, fun ⟨_, e⟩ => by cases e⟩
    | _ => simp [cstB] at h
  | .tup ps, u, h => by
    cases u with
    | ref a =>
      unfold cstB at h
      dsimp only at h
      cases q : K.lookup a with
      | none => rw [q] at h; cases h
      | some o =>
        obtain ⟨oc, od, dt, osl⟩ := o
        rw [q] at h
        cases oc with
        | type c =>
          cases od with
          | none =>
            cases dt with
            | seq its n =>
              have h1 : (decide (c = "tuple") && (decide (its.size ≤ sizeLine) && cstBs K ps its.toList)) = true := h
              rw [Bool.and_eq_true, Bool.and_eq_true, decide_eq_true_eq, decide_eq_true_eq] at h1
              obtain ⟨h1, h2, h3⟩ := h1
              obtain ⟨vs, hv, hp⟩ := cstBs_ok ps its.toList h3
              exact ⟨.ref a, rfl, fun F cl => rp_const q (by rw [h1]) rfl h2 hv (hp F cl), fun _ => ⟨a, _, rfl, q, by rw [h1], rfl⟩⟩
            | _ => cases h
          | some d => cases dt <;> cases h
        | _ => cases od <;> cases dt <;> cases h
    | _ => simp [cstB] at h
  | .lst _, u, h => by simp [cstB] at h
  | .dK _, u, h => by simp [cstB] at h
  | .dT _, u, h => by simp [cstB] at h
  | .ins _ _, u, h => by simp [cstB] at h
theorem cstBs_ok {K : PySem.W.Frag} : ∀ (ps : List P) (us : List Value), cstBs K ps us = true → ∃ vs, Vals vs us ∧ ∀ (F : Hp) (cl : ClW), RpA K cl F ps vs
  | [], us, h => by
    cases us with
    | nil => exact ⟨[], .nil, fun _ _ => .nil⟩
    | cons u us => simp [cstBs] at h
  | p :: ps, us, h => by
    cases us with
    | nil => simp [cstBs] at h
    | cons u us =>
      unfold cstBs at h
      rw [Bool.and_eq_true] at h
      obtain ⟨v, h1, h2, _⟩ := cstB_ok p u h.1
      obtain ⟨vs, h3, h4⟩ := cstBs_ok ps us h.2
      exact ⟨v :: vs, .cons h1 h3, fun F cl => .cons (h2 F cl) (h4 F cl)⟩
end
def chkC (K : PySem.W.Frag) (x : Str × P) : Bool := match PySem.W.nsIn K mainGlobals x.1 with
  | some (some u) => cstB K x.2 u
  | _ => false
/-! the Hook -/
abbrev AlC : Type := Bool × List (List He.FnV)
def obsC (fas : List (List He.Fa)) (fns : List (List He.FnD)) (cs : List (Str × P)) (K : PySem.W.Frag) : AlC := ((fas.all fun l => l.all fun f => f.ok K) && ((fns.all fun l => l.all fun d => (He.Fa.code d.at_ d.qual).ok K && PySem.W.keepIn K (.ref (He.fAd K d.at_))) && cs.all (chkC K)), fns.map fun l => l.map fun d => He.fnObs K d.at_)
def valC (fns : List (List He.FnD)) : AlC := (true, fns.map fun l => l.map He.FnD.val)
def SaysC (fas : List (List He.Fa)) (fns : List (List He.FnD)) (cs : List (Str × P)) (K : PySem.W.Frag) : Prop := obsC fas fns cs K = valC fns
/-- what the globals name, and what that names, ahead of the rest: the looks into the list are short so -/
def rfV : Value → List Addr
  | .ref a => [a]
  | _ => []
def rfO (o : Obj) : List Addr := match o.data with
  | .dict es _ => es.toList.flatMap fun e => rfV e.val
  | .func fd => rfV fd.code
  | .cls cd => [cd.ns]
  | _ => []
def hotA (g : Addr → Option Obj) (a : Addr) : List Addr := match g a with
  | some o => rfO o
  | none => []
def hotN (g : Addr → Option Obj) : Nat → List Addr → List Addr
  | 0, _ => []
  | n + 1, as => as ++ hotN g n (as.flatMap (hotA g))
def hots (g : Addr → Option Obj) : List Addr := mainGlobals :: hotN g 4 (hotA g mainGlobals)
def obsCG (n : Nat) (fas : List (List He.Fa)) (fns : List (List He.FnD)) (cs : List (Str × P)) (g : Addr → Option Obj) : AlC := obsC fas fns cs (He.frG g (hots g ++ List.range n))
def hookC (n : Nat) (fas : List (List He.Fa)) (fns : List (List He.FnD)) (cs : List (Str × P)) : PySem.W.Hook where
  α := AlC
  obs := fun s => obsCG n fas fns cs s.heap.get?
  val := fun _ => valC fns
  says := fun _ h => ∃ K : PySem.W.Frag, K.In h ∧ SaysC fas fns cs K
  of := fun _ _ e => ⟨_, He.frG_in, e⟩
  keeps := fun _ _ _ ⟨K, hK, c⟩ k => ⟨K, PySem.W.Frag.In.keeps hK k, c⟩
theorem obsCG_eq {n : Nat} {fas : List (List He.Fa)} {fns : List (List He.FnD)} {cs : List (Str × P)} {g : Addr → Option Obj} {s : Shared} (h : ∀ a, g a = s.heap.get? a) : obsCG n fas fns cs g = (hookC n fas fns cs).obs s := by
  have e : g = s.heap.get? := funext h
  rw [e] <;> rfl
section
variable {fas : List (List He.Fa)} {fns : List (List He.FnD)} {cs : List (Str × P)} {K : PySem.W.Frag} (c : SaysC fas fns cs K)
include c
theorem SaysC.all : ((fas.all fun l => l.all fun f => f.ok K) && ((fns.all fun l => l.all fun d => (He.Fa.code d.at_ d.qual).ok K && PySem.W.keepIn K (.ref (He.fAd K d.at_))) && cs.all (chkC K))) = true := congrArg (fun z : AlC => z.1) c
theorem SaysC.fact (q i : Nat) {l : List He.Fa} {f : He.Fa} (hq : fas[q]? = some l := by rfl) (hi : l[i]? = some f := by rfl) : f.ok K = true :=
  List.all_eq_true.mp (List.all_eq_true.mp (He.ba c.all).1 l (List.mem_of_getElem? hq)) f (List.mem_of_getElem? hi)
theorem SaysC.fun_ (q i : Nat) {l : List He.FnD} {a : Str × Option Str} {x qual : Str} {st : Stmt} (hq : fns[q]? = some l := by rfl) (hi : l[i]? = some ⟨a, x, qual, defArgs st, defBody st, defScope st⟩ := by rfl) : ∃ fd, Fun K x qual st (He.fAd K a) fd := by
  obtain ⟨h1, h2⟩ := He.ba (List.all_eq_true.mp (List.all_eq_true.mp (He.ba (He.ba c.all).2).1 l (List.mem_of_getElem? hq)) _ (List.mem_of_getElem? hi))
  have e : (fns.map fun l => l.map fun d => He.fnObs K d.at_) = fns.map fun l => l.map He.FnD.val := congrArg (fun z : AlC => z.2) c
  have e2 : (fns.map fun l => l.map fun d => He.fnObs K d.at_)[q]? = (fns.map fun l => l.map He.FnD.val)[q]? := by rw [e]
  rw [List.getElem?_map, List.getElem?_map, hq, Option.map_some, Option.map_some] at e2
  have e3 : (l.map fun d => He.fnObs K d.at_)[i]? = (l.map He.FnD.val)[i]? := by rw [Option.some.inj e2]
  rw [List.getElem?_map, List.getElem?_map, hi] at e3
  obtain ⟨oc, od, osl, kV, doc, pm, an, cdv, ct, h3, h4⟩ := He.fn_ok (Option.some.inj e3) h1
  exact ⟨_, fun_mk h3 h4 h2⟩
theorem SaysC.cst {h : Heap} {mg : Str → Option Value} (X : K.In h) (G : h.Ns mainGlobals mg) (i : Nat) {x : Str} {p : P} (hi : cs[i]? = some (x, p) := by rfl) : ∃ (u : Value) (v : V), mg x = some u ∧ RelV v u ∧ (∀ (F : Hp) (cl : ClW), Rp K cl F p v) ∧ ((∃ ps, p = .tup ps) → TupC K v) := by
  have h1 := List.all_eq_true.mp (He.ba (He.ba c.all).2).2 _ (List.mem_of_getElem? hi)
  unfold chkC at h1
  dsimp only at h1
  cases e : PySem.W.nsIn K mainGlobals x with
  | none => rw [e] at h1; cases h1
  | some o =>
    rw [e] at h1
    cases o with
    | none => cases h1
    | some u =>
      obtain ⟨v, h2, h3, h4⟩ := cstB_ok p u h1
      exact ⟨u, v, PySem.W.mg_of X G e, h2, h3, h4⟩
end
theorem fun_w {K : PySem.W.Frag} {x qual : Str} {st : Stmt} {f : Addr} {fd : FuncData} {y : Str} (F : Fun K x qual st f fd) (h : ∀ (kV doc pm : Value) (an : Option Addr) (cdv ct : Value) (u : Value), bindArgs (PySem.W.fnOf x qual (defArgs st) (defBody st) (defScope st) .none kV doc pm an cdv ct) ⟨[u], []⟩ = pure [(y, u)]) : ∀ (s : Shared) (v : Value), BindsTo s fd ⟨[v], []⟩ [(y, v)] := fun s v => by
  obtain ⟨oc, od, kV, doc, pm, an, cdv, ct, osl, rfl, lk, hcd⟩ := F.ex
  exact .of_eq (h kV doc pm an cdv ct v)
end Pv
/-! dicts whose keys are data, by value -/
namespace Pv
open PySem PySem.Spec PyProof.Rows L2
/-! the entries -/
def valE (vs : List Ent) (k : NestedKey) : Option V := (vs.find? fun x => decide (x.1 = k)).map (·.2.2)
def putE (vs : List Ent) (k : NestedKey) (b : Addr) (v : V) : List Ent := if (valE vs k).isSome = true then vs.map fun x => if x.1 = k then (x.1, x.2.1, v) else x else vs ++ [(k, b, v)]
theorem valE_pos {p : Ent} {r : List Ent} {k : NestedKey} (e : p.1 = k) : valE (p :: r) k = some p.2.2 := by simp [valE, List.find?_cons, e]
theorem valE_neg {p : Ent} {r : List Ent} {k : NestedKey} (e : ¬ p.1 = k) : valE (p :: r) k = valE r k := by simp [valE, List.find?_cons, e]
theorem ent_val {vs : List Ent} {xs : List (NestedKey × Addr × Value)} (r : Paired EntR vs xs) (k : NestedKey) : RelO (valE vs k) ((atKey xs k).map (·.2)) := by
  induction r with
  | nil => exact True.intro
  | @cons p q ps qs h t ih =>
    obtain ⟨h1, _, h2⟩ := h
    by_cases e : p.1 = k
    · have e' : q.1 = k := h1.symm.trans e
      have b : atKey (q :: qs) k = some q.2 := by simp [atKey, List.find?_cons, e']
      rw [valE_pos e, b]; exact h2
    · have e' : ¬ q.1 = k := fun z => e (h1.trans z)
      have b : atKey (q :: qs) k = atKey qs k := by simp [atKey, List.find?_cons, e']
      rw [valE_neg e, b]; exact ih
theorem ent_repl {vs : List Ent} {xs : List (NestedKey × Addr × Value)} (r : Paired EntR vs xs) (k : NestedKey) {y : V} {u : Value} (ry : RelV y u) : Paired EntR (vs.map fun x => if x.1 = k then (x.1, x.2.1, y) else x) (xs.map (putAt k u)) := by
  induction r with
  | nil => exact .nil
  | @cons p q ps qs h t ih =>
    rw [List.map_cons, List.map_cons]
    refine .cons ?_ ih
    obtain ⟨h1, h2, h3⟩ := h
    unfold putAt
    by_cases e : p.1 = k
    · rw [if_pos e, if_pos (h1.symm.trans e)]; exact ⟨h1, h2, ry⟩
    · rw [if_neg e, if_neg (fun z => e (h1.trans z))]; exact ⟨h1, h2, h3⟩
theorem ent_put {vs : List Ent} {xs : List (NestedKey × Addr × Value)} (r : Paired EntR vs xs) (k : NestedKey) (b : Addr) {y : V} {u : Value} (ry : RelV y u) : Paired EntR (putE vs k b y) (storedH xs k b u) := by
  have e : (valE vs k).isSome = (atKey xs k).isSome := by rw [(ent_val r k).isSome_eq, Option.isSome_map]
  unfold putE storedH
  rw [e]
  by_cases q : (atKey xs k).isSome = true
  · rw [if_pos q, if_pos q]; exact ent_repl r k ry
  · rw [if_neg q, if_neg q]; exact Paired.snoc r ⟨rfl, rfl, ry⟩
theorem length_putE (vs : List Ent) (k : NestedKey) (b : Addr) (v : V) : (putE vs k b v).length ≤ vs.length + 1 := by
  unfold putE
  split
  · rw [List.length_map]; omega
  · rw [List.length_append, List.length_singleton]; exact Nat.le_refl _
/-! the keys -/
mutual
theorem nested_of {X : Cx} {pins : List (Addr × Obj)} {σ : L2.St} {H F : Hp} {s : Shared} {cl : ClW} (I : Inv X pins σ H s) (sf : Same F H) : ∀ (p : P) (k : NestedKey) (v : V) (u : Value), keyP p = some k → Rp X.K cl F p v → RelV v u → NestedIs s.heap k u
  | .non, k, v, u, e, r, ru => by
    cases r
    cases (show u = Value.none from ru)
    cases (show some NestedKey.none = some k from e)
    exact .none
  | .bl b, k, v, u, e, r, ru => by
    cases r
    cases (show u = Value.bool b from ru)
    cases (show some (NestedKey.num (if b = true then 1 else 0)) = some k from e)
    exact .bool rfl
  | .int i, k, v, u, e, r, ru => by
    cases r
    obtain ⟨t, rfl⟩ := (show ∃ t, u = Value.int i t from ru)
    cases (show some (NestedKey.num i) = some k from e)
    exact .int i t
  | .str x, k, v, u, e, r, ru => by
    cases r
    obtain ⟨t, rfl⟩ := (show ∃ t, u = Value.str x t from ru)
    cases (show some (NestedKey.text x) = some k from e)
    exact .text x t
  | .tup ps, k, v, u, e, r, ru => by
    rw [keyP] at e
    cases e2 : keyPs ps with
    | none => rw [e2] at e; cases e
    | some ks =>
      rw [e2] at e
      cases e
      cases r with
      | @tup a _ vs q t =>
        cases (show u = Value.ref a from ru)
        obtain ⟨its, rv, ⟨o, h1, h2, n, h3⟩, _⟩ := I.tuple (SqT.mono sf q)
        exact .tup h1 h2 h3 (by simpa using nesteds_of I sf ps ks vs its e2 t rv)
  | .lst _, k, v, u, e, r, ru => by cases e
  | .dK _, k, v, u, e, r, ru => by cases e
  | .dT _, k, v, u, e, r, ru => by cases e
  | .ins _ _, k, v, u, e, r, ru => by cases e
theorem nesteds_of {X : Cx} {pins : List (Addr × Obj)} {σ : L2.St} {H F : Hp} {s : Shared} {cl : ClW} (I : Inv X pins σ H s) (sf : Same F H) : ∀ (ps : List P) (ks : List NestedKey) (vs : List V) (us : List Value), keyPs ps = some ks → RpA X.K cl F ps vs → Vals vs us → NestedAll s.heap ks us
  | [], ks, vs, us, e, r, ru => by
    cases (show some ([] : List NestedKey) = some ks from e)
    cases r
    cases ru
    exact .nil
  | p :: ps, ks, vs, us, e, r, ru => by
    rw [keyPs] at e
    cases e1 : keyP p with
    | none => rw [e1] at e; cases e
    | some k =>
      cases e2 : keyPs ps with
      | none => rw [e1, e2] at e; cases e
      | some ks' =>
        rw [e1, e2] at e
        cases e
        cases r with
        | cons r1 r2 =>
          cases ru with
          | cons u1 u2 => exact .cons (nested_of I sf p k _ _ e1 r1 u1) (nesteds_of I sf ps ks' _ _ e2 r2 u2)
end
section
variable {X : Cx} {c0 : Nat → Addr}
/-- every entry's key is data -/
def KeysOk (K : PySem.W.Frag) (cl : ClW) (F : Hp) (vs : List Ent) : Prop := ∀ x ∈ vs, ∃ p, keyP p = some x.1 ∧ x.1.depth ≤ 8 ∧ Rp K cl F p (.ref x.2.1)
theorem KeysOk.mono {K : PySem.W.Frag} {cl : ClW} {F F' : Hp} (h : Same F F') {vs : List Ent} (k : KeysOk K cl F vs) : KeysOk K cl F' vs := fun x hx => let ⟨p, a, b, c⟩ := k x hx; ⟨p, a, b, Rp.mono h c⟩
theorem keys_drt {K : PySem.W.Frag} {cl : ClW} {F : Hp} {φ : Nat → Addr} {kvs : List (P × D)} {vs : List Ent} (r : DRT K cl F φ kvs vs) : KeysOk K cl F vs := by
  induction r with
  | nil => intro x hx; cases hx
  | cons h t ih =>
    intro x hx
    rcases List.mem_cons.mp hx with rfl | hx
    · exact ⟨_, h.1, h.2.1, h.2.2.1⟩
    · exact ih x hx
abbrev ClX (X : Cx) (c0 : Nat → Addr) : ClW := ⟨c0, X.prog, X.w⟩
/-- a tracked dict with data as keys -/
theorem dn_at {pins : List (Addr × Obj)} {σ : L2.St} {H F : Hp} {s : Shared} {a : Addr} {vs : List Ent} (I : Inv X pins σ H s) (sf : Same F H) (e : HD X.prog X.w a vs H) (hk : KeysOk X.K (ClX X c0) F vs) :
    vs.length ≤ sizeLine ∧ (a == sysModules) = false ∧ ∃ xs, Paired EntR vs xs ∧ s.heap.DictOfH (nestedKind X.prog X.w) a xs := by
  obtain ⟨u, e, d⟩ := e
  have key : ObjOk X.prog X.w H s.heap a (dNO X.prog X.w a vs) := by
    rcases d with rfl | ⟨o, rfl⟩
    · exact I.hok a _ e
    · exact (I.hok a _ e).2
  obtain ⟨⟨h1, h2, xs, r, o, es, ep, g1, g2, g3, g4, g5⟩, _, _⟩ := key
  refine ⟨h2, h1, xs, r, o, es, ep, g1, g2, g3, g4, ?_, g5⟩
  have all : ∀ {l : List Ent} {m : List (NestedKey × Addr × Value)}, Paired EntR l m → KeysOk X.K (ClX X c0) F l → ∀ x ∈ m, (nestedKind X.prog X.w).is s.heap x.1 x.2.1 := by
    intro l m q
    induction q with
    | nil => intro _ x hx; cases hx
    | @cons p q ps qs hq t ih =>
      intro hk x hx
      rcases List.mem_cons.mp hx with rfl | hx
      · obtain ⟨y, a1, a2, a3⟩ := hk p List.mem_cons_self
        obtain ⟨b1, b2, _⟩ := hq
        rw [b1] at a1 a2
        exact ⟨nested_of I sf y _ _ _ a1 a3 (show Value.ref x.2.1 = Value.ref p.2.1 by rw [b2]), a2⟩
      · exact ih (fun y hy => hk y (List.mem_cons_of_mem _ hy)) x hx
  exact all r hk
theorem dn_ok {P : Program} {w : World} {H' : Hp} {h' : Heap} {a : Addr} {vs : List Ent} {xs : List (NestedKey × Addr × Value)} (z : vs.length ≤ sizeLine) (hd : (a == sysModules) = false) (r : Paired EntR vs xs) (dd : h'.DictOfH (nestedKind P w) a xs) : ObjOk P w H' h' a (dNO P w a vs) := by
  obtain ⟨o, es, ep, g1, g2, g3, g4, _, g5⟩ := dd
  exact ⟨⟨hd, z, xs, r, o, es, ep, g1, g2, g3, g4, g5⟩, ⟨o, g1⟩, fun h1 h2 ⟨q1, q2, ys, q3, o, es, ep, q4, q5⟩ st => ⟨q1, q2, ys, q3, o, es, ep, st o q4, q5⟩⟩
/-- what is asked of a dict and a key -/
def NGet (X : Cx) (c0 : Nat → Addr) (H : Hp) (a : Addr) (y : V) (r : Option V) : Prop :=
  ∃ F vs p k b, Same F H ∧ HD X.prog X.w a vs H ∧ KeysOk X.K (ClX X c0) F vs ∧ y = .ref b ∧ keyP p = some k ∧ k.depth ≤ 8 ∧ Rp X.K (ClX X c0) F p (.ref b) ∧ r = valE vs k
def NPut (X : Cx) (c0 : Nat → Addr) (H : Hp) (a : Addr) (y v : V) (H' : Hp) : Prop :=
  ∃ F vs p k b, Same F H ∧ H a = some (dNO X.prog X.w a vs) ∧ KeysOk X.K (ClX X c0) F vs ∧ y = .ref b ∧ keyP p = some k ∧ k.depth ≤ 8 ∧ Rp X.K (ClX X c0) F p (.ref b) ∧ vs.length < sizeLine ∧ H' = upd H a (dNO X.prog X.w a (putE vs k b v))
section
variable {pins : List (Addr × Obj)} {σ : L2.St} {H : Hp} {s : Shared} {a : Addr} {y v d : V} {u r : Value} {o : Option V} {A : Around} {E : Value → Shared → Prop}
theorem n_room (hu : A.units + 10 < cLine) : (nestedKind X.prog X.w).room A.in1 := by
  show A.units + 1 + 8 < cLine
  omega
theorem n_in {Q : Value → Shared → Prop} (hu : A.units + 10 < cLine) (I : Inv X pins σ H s) (g : NGet X c0 H a y o) (ry : RelV y u) (h : ∀ s', Inv X pins σ H s' → Q (.bool o.isSome) s') : wpAny (model X.prog X.w) A (compareOp .In u (.ref a)) Q E s := by
  obtain ⟨F, vs, p, k, b, sf, e, hk, rfl, kp, kd, kr, l⟩ := g
  cases (show u = Value.ref b from ry)
  obtain ⟨z, hd, xs, rel, dd⟩ := dn_at I sf e hk
  refine wpAny_in_heap (n_room hu) ⟨nested_of I sf p k _ _ kp kr rfl, kd⟩ hd dd ?_
  have q := (ent_val rel k).isSome_eq
  rw [Option.isSome_map] at q
  rw [← q, ← l]
  exact h _ (I.tok _)
end
end
end Pv
/-! what is done with such dicts -/
namespace Pv
open PySem PySem.Spec PyProof.Rows L2
/-! by value -/
theorem u10 {k : Nat} {A : Around} (hr : Room k A) : A.units + 10 < cLine := by have := u65 hr; omega
def keyD : D → Option (P × NestedKey)
  | .p (.tup ps) => match keyP (.tup ps) with
    | some k => if k.depth ≤ 8 then some (.tup ps, k) else none
    | none => none
  | _ => none
def asN (d : D) (S : SH) : Option (List (P × D)) := match d with
  | .p (.dT kvs) => some (kvs.map fun x => (x.1, .p x.2))
  | .ref n => match S.os[n]? with | some (.dT kvs) => some kvs | _ => none
  | _ => none
def valD (kvs : List (P × D)) (k : NestedKey) : Option D := (kvs.find? fun x => decide (keyP x.1 = some k)).map (·.2)
def putD (kvs : List (P × D)) (p : P) (k : NestedKey) (v : D) : List (P × D) := if (valD kvs k).isSome = true then kvs.map fun x => if keyP x.1 = some k then (x.1, v) else x else kvs ++ [(p, v)]
section
variable {K : PySem.W.Frag} {cl : ClW} {S : SH} {B : List Nat} {F H : Hp} {φ : Nat → Addr}
theorem rpt_drt {kvs : List (P × P)} {vs : List Ent} (r : RpT K cl F kvs vs) : DRT K cl F φ (kvs.map fun x => (x.1, D.p x.2)) vs := by
  induction kvs generalizing vs with
  | nil => cases r; exact .nil
  | cons x kvs ih =>
    cases r with
    | cons h1 h2 h3 h4 h5 => exact .cons ⟨h1, h2, h3, h4⟩ (ih h5)
theorem asN_ok (s : Sim K cl S B F φ H) {d : D} {kvs : List (P × D)} {x : V} (e : asN d S = some kvs) (r : DR K cl F φ d x) : ∃ a vs, x = .ref a ∧ HD cl.P cl.w a vs H ∧ DRT K cl F φ kvs vs ∧ ∀ y ∈ kvs.map (·.2), y.lt S.len := by
  cases d with
  | p y =>
    cases y with
    | dT kv =>
      cases (show some (kv.map fun x => (x.1, D.p x.2)) = some kvs from e)
      cases (show Rp K cl F (.dT kv) x from r) with
      | @dT a _ vs q t =>
        refine ⟨a, vs, rfl, q.mono s.le, rpt_drt t, fun y hy => ?_⟩
        obtain ⟨z, hz, rfl⟩ := List.mem_map.mp hy
        obtain ⟨w, _, rfl⟩ := List.mem_map.mp hz
        trivial
    | _ => cases e
  | ref n =>
    unfold asN at e
    dsimp only at e
    have r : x = .ref (φ n) := r
    subst r
    cases q : S.os[n]? with
    | none => rw [q] at e; cases e
    | some o =>
      rw [q] at e
      have ob := (s.ob n _ q).2
      have wf := s.wf n _ q
      cases o with
      | dT ds => cases e; obtain ⟨vs, ev, rv⟩ := ob; exact ⟨_, vs, rfl, .of ev, rv, wf⟩
      | _ => cases e
theorem keyD_ok {d : D} {p : P} {k : NestedKey} {x : V} (e : keyD d = some (p, k)) (r : DR K cl F φ d x) : ∃ b, x = .ref b ∧ keyP p = some k ∧ k.depth ≤ 8 ∧ Rp K cl F p (.ref b) := by
  unfold keyD at e
  split at e
  · rename_i ps
    split at e
    · rename_i k' hk
      split at e
      · rename_i hd
        cases e
        have r' : Rp K cl F (.tup ps) x := r
        have r2 := r'
        cases r' with
        | @tup a _ vs q t => exact ⟨a, rfl, hk, hd, r2⟩
      · cases e
    · cases e
  · cases e
theorem drt_val {kvs : List (P × D)} {vs : List Ent} (r : DRT K cl F φ kvs vs) (k : NestedKey) : (valD kvs k = none → valE vs k = none) ∧ ∀ d, valD kvs k = some d → ∃ v, valE vs k = some v ∧ DR K cl F φ d v ∧ d ∈ kvs.map (·.2) := by
  induction r with
  | nil => exact ⟨fun _ => rfl, fun d h => by cases h⟩
  | @cons p q ps qs h t ih =>
    obtain ⟨h1, h2, h3, h4⟩ := h
    by_cases e : q.1 = k
    · have ep : keyP p.1 = some k := by rw [h1, e]
      have a : valD (p :: ps) k = some p.2 := by simp [valD, List.find?_cons, ep]
      rw [a, valE_pos e]
      exact ⟨fun z => (by cases z), fun d hd => (by cases hd; exact ⟨_, rfl, h4, by simp⟩)⟩
    · have ep : ¬ keyP p.1 = some k := fun z => by rw [h1] at z; cases z; exact e rfl
      have a : valD (p :: ps) k = valD ps k := by simp [valD, List.find?_cons, ep]
      rw [a, valE_neg e]
      exact ⟨ih.1, fun d hd => by obtain ⟨v, a1, a2, a3⟩ := ih.2 d hd; exact ⟨v, a1, a2, by simp only [List.map_cons, List.mem_cons]; exact .inr a3⟩⟩
theorem drt_some {kvs : List (P × D)} {vs : List Ent} (r : DRT K cl F φ kvs vs) (k : NestedKey) : (valD kvs k).isSome = (valE vs k).isSome := by
  cases e : valD kvs k with
  | none => rw [(drt_val r k).1 e]; rfl
  | some d => obtain ⟨v, a, _⟩ := (drt_val r k).2 d e; rw [a]; rfl
theorem drt_put {kvs : List (P × D)} {vs : List Ent} (r : DRT K cl F φ kvs vs) {p : P} {k : NestedKey} {b : Addr} {d : D} {v : V} (hp : keyP p = some k) (hd : k.depth ≤ 8) (hr : Rp K cl F p (.ref b)) (rv : DR K cl F φ d v) : DRT K cl F φ (putD kvs p k d) (putE vs k b v) := by
  unfold putD putE
  rw [drt_some r k]
  by_cases q : (valE vs k).isSome = true
  · rw [if_pos q, if_pos q]
    clear q
    induction r with
    | nil => exact .nil
    | @cons p' q' ps qs h t ih =>
      rw [List.map_cons, List.map_cons]
      refine .cons ?_ ih
      obtain ⟨h1, h2, h3, h4⟩ := h
      by_cases e : q'.1 = k
      · rw [if_pos e, if_pos (by rw [h1, e])]; exact ⟨h1, h2, h3, rv⟩
      · rw [if_neg e, if_neg (fun z => by rw [h1] at z; cases z; exact e rfl)]; exact ⟨h1, h2, h3, h4⟩
  · rw [if_neg q, if_neg q]
    exact Paired.snoc r ⟨hp, hd, hr, rv⟩
theorem putD_ds {kvs : List (P × D)} {p : P} {k : NestedKey} {v : D} : ∀ y ∈ (putD kvs p k v).map (·.2), y = v ∨ y ∈ kvs.map (·.2) := by
  intro y hy
  unfold putD at hy
  obtain ⟨x, hx, rfl⟩ := List.mem_map.mp hy
  split at hx
  · obtain ⟨z, hz, rfl⟩ := List.mem_map.mp hx
    split
    · exact .inl rfl
    · exact .inr (List.mem_map.mpr ⟨z, hz, rfl⟩)
  · rcases List.mem_append.mp hx with hx | hx
    · exact .inr (List.mem_map.mpr ⟨x, hx, rfl⟩)
    · rw [List.mem_singleton.mp hx]; exact .inl rfl
end
section
variable {X : Cx} {c0 : Nat → Addr} {S : SH} {B : List Nat} {F H : Hp} {φ : Nat → Addr}
theorem nget_of (s : Sim X.K (ClX X c0) S B F φ H) {d e : D} {kvs : List (P × D)} {p : P} {k : NestedKey} {x y : V} (e1 : asN d S = some kvs) (r1 : DR X.K (ClX X c0) F φ d x) (e2 : keyD e = some (p, k)) (r2 : DR X.K (ClX X c0) F φ e y) :
    ∃ a vs, x = .ref a ∧ DRT X.K (ClX X c0) F φ kvs vs ∧ (∀ z ∈ kvs.map (·.2), z.lt S.len) ∧ NGet X c0 H a y (valE vs k) := by
  obtain ⟨a, vs, rfl, ea, rv, lt⟩ := asN_ok s e1 r1
  obtain ⟨b, rfl, kp, kd, kr⟩ := keyD_ok e2 r2
  exact ⟨a, vs, rfl, rv, lt, F, vs, p, k, b, s.le, ea, keys_drt rv, rfl, kp, kd, kr, rfl⟩
/-! d[k] -/
/-! k in d -/
def nIn (neg : Bool) (e d : D) (S : SH) : Option (D × SH) := match asN d S, keyD e with
  | some kvs, some (_, k) => some (.p (.bl (if neg = true then !(valD kvs k).isSome else (valD kvs k).isSome)), S)
  | _, _ => none
def rNIn (X : Cx) (c0 : Nat → Addr) (neg : Bool) : R2 := fun y x H Q => ∃ a o, x = .ref a ∧ NGet X c0 H a y o ∧ Q (.bl (if neg = true then !o.isSome else o.isSome)) H
theorem o_nin (hu : X.A.units + 10 < cLine) : OpR X (compareOp .In) (rNIn X c0 false) := by
  intro pins s σ H y x v u Q I ry rx h
  obtain ⟨a, o, rfl, g, q⟩ := h
  obtain rfl : u = Value.ref a := rx
  exact n_in hu I g ry fun s3 I3 => ⟨.bl o.isSome, H, I3, rfl, q⟩
theorem d_nin {neg : Bool} : OpD X.K (ClX X c0) (nIn neg) (rNIn X c0 neg) := by
  intro S B F φ H e d y x Q s r1 r2 l1 l2 o
  unfold nIn at o
  split at o
  · rename_i kvs p k hn hk
    obtain ⟨a, vs, rfl, rv, lt, g⟩ := nget_of s hn r2 hk r1
    refine ⟨a, _, rfl, g, ?_⟩
    rw [← drt_some rv k]
    exact o.fin0 rfl s (Rp.bl _) trivial
  · exact o.no
/-! d[k] = v -/
def putN (d e y : D) (S : SH) : Option SH := match d, keyD e with
  | .ref n, some (p, k) => match S.os[n]? with
    | some (.dT kvs) => if kvs.length < sizeLine ∧ okRef S n y = true then some (S.put n (.dT (putD kvs p k y))) else none
    | _ => none
  | _, _ => none
def dNPut (o i v : ME) : MS := fun σ S => bnd (v σ S) fun y S1 => bnd (o σ S1) fun d S2 => bnd (i σ S2) fun e S3 => match putN d e y S3 with
  | some S4 => some (.nx σ, S4)
  | none => none
/-! {} -/
def dNNew (live : Bool) : ME := fun _ S => if live = true then some (.ref S.len, S.push (.dT [])) else some (.p (.dT []), S)
theorem dn_empty {P : Program} {w : World} {H : Hp} (h : Heap) (hb : sysModules < h.objs.size) : ObjOk P w H (h.push { cls := .type "dict", data := .dict #[] }) h.objs.size (dNO P w h.objs.size []) :=
  dn_ok (Nat.zero_le _) (beq_eq_false_iff_ne.mpr (Ne.symm (Nat.ne_of_lt hb))) .nil ⟨_, #[], 0, Heap.get?_push_size _ rfl, ⟨rfl, rfl, rfl⟩, rfl, rfl, fun _ h => (by cases h), List.nodup_nil⟩
theorem newN_ok {live : Bool} {σd : En} {Q : VK} (s : Sim X.K (ClX X c0) S B F φ H) (o : OkE X.K (ClX X c0) S B F φ H (dNNew live σd S) Q) {p : Addr} (hp : H p = none) : Q (.ref p) (upd H p (dNO X.prog X.w p [])) := by
  have sm : Same H (upd H p (dNO X.prog X.w p [])) := Same.new (Same.refl _) hp
  unfold dNNew at o
  cases live with
  | true =>
    obtain ⟨s1, x1⟩ := s.push (o := .dT []) sm hp ⟨[], upd_same, .nil⟩ (fun d hd => (by cases hd))
    exact o.fin rfl s1 x1 (show V.ref p = V.ref (if S.len = S.len then p else φ S.len) by rw [if_pos rfl]) (by show S.len < (S.os ++ [Ob.dT []]).length; simp [SH.len])
  | false =>
    obtain ⟨s1, x1⟩ := s.frz sm hp upd_same
    exact o.fin rfl s1 x1 (Rp.dT (.of upd_same) .nil) trivial
theorem k_nnew {live : Bool} {pos : Pos} : PE X (.Dict [] [] pos) (LE X.K (ClX X c0) (dNNew live)) := ⟨fun pins s σ H Q I h => by
  obtain ⟨σd, S, B, F, φ, sm, rs, o⟩ := h
  exact wpAny_Dict_empty ⟨.ref s.heap.objs.size, _, I.laid (a := s.heap.objs.size) (t' := s.toks) (fun _ _ q => Heap.get?_push_of_some _ q) (Nat.le_refl _) (dn_empty s.heap I.big), rfl, newN_ok sm o (I.hok.fresh (Nat.le_refl _))⟩⟩
/-! len(d) -/
end
end Pv
/-! the methods of such dicts -/
namespace Pv
open PySem PySem.Spec PyProof.Rows L2
section
variable {X : Cx} {c0 : Nat → Addr} {S : SH} {B : List Nat} {F H : Hp} {φ : Nat → Addr}
def IsN (X : Cx) (c0 : Nat → Addr) (x : V) (H : Hp) : Prop := ∃ F a vs, x = .ref a ∧ Same F H ∧ HD X.prog X.w a vs H ∧ KeysOk X.K (ClX X c0) F vs
theorem isN_at {pins : List (Addr × Obj)} {σ : L2.St} {s : Shared} {x : V} {v : Value} (I : Inv X pins σ H s) (r : RelV x v) (n : IsN X c0 x H) : s.TypeIs v "dict" ∧ ∀ a, v = .ref a → ∃ ob, s.heap.get? a = some ob ∧ ob.dict = none := by
  obtain ⟨F, a, vs, rfl, sf, e, hk⟩ := n
  cases (show v = Value.ref a from r)
  obtain ⟨_, _, xs, _, dd⟩ := dn_at I sf e hk
  refine ⟨dd.typeIs, fun b q => ?_⟩
  cases q
  obtain ⟨ob, _, _, h1, h2, _⟩ := dd
  exact ⟨ob, h1, h2.2.1⟩
def isN (d : D) (S : SH) : Bool := (asN d S).isSome
theorem isN_ok (s : Sim X.K (ClX X c0) S B F φ H) {d : D} {x : V} (e : isN d S = true) (r : DR X.K (ClX X c0) F φ d x) : IsN X c0 x H := by
  obtain ⟨kvs, e1⟩ := Option.isSome_iff_exists.mp e
  obtain ⟨a, vs, rfl, ea, rv, _⟩ := asN_ok s e1 r
  exact ⟨F, a, vs, rfl, s.le, ea, keys_drt rv⟩
def dNM (f : MF) (o : ME) (a : MA) : ME := fun σ S => bnd (o σ S) fun d S1 => if isN d S1 = true then bnd (a σ S1) fun ds S2 => f (d :: ds) S2 else none
def MtN (X : Cx) (c0 : Nat → Addr) (f : MF) (r : V → List V → Hp → VK → Prop) : Prop :=
  ∀ S B F φ H d ds x xs Q, Sim X.K (ClX X c0) S B F φ H → DR X.K (ClX X c0) F φ d x → d.lt S.len → DRA X.K (ClX X c0) F φ ds xs → (∀ y ∈ ds, y.lt S.len) → OkE X.K (ClX X c0) S B F φ H (f (d :: ds) S) Q → r x xs H Q
theorem k_nm {o e : Expr} {es : List Expr} {name : Str} {apos cpos : Pos} {id : String} {f : MF} {r : V → List V → Hp → VK → Prop} {mo : ME} {ma : MA} (hd : MtN X c0 f r) (slot : Slot "dict" name id) (hty : typeOf (.builtin id) = pure (.type "method_descriptor")) (hm : MtR X id r) (ho : PE X o (LE X.K (ClX X c0) mo)) (ha : PA X (e :: es) (LA X.K (ClX X c0) ma))
    (hbase : attributeBase o name X.env (eval o X.env) = eval o X.env := by rfl)
    (hfew : ((backTo cpos (starEach (e :: es) X.env)).all (fun y => !y.1) && (backToKw cpos (keywordEach [] X.env)).all (fun y => y.1.isSome) && decide ((e :: es).length + ([] : List Keyword).length + (if ([] : List Keyword).isEmpty then 0 else 1) < 30)) = true := by rfl)
    (hline : (apos.endLine == cpos.line) = true := by rfl) (hs : starEach (e :: es) X.env = (false, eval e X.env) :: starEach es X.env := by rfl) (hplain : (backTo cpos (starEach es X.env)).any (·.1) = false := by rfl) :
    PE X (.Call (.Attribute o name apos) (e :: es) [] cpos) (LE X.K (ClX X c0) (dNM f mo ma)) := by
  refine ⟨fun pins s σ H Q I h => ?_⟩
  obtain ⟨σd, S, B, F, φ, sm, rs, o0⟩ := h
  obtain ⟨d, S1, e1, o1⟩ := okE_bnd o0
  refine wpAny_Call_method_late hbase hfew hline rfl (thn (ho.run pins s σ H _ I (LE.then_ sm rs e1 fun F1 φ1 H1 u s1 x1 rs1 dr1 l1 => (?_ : (fun x H1 => IsN X c0 x H1 ∧ LA X.K (ClX X c0) ma σ H1 fun vs H2 => r x vs H2 Q) u H1))) fun v s1 ⟨x, H1, I1, r1, ty, q1⟩ => ?_)
  · split at o1
    · rename_i hn
      obtain ⟨ds, S2, e2, o2⟩ := okE_bnd o1
      refine ⟨isN_ok s1 hn dr1, LA.then_ s1 rs1 e2 fun F2 φ2 H2 vs s2 x2 rs2 dr2 l2 => ?_⟩
      exact hd S2 B F2 φ2 H2 d ds u vs Q s2 (x2.dr l1 dr1) (x2.lt l1) dr2 l2 (o2.ext (x1.trans x2))
    · exact o1.no
  · obtain ⟨h1, h2⟩ := isN_at I1 r1 ty
    refine ⟨"dict", id, PySem.F.plainAttrs_dict, slot, hty, h1, h2, ?_⟩
    have hA := ha.run cpos pins s1 σ H1 _ I1 q1
    rw [hs] at hA ⊢
    refine Calls.callWith_builtin (by show (false || (backTo cpos (starEach es X.env)).any (·.1)) = false; rw [hplain] <;> rfl) (Calls.evalArgs_plain ?_)
    exact thn hA fun us s2 ⟨vs, H2, I2, r2, q2⟩ => hm pins s2 σ H2 x vs v us Q I2 r1 r2 q2
/-! d.get(k), d.get(k, z) -/
/-! d.clear() -/
/-! d.setdefault(k, z) -/
def fNSetd : MF := fun ds S => match ds with
  | [.ref n, e, z] => match S.os[n]?, keyD e with
    | some (.dT kvs), some (p, k) => match valD kvs k with
      | some x => some (x, S)
      | none => if kvs.length < sizeLine ∧ okRef S n z = true then some (z, S.put n (.dT (kvs ++ [(p, z)]))) else none
    | _, _ => none
  | _ => none
def rNSetd (X : Cx) (c0 : Nat → Addr) : V → List V → Hp → VK → Prop := fun x vs H Q => ∃ F a es p k b z, x = .ref a ∧ vs = [.ref b, z] ∧ Same F H ∧ H a = some (dNO X.prog X.w a es) ∧ KeysOk X.K (ClX X c0) F es ∧ keyP p = some k ∧ k.depth ≤ 8 ∧ Rp X.K (ClX X c0) F p (.ref b) ∧
  ((∃ v, valE es k = some v ∧ Q v H) ∨ (valE es k = none ∧ es.length < sizeLine ∧ Q z (upd H a (dNO X.prog X.w a (putE es k b z)))))
theorem m_nsetd (hu : X.A.units + 10 < cLine) : MtR X "dict.setdefault" (rNSetd X c0) := by
  intro pins s σ H x xs v us Q I rx rv h
  obtain ⟨F, a, es, p, k, b, z, rfl, rfl, sf, e, hk, kp, kd, kr, h⟩ := h
  obtain rfl : v = Value.ref a := rx
  cases rv with
  | cons r1 t =>
    cases t with
    | @cons _ uz _ _ r2 t2 =>
      cases t2
      cases (show _ = Value.ref b from r1)
      obtain ⟨hz, hd, ys, rel, dd⟩ := dn_at I sf (.of e) hk
      have hy : ys.length ≤ sizeLine := by rw [← Paired.length rel]; exact hz
      refine call_meetsIn PySem.F.slot_dict_setdefault dd.typeIs PySem.F.entry_dict_setdefault (PySem.F.args_dict_setdefault_3 _ _ _) (meetsH_dict_setdefault (nestedKind X.prog X.w) a b hd uz) ⟨n_room hu, k, ys, ⟨nested_of I sf p k _ _ kp kr rfl, kd⟩, dd, hy, fun q hq => ?_, fun hn h' dd' hs => ?_⟩
      · have rv' := ent_val rel k
        rw [hq] at rv'
        rcases h with ⟨v, ev, q'⟩ | ⟨ev, _, _⟩
        · rw [ev] at rv'
          exact ⟨v, H, I.tok _, rv', q'⟩
        · rw [ev] at rv'
          exact rv'.elim
      · have rv' := ent_val rel k
        rw [hn] at rv'
        rcases h with ⟨v, ev, _⟩ | ⟨ev, hl, q'⟩
        · rw [ev] at rv'
          exact rv'.elim
        · have hl' : (putE es k b z).length ≤ sizeLine := by have := length_putE es k b z; omega
          have he : ∃ q, h'.get? a = some q := let ⟨q, _, _, hq, _⟩ := dd'; ⟨q, hq⟩
          exact ⟨z, _, d_write I (by rw [e]; exact True.intro) hs he (dn_ok hl' hd (ent_put rel k b r2) dd'), r2, q'⟩
theorem d_nsetd : MtN X c0 fNSetd (rNSetd X c0) := by
  intro S B F φ H d ds x xs Q s r l rs ls o
  unfold fNSetd at o
  split at o
  · rename_i n e z h0
    injection h0 with h1 h2
    subst h1 h2
    split at o
    · rename_i kvs p k q hk
      cases rs with
      | @cons _ y _ _ ry t =>
        cases t with
        | @cons _ w _ _ rw t2 =>
          cases t2
          obtain rfl : x = .ref (φ n) := r
          obtain ⟨vs, ev, rv⟩ := (s.ob n _ q).2
          obtain ⟨b, rfl, kp, kd, kr⟩ := keyD_ok hk ry
          have hl : kvs.length = vs.length := Paired.length rv
          split at o
          · rename_i x0 hx
            obtain ⟨v0, a1, a2, a3⟩ := (drt_val rv k).2 x0 hx
            exact ⟨F, φ n, vs, p, k, b, w, rfl, rfl, s.le, ev, keys_drt rv, kp, kd, kr, .inl ⟨v0, a1, o.fin0 rfl s a2 (s.wf n _ q _ a3)⟩⟩
          · rename_i hx
            have hn := (drt_val rv k).1 hx
            split at o
            · rename_i hh
              have ep : putD kvs p k z = kvs ++ [(p, z)] := by unfold putD; rw [hx]; rfl
              obtain ⟨s2, x2⟩ := putGen (o := .dT (kvs ++ [(p, z)])) (x := dNO X.prog X.w (φ n) (putE vs k b w)) s q (fun y hy => by
                rw [← ep] at hy
                rcases putD_ds y hy with rfl | hy
                · rcases okRef_b hh.2 with g | g
                  · exact .inr (.inr ⟨g, ls _ (by simp)⟩)
                  · exact .inl g
                · exact .inr (.inl hy)) ⟨_, rfl, by rw [← ep]; exact drt_put rv kp kd kr rw⟩
              refine ⟨F, φ n, vs, p, k, b, w, rfl, rfl, s.le, ev, keys_drt rv, kp, kd, kr, .inr ⟨hn, by omega, o.fin rfl s2 x2 rw ?_⟩⟩
              have lz := ls z (by simp)
              exact x2.lt lz
            · exact o.no
    · exact o.no
  · exact o.no
end
end Pv
/-! dict comprehensions with data as keys; isinstance -/
namespace Pv
open PySem PySem.Spec PyProof.Rows L2
section
variable {X : Cx} {c0 : Nat → Addr}
theorem n_dictSet {pins : List (Addr × Obj)} {σ : L2.St} {H H' : Hp} {s : Shared} {a : Addr} {y v : V} {u r : Value} {E : Value → Shared → Prop} {Q : Unit → Shared → Prop} (hu : X.A.units + 10 < cLine) (I : Inv X pins σ H s) (g : NPut X c0 H a y v H') (ry : RelV y u) (rv : RelV v r) (h : ∀ s', Inv X pins σ H' s' → Q () s') : wpAny (model X.prog X.w) X.A (dictSet a u r) Q E s := by
  obtain ⟨F, vs, p, k, b, sf, e, hk, rfl, kp, kd, kr, l, rfl⟩ := g
  cases (show u = Value.ref b from ry)
  obtain ⟨z, hd, xs, rel, dd⟩ := dn_at I sf (.of e) hk
  have hz : xs.length ≤ sizeLine := by rw [← Paired.length rel]; exact z
  have hl : (putE vs k b v).length ≤ sizeLine := by have := length_putE vs k b v; omega
  refine wpAny_dictSet_heap (knd := nestedKind X.prog X.w) (hsz := hz) (show X.A.units + 8 < cLine by omega) ⟨nested_of I sf p k _ _ kp kr rfl, kd⟩ dd fun h' dd' hs => h _ ?_
  have he : ∃ q, h'.get? a = some q := let ⟨q, _, _, hq, _⟩ := dd'; ⟨q, hq⟩
  exact d_write I (by rw [e]; exact True.intro) hs he (dn_ok hl hd (ent_put rel k b rv) dd')
def tDn (X : Cx) (c0 : Nat → Addr) (wi : TI) (g : TG) (tt : TT) (tk tv : TE) (vs : List Nat) : TE := fun σ H Q => wi σ H fun J H1 => ∀ D, H1 D = none → ∃ W : Nat → Nat → Hp → Prop, (∃ m, W 0 m (upd H1 D (dNO X.prog X.w D []))) ∧ ∀ i m H, W i m H →
  (J.stop i H ∧ Q (.ref D) H) ∨ (J.go i H ∧ ∃ Nx : Hp → Prop, (∀ H', Nx H' → ∃ m', m' < m ∧ W (i + 1) m' H') ∧ ∀ x H', J.yld i H x H' → g x (wipe σ vs) H' fun σ2 H2 => wipe σ2 vs = wipe σ vs ∧ tt σ2 H2 fun b H3 =>
    if b = true then tk σ2 H3 fun y H4 => tv σ2 H4 fun z H5 => ∃ H6, NPut X c0 H5 D y z H6 ∧ Nx H6 else Nx H3)
theorem nd_core {pins : List (Addr × Obj)} {s : Shared} {σ : L2.St} {H : Hp} {Q : VK} {kx vx tg iter : Expr} {ifs : List Expr} {scope : Scope} {ownn : List (Str × Nat)} {pos pos' : Pos} {wi : TI} {g : TG} {tt : TT} {tk tv : TE} {use : Option (Value → Sem Unit)} {Qf : Value → Shared → Prop}
    (hu : X.A.units + 10 < cLine) (hc : X.calm = true) (hN : X.N.Nodup) (I : Inv X pins σ H s) (hi : PI X tg iter wi) (ok : BlkOk X.N X.env.scope scope ownn)
    (hg : ∀ (s : Shared) (H : Hp) (C : Addr) (cl : List (Str × Addr)) (fpn : List Addr), PG (X.blk s H scope (compEnvC scope cl C X.env) fpn) tg g) (ht : ∀ (s : Shared) (H : Hp) (C : Addr) (cl : List (Str × Addr)) (fpn : List Addr), PTs (X.blk s H scope (compEnvC scope cl C X.env) fpn) ifs tt)
    (hk : ∀ (s : Shared) (H : Hp) (C : Addr) (cl : List (Str × Addr)) (fpn : List Addr), PE (X.blk s H scope (compEnvC scope cl C X.env) fpn) kx tk)
    (he : ∀ (s : Shared) (H : Hp) (C : Addr) (cl : List (Str × Addr)) (fpn : List Addr), PE (X.blk s H scope (compEnvC scope cl C X.env) fpn) vx tv) (hs : ∀ xn, foldedSetIterable iter X.env xn = pure xn)
    (h : tDn X c0 wi g tt tk tv (ownn.map (·.2)) σ H Q)
    (hRR : ∀ D C s' m H', Inv X pins σ H' s' → Q (.ref D) H' → s'.heap.Ns C m → FpOk X pins H' C → compPost (model X.prog X.w) X.A X.xe use Qf (.ref D) C (.ok .next) s') :
    wpAny (model X.prog X.w) X.A (comprehension (.DictComp kx vx [⟨tg, iter, ifs, 0⟩] scope pos) scope X.env pos' newDict false (eval iter X.env) use) Qf X.xe s := by
  have hfree : ∀ y ∈ scope.names, y.2 = .free → ∃ c, X.env.cells.lookup y.1 = some c := fun y hy e => by
    rcases ok.free y hy e with k | k
    · exact I.ok.has _ (.inl k)
    · exact I.ok.has _ (.inr k)
  refine wpAny_comprehension_free (use := use) rfl hs (closure_ok hfree) ok.kind (fun y hy e => by rw [ok.uniq y hy, e])
    (thn (hi.run pins s σ H _ I h) fun xvn s1n hxn => thn hxn fun itvn s2n h2n => ?_)
  obtain ⟨itn, fpn, tnn, J, H2n, e, I2n, T, st2n, f2n, q⟩ := h2n
  subst e
  refine wpAny_newObj_type (newEnv_comp ?_)
  generalize hD : s2n.heap.objs.size = D
  have hDnn : H2n D = none := I2n.hok.fresh (Nat.le_of_eq hD)
  obtain ⟨W, ⟨m0n, w0n⟩, turnn⟩ := q D hDnn
  -- the new list
  generalize hs3n : ({ s2n with heap := s2n.heap.push { cls := .type "dict", data := .dict #[] } } : Shared) = s3n
  have I3n : Inv X pins σ (upd H2n D (dNO X.prog X.w D [])) s3n := by
    rw [← hs3n]
    refine I2n.laid (t' := s2n.toks) (fun b o e => Heap.get?_push_of_some _ e) (Nat.le_of_eq hD) ?_
    rw [← hD]
    exact dn_empty s2n.heap I2n.big
  have h3n : s3n.heap = s2n.heap.push { cls := .type "dict", data := .dict #[] } := by rw [← hs3n]
  have szn : ∀ b ∈ fpn, b < s2n.heap.objs.size := fun b hb => by
    obtain ⟨o, e, _⟩ := T.obj _ _ st2n b hb
    exact Heap.lt_size e
  have f3n : ∀ b ∈ fpn, FpOk X pins (upd H2n D (dNO X.prog X.w D [])) b ∧ b < s3n.heap.objs.size := fun b hb => by
    have hlt := szn b hb
    refine ⟨⟨?_, (f2n b hb).2⟩, by rw [h3n, Heap.size_push]; exact Nat.lt_succ_of_lt hlt⟩
    rw [upd_ne (by rw [← hD]; exact Nat.ne_of_lt hlt)]
    exact (f2n b hb).1
  have st3n : tnn 0 s3n.heap := T.keep _ _ _ st2n fun b _ o e => by rw [h3n]; exact Heap.get?_push_of_some _ e
  have I4n := block_start I3n ok hN f3n
  have pgn := hg s3n (upd H2n D (dNO X.prog X.w D [])) s3n.heap.objs.size (cellsFrom (s3n.heap.objs.size + 1) scope.names (cloFrom X.env.cells scope.names [])) fpn
  have ptn := ht s3n (upd H2n D (dNO X.prog X.w D [])) s3n.heap.objs.size (cellsFrom (s3n.heap.objs.size + 1) scope.names (cloFrom X.env.cells scope.names [])) fpn
  have pkn := hk s3n (upd H2n D (dNO X.prog X.w D [])) s3n.heap.objs.size (cellsFrom (s3n.heap.objs.size + 1) scope.names (cloFrom X.env.cells scope.names [])) fpn
  have pen := he s3n (upd H2n D (dNO X.prog X.w D [])) s3n.heap.objs.size (cellsFrom (s3n.heap.objs.size + 1) scope.names (cloFrom X.env.cells scope.names [])) fpn
  show codeAny _ _ (.compStart (.DictComp kx vx [⟨tg, iter, ifs, 0⟩] scope pos) 0 (.ref itn) (.ref D) (compEnvC scope (cellsFrom (s3n.heap.objs.size + 1) scope.names (cloFrom X.env.cells scope.names [])) s3n.heap.objs.size X.env)) (compPost (model X.prog X.w) X.A X.xe use Qf (.ref D) s3n.heap.objs.size) { s3n with heap := pushCells (s3n.heap.push { cls := .type "dict", data := .dict #[] }) scope.names }
  have nfpn : ∀ b ∈ fpn, (upd H2n D (dNO X.prog X.w D [])) b = none := fun b hb => (f3n b hb).1.1
  generalize hcen : compEnvC scope (cellsFrom (s3n.heap.objs.size + 1) scope.names (cloFrom X.env.cells scope.names [])) s3n.heap.objs.size X.env = cen at I4n pgn ptn pkn pen ⊢
  have cLn : cen.locals = s3n.heap.objs.size := by subst hcen; rfl
  generalize hH3n : upd H2n D (dNO X.prog X.w D []) = H3n at I3n I4n pgn ptn pkn pen w0n nfpn f3n
  generalize hs4n : ({ s3n with heap := pushCells (s3n.heap.push { cls := .type "dict", data := .dict #[] }) scope.names } : Shared) = s4n at I4n ⊢
  have st4n : tnn 0 s4n.heap := T.keep _ _ _ st3n fun b _ o e => by rw [← hs4n]; exact pushCells_keeps _ _ _ _ (Heap.get?_push_of_some _ e)
  have statn : ∀ {σ' : L2.St} {H' : Hp} {s' : Shared}, Inv (X.blk s3n H3n scope cen fpn) [] σ' H' s' → (∀ b ∈ fpn, H' b = none) → ∀ b ∈ fpn, FpOk (X.blk s3n H3n scope cen fpn) [] H' b := fun {σ' H' s'} I' hnn b hb =>
    ⟨hnn b hb, (I'.ok.exf b hb).1, I'.ok.exfs b hb, .inl hb, fun xn c e => (I'.ok.exf b hb).2 xn c e, fun p hp => absurd (show p ∈ ([] : List (Addr × Obj)) ++ [] from hp) (by simp)⟩
  have loopn : codeAny (model X.prog X.w) X.A (.compLoop (.DictComp kx vx [⟨tg, iter, ifs, 0⟩] scope pos) 0 (.ref itn) (.ref D) cen) (compPost (model X.prog X.w) X.A X.xe use Qf (.ref D) s3n.heap.objs.size) s4n := by
    refine compLoop_anyD (fun n s' => ∃ i H', Inv (X.blk s3n H3n scope cen fpn) [] (wipe σ (ownn.map (·.2))) H' s' ∧ tnn i s'.heap ∧ (∀ b ∈ fpn, H' b = none) ∧ W i n H') ?_ m0n ⟨0, H3n, I4n, st4n, nfpn, w0n⟩
    rintro n s5n ⟨i, H5n, I5n, st5n, n5n, w5n⟩
    rcases turnn i n H5n w5n with ⟨stopn, qq⟩ | ⟨gon, Nx, hNx, stepn⟩
    · have tdn := T.done (X.blk s3n H3n scope cen fpn) rfl rfl rfl hc i [] s5n _ H5n (fun _ _ => False) I5n (statn I5n n5n) st5n stopn
      refine thnF tdn fun r s6n ⟨hrn, I6n⟩ => ?_
      subst hrn
      -- back in the def's context
      have I7n : Inv X pins σ H5n s6n := I3n.call' (ch := fpn) I6n.os I6n.base I6n.hok I6n.bare fun b hb => ⟨(f3n b hb).1.2.2.2.1, (f3n b hb).1.2.1, (f3n b hb).1.2.2.2.2.1, (f3n b hb).1.2.2.2.2.2⟩
      have nC : H5n s3n.heap.objs.size = none := by
        have zn : H5n cen.locals = none := I6n.free
        rw [cLn] at zn
        exact zn
      obtain ⟨m, hnn, _⟩ := I6n.loc
      have hnn : s6n.heap.Ns cen.locals m := hnn
      rw [cLn] at hnn
      exact hRR D s3n.heap.objs.size s6n m H5n I7n qq hnn (I3n.fpOk (Nat.le_refl _) nC)
    · have tin := T.item (X.blk s3n H3n scope cen fpn) rfl rfl rfl hc i [] s5n _ H5n (fun _ _ => False) I5n (statn I5n n5n) st5n gon
      refine thnF tin fun r s6n ⟨un, hrn, h6n⟩ => ?_
      subst hrn
      refine thnF h6n fun _ s7n ⟨xn, H7n, I7n, r7n, y7, st7n, n7n⟩ => ?_
      have I7n' := I7n.pinned (statn I7n n7n) (T.obj _ _ st7n)
      refine thnF (pgn.run _ s7n _ H7n xn un _ I7n' r7n (stepn xn H7n y7)) fun _ s8n ⟨σ8, H8n, I8n, hw8, q8n⟩ => ?_
      refine thnF (ptn.run _ s8n σ8 H8n _ I8n q8n) fun b s9n ⟨H9n, I9n, q9n⟩ => ?_
      -- the turnn's end
      have finn : ∀ {s' : Shared} {H' : Hp}, Inv (X.blk s3n H3n scope cen fpn) ([] ++ pinsAt fpn s7n.heap) σ8 H' s' → Nx H' → ∃ m, m < n ∧ ∃ i H', Inv (X.blk s3n H3n scope cen fpn) [] (wipe σ (ownn.map (·.2))) H' s' ∧ tnn i s'.heap ∧ (∀ b ∈ fpn, H' b = none) ∧ W i m H' := fun {s' H'} I' nxn => by
        obtain ⟨m', hm, w'⟩ := hNx H' nxn
        have pin' : ∀ b ∈ fpn, ∀ o, s7n.heap.get? b = some o → s'.heap.get? b = some o ∧ H' b = none := fun b hb o e =>
          let zn := I'.pin (b, o) (List.mem_append_right _ (List.mem_append_right _ (mem_pinsAt hb e)))
          ⟨zn.1, zn.2.1⟩
        have hln : (wipe σ (ownn.map (·.2))).length = σ8.length := by rw [← hw8, wipe_length]
        refine ⟨m', hm, i + 1, H', (I'.unpinned (pins := [])).weak hln (fun j v e => ?_), T.keep _ _ _ st7n fun b hb o e => (pin' b hb o e).1, fun b hb => ?_, w'⟩
        · rw [← hw8] at e
          exact (wipe_some e).1
        · obtain ⟨o, e, _⟩ := T.obj _ _ st7n b hb
          exact (pin' b hb o e).2
      cases b with
      | false =>
        simp only [Bool.false_eq_true, if_false] at q9n ⊢
        exact finn I9n q9n
      | true =>
        simp only [if_true] at q9n ⊢
        refine thnF (pkn.run _ s9n σ8 H9n _ I9n q9n) fun zn s10n ⟨ykn, H10n, I10n, r10n, q10⟩ => ?_
        refine thnF (pen.run _ s10n σ8 H10n _ I10n q10) fun z2 s11n ⟨yvn, H11n, I11n, r11n, H12n, g12, nxn⟩ => ?_
        exact n_dictSet (X := X.blk s3n H3n scope cen fpn) (c0 := c0) hu I11n g12 r10n r11n fun s12n I12n => finn I12n nxn
  exact codeAny_compStart_dict loopn (T.self X.A 0 _ _ _ st4n loopn)
theorem pe_nd {kx vx tg iter : Expr} {ifs : List Expr} {scope : Scope} {own : List (Str × Nat)} {pos : Pos} {wi : TI} {g : TG} {tt : TT} {tk tv : TE} (hu : X.A.units + 10 < cLine) (hc : X.calm = true) (hN : X.N.Nodup) (hi : PI X tg iter wi) (ok : BlkOk X.N X.env.scope scope own)
    (hg : ∀ (s : Shared) (H : Hp) (C : Addr) (cl : List (Str × Addr)) (fp : List Addr), PG (X.blk s H scope (compEnvC scope cl C X.env) fp) tg g) (ht : ∀ (s : Shared) (H : Hp) (C : Addr) (cl : List (Str × Addr)) (fp : List Addr), PTs (X.blk s H scope (compEnvC scope cl C X.env) fp) ifs tt)
    (hk : ∀ (s : Shared) (H : Hp) (C : Addr) (cl : List (Str × Addr)) (fp : List Addr), PE (X.blk s H scope (compEnvC scope cl C X.env) fp) kx tk)
    (he : ∀ (s : Shared) (H : Hp) (C : Addr) (cl : List (Str × Addr)) (fp : List Addr), PE (X.blk s H scope (compEnvC scope cl C X.env) fp) vx tv) (hs : ∀ x, foldedSetIterable iter X.env x = pure x := by intro _; rfl) :
    PE X (.DictComp kx vx [⟨tg, iter, ifs, 0⟩] scope pos) (tDn X c0 wi g tt tk tv (own.map (·.2))) := by
  refine ⟨fun pins s σ H Q I h => ?_⟩
  rw [arm_eval_DictComp]
  refine nd_core hu hc hN I hi ok hg ht hk he hs h fun D C s' m H' I' q hn f => ⟨m, hn, fun h'' sb => ?_⟩
  obtain ⟨f0, f1, f2, f3, f4, f5⟩ := f
  exact ⟨.ref D, H', I'.turned (t' := s'.toks) (fun b o hb e => (sb.2 b hb).trans e) f0 f1 f3 f4 f5, rfl, q⟩
end
end Pv
/-! dict comprehensions by value -/
namespace Pv
open PySem PySem.Spec PyProof.Rows L2
def dcL (fin : SH → Bool) (g : MG) (c : MT) (kx vx : ME) (σ : En) : List (SH → Option D) → List (P × D) → SH → Option (List (P × D) × SH)
  | [], acc, S => if fin S = true then some (acc, S) else none
  | t :: ts, acc, S => match t S with
    | some d => bnd (g d σ S) fun σ1 S1 => bnd (c σ1 S1) fun b S2 => if b = true then bnd (kx σ1 S2) fun e S3 => bnd (vx σ1 S3) fun v S4 => match keyD e with
        | some (p, k) => if acc.length < sizeLine then dcL fin g c kx vx σ ts (putD acc p k v) S4 else none
        | none => none
      else dcL fin g c kx vx σ ts acc S2
    | none => none
def toPk : List (P × D) → Option (List (P × P))
  | [] => some []
  | (p, .p x) :: r => (toPk r).map ((p, x) :: ·)
  | (_, .ref _) :: _ => none
def newD (live : Bool) (kvs : List (P × D)) (S : SH) : Option (D × SH) := if live = true then some (.ref S.len, S.push (.dT kvs)) else match toPk kvs with
  | some ps => some (.p (.dT ps), S)
  | none => none
def dDComp (live : Bool) (m : MI) (g : MG) (c : MT) (kx vx : ME) (ws : List Nat) : ME := fun σ S => bnd (m σ S) fun src S1 => bnd (dcL src.fin g c kx vx (wipeD ws σ) src.items [] S1) fun kvs S2 => newD live kvs S2
theorem toPk_of : ∀ {kvs : List (P × D)} {ps : List (P × P)}, toPk kvs = some ps → kvs = ps.map fun x => (x.1, D.p x.2)
  | [], ps, h => by cases h; rfl
  | (p, .p x) :: r, ps, h => by
    unfold toPk at h
    cases e : toPk r with
    | none => rw [e] at h; cases h
    | some qs => rw [e] at h; cases h; rw [List.map_cons, ← toPk_of e]
  | (_, .ref n) :: r, ps, h => by cases h
theorem drt_rpt {K : PySem.W.Frag} {cl : ClW} {F : Hp} {φ : Nat → Addr} {ps : List (P × P)} {vs : List Ent} (r : DRT K cl F φ (ps.map fun x => (x.1, D.p x.2)) vs) : RpT K cl F ps vs := by
  induction ps generalizing vs with
  | nil => cases r; exact .nil
  | cons x ps ih =>
    cases r with
    | @cons _ q _ qs h t =>
      obtain ⟨k, b, v⟩ := q
      obtain ⟨h1, h2, h3, h4⟩ := h
      exact .cons h1 h2 h3 h4 (ih t)
section
variable {X : Cx} {c0 : Nat → Addr} {S : SH} {B : List Nat} {F H H' : Hp} {φ : Nat → Addr} {Q : VK}
theorem newD_ok {live : Bool} {kvs : List (P × D)} {vs : List Ent} (h : OkE X.K (ClX X c0) S B F φ H (newD live kvs S) Q) (s : Sim X.K (ClX X c0) S B F φ H) (r : DRT X.K (ClX X c0) F φ kvs vs) (l : ∀ d ∈ kvs.map (·.2), d.lt S.len) {p : Addr} (hp : H p = none) (sm : Same H H') (hv : H' p = some (dNO X.prog X.w p vs)) : Q (.ref p) H' := by
  unfold newD at h
  cases live with
  | true =>
    rw [if_pos rfl] at h
    obtain ⟨s1, x1⟩ := s.push (H' := H') sm (o := .dT kvs) hp ⟨vs, hv, r⟩ l
    exact h.fin rfl s1 x1 (show V.ref p = V.ref (if S.len = S.len then p else φ S.len) by rw [if_pos rfl]) (show S.len < (S.os ++ [Ob.dT kvs]).length by simp)
  | false =>
    rw [if_neg Bool.false_ne_true] at h
    cases e : toPk kvs with
    | none => rw [e] at h; exact h.no
    | some ps =>
      rw [e] at h
      have ed := toPk_of e
      subst ed
      obtain ⟨s1, x1⟩ := s.frz (H' := H') sm hp hv
      exact h.fin rfl s1 x1 (Rp.dT (.of upd_same) (RpT.mono x1.fz (drt_rpt r))) trivial
/-- the dict that is being made stands beside all others -/
def AtN (X : Cx) (L : Addr) (us : List Ent) (S : SH) (F : Hp) (φ : Nat → Addr) (H : Hp) : Prop := H L = some (dNO X.prog X.w L us) ∧ F L = none ∧ ∀ n, n < S.len → φ n ≠ L
theorem AtN.ext {L : Addr} {us : List Ent} {S S' : SH} {F F' H H' : Hp} {φ φ' : Nat → Addr} (x : Ext S F φ H S' F' φ' H') (a : AtN X L us S F φ H) : AtN X L us S' F' φ' H' := by
  refine ⟨x.keep L _ a.1 a.2.2, x.fr L _ a.1 a.2.1 a.2.2, fun n hn e => ?_⟩
  by_cases h : n < S.len
  · exact a.2.2 n h ((x.phi n h).symm.trans e)
  · have := x.new n (Nat.le_of_not_lt h) hn
    rw [e, a.1] at this; cases this
theorem newD_at {S0 : SH} {F0 H0 : Hp} {φ0 : Nat → Addr} {live : Bool} {ds : List (P × D)} {us : List Ent} {L : Addr} (h : OkE X.K (ClX X c0) S0 B F0 φ0 H0 (newD live ds S) Q) (s : Sim X.K (ClX X c0) S B F φ H) (x : Ext S0 F0 φ0 H0 S F φ H)
    (r : DRT X.K (ClX X c0) F φ ds us) (l : ∀ d ∈ ds.map (·.2), d.lt S.len) (a : AtN X L us S F φ H) (h0 : H0 L = none) : Q (.ref L) H := by
  obtain ⟨aL, fL, np⟩ := a
  let Hm : Hp := fun b => if b = L then none else H b
  have hm : Hm L = none := if_pos rfl
  have ne : ∀ b, b ≠ L → Hm b = H b := fun b hb => if_neg hb
  have sm : Sim X.K (ClX X c0) S B F φ Hm := ⟨fun b o e => by rw [ne b (ne_of_none e fL)]; exact s.le b o e, fun n o e => ⟨(s.ob n o e).1, by rw [ne _ (np n (List.getElem?_eq_some_iff.mp e).1)]; exact (s.ob n o e).2⟩, s.inj, s.wf, s.bs, s.bl⟩
  have xm : Ext S0 F0 φ0 H0 S F φ Hm := ⟨x.fz, x.len, x.b, x.phi, x.new, fun b o e n => by rw [ne b (ne_of_none e h0)]; exact x.keep b o e n, fun n hn e => by
      by_cases q : φ0 n = L
      · exact np n (Nat.lt_of_lt_of_le hn x.len) ((x.phi n hn).trans q)
      · rw [ne _ q] at e; exact x.tr n hn e, x.fr⟩
  have same : Same Hm H := fun b o e => by
    by_cases q : b = L
    · rw [q, hm] at e; cases e
    · rw [ne b q] at e; exact e
  exact newD_ok (h.ext xm) sm r l hm same aL
theorem e_dcomp {live : Bool} {m : MI} {g : MG} {mt : MT} {mk mv : ME} {vs : List Nat} {σ : L2.St} {ws : List Nat} (hw : ∀ j ∈ vs, j ∈ ws) (q : LE X.K (ClX X c0) (dDComp live m g mt mk mv ws) σ H Q) : tDn X c0 (LI X.K (ClX X c0) m) (LG X.K (ClX X c0) vs g) (LT X.K (ClX X c0) mt) (LE X.K (ClX X c0) mk) (LE X.K (ClX X c0) mv) ws σ H Q := by
  obtain ⟨σd, S, B, F, φ, s, rs, o⟩ := q
  obtain ⟨src, S1, e1, o1⟩ := okE_bnd o
  refine ⟨σd, S, B, F, φ, s, rs, src, S1, e1, fun F1 φ1 H1 J s1 x1 it => ?_⟩
  intro L hL
  have o1 := o1.ext x1
  have smL : Same H1 (upd H1 L (dNO X.prog X.w L [])) := Same.new (Same.refl _) hL
  obtain ⟨fL, pL⟩ := s1.none_p hL
  refine ⟨fun i mm H' => mm = src.items.length - i ∧ i ≤ src.items.length ∧ ∃ acc us S' F' φ', Sim X.K (ClX X c0) S' B F' φ' H' ∧ Ext S1 F1 φ1 H1 S' F' φ' H' ∧ AtN X L us S' F' φ' H' ∧ DRT X.K (ClX X c0) F' φ' acc us ∧ (∀ d ∈ acc.map (·.2), d.lt S'.len) ∧
      OkE X.K (ClX X c0) S1 B F1 φ1 H1 (bnd (dcL src.fin g mt mk mv (wipeD ws σd) (src.items.drop i) acc S') fun kvs S2 => newD live kvs S2) Q,
    ⟨src.items.length, by simp, Nat.zero_le _, [], [], S1, F1, φ1, s1.keep smL, Ext.ofSame s1 smL, ⟨upd_same, fL, pL⟩, .nil, fun _ z => absurd z (by simp), by rw [List.drop_zero]; exact o1⟩, ?_⟩
  rintro i mm H' ⟨rfl, hi, acc, us, S', F', φ', s', x', at', ra, la, o'⟩
  obtain ⟨turn, stop⟩ := it S' B F' φ' H' s' x'.fz x'.len x'.phi i
  by_cases hlt : i < src.items.length
  · rw [List.drop_eq_getElem_cons hlt] at o'
    unfold dcL at o'
    cases ht : src.items[i] S' with
    | none => rw [ht] at o'; obtain ⟨_, _, z, _⟩ := o'; cases z
    | some d =>
      rw [ht] at o'
      dsimp only at o'
      obtain ⟨ld, go, yld⟩ := turn _ d (List.getElem?_eq_getElem hlt) ht
      refine .inr ⟨go, fun H3 => ∃ acc us S' F' φ', Sim X.K (ClX X c0) S' B F' φ' H3 ∧ Ext S1 F1 φ1 H1 S' F' φ' H3 ∧ AtN X L us S' F' φ' H3 ∧ DRT X.K (ClX X c0) F' φ' acc us ∧ (∀ d ∈ acc.map (·.2), d.lt S'.len) ∧
        OkE X.K (ClX X c0) S1 B F1 φ1 H1 (bnd (dcL src.fin g mt mk mv (wipeD ws σd) (src.items.drop (i + 1)) acc S') fun kvs S2 => newD live kvs S2) Q, fun H3 h => ⟨src.items.length - (i + 1), by omega, rfl, hlt, h⟩, fun x H2 y => ?_⟩
      obtain ⟨F2, s2, x2, dr⟩ := yld x H2 y
      obtain ⟨out, S9, eo, ko⟩ := okE_bnd o'
      obtain ⟨σ3, S3, e3, e4⟩ := bnd_of eo
      obtain ⟨b, S4, e5, e6⟩ := bnd_of e4
      refine ⟨d, wipeD ws σd, S', B, F2, φ', s2, (((x1.trans x').trans x2).rs rs).wipe2 ws, dr, ld, σ3, S3, e3, fun F4 φ4 H4 σ4 s4 x4 rs4 hk => ⟨?_, ?_⟩⟩
      · exact (wipe_eq hk.1 fun j hj => hk.2 j fun z => hj (hw j z)).trans wipe_wipe
      · refine LT.then_ s4 rs4 e5 fun F5 φ5 H5 s5 x5 rs5 => ?_
        have xa := (x2.trans x4).trans x5
        split
        · rename_i hb
          rw [if_pos hb] at e6
          obtain ⟨ke, S6, e7, e8⟩ := bnd_of e6
          obtain ⟨vv, S7, e9, e10⟩ := bnd_of e8
          refine LE.then_ s5 rs5 e7 fun F6 φ6 H6 u s6 x6 rs6 dr6 l6 => LE.then_ s6 rs6 e9 fun F7 φ7 H7 w s7 x7 rs7 dr7 l7 => ?_
          cases ek : keyD ke with
          | none => rw [ek] at e10; cases e10
          | some pk =>
            obtain ⟨p, k⟩ := pk
            rw [ek] at e10
            dsimp only at e10
            by_cases hz : acc.length < sizeLine
            · rw [if_pos hz] at e10
              have xb := (xa.trans x6).trans x7
              have at6 := at'.ext xb
              have ra7 : DRT X.K (ClX X c0) F7 φ7 acc us := DRT.mono xb.fz xb.phi la ra
              have hlen : acc.length = us.length := Paired.length ra
              obtain ⟨ba, rfl, kp, kd, kr⟩ := keyD_ok ek (x7.dr l6 dr6)
              refine ⟨_, ⟨F7, us, p, k, ba, s7.le, at6.1, keys_drt ra7, rfl, kp, kd, kr, by omega, rfl⟩, putD acc p k vv, putE us k ba w, S7, F7, φ7, s7.other _ at6.2.1 at6.2.2, (x'.trans xb).other _ hL, ⟨upd_same, at6.2⟩, drt_put ra7 kp kd kr dr7, fun z hz' => ?_, ?_⟩
              · rcases putD_ds z hz' with rfl | h
                · exact l7
                · exact xb.lt (la z h)
              · rw [e10]; exact ko
            · rw [if_neg hz] at e10; cases e10
        · rename_i hb
          rw [if_neg hb] at e6
          exact ⟨acc, us, S4, F5, φ5, s5, x'.trans xa, at'.ext xa, DRT.mono xa.fz xa.phi la ra, fun z hz' => xa.lt (la z hz'), by rw [e6]; exact ko⟩
  · have hd : src.items.drop i = [] := List.drop_eq_nil_iff.mpr (by omega)
    rw [hd] at o'
    unfold dcL at o'
    by_cases hf : src.fin S' = true
    · rw [if_pos hf] at o'
      exact .inl ⟨stop (by omega) hf, newD_at o' s' x' ra la at' hL⟩
    · rw [if_neg hf] at o'; obtain ⟨_, _, z, _⟩ := o'; cases z
theorem k_dcomp {kx vx tg iter : Expr} {ifs : List Expr} {scope : Scope} {own : List (Str × Nat)} {pos : Pos} {live : Bool} {m : MI} {g : MG} {mt : MT} {mk mv : ME} {vs : List Nat} (hu : X.A.units + 10 < cLine) (hc : X.calm = true) (hN : X.N.Nodup) (hi : PI X tg iter (LI X.K (ClX X c0) m)) (ok : BlkOk X.N X.env.scope scope own)
    (hg : ∀ (s : Shared) (H : Hp) (C : Addr) (cs : List (Str × Addr)) (fp : List Addr), PG (X.blk s H scope (compEnvC scope cs C X.env) fp) tg (LG X.K (ClX X c0) vs g)) (ht : ∀ (s : Shared) (H : Hp) (C : Addr) (cs : List (Str × Addr)) (fp : List Addr), PTs (X.blk s H scope (compEnvC scope cs C X.env) fp) ifs (LT X.K (ClX X c0) mt))
    (hk : ∀ (s : Shared) (H : Hp) (C : Addr) (cs : List (Str × Addr)) (fp : List Addr), PE (X.blk s H scope (compEnvC scope cs C X.env) fp) kx (LE X.K (ClX X c0) mk))
    (he : ∀ (s : Shared) (H : Hp) (C : Addr) (cs : List (Str × Addr)) (fp : List Addr), PE (X.blk s H scope (compEnvC scope cs C X.env) fp) vx (LE X.K (ClX X c0) mv)) (hw : ∀ j ∈ vs, j ∈ own.map (·.2) := by decide) (hs : ∀ x, foldedSetIterable iter X.env x = pure x := by intro _; rfl) :
    PE X (.DictComp kx vx [⟨tg, iter, ifs, 0⟩] scope pos) (LE X.K (ClX X c0) (dDComp live m g mt mk mv (own.map (·.2)))) :=
  (pe_nd hu hc hN hi ok hg ht hk he hs).imp fun _ _ _ q => e_dcomp hw q
/-! isinstance(d, dict) -/
end
end Pv
/-! a name that takes a dict comprehension on its own line -/
namespace Pv
open PySem PySem.Spec PyProof.Rows L2
section
variable {X : Cx} {c0 : Nat → Addr}
end
end Pv
/-! sorted(list) of tuples of naturals of one length, no two alike -/
namespace Pv
open PySem PySem.Spec PyProof.Rows L2
def intsU : List P → Option (List Int)
  | [] => some []
  | .int i :: r => (intsU r).map (i :: ·)
  | _ => none
def keyU : P → Option (List Int)
  | .tup qs => intsU qs
  | _ => none
def leU (a b : P) : Bool := !HT.lexLt ((keyU b).getD []) ((keyU a).getD [])
section
variable {F : Hp}
end
end Pv
/-! enumerate(a tuple) -/
namespace Pv
open PySem PySem.Spec PyProof.Rows L2
open Sem (wp)
set_option maxHeartbeats 1000000 in
theorem meets_enumerate_newB1 {v : Value} {o : Obj} {H : Heap → Prop} (B : Begins v o H) :
    Meets (Builtin.«enumerate.__new__» ⟨[.type "enumerate", v], []⟩) (fun _ R s => H s.heap ∧
      R (.ok (.ret (.ref (s.heap.push o).objs.size))) { s with heap := (s.heap.push o).push { cls := .type "enumerate", data := .fields #[.none, .bool false, .ref s.heap.objs.size, rawInt 0, .none, .none] } }) :=
  .of_wp fun prog w A R s h => by
    obtain ⟨hp, g, d, tk, os⟩ := s; obtain ⟨h1, h⟩ := h
    have hsub := sub_enumerate
    have q1 : ∀ {A' : Around} {E : Value → Shared → Prop} {Q : Value → Shared → Prop}, Q (.ref hp.objs.size) ⟨hp.push o, g, d, tk, os⟩ → wpAny (model prog w) A' (pyIter v) Q E ⟨hp, g, d, tk, os⟩ :=
      fun q => B.iter prog w _ _ ⟨hp, g, d, tk, os⟩ _ h1 q
    wp_walk using q1
    refine wpAny_stack_any fun st => wpAny_pure ?_
    split
    · rename_i c _ _ _ _ _
      cases (c == Value.type "enumerate")
      · wp_walk using q1
        exact ⟨_, rfl, h⟩
      · wp_walk using q1
        exact ⟨_, rfl, h⟩
    · wp_walk using q1
      exact ⟨_, rfl, h⟩
theorem enum_begins1 {prog : Program} {w : World} {A : Around} {E : Value → Shared → Prop} {s : Shared} {v : Value} {o : Obj} {H : Heap → Prop} {Q : Value → Shared → Prop} (B : Begins v o H) (h1 : H s.heap)
    (h : ∀ h', IsEnum h' (s.heap.objs.size + 1) s.heap.objs.size 0 .none → h'.get? s.heap.objs.size = some o → h'.objs.size = s.heap.objs.size + 2 →
      (∀ b o, s.heap.get? b = some o → h'.get? b = some o) → Q (.ref (s.heap.objs.size + 1)) { s with heap := h' }) :
    wpAny (model prog w) A (call (.type "enumerate") [v]) Q E s := by
  refine callType_new F.called_enumerate (by decide) (F.typeCall_enumerate_1 _) (F.newCall_enumerate_1 _) (fun obj => F.args_object_init_2 obj _) F.entry_enumerate_new
    (meets_enumerate_newB1 B) ⟨h1, ?_⟩
  have hz : (s.heap.push o).objs.size = s.heap.objs.size + 1 := Heap.size_push ..
  show _ ∧ _
  rw [hz]
  have he : IsEnum ((s.heap.push o).push { cls := .type "enumerate", data := .fields #[.none, .bool false, .ref s.heap.objs.size, rawInt 0, .none, .none] }) (s.heap.objs.size + 1) s.heap.objs.size 0 .none := by
    have := Heap.get?_push_size (s.heap.push o) (o := { cls := .type "enumerate", data := .fields #[.none, .bool false, .ref s.heap.objs.size, rawInt 0, .none, .none] }) rfl
    rw [hz] at this; exact this
  refine ⟨⟨_, he, rfl⟩, h _ he (Heap.get?_push_of_some _ (Heap.get?_push_size _ B.free)) (by rw [Heap.size_push, hz]) fun b o x => Heap.get?_push_of_some _ (Heap.get?_push_of_some _ x)⟩
/-- the tuple at a, its items in new pairs -/
def IteT (K : PySem.W.Frag) (a : Addr) : It :=
  ⟨fun i H => ∃ (xs : List V) (x : V), SqT K H a xs ∧ xs[i]? = some x, fun i H v H' => ∃ T x, v = .ref T ∧ H T = none ∧ H' = upd H T (.tup [.int (i : Nat), x]) ∧ ∀ xs, SqT K H a xs → xs[i]? = some x, fun i H => ∃ xs : List V, SqT K H a xs ∧ xs.length ≤ i⟩
theorem turn_enumT {P : Program} {w : World} {K : PySem.W.Frag} {elts : List Expr} {kk : Nat} {tpos : Pos} (a e it : Addr) :
    Turn P w K (.Tuple elts kk tpos) (IteT K a) [e, it] e (fun i h => (∃ old, IsEnum h e it ((i : Nat) : Int) old) ∧ h.IsTupleIter it a i ∧ e ≠ it ∧ a ≠ it ∧ e ≠ a) where
  mem := by simp
  obj := fun i h st b hb => by
    obtain ⟨⟨old, he⟩, ⟨o, ho, hc, hd⟩, _⟩ := st
    have e' : b = e ∨ b = it := by simpa using hb
    rcases e' with z | z
    · rw [z]; exact ⟨_, he, fun v q => nomatch q⟩
    · rw [z]; exact ⟨o, ho, fun v q => by rw [hd] at q; cases q⟩
  keep := fun i h h' st k => let ⟨⟨old, he⟩, hi, hne⟩ := st; ⟨⟨old, k e (by simp) _ he⟩, hi.at fun o q => k it (by simp) o q, hne⟩
  item := by
    intro X hP hw hK hc i pins s σ H E I hf st hg
    subst hP hw hK
    obtain ⟨⟨old, he⟩, hit, hne, hai, hea⟩ := st
    obtain ⟨xs, x, hq, hx⟩ := hg
    obtain ⟨its, rv, p, hz⟩ := I.tuple hq
    obtain ⟨u, hu, ru⟩ := rv.get hx
    have hel : e < s.heap.objs.size := Heap.lt_size he
    have hil : it < s.heap.objs.size := by obtain ⟨_, q, _⟩ := hit; exact Heap.lt_size q
    have hlt : i < its.toArray.size := by
      have := (List.getElem?_eq_some_iff.mp hu).1
      simpa using this
    have D : Draws X.prog X.w X.A.in1 it [it, a] its.toArray.size (fun j v => its.toArray[j]? = some v) (fun j h => h.IsTupleIter it a j ∧ h.IsTuple a its.toArray) := Draws.tuple (A := X.A.in1) (I.ok.hd hc) it a hai its.toArray
    refine wpAny_pyNext_enum_itemD D he ⟨hit, p⟩ hlt hne (by simp [hne, hea]) fun y h' tk hy ho hst' hT hsz hk => ?_
    have hyu : y = u := by
      have e1 : its.toArray[i]? = some u := by simpa using hu
      rw [e1] at hy
      exact (Option.some.inj hy).symm
    subst hyu
    have hit' := hst'.1
    refine ⟨_, rfl, wpAny_letOwnedTupleGo_enum (s := { s with heap := h', toks := tk + 1 }) ho fun h'' he' sb => ?_⟩
    have hT2 : h''.get? s.heap.objs.size = some { cls := .type "tuple", data := .seq #[.int i tk, y] } := (sb.2 _ (Nat.ne_of_gt hel)).trans hT
    have new : ObjOk X.prog X.w (upd H s.heap.objs.size (.tup [.int (i : Nat), x])) h'' s.heap.objs.size (.tup [.int (i : Nat), x]) :=
      ⟨by show 2 ≤ sizeLine; decide, [.int i tk, y], .cons ⟨_, rfl⟩ (.cons ru .nil), ⟨_, hT2, rfl, _, rfl⟩⟩
    have I1 : Inv X pins σ (upd H s.heap.objs.size (.tup [.int (i : Nat), x])) { s with heap := h'', toks := tk + 1 } :=
      I.turnedNew (ch := [e, it]) (fun b ob hb q => (sb.2 b (fun z => hb (by simp [z]))).trans (hk b ob (fun z => hb (by simp [z])) (fun z => hb (by simp [z])) q)) hf (Nat.le_refl _) new
    refine ⟨.ref s.heap.objs.size, _, I1, rfl, ⟨_, x, rfl, I.hok.fresh (Nat.le_refl _), rfl, fun ys hy => by rw [I.tuple_inj hy hq]; exact hx⟩, ⟨⟨y, ?_⟩, hit'.at fun o q => (sb.2 it (Ne.symm hne)).trans q, hne, hai, hea⟩, fun b hb => ?_⟩
    · have e1 : ((i + 1 : Nat) : Int) = (i : Int) + 1 := by omega
      rw [e1]; exact he'
    · have hb' : b < s.heap.objs.size := by
        have e' : b = e ∨ b = it := by simpa using hb
        rcases e' with z | z
        · rw [z]; exact hel
        · rw [z]; exact hil
      rw [upd_ne (Nat.ne_of_lt hb')]
      exact (hf b hb).1
  done := by
    intro X hP hw hK hc i pins s σ H E I hf st hg
    subst hP hw hK
    obtain ⟨⟨old, he⟩, hit, hne, hai, hea⟩ := st
    obtain ⟨xs, hq, hx⟩ := hg
    obtain ⟨its, rv, p, hz⟩ := I.tuple hq
    obtain ⟨f0, f1, f2, f3, f4, f5⟩ := hf it (by simp)
    have hl := rv.length
    have hge : its.toArray.size ≤ i := by simp; omega
    have D : Draws X.prog X.w X.A.in1 it [it, a] i (fun _ _ => True) (fun j h => j = i ∧ h.IsTupleIter it a i ∧ h.IsTuple a its.toArray) := {
      live := fun _ _ st => let ⟨o, ho, _⟩ := st.2.1; ⟨o, ho⟩
      frame := fun _ _ _ st hk => ⟨st.1, st.2.1.at fun o e => hk it (by simp) o e, st.2.2.at fun o e => hk a (by simp) o e⟩
      item := fun j s Q E hj st _ => absurd st.1 (Nat.ne_of_lt hj)
      done := fun s Q E st hE => wpAny_nextOf_tuple_end (I.ok.hd hc) st.2.1 st.2.2 (Array.getElem?_eq_none hge) hE }
    exact wpAny_pyNext_enum_endD D he ⟨rfl, hit, p⟩ fun h' eb => ⟨rfl, I.turned (t' := s.toks) (fun b o hb q => eb b o hb q) f0 f1 f3 f4 f5⟩
  self := fun A i s Q E st h => let ⟨⟨_, he⟩, _⟩ := st; wpAny_pyIter_enum he h
end Pv
/-! enumerate(a list that is data) -/
namespace Pv
open PySem PySem.Spec PyProof.Rows L2
def enumP : Nat → List P → List P
  | _, [] => []
  | k, p :: r => .tup [.int (k : Int), p] :: enumP (k + 1) r
theorem enumP_at : ∀ (ps : List P) (k i : Nat), (enumP k ps)[i]? = (ps[i]?).map fun p => P.tup [.int ((k + i : Nat) : Int), p]
  | [], k, i => by simp [enumP]
  | p :: r, k, 0 => by simp [enumP]
  | p :: r, k, i + 1 => by
    rw [enumP, List.getElem?_cons_succ, List.getElem?_cons_succ, enumP_at r (k + 1) i]
    rw [show k + 1 + i = k + (i + 1) by omega]
theorem enumP_len : ∀ (ps : List P) (k : Nat), (enumP k ps).length = ps.length
  | [], k => rfl
  | p :: r, k => by rw [enumP, List.length_cons, List.length_cons, enumP_len r]
def enum1 (d : D) (S : SH) : Option (Src × SH) := match d with
  | .p (.lst ps) => some (srcP (enumP 0 ps), S)
  | .p (.tup ps) => some (srcP (enumP 0 ps), S)
  | _ => none
def denumerate (m : ME) : MI := fun σ S => bnd (m σ S) enum1
section
variable {X : Cx} {cl : ClW} {tg e l : Expr} {pos p : Pos} {me : ME} {ma : MA}
theorem itD_enum {K : PySem.W.Frag} {S : SH} {F : Hp} {φ : Nat → Addr} {ps : List P} {a : Addr} {vs : List V} (q : SqL K F a vs) (hr : RpA K cl F ps vs) : ItD K cl S F φ (Ite K a) (srcP (enumP 0 ps)) := by
  intro S' B' F' φ' H' s sf hl hp i
  have dr : DRA K cl F' φ' (ps.map D.p) vs := (RpA.mono sf hr).dra
  have hlen := dr.length
  rw [List.length_map] at hlen
  have q' : SqL K H' a vs := SqL.mono (sf.trans s.le) q
  refine ⟨fun t d ht htd => ?_, fun hi _ => ?_⟩
  · have ht : ((enumP 0 ps).map fun p (_ : SH) => some (D.p p))[i]? = some t := ht
    rw [List.getElem?_map, enumP_at] at ht
    cases e : ps[i]? with
    | none => rw [e] at ht; cases ht
    | some y =>
      rw [e] at ht
      cases ht
      cases htd
      obtain ⟨v, hv, rv⟩ := dr.get (i := i) (d := .p y) (by rw [List.getElem?_map, e]; rfl)
      refine ⟨trivial, ⟨vs, v, q', hv⟩, fun x H2 hy => ?_⟩
      obtain ⟨T, x0, rfl, hT, rfl, hx⟩ := hy
      have e0 := hx vs q'
      rw [hv] at e0
      cases e0
      have sm : Same H' (upd H' T (.tup [.int (i : Nat), v])) := fun b o eb => by rw [upd_ne (ne_of_none eb hT)]; exact eb
      obtain ⟨s1, x1⟩ := s.frz (H' := upd H' T (.tup [.int (i : Nat), v])) sm hT upd_same
      refine ⟨_, s1, x1, ?_⟩
      have rv' : Rp K cl F' y v := rv
      have iz : ((0 + i : Nat) : Int) = (i : Int) := by rw [Nat.zero_add]
      rw [iz]
      exact Rp.tup (.inl (.inl upd_same)) (.cons (.int _) (.cons (Rp.mono x1.fz rv') .nil))
  · have hi : ((enumP 0 ps).map fun p (_ : SH) => some (D.p p)).length ≤ i := hi
    rw [List.length_map, enumP_len] at hi
    exact ⟨vs, q', by omega⟩
theorem itD_enumT {K : PySem.W.Frag} {S : SH} {F : Hp} {φ : Nat → Addr} {ps : List P} {a : Addr} {vs : List V} (q : SqT K F a vs) (hr : RpA K cl F ps vs) : ItD K cl S F φ (IteT K a) (srcP (enumP 0 ps)) := by
  intro S' B' F' φ' H' s sf hl hp i
  have dr : DRA K cl F' φ' (ps.map D.p) vs := (RpA.mono sf hr).dra
  have hlen := dr.length
  rw [List.length_map] at hlen
  have q' : SqT K H' a vs := SqT.mono (sf.trans s.le) q
  refine ⟨fun t d ht htd => ?_, fun hi _ => ?_⟩
  · have ht : ((enumP 0 ps).map fun p (_ : SH) => some (D.p p))[i]? = some t := ht
    rw [List.getElem?_map, enumP_at] at ht
    cases e : ps[i]? with
    | none => rw [e] at ht; cases ht
    | some y =>
      rw [e] at ht
      cases ht
      cases htd
      obtain ⟨v, hv, rv⟩ := dr.get (i := i) (d := .p y) (by rw [List.getElem?_map, e]; rfl)
      refine ⟨trivial, ⟨vs, v, q', hv⟩, fun x H2 hy => ?_⟩
      obtain ⟨T, x0, rfl, hT, rfl, hx⟩ := hy
      have e0 := hx vs q'
      rw [hv] at e0
      cases e0
      have sm : Same H' (upd H' T (.tup [.int (i : Nat), v])) := fun b o eb => by rw [upd_ne (ne_of_none eb hT)]; exact eb
      obtain ⟨s1, x1⟩ := s.frz (H' := upd H' T (.tup [.int (i : Nat), v])) sm hT upd_same
      refine ⟨_, s1, x1, ?_⟩
      have rv' : Rp K cl F' y v := rv
      have iz : ((0 + i : Nat) : Int) = (i : Int) := by rw [Nat.zero_add]
      rw [iz]
      exact Rp.tup (.inl (.inl upd_same)) (.cons (.int _) (.cons (Rp.mono x1.fz rv') .nil))
  · have hi : ((enumP 0 ps).map fun p (_ : SH) => some (D.p p)).length ≤ i := hi
    rw [List.length_map, enumP_len] at hi
    exact ⟨vs, q', by omega⟩
/-- enumerate(a list or a tuple) -/
def iEnumLT (K : PySem.W.Frag) (ta : TA) : TI := fun σ H R => ta σ H fun vs H1 => ∃ a xs, vs = [.ref a] ∧ ((SqL K H1 a xs ∧ R (Ite K a) H1) ∨ (SqT K H1 a xs ∧ R (IteT K a) H1))
theorem pi_enumLT {X : Cx} {e : Expr} {ta : TA} {p pos tpos : Pos} {elts : List Expr} {kk : Nat} (hg : Gl X "enumerate") (hm : X.mg "enumerate" = none) (ha : PA X [e] ta) (hs : starEach [e] X.env = [(false, eval e X.env)] := by rfl) :
    PI X (.Tuple elts kk tpos) (.Call (.Name "enumerate" p) [e] [] pos) (iEnumLT X.K ta) := by
  refine ⟨fun pins s σ H R I h => ?_⟩
  refine Call_ (ld_blt I hg hm boot_enumerate (PyProof.Rows.callWith_type1 (thn (ha.run pos pins s σ H _ I h) fun us s1 ⟨vs, H1, I1, r1, q1⟩ => ?_) hs rfl))
  obtain ⟨a, xs, ex, hq⟩ := q1
  subst ex
  cases r1 with
  | cons r rr =>
    cases rr
    cases r
    have fin : ∀ h' : Heap, ∀ b, b ∈ [s1.heap.objs.size + 1, s1.heap.objs.size] → FpOk X pins H1 b := fun h' b hb => by
      have e' : b = s1.heap.objs.size + 1 ∨ b = s1.heap.objs.size := by simpa using hb
      have hle : s1.heap.objs.size ≤ b := by
        rcases e' with z | z
        · rw [z]; exact Nat.le_add_right _ _
        · rw [z]; exact Nat.le_refl _
      exact I1.fpOk hle (I1.hok.fresh hle)
    rcases hq with ⟨hq, q⟩ | ⟨hq, q⟩
    · obtain ⟨its, rv, p', hz⟩ := I1.list hq
      refine call_enumerate_list p'.isList fun h' he hit hsz hk => wpAny_pyIter_enum he ?_
      have I2 : Inv X pins σ H1 { s1 with heap := h' } := I1.kept (t' := s1.toks) hk
      exact ⟨s1.heap.objs.size + 1, [s1.heap.objs.size + 1, s1.heap.objs.size], _, _, H1, rfl, I2, turn_enum a (s1.heap.objs.size + 1) s1.heap.objs.size, ⟨⟨.none, he⟩, hit, Nat.succ_ne_self _⟩, fin h', q⟩
    · obtain ⟨its, rv, p', hz⟩ := I1.tuple hq
      have ht : s1.heap.IsTuple a its.toArray := p'
      have hal : a < s1.heap.objs.size := by obtain ⟨_, q, _⟩ := ht; exact Heap.lt_size q
      refine enum_begins1 (begins_tuple a its.toArray) ht fun h' he hg' hsz hk => wpAny_pyIter_enum he ?_
      have I2 : Inv X pins σ H1 { s1 with heap := h' } := I1.kept (t' := s1.toks) hk
      exact ⟨s1.heap.objs.size + 1, [s1.heap.objs.size + 1, s1.heap.objs.size], _, _, H1, rfl, I2, turn_enumT a (s1.heap.objs.size + 1) s1.heap.objs.size, ⟨⟨.none, he⟩, ⟨_, hg', rfl, rfl⟩, Nat.succ_ne_self _, Nat.ne_of_lt hal, Ne.symm (Nat.ne_of_lt (Nat.lt_succ_of_lt hal))⟩, fin h', q⟩
theorem pi_enumerate {elts : List Expr} {kk : Nat} {tpos : Pos} (hg : Gl X "enumerate") (hm : X.mg "enumerate" = none) (hl : PE X e (LE X.K cl me)) (hs : starEach [e] X.env = [(false, eval e X.env)] := by rfl) :
    PI X (.Tuple elts kk tpos) (.Call (.Name "enumerate" p) [e] [] pos) (LI X.K cl (denumerate me)) := by
  have h := pi_enumLT (p := p) (pos := pos) (tpos := tpos) (elts := elts) (kk := kk) hg hm (a_cons hl a_nil hs) hs
  refine ⟨fun pins s σ H R I q => h.run pins s σ H R I ?_⟩
  obtain ⟨σd, S, B, F, φ, sm, rs, src, S1, e0, k⟩ := q
  obtain ⟨d, S2, e1, e2⟩ := bnd_of e0
  have eA : (dCons me dNil) σd S = some ([d], S2) := by
    show bnd (me σd S) _ = _
    rw [e1]
    rfl
  refine LA.then_ sm rs eA fun F1 φ1 H1 us s1 x1 rs1 dr l => ?_
  unfold enum1 at e2
  split at e2
  · rename_i ps
    cases e2
    cases dr with
    | cons r t =>
      cases t
      cases (show Rp X.K cl F1 (.lst ps) _ from r) with
      | @lst a _ vs q t =>
        exact ⟨a, vs, rfl, .inl ⟨SqL.mono s1.le q, k F1 φ1 H1 _ s1 x1 (itD_enum q t)⟩⟩
  · rename_i ps
    cases e2
    cases dr with
    | cons r t =>
      cases t
      cases (show Rp X.K cl F1 (.tup ps) _ from r) with
      | @tup a _ vs q t =>
        exact ⟨a, vs, rfl, .inr ⟨SqT.mono s1.le q, k F1 φ1 H1 _ s1 x1 (itD_enumT q t)⟩⟩
  · cases e2
/-! reversed(a list that is data) -/
end
end Pv
/-! any(list of truths); a star in a display -/
namespace Pv
open PySem PySem.Spec PyProof.Rows L2
section
variable {K : PySem.W.Frag} {cl : ClW}
def bolsOf : List D → Option (List Bool)
  | [] => some []
  | d :: r => match isB d, bolsOf r with
    | some b, some bs => some (b :: bs)
    | _, _ => none
theorem bolsOf_map (bs : List Bool) : bolsOf (bs.map fun b => D.p (.bl b)) = some bs := by
  induction bs with
  | nil => rfl
  | cons x r ih => simp [bolsOf, ih, isB]
theorem bolsOf_of : ∀ {ds : List D} {bs : List Bool} {F : Hp} {φ : Nat → Addr} {vs : List V}, bolsOf ds = some bs → DRA K cl F φ ds vs → vs = bs.map V.bl
  | [], bs, F, φ, vs, h, r => by cases h; cases r; rfl
  | d :: ds, bs, F, φ, vs, h, r => by
    unfold bolsOf at h
    split at h
    · rename_i b bs' e1 e2
      cases h
      cases isB_of e1
      cases r with
      | cons a t => rw [List.map_cons, ← bolsOf_of e2 t, rp_bl a]
    · cases h
def fAny : MF := fun ds S => match ds with
  | [d] => match asL d S with | some xs => (match bolsOf xs with | some bs => some (.p (.bl (bs.any id)), S) | none => none) | none => none
  | _ => none
theorem d_any : CallD K cl fAny (rAny K) := by
  intro S B F φ H ds xs Q s r l o
  unfold fAny at o
  split at o
  · split at o
    · rename_i d ys e
      split at o
      · rename_i bs e2
        obtain ⟨x, rfl, rx⟩ := dra1 r
        obtain ⟨a, vs, rfl, q, t, m⟩ := asL_ok s e rx (l _ List.mem_cons_self)
        have := bolsOf_of e2 t
        subst this
        exact ⟨a, bs, rfl, q, o.fin0 rfl s (Rp.bl _) trivial⟩
      · exact o.no
    · exact o.no
  · exact o.no
end
theorem paired_app {α β : Type} {R : α → β → Prop} {a c : List α} {b d : List β} (h : Paired R a b) (k : Paired R c d) : Paired R (a ++ c) (b ++ d) := by
  induction h with
  | nil => exact k
  | cons x _ ih => exact .cons x ih
def dStar (a : ME) (r : MA) : MA := fun σ S => bnd (a σ S) fun x S1 => match asQ x S1 with
  | some xs => bnd (r σ S1) fun ys S2 => some (xs ++ ys, S2)
  | none => none
section
variable {X : Cx} {cl : ClW} {e : Expr} {es : List Expr} {p : Pos} {ma : ME} {mr : MA}
theorem a_star (he : PE X e (LE X.K cl ma)) (hr : PA X es (LA X.K cl mr)) (hs : starEach (.Starred e p :: es) X.env = (true, eval e X.env) :: starEach es X.env := by rfl) : PA X (.Starred e p :: es) (LA X.K cl (dStar ma mr)) := by
  refine (StX.pa_star he hr hs).imp fun σ H Q q => ?_
  obtain ⟨σd, S, B, F, φ, s, rs, o⟩ := q
  obtain ⟨d1, S1, ea, o⟩ := okA_bnd o
  cases eq : asQ d1 S1 with
  | none => rw [eq] at o; obtain ⟨_, _, z, _⟩ := o; cases z
  | some xs =>
    rw [eq] at o
    dsimp only at o
    obtain ⟨d2, S2, eb, o⟩ := okA_bnd o
    refine LE.then_ s rs ea fun F1 φ1 H1 x s1 x1 rs1 dr1 l1 => ?_
    obtain ⟨a, vs, rfl, q, t, m⟩ := asQ_ok s1 eq dr1 l1
    refine ⟨a, vs, rfl, q.symm, ?_⟩
    refine LA.then_ s1 rs1 eb fun F2 φ2 H2 y s2 x2 rs2 dr2 l2 => ?_
    obtain ⟨_, _, z, k⟩ := o
    cases z
    exact k F2 φ2 H2 (vs ++ y) s2 (x1.trans x2) (paired_app (x2.dra m t) dr2) fun d hd => by
      rcases List.mem_append.mp hd with hd | hd
      · exact x2.lt (m d hd)
      · exact l2 d hd
end
end Pv
namespace Pv
open PySem PySem.Spec PyProof.Rows L2
/-! order of tuples, the first pair that differs decides (pairs behind it need not be comparable) -/
namespace TupO
open PySem.SeqAt
open PySem.AutoSeq1 (wpAny_loadPart')
open PySem.MeetsSeq PySem.MeetsSeq2 PySem.MeetsSeq3

theorem at_lt (l b : Addr) (xs ys : Array Value) (n1 n2 : Nat) (d1 d2 : Option Addr) (sl1 sl2 : Array (Option Value)) (e r : Nat → Bool) :
    Meets (Builtin.«tuple.__lt__» ⟨[.ref l, .ref b], []⟩)
      (fun A R s => s.heap.get? l = some { cls := .type "tuple", dict := d1, data := .seq xs n1, slots := sl1 } ∧ s.heap.get? b = some { cls := .type "tuple", dict := d2, data := .seq ys n2, slots := sl2 } ∧
        (∀ j (h1 : j < xs.size) (h2 : j < ys.size), EqAt A.in1 s xs[j] ys[j] (e j)) ∧
        (∀ j (h1 : j < xs.size) (h2 : j < ys.size), (∀ m, m < j → e m = true) → e j = false → Ob.RcOp .Lt A.in1 s xs[j] ys[j] (r j)) ∧
        R (.ok (.ret (.bool (Ob.lexAt e r (decide (xs.size < ys.size)) 0 (min xs.size ys.size))))) s) :=
  .of_wp fun prog w A R s h => by
    obtain ⟨hp, gs, dr, tk, os⟩ := s; obtain ⟨hl, hb, he, hr, hR0⟩ := h
    have sub := AutoSeq1.sub_tuple_tuple
    have lenZ : (xs.toList.zip ys.toList).length = min xs.size ys.size := by simp
    wp_walk using wpAny_loadPart' hl, wpAny_loadPart' hb, wpAny_forIn_list _ (fun left c s' => c.1 = none ∧ s' = ⟨hp, gs, dr, tk, os⟩ ∧ ∃ i, left = (xs.toList.zip ys.toList).drop i ∧ (∀ m, m < i → e m = true) ∧
      R (.ok (.ret (.bool (Ob.lexAt e r (decide (xs.size < ys.size)) i (min xs.size ys.size - i))))) ⟨hp, gs, dr, tk, os⟩) _
    case turn =>
      rintro ⟨y, x⟩ left c s' ⟨hc', rfl, i, hz, hprev, hR⟩
      have lt0 : i < (xs.toList.zip ys.toList).length := by
        rcases Nat.lt_or_ge i (xs.toList.zip ys.toList).length with q | q
        · exact q
        · rw [List.drop_of_length_le q] at hz; cases hz
      have lt1 : i < min xs.size ys.size := lenZ ▸ lt0
      have h1 : i < xs.size := Nat.lt_of_lt_of_le lt1 (Nat.min_le_left _ _)
      have h2 : i < ys.size := Nat.lt_of_lt_of_le lt1 (Nat.min_le_right _ _)
      rw [List.drop_eq_getElem_cons lt0] at hz
      injection hz with hyx hleft
      have hy : y = xs[i] := by simpa using congrArg Prod.fst hyx
      have hx : x = ys[i] := by simpa using congrArg Prod.snd hyx
      subst hy hx
      rw [show min xs.size ys.size - i = (min xs.size ys.size - (i + 1)) + 1 by omega, Ob.lexAt_succ] at hR
      refine wpAny_bind (he i h1 h2 prog w _ _ ?_)
      cases hei : e i with
      | true =>
        rw [hei, if_pos rfl] at hR
        wp_walk
        refine ⟨rfl, rfl, i + 1, hleft, fun m hm => ?_, hR⟩
        rcases Nat.lt_succ_iff_lt_or_eq.mp hm with q | q
        · exact hprev m q
        · rw [q]; exact hei
      | false =>
        rw [hei, if_neg Bool.false_ne_true] at hR
        have hri := hr i h1 h2 hprev hei prog w
        wp_walk using hri
        exact ⟨_, rfl, by simpa using hR⟩
    case fin =>
      rintro ⟨c1, c2⟩ s' ⟨hc', rfl, i, hz, _, hR⟩
      simp only at hc'
      subst hc'
      have hge : min xs.size ys.size ≤ i := by
        rcases Nat.lt_or_ge i (xs.toList.zip ys.toList).length with q | q
        · rw [List.drop_eq_getElem_cons q] at hz; cases hz
        · exact lenZ ▸ q
      rw [Nat.sub_eq_zero_of_le hge, Ob.lexAt_zero] at hR
      wp_walk
      exact ⟨_, rfl, by simpa [Builtin.Tuple.tupleCompareSizes] using hR⟩
    case h =>
      exact ⟨rfl, rfl, 0, rfl, fun m hm => absurd hm (Nat.not_lt_zero m), by simpa using hR0⟩
theorem rc_lt {A : Around} {s : Shared} {l b : Addr} {xs ys : Array Value} {e r : Nat → Bool} (hl : s.heap.IsTuple l xs) (hb : s.heap.IsTuple b ys) (hu : A.units < cLine)
    (he : ∀ j (h1 : j < xs.size) (h2 : j < ys.size), EqAt A.in1 s xs[j] ys[j] (e j))
    (hr : ∀ j (h1 : j < xs.size) (h2 : j < ys.size), (∀ m, m < j → e m = true) → e j = false → Ob.RcOp .Lt A.in1 s xs[j] ys[j] (r j)) :
    Ob.RcOp .Lt A s (.ref l) (.ref b) (Ob.lexAt e r (decide (xs.size < ys.size)) 0 (min xs.size ys.size)) := fun prog w E Q h => by
  obtain ⟨⟨k1, d1, q1, sl1⟩, ho1, hc1, n1, hd1⟩ := id hl
  obtain ⟨⟨k2, d2, q2, sl2⟩, ho2, hc2, n2, hd2⟩ := id hb
  simp only at hc1 hd1 hc2 hd2
  subst hc1 hd1 hc2 hd2
  exact richCompare_meets_room (op := .Lt) ⟨_, ho1, rfl⟩ ⟨_, ho2, rfl⟩ F.slot_tuple_lt F.entry_tuple_lt (F.args_tuple_lt_2 _ _) (at_lt l b xs ys n1 n2 d1 d2 sl1 sl2 e r)
    ⟨ho1, ho2, he, hr, ⟨(fun x => nomatch x), h⟩⟩ hu

theorem at_le (l b : Addr) (xs ys : Array Value) (n1 n2 : Nat) (d1 d2 : Option Addr) (sl1 sl2 : Array (Option Value)) (e r : Nat → Bool) :
    Meets (Builtin.«tuple.__le__» ⟨[.ref l, .ref b], []⟩)
      (fun A R s => s.heap.get? l = some { cls := .type "tuple", dict := d1, data := .seq xs n1, slots := sl1 } ∧ s.heap.get? b = some { cls := .type "tuple", dict := d2, data := .seq ys n2, slots := sl2 } ∧
        (∀ j (h1 : j < xs.size) (h2 : j < ys.size), EqAt A.in1 s xs[j] ys[j] (e j)) ∧
        (∀ j (h1 : j < xs.size) (h2 : j < ys.size), (∀ m, m < j → e m = true) → e j = false → Ob.RcOp .LtE A.in1 s xs[j] ys[j] (r j)) ∧
        R (.ok (.ret (.bool (Ob.lexAt e r (decide (xs.size ≤ ys.size)) 0 (min xs.size ys.size))))) s) :=
  .of_wp fun prog w A R s h => by
    obtain ⟨hp, gs, dr, tk, os⟩ := s; obtain ⟨hl, hb, he, hr, hR0⟩ := h
    have sub := AutoSeq1.sub_tuple_tuple
    have lenZ : (xs.toList.zip ys.toList).length = min xs.size ys.size := by simp
    wp_walk using wpAny_loadPart' hl, wpAny_loadPart' hb, wpAny_forIn_list _ (fun left c s' => c.1 = none ∧ s' = ⟨hp, gs, dr, tk, os⟩ ∧ ∃ i, left = (xs.toList.zip ys.toList).drop i ∧ (∀ m, m < i → e m = true) ∧
      R (.ok (.ret (.bool (Ob.lexAt e r (decide (xs.size ≤ ys.size)) i (min xs.size ys.size - i))))) ⟨hp, gs, dr, tk, os⟩) _
    case turn =>
      rintro ⟨y, x⟩ left c s' ⟨hc', rfl, i, hz, hprev, hR⟩
      have lt0 : i < (xs.toList.zip ys.toList).length := by
        rcases Nat.lt_or_ge i (xs.toList.zip ys.toList).length with q | q
        · exact q
        · rw [List.drop_of_length_le q] at hz; cases hz
      have lt1 : i < min xs.size ys.size := lenZ ▸ lt0
      have h1 : i < xs.size := Nat.lt_of_lt_of_le lt1 (Nat.min_le_left _ _)
      have h2 : i < ys.size := Nat.lt_of_lt_of_le lt1 (Nat.min_le_right _ _)
      rw [List.drop_eq_getElem_cons lt0] at hz
      injection hz with hyx hleft
      have hy : y = xs[i] := by simpa using congrArg Prod.fst hyx
      have hx : x = ys[i] := by simpa using congrArg Prod.snd hyx
      subst hy hx
      rw [show min xs.size ys.size - i = (min xs.size ys.size - (i + 1)) + 1 by omega, Ob.lexAt_succ] at hR
      refine wpAny_bind (he i h1 h2 prog w _ _ ?_)
      cases hei : e i with
      | true =>
        rw [hei, if_pos rfl] at hR
        wp_walk
        refine ⟨rfl, rfl, i + 1, hleft, fun m hm => ?_, hR⟩
        rcases Nat.lt_succ_iff_lt_or_eq.mp hm with q | q
        · exact hprev m q
        · rw [q]; exact hei
      | false =>
        rw [hei, if_neg Bool.false_ne_true] at hR
        have hri := hr i h1 h2 hprev hei prog w
        wp_walk using hri
        exact ⟨_, rfl, by simpa using hR⟩
    case fin =>
      rintro ⟨c1, c2⟩ s' ⟨hc', rfl, i, hz, _, hR⟩
      simp only at hc'
      subst hc'
      have hge : min xs.size ys.size ≤ i := by
        rcases Nat.lt_or_ge i (xs.toList.zip ys.toList).length with q | q
        · rw [List.drop_eq_getElem_cons q] at hz; cases hz
        · exact lenZ ▸ q
      rw [Nat.sub_eq_zero_of_le hge, Ob.lexAt_zero] at hR
      wp_walk
      exact ⟨_, rfl, by simpa [Builtin.Tuple.tupleCompareSizes] using hR⟩
    case h =>
      exact ⟨rfl, rfl, 0, rfl, fun m hm => absurd hm (Nat.not_lt_zero m), by simpa using hR0⟩
theorem rc_le {A : Around} {s : Shared} {l b : Addr} {xs ys : Array Value} {e r : Nat → Bool} (hl : s.heap.IsTuple l xs) (hb : s.heap.IsTuple b ys) (hu : A.units < cLine)
    (he : ∀ j (h1 : j < xs.size) (h2 : j < ys.size), EqAt A.in1 s xs[j] ys[j] (e j))
    (hr : ∀ j (h1 : j < xs.size) (h2 : j < ys.size), (∀ m, m < j → e m = true) → e j = false → Ob.RcOp .LtE A.in1 s xs[j] ys[j] (r j)) :
    Ob.RcOp .LtE A s (.ref l) (.ref b) (Ob.lexAt e r (decide (xs.size ≤ ys.size)) 0 (min xs.size ys.size)) := fun prog w E Q h => by
  obtain ⟨⟨k1, d1, q1, sl1⟩, ho1, hc1, n1, hd1⟩ := id hl
  obtain ⟨⟨k2, d2, q2, sl2⟩, ho2, hc2, n2, hd2⟩ := id hb
  simp only at hc1 hd1 hc2 hd2
  subst hc1 hd1 hc2 hd2
  exact richCompare_meets_room (op := .LtE) ⟨_, ho1, rfl⟩ ⟨_, ho2, rfl⟩ F.slot_tuple_le F.entry_tuple_le (F.args_tuple_le_2 _ _) (at_le l b xs ys n1 n2 d1 d2 sl1 sl2 e r)
    ⟨ho1, ho2, he, hr, ⟨(fun x => nomatch x), h⟩⟩ hu

theorem at_gt (l b : Addr) (xs ys : Array Value) (n1 n2 : Nat) (d1 d2 : Option Addr) (sl1 sl2 : Array (Option Value)) (e r : Nat → Bool) :
    Meets (Builtin.«tuple.__gt__» ⟨[.ref l, .ref b], []⟩)
      (fun A R s => s.heap.get? l = some { cls := .type "tuple", dict := d1, data := .seq xs n1, slots := sl1 } ∧ s.heap.get? b = some { cls := .type "tuple", dict := d2, data := .seq ys n2, slots := sl2 } ∧
        (∀ j (h1 : j < xs.size) (h2 : j < ys.size), EqAt A.in1 s xs[j] ys[j] (e j)) ∧
        (∀ j (h1 : j < xs.size) (h2 : j < ys.size), (∀ m, m < j → e m = true) → e j = false → Ob.RcOp .Gt A.in1 s xs[j] ys[j] (r j)) ∧
        R (.ok (.ret (.bool (Ob.lexAt e r (decide (xs.size > ys.size)) 0 (min xs.size ys.size))))) s) :=
  .of_wp fun prog w A R s h => by
    obtain ⟨hp, gs, dr, tk, os⟩ := s; obtain ⟨hl, hb, he, hr, hR0⟩ := h
    have sub := AutoSeq1.sub_tuple_tuple
    have lenZ : (xs.toList.zip ys.toList).length = min xs.size ys.size := by simp
    wp_walk using wpAny_loadPart' hl, wpAny_loadPart' hb, wpAny_forIn_list _ (fun left c s' => c.1 = none ∧ s' = ⟨hp, gs, dr, tk, os⟩ ∧ ∃ i, left = (xs.toList.zip ys.toList).drop i ∧ (∀ m, m < i → e m = true) ∧
      R (.ok (.ret (.bool (Ob.lexAt e r (decide (xs.size > ys.size)) i (min xs.size ys.size - i))))) ⟨hp, gs, dr, tk, os⟩) _
    case turn =>
      rintro ⟨y, x⟩ left c s' ⟨hc', rfl, i, hz, hprev, hR⟩
      have lt0 : i < (xs.toList.zip ys.toList).length := by
        rcases Nat.lt_or_ge i (xs.toList.zip ys.toList).length with q | q
        · exact q
        · rw [List.drop_of_length_le q] at hz; cases hz
      have lt1 : i < min xs.size ys.size := lenZ ▸ lt0
      have h1 : i < xs.size := Nat.lt_of_lt_of_le lt1 (Nat.min_le_left _ _)
      have h2 : i < ys.size := Nat.lt_of_lt_of_le lt1 (Nat.min_le_right _ _)
      rw [List.drop_eq_getElem_cons lt0] at hz
      injection hz with hyx hleft
      have hy : y = xs[i] := by simpa using congrArg Prod.fst hyx
      have hx : x = ys[i] := by simpa using congrArg Prod.snd hyx
      subst hy hx
      rw [show min xs.size ys.size - i = (min xs.size ys.size - (i + 1)) + 1 by omega, Ob.lexAt_succ] at hR
      refine wpAny_bind (he i h1 h2 prog w _ _ ?_)
      cases hei : e i with
      | true =>
        rw [hei, if_pos rfl] at hR
        wp_walk
        refine ⟨rfl, rfl, i + 1, hleft, fun m hm => ?_, hR⟩
        rcases Nat.lt_succ_iff_lt_or_eq.mp hm with q | q
        · exact hprev m q
        · rw [q]; exact hei
      | false =>
        rw [hei, if_neg Bool.false_ne_true] at hR
        have hri := hr i h1 h2 hprev hei prog w
        wp_walk using hri
        exact ⟨_, rfl, by simpa using hR⟩
    case fin =>
      rintro ⟨c1, c2⟩ s' ⟨hc', rfl, i, hz, _, hR⟩
      simp only at hc'
      subst hc'
      have hge : min xs.size ys.size ≤ i := by
        rcases Nat.lt_or_ge i (xs.toList.zip ys.toList).length with q | q
        · rw [List.drop_eq_getElem_cons q] at hz; cases hz
        · exact lenZ ▸ q
      rw [Nat.sub_eq_zero_of_le hge, Ob.lexAt_zero] at hR
      wp_walk
      exact ⟨_, rfl, by simpa [Builtin.Tuple.tupleCompareSizes] using hR⟩
    case h =>
      exact ⟨rfl, rfl, 0, rfl, fun m hm => absurd hm (Nat.not_lt_zero m), by simpa using hR0⟩
theorem rc_gt {A : Around} {s : Shared} {l b : Addr} {xs ys : Array Value} {e r : Nat → Bool} (hl : s.heap.IsTuple l xs) (hb : s.heap.IsTuple b ys) (hu : A.units < cLine)
    (he : ∀ j (h1 : j < xs.size) (h2 : j < ys.size), EqAt A.in1 s xs[j] ys[j] (e j))
    (hr : ∀ j (h1 : j < xs.size) (h2 : j < ys.size), (∀ m, m < j → e m = true) → e j = false → Ob.RcOp .Gt A.in1 s xs[j] ys[j] (r j)) :
    Ob.RcOp .Gt A s (.ref l) (.ref b) (Ob.lexAt e r (decide (xs.size > ys.size)) 0 (min xs.size ys.size)) := fun prog w E Q h => by
  obtain ⟨⟨k1, d1, q1, sl1⟩, ho1, hc1, n1, hd1⟩ := id hl
  obtain ⟨⟨k2, d2, q2, sl2⟩, ho2, hc2, n2, hd2⟩ := id hb
  simp only at hc1 hd1 hc2 hd2
  subst hc1 hd1 hc2 hd2
  exact richCompare_meets_room (op := .Gt) ⟨_, ho1, rfl⟩ ⟨_, ho2, rfl⟩ F.slot_tuple_gt F.entry_tuple_gt (F.args_tuple_gt_2 _ _) (at_gt l b xs ys n1 n2 d1 d2 sl1 sl2 e r)
    ⟨ho1, ho2, he, hr, ⟨(fun x => nomatch x), h⟩⟩ hu

theorem at_ge (l b : Addr) (xs ys : Array Value) (n1 n2 : Nat) (d1 d2 : Option Addr) (sl1 sl2 : Array (Option Value)) (e r : Nat → Bool) :
    Meets (Builtin.«tuple.__ge__» ⟨[.ref l, .ref b], []⟩)
      (fun A R s => s.heap.get? l = some { cls := .type "tuple", dict := d1, data := .seq xs n1, slots := sl1 } ∧ s.heap.get? b = some { cls := .type "tuple", dict := d2, data := .seq ys n2, slots := sl2 } ∧
        (∀ j (h1 : j < xs.size) (h2 : j < ys.size), EqAt A.in1 s xs[j] ys[j] (e j)) ∧
        (∀ j (h1 : j < xs.size) (h2 : j < ys.size), (∀ m, m < j → e m = true) → e j = false → Ob.RcOp .GtE A.in1 s xs[j] ys[j] (r j)) ∧
        R (.ok (.ret (.bool (Ob.lexAt e r (decide (xs.size ≥ ys.size)) 0 (min xs.size ys.size))))) s) :=
  .of_wp fun prog w A R s h => by
    obtain ⟨hp, gs, dr, tk, os⟩ := s; obtain ⟨hl, hb, he, hr, hR0⟩ := h
    have sub := AutoSeq1.sub_tuple_tuple
    have lenZ : (xs.toList.zip ys.toList).length = min xs.size ys.size := by simp
    wp_walk using wpAny_loadPart' hl, wpAny_loadPart' hb, wpAny_forIn_list _ (fun left c s' => c.1 = none ∧ s' = ⟨hp, gs, dr, tk, os⟩ ∧ ∃ i, left = (xs.toList.zip ys.toList).drop i ∧ (∀ m, m < i → e m = true) ∧
      R (.ok (.ret (.bool (Ob.lexAt e r (decide (xs.size ≥ ys.size)) i (min xs.size ys.size - i))))) ⟨hp, gs, dr, tk, os⟩) _
    case turn =>
      rintro ⟨y, x⟩ left c s' ⟨hc', rfl, i, hz, hprev, hR⟩
      have lt0 : i < (xs.toList.zip ys.toList).length := by
        rcases Nat.lt_or_ge i (xs.toList.zip ys.toList).length with q | q
        · exact q
        · rw [List.drop_of_length_le q] at hz; cases hz
      have lt1 : i < min xs.size ys.size := lenZ ▸ lt0
      have h1 : i < xs.size := Nat.lt_of_lt_of_le lt1 (Nat.min_le_left _ _)
      have h2 : i < ys.size := Nat.lt_of_lt_of_le lt1 (Nat.min_le_right _ _)
      rw [List.drop_eq_getElem_cons lt0] at hz
      injection hz with hyx hleft
      have hy : y = xs[i] := by simpa using congrArg Prod.fst hyx
      have hx : x = ys[i] := by simpa using congrArg Prod.snd hyx
      subst hy hx
      rw [show min xs.size ys.size - i = (min xs.size ys.size - (i + 1)) + 1 by omega, Ob.lexAt_succ] at hR
      refine wpAny_bind (he i h1 h2 prog w _ _ ?_)
      cases hei : e i with
      | true =>
        rw [hei, if_pos rfl] at hR
        wp_walk
        refine ⟨rfl, rfl, i + 1, hleft, fun m hm => ?_, hR⟩
        rcases Nat.lt_succ_iff_lt_or_eq.mp hm with q | q
        · exact hprev m q
        · rw [q]; exact hei
      | false =>
        rw [hei, if_neg Bool.false_ne_true] at hR
        have hri := hr i h1 h2 hprev hei prog w
        wp_walk using hri
        exact ⟨_, rfl, by simpa using hR⟩
    case fin =>
      rintro ⟨c1, c2⟩ s' ⟨hc', rfl, i, hz, _, hR⟩
      simp only at hc'
      subst hc'
      have hge : min xs.size ys.size ≤ i := by
        rcases Nat.lt_or_ge i (xs.toList.zip ys.toList).length with q | q
        · rw [List.drop_eq_getElem_cons q] at hz; cases hz
        · exact lenZ ▸ q
      rw [Nat.sub_eq_zero_of_le hge, Ob.lexAt_zero] at hR
      wp_walk
      exact ⟨_, rfl, by simpa [Builtin.Tuple.tupleCompareSizes] using hR⟩
    case h =>
      exact ⟨rfl, rfl, 0, rfl, fun m hm => absurd hm (Nat.not_lt_zero m), by simpa using hR0⟩
theorem rc_ge {A : Around} {s : Shared} {l b : Addr} {xs ys : Array Value} {e r : Nat → Bool} (hl : s.heap.IsTuple l xs) (hb : s.heap.IsTuple b ys) (hu : A.units < cLine)
    (he : ∀ j (h1 : j < xs.size) (h2 : j < ys.size), EqAt A.in1 s xs[j] ys[j] (e j))
    (hr : ∀ j (h1 : j < xs.size) (h2 : j < ys.size), (∀ m, m < j → e m = true) → e j = false → Ob.RcOp .GtE A.in1 s xs[j] ys[j] (r j)) :
    Ob.RcOp .GtE A s (.ref l) (.ref b) (Ob.lexAt e r (decide (xs.size ≥ ys.size)) 0 (min xs.size ys.size)) := fun prog w E Q h => by
  obtain ⟨⟨k1, d1, q1, sl1⟩, ho1, hc1, n1, hd1⟩ := id hl
  obtain ⟨⟨k2, d2, q2, sl2⟩, ho2, hc2, n2, hd2⟩ := id hb
  simp only at hc1 hd1 hc2 hd2
  subst hc1 hd1 hc2 hd2
  exact richCompare_meets_room (op := .GtE) ⟨_, ho1, rfl⟩ ⟨_, ho2, rfl⟩ F.slot_tuple_ge F.entry_tuple_ge (F.args_tuple_ge_2 _ _) (at_ge l b xs ys n1 n2 d1 d2 sl1 sl2 e r)
    ⟨ho1, ho2, he, hr, ⟨(fun x => nomatch x), h⟩⟩ hu

end TupO
/-- what decides, at the first pair that differs -/
def ltV : V → V → Bool
  | .int a, .int b => decide (a < b)
  | .str a, .str b => decide (a.cps.toList < b.cps.toList)
  | _, _ => false
def likeV : V → V → Bool
  | .int _, .int _ => true
  | .str _, .str _ => true
  | _, _ => false
def eAt (xs ys : List V) (j : Nat) : Bool := eqV (xs.getD j .non) (ys.getD j .non)
/-- the kinds of the first pair that differs are alike -/
def OkTO (xs ys : List V) : Prop := ∀ j, j < xs.length → j < ys.length → (∀ m, m < j → eAt xs ys m = true) → eAt xs ys j = false → likeV (xs.getD j .non) (ys.getD j .non) = true
def lexV (c : V → V → Bool) (z : Bool) (xs ys : List V) : Bool := Ob.lexAt (eAt xs ys) (fun j => c (xs.getD j .non) (ys.getD j .non)) z 0 (min xs.length ys.length)
def rTO (K : PySem.W.Frag) (c : V → V → Bool) (z : Nat → Nat → Bool) : R2 := fun x y H Q => ∃ (a b : Addr) (xs ys : List V), x = .ref a ∧ y = .ref b ∧ SqT K H a xs ∧ SqT K H b ys ∧ xs.all flatV = true ∧ ys.all flatV = true ∧ OkTO xs ys ∧
  Q (.bl (lexV c (z xs.length ys.length) xs ys)) H
section
variable {A : Around} {s : Shared}
theorem item_of {xs : List V} {its : List Value} (r : L2.Vals xs its) (hf : xs.all flatV = true) {j : Nat} (h : j < its.toArray.size) : RelV (xs.getD j .non) its.toArray[j] ∧ flatV (xs.getD j .non) = true := by
  have hl := r.length
  have hj : j < xs.length := by rw [hl]; simpa using h
  obtain ⟨u, e, k⟩ := r.get (List.getElem?_eq_getElem hj)
  have e1 : its.toArray[j] = u := by
    have : its[j]? = some its.toArray[j] := by simp
    exact Option.some.inj (this.symm.trans e)
  have e2 : xs.getD j .non = xs[j] := by rw [List.getD_eq_getElem?_getD, List.getElem?_eq_getElem hj]; rfl
  rw [e1, e2]
  exact ⟨k, List.all_eq_true.mp hf _ (List.getElem_mem hj)⟩

theorem rcV_lt {x y : V} {u v : Value} (rx : RelV x u) (ry : RelV y v) (h : likeV x y = true) : Ob.RcOp .Lt A s u v (ltV x y) := by
  cases x <;> cases y <;> first | (cases h; done) | skip
  · rename_i a b
    obtain ⟨t, rfl⟩ := rx
    obtain ⟨t', rfl⟩ := ry
    exact fun prog w E Q h => PyProof.Rows.lt_int h
  · rename_i a b
    obtain ⟨t, rfl⟩ := rx
    obtain ⟨t', rfl⟩ := ry
    exact fun prog w E Q h => PyProof.Rows.lt_str h
theorem o_ltT {X : Cx} (hu : X.A.units < cLine) : OpR X (compareOp .Lt) (rTO X.K ltV (fun n m => decide (n < m))) := by
  intro pins s σ H x y v u Q I rx ry h
  obtain ⟨a, b, xs, ys, rfl, rfl, ha, hb, fx, fy, ok, q⟩ := h
  cases rx
  cases ry
  obtain ⟨its1, r1, p1, _⟩ := I.tuple ha
  obtain ⟨its2, r2, p2, _⟩ := I.tuple hb
  have e1 : its1.toArray.size = xs.length := by rw [List.size_toArray]; exact r1.length.symm
  have e2 : its2.toArray.size = ys.length := by rw [List.size_toArray]; exact r2.length.symm
  have R := TupO.rc_lt (A := X.A) (s := s) (e := eAt xs ys) (r := fun j => ltV (xs.getD j .non) (ys.getD j .non)) p1 p2 hu
    (fun j h1 h2 => eqAt_V (item_of r1 fx h1).1 (item_of r2 fy h2).1 (item_of r1 fx h1).2 (item_of r2 fy h2).2)
    (fun j h1 h2 hp he => rcV_lt (item_of r1 fx h1).1 (item_of r2 fy h2).1 (ok j (by omega) (by omega) hp he))
  rw [e1, e2] at R
  exact R X.prog X.w X.xe (EP X pins σ Q) ⟨.bl _, H, I, rfl, q⟩

theorem rcV_le {x y : V} {u v : Value} (rx : RelV x u) (ry : RelV y v) (h : likeV x y = true) : Ob.RcOp .LtE A s u v ((fun x y => !ltV y x) x y) := by
  cases x <;> cases y <;> first | (cases h; done) | skip
  · rename_i a b
    obtain ⟨t, rfl⟩ := rx
    obtain ⟨t', rfl⟩ := ry
    exact fun prog w E Q h => PyProof.Rows.le_int (by rw [show decide (a ≤ b) = !decide (b < a) from by by_cases q : a ≤ b <;> simp [q] <;> (try omega)]; exact h)
  · rename_i a b
    obtain ⟨t, rfl⟩ := rx
    obtain ⟨t', rfl⟩ := ry
    exact fun prog w E Q h => PySem.P.le_str h
theorem o_leT {X : Cx} (hu : X.A.units < cLine) : OpR X (compareOp .LtE) (rTO X.K (fun x y => !ltV y x) (fun n m => decide (n ≤ m))) := by
  intro pins s σ H x y v u Q I rx ry h
  obtain ⟨a, b, xs, ys, rfl, rfl, ha, hb, fx, fy, ok, q⟩ := h
  cases rx
  cases ry
  obtain ⟨its1, r1, p1, _⟩ := I.tuple ha
  obtain ⟨its2, r2, p2, _⟩ := I.tuple hb
  have e1 : its1.toArray.size = xs.length := by rw [List.size_toArray]; exact r1.length.symm
  have e2 : its2.toArray.size = ys.length := by rw [List.size_toArray]; exact r2.length.symm
  have R := TupO.rc_le (A := X.A) (s := s) (e := eAt xs ys) (r := fun j => (fun x y => !ltV y x) (xs.getD j .non) (ys.getD j .non)) p1 p2 hu
    (fun j h1 h2 => eqAt_V (item_of r1 fx h1).1 (item_of r2 fy h2).1 (item_of r1 fx h1).2 (item_of r2 fy h2).2)
    (fun j h1 h2 hp he => rcV_le (item_of r1 fx h1).1 (item_of r2 fy h2).1 (ok j (by omega) (by omega) hp he))
  rw [e1, e2] at R
  exact R X.prog X.w X.xe (EP X pins σ Q) ⟨.bl _, H, I, rfl, q⟩

theorem rcV_gt {x y : V} {u v : Value} (rx : RelV x u) (ry : RelV y v) (h : likeV x y = true) : Ob.RcOp .Gt A s u v ((fun x y => ltV y x) x y) := by
  cases x <;> cases y <;> first | (cases h; done) | skip
  · rename_i a b
    obtain ⟨t, rfl⟩ := rx
    obtain ⟨t', rfl⟩ := ry
    exact fun prog w E Q h => PyProof.Rows.gt_int h
  · rename_i a b
    obtain ⟨t, rfl⟩ := rx
    obtain ⟨t', rfl⟩ := ry
    exact fun prog w E Q h => PySem.P.gt_str h
theorem o_gtT {X : Cx} (hu : X.A.units < cLine) : OpR X (compareOp .Gt) (rTO X.K (fun x y => ltV y x) (fun n m => decide (n > m))) := by
  intro pins s σ H x y v u Q I rx ry h
  obtain ⟨a, b, xs, ys, rfl, rfl, ha, hb, fx, fy, ok, q⟩ := h
  cases rx
  cases ry
  obtain ⟨its1, r1, p1, _⟩ := I.tuple ha
  obtain ⟨its2, r2, p2, _⟩ := I.tuple hb
  have e1 : its1.toArray.size = xs.length := by rw [List.size_toArray]; exact r1.length.symm
  have e2 : its2.toArray.size = ys.length := by rw [List.size_toArray]; exact r2.length.symm
  have R := TupO.rc_gt (A := X.A) (s := s) (e := eAt xs ys) (r := fun j => (fun x y => ltV y x) (xs.getD j .non) (ys.getD j .non)) p1 p2 hu
    (fun j h1 h2 => eqAt_V (item_of r1 fx h1).1 (item_of r2 fy h2).1 (item_of r1 fx h1).2 (item_of r2 fy h2).2)
    (fun j h1 h2 hp he => rcV_gt (item_of r1 fx h1).1 (item_of r2 fy h2).1 (ok j (by omega) (by omega) hp he))
  rw [e1, e2] at R
  exact R X.prog X.w X.xe (EP X pins σ Q) ⟨.bl _, H, I, rfl, q⟩

theorem rcV_ge {x y : V} {u v : Value} (rx : RelV x u) (ry : RelV y v) (h : likeV x y = true) : Ob.RcOp .GtE A s u v ((fun x y => !ltV x y) x y) := by
  cases x <;> cases y <;> first | (cases h; done) | skip
  · rename_i a b
    obtain ⟨t, rfl⟩ := rx
    obtain ⟨t', rfl⟩ := ry
    exact fun prog w E Q h => PyProof.Rows.ge_int (by rw [show decide (b ≤ a) = !decide (a < b) from by by_cases q : b ≤ a <;> simp [q] <;> (try omega)]; exact h)
  · rename_i a b
    obtain ⟨t, rfl⟩ := rx
    obtain ⟨t', rfl⟩ := ry
    exact fun prog w E Q h => PySem.P.ge_str h
theorem o_geT {X : Cx} (hu : X.A.units < cLine) : OpR X (compareOp .GtE) (rTO X.K (fun x y => !ltV x y) (fun n m => decide (n ≥ m))) := by
  intro pins s σ H x y v u Q I rx ry h
  obtain ⟨a, b, xs, ys, rfl, rfl, ha, hb, fx, fy, ok, q⟩ := h
  cases rx
  cases ry
  obtain ⟨its1, r1, p1, _⟩ := I.tuple ha
  obtain ⟨its2, r2, p2, _⟩ := I.tuple hb
  have e1 : its1.toArray.size = xs.length := by rw [List.size_toArray]; exact r1.length.symm
  have e2 : its2.toArray.size = ys.length := by rw [List.size_toArray]; exact r2.length.symm
  have R := TupO.rc_ge (A := X.A) (s := s) (e := eAt xs ys) (r := fun j => (fun x y => !ltV x y) (xs.getD j .non) (ys.getD j .non)) p1 p2 hu
    (fun j h1 h2 => eqAt_V (item_of r1 fx h1).1 (item_of r2 fy h2).1 (item_of r1 fx h1).2 (item_of r2 fy h2).2)
    (fun j h1 h2 hp he => rcV_ge (item_of r1 fx h1).1 (item_of r2 fy h2).1 (ok j (by omega) (by omega) hp he))
  rw [e1, e2] at R
  exact R X.prog X.w X.xe (EP X pins σ Q) ⟨.bl _, H, I, rfl, q⟩

end

/-! by value -/
def flatP : P → Option V
  | .int i => some (.int i)
  | .str x => some (.str x)
  | _ => none
def flatPs : List P → Option (List V)
  | [] => some []
  | p :: ps => match flatP p, flatPs ps with
    | some v, some vs => some (v :: vs)
    | _, _ => none
def cmpT (c : V → V → Bool) (z : Bool × Bool × Bool) : List V → List V → Option Bool
  | [], [] => some z.1
  | [], _ :: _ => some z.2.1
  | _ :: _, [] => some z.2.2
  | x :: xs, y :: ys => if eqV x y = true then cmpT c z xs ys else if likeV x y = true then some (c x y) else none
theorem lexAt_shift (e r : Nat → Bool) (z : Bool) : ∀ k i, Ob.lexAt (fun j => e (j + 1)) (fun j => r (j + 1)) z i k = Ob.lexAt e r z (i + 1) k
  | 0, i => rfl
  | k + 1, i => by rw [Ob.lexAt_succ, Ob.lexAt_succ, lexAt_shift e r z k (i + 1)]
theorem cmpT_of {c : V → V → Bool} {z : Nat → Nat → Bool} {zz : Bool × Bool × Bool} (h1 : ∀ n, z n n = zz.1) (h2 : ∀ n m, n < m → z n m = zz.2.1) (h3 : ∀ n m, m < n → z n m = zz.2.2) : ∀ {xs ys : List V} {b : Bool}, cmpT c zz xs ys = some b → OkTO xs ys ∧ lexV c (z xs.length ys.length) xs ys = b
  | [], [], b, h => by cases h; exact ⟨fun j hj => absurd hj (Nat.not_lt_zero j), h1 0⟩
  | [], y :: ys, b, h => by cases h; exact ⟨fun j hj => absurd hj (Nat.not_lt_zero j), by show Ob.lexAt _ _ _ 0 (min 0 _) = _; rw [Nat.zero_min]; exact h2 _ _ (Nat.succ_pos _)⟩
  | x :: xs, [], b, h => by cases h; exact ⟨fun j _ hj => absurd hj (Nat.not_lt_zero j), by show Ob.lexAt _ _ _ 0 (min _ 0) = _; rw [Nat.min_zero]; exact h3 _ _ (Nat.succ_pos _)⟩
  | x :: xs, y :: ys, b, h => by
    unfold cmpT at h
    have ez : z (x :: xs).length (y :: ys).length = z xs.length ys.length := by
      rw [List.length_cons, List.length_cons]
      rcases Nat.lt_trichotomy xs.length ys.length with q | q | q
      · rw [h2 _ _ q, h2 _ _ (Nat.succ_lt_succ q)]
      · rw [q, h1, h1]
      · rw [h3 _ _ q, h3 _ _ (Nat.succ_lt_succ q)]
    have lx : lexV c (z (x :: xs).length (y :: ys).length) (x :: xs) (y :: ys) = if eqV x y = true then lexV c (z xs.length ys.length) xs ys else c x y := by
      rw [ez]
      unfold lexV
      rw [show min (x :: xs).length (y :: ys).length = min xs.length ys.length + 1 by rw [List.length_cons, List.length_cons]; omega, Ob.lexAt_succ]
      have e0 : eAt (x :: xs) (y :: ys) 0 = eqV x y := rfl
      rw [e0]
      by_cases q : eqV x y = true
      · rw [if_pos q, if_pos q]
        exact (lexAt_shift (eAt (x :: xs) (y :: ys)) (fun j => c ((x :: xs).getD j .non) ((y :: ys).getD j .non)) _ _ 0).symm
      · rw [if_neg q, if_neg q]; rfl
    by_cases q : eqV x y = true
    · rw [if_pos q] at h
      obtain ⟨i1, i2⟩ := cmpT_of h1 h2 h3 h
      refine ⟨fun j hj1 hj2 hp he => ?_, by rw [lx, if_pos q]; exact i2⟩
      cases j with
      | zero => rw [show eAt (x :: xs) (y :: ys) 0 = eqV x y from rfl, q] at he; cases he
      | succ j => exact i1 j (Nat.lt_of_succ_lt_succ hj1) (Nat.lt_of_succ_lt_succ hj2) (fun m hm => hp (m + 1) (Nat.succ_lt_succ hm)) he
    · rw [if_neg q] at h
      by_cases k : likeV x y = true
      · rw [if_pos k] at h
        cases h
        refine ⟨fun j hj1 hj2 hp he => ?_, by rw [lx, if_neg q]⟩
        cases j with
        | zero => exact k
        | succ j => exact absurd (hp 0 (Nat.succ_pos _)) q
      · rw [if_neg k] at h; cases h
theorem flatPs_of {K : PySem.W.Frag} {cl : ClW} {F : Hp} : ∀ {ps : List P} {xs vs : List V}, flatPs ps = some xs → RpA K cl F ps vs → vs = xs ∧ xs.all flatV = true
  | [], xs, vs, h, r => by cases h; cases r; exact ⟨rfl, rfl⟩
  | p :: ps, xs, vs, h, r => by
    unfold flatPs at h
    split at h
    · rename_i v ws e1 e2
      cases h
      cases r with
      | cons a t =>
        obtain ⟨rfl, i2⟩ := flatPs_of e2 t
        cases p <;> cases e1 <;> cases a <;> exact ⟨rfl, i2⟩
    · cases h
def fCmpD (c : V → V → Bool) (z : Bool × Bool × Bool) (a b : D) (S : SH) : Option (D × SH) := match a, b with
  | .p (.tup ps), .p (.tup qs) => match flatPs ps, flatPs qs with
    | some xs, some ys => match cmpT c z xs ys with
      | some r => some (.p (.bl r), S)
      | none => none
    | _, _ => none
  | _, _ => none
def fLtD := fCmpD ltV (false, true, false)
def fLeD := fCmpD (fun x y => !ltV y x) (true, true, false)
def fGtD := fCmpD (fun x y => ltV y x) (false, false, true)
def fGeD := fCmpD (fun x y => !ltV x y) (true, false, true)
theorem d_cmpD {K : PySem.W.Frag} {cl : ClW} {c : V → V → Bool} {z : Nat → Nat → Bool} {zz : Bool × Bool × Bool} (h1 : ∀ n, z n n = zz.1) (h2 : ∀ n m, n < m → z n m = zz.2.1) (h3 : ∀ n m, m < n → z n m = zz.2.2) : OpD K cl (fCmpD c zz) (rTO K c z) := by
  intro S B F φ H a b x y Q s r1 r2 l1 l2 o
  unfold fCmpD at o
  split at o
  · rename_i ps qs
    split at o
    · rename_i xs ys e1 e2
      split at o
      · rename_i b e3
        cases (show Rp K cl F (.tup ps) x from r1) with
        | @tup a1 _ vs q1 t1 =>
          cases (show Rp K cl F (.tup qs) y from r2) with
          | @tup a2 _ ws q2 t2 =>
            obtain ⟨rfl, f1⟩ := flatPs_of e1 t1
            obtain ⟨rfl, f2⟩ := flatPs_of e2 t2
            obtain ⟨i1, i2⟩ := cmpT_of h1 h2 h3 e3
            exact ⟨a1, a2, _, _, rfl, rfl, SqT.mono s.le q1, SqT.mono s.le q2, f1, f2, i1, by rw [i2]; exact o.fin0 rfl s (Rp.bl _) trivial⟩
      · exact o.no
    · exact o.no
  · exact o.no
section
variable {K : PySem.W.Frag} {cl : ClW} {X : Cx}
theorem d_ltD : OpD K cl fLtD (rTO K ltV (fun n m => decide (n < m))) := d_cmpD (fun n => by simp) (fun n m h => by simpa using h) (fun n m h => by simp; omega)
theorem d_leD : OpD K cl fLeD (rTO K (fun x y => !ltV y x) (fun n m => decide (n ≤ m))) := d_cmpD (fun n => by simp) (fun n m h => by simp; omega) (fun n m h => by simp; omega)
theorem d_gtD : OpD K cl fGtD (rTO K (fun x y => ltV y x) (fun n m => decide (n > m))) := d_cmpD (fun n => by simp) (fun n m h => by simp; omega) (fun n m h => by simpa using h)
theorem d_geD : OpD K cl fGeD (rTO K (fun x y => !ltV x y) (fun n m => decide (n ≥ m))) := d_cmpD (fun n => by simp) (fun n m h => by simp; omega) (fun n m h => by simp; omega)
theorem o_ltD (hu : X.A.units + 65 < cLine) : OpR X (compareOp .Lt) (rTO X.K ltV (fun n m => decide (n < m))) := o_ltT (by omega)
theorem o_leD (hu : X.A.units + 65 < cLine) : OpR X (compareOp .LtE) (rTO X.K (fun x y => !ltV y x) (fun n m => decide (n ≤ m))) := o_leT (by omega)
theorem o_gtD (hu : X.A.units + 65 < cLine) : OpR X (compareOp .Gt) (rTO X.K (fun x y => ltV y x) (fun n m => decide (n > m))) := o_gtT (by omega)
theorem o_geD (hu : X.A.units + 65 < cLine) : OpR X (compareOp .GtE) (rTO X.K (fun x y => !ltV x y) (fun n m => decide (n ≥ m))) := o_geT (by omega)
end
end Pv
/-! dicts whose keys are texts or ints, by value -/
namespace Pv
open PySem PySem.Spec PyProof.Rows L2
def keyK : D → Option Key
  | .p (.str x) => some (.inr x)
  | .p (.int i) => some (.inl i)
  | _ => none
def asK (d : D) (S : SH) : Option (List (Key × D)) := match d with
  | .p (.dK kvs) => some (kvs.map fun x => (x.1, .p x.2))
  | .ref n => match S.os[n]? with | some (.dK kvs) => some kvs | _ => none
  | _ => none
def valK (kvs : List (Key × D)) (k : Key) : Option D := (kvs.find? fun x => decide (x.1 = k)).map (·.2)
def putKD (kvs : List (Key × D)) (k : Key) (v : D) : List (Key × D) := if (kvs.any fun kv => decide (kv.1 = k)) = true then kvs.map (fun kv => if kv.1 = k then (kv.1, v) else kv) else kvs ++ [(k, v)]
section
variable {K : PySem.W.Frag} {cl : ClW} {S : SH} {B : List Nat} {F H : Hp} {φ : Nat → Addr}
theorem keyK_ok {d : D} {k : Key} {x : V} (e : keyK d = some k) (r : DR K cl F φ d x) : x = kV k := by
  unfold keyK at e
  split at e
  · cases e; cases (show Rp K cl F (.str _) x from r); rfl
  · cases e; cases (show Rp K cl F (.int _) x from r); rfl
  · cases e
theorem rpk_drk {kvs : List (Key × P)} {vs : List (Key × V)} (r : RpK K cl F kvs vs) : DRK K cl F φ (kvs.map fun x => (x.1, D.p x.2)) vs := by
  induction kvs generalizing vs with
  | nil => cases r; exact .nil
  | cons x kvs ih =>
    cases r with
    | cons h1 h2 => exact .cons ⟨rfl, h1⟩ (ih h2)
theorem asK_ok (s : Sim K cl S B F φ H) {d : D} {kvs : List (Key × D)} {x : V} (e : asK d S = some kvs) (r : DR K cl F φ d x) : ∃ a vs, x = .ref a ∧ H a = some (.dK vs) ∧ DRK K cl F φ kvs vs ∧ ∀ y ∈ kvs.map (·.2), y.lt S.len := by
  cases d with
  | p y =>
    cases y with
    | dK kv =>
      cases (show some (kv.map fun x => (x.1, D.p x.2)) = some kvs from e)
      cases (show Rp K cl F (.dK kv) x from r) with
      | @dK a _ vs q t =>
        refine ⟨a, vs, rfl, s.le _ _ q, rpk_drk t, fun y hy => ?_⟩
        obtain ⟨z, hz, rfl⟩ := List.mem_map.mp hy
        obtain ⟨w, _, rfl⟩ := List.mem_map.mp hz
        trivial
    | _ => cases e
  | ref n =>
    unfold asK at e
    dsimp only at e
    have r : x = .ref (φ n) := r
    subst r
    cases q : S.os[n]? with
    | none => rw [q] at e; cases e
    | some o =>
      rw [q] at e
      have ob := (s.ob n _ q).2
      have wf := s.wf n _ q
      cases o with
      | dK ds => cases e; obtain ⟨vs, ev, rv⟩ := ob; exact ⟨_, vs, rfl, ev, rv, wf⟩
      | _ => cases e
theorem drk_val {kvs : List (Key × D)} {vs : List (Key × V)} (r : DRK K cl F φ kvs vs) (k : Key) : (valK kvs k = none → valV vs k = none) ∧ ∀ d, valK kvs k = some d → ∃ v, valV vs k = some v ∧ DR K cl F φ d v ∧ d ∈ kvs.map (·.2) := by
  induction r with
  | nil => exact ⟨fun _ => rfl, fun d h => by cases h⟩
  | @cons p q ps qs h t ih =>
    obtain ⟨h1, h4⟩ := h
    by_cases e : q.1 = k
    · have ep : p.1 = k := by rw [h1, e]
      have a : valK (p :: ps) k = some p.2 := by simp [valK, List.find?_cons, ep]
      rw [a, valV_pos e]
      exact ⟨fun z => (by cases z), fun d hd => (by cases hd; exact ⟨_, rfl, h4, by simp⟩)⟩
    · have ep : ¬ p.1 = k := fun z => e (by rw [← h1]; exact z)
      have a : valK (p :: ps) k = valK ps k := by simp [valK, List.find?_cons, ep]
      rw [a, valV_neg e]
      exact ⟨ih.1, fun d hd => by obtain ⟨v, a1, a2, a3⟩ := ih.2 d hd; exact ⟨v, a1, a2, by simp only [List.map_cons, List.mem_cons]; exact .inr a3⟩⟩
theorem drk_any {kvs : List (Key × D)} {vs : List (Key × V)} (r : DRK K cl F φ kvs vs) (k : Key) : (kvs.any fun kv => decide (kv.1 = k)) = vs.any fun kv => decide (kv.1 = k) := by
  induction r with
  | nil => rfl
  | @cons p q ps qs h t ih => rw [List.any_cons, List.any_cons, ih, h.1]
theorem drk_put {kvs : List (Key × D)} {vs : List (Key × V)} (r : DRK K cl F φ kvs vs) {k : Key} {d : D} {v : V} (rv : DR K cl F φ d v) : DRK K cl F φ (putKD kvs k d) (putK vs k v) := by
  unfold putKD putK
  rw [drk_any r k]
  by_cases q : (vs.any fun kv => decide (kv.1 = k)) = true
  · rw [if_pos q, if_pos q]
    clear q
    induction r with
    | nil => exact .nil
    | @cons p' q' ps qs h t ih =>
      rw [List.map_cons, List.map_cons]
      refine .cons ?_ ih
      obtain ⟨h1, h4⟩ := h
      by_cases e : q'.1 = k
      · rw [if_pos e, if_pos (by rw [h1, e])]; exact ⟨h1, rv⟩
      · rw [if_neg e, if_neg (fun z => e (by rw [← h1]; exact z))]; exact ⟨h1, h4⟩
  · rw [if_neg q, if_neg q]
    exact Paired.snoc r ⟨rfl, rv⟩
theorem dget_of (s : Sim K cl S B F φ H) {d e : D} {kvs : List (Key × D)} {k : Key} {x y : V} (e1 : asK d S = some kvs) (r1 : DR K cl F φ d x) (e2 : keyK e = some k) (r2 : DR K cl F φ e y) :
    ∃ a vs, x = .ref a ∧ H a = some (.dK vs) ∧ DRK K cl F φ kvs vs ∧ (∀ z ∈ kvs.map (·.2), z.lt S.len) ∧ DGet H a y (valV vs k) := by
  obtain ⟨a, vs, rfl, ea, rv, lt⟩ := asK_ok s e1 r1
  rw [keyK_ok e2 r2]
  exact ⟨a, vs, rfl, ea, rv, lt, DGet.k ea⟩
end
section
variable {X : Cx} {c0 : Nat → Addr} {S : SH} {B : List Nat} {F H : Hp} {φ : Nat → Addr}
theorem u1 {k : Nat} {A : Around} (hr : Room k A) : A.units + 1 < cLine := by have := u10 hr; omega
/-! d[k] -/
def kIx (d e : D) (S : SH) : Option (D × SH) := match asK d S, keyK e with
  | some kvs, some k => match valK kvs k with
    | some x => some (x, S)
    | none => none
  | _, _ => none
theorem d_kix {K : PySem.W.Frag} {cl : ClW} : OpD K cl kIx (fun x y H Q => ∃ a v, x = .ref a ∧ DGet H a y (some v) ∧ Q v H) := by
  intro S B F φ H e d y x Q s r1 r2 l1 l2 o
  unfold kIx at o
  split at o
  · rename_i kvs k hn hk
    split at o
    · rename_i z hz
      obtain ⟨a, vs, rfl, _, rv, lt, g⟩ := dget_of s hn r1 hk r2
      obtain ⟨v, ev, dv, mv⟩ := (drk_val rv k).2 z hz
      rw [ev] at g
      exact ⟨a, v, rfl, g, o.fin0 rfl s dv (lt z mv)⟩
    · exact o.no
  · exact o.no
theorem k_kix {o i : Expr} {mo mi : ME} {pos : Pos} (hu : X.A.units + 1 < cLine) (ho : PE X o (LE X.K (ClX X c0) mo)) (hi : PE X i (LE X.K (ClX X c0) mi)) (hs : NoSl i) : PE X (.Subscript o i pos) (LE X.K (ClX X c0) (dOp kIx mo mi)) :=
  (pe_dget hu ho hi hs).imp fun _ _ _ q => e_op d_kix q
/-! k in d -/
def kIn (neg : Bool) (e d : D) (S : SH) : Option (D × SH) := match asK d S, keyK e with
  | some kvs, some k => some (.p (.bl (if neg = true then !(valK kvs k).isSome else (valK kvs k).isSome)), S)
  | _, _ => none
/-! d[k] = v -/
/-! {} -/
/-! d.get(k), d.get(k, z) -/
/-! {k: v, ..} -/
def MPs := En → SH → Option (List (Key × D) × SH)
def dPnil : MPs := fun _ S => some ([], S)
def dPcons (k v : ME) (r : MPs) : MPs := fun σ S => bnd (k σ S) fun e S1 => match keyK e with
  | some q => bnd (v σ S1) fun d S2 => bnd (r σ S2) fun ds S3 => some ((q, d) :: ds, S3)
  | none => none
def toKs : List (Key × D) → Option (List (Key × P))
  | [] => some []
  | (k, .p x) :: r => (toKs r).map ((k, x) :: ·)
  | (_, .ref _) :: _ => none
def mergeD (kvs more : List (Key × D)) : List (Key × D) := more.foldl (fun acc kv => putKD acc kv.1 kv.2) kvs
def dKDisp (ps : MPs) : ME := fun σ S => bnd (ps σ S) fun ds S1 => if ds.length ≤ 15 then match toKs (mergeD [] ds) with
  | some xs => some (.p (.dK xs), S1)
  | none => none
  else none
/-- the pairs' computation over their readings -/
def LPs (K : PySem.W.Frag) (cl : ClW) (m : MPs) (trs : List (TE × TE)) : Prop := ∀ σ H σd S B F φ ds S1 (Q : List (V × V) → Hp → Prop), Sim K cl S B F φ H → RS K cl F φ S.len σd σ → m σd S = some (ds, S1) →
  (∀ F1 φ1 H1 kvs, Sim K cl S1 B F1 φ1 H1 → Ext S F φ H S1 F1 φ1 H1 → DRK K cl F1 φ1 ds kvs → (∀ d ∈ ds.map (·.2), d.lt S1.len) → Q (kvs.map fun kv => (kV kv.1, kv.2)) H1) → tPairs trs σ H Q
theorem lps_nil {K : PySem.W.Frag} {cl : ClW} : LPs K cl dPnil [] := fun σ H σd S B F φ ds S1 Q s rs e q => by
  cases e
  exact q F φ H [] s (.refl s) .nil (fun _ z => absurd z (by simp))
theorem lps_cons {K : PySem.W.Frag} {cl : ClW} {mk mv : ME} {r : MPs} {trs : List (TE × TE)} (h : LPs K cl r trs) : LPs K cl (dPcons mk mv r) ((LE K cl mk, LE K cl mv) :: trs) := fun σ H σd S B F φ ds S1 Q s rs e q => by
  obtain ⟨ke, S2, e1, e2⟩ := bnd_of e
  cases hk : keyK ke with
  | none => rw [hk] at e2; cases e2
  | some k =>
    rw [hk] at e2
    dsimp only at e2
    obtain ⟨d, S3, e3, e4⟩ := bnd_of e2
    obtain ⟨ds', S4, e5, e6⟩ := bnd_of e4
    cases e6
    refine LE.then_ s rs e1 fun F1 φ1 H1 x s1 x1 rs1 dr1 l1 => ?_
    refine LE.then_ s1 rs1 e3 fun F2 φ2 H2 y s2 x2 rs2 dr2 l2 => ?_
    refine h σ H2 σd S3 B F2 φ2 ds' _ _ s2 rs2 e5 fun F3 φ3 H3 kvs s3 x3 rk lk => ?_
    rw [keyK_ok hk dr1]
    exact q F3 φ3 H3 ((k, y) :: kvs) s3 ((x1.trans x2).trans x3) (.cons ⟨rfl, x3.dr l2 dr2⟩ rk) (fun z hz => by
      rw [List.map_cons] at hz
      rcases List.mem_cons.mp hz with rfl | hz
      · exact x3.lt l2
      · exact lk z hz)
theorem toKs_of : ∀ {kvs : List (Key × D)} {ps : List (Key × P)}, toKs kvs = some ps → kvs = ps.map fun x => (x.1, D.p x.2)
  | [], ps, h => by cases h; rfl
  | (p, .p x) :: r, ps, h => by
    unfold toKs at h
    cases e : toKs r with
    | none => rw [e] at h; cases h
    | some qs => rw [e] at h; cases h; rw [List.map_cons, ← toKs_of e]
  | (_, .ref n) :: r, ps, h => by cases h
theorem drk_rpk {K : PySem.W.Frag} {cl : ClW} {F : Hp} {φ : Nat → Addr} {ps : List (Key × P)} {vs : List (Key × V)} (r : DRK K cl F φ (ps.map fun x => (x.1, D.p x.2)) vs) : RpK K cl F ps vs := by
  induction ps generalizing vs with
  | nil => cases r; exact .nil
  | cons x ps ih =>
    cases r with
    | @cons _ q _ qs h t =>
      obtain ⟨k, v⟩ := q
      obtain ⟨h1, h2⟩ := h
      cases (show x.1 = k from h1)
      exact .cons h2 (ih t)
theorem drk_merge {K : PySem.W.Frag} {cl : ClW} : ∀ {more : List (Key × D)} {rs : List (Key × V)} {kvs : List (Key × D)} {vs : List (Key × V)}, DRK K cl F φ more rs → DRK K cl F φ kvs vs → DRK K cl F φ (mergeD kvs more) (mergeK vs rs) := by
  intro more rs kvs vs r
  induction r generalizing kvs vs with
  | nil => intro q; exact q
  | @cons p q ps qs h t ih =>
    intro r0
    have e : DRK K cl F φ (putKD kvs p.1 p.2) (putK vs q.1 q.2) := by
      have := drk_put (k := p.1) r0 h.2
      rw [← h.1]; exact this
    exact ih e
theorem k_kdisp {pos : Pos} {keys : List (Option Expr)} {values : List Expr} {trs : List (TE × TE)} {m : MPs} (h : PPs X pos keys values trs) (hm : LPs X.K (ClX X c0) m trs) (hall : keys.all (·.isSome) = true := by rfl) (hl : keys.length = values.length := by rfl) (h0 : keys ≠ [] := by decide)
    (h15 : keys.length ≤ 15 := by decide) : PE X (.Dict keys values pos) (LE X.K (ClX X c0) (dKDisp m)) := by
  refine (pe_disp h hall hl h0 h15).imp fun σ H Q q => ?_
  obtain ⟨σd, S, B, F, φ, s, rs, o⟩ := q
  obtain ⟨ds, S1, e1, o1⟩ := okE_bnd o
  intro L hL
  have smL : Same H (upd H L (.dK [])) := Same.new (Same.refl _) hL
  obtain ⟨fL, pL⟩ := s.none_p hL
  have x0 := Ext.ofSame s smL
  refine hm σ _ σd S B F φ ds S1 _ (s.keep smL) rs e1 fun F1 φ1 H1 kvs s1 x1 rk lk => ?_
  have aL : H1 L = some (.dK []) := x1.keep L _ upd_same pL
  have fL1 : F1 L = none := x1.fr L _ upd_same fL pL
  have np1 : ∀ n, n < S1.len → φ1 n ≠ L := fun n hn e => by
    by_cases h : n < S.len
    · exact pL n h ((x1.phi n h).symm.trans e)
    · have := x1.new n (Nat.le_of_not_lt h) hn
      rw [e, upd_same] at this; cases this
  split at o1
  · rename_i h15'
    cases et : toKs (mergeD [] ds) with
    | none => rw [et] at o1; exact o1.no
    | some xs =>
      rw [et] at o1
      have ed := toKs_of et
      have hlen : ds.length = kvs.length := Paired.length rk
      refine ⟨aL, kvs, rfl, by omega, ?_⟩
      have rm : DRK X.K (ClX X c0) F1 φ1 (mergeD [] ds) (mergeK [] kvs) := drk_merge rk .nil
      rw [ed] at rm
      -- the new dict stands beside all others: take it away, then lay it as data
      let Hm : Hp := fun b => if b = L then none else H1 b
      have hmL : Hm L = none := if_pos rfl
      have ne : ∀ b, b ≠ L → Hm b = H1 b := fun b hb => if_neg hb
      have sm : Sim X.K (ClX X c0) S1 B F1 φ1 Hm := ⟨fun b o e => by rw [ne b (ne_of_none e fL1)]; exact s1.le b o e, fun n o e => ⟨(s1.ob n o e).1, by rw [ne _ (np1 n (List.getElem?_eq_some_iff.mp e).1)]; exact (s1.ob n o e).2⟩, s1.inj, s1.wf, s1.bs, s1.bl⟩
      have x01 := x0.trans x1
      have xm : Ext S F φ H S1 F1 φ1 Hm := ⟨x01.fz, x01.len, x01.b, x01.phi, x01.new, fun b o e n => by rw [ne b (ne_of_none e hL)]; exact x01.keep b o e n, fun n hn e => by
          by_cases q : φ n = L
          · exact pL n hn q
          · rw [ne _ q] at e; exact x01.tr n hn e, x01.fr⟩
      have same : Same Hm (upd H1 L (.dK (mergeK [] kvs))) := fun b o e => by
        by_cases q : b = L
        · rw [q, hmL] at e; cases e
        · rw [ne b q] at e; rw [upd_ne q]; exact e
      obtain ⟨s2, x2⟩ := sm.frz (H' := upd H1 L (.dK (mergeK [] kvs))) same hmL upd_same
      exact o1.fin rfl s2 (xm.trans x2) (Rp.dK upd_same (RpK.mono x2.fz (drk_rpk rm))) trivial
  · exact o1.no
end
end Pv
/-! dict(d), xs.clear() -/
namespace Pv
open PySem PySem.Spec PyProof.Rows L2
section
variable {prog : Program} {w : World} {K : Type} [DecidableEq K] {knd : HeapKind prog w K} {A : Around} {E : Value → Shared → Prop} {s : Shared}
end
/-! hashes of keys without texts -/
section
variable {X : Cx} {c0 : Nat → Addr}
/-! xs.clear() -/
end
end Pv
/-! for k in d, d a dict that is data: it is locked while the loop walks it -/
namespace Pv
open PySem PySem.Spec PyProof.Rows L2
section
variable {X : Cx} {pins : List (Addr × Obj)} {σ : L2.St} {H : Hp} {s : Shared} {d : Addr} {o : Obj} {vs : List Ent}
end
section
variable {X : Cx} {tg e : Expr} {td : TE}
/-- what was locked is unlocked at the end -/
def Unl (X : Cx) (H : Hp) (f : Hp → Prop) : Prop := f H ∨ ∃ d o u, H d = some (.frz o u) ∧ (∀ o' u', X.H_0 d ≠ some (.frz o' u')) ∧ f (upd H d u)
def unlZ (X : Cx) (Z : Ends) : Ends := ⟨fun σ H => Unl X H (Z.nx σ), fun v H => Unl X H (Z.rt v), fun σ H => Unl X H (Z.bk σ), fun σ H => Unl X H (Z.ct σ)⟩
end
/-! data while something is locked -/
def Wk (F F' : Hp) : Prop := ∀ b u, F b = some u → F' b = some u ∨ (∃ o φ, u = .ext φ ∧ F' b = some (.frz o u)) ∨ (∃ o φ, u = .frz o (.ext φ) ∧ F' b = some (.ext φ))
section
variable {K : PySem.W.Frag} {cl : ClW} {F F' : Hp}
theorem Wk.same (h : Wk F F') {b : Addr} {u : HO} (e : F b = some u) (h1 : ∀ φ, u ≠ .ext φ) (h2 : ∀ o φ, u ≠ .frz o (.ext φ)) : F' b = some u := by
  rcases h b u e with r | ⟨_, φ, r, _⟩ | ⟨o, φ, r, _⟩
  · exact r
  · exact absurd r (h1 φ)
  · exact absurd r (h2 o φ)
theorem SqT.wk (h : Wk F F') {a : Addr} {xs : List V} (q : SqT K F a xs) : SqT K F' a xs := by
  rcases q with (q | ⟨o, q⟩) | q
  · exact .inl (.inl (h.same q (fun _ z => nomatch z) fun _ _ z => nomatch z))
  · exact .inl (.inr ⟨o, h.same q (fun _ z => nomatch z) fun _ _ z => by cases z⟩)
  · exact .inr q
theorem SqL.wk (h : Wk F F') {a : Addr} {xs : List V} (q : SqL K F a xs) : SqL K F' a xs := by
  rcases q with (q | ⟨o, q⟩) | q
  · exact .inl (.inl (h.same q (fun _ z => nomatch z) fun _ _ z => nomatch z))
  · exact .inl (.inr ⟨o, h.same q (fun _ z => nomatch z) fun _ _ z => by cases z⟩)
  · exact .inr q
theorem HD.wk {P : Program} {w : World} {a : Addr} {vs : List Ent} (h : Wk F F') (q : HD P w a vs F) : HD P w a vs F' := by
  obtain ⟨u, e, d⟩ := q
  rcases h a u e with r | ⟨o, φ, r, z⟩ | ⟨o, φ, r, z⟩
  · exact ⟨u, r, d⟩
  · rcases d with d | ⟨o', d⟩
    · exact ⟨_, z, .inr ⟨o, by rw [d]⟩⟩
    · rw [d] at r; cases r
  · rcases d with d | ⟨o', d⟩
    · rw [d] at r; unfold dNO at r; cases r
    · rw [d] at r
      have e2 := (HO.frz.inj r).2
      exact ⟨_, z, .inl e2.symm⟩
mutual
theorem Rp.wk (h : Wk F F') {x : P} {v : V} : Rp K cl F x v → Rp K cl F' x v
  | .non => .non
  | .bl b => .bl b
  | .int i => .int i
  | .str x => .str x
  | .tup q r => .tup (SqT.wk h q) (RpA.wk h r)
  | .lst q r => .lst (SqL.wk h q) (RpA.wk h r)
  | .dK q r => .dK (h.same q (fun _ z => nomatch z) fun _ _ z => nomatch z) (RpK.wk h r)
  | .dT q r => .dT (q.wk h) (RpT.wk h r)
  | .ins q r => .ins (h.same q (fun _ z => nomatch z) fun _ _ z => nomatch z) (RpF.wk h r)
theorem RpA.wk (h : Wk F F') {x : List P} {v : List V} : RpA K cl F x v → RpA K cl F' x v
  | .nil => .nil
  | .cons a b => .cons (Rp.wk h a) (RpA.wk h b)
theorem RpK.wk (h : Wk F F') {x : List (Key × P)} {v : List (Key × V)} : RpK K cl F x v → RpK K cl F' x v
  | .nil => .nil
  | .cons a b => .cons (Rp.wk h a) (RpK.wk h b)
theorem RpT.wk (h : Wk F F') {x : List (P × P)} {v : List Ent} : RpT K cl F x v → RpT K cl F' x v
  | .nil => .nil
  | .cons e d k a b => .cons e d (Rp.wk h k) (Rp.wk h a) (RpT.wk h b)
theorem RpF.wk (h : Wk F F') {x : List (Str × P)} {v : List (Str × V)} : RpF K cl F x v → RpF K cl F' x v
  | .nil => .nil
  | .cons a b => .cons (Rp.wk h a) (RpF.wk h b)
end
variable {φ : Nat → Addr}
theorem DR.wk (h : Wk F F') {d : D} {v : V} (r : DR K cl F φ d v) : DR K cl F' φ d v := by
  cases d with
  | p x => exact Rp.wk h r
  | ref n => exact r
theorem DRA.wk (h : Wk F F') : ∀ {ds : List D} {vs : List V}, DRA K cl F φ ds vs → DRA K cl F' φ ds vs
  | _, _, .nil => .nil
  | _, _, .cons a b => .cons (DR.wk h a) (DRA.wk h b)
theorem DRK.wk {κ : Type} (h : Wk F F') : ∀ {ds : List (κ × D)} {vs : List (κ × V)}, DRK K cl F φ ds vs → DRK K cl F' φ ds vs
  | _, _, .nil => .nil
  | _, _, .cons a b => .cons ⟨a.1, DR.wk h a.2⟩ (DRK.wk h b)
theorem DRT.wk (h : Wk F F') : ∀ {ds : List (P × D)} {vs : List Ent}, DRT K cl F φ ds vs → DRT K cl F' φ ds vs
  | _, _, .nil => .nil
  | _, _, .cons a b => .cons ⟨a.1, a.2.1, Rp.wk h a.2.2.1, DR.wk h a.2.2.2⟩ (DRT.wk h b)
theorem OR.wk (h : Wk F F') {a : Addr} {x : Option HO} {o : Ob} (r : OR K cl F φ a x o) : OR K cl F' φ a x o := by
  cases o with
  | lst ds => obtain ⟨vs, e, r⟩ := r; exact ⟨vs, e, DRA.wk h r⟩
  | dK ds => obtain ⟨vs, e, r⟩ := r; exact ⟨vs, e, DRK.wk h r⟩
  | dT ds => obtain ⟨vs, e, r⟩ := r; exact ⟨vs, e, DRT.wk h r⟩
  | ins c ds => obtain ⟨dx, vs, e, r⟩ := r; exact ⟨dx, vs, e, DRK.wk h r⟩
theorem RS.wk (h : Wk F F') {k : Nat} {σd : En} {σ : L2.St} (r : RS K cl F φ k σd σ) : RS K cl F' φ k σd σ :=
  ⟨r.1, fun i d e => let ⟨a, v, b, c⟩ := r.2 i d e; ⟨a, v, b, DR.wk h c⟩⟩
theorem Wk.lock {a : Addr} {ψ : Heap → Prop} (e : F a = some (.ext ψ)) (o : Obj) : Wk F (upd F a (.frz o (.ext ψ))) := fun b u z => by
  by_cases q : b = a
  · subst q
    rw [e] at z
    cases z
    exact .inr (.inl ⟨o, ψ, rfl, upd_same⟩)
  · rw [upd_ne q]
    exact .inl z
theorem Wk.unlock {a : Addr} {ψ : Heap → Prop} {o : Obj} (e : F a = some (.frz o (.ext ψ))) : Wk F (upd F a (.ext ψ)) := fun b u z => by
  by_cases q : b = a
  · subst q
    rw [e] at z
    cases z
    exact .inr (.inr ⟨o, ψ, rfl, upd_same⟩)
  · rw [upd_ne q]
    exact .inl z
variable {S S1 : SH} {B : List Nat} {H H1 F1 : Hp} {φ1 : Nat → Addr}
theorem Sim.upd {a : Addr} {u v : HO} (s : Sim K cl S B F φ H) (e : F a = some u) (w : Wk F (upd F a v)) : Sim K cl S B (L2.upd F a v) φ (L2.upd H a v) where
  le := fun b z q => by
    by_cases hb : b = a
    · subst hb
      rw [upd_same] at q ⊢
      exact q
    · rw [upd_ne hb] at q ⊢
      exact s.le b z q
  ob := fun n o h => by
    obtain ⟨f0, r⟩ := s.ob n o h
    have hn : φ n ≠ a := fun z => by rw [z, e] at f0; cases f0
    rw [upd_ne hn, upd_ne hn]
    exact ⟨f0, r.wk w⟩
  inj := s.inj
  wf := s.wf
  bs := s.bs
  bl := s.bl
theorem Ext.unlk {a : Addr} {o : Obj} {u : HO} (hu : F a = some u) (hH : H a = some u) (x : Ext S (upd F a (.frz o u)) φ (upd H a (.frz o u)) S1 F1 φ1 H1) : Ext S F φ H S1 (upd F1 a u) φ1 (upd H1 a u) where
  fz := fun b v e => by
    by_cases hb : b = a
    · subst hb
      rw [hu] at e
      cases e
      exact upd_same
    · rw [upd_ne hb]
      exact x.fz b v (by rw [upd_ne hb]; exact e)
  len := x.len
  b := x.b
  phi := x.phi
  new := fun n h1 h2 => by
    have z := x.new n h1 h2
    by_cases hb : φ1 n = a
    · rw [hb, upd_same] at z; cases z
    · rw [upd_ne hb] at z; exact z
  keep := fun c v e hn => by
    by_cases hb : c = a
    · subst hb
      rw [hH] at e
      cases e
      exact upd_same
    · rw [upd_ne hb]
      exact x.keep c v (by rw [upd_ne hb]; exact e) hn
  tr := fun n h => by
    by_cases hb : φ n = a
    · rw [hb, upd_same]; simp
    · rw [upd_ne hb]; exact x.tr n h
  fr := fun c v e f hn => by
    have hb : c ≠ a := fun z => by rw [z, hu] at f; cases f
    rw [upd_ne hb]
    exact x.fr c v (by rw [upd_ne hb]; exact e) (by rw [upd_ne hb]; exact f) hn
end
section
variable {X : Cx} {c0 : Nat → Addr} {S : SH} {B : List Nat} {F H : Hp} {φ : Nat → Addr} {Z : Ends}
theorem OkS.unl {r : Option (Fl × SH)} (h : OkS X.K (ClX X c0) S B F φ H r Z) : OkS X.K (ClX X c0) S B F φ H r (unlZ X Z) := by
  obtain ⟨f, S1, e, k⟩ := h
  refine ⟨f, S1, e, ?_⟩
  cases f with
  | nx σd => exact fun F1 φ1 H1 σ s1 x1 r1 => .inl (k F1 φ1 H1 σ s1 x1 r1)
  | brk σd => exact fun F1 φ1 H1 σ s1 x1 r1 => .inl (k F1 φ1 H1 σ s1 x1 r1)
  | ct σd => exact fun F1 φ1 H1 σ s1 x1 r1 => .inl (k F1 φ1 H1 σ s1 x1 r1)
  | ret d => exact fun F1 φ1 H1 u s1 x1 r1 l => .inl (k F1 φ1 H1 u s1 x1 r1 l)
theorem OkS.lock {r : Option (Fl × SH)} (s : Sim X.K (ClX X c0) S B F φ H) {a : Addr} {ψ : Heap → Prop} (hu : F a = some (.ext ψ)) (o : Obj) (hn : ∀ o' u', X.H_0 a ≠ some (.frz o' u')) (h : OkS X.K (ClX X c0) S B F φ H r Z) :
    OkS X.K (ClX X c0) S B (upd F a (.frz o (.ext ψ))) φ (upd H a (.frz o (.ext ψ))) r (unlZ X Z) := by
  obtain ⟨f, S1, e, k⟩ := h
  refine ⟨f, S1, e, ?_⟩
  have hH := s.le _ _ hu
  cases f with
  | nx σd =>
    intro F1 φ1 H1 σ s1 x1 r1
    have ha : F1 a = some (.frz o (.ext ψ)) := x1.fz a _ upd_same
    exact .inr ⟨a, o, _, s1.le _ _ ha, hn, k _ _ _ σ (s1.upd ha (.unlock ha)) (x1.unlk hu hH) (r1.wk (.unlock ha))⟩
  | brk σd =>
    intro F1 φ1 H1 σ s1 x1 r1
    have ha : F1 a = some (.frz o (.ext ψ)) := x1.fz a _ upd_same
    exact .inr ⟨a, o, _, s1.le _ _ ha, hn, k _ _ _ σ (s1.upd ha (.unlock ha)) (x1.unlk hu hH) (r1.wk (.unlock ha))⟩
  | ct σd =>
    intro F1 φ1 H1 σ s1 x1 r1
    have ha : F1 a = some (.frz o (.ext ψ)) := x1.fz a _ upd_same
    exact .inr ⟨a, o, _, s1.le _ _ ha, hn, k _ _ _ σ (s1.upd ha (.unlock ha)) (x1.unlk hu hH) (r1.wk (.unlock ha))⟩
  | ret d =>
    intro F1 φ1 H1 u s1 x1 r1 l
    have ha : F1 a = some (.frz o (.ext ψ)) := x1.fz a _ upd_same
    exact .inr ⟨a, o, _, s1.le _ _ ha, hn, k _ _ _ u (s1.upd ha (.unlock ha)) (x1.unlk hu hH) (DR.wk (.unlock ha) r1) l⟩
end
/-! the loop -/
end Pv
/-! values() and items() of a dict that is data; comprehensions over dicts that are data -/
namespace Pv
open PySem PySem.Spec PyProof.Rows L2
section
variable {X : Cx} {pins : List (Addr × Obj)} {σ : L2.St} {H : Hp} {s : Shared} {d : Addr} {o : Obj} {vs : List Ent}
theorem frzN2 (I : Inv X pins σ H s) (h : H d = some (.frz o (dNO X.prog X.w d vs))) :
    (d == sysModules) = false ∧ s.heap.get? d = some o ∧ o.ExactDict ∧ vs.length ≤ sizeLine ∧ ∃ (es : Array DictEntry) (ep : Nat), o.data = .dict es ep ∧ es.size = vs.length ∧
      ∀ (i : Nat) (e : Ent), vs[i]? = some e → ∃ hi : i < es.size, es[i].key = .ref e.2.1 ∧ RelV e.2.2 es[i].val := by
  obtain ⟨hd, ⟨hs, hz, xs, pr, o', es, ep, ho, hx, hdt, he, _⟩, _⟩ := I.hok d _ h
  rw [hd] at ho
  cases ho
  have l1 : es.size = xs.length := size_of_entries he
  have l2 : vs.length = xs.length := Paired.length pr
  refine ⟨hs, hd, hx, hz, es, ep, hdt, by omega, fun i e q => ?_⟩
  obtain ⟨b, hb, e1, e2, e3⟩ := paired_get pr q
  have z := entry_at he i
  rw [hb] at z
  obtain ⟨hi, ez⟩ := Array.getElem?_eq_some_iff.mp z
  exact ⟨hi, by rw [ez]; exact congrArg Value.ref e2.symm, by rw [ez]; exact e3⟩
end
def Itw (P : Program) (w : World) (d : Addr) (o : Obj) (vs : List Ent) : It :=
  ⟨fun i H => H d = some (.frz o (dNO P w d vs)) ∧ i < vs.length, fun i H x H' => H' = H ∧ ∃ e, vs[i]? = some e ∧ x = e.2.2, fun i H => H d = some (.frz o (dNO P w d vs)) ∧ vs.length ≤ i⟩
section
variable {P : Program} {w : World} {K : PySem.W.Frag} {tg : Expr} {d : Addr} {o : Obj} {es : Array DictEntry} {ep : Nat} {vs : List Ent}
theorem turn_valsN (it : Addr) (hod : o.data = .dict es ep) : Turn P w K tg (Itw P w d o vs) [it] it (fun i h => h.IsValIter it d i vs.length ep) where
  mem := by simp
  obj := fun i h st b hb => by
    have e : b = it := by simpa using hb
    subst e
    obtain ⟨oi, e, c, dd⟩ := st
    exact ⟨oi, e, fun v z => by rw [dd] at z; cases z⟩
  keep := fun i h h' st k => st.at fun oi e => k it (by simp) oi e
  item := by
    intro X hP hw hK hc i pins s σ H E I hf st hg
    subst hP hw hK
    obtain ⟨hd, hi⟩ := hg
    obtain ⟨f0, f1, f2, f3, f4, f5⟩ := hf it (by simp)
    obtain ⟨hs, hgd, hx, hz, es', ep', hdt, hsz, ent⟩ := frzN2 I hd
    obtain ⟨rfl, rfl⟩ := dict_ep hod hdt
    obtain ⟨e, he⟩ : ∃ p, vs[i]? = some p := ⟨vs[i], List.getElem?_eq_getElem hi⟩
    obtain ⟨hi2, hkey, hval⟩ := ent i e he
    rw [← hsz] at st
    refine wpAny_pyNext_values_item_raw st ⟨o, hgd, hx, hdt⟩ hi2 fun h' st' sb => ?_
    have I1 : Inv X pins σ H { s with heap := h' } := I.turned (t' := s.toks) (fun b ob hb e => (sb.2 b hb).trans e) f0 f1 f3 f4 f5
    obtain ⟨oi, e', c, dd⟩ := id st'
    refine ⟨es'[i].val, rfl, go_of (s := { s with heap := h' }) e' c dd (by decide) ⟨e.2.2, H, I1, hval, ⟨rfl, e, he, rfl⟩, ?_, fun b hb => (hf b hb).1⟩⟩
    rw [← hsz]
    exact st'
  done := by
    intro X hP hw hK hc i pins s σ H E I hf st hg
    subst hP hw hK
    obtain ⟨hd, hi⟩ := hg
    obtain ⟨f0, f1, f2, f3, f4, f5⟩ := hf it (by simp)
    obtain ⟨hs, hgd, hx, hz, es', ep', hdt, hsz, ent⟩ := frzN2 I hd
    obtain ⟨rfl, rfl⟩ := dict_ep hod hdt
    rw [← hsz] at st
    exact wpAny_pyNext_values_end_raw (I.ok.hd hc) st ⟨o, hgd, hx, hdt⟩ (by omega) fun h' eb => ⟨rfl, I.turned (t' := s.toks) (fun b ob hb e => eb b ob hb e) f0 f1 f3 f4 f5⟩
  self := fun A i s Q E st h => wpAny_pyIter_valiter st h
end
section
variable {X : Cx} {tg e : Expr} {td : TE} {apos cpos : Pos}
/-- a walk of a dict: it is locked before, if it is not yet -/
def iLockN (X : Cx) (td : TE) (J : Addr → Obj → List Ent → It) : TI := fun σ H R => td σ H fun x H1 => ∃ d vs, x = .ref d ∧ ((∃ o, H1 d = some (.frz o (dNO X.prog X.w d vs)) ∧ R (J d o vs) H1) ∨
  (H1 d = some (dNO X.prog X.w d vs) ∧ ((∀ o' u', X.H_0 d ≠ some (.frz o' u')) → ∀ o, R (J d o vs) (upd H1 d (.frz o (dNO X.prog X.w d vs))))))
theorem pi_valuesN (he : PE X e td) (hbase : attributeBase e "values" X.env (eval e X.env) = eval e X.env := by rfl) (hline : (apos.endLine == cpos.line) = true := by rfl) : PI X tg (.Call (.Attribute e "values" apos) [] [] cpos) (iLockN X td (Itw X.prog X.w)) := by
  refine ⟨fun pins s σ H R I h => ?_⟩
  refine wpAny_Call_method (T := "dict") (id := "dict.values") hbase rfl hline F.plainAttrs_dict F.slot_dict_values F.type_dict_values (thn (he.run pins s σ H _ I h) fun u s1 ⟨x, H1, I1, rx, d, vs, ex, q⟩ => ?_)
  subst ex
  obtain rfl : u = Value.ref d := rx
  have go : ∀ {H2 : Hp} {o : Obj}, Inv X pins σ H2 s1 → H2 d = some (.frz o (dNO X.prog X.w d vs)) → R (Itw X.prog X.w d o vs) H2 → s1.TypeIs (.ref d) "dict" ∧ (∀ b, Value.ref d = .ref b → ∃ ob, s1.heap.get? b = some ob ∧ ob.dict = none) ∧ wpAny (model X.prog X.w) X.A (callWith cpos (.builtin "dict.values") [.ref d] [] []) (fun v s1 => wpAny (model X.prog X.w) X.A (pyIter v) (PIE X pins σ tg R) X.xe s1) X.xe s1 := fun {H2 o} I2 hd q => by
    obtain ⟨hs, hgd, hx, hz, es, ep, hdt, hsz, ent⟩ := frzN2 I2 hd
    have hm : s1.heap.DictRaw d es ep := ⟨o, hgd, hx, hdt⟩
    refine ⟨hm.typeIs, fun b q => by cases q; exact ⟨o, hgd, hx.2.1⟩, ?_⟩
    have I3 : Inv X pins σ H2 { s1 with heap := s1.heap.push { cls := .type "dict_values", data := .fields #[.ref d] } } := I2.kept (t' := s1.toks) fun b ob q => Heap.get?_push_of_some _ q
    have fin : wpAny (model X.prog X.w) X.A (pyIter (.ref s1.heap.objs.size)) (PIE X pins σ tg R) X.xe { s1 with heap := s1.heap.push { cls := .type "dict_values", data := .fields #[.ref d] } } := by
      refine wpAny_pyIter_values_raw (d := d) ⟨_, Heap.get?_push_size _ rfl, rfl, rfl⟩ (hm.push _) (pi_one (tk := s1.toks) I3 _ (turn_valsN _ hdt) ⟨_, Heap.get?_push_size _ rfl, rfl, ?_⟩ q)
      rw [hsz] <;> rfl
    exact method_meetsIn F.slot_dict_values F.entry_dict_values rfl (PySem.evalArgs_none ⟨rfl, hm.typeIs, F.args_dict_values_1 _, _, meets_dict_values_raw d hs, ⟨es, ep, hm⟩, fin⟩)
  rcases q with ⟨o, hd, q⟩ | ⟨hd, q⟩
  · exact go I1 hd q
  · have mu : Mut (some (dNO X.prog X.w d vs)) := trivial
    obtain ⟨od, I2⟩ := I1.lock hd mu
    exact go I2 upd_same (q (I1.nofrz hd mu) od)
theorem pe_unl {e : Expr} {t : TE} (h : PE X e t) : PE X e (fun σ H Q => t σ H fun v H' => Unl X H' (Q v)) := by
  refine ⟨fun pins s σ H Q I hw => ?_⟩
  refine thn (h.run pins s σ _ _ I hw) fun f s1 ⟨v, H', I2, r, q⟩ => ?_
  rcases q with q | ⟨d, o, u, e, hn, q⟩
  · exact ⟨v, _, I2, r, q⟩
  · exact ⟨v, _, I2.unlock e hn, r, q⟩
end
/-! by value -/
/-- what a walk of a dict yields -/
structure DWalk (X : Cx) (c0 : Nat → Addr) (tg it : Expr) (ml : ME) (f : P × P → P) : Prop where
  run : ∃ J : Addr → Obj → List Ent → It, PI X tg it (iLockN X (LE X.K (ClX X c0) ml) J) ∧
    ∀ (S : SH) (F : Hp) (φ : Nat → Addr) (a : Addr) (o : Obj) (kvs : List (P × P)) (vs : List Ent), F a = some (.frz o (dNO X.prog X.w a vs)) → RpT X.K (ClX X c0) F kvs vs → ItD X.K (ClX X c0) S F φ (J a o vs) (srcP (kvs.map f))
def srcD (f : P × P → P) (d : D) (S : SH) : Option (Src × SH) := match d with
  | .p (.dT kvs) => some (srcP (kvs.map f), S)
  | _ => none
def dItD (f : P × P → P) (m : ME) : MI := fun σ S => bnd (m σ S) (srcD f)
def itV (x : P × P) : P := x.2
section
variable {X : Cx} {c0 : Nat → Addr} {tg l : Expr} {ml : ME} {apos cpos : Pos}
theorem rpt_get2 {K : PySem.W.Frag} {cl : ClW} {F : Hp} : ∀ {kvs : List (P × P)} {vs : List Ent}, RpT K cl F kvs vs → kvs.length = vs.length ∧ ∀ (i : Nat) (q : P × P), kvs[i]? = some q → ∃ e, vs[i]? = some e ∧ Rp K cl F q.1 (.ref e.2.1) ∧ Rp K cl F q.2 e.2.2
  | _, _, .nil => ⟨rfl, fun i q h => by cases h⟩
  | _, _, .cons e d k a b => by
    obtain ⟨h1, h2⟩ := rpt_get2 b
    refine ⟨congrArg (· + 1) h1, fun i q h => ?_⟩
    cases i with
    | zero => cases h; exact ⟨_, rfl, k, a⟩
    | succ i => exact h2 i q h
theorem w_values (hl : PE X l (LE X.K (ClX X c0) ml)) (hbase : attributeBase l "values" X.env (eval l X.env) = eval l X.env := by rfl) (hline : (apos.endLine == cpos.line) = true := by rfl) : DWalk X c0 tg (.Call (.Attribute l "values" apos) [] [] cpos) ml itV := by
  refine ⟨Itw X.prog X.w, pi_valuesN hl hbase hline, fun S F φ a o kvs vs hF r => ?_⟩
  intro S' B' F' φ' H' s sf hl hp i
  obtain ⟨ll, get⟩ := rpt_get2 r
  have hH : H' a = some (.frz o (dNO X.prog X.w a vs)) := s.le _ _ (sf _ _ hF)
  refine ⟨fun t d ht htd => ?_, fun hi _ => ?_⟩
  · have ht : ((kvs.map itV).map fun p (_ : SH) => some (D.p p))[i]? = some t := ht
    rw [List.getElem?_map, List.getElem?_map] at ht
    cases e : kvs[i]? with
    | none => rw [e] at ht; cases ht
    | some q =>
      rw [e] at ht
      cases ht
      cases htd
      obtain ⟨en, he, rq, rv⟩ := get i q e
      refine ⟨trivial, ⟨hH, (List.getElem?_eq_some_iff.mp he).1⟩, fun x H2 y => ?_⟩
      obtain ⟨rfl, e', he', rfl⟩ := y
      rw [he] at he'
      cases he'
      exact ⟨F', s, .refl s, Rp.mono sf rv⟩
  · have hi : ((kvs.map itV).map fun p (_ : SH) => some (D.p p)).length ≤ i := hi
    rw [List.length_map, List.length_map] at hi
    exact ⟨hH, by omega⟩
end
section
variable {X : Cx} {c0 : Nat → Addr} {S : SH} {B : List Nat} {F H : Hp} {φ : Nat → Addr}
theorem OkE.lock {r : Option (D × SH)} {Q : VK} (s : Sim X.K (ClX X c0) S B F φ H) {a : Addr} {ψ : Heap → Prop} (hu : F a = some (.ext ψ)) (o : Obj) (hn : ∀ o' u', X.H_0 a ≠ some (.frz o' u')) (h : OkE X.K (ClX X c0) S B F φ H r Q) :
    OkE X.K (ClX X c0) S B (upd F a (.frz o (.ext ψ))) φ (upd H a (.frz o (.ext ψ))) r (fun v H' => Unl X H' (Q v)) := by
  obtain ⟨d, S1, e, k⟩ := h
  refine ⟨d, S1, e, ?_⟩
  have hH := s.le _ _ hu
  intro F1 φ1 H1 u s1 x1 r1 l
  have ha : F1 a = some (.frz o (.ext ψ)) := x1.fz a _ upd_same
  exact .inr ⟨a, o, _, s1.le _ _ ha, hn, k _ _ _ u (s1.upd ha (.unlock ha)) (x1.unlk hu hH) (DR.wk (.unlock ha) r1) l⟩
theorem OkE.unl {r : Option (D × SH)} {Q : VK} (h : OkE X.K (ClX X c0) S B F φ H r Q) : OkE X.K (ClX X c0) S B F φ H r (fun v H' => Unl X H' (Q v)) := by
  obtain ⟨d, S1, e, k⟩ := h
  exact ⟨d, S1, e, fun F1 φ1 H1 u s1 x1 r1 l => .inl (k F1 φ1 H1 u s1 x1 r1 l)⟩
/-- a locked walk, by value -/
theorem lock_core {l : Expr} {ml : ME} {f : P × P → P} {J : Addr → Obj → List Ent → It} {σ : L2.St} {σd : En} {src : Src} {S1 : SH} {R : It → Hp → Prop}
    (hJ : ∀ (S : SH) (F : Hp) (φ : Nat → Addr) (a : Addr) (o : Obj) (kvs : List (P × P)) (vs : List Ent), F a = some (.frz o (dNO X.prog X.w a vs)) → RpT X.K (ClX X c0) F kvs vs → ItD X.K (ClX X c0) S F φ (J a o vs) (srcP (kvs.map f)))
    (s : Sim X.K (ClX X c0) S B F φ H) (rs : RS X.K (ClX X c0) F φ S.len σd σ) (e : dItD f ml σd S = some (src, S1))
    (k : ∀ F1 φ1 H1 J, Sim X.K (ClX X c0) S1 B F1 φ1 H1 → Ext S F φ H S1 F1 φ1 H1 → RS X.K (ClX X c0) F1 φ1 S1.len σd σ → ItD X.K (ClX X c0) S1 F1 φ1 J src → R J H1)
    (kl : ∀ F1 φ1 H1 J a o ψ, Sim X.K (ClX X c0) S1 B F1 φ1 H1 → Ext S F φ H S1 F1 φ1 H1 → RS X.K (ClX X c0) F1 φ1 S1.len σd σ → F1 a = some (.ext ψ) → (∀ o' u', X.H_0 a ≠ some (.frz o' u')) →
      Sim X.K (ClX X c0) S1 B (upd F1 a (.frz o (.ext ψ))) φ1 (upd H1 a (.frz o (.ext ψ))) → RS X.K (ClX X c0) (upd F1 a (.frz o (.ext ψ))) φ1 S1.len σd σ → ItD X.K (ClX X c0) S1 (upd F1 a (.frz o (.ext ψ))) φ1 J src → R J (upd H1 a (.frz o (.ext ψ)))) :
    iLockN X (LE X.K (ClX X c0) ml) J σ H R := by
  obtain ⟨d, S2, e1, e2⟩ := bnd_of e
  cases d with
  | ref n => cases e2
  | p y =>
    cases y <;> try (cases e2; done)
    rename_i kvs
    cases (show some (srcP (kvs.map f), S2) = some (src, S1) from e2)
    refine LE.then_ s rs e1 fun F1 φ1 H1 x s1 x1 rs1 dr l1 => ?_
    cases (show Rp X.K (ClX X c0) F1 (.dT kvs) x from dr) with
    | @dT a _ es hd rt =>
      obtain ⟨u, eu, hu⟩ := hd
      refine ⟨a, es, rfl, ?_⟩
      rcases hu with rfl | ⟨ob, rfl⟩
      · refine .inr ⟨s1.le _ _ eu, fun hn ob => ?_⟩
        have w : Wk F1 (upd F1 a (.frz ob (dNO X.prog X.w a es))) := Wk.lock eu ob
        exact kl F1 φ1 H1 _ a ob _ s1 x1 rs1 eu hn (s1.upd eu w) (rs1.wk w) (hJ S1 _ φ1 a ob kvs es upd_same (RpT.wk w rt))
      · exact .inl ⟨ob, s1.le _ _ eu, k F1 φ1 H1 _ s1 x1 rs1 (hJ S1 F1 φ1 a ob kvs es eu rt)⟩
end
section
variable {cl : ClW} {vs : List Nat} {g : MG} {mt : MT} {me mk mv : ME}
theorem comp_core {K : PySem.W.Frag} {live : Bool} {σ : L2.St} {Q : VK} {ws : List Nat} {σd : En} {S1 : SH} {B : List Nat} {F1 H1 : Hp} {φ1 : Nat → Addr} {J : It} {src : Src} (hw : ∀ j ∈ vs, j ∈ ws) (s1 : Sim K cl S1 B F1 φ1 H1) (rs1 : RS K cl F1 φ1 S1.len σd σ) (it : ItD K cl S1 F1 φ1 J src)
    (o1 : OkE K cl S1 B F1 φ1 H1 (bnd (compL src.fin g mt me (wipeD ws σd) src.items [] S1) fun ds S2 => newL live ds S2) Q) :
    ∀ D, H1 D = none → ∃ W : Nat → Nat → Hp → Prop, (∃ m, W 0 m (upd H1 D (.lst []))) ∧ ∀ i m H, W i m H →
  (J.stop i H ∧ Q (.ref D) H) ∨ (J.go i H ∧ ∃ Nx : Hp → Prop, (∀ H', Nx H' → ∃ m', m' < m ∧ W (i + 1) m' H') ∧ ∀ x H', J.yld i H x H' → LG K cl vs g x (wipe σ ws) H' fun σ2 H2 => wipe σ2 ws = wipe σ ws ∧ LT K cl mt σ2 H2 fun b H3 =>
    if b = true then LE K cl me σ2 H3 fun y H4 => ∃ acc, H4 D = some (.lst acc) ∧ acc.length < sizeLine ∧ Nx (upd H4 D (.lst (acc ++ [y]))) else Nx H3) := by
  intro L hL
  have smL : Same H1 (upd H1 L (.lst [])) := Same.new (Same.refl _) hL
  obtain ⟨fL, pL⟩ := s1.none_p hL
  refine ⟨fun i mm H' => mm = src.items.length - i ∧ i ≤ src.items.length ∧ ∃ acc us S' F' φ', Sim K cl S' B F' φ' H' ∧ Ext S1 F1 φ1 H1 S' F' φ' H' ∧ At L us S' F' φ' H' ∧ DRA K cl F' φ' acc us ∧ (∀ d ∈ acc, d.lt S'.len) ∧
      OkE K cl S1 B F1 φ1 H1 (bnd (compL src.fin g mt me (wipeD ws σd) (src.items.drop i) acc S') fun ds S2 => newL live ds S2) Q,
    ⟨src.items.length, by simp, Nat.zero_le _, [], [], S1, F1, φ1, s1.keep smL, Ext.ofSame s1 smL, ⟨upd_same, fL, pL⟩, .nil, fun _ z => absurd z (by simp), by rw [List.drop_zero]; exact o1⟩, ?_⟩
  rintro i mm H' ⟨rfl, hi, acc, us, S', F', φ', s', x', at', ra, la, o'⟩
  obtain ⟨turn, stop⟩ := it S' B F' φ' H' s' x'.fz x'.len x'.phi i
  by_cases hlt : i < src.items.length
  · rw [List.drop_eq_getElem_cons hlt] at o'
    unfold compL at o'
    cases ht : src.items[i] S' with
    | none => rw [ht] at o'; obtain ⟨_, _, z, _⟩ := o'; cases z
    | some d =>
      rw [ht] at o'
      dsimp only at o'
      obtain ⟨ld, go, yld⟩ := turn _ d (List.getElem?_eq_getElem hlt) ht
      refine .inr ⟨go, fun H3 => ∃ acc us S' F' φ', Sim K cl S' B F' φ' H3 ∧ Ext S1 F1 φ1 H1 S' F' φ' H3 ∧ At L us S' F' φ' H3 ∧ DRA K cl F' φ' acc us ∧ (∀ d ∈ acc, d.lt S'.len) ∧
        OkE K cl S1 B F1 φ1 H1 (bnd (compL src.fin g mt me (wipeD ws σd) (src.items.drop (i + 1)) acc S') fun ds S2 => newL live ds S2) Q, fun H3 h => ⟨src.items.length - (i + 1), by omega, rfl, hlt, h⟩, fun x H2 y => ?_⟩
      obtain ⟨F2, s2, x2, dr⟩ := yld x H2 y
      obtain ⟨out, S9, eo, ko⟩ := okE_bnd o'
      obtain ⟨σ3, S3, e3, e4⟩ := bnd_of eo
      obtain ⟨b, S4, e5, e6⟩ := bnd_of e4
      refine ⟨d, wipeD ws σd, S', B, F2, φ', s2, ((x'.trans x2).rs rs1).wipe2 ws, dr, ld, σ3, S3, e3, fun F4 φ4 H4 σ4 s4 x4 rs4 hk => ⟨?_, ?_⟩⟩
      · exact (wipe_eq hk.1 fun j hj => hk.2 j fun z => hj (hw j z)).trans wipe_wipe
      · refine LT.then_ s4 rs4 e5 fun F5 φ5 H5 s5 x5 rs5 => ?_
        have xa := (x2.trans x4).trans x5
        split
        · rename_i hb
          rw [if_pos hb] at e6
          by_cases hz : acc.length < sizeLine
          · rw [if_pos hz] at e6
            obtain ⟨y1, S6, e7, e8⟩ := bnd_of e6
            refine LE.then_ s5 rs5 e7 fun F6 φ6 H6 u s6 x6 rs6 dr6 l6 => ?_
            have xb := xa.trans x6
            have at6 := at'.ext xb
            have hlen := ra.length
            refine ⟨us, at6.1, by omega, acc ++ [y1], us ++ [u], S6, F6, φ6, s6.other _ at6.2.1 at6.2.2, (x'.trans xb).other _ hL, ⟨upd_same, at6.2⟩, ?_, fun z hz' => ?_, ?_⟩
            · exact DRA.append (xb.dra la ra) (.cons dr6 .nil)
            · rcases List.mem_append.mp hz' with h | h
              · exact xb.lt (la z h)
              · rw [List.mem_singleton.mp h]; exact l6
            · rw [e8]; exact ko
          · rw [if_neg hz] at e6; cases e6
        · rename_i hb
          rw [if_neg hb] at e6
          exact ⟨acc, us, S4, F5, φ5, s5, x'.trans xa, at'.ext xa, xa.dra la ra, fun z hz' => xa.lt (la z hz'), by rw [e6]; exact ko⟩
  · have hd : src.items.drop i = [] := List.drop_eq_nil_iff.mpr (by omega)
    rw [hd] at o'
    unfold compL at o'
    by_cases hf : src.fin S' = true
    · rw [if_pos hf] at o'
      exact .inl ⟨stop (by omega) hf, newL_at o' s' x' ra la at' hL⟩
    · rw [if_neg hf] at o'; obtain ⟨_, _, z, _⟩ := o'; cases z
end
section
variable {X : Cx} {c0 : Nat → Addr}
end
end Pv
/-! loops and comprehensions over a dict that is data; list(d.values()) -/
namespace Pv
open PySem PySem.Spec PyProof.Rows L2
section
variable {X : Cx} {c0 : Nat → Addr} {tg iter elt : Expr} {ifs : List Expr} {scope : Scope} {own : List (Str × Nat)} {pos : Pos} {ml : ME} {f : P × P → P} {g : MG} {mt : MT} {me mk mv : ME} {vs : List Nat} {live : Bool}
theorem k_compD (hc : X.calm = true) (hN : X.N.Nodup) (hd : DWalk X c0 tg iter ml f) (ok : BlkOk X.N X.env.scope scope own)
    (hg : ∀ (s : Shared) (H : Hp) (C : Addr) (cs : List (Str × Addr)) (fp : List Addr), PG (X.blk s H scope (compEnvC scope cs C X.env) fp) tg (LG X.K (ClX X c0) vs g)) (ht : ∀ (s : Shared) (H : Hp) (C : Addr) (cs : List (Str × Addr)) (fp : List Addr), PTs (X.blk s H scope (compEnvC scope cs C X.env) fp) ifs (LT X.K (ClX X c0) mt))
    (he : ∀ (s : Shared) (H : Hp) (C : Addr) (cs : List (Str × Addr)) (fp : List Addr), PE (X.blk s H scope (compEnvC scope cs C X.env) fp) elt (LE X.K (ClX X c0) me)) (hw : ∀ j ∈ vs, j ∈ own.map (·.2) := by decide) (hs : ∀ x, foldedSetIterable iter X.env x = pure x := by intro _; rfl) :
    PE X (.ListComp elt [⟨tg, iter, ifs, 0⟩] scope pos) (LE X.K (ClX X c0) (dComp live (dItD f ml) g mt me (own.map (·.2)))) := by
  obtain ⟨J, hJ, it⟩ := hd.run
  refine (pe_unl (pe_lc hc hN hJ ok hg ht he hs)).imp fun σ H Q q => ?_
  obtain ⟨σd, S, B, F, φ, s, rs, o⟩ := q
  obtain ⟨src, S1, e1, o1⟩ := okE_bnd o
  refine lock_core (l := iter) it s rs e1 (fun F1 φ1 H1 J s1 x1 rs1 it => ?_) (fun F1 φ1 H1 J a o ψ s1 x1 rs1 hu hn s2 rs2 it => ?_)
  · exact comp_core hw s1 rs1 it ((o1.ext x1).unl)
  · exact comp_core hw s2 rs2 it (OkE.lock s1 hu o hn (o1.ext x1))
end
/-! list(d.values()) -/
theorem kdl_valuesR {prog : Program} {w : World} {r d : Addr} {es : Array DictEntry} {ep : Nat} : PySem.W.KdlSrc prog w "dict_values" r d es.size (fun i v => ∃ hi : i < es.size, v = es[i].val) (fun h => h.IsValuesView r d ∧ h.DictRaw d es ep) where
  type := fun _ hm => hm.1.typeIs
  there := fun _ hm => ⟨let ⟨_, ho, _⟩ := hm.1; Heap.lt_size ho, let ⟨_, ho, _⟩ := hm.2; Heap.lt_size ho⟩
  keep := fun _ _ hm hk => ⟨let ⟨o, ho, x⟩ := hm.1; ⟨o, hk r (.inl rfl) o ho, x⟩, hm.2.at fun o e => hk d (.inr rfl) o e⟩
  notList := by decide
  notTuple := by decide
  hint := fun _ _ _ _ hm hq => PySem.W.kdl_hint_values hm.1.typeIs hq
  iter := fun _ _ hh hm => ⟨_, _, (fun _ _ hq => wpAny_pyIter_values_raw hm.1 hm.2 hq), Walks.rawValues hh _ d (Nat.ne_of_lt (let ⟨_, ho, _⟩ := hm.2; Heap.lt_size ho)) es ep, ⟨⟨_, Heap.get?_push_size _ rfl, rfl, rfl⟩, hm.2.push _⟩⟩
def dListV (live : Bool) (m : ME) : ME := fun σ S => bnd (m σ S) fun d S1 => match asN d S1 with
  | some kvs => newL live (kvs.map (·.2)) S1
  | none => none
section
variable {X : Cx} {c0 : Nat → Addr} {e : Expr} {te : TE} {me : ME} {p apos cpos pos : Pos} {live : Bool}
def tListV (X : Cx) (te : TE) : TE := fun σ H Q => te σ H fun x H1 => ∃ d vs, x = .ref d ∧ HD X.prog X.w d vs H1 ∧ ∀ p, H1 p = none → Q (.ref p) (upd H1 p (.lst (vs.map (·.2.2))))
theorem hd_raw {pins : List (Addr × Obj)} {σ : L2.St} {H : Hp} {s : Shared} {d : Addr} {vs : List Ent} (I : Inv X pins σ H s) (h : HD X.prog X.w d vs H) : (d == sysModules) = false ∧ vs.length ≤ sizeLine ∧ ∃ es ep, s.heap.DictRaw d es ep ∧ es.size = vs.length ∧
    ∀ (i : Nat) (e : Ent), vs[i]? = some e → ∃ hi : i < es.size, RelV e.2.2 es[i].val := by
  obtain ⟨u, e, q⟩ := h
  have key : ObjOk X.prog X.w H s.heap d (dNO X.prog X.w d vs) := by
    rcases q with rfl | ⟨o, rfl⟩
    · exact I.hok d _ e
    · exact (I.hok d _ e).2
  obtain ⟨⟨hs, hz, xs, pr, o, es, ep, g1, g2, g3, he, g5⟩, _, _⟩ := key
  have l1 : es.size = xs.length := size_of_entries he
  have l2 : vs.length = xs.length := Paired.length pr
  refine ⟨hs, hz, es, ep, ⟨o, g1, g2, g3⟩, by omega, fun i e q => ?_⟩
  obtain ⟨b, hb, e1, e2, e3⟩ := paired_get pr q
  have z := entry_at he i
  rw [hb] at z
  obtain ⟨hi, ez⟩ := Array.getElem?_eq_some_iff.mp z
  exact ⟨hi, by rw [ez]; exact e3⟩
theorem vals_of_get : ∀ {xs : List V} {us : List Value}, us.length = xs.length → (∀ (i : Nat) (x : V) (u : Value), xs[i]? = some x → us[i]? = some u → RelV x u) → Vals xs us
  | [], [], _, _ => .nil
  | x :: xs, u :: us, hl, h => .cons (h 0 x u rfl rfl) (vals_of_get (by simpa using hl) fun i y v e1 e2 => h (i + 1) y v (by simpa using e1) (by simpa using e2))
  | [], _ :: _, hl, _ => by simp at hl
  | _ :: _, [], hl, _ => by simp at hl
theorem pe_listV (hc : X.calm = true) (he : PE X e te) (hg : Gl X "list") (hm : X.mg "list" = none) (hv : bootBuiltins "list" = some (.type "list") := by decide +kernel) (hbase : attributeBase e "values" X.env (eval e X.env) = eval e X.env := by rfl) (hline : (apos.endLine == cpos.line) = true := by rfl)
    (hs : starEach [.Call (.Attribute e "values" apos) [] [] cpos] X.env = (false, eval (.Call (.Attribute e "values" apos) [] [] cpos) X.env) :: starEach [] X.env := by rfl) :
    PE X (.Call (.Name "list" p) [.Call (.Attribute e "values" apos) [] [] cpos] [] pos) (tListV X te) := by
  refine ⟨fun pins s σ H Q I hq => ?_⟩
  refine wpAny_Call_Name_kw (ld_blt I hg hm hv ?_)
  refine PyProof.Rows.callWith_type1 ?_ hs rfl
  rw [hs]
  show wpAny _ _ (spliced ((false, eval (.Call (.Attribute e "values" apos) [] [] cpos) X.env) :: backTo pos (starEach [] X.env))) _ _ s
  refine Calls.spliced_cons ?_
  refine wpAny_Call_method (T := "dict") (id := "dict.values") hbase rfl hline F.plainAttrs_dict F.slot_dict_values F.type_dict_values (thn (he.run pins s σ H _ I hq) fun u s1 ⟨x, H1, I1, rx, d, vs, ex, hd, q⟩ => ?_)
  subst ex
  obtain rfl : u = Value.ref d := rx
  obtain ⟨hs0, hz, es, ep, hm, hsz, ent⟩ := hd_raw I1 hd
  obtain ⟨o, hgd, hx, hdt⟩ := id hm
  have I2 : Inv X pins σ H1 { s1 with heap := s1.heap.push { cls := .type "dict_values", data := .fields #[.ref d] } } := I1.kept (t' := s1.toks) fun b ob q => Heap.get?_push_of_some _ q
  refine ⟨hm.typeIs, fun b q => by cases q; exact ⟨o, hgd, hx.2.1⟩, ?_⟩
  show wpAny _ _ (callWith cpos (.builtin "dict.values") [.ref d] [] []) _ X.xe s1
  refine method_meetsIn F.slot_dict_values F.entry_dict_values rfl (PySem.evalArgs_none ⟨rfl, hm.typeIs, F.args_dict_values_1 _, _, meets_dict_values_raw d hs0, ⟨es, ep, hm⟩, ?_⟩)
  refine Calls.spliced_nil ?_
  refine PySem.W.kdl_call (kdl_valuesR (es := es) (ep := ep)) (I1.ok.hd hc) ⟨⟨_, Heap.get?_push_size _ rfl, rfl, rfl⟩, hm.push _⟩ (by omega) fun h' tk acc c hk hS hacc => ?_
  refine ⟨.ref _, _, I2.laid (o := .lst (vs.map (·.2.2))) (h' := h') (t' := tk) hk (Nat.le_refl _) ?_, rfl, q _ (I2.hok.fresh (Nat.le_refl _))⟩
  refine ⟨by rw [List.length_map]; exact hz, acc.toList, c, vals_of_get (by rw [Array.length_toList, List.length_map]; exact hacc.1.trans hsz) fun i x u e1 e2 => ?_, by rw [Array.toArray_toList]; exact hS⟩
  rw [List.getElem?_map] at e1
  cases ee : vs[i]? with
  | none => rw [ee] at e1; cases e1
  | some en =>
    rw [ee] at e1
    cases e1
    obtain ⟨hi, r⟩ := ent i en ee
    obtain ⟨_, hu⟩ := hacc.2 i u (by rw [← Array.getElem?_toList]; exact e2)
    rw [hu]
    exact r
theorem k_listV (hc : X.calm = true) (he : PE X e (LE X.K (ClX X c0) me)) (hg : Gl X "list") (hm : X.mg "list" = none) (hbase : attributeBase e "values" X.env (eval e X.env) = eval e X.env := by rfl) (hline : (apos.endLine == cpos.line) = true := by rfl)
    (hs : starEach [.Call (.Attribute e "values" apos) [] [] cpos] X.env = (false, eval (.Call (.Attribute e "values" apos) [] [] cpos) X.env) :: starEach [] X.env := by rfl) :
    PE X (.Call (.Name "list" p) [.Call (.Attribute e "values" apos) [] [] cpos] [] pos) (LE X.K (ClX X c0) (dListV live me)) := by
  refine (pe_listV hc he hg hm (hbase := hbase) (hline := hline) (hs := hs)).imp fun σ H Q q => ?_
  obtain ⟨σd, S, B, F, φ, s, rs, o⟩ := q
  obtain ⟨d, S1, e1, o⟩ := okE_bnd o
  refine LE.then_ s rs e1 fun F1 φ1 H1 x s1 x1 rs1 dr l1 => ?_
  have o1 := o.ext x1
  cases en : asN d S1 with
  | none => rw [en] at o1; exact o1.no
  | some kvs =>
    rw [en] at o1
    obtain ⟨a, vs, rfl, hd, rv, lt⟩ := asN_ok s1 en dr
    refine ⟨a, vs, rfl, hd, ?_⟩
    have dra : DRA X.K (ClX X c0) F1 φ1 (kvs.map (·.2)) (vs.map (·.2.2)) := by
      clear hd lt en o1
      induction rv with
      | nil => exact .nil
      | cons h t ih => exact .cons h.2.2.2 ih
    exact (newL_ok1 o1 s1 dra lt).2
end
end Pv
/-! xs[a:b] = ys, both lists that may change -/
namespace Pv
open PySem PySem.Spec PyProof.Rows L2
section
variable {X : Cx} {o lo hi : Expr} {to tl th : TE} {pos p2 : Pos}
end
theorem DRA.take {K : PySem.W.Frag} {cl : ClW} {F : Hp} {φ : Nat → Addr} {ds : List D} {vs : List V} (k : Nat) (h : DRA K cl F φ ds vs) : DRA K cl F φ (ds.take k) (vs.take k) := by
  induction h generalizing k with
  | nil => rw [List.take_nil, List.take_nil]; exact .nil
  | cons r t ih =>
    cases k with
    | zero => exact .nil
    | succ k => exact .cons r (ih k)
theorem DRA.drop {K : PySem.W.Frag} {cl : ClW} {F : Hp} {φ : Nat → Addr} {ds : List D} {vs : List V} (k : Nat) (h : DRA K cl F φ ds vs) : DRA K cl F φ (ds.drop k) (vs.drop k) := by
  induction h generalizing k with
  | nil => rw [List.drop_nil, List.drop_nil]; exact .nil
  | cons r t ih =>
    cases k with
    | zero => exact .cons r t
    | succ k => exact ih k
section
variable {K : PySem.W.Frag} {cl : ClW} {S S' : SH} {B : List Nat} {F H : Hp} {φ : Nat → Addr}
end
section
variable {X : Cx} {cl : ClW} {o lo hi : Expr} {mo ml mh : ME} {pos p2 : Pos}
end
/-! xs.index(x) of data -/
section
variable {X : Cx} {cl : ClW}
def rIxP (K : PySem.W.Frag) (cl : ClW) : V → List V → Hp → VK → Prop := fun v xs H Q => ∃ (F : Hp) (p : P) (ys : List P) (y : V) (j : Nat) (q : P), xs = [y] ∧ Same F H ∧ Rp K cl F p y ∧ Rp K cl F (.lst ys) v ∧ okd 40 p = true ∧ ys.all (okd 40) = true ∧ ys[j]? = some q ∧ peq q p = true ∧ (∀ (m : Nat) (q' : P), m < j → ys[m]? = some q' → peq q' p = false) ∧ Q (.int (j : Nat)) H
theorem mt_indexP (hu : X.A.units + 65 < cLine) : MtR X "list.index" (rIxP X.K cl) := by
  intro pins s σ H v xs u us Q I rx rxs h
  obtain ⟨F, p, ys, y, j, q0, rfl, sf, r1, r2, h1, h2, hq0, hp, hno, k⟩ := h
  cases r2 with
  | @lst a _ vs q t =>
    cases rx
    cases rxs with
    | cons ry rt =>
      rename_i uy ut
      cases rt
      obtain ⟨its, rv, ⟨⟨cls, dd, data, sl⟩, n, ho, hc, hdn, hd⟩, hlen⟩ := I.list (SqL.mono sf q)
      simp only at hc hd
      subst hc hd
      have hvl := rv.length
      have htl := t.len
      have hi : ∀ (m : Nat) (hm : m < its.length), ∃ q w, ys[m]? = some q ∧ Rp X.K cl F q w ∧ RelV w its[m] := fun m hm => by
        have hv : vs[m]? = some vs[m] := List.getElem?_eq_getElem (by omega)
        obtain ⟨q, hq, rq⟩ := t.get hv
        obtain ⟨w, hw, rw'⟩ := rv.get hv
        rw [List.getElem?_eq_getElem hm] at hw
        cases hw
        exact ⟨q, vs[m], hq, rq, rw'⟩
      classical
      have key : ∀ z, z ∈ its → ∃ b, (∀ (m : Nat) (hm : m < its.length), its[m] = z → ∀ q, ys[m]? = some q → peq q p = b) ∧ SeqAt.EqAt X.A.in1 s z uy b := fun z hz => by
        obtain ⟨m, hm, ej⟩ := List.mem_iff_getElem.mp hz
        obtain ⟨q, w, hq, rq, rw'⟩ := hi m hm
        refine ⟨peq q p, fun j2 hj2 e2 q2 hq2 => ?_, ?_⟩
        · obtain ⟨q', w', hq', rq', rw''⟩ := hi j2 hj2
          rw [hq'] at hq2; cases hq2
          rw [e2] at rw''
          rw [ej] at rw'
          have : w' = w := rw''.inj rw'
          subst this
          rw [Rp.uniq I sf 40 _ _ _ (okd_at h2 hq') (okd_at h2 hq) rq' rq]
        · rw [← ej]
          exact eqAt_P I sf 40 q p w y _ _ X.A.in1 (okd_at h2 hq) h1 rq rw' r1 ry (by show X.A.units + 1 + 40 < cLine; omega)
      obtain ⟨e, he⟩ : ∃ e : Value → Bool, ∀ z, z ∈ its → SeqAt.EqAt X.A.in1 s z uy (e z) ∧ ∀ (m : Nat) (hm : m < its.length), its[m] = z → ∀ q, ys[m]? = some q → peq q p = e z := by
        refine ⟨fun z => if hz : z ∈ its then (key z hz).choose else false, fun z hz => ?_⟩
        dsimp only
        rw [dif_pos hz]
        exact ⟨(key z hz).choose_spec.2, (key z hz).choose_spec.1⟩
      have hjl : j < its.length := by have := (List.getElem?_eq_some_iff.mp hq0).1; omega
      have hj : j < its.toArray.size := by simpa using hjl
      have hsl := sizeLine_eq
      refine call_meets PySem.F.slot_list_index ⟨_, ho, rfl⟩ PySem.F.entry_list_index (PySem.F.args_list_index_2 _ _)
        (SeqAt.list_indexAt a its.toArray n dd sl uy e j hj (by omega) ?_ ?_) ⟨ho, fun u' hu' => (he u' (by simpa using hu')).1, ?_⟩
      · have e1 : its.toArray[j] = its[j] := by simp
        rw [e1, ← (he its[j] (List.getElem_mem hjl)).2 j hjl rfl q0 hq0]
        exact hp
      · intro m hm hmj
        have hml : m < its.length := by simpa using hm
        obtain ⟨q', _, hq', _, _⟩ := hi m hml
        have e1 : its.toArray[m] = its[m] := by simp
        rw [e1, ← (he its[m] (List.getElem_mem hml)).2 m hml rfl q' hq']
        exact hno m q' hmj hq'
      · exact ⟨.int (j : Nat), H, I.tok _, ⟨_, rfl⟩, k⟩
end
def idxP (p : P) : List P → Option Nat
  | [] => none
  | q :: r => if peq q p = true then some 0 else (idxP p r).map (· + 1)
theorem idxP_ok {p : P} : ∀ {ys : List P} {j : Nat}, idxP p ys = some j → (∃ q, ys[j]? = some q ∧ peq q p = true) ∧ ∀ (m : Nat) (q' : P), m < j → ys[m]? = some q' → peq q' p = false
  | [], _, h => by cases h
  | q :: r, j, h => by
    unfold idxP at h
    split at h
    · rename_i e
      cases h
      exact ⟨⟨q, rfl, e⟩, fun m q' hm => absurd hm (Nat.not_lt_zero _)⟩
    · rename_i e
      cases e1 : idxP p r with
      | none => rw [e1] at h; cases h
      | some i =>
        rw [e1] at h
        cases h
        obtain ⟨h1, h2⟩ := idxP_ok e1
        refine ⟨h1, fun m q' hm hq => ?_⟩
        cases m with
        | zero =>
          cases hq
          exact Bool.eq_false_iff.mpr e
        | succ m => exact h2 m q' (Nat.lt_of_succ_lt_succ hm) hq
def fIndexP : MF := fun ds S => match ds with
  | [d, e] => match rdP S d, rdP S e with
    | some (.lst ys), some x => if okd 40 x = true ∧ ys.all (okd 40) = true then (match idxP x ys with | some j => some (.p (.int (j : Nat)), S) | none => none) else none
    | _, _ => none
  | _ => none
theorem d_indexP {K : PySem.W.Frag} {cl : ClW} : MtD K cl fIndexP "list" (rIxP K cl) := by
  intro S B F φ H d ds x xs Q s r l rs ls o
  unfold fIndexP at o
  split at o
  · rename_i d' e' e0
    obtain ⟨rfl, rfl⟩ := List.cons.inj e0
    split at o
    · rename_i ys p e1 e2
      split at o
      · rename_i h
        split at o
        · rename_i j ej
          obtain ⟨y, rfl, ry⟩ := dra1 rs
          obtain ⟨F', sf, ra, rb⟩ := rdP_ok2 s e1 e2 r ry
          obtain ⟨⟨q, h3, h4⟩, h5⟩ := idxP_ok ej
          exact ⟨F', p, ys, y, j, q, rfl, sf, rb, ra, h.1, h.2, h3, h4, h5, o.fin0 rfl s (Rp.int _) trivial⟩
        · exact o.no
      · exact o.no
    · exact o.no
  · exact o.no
end Pv
/-! reading the computations by simp -/
namespace Pv
open PySem PySem.Spec PyProof.Rows L2
section
variable {f g : D → D → SH → Option (D × SH)} {u : D → SH → Option (D × SH)} {a b c : ME} {t t1 t2 : MT} {r : MA} {m : MF} {s1 s2 : MS} {σ : En} {S S' : SH}
@[simp] theorem at_dC (x : P) : dC x σ S = some (.p x, S) := id rfl
@[simp] theorem at_dVar (i : Nat) : dVar i σ S = match σ[i]? with | some (some d) => some (d, S) | _ => none := id rfl
@[simp] theorem at_dOp : dOp f a b σ S = bnd (a σ S) fun x S1 => bnd (b σ S1) fun y S2 => f x y S2 := id rfl
@[simp] theorem at_dUn : dUn u a σ S = bnd (a σ S) fun x S1 => u x S1 := id rfl
@[simp] theorem at_dTest : dTest a σ S = bnd (a σ S) toB := id rfl
@[simp] theorem at_dAnd : dAnd t1 t2 σ S = bnd (t1 σ S) fun t S1 => if t = true then t2 σ S1 else some (false, S1) := id rfl
@[simp] theorem at_dOr : dOr t1 t2 σ S = bnd (t1 σ S) fun t S1 => if t = true then some (true, S1) else t2 σ S1 := id rfl
@[simp] theorem at_dNot : dNot t σ S = bnd (t σ S) fun x S1 => some (!x, S1) := id rfl
@[simp] theorem at_dNotV : dNotV a σ S = bnd (a σ S) fun d S1 => bnd (toB d S1) fun t S2 => some (.p (.bl (!t)), S2) := id rfl
@[simp] theorem at_dAndV : dAndV a b σ S = bnd (a σ S) fun d S1 => bnd (toB d S1) fun t S2 => if t = true then b σ S2 else some (.p (.bl false), S2) := id rfl
@[simp] theorem at_dOrV : dOrV a b σ S = bnd (a σ S) fun d S1 => bnd (toB d S1) fun t S2 => if t = true then some (.p (.bl true), S2) else b σ S2 := id rfl
@[simp] theorem at_dIfE : dIfE t a b σ S = bnd (t σ S) fun t S1 => if t = true then a σ S1 else b σ S1 := id rfl
@[simp] theorem at_dNil : dNil σ S = some ([], S) := id rfl
@[simp] theorem at_dCons : dCons a r σ S = bnd (a σ S) fun x S1 => bnd (r σ S1) fun xs S2 => some (x :: xs, S2) := id rfl
@[simp] theorem at_dCall : dCall m r σ S = bnd (r σ S) fun xs S1 => m xs S1 := id rfl
@[simp] theorem at_dNx : dNx σ S = some (.nx σ, S) := id rfl
def seqK (b : MS) : Fl → SH → Option (Fl × SH)
  | .nx σ1, S1 => b σ1 S1
  | r, S1 => some (r, S1)
@[simp] theorem seqK_nx (σ1 : En) : seqK s2 (.nx σ1) S = s2 σ1 S := id rfl
@[simp] theorem seqK_ret (d : D) : seqK s2 (.ret d) S = some (.ret d, S) := id rfl
@[simp] theorem seqK_brk (σ1 : En) : seqK s2 (.brk σ1) S = some (.brk σ1, S) := id rfl
@[simp] theorem seqK_ct (σ1 : En) : seqK s2 (.ct σ1) S = some (.ct σ1, S) := id rfl
@[simp] theorem at_dSeq : dSeq s1 s2 σ S = bnd (s1 σ S) (seqK s2) := by
  unfold dSeq
  congr 1
  funext f S1
  cases f <;> rfl
@[simp] theorem at_dBrk : dBrk σ S = some (.brk σ, S) := id rfl
@[simp] theorem at_dCt : dCt σ S = some (.ct σ, S) := id rfl
@[simp] theorem at_dDrop : dDrop a σ S = bnd (a σ S) fun _ S1 => some (.nx σ, S1) := id rfl
@[simp] theorem at_dRet : dRet a σ S = bnd (a σ S) fun d S1 => some (.ret d, S1) := id rfl
@[simp] theorem at_dRetN : dRetN σ S = some (.ret (.p .non), S) := id rfl
@[simp] theorem at_dIf : dIf t s1 s2 σ S = bnd (t σ S) fun t S1 => if t = true then s1 σ S1 else s2 σ S1 := id rfl
@[simp] theorem at_dSet (i : Nat) : dSet i a σ S = bnd (a σ S) fun d S1 => some (.nx (σ.set i (some d)), S1) := id rfl
@[simp] theorem at_dTup : dTup r σ S = bnd (r σ S) fun ds S1 => newT ds S1 := id rfl
@[simp] theorem at_dLst (live : Bool) : dLst live r σ S = bnd (r σ S) fun ds S1 => newL live ds S1 := id rfl
@[simp] theorem at_dYes : dYes σ S = some (true, S) := id rfl
@[simp] theorem at_dTru : dTru a σ S = bnd (a σ S) truD := id rfl
@[simp] theorem at_dChain : dChain f g a b c σ S = bnd (a σ S) fun x S1 => bnd (b σ S1) fun y S2 => bnd (f x y S2) fun z S3 => bnd (toB z S3) fun t S4 => if t = true then bnd (c σ S4) fun w S5 => g y w S5 else some (.p (.bl false), S4) := id rfl
@[simp] theorem at_dMeth (k : Nat) (nm : Str) : dMeth k nm m a r σ S = bnd (a σ S) fun d S1 => match fldsOf d S1 with
  | some (c', fs) => if c' = k ∧ fs.lookup nm = none then bnd (r σ S1) fun xs S2 => m (d :: xs) S2 else none
  | none => none := id rfl
@[simp] theorem at_dBM (T : String) : dBM T m a r σ S = bnd (a σ S) fun d S1 => if isTy T d S1 = true then bnd (r σ S1) fun ds S2 => m (d :: ds) S2 else none := id rfl
@[simp] theorem at_gNm (i : Nat) (d : D) : gNm i d σ S = some (σ.set i (some d), S) := id rfl
@[simp] theorem at_dAsg {gg : MG} : dAsg a gg σ S = bnd (a σ S) fun d S1 => bnd (gg d σ S1) fun σ2 S2 => some (.nx σ2, S2) := id rfl
@[simp] theorem at_gSb (d : D) : gSb a b d σ S = bnd (a σ S) fun x S1 => bnd (b σ S1) fun y S2 => match setIx x y d S2 with | some S3 => some (σ, S3) | none => none := id rfl
@[simp] theorem at_gNl : gNl [] σ S = some (σ, S) := id rfl
@[simp] theorem at_gCn {g1 : MG} {g2 : MGs} (d : D) (ds : List D) : gCn g1 g2 (d :: ds) σ S = bnd (g1 d σ S) fun σ1 S1 => g2 ds σ1 S1 := id rfl
@[simp] theorem at_gTp (n : Nat) {g2 : MGs} (ps : List P) : gTp n g2 (.p (.tup ps)) σ S = if ps.length = n then g2 (ps.map .p) σ S else none := id rfl
@[simp] theorem at_dFor (ws : List Nat) {mi : MI} {gg : MG} : dFor ws mi gg s1 σ S = bnd (mi σ S) fun src S1 => forL ws src.fin gg s1 src.items (wipeD ws σ) S1 := id rfl
@[simp] theorem at_dComp (live : Bool) {mi : MI} {gg : MG} (vs : List Nat) : dComp live mi gg t a vs σ S = bnd (mi σ S) fun src S1 => bnd (compL src.fin gg t a (wipeD vs σ) src.items [] S1) fun ds S2 => newL live ds S2 := id rfl
@[simp] theorem at_dIt : dIt a σ S = bnd (a σ S) srcOf := id rfl
@[simp] theorem at_dRng1 : dRng1 r σ S = bnd (r σ S) rng1 := id rfl
@[simp] theorem at_dRng2 : dRng2 r σ S = bnd (r σ S) rng2 := id rfl
@[simp] theorem at_fn (k n : Nat) (ds : List D) : dFn k n s1 ds S = if ds.length = k then frameF S (s1 (startD n ds) ⟨S.os.length, S.os⟩) else none := id rfl
@[simp] theorem at_fnL (k n : Nat) (ds : List D) : dFnL k n s1 ds S = if ds.length = k then liveF (s1 (startD n ds) S) else none := id rfl
theorem fn_at {k n : Nat} {ds : List D} (h : ds.length = k) : dFn k n s1 ds S = frameF S (s1 (startD n ds) ⟨S.os.length, S.os⟩) := if_pos h
theorem fnL_at {k n : Nat} {ds : List D} (h : ds.length = k) : dFnL k n s1 ds S = liveF (s1 (startD n ds) S) := if_pos h
@[simp] theorem live_ret (d : D) : liveF (some (.ret d, S)) = some (d, S) := id rfl
@[simp] theorem live_nx (σ : En) : liveF (some (.nx σ, S)) = some (.p .non, S) := id rfl
@[simp] theorem frame_p (x : P) (S1 : SH) : frameF S (some (.ret (.p x), S1)) = some (.p x, cutS S S1) := id rfl
@[simp] theorem frame_nx (σ : En) (S1 : SH) : frameF S (some (.nx σ, S1)) = some (.p .non, cutS S S1) := id rfl
@[simp] theorem cut_self (k : Nat) : cutS S ⟨k, S.os⟩ = S := by
  unfold cutS SH.len
  rw [List.take_length]
@[simp] theorem cut_app (k : Nat) (l : List Ob) : cutS S ⟨k, S.os ++ l⟩ = S := by
  unfold cutS SH.len
  simp
/-- a new list comes back as data -/
theorem frame_ref {n : Nat} {S1 : SH} {ps : List P} (hn : S.os.length ≤ n) (e : S1.os[n]? = some (.lst (ps.map D.p))) : frameF S (some (.ret (.ref n), S1)) = some (.p (.lst ps), cutS S S1) := by
  have h : ∀ (k : Nat), (ps.map D.p).mapM (toP k S.len S1) = some ps := fun k => by
    induction ps with
    | nil => rfl
    | cons p ps ih =>
      have q : (ps.map D.p).mapM (toP k S.len S1) = some ps := by
        clear e ih
        induction ps with
        | nil => rfl
        | cons p ps ih => rw [List.map_cons, List.mapM_cons, ih]; cases k <;> rfl
      rw [List.map_cons, List.mapM_cons, q]; cases k <;> rfl
  have h2 : outD S.len S1 (.ref n) = some (.p (.lst ps)) := by
    unfold outD
    dsimp only
    rw [if_neg (by unfold SH.len; omega)]
    unfold toP
    rw [if_neg (by unfold SH.len; omega), e]
    dsimp only
    rw [h]
    rfl
  show (match outD S.len S1 (.ref n) with | some d' => some (d', cutS S S1) | none => none) = _
  rw [h2]
@[simp] theorem newT_p (ps : List P) (h : ps.length ≤ sizeLine) : newT (ps.map D.p) S = some (.p (.tup ps), S) := by
  unfold newT
  rw [toPs_map]
  exact if_pos h
theorem newL_f (ps : List P) (h : ps.length ≤ sizeLine) : newL false (ps.map D.p) S = some (.p (.lst ps), S) := by
  unfold newL
  rw [List.length_map, if_pos h, if_neg Bool.false_ne_true, toPs_map]
theorem newL_t (ds : List D) (h : ds.length ≤ sizeLine) : newL true ds S = some (.ref S.os.length, ⟨S.b, S.os ++ [.lst ds]⟩) := by
  unfold newL
  rw [if_pos h, if_pos rfl]
end
theorem line_ge : 1000000 ≤ sizeLine := by unfold sizeLine; decide
/-! loops and comprehensions -/
section
variable {body : MS} {t : MT} {elt : ME} {ws : List Nat} {fin : SH → Bool} {g : MG}
/-- a loop by an invariant -/
theorem forL_inv (J : Nat → En → SH → Prop) : ∀ (items : List (SH → Option D)) (k : Nat) (σ : En) (S : SH), J k σ S → (∀ σ S, J (k + items.length) σ S → fin S = true) →
    (∀ i it σ S, items[i]? = some it → J (k + i) σ S → ∃ d σ1 S1, it S = some d ∧ g d σ S = some (σ1, S1) ∧ ∃ σ2 S2, (body σ1 S1 = some (.nx σ2, S2) ∨ body σ1 S1 = some (.ct σ2, S2)) ∧ J (k + i + 1) (wipeD ws σ2) S2) →
    ∃ σ' S', forL ws fin g body items σ S = some (.nx σ', S') ∧ J (k + items.length) σ' S'
  | [], k, σ, S, hj, hf, _ => ⟨σ, S, by rw [forL, if_pos (hf σ S hj)], hj⟩
  | it :: items, k, σ, S, hj, hf, h => by
    obtain ⟨d, σ1, S1, h1, h2, σ2, S2, h3, h4⟩ := h 0 it σ S rfl hj
    have e : k + (it :: items).length = (k + 1) + items.length := by rw [List.length_cons]; omega
    rw [e] at hf ⊢
    obtain ⟨σ', S', r1, r2⟩ := forL_inv J items (k + 1) _ S2 h4 hf fun i it' σ S hi hj => by
      have e2 : k + 1 + i = k + (i + 1) := by omega
      rw [e2] at hj ⊢
      exact h (i + 1) it' σ S (by simpa using hi) hj
    refine ⟨σ', S', ?_, r2⟩
    rw [forL, h1]
    dsimp only
    rw [h2, bnd_some]
    rcases h3 with h3 | h3 <;> (rw [h3, bnd_some]; exact r1)
theorem rng_inv {j : Nat} (J : Nat → En → SH → Prop) (lo : Int) (n : Nat) {σ : En} {S : SH} (h0 : J 0 σ S)
    (h : ∀ i σ S, i < n → J i σ S → ∃ σ2 S2, (body (σ.set j (some (.p (.int (lo + (i : Int)))))) S = some (.nx σ2, S2) ∨ body (σ.set j (some (.p (.int (lo + (i : Int)))))) S = some (.ct σ2, S2)) ∧ J (i + 1) (wipeD ws σ2) S2) :
    ∃ σ' S', forL ws (srcN lo n).fin (gNm j) body (srcN lo n).items σ S = some (.nx σ', S') ∧ J n σ' S' := by
  have hl : (srcN lo n).items.length = n := by simp [srcN]
  have q := forL_inv (body := body) (ws := ws) (g := gNm j) (fin := (srcN lo n).fin) J (srcN lo n).items 0 σ S h0 (fun _ _ _ => rfl) fun i it σ S hi hj => by
    simp only [srcN, List.getElem?_map] at hi
    cases e : (List.range n)[i]? with
    | none => rw [e] at hi; cases hi
    | some i' =>
      rw [e] at hi
      cases hi
      obtain ⟨h1, h2⟩ := List.getElem?_eq_some_iff.mp e
      rw [List.getElem_range] at h2
      subst h2
      rw [List.length_range] at h1
      rw [Nat.zero_add] at hj ⊢
      obtain ⟨σ2, S2, a, b⟩ := h i σ S h1 hj
      exact ⟨_, _, _, rfl, rfl, σ2, S2, a, b⟩
  rw [hl, Nat.zero_add] at q
  exact q
theorem rng0_inv {j : Nat} (J : Nat → En → SH → Prop) (n : Nat) {σ : En} {S : SH} (h0 : J 0 σ S)
    (h : ∀ i σ S, i < n → J i σ S → ∃ σ2 S2, (body (σ.set j (some (.p (.int (i : Int))))) S = some (.nx σ2, S2) ∨ body (σ.set j (some (.p (.int (i : Int))))) S = some (.ct σ2, S2)) ∧ J (i + 1) (wipeD ws σ2) S2) :
    ∃ σ' S', forL ws (srcN 0 n).fin (gNm j) body (srcN 0 n).items σ S = some (.nx σ', S') ∧ J n σ' S' :=
  rng_inv J 0 n h0 fun i σ S hi hj => by
    rw [Int.zero_add]
    exact h i σ S hi hj
theorem put_last (b : Nat) (os : List Ob) (x y : Ob) : SH.put ⟨b, os ++ [x]⟩ os.length y = ⟨b, os ++ [y]⟩ := by
  unfold SH.put
  simp
theorem at_last (b : Nat) (os : List Ob) (x : Ob) : (SH.mk b (os ++ [x])).os[os.length]? = some x := by simp
/-- a comprehension whose element changes nothing: its items as a filter and a map -/
theorem comp_all {S : SH} {σ : En} {α : Type} (fs : α → Bool) (fv : α → D) (it : α → SH → Option D) (hf : fin S = true) : ∀ (xs : List α) (acc : List D), acc.length + xs.length ≤ sizeLine →
    (∀ x ∈ xs, ∃ d σ1, it x S = some d ∧ g d σ S = some (σ1, S) ∧ t σ1 S = some (fs x, S) ∧ (fs x = true → elt σ1 S = some (fv x, S))) →
    compL fin g t elt σ (xs.map it) acc S = some (acc ++ (xs.filter fs).map fv, S)
  | [], acc, _, _ => by
    rw [List.map_nil, compL, if_pos hf]; simp
  | x :: xs, acc, hl, h => by
    obtain ⟨d, σ1, h1, h2, h3, h4⟩ := h x (by simp)
    rw [List.length_cons] at hl
    rw [List.map_cons, compL, h1]
    dsimp only
    rw [h2, bnd_some, h3, bnd_some]
    have ih := fun acc' (q : acc'.length + xs.length ≤ sizeLine) => comp_all (S := S) (σ := σ) fs fv it hf xs acc' q fun y hy => h y (by simp [hy])
    by_cases c : fs x = true
    · rw [if_pos c, if_pos (by omega), h4 c, bnd_some, ih _ (by rw [List.length_append, List.length_singleton]; omega), List.filter_cons_of_pos c, List.map_cons, List.append_assoc]; rfl
    · rw [if_neg c, ih _ (by omega), List.filter_cons_of_neg c]
end
end Pv
/-! what the built-ins give on data -/
namespace Pv
open PySem PySem.Spec PyProof.Rows L2
section
variable {S : SH} {ps qs : List P} {ds : List D}
theorem mulOk_r {i j : Int} (h : j.natAbs < 2 ^ 64) : mulOk i j = true := by
  unfold mulOk
  simp [h]
theorem mulOk_l {i j : Int} (h : i.natAbs < 2 ^ 64) : mulOk i j = true := by
  unfold mulOk
  simp [h]
theorem divOk_c {i j : Int} (h : 0 < j) (h2 : j < 2 ^ 64) : divOk i j = true := by
  unfold divOk
  have a : j.natAbs ≠ 0 := by omega
  have b : j.natAbs.log2 < 64 := (Nat.log2_lt a).mpr (by omega)
  simp only [Bool.and_eq_true, decide_eq_true_eq]
  omega
@[simp] theorem asL_l : asL (.p (.lst ps)) S = some (ps.map .p) := id rfl
@[simp] theorem asQ_l : asQ (.p (.lst ps)) S = some (ps.map .p) := id rfl
@[simp] theorem asQ_t : asQ (.p (.tup ps)) S = some (ps.map .p) := id rfl
@[simp] theorem fLen_l : fLen [.p (.lst ps)] S = some (.p (.int ps.length), S) := by simp [fLen]
@[simp] theorem fLen_t : fLen [.p (.tup ps)] S = some (.p (.int ps.length), S) := by simp [fLen]
@[simp] theorem fTuple_t : fTuple [.p (.tup ps)] S = some (.p (.tup ps), S) := id rfl
theorem fTuple_l (h : ps.length ≤ sizeLine) : fTuple [.p (.lst ps)] S = some (.p (.tup ps), S) := by
  show newT (ps.map D.p) S = _
  rw [newT_p ps h]
theorem fList_l (h : ps.length ≤ sizeLine) : fList false [.p (.lst ps)] S = some (.p (.lst ps), S) := by
  show newL false (ps.map D.p) S = _
  rw [newL_f ps h]
@[simp] theorem fInt_i (i : Int) : fInt [.p (.int i)] S = some (.p (.int i), S) := id rfl
@[simp] theorem fMin_i (i j : Int) : fMin [.p (.int i), .p (.int j)] S = some (.p (.int (if j < i then j else i)), S) := id rfl
@[simp] theorem fMax_i (i j : Int) : fMax [.p (.int i), .p (.int j)] S = some (.p (.int (if j > i then j else i)), S) := id rfl
@[simp] theorem fAdd_i (l : Bool) (i j : Int) : fAdd l (.p (.int i)) (.p (.int j)) S = some (.p (.int (i + j)), S) := id rfl
@[simp] theorem fNeg_i (i : Int) : fNeg (.p (.int i)) S = some (.p (.int (-i)), S) := id rfl
@[simp] theorem fSum_l (ns : List Int) : fSum [.p (.lst (intsP ns))] S = some (.p (.int ns.sum), S) := by
  have h : ∀ l : List Int, intsOf ((intsP l).map D.p) = some l := by
    intro l
    induction l with
    | nil => rfl
    | cons a l ih =>
      show (intsOf (D.p (.int a) :: (intsP l).map D.p)) = _
      simp [intsOf, ih]
  unfold fSum
  simp [h]
theorem atI_nat {α : Type} {l : List α} {n : Nat} {x : α} (h : l[n]? = some x) : atI l (n : Int) = some x := by
  obtain ⟨h1, h2⟩ := List.getElem?_eq_some_iff.mp h
  unfold atI
  have e : ixN l.length (n : Int) = some n := by
    unfold ixN
    simp
    omega
  rw [e]
  exact h
theorem fIx_l {n : Nat} {x : P} (h : ps[n]? = some x) : fIx (.p (.lst ps)) (.p (.int (n : Int))) S = some (.p x, S) := by
  have q := atI_nat (l := ps.map D.p) (n := n) (x := D.p x) (by rw [List.getElem?_map, h]; rfl)
  show (match asQ (.p (.lst ps)) S with
    | some xs => (match atI xs (n : Int) with | some x => some (x, S) | none => none)
    | none => none) = _
  simp only [asQ_l, q]
theorem fIx_t {n : Nat} {x : P} (h : ps[n]? = some x) : fIx (.p (.tup ps)) (.p (.int (n : Int))) S = some (.p x, S) := by
  have q := atI_nat (l := ps.map D.p) (n := n) (x := D.p x) (by rw [List.getElem?_map, h]; rfl)
  show (match asQ (.p (.tup ps)) S with
    | some xs => (match atI xs (n : Int) with | some x => some (x, S) | none => none)
    | none => none) = _
  simp only [asQ_t, q]
theorem fIx_ri {m : Nat} {i : Int} {d : D} (hm : S.os[m]? = some (.lst ds)) (h0 : 0 ≤ i) (h : ds[i.toNat]? = some d) : fIx (.ref m) (.p (.int i)) S = some (d, S) := by
  have e : i = (i.toNat : Int) := by omega
  have q := atI_nat (l := ds) h
  rw [← e] at q
  show (match asQ (.ref m) S with
    | some xs => (match atI xs i with | some x => some (x, S) | none => none)
    | none => none) = _
  have e2 : asQ (.ref m) S = some ds := by unfold asQ; dsimp only; rw [hm]
  simp only [e2, q]
theorem fApp_p {n : Nat} {x : P} (h : S.os[n]? = some (.lst ds)) (hl : ds.length < sizeLine) : fApp [.ref n, .p x] S = some (.p .non, S.put n (.lst (ds ++ [.p x]))) := by
  unfold fApp
  dsimp only
  rw [h]
  dsimp only
  rw [if_pos ⟨hl, rfl⟩]
theorem isTy_ref {n : Nat} (h : S.os[n]? = some (.lst ds)) : isTy "list" (.ref n) S = true := by
  unfold isTy
  dsimp only
  rw [h]
  rfl
theorem intsP_len (ns : List Int) : (intsP ns).length = ns.length := List.length_map _
theorem intsP_at {ns : List Int} {n : Nat} {i : Int} (h : ns[n]? = some i) : (intsP ns)[n]? = some (.int i) := by
  unfold intsP
  rw [List.getElem?_map, h]
  rfl
theorem srt_rng (n : Nat) (h : (n : Int) < 2 ^ 62) : rng1 [.p (.int n)] S = some (srcN 0 n, S) := by
  unfold rng1
  dsimp only
  rw [if_pos ⟨by omega, h⟩]
  rfl

/-- a field of the newest object is set -/
theorem setF_last {cs : List Nat} {c b : Nat} {os : List Ob} {f : Str} {v : P} {fs : List (Str × D)} (hc : cs.contains c = true) (hl : fs.length < 1000) : setFld cs f (.ref os.length) (.p v) ⟨b, os ++ [.ins c fs]⟩ = some ⟨b, os ++ [.ins c (putFD f (.p v) fs)]⟩ := by
  unfold setFld
  dsimp only
  rw [at_last b]
  dsimp only
  rw [if_pos ⟨hc, hl, rfl⟩, put_last]
theorem mapM_flds {k : Nat} {b : Nat} {S1 : SH} : ∀ (gs : List (Str × P)), (gs.map fun p => (p.1, D.p p.2)).mapM (fun p => (toP k b S1 p.2).map fun x => (p.1, x)) = some gs
  | [] => rfl
  | (f, x) :: gs => by
    rw [List.map_cons, List.mapM_cons, mapM_flds gs]
    cases k <;> rfl
/-- a new object of data comes back as data -/
theorem out_ins {k c n : Nat} {S1 : SH} {gs : List (Str × P)} (hn : k ≤ n) (e : S1.os[n]? = some (.ins c (gs.map fun p => (p.1, D.p p.2)))) : outD k S1 (.ref n) = some (.p (.ins c gs)) := by
  unfold outD
  dsimp only
  rw [if_neg (by omega)]
  unfold toP
  rw [if_neg (by omega), e]
  dsimp only
  rw [mapM_flds]
  rfl
@[simp] theorem fldsOf_p (c : Nat) (gs : List (Str × P)) : fldsOf (.p (.ins c gs)) S = some (c, gs.map fun p => (p.1, .p p.2)) := id rfl
theorem at_dMakeF {c : Nat} {init : MF} {a : MA} {σ : En} : dMake false c init a σ S = bnd (a σ S) fun xs S1 => bnd (init (.ref S1.os.length :: xs) ⟨S1.os.length, S1.os ++ [.ins c []]⟩) fun d S2 => match d with
    | .p .non => match outD S1.os.length S2 (.ref S1.os.length) with | some d' => some (d', cutS S1 S2) | none => none
    | _ => none := by
  unfold dMake
  rfl
end
end Pv
namespace Pv
open PySem PySem.Spec PyProof.Rows L2
section
variable {S : SH} {ps qs : List P} {ds : List D}
theorem setIx_ri {m : Nat} {i : Int} {v : P} (hm : S.os[m]? = some (.lst ds)) (h0 : 0 ≤ i) (h : i.toNat < ds.length) : setIx (.ref m) (.p (.int i)) (.p v) S = some (S.put m (.lst (ds.set i.toNat (.p v)))) := by
  have e : ixN ds.length i = some i.toNat := by
    unfold ixN
    rw [if_pos h0, if_pos (by omega)]
  unfold setIx
  dsimp only
  rw [hm]
  dsimp only
  rw [e]
  dsimp only
  rw [if_pos (okRef_p S m v)]
end
end Pv
/-! loops over lists that may change; loops that end early -/
namespace Pv
open PySem PySem.Spec PyProof.Rows L2
section
variable {body : MS} {ws : List Nat}
end
section
variable {body : MS} {ws : List Nat} {fin : SH → Bool} {g : MG}
end
end Pv
/-! a calculus for the computations: what holds behind them -/
namespace Pv
open PySem PySem.Spec PyProof.Rows L2
structure Tg {α : Type} (x : α) : Type where
def Ev {α : Type} (r : Option (α × SH)) (Q : α → SH → Prop) (_ : Tg Q) : Prop := ∃ a S, r = some (a, S) ∧ Q a S
def Hold (p : Prop) (_ : Tg p) : Prop := p
theorem Hold.i {p : Prop} {t : Tg p} (h : p) : Hold p t := h
/-- bnd, whose second part waits -/
def bl {α β : Type} (r : Option (α × SH)) (f : α → SH → Option (β × SH)) (_ : Tg f) : Option (β × SH) := bnd r f
def sel {α : Type} (b : Bool) (x y : α) (_ : Tg x) (_ : Tg y) : α := if b = true then x else y
def optL {α : Type} (o : Option SH) (f : SH → Option α) (_ : Tg f) : Option α := match o with
  | some S => f S
  | none => none
section
variable {α β : Type} {r : Option (α × SH)} {Q R : α → SH → Prop} {S S' : SH}
theorem bl_some (a : α) (S : SH) (f : α → SH → Option (β × SH)) (t : Tg f) : bl (some (a, S)) f t = f a S := id rfl
theorem sel_t (x y : α) (t : Tg x) (u : Tg y) : sel true x y t u = x := id rfl
theorem sel_f (x y : α) (t : Tg x) (u : Tg y) : sel false x y t u = y := id rfl
theorem optL_some (S : SH) (f : SH → Option α) (t : Tg f) : optL (some S) f t = f S := id rfl
theorem Ev.of {a : α} {t : Tg Q} (h : r = some (a, S)) (q : Q a S) : Ev r Q t := Exists.intro a (Exists.intro S ⟨h, q⟩)
theorem Ev.get {t : Tg Q} (h : Ev r Q t) : ∃ a S, r = some (a, S) ∧ Q a S := h
theorem Ev_some (a : α) (S : SH) (Q : α → SH → Prop) (t : Tg Q) : Ev (some (a, S)) Q t = Q a S := by
  refine propext ⟨fun h => ?_, fun q => Ev.of rfl q⟩
  obtain ⟨_, _, e, q⟩ := h.get
  cases e
  exact q
theorem Ev_bl (r : Option (α × SH)) (f : α → SH → Option (β × SH)) (t : Tg f) (Q : β → SH → Prop) (u : Tg Q) : Ev (bl r f t) Q u = Ev r (fun a S => Ev (f a S) Q ⟨⟩) ⟨⟩ := by
  cases r with
  | none =>
    refine propext ⟨fun h => ?_, fun h => ?_⟩
    · obtain ⟨_, _, e, q⟩ := h.get; cases e
    · obtain ⟨_, _, e, q⟩ := h.get; cases e
  | some p => obtain ⟨a, S⟩ := p; rw [bl_some, Ev_some]
theorem Ev.mono {t : Tg Q} {u : Tg R} (h : Ev r Q t) (m : ∀ a S, Q a S → R a S) : Ev r R u := let ⟨a, S, e, q⟩ := h.get; Ev.of e (m a S q)
theorem Ev.eq {a : α} {t} (h : Ev r (fun a' S' => a' = a ∧ S' = S) t) : r = some (a, S) := by
  obtain ⟨_, _, e, rfl, rfl⟩ := h.get
  exact e
theorem Ev.ex (h : Ev r (fun a' S' => R a' S' ∧ S' = S) ⟨⟩) : ∃ a, R a S ∧ r = some (a, S) := by
  obtain ⟨a, _, e, q, rfl⟩ := h.get
  exact ⟨a, q, e⟩
theorem Ev_fn {k n : Nat} {s1 : MS} {ds : List D} {Q : D → SH → Prop} {t : Tg Q} (h : ds.length = k) (e : Ev (s1 (startD n ds) ⟨S.os.length, S.os⟩) (fun f S1 => Ev (frameF S (some (f, S1))) Q ⟨⟩) ⟨⟩) : Ev (dFn k n s1 ds S) Q t := by
  rw [fn_at h]
  obtain ⟨f, S1, e1, q⟩ := e.get
  rw [e1]
  exact q
theorem Ev_fnL {k n : Nat} {s1 : MS} {ds : List D} {Q : D → SH → Prop} {t : Tg Q} (h : ds.length = k) (e : Ev (s1 (startD n ds) S) (fun f S1 => Ev (liveF (some (f, S1))) Q ⟨⟩) ⟨⟩) : Ev (dFnL k n s1 ds S) Q t := by
  rw [fnL_at h]
  obtain ⟨f, S1, e1, q⟩ := e.get
  rw [e1]
  exact q
end
/-! the combinators, read so -/
section
variable {f g : D → D → SH → Option (D × SH)} {u : D → SH → Option (D × SH)} {a b c : ME} {t t1 t2 : MT} {r : MA} {m : MF} {s1 s2 : MS} {σ : En} {S S' : SH}
theorem l_Var0 (d : D) : dVar 0 (some d :: σ) S = some (d, S) := id rfl
theorem l_VarS (n : Nat) (x : Option D) : dVar (n + 1) (x :: σ) S = dVar n σ S := id rfl
theorem l_Op : dOp f a b σ S = bl (a σ S) (fun x S1 => bl (b σ S1) (fun y S2 => f x y S2) ⟨⟩) ⟨⟩ := id rfl
theorem l_Un : dUn u a σ S = bl (a σ S) (fun x S1 => u x S1) ⟨⟩ := id rfl
theorem l_Test : dTest a σ S = bl (a σ S) toB ⟨⟩ := id rfl
theorem l_And : dAnd t1 t2 σ S = bl (t1 σ S) (fun t S1 => sel t (t2 σ S1) (some (false, S1)) ⟨⟩ ⟨⟩) ⟨⟩ := id rfl
theorem l_Or : dOr t1 t2 σ S = bl (t1 σ S) (fun t S1 => sel t (some (true, S1)) (t2 σ S1) ⟨⟩ ⟨⟩) ⟨⟩ := id rfl
theorem l_Not : dNot t σ S = bl (t σ S) (fun x S1 => some (!x, S1)) ⟨⟩ := id rfl
theorem l_NotV : dNotV a σ S = bl (a σ S) (fun d S1 => bl (toB d S1) (fun t S2 => some (.p (.bl (!t)), S2)) ⟨⟩) ⟨⟩ := id rfl
theorem l_AndV : dAndV a b σ S = bl (a σ S) (fun d S1 => bl (toB d S1) (fun t S2 => sel t (b σ S2) (some (.p (.bl false), S2)) ⟨⟩ ⟨⟩) ⟨⟩) ⟨⟩ := id rfl
theorem l_OrV : dOrV a b σ S = bl (a σ S) (fun d S1 => bl (toB d S1) (fun t S2 => sel t (some (.p (.bl true), S2)) (b σ S2) ⟨⟩ ⟨⟩) ⟨⟩) ⟨⟩ := id rfl
theorem l_IfE : dIfE t a b σ S = bl (t σ S) (fun t S1 => sel t (a σ S1) (b σ S1) ⟨⟩ ⟨⟩) ⟨⟩ := id rfl
theorem l_Cons : dCons a r σ S = bl (a σ S) (fun x S1 => bl (r σ S1) (fun xs S2 => some (x :: xs, S2)) ⟨⟩) ⟨⟩ := id rfl
theorem l_Call : dCall m r σ S = bl (r σ S) (fun xs S1 => m xs S1) ⟨⟩ := id rfl
theorem l_Seq : dSeq s1 s2 σ S = bl (s1 σ S) (seqK s2) ⟨⟩ := at_dSeq
theorem l_Drop : dDrop a σ S = bl (a σ S) (fun _ S1 => some (.nx σ, S1)) ⟨⟩ := id rfl
theorem l_Ret : dRet a σ S = bl (a σ S) (fun d S1 => some (.ret d, S1)) ⟨⟩ := id rfl
theorem l_If : dIf t s1 s2 σ S = bl (t σ S) (fun t S1 => sel t (s1 σ S1) (s2 σ S1) ⟨⟩ ⟨⟩) ⟨⟩ := id rfl
theorem l_Set (i : Nat) : dSet i a σ S = bl (a σ S) (fun d S1 => some (.nx (σ.set i (some d)), S1)) ⟨⟩ := id rfl
theorem l_Tup : dTup r σ S = bl (r σ S) (fun ds S1 => newT ds S1) ⟨⟩ := id rfl
theorem l_Lst (live : Bool) : dLst live r σ S = bl (r σ S) (fun ds S1 => newL live ds S1) ⟨⟩ := id rfl
theorem l_Tru : dTru a σ S = bl (a σ S) truD ⟨⟩ := id rfl
theorem l_Chain : dChain f g a b c σ S = bl (a σ S) (fun x S1 => bl (b σ S1) (fun y S2 => bl (f x y S2) (fun z S3 => bl (toB z S3) (fun t S4 => sel t (bl (c σ S4) (fun w S5 => g y w S5) ⟨⟩) (some (.p (.bl false), S4)) ⟨⟩ ⟨⟩) ⟨⟩) ⟨⟩) ⟨⟩) ⟨⟩ := id rfl
def methL (k : Nat) (nm : Str) (m : MF) (r : MA) (σ : En) (d : D) (S1 : SH) : Option (D × SH) := match fldsOf d S1 with
  | some (c', fs) => if c' = k ∧ fs.lookup nm = none then bnd (r σ S1) fun xs S2 => m (d :: xs) S2 else none
  | none => none
theorem l_Meth (k : Nat) (nm : Str) : dMeth k nm m a r σ S = bl (a σ S) (fun d S1 => methL k nm m r σ d S1) ⟨⟩ := id rfl
theorem l_BM (T : String) : dBM T m a r σ S = bl (a σ S) (fun d S1 => sel (isTy T d S1) (bl (r σ S1) (fun ds S2 => m (d :: ds) S2) ⟨⟩) none ⟨⟩ ⟨⟩) ⟨⟩ := id rfl
theorem l_Asg {gg : MG} : dAsg a gg σ S = bl (a σ S) (fun d S1 => bl (gg d σ S1) (fun σ2 S2 => some (.nx σ2, S2)) ⟨⟩) ⟨⟩ := id rfl
theorem l_gSb (d : D) : gSb a b d σ S = bl (a σ S) (fun x S1 => bl (b σ S1) (fun y S2 => optL (setIx x y d S2) (fun S3 => some (σ, S3)) ⟨⟩) ⟨⟩) ⟨⟩ := id rfl
theorem l_gCn {g1 : MG} {g2 : MGs} (d : D) (ds : List D) : gCn g1 g2 (d :: ds) σ S = bl (g1 d σ S) (fun σ1 S1 => g2 ds σ1 S1) ⟨⟩ := id rfl
theorem gT0 {g2 : MGs} : gTp 0 g2 (.p (.tup [])) σ S = g2 [] σ S := id rfl
theorem gT1 {g2 : MGs} (a : P) : gTp 1 g2 (.p (.tup [a])) σ S = g2 [.p a] σ S := id rfl
theorem gT2 {g2 : MGs} (a b : P) : gTp 2 g2 (.p (.tup [a, b])) σ S = g2 [.p a, .p b] σ S := id rfl
theorem gT3 {g2 : MGs} (a b c : P) : gTp 3 g2 (.p (.tup [a, b, c])) σ S = g2 [.p a, .p b, .p c] σ S := id rfl
theorem gT4 {g2 : MGs} (a b c d : P) : gTp 4 g2 (.p (.tup [a, b, c, d])) σ S = g2 [.p a, .p b, .p c, .p d] σ S := id rfl
theorem l_For (ws : List Nat) {mi : MI} {gg : MG} : dFor ws mi gg s1 σ S = bl (mi σ S) (fun src S1 => forL ws src.fin gg s1 src.items (wipeD ws σ) S1) ⟨⟩ := id rfl
theorem l_Comp (live : Bool) {mi : MI} {gg : MG} (vs : List Nat) : dComp live mi gg t a vs σ S = bl (mi σ S) (fun src S1 => bl (compL src.fin gg t a (wipeD vs σ) src.items [] S1) (fun ds S2 => newL live ds S2) ⟨⟩) ⟨⟩ := id rfl
theorem l_It : dIt a σ S = bl (a σ S) srcOf ⟨⟩ := id rfl
theorem l_Rng1 : dRng1 r σ S = bl (r σ S) rng1 ⟨⟩ := id rfl
theorem l_Rng2 : dRng2 r σ S = bl (r σ S) rng2 ⟨⟩ := id rfl
theorem l_SetF {cs : List Nat} {f : Str} : dSetF cs f a b σ S = bl (b σ S) (fun y S1 => bl (a σ S1) (fun x S2 => optL (setFld cs f x y S2) (fun S3 => some (.nx σ, S3)) ⟨⟩) ⟨⟩) ⟨⟩ := id rfl
def slK (f : Int → SH → Option (D × SH)) : D → SH → Option (D × SH)
  | .p (.int i), S => f i S
  | _, _ => none
theorem slK_i (f : Int → SH → Option (D × SH)) (i : Int) : slK f (.p (.int i)) S = f i S := id rfl
theorem l_SlN (live : Bool) : dSl live a none none σ S = bl (a σ S) (fun d S1 => fSl live d none none S1) ⟨⟩ := id rfl
theorem l_SlH (live : Bool) : dSl live a none (some b) σ S = bl (a σ S) (fun d S1 => bl (b σ S1) (slK fun i T => fSl live d none (some i) T) ⟨⟩) ⟨⟩ := by
  show bnd (a σ S) _ = bnd (a σ S) _
  congr 1
  funext d S1
  show bnd (bnd (b σ S1) _) _ = _
  cases b σ S1 with
  | none => rfl
  | some q =>
    obtain ⟨y, T⟩ := q
    cases y with
    | ref n => rfl
    | p y => cases y <;> rfl
theorem l_SlL (live : Bool) : dSl live a (some b) none σ S = bl (a σ S) (fun d S1 => bl (b σ S1) (slK fun i T => fSl live d (some i) none T) ⟨⟩) ⟨⟩ := by
  show bnd (a σ S) _ = bnd (a σ S) _
  congr 1
  funext d S1
  show bnd (bnd (b σ S1) _) _ = _
  cases b σ S1 with
  | none => rfl
  | some q =>
    obtain ⟨y, T⟩ := q
    cases y with
    | ref n => rfl
    | p y => cases y <;> rfl
theorem l_SlB (live : Bool) : dSl live a (some b) (some c) σ S = bl (a σ S) (fun d S1 => bl (b σ S1) (slK fun i T => bl (c σ T) (slK fun j T2 => fSl live d (some i) (some j) T2) ⟨⟩) ⟨⟩) ⟨⟩ := by
  show bnd (a σ S) _ = bnd (a σ S) _
  congr 1
  funext d S1
  show bnd (bnd (b σ S1) _) _ = _
  cases b σ S1 with
  | none => rfl
  | some q =>
    obtain ⟨y, T⟩ := q
    cases y with
    | ref n => rfl
    | p y =>
      cases y <;> first | rfl | skip
      show bnd (bnd (c σ T) _) _ = bl (c σ T) _ ⟨⟩
      cases c σ T with
      | none => rfl
      | some q =>
        obtain ⟨y, T⟩ := q
        cases y with
        | ref n => rfl
        | p y => cases y <;> rfl
theorem l_Wh {ws : List Nat} {f : Nat} : dWhile ws f t s1 σ S = whL ws t s1 f (wipeD ws σ) S := id rfl
end
/-- behind a turn -/
def stepQ (ws : List Nat) (A : En → SH → Prop) (Q : Fl → SH → Prop) : Fl → SH → Prop
  | .nx σ2, S2 => Hold (A (wipeD ws σ2) S2) ⟨⟩
  | .ct σ2, S2 => Hold (A (wipeD ws σ2) S2) ⟨⟩
  | .brk σ2, S2 => Q (.nx (wipeD ws σ2)) S2
  | .ret d, S2 => Q (.ret d) S2
section
variable {ws : List Nat} {A : En → SH → Prop} {Q : Fl → SH → Prop} {S : SH} {body : MS} {g : MG} {fin : SH → Bool}
theorem stepQ_nx (σ : En) : stepQ ws A Q (.nx σ) S = Hold (A (wipeD ws σ) S) ⟨⟩ := id rfl
theorem stepQ_ct (σ : En) : stepQ ws A Q (.ct σ) S = Hold (A (wipeD ws σ) S) ⟨⟩ := id rfl
theorem stepQ_brk (σ : En) : stepQ ws A Q (.brk σ) S = Q (.nx (wipeD ws σ)) S := id rfl
theorem stepQ_ret (d : D) : stepQ ws A Q (.ret d) S = Q (.ret d) S := id rfl
theorem Ev_forL (J : Nat → En → SH → Prop) : ∀ (items : List (SH → Option D)) (k : Nat) (σ : En) (S : SH), J k σ S → (∀ σ S, J (k + items.length) σ S → fin S = true ∧ Q (.nx σ) S) →
    (∀ i it σ S, items[i]? = some it → J (k + i) σ S → ∃ d σ1 S1, it S = some d ∧ g d σ S = some (σ1, S1) ∧ Ev (body σ1 S1) (stepQ ws (J (k + i + 1)) Q) ⟨⟩) →
    Ev (forL ws fin g body items σ S) Q ⟨⟩
  | [], k, σ, S, hj, hf, _ => by
    obtain ⟨h1, h2⟩ := hf σ S hj
    rw [forL, if_pos h1, Ev_some]
    exact h2
  | it :: items, k, σ, S, hj, hf, h => by
    obtain ⟨d, σ1, S1, h1, h2, e⟩ := h 0 it σ S rfl hj
    obtain ⟨f, S2, h3, h4⟩ := e.get
    have e : k + (it :: items).length = (k + 1) + items.length := by rw [List.length_cons]; omega
    rw [e] at hf
    have ih := fun σ S hj => Ev_forL J items (k + 1) σ S hj hf fun i it' σ S hi hj => by
      have e2 : k + 1 + i = k + (i + 1) := by omega
      rw [e2] at hj ⊢
      exact h (i + 1) it' σ S (by simpa using hi) hj
    rw [forL, h1]
    dsimp only
    rw [h2, bnd_some, h3, bnd_some]
    cases f with
    | nx σ2 => exact ih _ _ h4
    | ct σ2 => exact ih _ _ h4
    | brk σ2 => exact Ev.of rfl h4
    | ret d => exact Ev.of rfl h4
/-- a loop over a range from 0 -/
theorem Ev_rng {n j : Nat} {σ : En} (J : Nat → En → SH → Prop) (h0 : J 0 σ S)
    (hs : ∀ (i : Nat) σ S, i < n → J i σ S → Ev (body (σ.set j (some (.p (.int (i : Int))))) S) (stepQ ws (J (i + 1)) Q) ⟨⟩)
    (he : ∀ σ S, J n σ S → Q (.nx σ) S) : Ev (forL ws (srcN 0 n).fin (gNm j) body (srcN 0 n).items σ S) Q ⟨⟩ := by
  have hl : (srcN 0 n).items.length = n := by simp [srcN]
  refine Ev_forL J (srcN 0 n).items 0 σ S h0 (fun σ S hj => ⟨rfl, he σ S ?_⟩) fun i it σ S hi hj => ?_
  · rw [hl, Nat.zero_add] at hj; exact hj
  · simp only [srcN, List.getElem?_map] at hi
    cases e : (List.range n)[i]? with
    | none => rw [e] at hi; cases hi
    | some i' =>
      rw [e] at hi
      cases hi
      obtain ⟨h1, h2⟩ := List.getElem?_eq_some_iff.mp e
      rw [List.getElem_range] at h2
      subst h2
      rw [List.length_range] at h1
      rw [Nat.zero_add] at hj ⊢
      have q := hs i σ S h1 hj
      rw [← Int.zero_add (i : Int)] at q
      exact ⟨_, _, _, rfl, rfl, q⟩
/-- a loop over a list of data -/
theorem Ev_p {α : Type} {f : α → P} {xs : List α} {σ : En} (J : Nat → En → SH → Prop) (h0 : J 0 σ S)
    (hs : ∀ (i : Nat) x σ S, xs[i]? = some x → J i σ S → ∃ σ1, g (.p (f x)) σ S = some (σ1, S) ∧ Ev (body σ1 S) (stepQ ws (J (i + 1)) Q) ⟨⟩)
    (he : ∀ σ S, J xs.length σ S → Q (.nx σ) S) : Ev (forL ws (srcP (xs.map f)).fin g body (srcP (xs.map f)).items σ S) Q ⟨⟩ := by
  have hl : (srcP (xs.map f)).items.length = xs.length := by simp [srcP]
  refine Ev_forL J (srcP (xs.map f)).items 0 σ S h0 (fun σ S hj => ⟨rfl, he σ S ?_⟩) fun i it σ S hi hj => ?_
  · rw [hl, Nat.zero_add] at hj; exact hj
  · simp only [srcP, List.getElem?_map] at hi
    cases e : xs[i]? with
    | none => rw [e] at hi; cases hi
    | some x =>
      rw [e] at hi
      cases hi
      rw [Nat.zero_add] at hj ⊢
      obtain ⟨σ1, h1, q⟩ := hs i x σ S e hj
      exact ⟨_, σ1, S, rfl, h1, q⟩
/-- .. by a plain name -/
theorem Ev_pn {α : Type} {f : α → P} {xs : List α} {σ : En} {j : Nat} (J : Nat → En → SH → Prop) (h0 : J 0 σ S)
    (hs : ∀ (i : Nat) x σ S, xs[i]? = some x → J i σ S → Ev (body (σ.set j (some (.p (f x)))) S) (stepQ ws (J (i + 1)) Q) ⟨⟩)
    (he : ∀ σ S, J xs.length σ S → Q (.nx σ) S) : Ev (forL ws (srcP (xs.map f)).fin (gNm j) body (srcP (xs.map f)).items σ S) Q ⟨⟩ :=
  Ev_p J h0 (fun i x σ S h hj => ⟨_, rfl, hs i x σ S h hj⟩) he
/-- while -/
theorem Ev_wh {t : MT} (J : Nat → En → SH → Prop) : ∀ (fuel n : Nat) (σ : En) (S : SH), n < fuel → J n σ S →
    (∀ n σ S, J n σ S → Ev (t σ S) (fun b S1 => sel b (Ev (body σ S1) (stepQ ws (fun σ2 S2 => ∃ m, m < n ∧ J m σ2 S2) Q) ⟨⟩) (Q (.nx σ) S1) ⟨⟩ ⟨⟩) ⟨⟩) →
    Ev (whL ws t body fuel σ S) Q ⟨⟩
  | 0, _, _, _, h, _, _ => absurd h (Nat.not_lt_zero _)
  | fuel + 1, n, σ, S, hn, hj, hs => by
    obtain ⟨b, S1, h1, h2⟩ := (hs n σ S hj).get
    rw [whL, h1, bnd_some]
    cases b with
    | false => exact Ev.of rfl h2
    | true =>
      obtain ⟨f, S2, h3, h4⟩ := Ev.get (t := ⟨⟩) h2
      rw [if_pos rfl, h3, bnd_some]
      have ih := fun σ2 (h : ∃ m, m < n ∧ J m σ2 S2) => let ⟨m, hm, q⟩ := h; Ev_wh J fuel m σ2 S2 (by omega) q hs
      cases f with
      | nx σ2 => exact ih _ h4
      | ct σ2 => exact ih _ h4
      | brk σ2 => exact Ev.of rfl h4
      | ret d => exact Ev.of rfl h4
end
/-! comprehensions that change nothing -/
section
variable {σ : En} {S : SH} {j : Nat} {t : MT} {elt : ME} {g : MG} {Q : List D → SH → Prop}
theorem Ev_cp {α : Type} {f : α → P} {xs : List α} (fs : α → Bool) (fv : α → D) (hl : xs.length ≤ sizeLine)
    (h : ∀ x ∈ xs, ∃ σ1, g (.p (f x)) σ S = some (σ1, S) ∧ Ev (t σ1 S) (fun b S' => b = fs x ∧ S' = S) ⟨⟩ ∧ (fs x = true → Ev (elt σ1 S) (fun d S' => d = fv x ∧ S' = S) ⟨⟩))
    (q : Q ((xs.filter fs).map fv) S) : Ev (compL (srcP (xs.map f)).fin g t elt σ (srcP (xs.map f)).items [] S) Q ⟨⟩ := by
  have z := comp_all (t := t) (elt := elt) (g := g) (fin := (srcP (xs.map f)).fin) (S := S) (σ := σ) fs fv (fun x _ => some (D.p (f x))) rfl xs [] (by simpa using hl) fun x hx => by
    obtain ⟨σ1, h1, h2, h3⟩ := h x hx
    exact ⟨_, σ1, rfl, h1, h2.eq, fun c => (h3 c).eq⟩
  rw [List.nil_append] at z
  have e : (srcP (xs.map f)).items = xs.map fun (x : α) (_ : SH) => some (D.p (f x)) := by simp [srcP]
  rw [← e] at z
  exact Ev.of z q
/-- .. without an if, by a plain name -/
theorem Ev_cpn {α : Type} {f : α → P} {xs : List α} (fv : α → D) (hl : xs.length ≤ sizeLine)
    (h : ∀ x ∈ xs, Ev (elt (σ.set j (some (.p (f x)))) S) (fun d S' => d = fv x ∧ S' = S) ⟨⟩)
    (q : Q (xs.map fv) S) : Ev (compL (srcP (xs.map f)).fin (gNm j) dYes elt σ (srcP (xs.map f)).items [] S) Q ⟨⟩ :=
  Ev_cp (fun _ => true) fv hl (fun x hx => ⟨_, rfl, Ev.of rfl ⟨rfl, rfl⟩, fun _ => h x hx⟩) (by rw [List.filter_eq_self.mpr fun _ _ => rfl]; exact q)
/-- .. with an if, by a plain name -/
theorem Ev_cpf {α : Type} {f : α → P} {xs : List α} (fs : α → Bool) (fv : α → D) (hl : xs.length ≤ sizeLine)
    (h : ∀ x ∈ xs, Ev (t (σ.set j (some (.p (f x)))) S) (fun b S' => b = fs x ∧ S' = S) ⟨⟩ ∧ (fs x = true → Ev (elt (σ.set j (some (.p (f x)))) S) (fun d S' => d = fv x ∧ S' = S) ⟨⟩))
    (q : Q ((xs.filter fs).map fv) S) : Ev (compL (srcP (xs.map f)).fin (gNm j) t elt σ (srcP (xs.map f)).items [] S) Q ⟨⟩ :=
  Ev_cp fs fv hl (fun x hx => ⟨_, rfl, h x hx⟩) q
end
/-! new tuples and lists of data -/
theorem line_sm {n : Nat} (h : n ≤ 1000) : n ≤ sizeLine := Nat.le_trans h (Nat.le_trans (by decide : 1000 ≤ 1000000) line_ge)
section
variable (a b c d e f : P) (S : SH)
theorem newT0 : newT [] S = some (.p (.tup []), S) := newT_p (S := S) [] (line_sm (by simp))
theorem newT1 : newT [.p a] S = some (.p (.tup [a]), S) := newT_p (S := S) [a] (line_sm (by simp))
theorem newT2 : newT [.p a, .p b] S = some (.p (.tup [a, b]), S) := newT_p (S := S) [a, b] (line_sm (by simp))
theorem newT3 : newT [.p a, .p b, .p c] S = some (.p (.tup [a, b, c]), S) := newT_p (S := S) [a, b, c] (line_sm (by simp))
theorem newT4 : newT [.p a, .p b, .p c, .p d] S = some (.p (.tup [a, b, c, d]), S) := newT_p (S := S) [a, b, c, d] (line_sm (by simp))
theorem newT5 : newT [.p a, .p b, .p c, .p d, .p e] S = some (.p (.tup [a, b, c, d, e]), S) := newT_p (S := S) [a, b, c, d, e] (line_sm (by simp))
theorem newT6 : newT [.p a, .p b, .p c, .p d, .p e, .p f] S = some (.p (.tup [a, b, c, d, e, f]), S) := newT_p (S := S) [a, b, c, d, e, f] (line_sm (by simp))
theorem newL0 : newL false [] S = some (.p (.lst []), S) := newL_f (S := S) [] (line_sm (by simp))
theorem newL1 : newL false [.p a] S = some (.p (.lst [a]), S) := newL_f (S := S) [a] (line_sm (by simp))
theorem newL2 : newL false [.p a, .p b] S = some (.p (.lst [a, b]), S) := newL_f (S := S) [a, b] (line_sm (by simp))
theorem newL3 : newL false [.p a, .p b, .p c] S = some (.p (.lst [a, b, c]), S) := newL_f (S := S) [a, b, c] (line_sm (by simp))
theorem newL4 : newL false [.p a, .p b, .p c, .p d] S = some (.p (.lst [a, b, c, d]), S) := newL_f (S := S) [a, b, c, d] (line_sm (by simp))
theorem newL5 : newL false [.p a, .p b, .p c, .p d, .p e] S = some (.p (.lst [a, b, c, d, e]), S) := newL_f (S := S) [a, b, c, d, e] (line_sm (by simp))
theorem newL6 : newL false [.p a, .p b, .p c, .p d, .p e, .p f] S = some (.p (.lst [a, b, c, d, e, f]), S) := newL_f (S := S) [a, b, c, d, e, f] (line_sm (by simp))
theorem src_l (ps : List P) : srcOf (.p (.lst ps)) S = some (srcP ps, S) := id rfl
theorem src_t (ps : List P) : srcOf (.p (.tup ps)) S = some (srcP ps, S) := id rfl
theorem newM {α : Type} (f : α → P) (xs : List α) (h : xs.length ≤ sizeLine) : newL false (xs.map fun x => .p (f x)) S = some (.p (.lst (xs.map f)), S) := by
  have e : (xs.map fun x => D.p (f x)) = (xs.map f).map D.p := by rw [List.map_map]; rfl
  rw [e]
  exact newL_f _ (by rw [List.length_map]; exact h)
end
theorem fSub_i (i j : Int) (S : SH) : fSub (.p (.int i)) (.p (.int j)) S = some (.p (.int (i - j)), S) := id rfl
theorem fLt_i (i j : Int) (S : SH) : fLt (.p (.int i)) (.p (.int j)) S = some (.p (.bl (decide (i < j))), S) := id rfl
theorem fLe_i (i j : Int) (S : SH) : fLe (.p (.int i)) (.p (.int j)) S = some (.p (.bl (decide (i ≤ j))), S) := id rfl
theorem fGt_i (i j : Int) (S : SH) : fGt (.p (.int i)) (.p (.int j)) S = some (.p (.bl (decide (j < i))), S) := id rfl
theorem fGe_i (i j : Int) (S : SH) : fGe (.p (.int i)) (.p (.int j)) S = some (.p (.bl (decide (j ≤ i))), S) := id rfl
theorem fMod_i {i j : Int} (h : 0 < j) (S : SH) : fMod (.p (.int i)) (.p (.int j)) S = some (.p (.int (i % j)), S) := (fII_eq _ _ _ _ S).trans (if_pos (decide_eq_true h))
theorem fDiv_i {i j : Int} (h : 0 < j) (h2 : j < 1000000) (S : SH) : fDiv (.p (.int i)) (.p (.int j)) S = some (.p (.int (i / j)), S) := (fII_eq _ _ _ _ S).trans (if_pos (divOk_c h (by omega)))
theorem fMul_li {i j : Int} (h : i.natAbs < 1000000) (S : SH) : fMul (.p (.int i)) (.p (.int j)) S = some (.p (.int (i * j)), S) := (fII_eq _ _ _ _ S).trans (if_pos (mulOk_l (by omega)))
theorem fMul_ri {i j : Int} (h : j.natAbs < 1000000) (S : SH) : fMul (.p (.int i)) (.p (.int j)) S = some (.p (.int (i * j)), S) := (fII_eq _ _ _ _ S).trans (if_pos (mulOk_r (by omega)))
theorem mull2 (i : Int) (S : SH) : fMul (.p (.int 2)) (.p (.int i)) S = some (.p (.int (2 * i)), S) := fMul_li (by decide) S
theorem is_non (neg : Bool) (d : D) (S : SH) : fIs neg d (.p .non) S = some (.p (.bl (if neg = true then !isNon d else isNon d)), S) := id rfl
theorem isNon_ref (n : Nat) : isNon (.ref n) = false := id rfl
theorem isNon_non : isNon (.p .non) = true := id rfl
theorem isNon_int (i : Int) : isNon (.p (.int i)) = false := id rfl
theorem isNon_str (i : Str) : isNon (.p (.str i)) = false := id rfl
theorem isNon_bl (i : Bool) : isNon (.p (.bl i)) = false := id rfl
theorem isNon_tup (ps : List P) : isNon (.p (.tup ps)) = false := id rfl
theorem isNon_lst (ps : List P) : isNon (.p (.lst ps)) = false := id rfl
theorem isNon_ins (c : Nat) (fs : List (Str × P)) : isNon (.p (.ins c fs)) = false := id rfl
theorem truD_b (b : Bool) (S : SH) : truD (.p (.bl b)) S = some (b, S) := id rfl
theorem startD_c (n : Nat) (d : D) (ds : List D) : startD (n + 1) (d :: ds) = some d :: startD n ds := by
  unfold startD
  rw [List.map_cons, List.length_cons, Nat.add_sub_add_right]
  rfl
theorem startD_n (n : Nat) : startD (n + 1) [] = none :: startD n [] := by
  unfold startD
  rw [List.length_nil, Nat.sub_zero, Nat.sub_zero, List.replicate_succ]
  rfl
theorem startD_z : startD 0 [] = [] := id rfl
/-- a def without loops of its own, by name: m = dFn .. -/
theorem fn_eq {m : MF} {k n : Nat} {s1 : MS} {ds : List D} {S S' : SH} {d : D} (hm : m = dFn k n s1) (h : ds.length = k) (e : Ev (s1 (startD n ds) ⟨S.os.length, S.os⟩) (fun f S1 => Ev (frameF S (some (f, S1))) (fun a' S2 => a' = d ∧ S2 = S') ⟨⟩) ⟨⟩) : m ds S = some (d, S') := by
  subst hm
  exact Ev.eq (t := ⟨⟩) (Ev_fn h e)
/-- a loop that looks for the first -/
def fndQ (ws : List Nat) (σ : En) (S : SH) : Option D → Fl → SH → Prop
  | none, .nx σ2, S2 => wipeD ws σ2 = σ ∧ S2 = S
  | none, .ct σ2, S2 => wipeD ws σ2 = σ ∧ S2 = S
  | some r, .ret d, S2 => d = r ∧ S2 = S
  | _, _, _ => False
section
variable {ws : List Nat} {Q : Fl → SH → Prop} {S T : SH} {body : MS} {g : MG} {fin : SH → Bool} {σ : En}
theorem fndQ_nx (σ2 : En) : fndQ ws σ S none (.nx σ2) T = (wipeD ws σ2 = σ ∧ T = S) := id rfl
theorem fndQ_ct (σ2 : En) : fndQ ws σ S none (.ct σ2) T = (wipeD ws σ2 = σ ∧ T = S) := id rfl
theorem fndQ_ret (r d : D) : fndQ ws σ S (some r) (.ret d) T = (d = r ∧ T = S) := id rfl
def endQ (Q : Fl → SH → Prop) (σ : En) (S : SH) : Option D → Prop
  | none => Q (.nx σ) S
  | some r => Q (.ret r) S
theorem endQ_none : endQ Q σ S none = Q (.nx σ) S := id rfl
theorem endQ_some (r : D) : endQ Q σ S (some r) = Q (.ret r) S := id rfl
end
theorem fn_ev {m : MF} {k n : Nat} {s1 : MS} {ds : List D} {S : SH} {Q : D → SH → Prop} (hm : m = dFn k n s1) (h : ds.length = k) (e : Ev (s1 (startD n ds) ⟨S.os.length, S.os⟩) (fun f S1 => Ev (frameF S (some (f, S1))) Q ⟨⟩) ⟨⟩) : Ev (m ds S) Q ⟨⟩ := by
  subst hm
  exact Ev_fn h e
theorem cutD_map {α β : Type} (f : α → β) (xs : List α) (lo hi : Option Int) : cutD (xs.map f) lo hi = (cutD xs lo hi).map f := by
  unfold cutD
  rw [List.length_map, List.map_take, List.map_drop]
theorem cutD_len {α : Type} (xs : List α) (lo hi : Option Int) : (cutD xs lo hi).length ≤ xs.length := by
  unfold cutD
  rw [List.length_take, List.length_drop]
  omega
theorem fSl_r {n : Nat} {S : SH} {ps : List P} (h : S.os[n]? = some (.lst (ps.map D.p))) (hl : ps.length ≤ 1000) (lo hi : Option Int) : fSl false (.ref n) lo hi S = some (.p (.lst (cutD ps lo hi)), S) := by
  have e : asL (.ref n) S = some (ps.map D.p) := by unfold asL; dsimp only; rw [h]
  show (match asL (.ref n) S with | some xs => newL false (cutD xs lo hi) S | none => none) = _
  rw [e]
  dsimp only
  rw [cutD_map]
  exact newL_f _ (line_sm (Nat.le_trans (cutD_len _ _ _) hl))
theorem fSl_l {S : SH} {ps : List P} (hl : ps.length ≤ 1000) (lo hi : Option Int) : fSl false (.p (.lst ps)) lo hi S = some (.p (.lst (cutD ps lo hi)), S) := by
  show (match asL (.p (.lst ps)) S with | some xs => newL false (cutD xs lo hi) S | none => none) = _
  rw [asL_l]
  dsimp only
  rw [cutD_map]
  exact newL_f _ (line_sm (Nat.le_trans (cutD_len _ _ _) hl))
theorem fAdd_ll (live : Bool) (ps qs : List P) (S : SH) : fAdd live (.p (.lst ps)) (.p (.lst qs)) S = newL live ((ps ++ qs).map D.p) S := by
  show (match asL (.p (.lst ps)) S, asL (.p (.lst qs)) S with | some a, some b => newL live (a ++ b) S | _, _ => none) = _
  rw [asL_l, asL_l]
  dsimp only
  rw [List.map_append]
end Pv
/-! dicts, read so -/
namespace Pv
open PySem PySem.Spec PyProof.Rows L2
section
variable {f : MF} {o i v a : ME} {r : MA} {m : MF} {σ : En} {S : SH} {mi : MI} {g : MG} {t : MT}
theorem l_NNew : dNNew true σ S = some (.ref S.os.length, ⟨S.b, S.os ++ [.dT []]⟩) := id rfl
theorem l_NPut : dNPut o i v σ S = bl (v σ S) (fun y S1 => bl (o σ S1) (fun d S2 => bl (i σ S2) (fun e S3 => optL (putN d e y S3) (fun S4 => some (.nx σ, S4)) ⟨⟩) ⟨⟩) ⟨⟩) ⟨⟩ := id rfl
theorem l_NM : dNM f o r σ S = bl (o σ S) (fun d S1 => sel (isN d S1) (bl (r σ S1) (fun ds S2 => f (d :: ds) S2) ⟨⟩) none ⟨⟩ ⟨⟩) ⟨⟩ := id rfl
theorem l_DComp (live : Bool) {kx vx : ME} (ws : List Nat) : dDComp live mi g t kx vx ws σ S = bl (mi σ S) (fun src S1 => bl (dcL src.fin g t kx vx (wipeD ws σ) src.items [] S1) (fun kvs S2 => newD live kvs S2) ⟨⟩) ⟨⟩ := id rfl
theorem l_newD (kvs : List (P × D)) : newD true kvs S = some (.ref S.os.length, ⟨S.b, S.os ++ [.dT kvs]⟩) := id rfl
theorem l_Enum : denumerate a σ S = bl (a σ S) enum1 ⟨⟩ := id rfl
theorem l_SortK (live : Bool) : dSortK live m a σ S = bl (a σ S) (fun d S1 => sortK live m d S1) ⟨⟩ := id rfl
theorem l_Comp2 (live : Bool) {m1 : MI} {g1 : MG} {t1 : MT} {e : ME} (vs ws : List Nat) : dComp2 live mi g t m1 g1 t1 e vs ws σ S = bl (mi σ S) (fun src S1 => bl (compL2 src.fin g t m1 g1 t1 e ws (wipeD vs σ) src.items [] S1) (fun ds S2 => newL live ds S2) ⟨⟩) ⟨⟩ := id rfl
end
/-! a loop over a range from lo -/
/-! dicts by pairs of naturals -/
def k2 (a n : Nat) : NestedKey := .tup [.num (a : Int), .num (n : Int)]
def n2 (a n : Nat) : P := .tup [.int (a : Int), .int (n : Int)]
section
variable {α : Type} (fa fn : α → Nat)
theorem isN_p {kvs : List (P × P)} (S : SH) : isN (.p (.dT kvs)) S = true := id rfl
end
theorem at_lst (b : Nat) (os : List Ob) (x y : Ob) : (SH.mk b (os ++ [x, y])).os[os.length + 1]? = some y := by simp
end Pv
namespace Pv
open PySem PySem.Spec PyProof.Rows L2
def evT := And.intro (And.intro (And.intro (And.intro (And.intro (And.intro (@Ev_bl) (And.intro (@Ev_some) (@bl_some))) (And.intro (And.intro (@sel_t) (@sel_f)) (And.intro (@optL_some) (@at_dC)))) (And.intro (And.intro (@l_Var0) (And.intro (@l_VarS) (@l_Op))) (And.intro (And.intro (@l_Un) (@l_Test)) (And.intro (@l_And) (@l_Or))))) (And.intro (And.intro (And.intro (@l_Not) (And.intro (@l_NotV) (@l_AndV))) (And.intro (And.intro (@l_OrV) (@l_IfE)) (And.intro (@at_dNil) (@l_Cons)))) (And.intro (And.intro (@l_Call) (And.intro (@at_dNx) (@l_Seq))) (And.intro (And.intro (@seqK_nx) (@seqK_ret)) (And.intro (@seqK_brk) (@seqK_ct)))))) (And.intro (And.intro (And.intro (And.intro (@at_dBrk) (And.intro (@at_dCt) (@l_Drop))) (And.intro (And.intro (@l_Ret) (@at_dRetN)) (And.intro (@l_If) (@l_Set)))) (And.intro (And.intro (@l_Tup) (And.intro (@l_Lst) (@at_dYes))) (And.intro (And.intro (@l_Tru) (@l_Chain)) (And.intro (@l_Meth) (@l_BM))))) (And.intro (And.intro (And.intro (@at_gNm) (And.intro (@l_Asg) (@l_gSb))) (And.intro (And.intro (@at_gNl) (@l_gCn)) (And.intro (@gT0) (@gT1)))) (And.intro (And.intro (And.intro (@gT2) (@gT3)) (And.intro (@gT4) (@l_For))) (And.intro (And.intro (@l_Wh) (@l_Comp)) (And.intro (@l_It) (@l_Rng1))))))) (And.intro (And.intro (And.intro (And.intro (And.intro (@l_Rng2) (And.intro (@l_SetF) (@l_SlN))) (And.intro (And.intro (@l_SlH) (@l_SlL)) (And.intro (@l_SlB) (@slK_i)))) (And.intro (And.intro (@toB_p) (And.intro (@truD_b) (@stepQ_nx))) (And.intro (And.intro (@stepQ_ct) (@stepQ_brk)) (And.intro (@stepQ_ret) (@frame_p))))) (And.intro (And.intro (And.intro (@frame_nx) (And.intro (@live_ret) (@live_nx))) (And.intro (And.intro (@cut_self) (@cut_app)) (And.intro (@newT0) (@newT1)))) (And.intro (And.intro (And.intro (@newT2) (@newT3)) (And.intro (@newT4) (@newT5))) (And.intro (And.intro (@newT6) (@newL0)) (And.intro (@newL1) (@newL2)))))) (And.intro (And.intro (And.intro (And.intro (@newL3) (And.intro (@newL4) (@newL5))) (And.intro (And.intro (@newL6) (@src_l)) (And.intro (@src_t) (@fAdd_i)))) (And.intro (And.intro (@fSub_i) (And.intro (@fLt_i) (@fLe_i))) (And.intro (And.intro (@fGt_i) (@fGe_i)) (And.intro (@is_non) (@isNon_ref))))) (And.intro (And.intro (And.intro (@isNon_non) (And.intro (@isNon_int) (@isNon_str))) (And.intro (And.intro (@isNon_bl) (@isNon_tup)) (And.intro (@isNon_lst) (@isNon_ins)))) (And.intro (And.intro (And.intro (@startD_c) (@startD_n)) (And.intro (@startD_z) (@fndQ_nx))) (And.intro (And.intro (@fndQ_ct) (@fndQ_ret)) (And.intro (@endQ_none) (@endQ_some)))))))
def evD := And.intro (And.intro (And.intro (@l_NNew) (@l_NPut)) (And.intro (@l_NM) (@l_SortK))) (And.intro (And.intro (@l_Comp2) (@isN_p)) (And.intro (@l_DComp) (And.intro (@l_newD) (@l_Enum))))
end Pv
namespace Kb
open PySem PySem.Spec PyProof.Rows L2 Pv
def u_BOUND : P := (.int 10000000000000000000000000000000000000000)
def u_LONGESTTEXT : P := (.int 2000)
def u_COMPARISONS : P := (.tup [(.str "="), (.str "<>"), (.str "<"), (.str "<="), (.str ">"), (.str ">=")])
def m_World_init : MF := dFnL 3 3
    (dSeq (dSetF [0] "sources" (dVar 0) (dVar 1))
    (dSetF [0] "parameters" (dVar 0) (dVar 2)))
def m_Frame_init : MF := dFnL 5 5
    (dSeq (dSetF [1] "columns" (dVar 0) (dVar 1))
    (dSeq (dSetF [1] "row" (dVar 0) (dVar 2))
    (dSeq (dSetF [1] "members" (dVar 0) (dVar 3))
    (dSetF [1] "outer" (dVar 0) (dVar 4)))))
def m_named : MF := dFn 3 6
    (dSeq (dSet 3 (dLst true dNil))
    (dSeq (dFor [0, 4, 5] (denumerate (dVar 0)) (gTp 2 (gCn (gNm 4) (gCn (gNm 5) gNl)))
      (dIf (dAnd (dTest (dOp (fEq false) (dOp fIx (dVar 5) (dC (.int 1))) (dVar 2))) (dOr (dTest (dOp (fIs false) (dVar 1) (dC .non))) (dTest (dOp (fEq false) (dOp fIx (dVar 5) (dC (.int 0))) (dVar 1)))))
      (dDrop (dBM "list" fApp (dVar 3) (dCons (dVar 4) dNil)))
      dNx))
    (dRet (dVar 3))))
def m_locate : MF := dFn 3 5
    (dSeq (dSet 3 (dVar 0))
    (dSeq (dWhile [0, 4] wFuel (dTest (dOp (fIs true) (dVar 3) (dC .non)))
      (dSeq (dSet 4 (dCall m_named (dCons (dUn (dFld [1, 2] "columns") (dVar 3)) (dCons (dVar 1) (dCons (dVar 2) dNil)))))
    (dSeq (dIf (dTest (dOp fGt (dCall fLen (dCons (dVar 4) dNil)) (dC (.int 1))))
      dNever
      dNx)
    (dSeq (dIf (dTest (dOp (fEq false) (dCall fLen (dCons (dVar 4) dNil)) (dC (.int 1))))
      (dRet (dTup (dCons (dVar 3) (dCons (dOp fIx (dVar 4) (dC (.int 0))) dNil))))
      dNx)
    (dSet 3 (dUn (dFld [1] "outer") (dVar 3)))))))
    (dSeq (dIf (dTest (dOp (fIs false) (dVar 1) (dC .non)))
      dNever
      dNx)
    dNever)))
def m_own_index : MF := dFn 2 3
    (dSeq (dIf (dTest (dOp (fEq true) (dOp fIx (dVar 1) (dC (.int 0))) (dC (.str "column"))))
      (dRet (dC .non))
      dNx)
    (dSeq (dSet 2 (dCall m_named (dCons (dVar 0) (dCons (dOp fIx (dVar 1) (dC (.int 1))) (dCons (dOp fIx (dVar 1) (dC (.int 2))) dNil)))))
    (dSeq (dIf (dTest (dOp (fEq false) (dCall fLen (dCons (dVar 2) dNil)) (dC (.int 1))))
      (dRet (dOp fIx (dVar 2) (dC (.int 0))))
      dNx)
    (dRet (dC .non)))))
def m_operands : MF := dFn 1 2
    (dSeq (dSet 1 (dOp fIx (dVar 0) (dC (.int 0))))
    (dSeq (dIf (dTest (dOp (fInG false) (dVar 1) (dTup (dCons (dC (.str "not")) (dCons (dC (.str "negate")) (dCons (dC (.str "is_null")) (dCons (dC (.str "in_query")) dNil)))))))
      (dRet (dLst false (dCons (dOp fIx (dVar 0) (dC (.int 1))) dNil)))
      dNx)
    (dSeq (dIf (dTest (dOp (fEq false) (dVar 1) (dC (.str "binary"))))
      (dRet (dLst false (dCons (dOp fIx (dVar 0) (dC (.int 2))) (dCons (dOp fIx (dVar 0) (dC (.int 3))) dNil))))
      dNx)
    (dSeq (dIf (dTest (dOp (fEq false) (dVar 1) (dC (.str "in_list"))))
      (dRet (dLst false (dCons (dOp fIx (dVar 0) (dC (.int 1))) (dStar (dOp fIx (dVar 0) (dC (.int 2))) dNil))))
      dNx)
    (dSeq (dIf (dTest (dOp (fEq false) (dVar 1) (dC (.str "case"))))
      (dRet (dLst false (dCons (dOp fIx (dVar 0) (dC (.int 1))) (dCons (dOp fIx (dVar 0) (dC (.int 2))) (dCons (dOp fIx (dVar 0) (dC (.int 3))) dNil)))))
      dNx)
    (dSeq (dIf (dTest (dOp (fEq false) (dVar 1) (dC (.str "aggregate"))))
      (dRet (dLst false (dCons (dOp fIx (dVar 0) (dC (.int 2))) dNil)))
      dNx)
    (dRet (dLst false dNil))))))))
def m_has_aggregate : Nat → MF
  | 0 => fun _ _ => none
  | n + 1 => dFn 1 2
    (dSeq (dIf (dTest (dOp (fInG false) (dOp fIx (dVar 0) (dC (.int 0))) (dTup (dCons (dC (.str "count_all")) (dCons (dC (.str "aggregate")) dNil)))))
      (dRet (dC (.bl true)))
      dNx)
    (dRet (dCall fAny (dCons (dComp false (dIt (dCall m_operands (dCons (dVar 0) dNil))) (gNm 1) dYes (dCall (m_has_aggregate n) (dCons (dVar 1) dNil)) [1]) dNil))))
def m_is_grouping : MF := dFn 1 2
    (dSeq (dIf (dOr (dTest (dOp (fIs true) (dOp fIx (dVar 0) (dC (.int 5))) (dC .non))) (dTest (dOp (fIs true) (dOp fIx (dVar 0) (dC (.int 6))) (dC .non))))
      (dRet (dC (.bl true)))
      dNx)
    (dRet (dAndV (dOp (fIs true) (dOp fIx (dVar 0) (dC (.int 2))) (dC .non)) (dCall fAny (dCons (dComp false (dIt (dOp fIx (dVar 0) (dC (.int 2)))) (gNm 1) dYes (dCall (m_has_aggregate 40) (dCons (dOp fIx (dVar 1) (dC (.int 0))) dNil)) [1]) dNil)))))
def m_item_name : MF := dFn 1 3
    (dSeq (dAsg (dVar 0) (gTp 2 (gCn (gNm 1) (gCn (gNm 2) gNl))))
    (dSeq (dIf (dTest (dOp (fIs true) (dVar 2) (dC .non)))
      (dRet (dVar 2))
      dNx)
    (dSeq (dIf (dTest (dOp (fEq false) (dOp fIx (dVar 1) (dC (.int 0))) (dC (.str "column"))))
      (dRet (dOp fIx (dVar 1) (dC (.int 2))))
      dNx)
    (dRet (dC (.str ""))))))
def m_known_as : MF := dFn 1 1
    (dSeq (dIf (dTest (dOp (fIs false) (dOp fIx (dVar 0) (dC (.int 2))) (dC .non)))
      (dRet (dOp fIx (dVar 0) (dC (.int 1))))
      dNx)
    (dRet (dOp fIx (dVar 0) (dC (.int 2)))))
def m_value_key : MF := dFn 1 1
    (dSeq (dIf (dTest (dOp (fIs false) (dVar 0) (dC .non)))
      (dRet (dTup (dCons (dC (.int 0)) dNil)))
      dNx)
    (dSeq (dIf (dTest (dUn (fIsi ["bool"]) (dVar 0)))
      (dRet (dTup (dCons (dC (.int 1)) (dCons (dCall fInt (dCons (dVar 0) dNil)) dNil))))
      dNx)
    (dSeq (dIf (dTest (dUn (fIsi ["int"]) (dVar 0)))
      (dRet (dTup (dCons (dC (.int 2)) (dCons (dVar 0) dNil))))
      dNx)
    (dRet (dTup (dCons (dC (.int 3)) (dCons (dVar 0) dNil)))))))
def m_row_key : MF := dFn 1 3
    (dSeq (dSet 1 (dLst true dNil))
    (dSeq (dFor [0, 2] (dIt (dVar 0)) (gNm 2)
      (dDrop (dBM "list" fExt (dVar 1) (dCons (dCall m_value_key (dCons (dVar 2) dNil)) dNil))))
    (dRet (dCall fTuple (dCons (dVar 1) dNil)))))
def m_same : MF := dFn 2 2
    (dRet (dOp (fEq false) (dCall m_value_key (dCons (dVar 0) dNil)) (dCall m_value_key (dCons (dVar 1) dNil))))
def m_bounded : MF := dFn 1 1
    (dSeq (dIf (dTest (dOp fGe (dCall fAbs (dCons (dVar 0) dNil)) (dC u_BOUND)))
      (dRet (dC .non))
      dNx)
    (dRet (dVar 0)))
def m_quotient : MF := dFn 2 3
    (dSeq (dSet 2 (dOp fDiv (dCall fAbs (dCons (dVar 0) dNil)) (dCall fAbs (dCons (dVar 1) dNil))))
    (dSeq (dIf (dTest (dOp (fEq true) (dOp fLt (dVar 0) (dC (.int 0))) (dOp fLt (dVar 1) (dC (.int 0)))))
      (dRet (dUn fNeg (dVar 2)))
      dNx)
    (dRet (dVar 2))))
def m_arithmetic : MF := dFn 3 4
    (dSeq (dIf (dOr (dTest (dOp (fIs false) (dVar 1) (dC .non))) (dTest (dOp (fIs false) (dVar 2) (dC .non))))
      (dRet (dC .non))
      dNx)
    (dSeq (dIf (dTest (dOp (fEq false) (dVar 0) (dC (.str "||"))))
      (dSeq (dSet 3 (dOp (fAdd false) (dVar 1) (dVar 2)))
    (dSeq (dIf (dTest (dOp fGt (dCall fLen (dCons (dVar 3) dNil)) (dC u_LONGESTTEXT)))
      (dRet (dC .non))
      dNx)
    (dRet (dVar 3))))
      dNx)
    (dSeq (dIf (dTest (dOp (fEq false) (dVar 0) (dC (.str "+"))))
      (dRet (dCall m_bounded (dCons (dOp (fAdd false) (dVar 1) (dVar 2)) dNil)))
      dNx)
    (dSeq (dIf (dTest (dOp (fEq false) (dVar 0) (dC (.str "-"))))
      (dRet (dCall m_bounded (dCons (dOp fSub (dVar 1) (dVar 2)) dNil)))
      dNx)
    (dSeq (dIf (dTest (dOp (fEq false) (dVar 0) (dC (.str "*"))))
      (dRet (dCall m_bounded (dCons (dOp fMul (dVar 1) (dVar 2)) dNil)))
      dNx)
    (dSeq (dIf (dTest (dOp (fEq false) (dVar 2) (dC (.int 0))))
      (dRet (dC .non))
      dNx)
    (dSeq (dIf (dTest (dOp (fEq false) (dVar 0) (dC (.str "/"))))
      (dRet (dCall m_quotient (dCons (dVar 1) (dCons (dVar 2) dNil))))
      dNx)
    (dRet (dOp fSub (dVar 1) (dOp fMul (dCall m_quotient (dCons (dVar 1) (dCons (dVar 2) dNil))) (dVar 2)))))))))))
def m_compare : MF := dFn 3 5
    (dSeq (dIf (dOr (dTest (dOp (fIs false) (dVar 1) (dC .non))) (dTest (dOp (fIs false) (dVar 2) (dC .non))))
      (dRet (dC .non))
      dNx)
    (dSeq (dSet 3 (dCall m_value_key (dCons (dVar 1) dNil)))
    (dSeq (dSet 4 (dCall m_value_key (dCons (dVar 2) dNil)))
    (dSeq (dIf (dTest (dOp (fEq false) (dVar 0) (dC (.str "="))))
      (dRet (dOp (fEq false) (dVar 3) (dVar 4)))
      dNx)
    (dSeq (dIf (dTest (dOp (fEq false) (dVar 0) (dC (.str "<>"))))
      (dRet (dOp (fEq true) (dVar 3) (dVar 4)))
      dNx)
    (dSeq (dIf (dTest (dOp (fEq false) (dVar 0) (dC (.str "<"))))
      (dRet (dOp fLtD (dVar 3) (dVar 4)))
      dNx)
    (dSeq (dIf (dTest (dOp (fEq false) (dVar 0) (dC (.str "<="))))
      (dRet (dOp fLeD (dVar 3) (dVar 4)))
      dNx)
    (dSeq (dIf (dTest (dOp (fEq false) (dVar 0) (dC (.str ">"))))
      (dRet (dOp fGtD (dVar 3) (dVar 4)))
      dNx)
    (dRet (dOp fGeD (dVar 3) (dVar 4)))))))))))
def m_negation : MF := dFn 1 1
    (dSeq (dIf (dTest (dOp (fIs false) (dVar 0) (dC .non)))
      (dRet (dC .non))
      dNx)
    (dRet (dNotV (dVar 0))))
def m_conjunction : MF := dFn 2 2
    (dSeq (dIf (dOr (dTest (dOp (fIs false) (dVar 0) (dC (.bl false)))) (dTest (dOp (fIs false) (dVar 1) (dC (.bl false)))))
      (dRet (dC (.bl false)))
      dNx)
    (dSeq (dIf (dOr (dTest (dOp (fIs false) (dVar 0) (dC .non))) (dTest (dOp (fIs false) (dVar 1) (dC .non))))
      (dRet (dC .non))
      dNx)
    (dRet (dC (.bl true)))))
def m_disjunction : MF := dFn 2 2
    (dSeq (dIf (dOr (dTest (dOp (fIs false) (dVar 0) (dC (.bl true)))) (dTest (dOp (fIs false) (dVar 1) (dC (.bl true)))))
      (dRet (dC (.bl true)))
      dNx)
    (dSeq (dIf (dOr (dTest (dOp (fIs false) (dVar 0) (dC .non))) (dTest (dOp (fIs false) (dVar 1) (dC .non))))
      (dRet (dC .non))
      dNx)
    (dRet (dC (.bl false)))))
def m_without_repeats : MF := dFn 1 3
    (dSeq (dBlock (dSeq (dSet 1 (dNNew true))
    (dFor [0, 2] (dIt (dVar 0)) (gNm 2)
      (dDrop (dNM fNSetd (dVar 1) (dCons (dCall m_row_key (dCons (dVar 2) dNil)) (dCons (dVar 2) dNil)))))))
    (dRet (dListV false (dVar 1))))
def m_table_result : MF := dFn 2 4
    (dSeq (dSet 2 (dOp kIx (dUn (dFld [0] "sources") (dVar 1)) (dOp fIx (dVar 0) (dC (.int 1)))))
    (dRet (dTup (dCons (dComp false (dIt (dUn (dFld [1, 2] "columns") (dVar 2))) (gNm 3) dYes (dTup (dCons (dCall m_known_as (dCons (dVar 0) dNil)) (dCons (dVar 3) dNil))) [3]) (dCons (dCall (fList false) (dCons (dUn (dFld [2] "rows") (dVar 2)) dNil)) dNil)))))
def m_grouped_frames : MF := dFn 4 11
    (dSeq (dIf (dTest (dOp (fIs false) (dOp fIx (dVar 0) (dC (.int 5))) (dC .non)))
      (dSeq (dSet 4 (dTup dNil))
    (dSeq (dIf (dTest (dOp fGt (dCall fLen (dCons (dVar 2) dNil)) (dC (.int 0))))
      (dSet 4 (dOp fIx (dVar 2) (dC (.int 0))))
      dNx)
    (dRet (dLst false (dCons (dMake false 1 m_Frame_init (dCons (dVar 1) (dCons (dVar 4) (dCons (dVar 2) (dCons (dVar 3) dNil))))) dNil)))))
      dNx)
    (dSeq (dSet 5 (dComp false (dIt (dOp fIx (dVar 0) (dC (.int 5)))) (gNm 8) dYes (dCall m_own_index (dCons (dVar 1) (dCons (dVar 8) dNil))) [8]))
    (dSeq (dBlock (dSeq (dSet 6 (dNNew true))
    (dFor [0, 2, 4, 7] (dIt (dVar 2)) (gNm 7)
      (dDrop (dBM "list" fApp (dNM fNSetd (dVar 6) (dCons (dCall m_row_key (dCons (dComp false (dIt (dVar 5)) (gNm 10) dYes (dOp fIx (dVar 7) (dVar 10)) [10]) dNil)) (dCons (dLst true dNil) dNil))) (dCons (dVar 7) dNil))))))
    (dRet (dComp false (dItD itV (dVar 6)) (gNm 9) dYes (dMake false 1 m_Frame_init (dCons (dVar 1) (dCons (dOp fIx (dVar 9) (dC (.int 0))) (dCons (dVar 9) (dCons (dVar 3) dNil))))) [9])))))
def m_is_among : MF := dFn 2 3
    (dSeq (dIf (dTest (dOp (fEq false) (dCall fLen (dCons (dVar 1) dNil)) (dC (.int 0))))
      (dRet (dC (.bl false)))
      dNx)
    (dSeq (dIf (dTest (dOp (fIs false) (dVar 0) (dC .non)))
      (dRet (dC .non))
      dNx)
    (dSeq (dIf (dTest (dCall fAny (dCons (dComp false (dIt (dVar 1)) (gNm 2) dYes (dCall m_same (dCons (dVar 0) (dCons (dVar 2) dNil))) [2]) dNil)))
      (dRet (dC (.bl true)))
      dNx)
    (dSeq (dIf (dTest (dCall fAny (dCons (dComp false (dIt (dVar 1)) (gNm 2) dYes (dOp (fIs false) (dVar 2) (dC .non)) [2]) dNil)))
      (dRet (dC .non))
      dNx)
    (dRet (dC (.bl false)))))))
def m_combined : MF := dFn 3 3
    (dSeq (dIf (dTest (dOp (fEq false) (dVar 0) (dC (.str "and"))))
      (dRet (dCall m_conjunction (dCons (dVar 1) (dCons (dVar 2) dNil))))
      dNx)
    (dSeq (dIf (dTest (dOp (fEq false) (dVar 0) (dC (.str "or"))))
      (dRet (dCall m_disjunction (dCons (dVar 1) (dCons (dVar 2) dNil))))
      dNx)
    (dSeq (dIf (dTest (dOp (fInG false) (dVar 0) (dC u_COMPARISONS)))
      (dRet (dCall m_compare (dCons (dVar 0) (dCons (dVar 1) (dCons (dVar 2) dNil)))))
      dNx)
    (dRet (dCall m_arithmetic (dCons (dVar 0) (dCons (dVar 1) (dCons (dVar 2) dNil))))))))
mutual
def m_aggregate : Nat → MF
  | 0 => fun _ _ => none
  | n + 1 => dFn 3 6
    (dSeq (dIf (dTest (dOp (fEq false) (dOp fIx (dVar 0) (dC (.int 0))) (dC (.str "count_all"))))
      (dRet (dCall fLen (dCons (dUn (dFld [1] "members") (dVar 1)) dNil)))
      dNx)
    (dSeq (dSet 3 (dLst true dNil))
    (dSeq (dFor [4, 5] (dIt (dUn (dFld [1] "members") (dVar 1))) (gNm 4)
      (dSeq (dSet 5 (dCall (m_value_of n) (dCons (dOp fIx (dVar 0) (dC (.int 2))) (dCons (dMake false 1 m_Frame_init (dCons (dUn (dFld [1, 2] "columns") (dVar 1)) (dCons (dVar 4) (dCons (dC .non) (dCons (dUn (dFld [1] "outer") (dVar 1)) dNil))))) (dCons (dVar 2) dNil)))))
    (dIf (dTest (dOp (fIs true) (dVar 5) (dC .non)))
      (dDrop (dBM "list" fApp (dVar 3) (dCons (dVar 5) dNil)))
      dNx)))
    (dSeq (dIf (dTest (dOp (fEq false) (dOp fIx (dVar 0) (dC (.int 1))) (dC (.str "count"))))
      (dRet (dCall fLen (dCons (dVar 3) dNil)))
      dNx)
    (dSeq (dIf (dTest (dOp (fEq false) (dCall fLen (dCons (dVar 3) dNil)) (dC (.int 0))))
      (dRet (dC .non))
      dNx)
    (dSeq (dIf (dTest (dOp (fEq false) (dOp fIx (dVar 0) (dC (.int 1))) (dC (.str "sum"))))
      (dRet (dCall m_bounded (dCons (dCall fSum (dCons (dVar 3) dNil)) dNil)))
      dNx)
    (dSeq (dSet 3 (dSortK true m_value_key (dVar 3)))
    (dSeq (dIf (dTest (dOp (fEq false) (dOp fIx (dVar 0) (dC (.int 1))) (dC (.str "min"))))
      (dRet (dOp fIx (dVar 3) (dC (.int 0))))
      dNx)
    (dRet (dOp fIx (dVar 3) (dUn fNeg (dC (.int 1)))))))))))))
def m_membership : Nat → MF
  | 0 => fun _ _ => none
  | n + 1 => dFn 3 7
    (dSeq (dSet 3 (dCall (m_value_of n) (dCons (dOp fIx (dVar 0) (dC (.int 1))) (dCons (dVar 1) (dCons (dVar 2) dNil)))))
    (dSeq (dIf (dTest (dOp (fEq false) (dOp fIx (dVar 0) (dC (.int 0))) (dC (.str "in_list"))))
      (dSeq (dSet 4 (dC (.bl false)))
    (dFor [5] (dIt (dOp fIx (dVar 0) (dC (.int 2)))) (gNm 5)
      (dSet 4 (dCall m_disjunction (dCons (dVar 4) (dCons (dCall m_compare (dCons (dC (.str "=")) (dCons (dVar 3) (dCons (dCall (m_value_of n) (dCons (dVar 5) (dCons (dVar 1) (dCons (dVar 2) dNil)))) dNil)))) dNil))))))
      (dSet 4 (dCall m_is_among (dCons (dVar 3) (dCons (dComp false (dIt (dOp fIx (dCall (m_result_of n) (dCons (dOp fIx (dVar 0) (dC (.int 2))) (dCons (dVar 1) (dCons (dVar 2) dNil)))) (dC (.int 1)))) (gNm 6) dYes (dOp fIx (dVar 6) (dC (.int 0))) [6]) dNil)))))
    (dSeq (dIf (dTru (dOp fIx (dVar 0) (dC (.int 3))))
      (dRet (dCall m_negation (dCons (dVar 4) dNil)))
      dNx)
    (dRet (dVar 4)))))
def m_kept_frames : Nat → MF
  | 0 => fun _ _ => none
  | n + 1 => dFn 3 4
    (dSeq (dIf (dTest (dOp (fIs false) (dVar 0) (dC .non)))
      (dRet (dVar 1))
      dNx)
    (dRet (dComp false (dIt (dVar 1)) (gNm 3) (dTest (dOp (fIs false) (dCall (m_value_of n) (dCons (dVar 0) (dCons (dVar 3) (dCons (dVar 2) dNil)))) (dC (.bl true)))) (dVar 3) [3])))
def m_source_result : Nat → MF
  | 0 => fun _ _ => none
  | n + 1 => dFn 3 18
    (dSeq (dIf (dTest (dOp (fEq false) (dOp fIx (dVar 0) (dC (.int 0))) (dC (.str "table"))))
      (dRet (dCall m_table_result (dCons (dVar 0) (dCons (dVar 2) dNil))))
      dNx)
    (dSeq (dIf (dTest (dOp (fEq false) (dOp fIx (dVar 0) (dC (.int 0))) (dC (.str "subquery"))))
      (dSeq (dAsg (dCall (m_result_of n) (dCons (dOp fIx (dVar 0) (dC (.int 1))) (dCons (dVar 1) (dCons (dVar 2) dNil)))) (gTp 2 (gCn (gNm 3) (gCn (gNm 4) gNl))))
    (dRet (dTup (dCons (dComp false (dIt (dVar 3)) (gNm 16) dYes (dTup (dCons (dOp fIx (dVar 0) (dC (.int 2))) (dCons (dVar 16) dNil))) [16]) (dCons (dVar 4) dNil)))))
      dNx)
    (dSeq (dAsg (dCall (m_source_result n) (dCons (dOp fIx (dVar 0) (dC (.int 1))) (dCons (dVar 1) (dCons (dVar 2) dNil)))) (gTp 2 (gCn (gNm 5) (gCn (gNm 6) gNl))))
    (dSeq (dAsg (dCall (m_source_result n) (dCons (dOp fIx (dVar 0) (dC (.int 2))) (dCons (dVar 1) (dCons (dVar 2) dNil)))) (gTp 2 (gCn (gNm 7) (gCn (gNm 8) gNl))))
    (dSeq (dSet 9 (dOp (fAdd false) (dVar 5) (dVar 7)))
    (dSeq (dBlock (dSeq (dSet 10 (dLst true dNil))
    (dFor [3, 4, 5, 6, 11, 12, 13] (dIt (dVar 6)) (gNm 11)
      (dSeq (dSet 12 (dComp false (dIt (dVar 8)) (gNm 14) dYes (dMake false 1 m_Frame_init (dCons (dVar 9) (dCons (dOp (fAdd false) (dVar 11) (dVar 14)) (dCons (dC .non) (dCons (dVar 1) dNil))))) [14]))
    (dSeq (dSet 13 (dComp false (dIt (dCall (m_kept_frames n) (dCons (dOp fIx (dVar 0) (dC (.int 3))) (dCons (dVar 12) (dCons (dVar 2) dNil))))) (gNm 15) dYes (dUn (dFld [1] "row") (dVar 15)) [15]))
    (dSeq (dIf (dAnd (dTru (dOp fIx (dVar 0) (dC (.int 4)))) (dTest (dOp (fEq false) (dCall fLen (dCons (dVar 13) dNil)) (dC (.int 0)))))
      (dSet 13 (dLst false (dCons (dOp (fAdd false) (dVar 11) (dCall fTuple (dCons (dComp false (dIt (dVar 7)) (gNm 17) dYes (dC .non) [17]) dNil))) dNil)))
      dNx)
    (dDrop (dBM "list" fExt (dVar 10) (dCons (dVar 13) dNil)))))))))
    (dRet (dTup (dCons (dVar 9) (dCons (dVar 10) dNil))))))))))
def m_made_row : Nat → MF
  | 0 => fun _ _ => none
  | n + 1 => dFn 3 4
    (dRet (dCall fTuple (dCons (dComp false (dIt (dVar 0)) (gNm 3) dYes (dCall (m_value_of n) (dCons (dOp fIx (dVar 3) (dC (.int 0))) (dCons (dVar 1) (dCons (dVar 2) dNil)))) [3]) dNil)))
def m_select_result : Nat → MF
  | 0 => fun _ _ => none
  | n + 1 => dFn 3 12
    (dSeq (dSet 3 (dLst false dNil))
    (dSeq (dSet 4 (dLst false (dCons (dTup dNil) dNil)))
    (dSeq (dIf (dTest (dOp (fIs true) (dOp fIx (dVar 0) (dC (.int 3))) (dC .non)))
      (dAsg (dCall (m_source_result n) (dCons (dOp fIx (dVar 0) (dC (.int 3))) (dCons (dVar 1) (dCons (dVar 2) dNil)))) (gTp 2 (gCn (gNm 3) (gCn (gNm 4) gNl))))
      dNx)
    (dSeq (dSet 5 (dCall (m_kept_frames n) (dCons (dOp fIx (dVar 0) (dC (.int 4))) (dCons (dComp false (dIt (dVar 4)) (gNm 8) dYes (dMake false 1 m_Frame_init (dCons (dVar 3) (dCons (dVar 8) (dCons (dC .non) (dCons (dVar 1) dNil))))) [8]) (dCons (dVar 2) dNil)))))
    (dSeq (dIf (dTest (dCall m_is_grouping (dCons (dVar 0) dNil)))
      (dSet 5 (dCall m_grouped_frames (dCons (dVar 0) (dCons (dVar 3) (dCons (dComp false (dIt (dVar 5)) (gNm 10) dYes (dUn (dFld [1] "row") (dVar 10)) [10]) (dCons (dVar 1) dNil))))))
      dNx)
    (dSeq (dSet 5 (dCall (m_kept_frames n) (dCons (dOp fIx (dVar 0) (dC (.int 6))) (dCons (dVar 5) (dCons (dVar 2) dNil)))))
    (dSeq (dIf (dTest (dOp (fIs false) (dOp fIx (dVar 0) (dC (.int 2))) (dC .non)))
      (dSeq (dSet 6 (dComp false (dIt (dVar 3)) (gNm 9) dYes (dOp fIx (dVar 9) (dC (.int 1))) [9]))
    (dSet 7 (dComp false (dIt (dVar 5)) (gNm 10) dYes (dUn (dFld [1] "row") (dVar 10)) [10])))
      (dSeq (dSet 6 (dComp false (dIt (dOp fIx (dVar 0) (dC (.int 2)))) (gNm 11) dYes (dCall m_item_name (dCons (dVar 11) dNil)) [11]))
    (dSet 7 (dComp false (dIt (dVar 5)) (gNm 10) dYes (dCall (m_made_row n) (dCons (dOp fIx (dVar 0) (dC (.int 2))) (dCons (dVar 10) (dCons (dVar 2) dNil)))) [10]))))
    (dSeq (dIf (dTru (dOp fIx (dVar 0) (dC (.int 1))))
      (dSet 7 (dCall m_without_repeats (dCons (dVar 7) dNil)))
      dNx)
    (dRet (dTup (dCons (dVar 6) (dCons (dVar 7) dNil))))))))))))
def m_result_of : Nat → MF
  | 0 => fun _ _ => none
  | n + 1 => dFn 3 9
    (dSeq (dIf (dTest (dOp (fEq false) (dOp fIx (dVar 0) (dC (.int 0))) (dC (.str "select"))))
      (dRet (dCall (m_select_result n) (dCons (dVar 0) (dCons (dVar 1) (dCons (dVar 2) dNil)))))
      dNx)
    (dSeq (dAsg (dCall (m_result_of n) (dCons (dOp fIx (dVar 0) (dC (.int 2))) (dCons (dVar 1) (dCons (dVar 2) dNil)))) (gTp 2 (gCn (gNm 3) (gCn (gNm 4) gNl))))
    (dSeq (dSet 5 (dOp fIx (dCall (m_result_of n) (dCons (dOp fIx (dVar 0) (dC (.int 3))) (dCons (dVar 1) (dCons (dVar 2) dNil)))) (dC (.int 1))))
    (dSeq (dIf (dTest (dOp (fEq false) (dOp fIx (dVar 0) (dC (.int 1))) (dC (.str "union all"))))
      (dRet (dTup (dCons (dVar 3) (dCons (dOp (fAdd false) (dVar 4) (dVar 5)) dNil))))
      dNx)
    (dSeq (dIf (dTest (dOp (fEq false) (dOp fIx (dVar 0) (dC (.int 1))) (dC (.str "union"))))
      (dRet (dTup (dCons (dVar 3) (dCons (dCall m_without_repeats (dCons (dOp (fAdd false) (dVar 4) (dVar 5)) dNil)) dNil))))
      dNx)
    (dSeq (dSet 6 (dDComp false (dIt (dVar 5)) (gNm 8) dYes (dCall m_row_key (dCons (dVar 8) dNil)) (dC (.bl true)) [8]))
    (dSeq (dSet 7 (dOp (fEq false) (dOp fIx (dVar 0) (dC (.int 1))) (dC (.str "intersect"))))
    (dRet (dTup (dCons (dVar 3) (dCons (dCall m_without_repeats (dCons (dComp false (dIt (dVar 4)) (gNm 8) (dTest (dOp (fEq false) (dOp (nIn false) (dCall m_row_key (dCons (dVar 8) dNil)) (dVar 6)) (dVar 7))) (dVar 8) [8]) dNil)) dNil)))))))))))
def m_value_of : Nat → MF
  | 0 => fun _ _ => none
  | n + 1 => dFn 3 6
    (dSeq (dSet 3 (dOp fIx (dVar 0) (dC (.int 0))))
    (dSeq (dIf (dTest (dOp (fEq false) (dVar 3) (dC (.str "literal"))))
      (dRet (dOp fIx (dVar 0) (dC (.int 1))))
      dNx)
    (dSeq (dIf (dTest (dOp (fEq false) (dVar 3) (dC (.str "parameter"))))
      (dRet (dOp fIx (dUn (dFld [0] "parameters") (dVar 2)) (dOp fSub (dOp fIx (dVar 0) (dC (.int 1))) (dC (.int 1)))))
      dNx)
    (dSeq (dIf (dTest (dOp (fEq false) (dVar 3) (dC (.str "column"))))
      (dSeq (dAsg (dCall m_locate (dCons (dVar 1) (dCons (dOp fIx (dVar 0) (dC (.int 1))) (dCons (dOp fIx (dVar 0) (dC (.int 2))) dNil)))) (gTp 2 (gCn (gNm 4) (gCn (gNm 5) gNl))))
    (dRet (dOp fIx (dUn (dFld [1] "row") (dVar 4)) (dVar 5))))
      dNx)
    (dSeq (dIf (dTest (dOp (fEq false) (dVar 3) (dC (.str "binary"))))
      (dRet (dCall m_combined (dCons (dOp fIx (dVar 0) (dC (.int 1))) (dCons (dCall (m_value_of n) (dCons (dOp fIx (dVar 0) (dC (.int 2))) (dCons (dVar 1) (dCons (dVar 2) dNil)))) (dCons (dCall (m_value_of n) (dCons (dOp fIx (dVar 0) (dC (.int 3))) (dCons (dVar 1) (dCons (dVar 2) dNil)))) dNil)))))
      dNx)
    (dSeq (dIf (dTest (dOp (fEq false) (dVar 3) (dC (.str "not"))))
      (dRet (dCall m_negation (dCons (dCall (m_value_of n) (dCons (dOp fIx (dVar 0) (dC (.int 1))) (dCons (dVar 1) (dCons (dVar 2) dNil)))) dNil)))
      dNx)
    (dSeq (dIf (dTest (dOp (fEq false) (dVar 3) (dC (.str "negate"))))
      (dRet (dCall m_arithmetic (dCons (dC (.str "-")) (dCons (dC (.int 0)) (dCons (dCall (m_value_of n) (dCons (dOp fIx (dVar 0) (dC (.int 1))) (dCons (dVar 1) (dCons (dVar 2) dNil)))) dNil)))))
      dNx)
    (dSeq (dIf (dTest (dOp (fEq false) (dVar 3) (dC (.str "is_null"))))
      (dRet (dOp (fEq true) (dOp (fIs false) (dCall (m_value_of n) (dCons (dOp fIx (dVar 0) (dC (.int 1))) (dCons (dVar 1) (dCons (dVar 2) dNil)))) (dC .non)) (dOp fIx (dVar 0) (dC (.int 2)))))
      dNx)
    (dSeq (dIf (dTest (dOp (fInG false) (dVar 3) (dTup (dCons (dC (.str "in_list")) (dCons (dC (.str "in_query")) dNil)))))
      (dRet (dCall (m_membership n) (dCons (dVar 0) (dCons (dVar 1) (dCons (dVar 2) dNil)))))
      dNx)
    (dSeq (dIf (dTest (dOp (fEq false) (dVar 3) (dC (.str "exists"))))
      (dRet (dOp fGt (dCall fLen (dCons (dOp fIx (dCall (m_result_of n) (dCons (dOp fIx (dVar 0) (dC (.int 1))) (dCons (dVar 1) (dCons (dVar 2) dNil)))) (dC (.int 1))) dNil)) (dC (.int 0))))
      dNx)
    (dSeq (dIf (dTest (dOp (fEq false) (dVar 3) (dC (.str "scalar"))))
      (dRet (dOp fIx (dOp fIx (dOp fIx (dCall (m_result_of n) (dCons (dOp fIx (dVar 0) (dC (.int 1))) (dCons (dVar 1) (dCons (dVar 2) dNil)))) (dC (.int 1))) (dC (.int 0))) (dC (.int 0))))
      dNx)
    (dSeq (dIf (dTest (dOp (fEq false) (dVar 3) (dC (.str "case"))))
      (dSeq (dIf (dTest (dOp (fIs false) (dCall (m_value_of n) (dCons (dOp fIx (dVar 0) (dC (.int 1))) (dCons (dVar 1) (dCons (dVar 2) dNil)))) (dC (.bl true))))
      (dRet (dCall (m_value_of n) (dCons (dOp fIx (dVar 0) (dC (.int 2))) (dCons (dVar 1) (dCons (dVar 2) dNil)))))
      dNx)
    (dRet (dCall (m_value_of n) (dCons (dOp fIx (dVar 0) (dC (.int 3))) (dCons (dVar 1) (dCons (dVar 2) dNil))))))
      dNx)
    (dRet (dCall (m_aggregate n) (dCons (dVar 0) (dCons (dVar 1) (dCons (dVar 2) dNil)))))))))))))))))
end
def m_query_rows : MF := dFn 3 3
    (dRet (dOp fIx (dCall (m_result_of 40) (dCons (dVar 0) (dCons (dC .non) (dCons (dMake false 0 m_World_init (dCons (dVar 1) (dCons (dVar 2) dNil))) dNil)))) (dC (.int 1))))
def m_Source_init : MF := dFnL 5 5
    (dSeq (dSetF [2] "name" (dVar 0) (dVar 1))
    (dSeq (dSetF [2] "columns" (dVar 0) (dCall (fList false) (dCons (dVar 2) dNil)))
    (dSeq (dSetF [2] "kinds" (dVar 0) (dCall (fList false) (dCons (dVar 3) dNil)))
    (dSetF [2] "rows" (dVar 0) (dCall (fList false) (dCons (dVar 4) dNil))))))
def m_next : MF := dFn 2 4
    (dSeq (dIf (dAnd (dTest (dOp (fEq false) (dOp fIx (dVar 0) (dC (.int 2))) (dC (.int 0)))) (dTest (dOp fLt (dOp fIx (dVar 0) (dC (.int 1))) (dCall fLen (dCons (dOp fIx (dVar 0) (dC (.int 0))) dNil)))))
      (dSeq (dSet 2 (dOp fIx (dOp fIx (dVar 0) (dC (.int 0))) (dOp fIx (dVar 0) (dC (.int 1)))))
    (dSeq (dAugS (dVar 0) (dC (.int 1)) (dC (.int 1)) fAug)
    (dIf (dTest (dOp fGe (dVar 2) (dOp fPow (dC (.int 10)) (dC (.int 18)))))
      (dAsg (dVar 2) (gSb (dVar 0) (dC (.int 2))))
      (dAsg (dOp fMod (dCall fInt (dCons (dOp (fAdd false) (dOp (fAdd false) (dOp fMul (dOp fIx (dVar 0) (dC (.int 3))) (dC (.int 48271))) (dOp fMod (dCall fInt (dCons (dVar 2) dNil)) (dC (.int 2147483647)))) (dC (.int 7))) dNil)) (dC (.int 2147483647))) (gSb (dVar 0) (dC (.int 3)))))))
      dNx)
    (dSeq (dIf (dTest (dOp fGt (dOp fIx (dVar 0) (dC (.int 2))) (dC (.int 0))))
      (dSeq (dSet 3 (dOp fMod (dCall fInt (dCons (dOp fIx (dVar 0) (dC (.int 2))) dNil)) (dVar 1)))
    (dSeq (dAsg (dOp fDiv (dOp fIx (dVar 0) (dC (.int 2))) (dVar 1)) (gSb (dVar 0) (dC (.int 2))))
    (dRet (dVar 3))))
      dNx)
    (dSeq (dAsg (dOp fMod (dCall fInt (dCons (dOp (fAdd false) (dOp fMul (dOp fIx (dVar 0) (dC (.int 3))) (dC (.int 69621))) (dC (.int 12345))) dNil)) (dC (.int 2147483647))) (gSb (dVar 0) (dC (.int 3))))
    (dRet (dOp fMod (dCall fInt (dCons (dOp fDiv (dOp fIx (dVar 0) (dC (.int 3))) (dC (.int 7))) dNil)) (dVar 1))))))
def m_lsame : Nat → MF
  | 0 => fun _ _ => none
  | n + 1 => dFn 2 3
    (dSeq (dIf (dTest (dOp (fIs false) (dVar 1) (dC .non)))
      (dRet (dOp (fIs false) (dVar 0) (dC .non)))
      dNx)
    (dSeq (dIf (dTest (dUn (fIsi ["bool"]) (dVar 1)))
      (dRet (dAndV (dUn (fIsi ["bool"]) (dVar 0)) (dOp (fEq false) (dVar 0) (dVar 1))))
      dNx)
    (dSeq (dIf (dTest (dUn (fIsi ["int"]) (dVar 1)))
      (dRet (dAndV (dUn (fIsi ["int"]) (dVar 0)) (dAndV (dNotV (dUn (fIsi ["bool"]) (dVar 0))) (dOp (fEq false) (dVar 0) (dVar 1)))))
      dNx)
    (dSeq (dIf (dTest (dUn (fIsi ["str"]) (dVar 1)))
      (dRet (dAndV (dUn (fIsi ["str"]) (dVar 0)) (dOp (fEq false) (dVar 0) (dVar 1))))
      dNx)
    (dSeq (dIf (dAnd (dTest (dUn (fIsi ["tuple"]) (dVar 1))) (dNot (dTest (dUn (fIsi ["tuple"]) (dVar 0)))))
      (dRet (dC (.bl false)))
      dNx)
    (dSeq (dIf (dAnd (dTest (dUn (fIsi ["list"]) (dVar 1))) (dNot (dTest (dUn (fIsi ["list"]) (dVar 0)))))
      (dRet (dC (.bl false)))
      dNx)
    (dSeq (dIf (dTest (dOp (fEq true) (dCall fLen (dCons (dVar 0) dNil)) (dCall fLen (dCons (dVar 1) dNil))))
      (dRet (dC (.bl false)))
      dNx)
    (dSeq (dFor [2] (dRng1 (dCons (dCall fLen (dCons (dVar 1) dNil)) dNil)) (gNm 2)
      (dIf (dNot (dTest (dCall (m_lsame n) (dCons (dOp fIx (dVar 0) (dVar 2)) (dCons (dOp fIx (dVar 1) (dVar 2)) dNil)))))
      (dRet (dC (.bl false)))
      dNx))
    (dRet (dC (.bl true)))))))))))
def m_char : MF := dFn 1 2
    (dSeq (dSet 1 (dC (.str " '!\"#$&()*+,-./0123456789:;<=>?@ABCDEFGHIJKLMNOPQRSTUVWXYZ[\\]^_`")))
    (dSeq (dSet 1 (dOp (fAdd false) (dVar 1) (dC (.str "abcdefghijklmnopqrstuvwxyz{|}~\n"))))
    (dRet (dOp fIx (dVar 1) (dOp fMod (dCall fInt (dCons (dVar 0) dNil)) (dC (.int 95)))))))
def m_value : MF := dFn 2 3
    (dSeq (dIf (dTest (dOp (fEq false) (dCall m_next (dCons (dVar 0) (dCons (dC (.int 5)) dNil))) (dC (.int 0))))
      (dRet (dC .non))
      dNx)
    (dSeq (dIf (dTest (dOp (fEq false) (dVar 1) (dC (.str "boolean"))))
      (dRet (dOp (fEq false) (dCall m_next (dCons (dVar 0) (dCons (dC (.int 2)) dNil))) (dC (.int 1))))
      dNx)
    (dSeq (dIf (dTest (dOp (fEq false) (dVar 1) (dC (.str "integer"))))
      (dRet (dOp fMul (dCall m_next (dCons (dVar 0) (dCons (dOp fIx (dLst false (dCons (dC (.int 4)) (dCons (dC (.int 4)) (dCons (dC (.int 4)) (dCons (dOp fPow (dC (.int 10)) (dC (.int 40))) dNil))))) (dCall m_next (dCons (dVar 0) (dCons (dC (.int 4)) dNil)))) dNil))) (dOp fSub (dC (.int 1)) (dOp fMul (dC (.int 2)) (dCall m_next (dCons (dVar 0) (dCons (dC (.int 2)) dNil)))))))
      dNx)
    (dSeq (dSet 2 (dOp fIx (dLst false (dCons (dC (.str "")) (dCons (dC (.str "a")) (dCons (dC (.str "b")) (dCons (dC (.str "ab")) (dCons (dC (.str "B")) dNil)))))) (dCall m_next (dCons (dVar 0) (dCons (dC (.int 5)) dNil)))))
    (dSeq (dIf (dTest (dOp (fEq false) (dCall m_next (dCons (dVar 0) (dCons (dC (.int 5)) dNil))) (dC (.int 0))))
      (dSet 2 (dOp (fAdd false) (dVar 2) (dCall m_char (dCons (dCall m_next (dCons (dVar 0) (dCons (dC (.int 95)) dNil))) dNil))))
      dNx)
    (dRet (dVar 2)))))))
def m_key : MF := dFn 1 1
    (dSeq (dIf (dTest (dOp (fIs false) (dVar 0) (dC .non)))
      (dRet (dTup (dCons (dC (.int 0)) (dCons (dC (.int 0)) dNil))))
      dNx)
    (dSeq (dIf (dTest (dUn (fIsi ["bool"]) (dVar 0)))
      (dRet (dTup (dCons (dC (.int 1)) (dCons (dCall fInt (dCons (dVar 0) dNil)) dNil))))
      dNx)
    (dSeq (dIf (dTest (dUn (fIsi ["int"]) (dVar 0)))
      (dRet (dTup (dCons (dC (.int 2)) (dCons (dVar 0) dNil))))
      dNx)
    (dRet (dTup (dCons (dC (.int 3)) (dCons (dVar 0) dNil)))))))
def m_lrow_key : MF := dFn 1 2
    (dRet (dCall fTuple (dCons (dComp false (dIt (dVar 0)) (gNm 1) dYes (dCall m_key (dCons (dVar 1) dNil)) [1]) dNil)))
def m_groups : MF := dFn 2 7
    (dSeq (dIf (dTest (dOp (fEq false) (dVar 1) (dLst false dNil)))
      (dRet (dLst false (dCons (dVar 0) dNil)))
      dNx)
    (dSeq (dSet 2 (dLst true dNil))
    (dSeq (dSet 3 (dLst true dNil))
    (dSeq (dFor [0, 4, 5] (dIt (dVar 0)) (gNm 4)
      (dSeq (dSet 5 (dCall m_lrow_key (dCons (dComp false (dIt (dVar 1)) (gNm 6) dYes (dOp fIx (dVar 4) (dVar 6)) [6]) dNil)))
    (dIf (dTest (dOp (fInG false) (dVar 5) (dVar 2)))
      (dDrop (dBM "list" fApp (dOp fIx (dVar 3) (dBM "list" fIndexP (dVar 2) (dCons (dVar 5) dNil))) (dCons (dVar 4) dNil)))
      (dSeq (dDrop (dBM "list" fApp (dVar 2) (dCons (dVar 5) dNil)))
    (dDrop (dBM "list" fApp (dVar 3) (dCons (dLst true (dCons (dVar 4) dNil)) dNil)))))))
    (dRet (dVar 3))))))
def m_least : MF := dFn 2 4
    (dSeq (dSet 2 (dC .non))
    (dSeq (dFor [0, 3] (dIt (dVar 0)) (gNm 3)
      (dIf (dOr (dTest (dOp (fIs false) (dVar 2) (dC .non))) (dAnd (dTest (dOp (fEq true) (dVar 3) (dVar 2))) (dTest (dOp (fEq true) (dOp fLtD (dCall m_key (dCons (dVar 3) dNil)) (dCall m_key (dCons (dVar 2) dNil))) (dVar 1)))))
      (dSet 2 (dVar 3))
      dNx))
    (dRet (dVar 2))))
def m_total : MF := dFn 1 1
    (dSeq (dIf (dOr (dTest (dOp (fEq false) (dVar 0) (dLst false dNil))) (dTest (dOp fGe (dCall fAbs (dCons (dCall fSum (dCons (dVar 0) dNil)) dNil)) (dOp fPow (dC (.int 10)) (dC (.int 40))))))
      (dRet (dC .non))
      dNx)
    (dRet (dCall fSum (dCons (dVar 0) dNil))))
def m_made : MF := dFn 2 6
    (dSeq (dSet 3 (dComp true (dIt (dVar 1)) (gNm 2) dYes (dOp fIx (dOp fIx (dVar 0) (dC (.int 0))) (dVar 2)) [2]))
    (dSeq (dDrop (dBM "list" fApp (dVar 3) (dCons (dCall fLen (dCons (dVar 0) dNil)) dNil)))
    (dSeq (dFor [1, 2, 4] (dIt (dLst false (dCons (dC (.int 5)) (dCons (dC (.int 6)) dNil)))) (gNm 2)
      (dSeq (dSet 4 (dComp false (dIt (dVar 0)) (gNm 5) (dTest (dOp (fIs true) (dOp fIx (dVar 5) (dVar 2)) (dC .non))) (dOp fIx (dVar 5) (dVar 2)) [5]))
    (dSeq (dDrop (dBM "list" fApp (dVar 3) (dCons (dCall fLen (dCons (dVar 4) dNil)) dNil)))
    (dSeq (dIf (dTest (dOp (fEq false) (dVar 2) (dC (.int 5))))
      (dDrop (dBM "list" fApp (dVar 3) (dCons (dCall m_total (dCons (dVar 4) dNil)) dNil)))
      dNx)
    (dSeq (dDrop (dBM "list" fApp (dVar 3) (dCons (dCall m_least (dCons (dVar 4) (dCons (dC (.bl false)) dNil))) dNil)))
    (dDrop (dBM "list" fApp (dVar 3) (dCons (dCall m_least (dCons (dVar 4) (dCons (dC (.bl true)) dNil))) dNil))))))))
    (dRet (dCall fTuple (dCons (dVar 3) dNil))))))
def m_items : MF := dFn 2 5
    (dSeq (dSet 3 (dComp true (dIt (dVar 0)) (gNm 2) dYes (dTup (dCons (dTup (dCons (dC (.str "column")) (dCons (dOp fIx (dLst false (dCons (dC .non) (dCons (dC (.str "s1_t")) dNil))) (dOp fMod (dVar 2) (dC (.int 2)))) (dCons (dOp fIx (dVar 1) (dVar 2)) dNil)))) (dCons (dC .non) dNil))) [2]))
    (dSeq (dDrop (dBM "list" fApp (dVar 3) (dCons (dTup (dCons (dTup (dCons (dC (.str "count_all")) dNil)) (dCons (dC (.str "many")) dNil))) dNil)))
    (dSeq (dFor [0, 2, 4] (dIt (dLst false (dCons (dC (.int 5)) (dCons (dC (.int 6)) dNil)))) (gNm 2)
      (dFor [0, 4] (dIt (dLst false (dCons (dC (.str "count")) (dCons (dC (.str "sum")) (dCons (dC (.str "min")) (dCons (dC (.str "max")) dNil)))))) (gNm 4)
      (dIf (dOr (dTest (dOp (fEq true) (dVar 4) (dC (.str "sum")))) (dTest (dOp (fEq false) (dVar 2) (dC (.int 5)))))
      (dDrop (dBM "list" fApp (dVar 3) (dCons (dTup (dCons (dTup (dCons (dC (.str "aggregate")) (dCons (dVar 4) (dCons (dTup (dCons (dC (.str "column")) (dCons (dC .non) (dCons (dOp fIx (dVar 1) (dVar 2)) dNil)))) dNil)))) (dCons (dC .non) dNil))) dNil)))
      dNx)))
    (dRet (dCall fTuple (dCons (dVar 3) dNil))))))
def m_law : MF := dFn 1 17
    (dSeq (dSet 1 (dLst true (dCons (dCall (fList false) (dCons (dVar 0) dNil)) (dCons (dC (.int 0)) (dCons (dC (.int 0)) (dCons (dC (.int 1)) dNil))))))
    (dSeq (dSet 3 (dOp (fAdd false) (dOp (fAdd false) (dLst false (dCons (dC (.str "text")) dNil)) (dComp false (dRng1 (dCons (dC (.int 4)) dNil)) (gNm 2) dYes (dOp fIx (dLst false (dCons (dC (.str "integer")) (dCons (dC (.str "text")) (dCons (dC (.str "boolean")) dNil)))) (dCall m_next (dCons (dVar 1) (dCons (dC (.int 3)) dNil)))) [2])) (dLst false (dCons (dC (.str "integer")) (dCons (dC (.str "text")) dNil)))))
    (dSeq (dBlock (dSeq (dSet 4 (dLst true dNil))
    (dFor [0, 2, 5, 6, 7, 8, 9, 10, 11, 12, 13] (dRng1 (dCons (dCall m_next (dCons (dVar 1) (dCons (dC (.int 10)) dNil))) dNil)) (gNm 2)
      (dBlock (dSeq (dSet 5 (dComp true (dIt (dSl false (dVar 3) (some (dC (.int 1))) none)) (gNm 15) dYes (dCall m_value (dCons (dVar 1) (dCons (dVar 15) dNil))) [15]))
    (dSeq (dIf (dAnd (dTest (dOp fGt (dVar 2) (dC (.int 0)))) (dTest (dOp fGt (dCall m_next (dCons (dVar 1) (dCons (dC (.int 3)) dNil))) (dC (.int 0)))))
      (dSeq (dSet 5 (dOp (fAdd true) (dCall (fList false) (dCons (dSl false (dOp fIx (dVar 4) (dOp fSub (dVar 2) (dC (.int 1)))) (some (dC (.int 1))) (some (dC (.int 5)))) dNil)) (dSl false (dVar 5) (some (dC (.int 4))) none)))
    (dAsg (dC .non) (gSb (dVar 5) (dCall m_next (dCons (dVar 1) (dCons (dC (.int 4)) dNil))))))
      dNx)
    (dDrop (dBM "list" fApp (dVar 4) (dCons (dOp (fAdd false) (dTup (dCons (dOp (fAdd false) (dOp (fAdd false) (dC (.str "2.")) (dCall fStr (dCons (dOp (fAdd false) (dVar 2) (dC (.int 1))) dNil))) (dC (.str ".1"))) dNil)) (dCall fTuple (dCons (dVar 5) dNil))) dNil)))))))))
    (dSeq (dSet 6 (dOp fIx (dLst false (dCons (dLst false dNil) (dCons (dLst false (dCons (dC (.int 1)) dNil)) (dCons (dLst false (dCons (dC (.int 2)) dNil)) (dCons (dLst false (dCons (dC (.int 1)) (dCons (dC (.int 2)) dNil))) (dCons (dLst false (dCons (dC (.int 2)) (dCons (dC (.int 1)) dNil))) (dCons (dLst false (dCons (dC (.int 1)) (dCons (dC (.int 1)) dNil))) (dCons (dLst false (dCons (dC (.int 3)) (dCons (dC (.int 1)) (dCons (dC (.int 2)) dNil)))) (dCons (dLst false (dCons (dC (.int 1)) (dCons (dC (.int 2)) (dCons (dC (.int 4)) dNil)))) (dCons (dLst false (dCons (dC (.int 4)) (dCons (dC (.int 2)) (dCons (dC (.int 3)) (dCons (dC (.int 1)) dNil))))) (dCons (dLst false (dCons (dC (.int 1)) (dCons (dC (.int 2)) (dCons (dC (.int 3)) (dCons (dC (.int 4)) dNil))))) dNil))))))))))) (dCall m_next (dCons (dVar 1) (dCons (dC (.int 10)) dNil)))))
    (dSeq (dSet 7 (dLst false (dCons (dC (.str "id")) (dCons (dC (.str "g")) (dCons (dC (.str "h")) (dCons (dC (.str "k")) (dCons (dC (.str "l")) (dCons (dC (.str "v")) (dCons (dC (.str "w")) dNil)))))))))
    (dSeq (dSet 8 (dC .non))
    (dSeq (dIf (dTest (dOp (fEq true) (dVar 6) (dLst false dNil)))
      (dSet 8 (dCall fTuple (dCons (dComp false (dIt (dVar 6)) (gNm 16) dYes (dTup (dCons (dC (.str "column")) (dCons (dOp fIx (dLst false (dCons (dC (.str "s1_t")) (dCons (dC .non) dNil))) (dCall m_next (dCons (dVar 1) (dCons (dC (.int 2)) dNil)))) (dCons (dOp fIx (dVar 7) (dVar 16)) dNil)))) [16]) dNil)))
      dNx)
    (dSeq (dSet 9 (dC .non))
    (dSeq (dSet 10 (dC (.int 0)))
    (dSeq (dIf (dTest (dOp (fEq false) (dCall m_next (dCons (dVar 1) (dCons (dC (.int 2)) dNil))) (dC (.int 1))))
      (dSeq (dSet 10 (dCall m_next (dCons (dVar 1) (dCons (dC (.int 4)) dNil))))
    (dSet 9 (dTup (dCons (dC (.str "binary")) (dCons (dC (.str ">=")) (dCons (dTup (dCons (dC (.str "count_all")) dNil)) (dCons (dTup (dCons (dC (.str "literal")) (dCons (dVar 10) dNil))) dNil)))))))
      dNx)
    (dSeq (dSet 11 (dComp false (dIt (dCall m_groups (dCons (dVar 4) (dCons (dVar 6) dNil)))) (gNm 14) (dTest (dOp fGe (dCall fLen (dCons (dVar 14) dNil)) (dVar 10))) (dCall m_made (dCons (dVar 14) (dCons (dVar 6) dNil))) [14]))
    (dSeq (dSet 12 (dKDisp (dPcons (dC (.str "s1_t")) (dMake false 2 m_Source_init (dCons (dC (.str "s1_t")) (dCons (dVar 7) (dCons (dVar 3) (dCons (dCall (fList false) (dCons (dVar 4) dNil)) dNil))))) dPnil)))
    (dSeq (dSet 13 (dTup (dCons (dC (.str "select")) (dCons (dC (.bl false)) (dCons (dCall m_items (dCons (dVar 6) (dCons (dVar 7) dNil))) (dCons (dTup (dCons (dC (.str "table")) (dCons (dC (.str "s1_t")) (dCons (dC .non) dNil)))) (dCons (dC .non) (dCons (dVar 8) (dCons (dVar 9) dNil)))))))))
    (dRet (dCall (m_lsame 40) (dCons (dCall m_query_rows (dCons (dVar 13) (dCons (dVar 12) (dCons (dLst false dNil) dNil)))) (dCons (dVar 11) dNil)))))))))))))))))
end Kb
namespace Kb
open PySem PySem.Spec PyProof.Rows L2 Pv
def topS (i : Nat) : Stmt := PySem.Challenge.pw_kithbase_k34_groups_and_aggregates.main.body.getD i (.Pass ⟨0, 0, 0, 0⟩)
abbrev s_World_init : Stmt := (inClass (topS 6) 0)
theorem sc_World_init : FnScope ["self", "sources", "parameters"] ["self", "sources", "parameters"] (defScope s_World_init) := ⟨rfl, rfl, rfl, by decide +kernel, rfl, by decide +kernel, by decide +kernel⟩
abbrev s_Frame_init : Stmt := (inClass (topS 7) 0)
theorem sc_Frame_init : FnScope ["self", "columns", "row", "members", "outer"] ["self", "columns", "row", "members", "outer"] (defScope s_Frame_init) := ⟨rfl, rfl, rfl, by decide +kernel, rfl, by decide +kernel, by decide +kernel⟩
abbrev s_named : Stmt := (topS 8)
theorem sc_named : FnScope ["columns", "source", "name", "found", "index", "column"] ["columns", "source", "name"] (defScope s_named) := ⟨rfl, rfl, rfl, by decide +kernel, rfl, by decide +kernel, by decide +kernel⟩
abbrev s_locate : Stmt := (topS 9)
theorem sc_locate : FnScope ["scope", "source", "name", "current", "found"] ["scope", "source", "name"] (defScope s_locate) := ⟨rfl, rfl, rfl, by decide +kernel, rfl, by decide +kernel, by decide +kernel⟩
abbrev s_own_index : Stmt := (topS 10)
theorem sc_own_index : FnScope ["columns", "node", "found"] ["columns", "node"] (defScope s_own_index) := ⟨rfl, rfl, rfl, by decide +kernel, rfl, by decide +kernel, by decide +kernel⟩
abbrev s_operands : Stmt := (topS 12)
theorem sc_operands : FnScope ["node", "form"] ["node"] (defScope s_operands) := ⟨rfl, rfl, rfl, by decide +kernel, rfl, by decide +kernel, by decide +kernel⟩
abbrev s_has_aggregate : Stmt := (topS 13)
theorem sc_has_aggregate : FnScope ["node", "part"] ["node"] (defScope s_has_aggregate) := ⟨rfl, rfl, rfl, by decide +kernel, rfl, by decide +kernel, by decide +kernel⟩
abbrev s_is_grouping : Stmt := (topS 14)
theorem sc_is_grouping : FnScope ["select", "item"] ["select"] (defScope s_is_grouping) := ⟨rfl, rfl, rfl, by decide +kernel, rfl, by decide +kernel, by decide +kernel⟩
abbrev s_item_name : Stmt := (topS 15)
theorem sc_item_name : FnScope ["item", "expression", "name"] ["item"] (defScope s_item_name) := ⟨rfl, rfl, rfl, by decide +kernel, rfl, by decide +kernel, by decide +kernel⟩
abbrev s_known_as : Stmt := (topS 16)
theorem sc_known_as : FnScope ["source"] ["source"] (defScope s_known_as) := ⟨rfl, rfl, rfl, by decide +kernel, rfl, by decide +kernel, by decide +kernel⟩
abbrev s_value_key : Stmt := (topS 20)
theorem sc_value_key : FnScope ["value"] ["value"] (defScope s_value_key) := ⟨rfl, rfl, rfl, by decide +kernel, rfl, by decide +kernel, by decide +kernel⟩
abbrev s_row_key : Stmt := (topS 21)
theorem sc_row_key : FnScope ["row", "parts", "value"] ["row"] (defScope s_row_key) := ⟨rfl, rfl, rfl, by decide +kernel, rfl, by decide +kernel, by decide +kernel⟩
abbrev s_same : Stmt := (topS 22)
theorem sc_same : FnScope ["first", "second"] ["first", "second"] (defScope s_same) := ⟨rfl, rfl, rfl, by decide +kernel, rfl, by decide +kernel, by decide +kernel⟩
abbrev s_bounded : Stmt := (topS 23)
theorem sc_bounded : FnScope ["number"] ["number"] (defScope s_bounded) := ⟨rfl, rfl, rfl, by decide +kernel, rfl, by decide +kernel, by decide +kernel⟩
abbrev s_quotient : Stmt := (topS 24)
theorem sc_quotient : FnScope ["first", "second", "result"] ["first", "second"] (defScope s_quotient) := ⟨rfl, rfl, rfl, by decide +kernel, rfl, by decide +kernel, by decide +kernel⟩
abbrev s_arithmetic : Stmt := (topS 25)
theorem sc_arithmetic : FnScope ["operator", "first", "second", "joined"] ["operator", "first", "second"] (defScope s_arithmetic) := ⟨rfl, rfl, rfl, by decide +kernel, rfl, by decide +kernel, by decide +kernel⟩
abbrev s_compare : Stmt := (topS 26)
theorem sc_compare : FnScope ["operator", "first", "second", "left", "right"] ["operator", "first", "second"] (defScope s_compare) := ⟨rfl, rfl, rfl, by decide +kernel, rfl, by decide +kernel, by decide +kernel⟩
abbrev s_negation : Stmt := (topS 27)
theorem sc_negation : FnScope ["value"] ["value"] (defScope s_negation) := ⟨rfl, rfl, rfl, by decide +kernel, rfl, by decide +kernel, by decide +kernel⟩
abbrev s_conjunction : Stmt := (topS 28)
theorem sc_conjunction : FnScope ["first", "second"] ["first", "second"] (defScope s_conjunction) := ⟨rfl, rfl, rfl, by decide +kernel, rfl, by decide +kernel, by decide +kernel⟩
abbrev s_disjunction : Stmt := (topS 29)
theorem sc_disjunction : FnScope ["first", "second"] ["first", "second"] (defScope s_disjunction) := ⟨rfl, rfl, rfl, by decide +kernel, rfl, by decide +kernel, by decide +kernel⟩
abbrev s_value_of : Stmt := (topS 32)
theorem sc_value_of : FnScope ["node", "frame", "world", "form", "found", "index"] ["node", "frame", "world"] (defScope s_value_of) := ⟨rfl, rfl, rfl, by decide +kernel, rfl, by decide +kernel, by decide +kernel⟩
abbrev s_combined : Stmt := (topS 33)
theorem sc_combined : FnScope ["operator", "first", "second"] ["operator", "first", "second"] (defScope s_combined) := ⟨rfl, rfl, rfl, by decide +kernel, rfl, by decide +kernel, by decide +kernel⟩
abbrev s_membership : Stmt := (topS 34)
theorem sc_membership : FnScope ["node", "frame", "world", "value", "found", "item", "row"] ["node", "frame", "world"] (defScope s_membership) := ⟨rfl, rfl, rfl, by decide +kernel, rfl, by decide +kernel, by decide +kernel⟩
abbrev s_is_among : Stmt := (topS 35)
theorem sc_is_among : FnScope ["value", "column", "other"] ["value", "column"] (defScope s_is_among) := ⟨rfl, rfl, rfl, by decide +kernel, rfl, by decide +kernel, by decide +kernel⟩
abbrev s_aggregate : Stmt := (topS 36)
theorem sc_aggregate : FnScope ["node", "frame", "world", "values", "row", "value"] ["node", "frame", "world"] (defScope s_aggregate) := ⟨rfl, rfl, rfl, by decide +kernel, rfl, by decide +kernel, by decide +kernel⟩
abbrev s_kept_frames : Stmt := (topS 37)
theorem sc_kept_frames : FnScope ["condition", "frames", "world", "frame"] ["condition", "frames", "world"] (defScope s_kept_frames) := ⟨rfl, rfl, rfl, by decide +kernel, rfl, by decide +kernel, by decide +kernel⟩
abbrev s_without_repeats : Stmt := (topS 38)
theorem sc_without_repeats : FnScope ["rows", "found", "row"] ["rows"] (defScope s_without_repeats) := ⟨rfl, rfl, rfl, by decide +kernel, rfl, by decide +kernel, by decide +kernel⟩
abbrev s_table_result : Stmt := (topS 39)
theorem sc_table_result : FnScope ["source", "world", "table", "name"] ["source", "world"] (defScope s_table_result) := ⟨rfl, rfl, rfl, by decide +kernel, rfl, by decide +kernel, by decide +kernel⟩
abbrev s_source_result : Stmt := (topS 40)
theorem sc_source_result : FnScope ["source", "outer", "world", "names", "rows", "left", "left_rows", "right", "right_rows", "columns", "joined", "row", "frames", "matches", "other", "frame", "name", "_"] ["source", "outer", "world"] (defScope s_source_result) := ⟨rfl, rfl, rfl, by decide +kernel, rfl, by decide +kernel, by decide +kernel⟩
abbrev s_grouped_frames : Stmt := (topS 41)
theorem sc_grouped_frames : FnScope ["select", "columns", "rows", "outer", "first", "indexes", "groups", "row", "node", "members", "index"] ["select", "columns", "rows", "outer"] (defScope s_grouped_frames) := ⟨rfl, rfl, rfl, by decide +kernel, rfl, by decide +kernel, by decide +kernel⟩
abbrev s_select_result : Stmt := (topS 42)
theorem sc_select_result : FnScope ["select", "outer", "world", "columns", "rows", "frames", "names", "made", "row", "column", "frame", "item"] ["select", "outer", "world"] (defScope s_select_result) := ⟨rfl, rfl, rfl, by decide +kernel, rfl, by decide +kernel, by decide +kernel⟩
abbrev s_made_row : Stmt := (topS 43)
theorem sc_made_row : FnScope ["items", "frame", "world", "item"] ["items", "frame", "world"] (defScope s_made_row) := ⟨rfl, rfl, rfl, by decide +kernel, rfl, by decide +kernel, by decide +kernel⟩
abbrev s_result_of : Stmt := (topS 44)
theorem sc_result_of : FnScope ["query", "outer", "world", "names", "first", "second", "there", "wanted", "row"] ["query", "outer", "world"] (defScope s_result_of) := ⟨rfl, rfl, rfl, by decide +kernel, rfl, by decide +kernel, by decide +kernel⟩
abbrev s_query_rows : Stmt := (topS 45)
theorem sc_query_rows : FnScope ["query", "sources", "parameters"] ["query", "sources", "parameters"] (defScope s_query_rows) := ⟨rfl, rfl, rfl, by decide +kernel, rfl, by decide +kernel, by decide +kernel⟩
abbrev s_Source_init : Stmt := (inClass (topS 47) 0)
theorem sc_Source_init : FnScope ["self", "name", "columns", "kinds", "rows"] ["self", "name", "columns", "kinds", "rows"] (defScope s_Source_init) := ⟨rfl, rfl, rfl, by decide +kernel, rfl, by decide +kernel, by decide +kernel⟩
abbrev s_next : Stmt := (topS 49)
theorem sc_next : FnScope ["_law_state", "_law_limit", "_law_cell", "_law_value_here"] ["_law_state", "_law_limit"] (defScope s_next) := ⟨rfl, rfl, rfl, by decide +kernel, rfl, by decide +kernel, by decide +kernel⟩
abbrev s_lsame : Stmt := (topS 50)
theorem sc_lsame : FnScope ["_law_actual", "_law_expected", "_law_k"] ["_law_actual", "_law_expected"] (defScope s_lsame) := ⟨rfl, rfl, rfl, by decide +kernel, rfl, by decide +kernel, by decide +kernel⟩
abbrev s_char : Stmt := (topS 51)
theorem sc_char : FnScope ["_law_index", "_law_chars"] ["_law_index"] (defScope s_char) := ⟨rfl, rfl, rfl, by decide +kernel, rfl, by decide +kernel, by decide +kernel⟩
abbrev s_value : Stmt := (topS 52)
theorem sc_value : FnScope ["_law_state", "_law_kind", "_law_text"] ["_law_state", "_law_kind"] (defScope s_value) := ⟨rfl, rfl, rfl, by decide +kernel, rfl, by decide +kernel, by decide +kernel⟩
abbrev s_key : Stmt := (topS 53)
theorem sc_key : FnScope ["_law_value_here"] ["_law_value_here"] (defScope s_key) := ⟨rfl, rfl, rfl, by decide +kernel, rfl, by decide +kernel, by decide +kernel⟩
abbrev s_lrow_key : Stmt := (topS 54)
theorem sc_lrow_key : FnScope ["_law_row", "_law_value_here"] ["_law_row"] (defScope s_lrow_key) := ⟨rfl, rfl, rfl, by decide +kernel, rfl, by decide +kernel, by decide +kernel⟩
abbrev s_groups : Stmt := (topS 55)
theorem sc_groups : FnScope ["_law_rows", "_law_places", "_law_keys", "_law_groups_here", "_law_row", "_law_key_here", "_law_place"] ["_law_rows", "_law_places"] (defScope s_groups) := ⟨rfl, rfl, rfl, by decide +kernel, rfl, by decide +kernel, by decide +kernel⟩
abbrev s_least : Stmt := (topS 56)
theorem sc_least : FnScope ["_law_values", "_law_down", "_law_found", "_law_value_here"] ["_law_values", "_law_down"] (defScope s_least) := ⟨rfl, rfl, rfl, by decide +kernel, rfl, by decide +kernel, by decide +kernel⟩
abbrev s_total : Stmt := (topS 57)
theorem sc_total : FnScope ["_law_values"] ["_law_values"] (defScope s_total) := ⟨rfl, rfl, rfl, by decide +kernel, rfl, by decide +kernel, by decide +kernel⟩
abbrev s_made : Stmt := (topS 58)
theorem sc_made : FnScope ["_law_group", "_law_places", "_law_place", "_law_row", "_law_values", "_law_each"] ["_law_group", "_law_places"] (defScope s_made) := ⟨rfl, rfl, rfl, by decide +kernel, rfl, by decide +kernel, by decide +kernel⟩
abbrev s_items : Stmt := (topS 59)
theorem sc_items : FnScope ["_law_places", "_law_names", "_law_place", "_law_items_here", "_law_function"] ["_law_places", "_law_names"] (defScope s_items) := ⟨rfl, rfl, rfl, by decide +kernel, rfl, by decide +kernel, by decide +kernel⟩
abbrev s_law : Stmt := (topS 60)
theorem sc_law : FnScope ["_law_script", "_law_state", "_law_k", "_law_kinds", "_law_rows", "_law_values", "_law_places", "_law_names", "_law_group", "_law_having", "_law_least_here", "_law_expected", "_law_sources", "_law_select", "_law_each", "_law_kind", "_law_place"] ["_law_script"] (defScope s_law) := ⟨rfl, rfl, rfl, by decide +kernel, rfl, by decide +kernel, by decide +kernel⟩
def fa0 : List He.Fa := [.cls "World", .glo "World", .noat "World" "parameters", .noat "World" "sources", .cls "Frame", .glo "Frame", .noat "Frame" "columns", .noat "Frame" "members", .noat "Frame" "outer", .noat "Frame" "row", .cls "Source", .glo "Source", .noat "Source" "columns", .noat "Source" "kinds", .noat "Source" "name", .noat "Source" "rows", .mkr "World", .mkr "Frame", .glo "named", .glo "locate", .glo "own_index", .glo "operands"]
def fa1 : List He.Fa := [.glo "has_aggregate", .glo "is_grouping", .glo "item_name", .glo "known_as", .glo "value_key", .glo "row_key", .glo "same", .glo "bounded", .glo "quotient"]
def fa2 : List He.Fa := [.glo "arithmetic", .glo "compare", .glo "negation", .glo "conjunction", .glo "disjunction", .glo "value_of", .glo "combined", .glo "membership", .glo "is_among"]
def fa3 : List He.Fa := [.glo "aggregate", .glo "kept_frames", .glo "without_repeats", .glo "table_result", .glo "source_result", .glo "grouped_frames", .glo "select_result", .glo "made_row", .glo "result_of"]
def fa4 : List He.Fa := [.glo "query_rows", .mkr "Source", .glo "_law_next", .glo "_law_same", .glo "_law_char", .glo "_law_value", .glo "_law_key", .glo "_law_row_key", .glo "_law_groups"]
def fa5 : List He.Fa := [.glo "_law_least", .glo "_law_total", .glo "_law_made", .glo "_law_items", .glo "law", .free "abs", .free "any", .free "bool", .free "enumerate", .free "int", .free "isinstance", .free "len", .free "list", .free "range", .free "sorted", .free "str", .free "sum", .free "tuple"]
def fa6 : List He.Fa := []
def fn0 : List He.FnD := [⟨("World", some "__init__"), "__init__", "World.__init__", defArgs s_World_init, defBody s_World_init, defScope s_World_init⟩, ⟨("Frame", some "__init__"), "__init__", "Frame.__init__", defArgs s_Frame_init, defBody s_Frame_init, defScope s_Frame_init⟩, ⟨("named", none), "named", "named", defArgs s_named, defBody s_named, defScope s_named⟩, ⟨("locate", none), "locate", "locate", defArgs s_locate, defBody s_locate, defScope s_locate⟩, ⟨("own_index", none), "own_index", "own_index", defArgs s_own_index, defBody s_own_index, defScope s_own_index⟩, ⟨("operands", none), "operands", "operands", defArgs s_operands, defBody s_operands, defScope s_operands⟩]
def fn1 : List He.FnD := [⟨("has_aggregate", none), "has_aggregate", "has_aggregate", defArgs s_has_aggregate, defBody s_has_aggregate, defScope s_has_aggregate⟩, ⟨("is_grouping", none), "is_grouping", "is_grouping", defArgs s_is_grouping, defBody s_is_grouping, defScope s_is_grouping⟩, ⟨("item_name", none), "item_name", "item_name", defArgs s_item_name, defBody s_item_name, defScope s_item_name⟩, ⟨("known_as", none), "known_as", "known_as", defArgs s_known_as, defBody s_known_as, defScope s_known_as⟩, ⟨("value_key", none), "value_key", "value_key", defArgs s_value_key, defBody s_value_key, defScope s_value_key⟩, ⟨("row_key", none), "row_key", "row_key", defArgs s_row_key, defBody s_row_key, defScope s_row_key⟩, ⟨("same", none), "same", "same", defArgs s_same, defBody s_same, defScope s_same⟩, ⟨("bounded", none), "bounded", "bounded", defArgs s_bounded, defBody s_bounded, defScope s_bounded⟩, ⟨("quotient", none), "quotient", "quotient", defArgs s_quotient, defBody s_quotient, defScope s_quotient⟩]
def fn2 : List He.FnD := [⟨("arithmetic", none), "arithmetic", "arithmetic", defArgs s_arithmetic, defBody s_arithmetic, defScope s_arithmetic⟩, ⟨("compare", none), "compare", "compare", defArgs s_compare, defBody s_compare, defScope s_compare⟩, ⟨("negation", none), "negation", "negation", defArgs s_negation, defBody s_negation, defScope s_negation⟩, ⟨("conjunction", none), "conjunction", "conjunction", defArgs s_conjunction, defBody s_conjunction, defScope s_conjunction⟩, ⟨("disjunction", none), "disjunction", "disjunction", defArgs s_disjunction, defBody s_disjunction, defScope s_disjunction⟩, ⟨("value_of", none), "value_of", "value_of", defArgs s_value_of, defBody s_value_of, defScope s_value_of⟩, ⟨("combined", none), "combined", "combined", defArgs s_combined, defBody s_combined, defScope s_combined⟩, ⟨("membership", none), "membership", "membership", defArgs s_membership, defBody s_membership, defScope s_membership⟩, ⟨("is_among", none), "is_among", "is_among", defArgs s_is_among, defBody s_is_among, defScope s_is_among⟩]
def fn3 : List He.FnD := [⟨("aggregate", none), "aggregate", "aggregate", defArgs s_aggregate, defBody s_aggregate, defScope s_aggregate⟩, ⟨("kept_frames", none), "kept_frames", "kept_frames", defArgs s_kept_frames, defBody s_kept_frames, defScope s_kept_frames⟩, ⟨("without_repeats", none), "without_repeats", "without_repeats", defArgs s_without_repeats, defBody s_without_repeats, defScope s_without_repeats⟩, ⟨("table_result", none), "table_result", "table_result", defArgs s_table_result, defBody s_table_result, defScope s_table_result⟩, ⟨("source_result", none), "source_result", "source_result", defArgs s_source_result, defBody s_source_result, defScope s_source_result⟩, ⟨("grouped_frames", none), "grouped_frames", "grouped_frames", defArgs s_grouped_frames, defBody s_grouped_frames, defScope s_grouped_frames⟩, ⟨("select_result", none), "select_result", "select_result", defArgs s_select_result, defBody s_select_result, defScope s_select_result⟩, ⟨("made_row", none), "made_row", "made_row", defArgs s_made_row, defBody s_made_row, defScope s_made_row⟩, ⟨("result_of", none), "result_of", "result_of", defArgs s_result_of, defBody s_result_of, defScope s_result_of⟩]
def fn4 : List He.FnD := [⟨("query_rows", none), "query_rows", "query_rows", defArgs s_query_rows, defBody s_query_rows, defScope s_query_rows⟩, ⟨("Source", some "__init__"), "__init__", "Source.__init__", defArgs s_Source_init, defBody s_Source_init, defScope s_Source_init⟩, ⟨("_law_next", none), "_law_next", "_law_next", defArgs s_next, defBody s_next, defScope s_next⟩, ⟨("_law_same", none), "_law_same", "_law_same", defArgs s_lsame, defBody s_lsame, defScope s_lsame⟩, ⟨("_law_char", none), "_law_char", "_law_char", defArgs s_char, defBody s_char, defScope s_char⟩, ⟨("_law_value", none), "_law_value", "_law_value", defArgs s_value, defBody s_value, defScope s_value⟩, ⟨("_law_key", none), "_law_key", "_law_key", defArgs s_key, defBody s_key, defScope s_key⟩, ⟨("_law_row_key", none), "_law_row_key", "_law_row_key", defArgs s_lrow_key, defBody s_lrow_key, defScope s_lrow_key⟩, ⟨("_law_groups", none), "_law_groups", "_law_groups", defArgs s_groups, defBody s_groups, defScope s_groups⟩]
def fn5 : List He.FnD := [⟨("_law_least", none), "_law_least", "_law_least", defArgs s_least, defBody s_least, defScope s_least⟩, ⟨("_law_total", none), "_law_total", "_law_total", defArgs s_total, defBody s_total, defScope s_total⟩, ⟨("_law_made", none), "_law_made", "_law_made", defArgs s_made, defBody s_made, defScope s_made⟩, ⟨("_law_items", none), "_law_items", "_law_items", defArgs s_items, defBody s_items, defScope s_items⟩, ⟨("law", none), "law", "law", defArgs s_law, defBody s_law, defScope s_law⟩]
def fn6 : List He.FnD := []
def fas : List (List He.Fa) := [fa0, fa1, fa2, fa3, fa4, fa5, fa6]
def fns : List (List He.FnD) := [fn0, fn1, fn2, fn3, fn4, fn5, fn6]
def csl : List (Str × P) := [("BOUND", Kb.u_BOUND), ("LONGEST_TEXT", Kb.u_LONGESTTEXT), ("COMPARISONS", Kb.u_COMPARISONS)]
end Kb
namespace Kb
open PySem PySem.W PySem.Calls PyProof.Rows
def hn0 : List PySem.Str := [PySem.Str.ofString "KithbaseError", PySem.Str.ofString "QuestionError", PySem.Str.ofString "UnknownColumn", PySem.Str.ofString "AmbiguousColumn", PySem.Str.ofString "World", PySem.Str.ofString "Frame", PySem.Str.ofString "named", PySem.Str.ofString "locate", PySem.Str.ofString "own_index", PySem.Str.ofString "operands", PySem.Str.ofString "has_aggregate", PySem.Str.ofString "is_grouping"]
def hn1 : List PySem.Str := [PySem.Str.ofString "item_name", PySem.Str.ofString "known_as", PySem.Str.ofString "BOUND", PySem.Str.ofString "LONGEST_TEXT", PySem.Str.ofString "value_key", PySem.Str.ofString "row_key", PySem.Str.ofString "same", PySem.Str.ofString "bounded", PySem.Str.ofString "quotient", PySem.Str.ofString "arithmetic", PySem.Str.ofString "compare", PySem.Str.ofString "negation"]
def hn2 : List PySem.Str := [PySem.Str.ofString "conjunction", PySem.Str.ofString "disjunction", PySem.Str.ofString "COMPARISONS", PySem.Str.ofString "value_of", PySem.Str.ofString "combined", PySem.Str.ofString "membership", PySem.Str.ofString "is_among", PySem.Str.ofString "aggregate", PySem.Str.ofString "kept_frames", PySem.Str.ofString "without_repeats", PySem.Str.ofString "table_result", PySem.Str.ofString "source_result"]
def hn3 : List PySem.Str := [PySem.Str.ofString "grouped_frames", PySem.Str.ofString "select_result", PySem.Str.ofString "made_row", PySem.Str.ofString "result_of", PySem.Str.ofString "query_rows", PySem.Str.ofString "Source", PySem.Str.ofString "_law_next", PySem.Str.ofString "_law_same", PySem.Str.ofString "_law_char", PySem.Str.ofString "_law_value", PySem.Str.ofString "_law_key", PySem.Str.ofString "_law_row_key"]
def hn4 : List PySem.Str := [PySem.Str.ofString "_law_groups", PySem.Str.ofString "_law_least", PySem.Str.ofString "_law_total", PySem.Str.ofString "_law_made", PySem.Str.ofString "_law_items"]
def hnames : List PySem.Str := hn0 ++ hn1 ++ hn2 ++ hn3 ++ hn4
def hk : PySem.W.Hook := Pv.hookC 1200 fas fns csl
def hob (s : PySem.W.SharedT) : Pv.AlC := Pv.obsCG 1200 fas fns csl (HandSHeadRun.getT s)
theorem hob_eq (s : PySem.W.SharedT) : hob s = hk.obs s.abs := Pv.obsCG_eq (HandSHeadRun.getT_eq s)
set_option maxHeartbeats 0 in
theorem hrun (w : World) : HandSHeadRun.RunEq (PySem.W.OpenLaw.row PySem.Challenge.rw_kithbase_k34_groups_and_aggregates) (view (PySem.W.OpenLaw.row PySem.Challenge.rw_kithbase_k34_groups_and_aggregates).prog [60]) hk hob 9000 hnames w := by
  intro os
  kernel_rfl
end Kb
namespace Kb
open PySem PySem.Spec PyProof.Rows L2 Pv
/-! equality, items -/
theorem lin {n : Nat} (h : n ≤ 1000000) : n ≤ sizeLine := Nat.le_trans h line_ge
theorem fEq_d (neg : Bool) {x y : P} (hx : okd 40 x = true) (hy : okd 40 y = true) (S : SH) : fEq neg (.p x) (.p y) S = some (.p (.bl (if neg = true then !peq x y else peq x y)), S) := by
  unfold fEq
  rw [rdP_p, rdP_p]
  dsimp only
  rw [if_pos ⟨hx, hy⟩]
theorem fEq_t {a b : Str} (h : (a == b) = true) (S : SH) : fEq false (.p (.str a)) (.p (.str b)) S = some (.p (.bl true), S) := by
  rw [fEq_d false rfl rfl]
  rw [show peq (.str a) (.str b) = (a == b) from rfl, h]
  rfl
theorem fEq_f {a b : Str} (h : (a == b) = false) (S : SH) : fEq false (.p (.str a)) (.p (.str b)) S = some (.p (.bl false), S) := by
  rw [fEq_d false rfl rfl]
  rw [show peq (.str a) (.str b) = (a == b) from rfl, h]
  rfl
theorem fEq_ii (neg : Bool) (a b : Int) (S : SH) : fEq neg (.p (.int a)) (.p (.int b)) S = some (.p (.bl (if neg = true then !decide (a = b) else decide (a = b))), S) := by
  have h : peq (.int a) (.int b) = decide (a = b) := by
    show (a == b) = _
    exact Bool.eq_iff_iff.mpr (by simp)
  rw [fEq_d neg rfl rfl, h]
theorem fEq_ss (neg : Bool) (a b : Str) (S : SH) : fEq neg (.p (.str a)) (.p (.str b)) S = some (.p (.bl (if neg = true then !(a == b) else (a == b))), S) := fEq_d neg rfl rfl S
theorem fEq_bb (neg : Bool) (a b : Bool) (S : SH) : fEq neg (.p (.bl a)) (.p (.bl b)) S = some (.p (.bl (if neg = true then !(a == b) else (a == b))), S) := fEq_d neg rfl rfl S
/-- a text among written texts -/
theorem inS_t {a : Str} {ys : List P} (hy : ys.all (okd 40) = true) (h : (ys.any fun y => peq y (.str a)) = true) (S : SH) : fInG false (.p (.str a)) (.p (.tup ys)) S = some (.p (.bl true), S) := by
  show fIn false (.p (.str a)) (.p (.tup ys)) S = _
  unfold fIn
  rw [rdP_p, rdP_p]
  dsimp only
  rw [if_pos ⟨rfl, hy⟩, h]
  rfl
theorem inS_f {a : Str} {ys : List P} (hy : ys.all (okd 40) = true) (h : (ys.any fun y => peq y (.str a)) = false) (S : SH) : fInG false (.p (.str a)) (.p (.tup ys)) S = some (.p (.bl false), S) := by
  show fIn false (.p (.str a)) (.p (.tup ys)) S = _
  unfold fIn
  rw [rdP_p, rdP_p]
  dsimp only
  rw [if_pos ⟨rfl, hy⟩, h]
  rfl
theorem ix0 (a : P) (r : List P) (S : SH) : fIx (.p (.tup (a :: r))) (.p (.int 0)) S = some (.p a, S) := fIx_t (n := 0) rfl
theorem ix1 (a b : P) (r : List P) (S : SH) : fIx (.p (.tup (a :: b :: r))) (.p (.int 1)) S = some (.p b, S) := fIx_t (n := 1) rfl
theorem ix2 (a b c : P) (r : List P) (S : SH) : fIx (.p (.tup (a :: b :: c :: r))) (.p (.int 2)) S = some (.p c, S) := fIx_t (n := 2) rfl
theorem ix3 (a b c d : P) (r : List P) (S : SH) : fIx (.p (.tup (a :: b :: c :: d :: r))) (.p (.int 3)) S = some (.p d, S) := fIx_t (n := 3) rfl
theorem ix4 (a b c d e : P) (r : List P) (S : SH) : fIx (.p (.tup (a :: b :: c :: d :: e :: r))) (.p (.int 4)) S = some (.p e, S) := fIx_t (n := 4) rfl
theorem ix5 (a b c d e f : P) (r : List P) (S : SH) : fIx (.p (.tup (a :: b :: c :: d :: e :: f :: r))) (.p (.int 5)) S = some (.p f, S) := fIx_t (n := 5) rfl
theorem ix6 (a b c d e f g : P) (r : List P) (S : SH) : fIx (.p (.tup (a :: b :: c :: d :: e :: f :: g :: r))) (.p (.int 6)) S = some (.p g, S) := fIx_t (n := 6) rfl
theorem fAdd_tt (l : Bool) (a b : List P) (h : a.length + b.length ≤ 1000000) (S : SH) : fAdd l (.p (.tup a)) (.p (.tup b)) S = some (.p (.tup (a ++ b)), S) := if_pos (lin h)
/-! the law's state -/
structure St where
  ns : List Int
  k : Nat
  cur : Int
  sd : Int
def St.ok (s : St) : Prop := 0 ≤ s.cur ∧ 0 ≤ s.sd ∧ s.ns.length ≤ 63
def stO (s : St) : Ob := .lst [.p (.lst (intsP s.ns)), .p (.int (s.k : Int)), .p (.int s.cur), .p (.int s.sd)]
section
variable {os : List Ob} {m : Nat} {s : St} (h : os[m]? = some (stO s))
include h
theorem st0 (b : Nat) : fIx (.ref m) (.p (.int 0)) ⟨b, os⟩ = some (.p (.lst (intsP s.ns)), ⟨b, os⟩) := fIx_ri (i := 0) h (by decide) rfl
theorem st1 (b : Nat) : fIx (.ref m) (.p (.int 1)) ⟨b, os⟩ = some (.p (.int (s.k : Int)), ⟨b, os⟩) := fIx_ri (i := 1) h (by decide) rfl
theorem st2 (b : Nat) : fIx (.ref m) (.p (.int 2)) ⟨b, os⟩ = some (.p (.int s.cur), ⟨b, os⟩) := fIx_ri (i := 2) h (by decide) rfl
theorem st3 (b : Nat) : fIx (.ref m) (.p (.int 3)) ⟨b, os⟩ = some (.p (.int s.sd), ⟨b, os⟩) := fIx_ri (i := 3) h (by decide) rfl
theorem xt1 (b : Nat) : ixL (.ref m) (.p (.int 1)) ⟨b, os⟩ = some (.p (.int (s.k : Int))) := by
  unfold ixL
  dsimp only
  rw [show (SH.mk b os).os[m]? = some (stO s) from h]
  rfl
theorem se1 (b : Nat) (k : Nat) : setIx (.ref m) (.p (.int 1)) (.p (.int (k : Int))) ⟨b, os⟩ = some ⟨b, os.set m (stO { s with k := k })⟩ := setIx_ri (ds := [_, _, _, _]) (i := 1) h (by decide) (by show 1 < (4 : Nat); decide)
theorem se2 (b : Nat) (x : Int) : setIx (.ref m) (.p (.int 2)) (.p (.int x)) ⟨b, os⟩ = some ⟨b, os.set m (stO { s with cur := x })⟩ := setIx_ri (ds := [_, _, _, _]) (i := 2) h (by decide) (by show 2 < (4 : Nat); decide)
theorem se3 (b : Nat) (x : Int) : setIx (.ref m) (.p (.int 3)) (.p (.int x)) ⟨b, os⟩ = some ⟨b, os.set m (stO { s with sd := x })⟩ := setIx_ri (ds := [_, _, _, _]) (i := 3) h (by decide) (by show 3 < (4 : Nat); decide)
theorem st_put (s' : St) : (os.set m (stO s'))[m]? = some (stO s') := by
  rw [List.getElem?_set_self (List.getElem?_eq_some_iff.mp h).1]
end
theorem l_AugS {o i e : ME} {f : D → D → SH → Option (D × SH)} {σ : En} {S : SH} : dAugS o i e f σ S = bl (o σ S) (fun x S1 => bl (i σ S1) (fun y S2 => match ixL x y S2 with
  | some old => bl (e σ S2) (fun v S4 => bl (f old v S4) (fun z S5 => optL (setIx x y z S5) (fun S6 => some (.nx σ, S6)) ⟨⟩) ⟨⟩) ⟨⟩
  | none => none) ⟨⟩) ⟨⟩ := id rfl
theorem fAug_i (i j : Int) (S : SH) : fAug (.p (.int i)) (.p (.int j)) S = some (.p (.int (i + j)), S) := id rfl
theorem pow_i {n : Nat} (h : n ≤ 1000) (S : SH) : fPow (.p (.int 10)) (.p (.int (n : Int))) S = some (.p (.int (10 ^ n)), S) := by
  refine (fII_eq _ _ _ _ S).trans ?_
  rw [if_pos (by unfold powOk; simp; omega), Int.toNat_natCast]
theorem pow18 (S : SH) : fPow (.p (.int 10)) (.p (.int 18)) S = some (.p (.int (10 ^ 18)), S) := pow_i (n := 18) (by decide) S
theorem pow40 (S : SH) : fPow (.p (.int 10)) (.p (.int 40)) S = some (.p (.int (10 ^ 40)), S) := pow_i (n := 40) (by decide) S
theorem divW {i j : Int} (h0 : 0 < j) (h1 : j ≤ 10 ^ 60) (S : SH) : fDiv (.p (.int i)) (.p (.int j)) S = some (.p (.int (i / j)), S) := by
  refine (fII_eq _ _ _ _ S).trans (if_pos ?_)
  unfold divOk
  rw [decide_eq_true h0, Bool.true_and, decide_eq_true_eq]
  have h2 : j.natAbs < 2 ^ 9000 := by
    have : j.natAbs ≤ 10 ^ 60 := by omega
    exact Nat.lt_of_le_of_lt this (by decide +kernel)
  by_cases z : j.natAbs = 0
  · rw [z]; decide
  · exact (Nat.log2_lt z).mpr h2
theorem setset {os : List Ob} (m : Nat) (x y : Ob) : (os.set m x).set m y = os.set m y := List.set_set ..
/-- a draw -/
theorem next_eq {s : St} (ok : s.ok) {lim : Int} (h0 : 0 < lim) (h1 : lim ≤ 10 ^ 60) :
    ∃ (v : Nat) (s' : St), s'.ok ∧ (v : Int) < lim ∧ ∀ (os : List Ob) (m : Nat) (_ : os[m]? = some (stO s)) b, m_next [.ref m, .p (.int lim)] ⟨b, os⟩ = some (.p (.int (v : Int)), ⟨b, os.set m (stO s')⟩) := by
  obtain ⟨k0, k1, k2⟩ := ok
  have M : (0 : Int) < 2147483647 := by decide
  -- behind the first part
  have p2 : ∀ (s1 : St), s1.ok → s1.ns = s.ns → ∃ (v : Nat) (s' : St), s'.ok ∧ (v : Int) < lim ∧ ∀ (os : List Ob) (m : Nat) (_ : os[m]? = some (stO s)) b (x2 x3 : Option D), Ev ((dSeq (dIf (dTest (dOp fGt (dOp fIx (dVar 0) (dC (.int 2))) (dC (.int 0))))
      (dSeq (dSet 3 (dOp fMod (dCall fInt (dCons (dOp fIx (dVar 0) (dC (.int 2))) dNil)) (dVar 1)))
    (dSeq (dAsg (dOp fDiv (dOp fIx (dVar 0) (dC (.int 2))) (dVar 1)) (gSb (dVar 0) (dC (.int 2))))
    (dRet (dVar 3))))
      dNx)
    (dSeq (dAsg (dOp fMod (dCall fInt (dCons (dOp (fAdd false) (dOp fMul (dOp fIx (dVar 0) (dC (.int 3))) (dC (.int 69621))) (dC (.int 12345))) dNil)) (dC (.int 2147483647))) (gSb (dVar 0) (dC (.int 3))))
    (dRet (dOp fMod (dCall fInt (dCons (dOp fDiv (dOp fIx (dVar 0) (dC (.int 3))) (dC (.int 7))) dNil)) (dVar 1)))) : MS) [some (.ref m), some (.p (.int lim)), x2, x3] ⟨b, os.set m (stO s1)⟩) (fun f T => f = .ret (.p (.int (v : Int))) ∧ T = ⟨b, os.set m (stO s')⟩) ⟨⟩ := by
    intro s1 ⟨c0, c1, c2⟩ en
    by_cases q : 0 < s1.cur
    · refine ⟨(s1.cur % lim).toNat, { s1 with cur := s1.cur / lim }, ⟨Int.ediv_nonneg c0 (by omega), c1, c2⟩, ?_, fun os m h b x2 x3 => ?_⟩
      · have := Int.emod_lt_of_pos s1.cur h0
        have := Int.emod_nonneg s1.cur (show lim ≠ 0 by omega)
        omega
      · have hs := st_put h s1
        have e : ((s1.cur % lim).toNat : Int) = s1.cur % lim := Int.toNat_of_nonneg (Int.emod_nonneg _ (by omega))
        simp -dsimp only [evT, wipeD, List.set_cons_zero, List.set_cons_succ, Bool.false_eq_true, if_true, if_false, decide_true, decide_false, Bool.not_true, Bool.not_false, and_self, and_true, true_and, eq_self, st2 hs, q, fInt_i, fMod_i h0, divW h0 h1, se2 hs, setset, e]
    · refine ⟨((s1.sd * 69621 + 12345) % 2147483647 / 7 % lim).toNat, { s1 with sd := (s1.sd * 69621 + 12345) % 2147483647 }, ⟨c0, Int.emod_nonneg _ (by decide), c2⟩, ?_, fun os m h b x2 x3 => ?_⟩
      · have := Int.emod_lt_of_pos ((s1.sd * 69621 + 12345) % 2147483647 / 7) h0
        have := Int.emod_nonneg ((s1.sd * 69621 + 12345) % 2147483647 / 7) (show lim ≠ 0 by omega)
        omega
      · have hs := st_put h s1
        have h2 := fun x => st_put h (s' := { s1 with sd := x })
        have e : (((s1.sd * 69621 + 12345) % 2147483647 / 7 % lim).toNat : Int) = (s1.sd * 69621 + 12345) % 2147483647 / 7 % lim := Int.toNat_of_nonneg (Int.emod_nonneg _ (by omega))
        have mu : ∀ (i : Int) S, fMul (.p (.int i)) (.p (.int 69621)) S = some (.p (.int (i * 69621)), S) := fun i S => fMul_ri (by decide) S
        have d7 : ∀ (i : Int) S, fDiv (.p (.int i)) (.p (.int 7)) S = some (.p (.int (i / 7)), S) := fun i S => fDiv_i (by decide) (by decide) S
        simp -dsimp only [evT, wipeD, List.set_cons_zero, List.set_cons_succ, Bool.false_eq_true, if_true, if_false, decide_true, decide_false, Bool.not_true, Bool.not_false, and_self, and_true, true_and, eq_self, st2 hs, q, st3 hs, mu, fInt_i, fMod_i M, se3 hs, setset, st3 (h2 _), d7, fMod_i h0, e]
  have self : ∀ {os : List Ob} {m : Nat} (_ : os[m]? = some (stO s)), os.set m (stO s) = os := by
    intro os m h
    refine List.ext_getElem? fun i => ?_
    by_cases e : m = i
    · subst e; rw [st_put h, h]
    · rw [List.getElem?_set_ne e]
  have l0 : ∀ (b : Nat) (os : List Ob), fLen [.p (.lst (intsP s.ns))] ⟨b, os⟩ = some (.p (.int (s.ns.length : Int)), ⟨b, os⟩) := fun b os => by rw [fLen_l, intsP_len]
  have eT : s.cur = 0 → ∀ T, fEq false (.p (.int s.cur)) (.p (.int 0)) T = some (.p (.bl true), T) := fun q T => by rw [q, fEq_ii]; rfl
  have eF : ¬ s.cur = 0 → ∀ T, fEq false (.p (.int s.cur)) (.p (.int 0)) T = some (.p (.bl false), T) := fun q T => by rw [fEq_ii, decide_eq_false q]; rfl
  -- the first part gives s1
  have part : ∃ s1 : St, s1.ok ∧ s1.ns = s.ns ∧ ∀ (os : List Ob) (m : Nat) (_ : os[m]? = some (stO s)) b, Ev ((dIf (dAnd (dTest (dOp (fEq false) (dOp fIx (dVar 0) (dC (.int 2))) (dC (.int 0)))) (dTest (dOp fLt (dOp fIx (dVar 0) (dC (.int 1))) (dCall fLen (dCons (dOp fIx (dVar 0) (dC (.int 0))) dNil)))))
      (dSeq (dSet 2 (dOp fIx (dOp fIx (dVar 0) (dC (.int 0))) (dOp fIx (dVar 0) (dC (.int 1)))))
    (dSeq (dAugS (dVar 0) (dC (.int 1)) (dC (.int 1)) fAug)
    (dIf (dTest (dOp fGe (dVar 2) (dOp fPow (dC (.int 10)) (dC (.int 18)))))
      (dAsg (dVar 2) (gSb (dVar 0) (dC (.int 2))))
      (dAsg (dOp fMod (dCall fInt (dCons (dOp (fAdd false) (dOp (fAdd false) (dOp fMul (dOp fIx (dVar 0) (dC (.int 3))) (dC (.int 48271))) (dOp fMod (dCall fInt (dCons (dVar 2) dNil)) (dC (.int 2147483647)))) (dC (.int 7))) dNil)) (dC (.int 2147483647))) (gSb (dVar 0) (dC (.int 3)))))))
      dNx : MS) [some (.ref m), some (.p (.int lim)), none, none] ⟨b, os⟩) (fun g T => ∃ x2, g = .nx [some (.ref m), some (.p (.int lim)), x2, none] ∧ T = ⟨b, os.set m (stO s1)⟩) ⟨⟩ := by
    by_cases q0 : s.cur = 0 ∧ s.k < s.ns.length
    · obtain ⟨q1, q2⟩ := q0
      have q3 : (s.k : Int) < (s.ns.length : Int) := by omega
      have hk : (intsP s.ns)[s.k]? = some (.int s.ns[s.k]) := intsP_at (List.getElem?_eq_getElem q2)
      have ic : ∀ T, fIx (.p (.lst (intsP s.ns))) (.p (.int (s.k : Int))) T = some (.p (.int s.ns[s.k]), T) := fun T => fIx_l hk
      have ek : (s.k : Int) + 1 = ((s.k + 1 : Nat) : Int) := by omega
      have mu : ∀ (i : Int) S, fMul (.p (.int i)) (.p (.int 48271)) S = some (.p (.int (i * 48271)), S) := fun i S => fMul_ri (by decide) S
      by_cases q4 : 10 ^ 18 ≤ s.ns[s.k]
      · refine ⟨{ s with k := s.k + 1, cur := s.ns[s.k] }, ⟨by show 0 ≤ s.ns[s.k]; omega, k1, k2⟩, rfl, fun os m h b => ?_⟩
        have h1' := st_put h { s with k := s.k + 1 }
        simp -dsimp only [evT, wipeD, List.set_cons_zero, List.set_cons_succ, Bool.false_eq_true, if_true, if_false, decide_true, decide_false, Bool.not_true, Bool.not_false, and_self, and_true, true_and, eq_self, st2 h, eT q1, st1 h, st0 h, l0, q3, ic, l_AugS, xt1 h, fAug_i, ek, se1 h, pow18, q4, se2 h1', setset]
        exact ⟨_, rfl⟩
      · refine ⟨{ s with k := s.k + 1, sd := (s.sd * 48271 + s.ns[s.k] % 2147483647 + 7) % 2147483647 }, ⟨by show 0 ≤ s.cur; omega, Int.emod_nonneg _ (by decide), k2⟩, rfl, fun os m h b => ?_⟩
        have h1' := st_put h { s with k := s.k + 1 }
        simp -dsimp only [evT, wipeD, List.set_cons_zero, List.set_cons_succ, Bool.false_eq_true, if_true, if_false, decide_true, decide_false, Bool.not_true, Bool.not_false, and_self, and_true, true_and, eq_self, st2 h, eT q1, st1 h, st0 h, l0, q3, ic, l_AugS, xt1 h, fAug_i, ek, se1 h, pow18, q4, st3 h1', mu, fInt_i, fMod_i M, se3 h1', setset]
        exact ⟨_, rfl⟩
    · refine ⟨s, ⟨k0, k1, k2⟩, rfl, fun os m h b => ?_⟩
      rw [self h]
      by_cases q1 : s.cur = 0
      · have q3 : ¬ (s.k : Int) < (s.ns.length : Int) := by omega
        simp -dsimp only [evT, wipeD, List.set_cons_zero, List.set_cons_succ, Bool.false_eq_true, if_true, if_false, decide_true, decide_false, Bool.not_true, Bool.not_false, and_self, and_true, true_and, eq_self, st2 h, eT q1, st1 h, st0 h, l0, q3]
        exact ⟨_, rfl⟩
      · simp -dsimp only [evT, wipeD, List.set_cons_zero, List.set_cons_succ, Bool.false_eq_true, if_true, if_false, decide_true, decide_false, Bool.not_true, Bool.not_false, and_self, and_true, true_and, eq_self, st2 h, eF q1]
        exact ⟨_, rfl⟩
  obtain ⟨s1, o1, n1, f1⟩ := part
  obtain ⟨v, s', o', lt, f2⟩ := p2 s1 o1 n1
  refine ⟨v, s', o', lt, fun os m h b => ?_⟩
  refine fn_eq rfl rfl ?_
  rw [startD_c, startD_c, startD_n, startD_n, startD_z, l_Seq, Ev_bl]
  refine (f1 os m h _).mono fun g T hh => ?_
  obtain ⟨x2, rfl, rfl⟩ := hh
  rw [seqK_nx]
  refine (f2 os m h _ _ _).mono fun g T hh => ?_
  obtain ⟨rfl, rfl⟩ := hh
  simp -dsimp only [evT, wipeD, List.set_cons_zero, List.set_cons_succ, Bool.false_eq_true, if_true, if_false, decide_true, decide_false, Bool.not_true, Bool.not_false, and_self, and_true, true_and, eq_self]
  show (SH.mk b ((os.set m (stO s')).take os.length)) = _
  rw [List.take_of_length_le (by simp)]
/-! the objects with the state at m, and further ones behind -/
def W (os : List Ob) (m : Nat) (s : St) (X : List Ob) : List Ob := os.set m (stO s) ++ X
section
variable {os : List Ob} {m : Nat} (hm : m < os.length)
theorem W_app (s : St) (X Y : List Ob) : W os m s X ++ Y = W os m s (X ++ Y) := List.append_assoc ..
theorem W_len (s : St) (X : List Ob) : (W os m s X).length = os.length + X.length := by unfold W; rw [List.length_append, List.length_set]
theorem W_cut (b k : Nat) (s s' : St) (X Y : List Ob) : Pv.cutS ⟨b, W os m s X⟩ ⟨k, W os m s' (X ++ Y)⟩ = ⟨b, W os m s' X⟩ := by
  show (SH.mk b ((W os m s' (X ++ Y)).take (W os m s X).length)) = _
  rw [← W_app, List.take_append_of_le_length (by rw [W_len, W_len]; exact Nat.le_refl _), List.take_of_length_le (by rw [W_len, W_len]; exact Nat.le_refl _)]
theorem W_cut0 (b k : Nat) (s s' : St) (X : List Ob) : Pv.cutS ⟨b, W os m s X⟩ ⟨k, W os m s' X⟩ = ⟨b, W os m s' X⟩ := by
  have h := W_cut (os := os) (m := m) b k s s' X []
  rw [List.append_nil] at h
  exact h
include hm
theorem W_at (s : St) (X : List Ob) : (W os m s X)[m]? = some (stO s) := by
  unfold W
  rw [List.getElem?_append_left (by rw [List.length_set]; exact hm), List.getElem?_set_self hm]
theorem W_set (s s' : St) (X : List Ob) : (W os m s X).set m (stO s') = W os m s' X := by
  unfold W
  rw [List.set_append_left _ _ (by rw [List.length_set]; exact hm), List.set_set]
end
theorem next_W {s : St} (ok : s.ok) {lim : Int} (h0 : 0 < lim) (h1 : lim ≤ 10 ^ 60) :
    ∃ (v : Nat) (s' : St), s'.ok ∧ (v : Int) < lim ∧ ∀ {os : List Ob} {m : Nat} (_ : m < os.length) (X : List Ob) b, m_next [.ref m, .p (.int lim)] ⟨b, W os m s X⟩ = some (.p (.int (v : Int)), ⟨b, W os m s' X⟩) := by
  obtain ⟨v, s', o, l, e⟩ := next_eq ok h0 h1
  exact ⟨v, s', o, l, fun hm X b => by rw [e _ _ (W_at hm s X) b, W_set hm]⟩
end Kb
namespace Kb
open PySem PySem.Spec PyProof.Rows L2 Pv
theorem fIx_seq {ps : List P} {p : P} (hp : p = .lst ps ∨ p = .tup ps) {n : Nat} {x : P} {S : SH} (h : ps[n]? = some x) : fIx (.p p) (.p (.int (n : Int))) S = some (.p x, S) := by
  rcases hp with rfl | rfl
  · exact fIx_l h
  · exact fIx_t h
/-- data of nested lists and tuples, so deep and long at most -/
def okz : Nat → P → Bool
  | _, .non => true
  | _, .bl _ => true
  | _, .int _ => true
  | _, .str _ => true
  | k + 1, .lst ps => decide (ps.length ≤ 1000000) && ps.all (okz k)
  | k + 1, .tup ps => decide (ps.length ≤ 1000000) && ps.all (okz k)
  | _, _ => false
theorem same_seq (k : Nat) (ps : List P) (ih : ∀ (p : P) (S : SH), p ∈ ps → m_lsame k [.p p, .p p] S = some (.p (.bl true), S)) (hz : ps.length ≤ 1000000) (p : P) (hp : p = .lst ps ∨ p = .tup ps) (S : SH) : m_lsame (k + 1) [.p p, .p p] S = some (.p (.bl true), S) := by
  have hl : forL [2] (srcN 0 ps.length).fin (gNm 2) (dIf (dNot (dTest (dCall (m_lsame k) (dCons (dOp fIx (dVar 0) (dVar 2)) (dCons (dOp fIx (dVar 1) (dVar 2)) dNil)))))
      (dRet (dC (.bl false)))
      dNx) (srcN 0 ps.length).items [some (.p p), some (.p p), none] ⟨S.os.length, S.os⟩ = some (.nx [some (.p p), some (.p p), none], ⟨S.os.length, S.os⟩) := by
    obtain ⟨σ', S', hr, rfl, rfl⟩ := rng0_inv (body := (dIf (dNot (dTest (dCall (m_lsame k) (dCons (dOp fIx (dVar 0) (dVar 2)) (dCons (dOp fIx (dVar 1) (dVar 2)) dNil)))))
      (dRet (dC (.bl false)))
      dNx)) (ws := [2]) (j := 2) (fun i σ S' => σ = [some (.p p), some (.p p), none] ∧ S' = ⟨S.os.length, S.os⟩) ps.length (σ := [some (.p p), some (.p p), none]) (S := ⟨S.os.length, S.os⟩) ⟨rfl, rfl⟩ (by
        rintro i σ S1 hi ⟨rfl, rfl⟩
        have hx : ps[i]? = some ps[i] := List.getElem?_eq_getElem hi
        have q := fIx_seq (S := ⟨S.os.length, S.os⟩) hp hx
        refine ⟨[some (.p p), some (.p p), some (.p (.int (i : Int)))], _, .inl ?_, rfl, rfl⟩
        simp [q, ih _ _ (List.getElem_mem hi)])
    exact hr
  have e1 := fun S => srt_rng (S := S) ps.length (by omega)
  rcases hp with rfl | rfl
  · simp [m_lsame, startD, fIsi, tyName, tyOk, isSub, fEq, okd, peq, e1, wipeD, hl, fIs, Pv.isNon]
  · simp [m_lsame, startD, fIsi, tyName, tyOk, isSub, fEq, okd, peq, e1, wipeD, hl, fIs, Pv.isNon]
theorem same_refl : ∀ (k : Nat) (p : P) (S : SH), okz k p = true → m_lsame (k + 1) [.p p, .p p] S = some (.p (.bl true), S) := by
  intro k
  induction k with
  | zero =>
    intro p S h
    cases p <;> first | (cases h; done) | (simp [m_lsame, startD, fIsi, tyName, tyOk, isSub, fEq, okd, peq, fIs, Pv.isNon])
  | succ k ih =>
    intro p S h
    cases p <;> first | (cases h; done) | (simp [m_lsame, startD, fIsi, tyName, tyOk, isSub, fEq, okd, peq, fIs, Pv.isNon]; done) | skip
    · rename_i ps
      simp only [okz, Bool.and_eq_true, List.all_eq_true, decide_eq_true_eq] at h
      first | exact same_seq (k + 1) ps (fun x S hx => ih x S (h.2 x hx)) h.1 _ (.inl rfl) S | exact same_seq (k + 1) ps (fun x S hx => ih x S (h.2 x hx)) h.1 _ (.inr rfl) S
    · rename_i ps
      simp only [okz, Bool.and_eq_true, List.all_eq_true, decide_eq_true_eq] at h
      first | exact same_seq (k + 1) ps (fun x S hx => ih x S (h.2 x hx)) h.1 _ (.inl rfl) S | exact same_seq (k + 1) ps (fun x S hx => ih x S (h.2 x hx)) h.1 _ (.inr rfl) S
theorem same40 (p : P) (S : SH) (h : okz 39 p = true) : m_lsame 40 [.p p, .p p] S = some (.p (.bl true), S) := same_refl 39 p S h
end Kb
namespace Kb
open PySem PySem.Spec PyProof.Rows L2 Pv
/-! values -/
inductive U where
  | n | b (x : Bool) | i (x : Int) | s (x : Str)
  deriving DecidableEq
def uP : U → P
  | .n => .non
  | .b x => .bl x
  | .i x => .int x
  | .s x => .str x
def keyU : U → List P
  | .n => [.int 0]
  | .b x => [.int 1, .int (if x = true then 1 else 0)]
  | .i x => [.int 2, .int x]
  | .s x => [.int 3, .str x]
def keyV : U → List V
  | .n => [.int 0]
  | .b x => [.int 1, .int (if x = true then 1 else 0)]
  | .i x => [.int 2, .int x]
  | .s x => [.int 3, .str x]
theorem flat_key (u : U) : flatPs (keyU u) = some (keyV u) := by cases u <;> rfl
theorem keyU_len (u : U) : (keyU u).length ≤ 2 := by cases u <;> simp [keyU]
theorem okd_u (k : Nat) (u : U) : okd k (uP u) = true := by cases k <;> cases u <;> rfl
theorem okd_key (k : Nat) (u : U) : (keyU u).all (okd k) = true := by cases u <;> cases k <;> rfl
theorem okz_u (k : Nat) (u : U) : okz k (uP u) = true := by cases k <;> cases u <;> rfl
theorem is_u (u : U) : Pv.isNon (.p (uP u)) = decide (u = .n) := by cases u <;> rfl
theorem value_key_eq (u : U) (S : SH) : m_value_key [.p (uP u)] S = some (.p (.tup (keyU u)), S) := by
  have ib : ∀ (x : P) (T : SH), fIsi ["bool"] (.p x) T = (match tyName (.p x) T with | some t => some (.p (.bl (isSub t "bool")), T) | none => none) := fun x T => by
    unfold fIsi; cases tyName (.p x) T <;> simp [tyOk]
  have ii : ∀ (x : P) (T : SH), fIsi ["int"] (.p x) T = (match tyName (.p x) T with | some t => some (.p (.bl (isSub t "int")), T) | none => none) := fun x T => by
    unfold fIsi; cases tyName (.p x) T <;> simp [tyOk]
  cases u with
  | n => exact fn_eq rfl rfl (by unfold uP keyU; simp -dsimp (disch := decide +kernel) only [evT, evD, Int.reduceLT, Int.reduceLE, Int.reduceEq, Int.reduceAdd, Int.reduceSub, Int.reduceMul, Int.reduceNeg, wipeD, List.set_cons_zero, List.set_cons_succ, Bool.false_eq_true, if_true, if_false, decide_true, decide_false, Bool.not_true, Bool.not_false, and_self, and_true, true_and, eq_self, ])
  | b x =>
    have e1 : ∀ T, fIsi ["bool"] (.p (.bl x)) T = some (.p (.bl true), T) := fun T => ib _ T
    have e2 : ∀ T, fInt [.p (.bl x)] T = some (.p (.int (if x = true then 1 else 0)), T) := fun T => rfl
    exact fn_eq rfl rfl (by unfold uP keyU; simp -dsimp (disch := decide +kernel) only [evT, evD, Int.reduceLT, Int.reduceLE, Int.reduceEq, Int.reduceAdd, Int.reduceSub, Int.reduceMul, Int.reduceNeg, wipeD, List.set_cons_zero, List.set_cons_succ, Bool.false_eq_true, if_true, if_false, decide_true, decide_false, Bool.not_true, Bool.not_false, and_self, and_true, true_and, eq_self, e1, e2])
  | i x =>
    have e1 : ∀ T, fIsi ["bool"] (.p (.int x)) T = some (.p (.bl false), T) := fun T => ib _ T
    have e2 : ∀ T, fIsi ["int"] (.p (.int x)) T = some (.p (.bl true), T) := fun T => ii _ T
    exact fn_eq rfl rfl (by unfold uP keyU; simp -dsimp (disch := decide +kernel) only [evT, evD, Int.reduceLT, Int.reduceLE, Int.reduceEq, Int.reduceAdd, Int.reduceSub, Int.reduceMul, Int.reduceNeg, wipeD, List.set_cons_zero, List.set_cons_succ, Bool.false_eq_true, if_true, if_false, decide_true, decide_false, Bool.not_true, Bool.not_false, and_self, and_true, true_and, eq_self, e1, e2])
  | s x =>
    have e1 : ∀ T, fIsi ["bool"] (.p (.str x)) T = some (.p (.bl false), T) := fun T => ib _ T
    have e2 : ∀ T, fIsi ["int"] (.p (.str x)) T = some (.p (.bl false), T) := fun T => ii _ T
    exact fn_eq rfl rfl (by unfold uP keyU; simp -dsimp (disch := decide +kernel) only [evT, evD, Int.reduceLT, Int.reduceLE, Int.reduceEq, Int.reduceAdd, Int.reduceSub, Int.reduceMul, Int.reduceNeg, wipeD, List.set_cons_zero, List.set_cons_succ, Bool.false_eq_true, if_true, if_false, decide_true, decide_false, Bool.not_true, Bool.not_false, and_self, and_true, true_and, eq_self, e1, e2])
def rankU : U → Nat
  | .n => 0
  | .b _ => 1
  | .i _ => 2
  | .s _ => 3
/-- the order of values -/
def ltU : U → U → Bool
  | .b x, .b y => !x && y
  | .i x, .i y => decide (x < y)
  | .s x, .s y => decide (x.cps.toList < y.cps.toList)
  | x, y => decide (rankU x < rankU y)
theorem peq_key (a b : U) : peq (.tup (keyU a)) (.tup (keyU b)) = decide (a = b) := by
  cases a <;> cases b <;> simp [keyU, peq, peqA]
  all_goals (try rename_i x y; cases x <;> cases y <;> rfl)
theorem eqV_ii (x y : Int) : eqV (.int x) (.int y) = decide (x = y) := by
  show (x == y) = _
  exact Bool.eq_iff_iff.mpr (by simp)
theorem eqV_ss (x y : Str) : eqV (.str x) (.str y) = decide (x = y) := by
  show (x == y) = _
  exact Bool.eq_iff_iff.mpr (by simp)
theorem lt_key (a b : U) : cmpT ltV (false, true, false) (keyV a) (keyV b) = some (ltU a b) := by
  cases a <;> cases b <;> simp [keyV, cmpT, eqV_ii, eqV_ss, likeV, ltV, ltU, rankU]
  all_goals (rename_i x y)
  · cases x <;> cases y <;> rfl
  · by_cases h : x = y <;> simp [h]
  · by_cases h : x = y
    · subst h; simp
    · simp [h]
theorem gt_key (a b : U) : cmpT (fun x y => ltV y x) (false, false, true) (keyV a) (keyV b) = some (ltU b a) := by
  cases a <;> cases b <;> simp [keyV, cmpT, eqV_ii, eqV_ss, likeV, ltV, ltU, rankU]
  all_goals (rename_i x y)
  · cases x <;> cases y <;> rfl
  · by_cases h : x = y <;> simp [h]
  · by_cases h : x = y
    · subst h; simp
    · simp [h]
theorem le_key (a b : U) : cmpT (fun x y => !ltV y x) (true, true, false) (keyV a) (keyV b) = some (!ltU b a) := by
  cases a <;> cases b <;> simp [keyV, cmpT, eqV_ii, eqV_ss, likeV, ltV, ltU, rankU]
  all_goals (rename_i x y)
  · cases x <;> cases y <;> rfl
  · by_cases h : x = y <;> simp [h]
  · by_cases h : x = y
    · subst h; simp
    · simp [h]
theorem ge_key (a b : U) : cmpT (fun x y => !ltV x y) (true, false, true) (keyV a) (keyV b) = some (!ltU a b) := by
  cases a <;> cases b <;> simp [keyV, cmpT, eqV_ii, eqV_ss, likeV, ltV, ltU, rankU]
  all_goals (rename_i x y)
  · cases x <;> cases y <;> rfl
  · by_cases h : x = y <;> simp [h]
  · by_cases h : x = y
    · subst h; simp
    · simp [h]
theorem fCmp_key {c : V → V → Bool} {z : Bool × Bool × Bool} {a b : U} {r : Bool} (h : cmpT c z (keyV a) (keyV b) = some r) (S : SH) : fCmpD c z (.p (.tup (keyU a))) (.p (.tup (keyU b))) S = some (.p (.bl r), S) := by
  unfold fCmpD
  dsimp only
  rw [flat_key, flat_key]
  dsimp only
  rw [h]
/-! comparisons -/
inductive Op where
  | eq | ne | lt | le | gt | ge
def opS : Op → Str
  | .eq => "=" | .ne => "<>" | .lt => "<" | .le => "<=" | .gt => ">" | .ge => ">="
/-- a truth that may be unknown -/
def tU : Option Bool → U
  | none => .n
  | some x => .b x
def cmpU (o : Op) (a b : U) : Option Bool := if a = .n ∨ b = .n then none else some (match o with
  | .eq => decide (a = b)
  | .ne => !decide (a = b)
  | .lt => ltU a b
  | .le => !ltU b a
  | .gt => ltU b a
  | .ge => !ltU a b)
theorem fEq_key (neg : Bool) (a b : U) (S : SH) : fEq neg (.p (.tup (keyU a))) (.p (.tup (keyU b))) S = some (.p (.bl (if neg = true then !decide (a = b) else decide (a = b))), S) := by
  rw [fEq_d neg (show okd 40 (.tup (keyU a)) = true from okd_key 39 a) (show okd 40 (.tup (keyU b)) = true from okd_key 39 b), peq_key]
theorem compare_eq (o : Op) (a b : U) (S : SH) : m_compare [.p (.str (opS o)), .p (uP a), .p (uP b)] S = some (.p (uP (tU (cmpU o a b))), S) := by
  refine fn_eq rfl rfl ?_
  by_cases ha : a = .n
  · rw [show cmpU o a b = none from if_pos (.inl ha)]
    simp -dsimp (disch := decide +kernel) only [evT, evD, Int.reduceLT, Int.reduceLE, Int.reduceEq, Int.reduceAdd, Int.reduceSub, Int.reduceMul, Int.reduceNeg, wipeD, List.set_cons_zero, List.set_cons_succ, Bool.false_eq_true, if_true, if_false, decide_true, decide_false, Bool.not_true, Bool.not_false, and_self, and_true, true_and, eq_self, is_u, decide_eq_true ha]
    rfl
  by_cases hb : b = .n
  · rw [show cmpU o a b = none from if_pos (.inr hb)]
    simp -dsimp (disch := decide +kernel) only [evT, evD, Int.reduceLT, Int.reduceLE, Int.reduceEq, Int.reduceAdd, Int.reduceSub, Int.reduceMul, Int.reduceNeg, wipeD, List.set_cons_zero, List.set_cons_succ, Bool.false_eq_true, if_true, if_false, decide_true, decide_false, Bool.not_true, Bool.not_false, and_self, and_true, true_and, eq_self, is_u, decide_eq_false ha, decide_eq_true hb]
    rfl
  have hn : ¬ (a = .n ∨ b = .n) := fun h => h.elim ha hb
  have lt : ∀ T, fLtD (.p (.tup (keyU a))) (.p (.tup (keyU b))) T = some (.p (.bl (ltU a b)), T) := fCmp_key (lt_key a b)
  have le : ∀ T, fLeD (.p (.tup (keyU a))) (.p (.tup (keyU b))) T = some (.p (.bl (!ltU b a)), T) := fCmp_key (le_key a b)
  have gt : ∀ T, fGtD (.p (.tup (keyU a))) (.p (.tup (keyU b))) T = some (.p (.bl (ltU b a)), T) := fCmp_key (gt_key a b)
  have ge : ∀ T, fGeD (.p (.tup (keyU a))) (.p (.tup (keyU b))) T = some (.p (.bl (!ltU a b)), T) := fCmp_key (ge_key a b)
  unfold cmpU
  rw [if_neg hn]
  cases o <;> (unfold opS; simp -dsimp (disch := decide +kernel) only [evT, evD, Int.reduceLT, Int.reduceLE, Int.reduceEq, Int.reduceAdd, Int.reduceSub, Int.reduceMul, Int.reduceNeg, wipeD, List.set_cons_zero, List.set_cons_succ, Bool.false_eq_true, if_true, if_false, decide_true, decide_false, Bool.not_true, Bool.not_false, and_self, and_true, true_and, eq_self, is_u, decide_eq_false ha, decide_eq_false hb, value_key_eq, fEq_t, fEq_f, fEq_key, lt, le, gt, ge]; rfl)
/-! truths -/
def isT : Option Bool → Bool
  | some true => true
  | _ => false
theorem is_t (a : Option Bool) (S : SH) : fIs false (.p (uP (tU a))) (.p (.bl true)) S = some (.p (.bl (isT a)), S) := by
  cases a with
  | none => rfl
  | some x => cases x <;> rfl
end Kb
namespace Kb
open PySem PySem.Spec PyProof.Rows L2 Pv
/-! objects that are data -/
def mkK (c : Nat) (init : MF) (xs : List D) (S1 : SH) : Option (D × SH) := bnd (init (.ref S1.os.length :: xs) ⟨S1.os.length, S1.os ++ [.ins c []]⟩) fun d S2 => match d with
    | .p .non => match outD S1.os.length S2 (.ref S1.os.length) with | some d' => some (d', Pv.cutS S1 S2) | none => none
    | _ => none
theorem l_Make {c : Nat} {init : MF} {a : MA} {σ : En} {S : SH} : dMake false c init a σ S = bl (a σ S) (fun xs S1 => mkK c init xs S1) ⟨⟩ := at_dMakeF
theorem mkK_of {c : Nat} {init : MF} {xs : List D} {S : SH} {gs : List (Str × P)} (h : init (.ref S.os.length :: xs) ⟨S.os.length, S.os ++ [.ins c []]⟩ = some (.p .non, ⟨S.os.length, S.os ++ [.ins c (gs.map fun p => (p.1, .p p.2))]⟩)) : mkK c init xs S = some (.p (.ins c gs), S) := by
  unfold mkK
  rw [h, bnd_some]
  have e := out_ins (k := S.os.length) (c := c) (n := S.os.length) (S1 := ⟨S.os.length, S.os ++ [.ins c (gs.map fun p => (p.1, .p p.2))]⟩) (gs := gs) (Nat.le_refl _) (at_last _ _ _)
  dsimp only
  rw [e]
  dsimp only
  rw [cut_app]
theorem mfld {c : Nat} {cs : List Nat} {f : Str} {fs : List (Str × P)} {x : P} (hc : cs.contains c = true) (hx : fs.lookup f = some x) (S : SH) : dFld cs f (.p (.ins c fs)) S = some (.p x, S) := by
  unfold dFld
  rw [fldsOf_p]
  dsimp only
  rw [if_pos hc]
  have : ∀ (l : List (Str × P)), (l.map fun p => (p.1, D.p p.2)).lookup f = (l.lookup f).map D.p := by
    intro l
    induction l with
    | nil => rfl
    | cons a l ih =>
      rw [List.map_cons, List.lookup_cons, List.lookup_cons, ih]
      cases f == a.1 <;> rfl
  rw [this, hx]
  rfl
def frI (c r m o : P) : P := .ins 1 [("columns", c), ("row", r), ("members", m), ("outer", o)]
theorem mk_frame (c r m o : P) (S : SH) : mkK 1 m_Frame_init [.p c, .p r, .p m, .p o] S = some (.p (frI c r m o), S) := by
  refine mkK_of (gs := [("columns", c), ("row", r), ("members", m), ("outer", o)]) ?_
  have s1 : ∀ v, setFld [1] "columns" (.ref S.os.length) (.p v) ⟨S.os.length, S.os ++ [.ins 1 []]⟩ = some ⟨S.os.length, S.os ++ [.ins 1 [("columns", .p v)]]⟩ := fun v => setF_last rfl (by decide)
  have s2 : ∀ a v, setFld [1] "row" (.ref S.os.length) (.p v) ⟨S.os.length, S.os ++ [.ins 1 [("columns", a)]]⟩ = some ⟨S.os.length, S.os ++ [.ins 1 [("columns", a), ("row", .p v)]]⟩ := fun a v => setF_last rfl (by simp)
  have s3 : ∀ a b v, setFld [1] "members" (.ref S.os.length) (.p v) ⟨S.os.length, S.os ++ [.ins 1 [("columns", a), ("row", b)]]⟩ = some ⟨S.os.length, S.os ++ [.ins 1 [("columns", a), ("row", b), ("members", .p v)]]⟩ := fun a b v => setF_last rfl (by simp)
  have s4 : ∀ a b c v, setFld [1] "outer" (.ref S.os.length) (.p v) ⟨S.os.length, S.os ++ [.ins 1 [("columns", a), ("row", b), ("members", c)]]⟩ = some ⟨S.os.length, S.os ++ [.ins 1 [("columns", a), ("row", b), ("members", c), ("outer", .p v)]]⟩ := fun a b c v => setF_last rfl (by simp)
  refine Ev.eq (t := ⟨⟩) (Ev_fnL rfl ?_)
  simp -dsimp (disch := decide +kernel) only [evT, evD, Int.reduceLT, Int.reduceLE, Int.reduceEq, Int.reduceAdd, Int.reduceSub, Int.reduceMul, Int.reduceNeg, wipeD, List.set_cons_zero, List.set_cons_succ, Bool.false_eq_true, if_true, if_false, decide_true, decide_false, Bool.not_true, Bool.not_false, and_self, and_true, true_and, eq_self, s1, s2, s3, s4]
  rfl
theorem fr_cols (c r m o : P) (cs : List Nat) (hc : cs.contains 1 = true) (S : SH) : dFld cs "columns" (.p (frI c r m o)) S = some (.p c, S) := mfld hc rfl S
theorem fr_row (c r m o : P) (S : SH) : dFld [1] "row" (.p (frI c r m o)) S = some (.p r, S) := mfld rfl rfl S
theorem fr_mem (c r m o : P) (S : SH) : dFld [1] "members" (.p (frI c r m o)) S = some (.p m, S) := mfld rfl rfl S
theorem fr_out (c r m o : P) (S : SH) : dFld [1] "outer" (.p (frI c r m o)) S = some (.p o, S) := mfld rfl rfl S
theorem is_fr (c r m o : P) : Pv.isNon (.p (frI c r m o)) = false := rfl
def woI (a b : P) : P := .ins 0 [("sources", a), ("parameters", b)]
theorem mk_world (a b : P) (S : SH) : mkK 0 m_World_init [.p a, .p b] S = some (.p (woI a b), S) := by
  refine mkK_of (gs := [("sources", a), ("parameters", b)]) ?_
  have s1 : ∀ v, setFld [0] "sources" (.ref S.os.length) (.p v) ⟨S.os.length, S.os ++ [.ins 0 []]⟩ = some ⟨S.os.length, S.os ++ [.ins 0 [("sources", .p v)]]⟩ := fun v => setF_last rfl (by decide)
  have s2 : ∀ a v, setFld [0] "parameters" (.ref S.os.length) (.p v) ⟨S.os.length, S.os ++ [.ins 0 [("sources", a)]]⟩ = some ⟨S.os.length, S.os ++ [.ins 0 [("sources", a), ("parameters", .p v)]]⟩ := fun a v => setF_last rfl (by simp)
  refine Ev.eq (t := ⟨⟩) (Ev_fnL rfl ?_)
  simp -dsimp (disch := decide +kernel) only [evT, evD, Int.reduceLT, Int.reduceLE, Int.reduceEq, Int.reduceAdd, Int.reduceSub, Int.reduceMul, Int.reduceNeg, wipeD, List.set_cons_zero, List.set_cons_succ, Bool.false_eq_true, if_true, if_false, decide_true, decide_false, Bool.not_true, Bool.not_false, and_self, and_true, true_and, eq_self, s1, s2]
  rfl
theorem wo_src (a b : P) (S : SH) : dFld [0] "sources" (.p (woI a b)) S = some (.p a, S) := mfld rfl rfl S
def soI (n c k r : P) : P := .ins 2 [("name", n), ("columns", c), ("kinds", k), ("rows", r)]
theorem mk_source (n : P) (c k r : List P) (h1 : c.length ≤ 1000000) (h2 : k.length ≤ 1000000) (h3 : r.length ≤ 1000000) (S : SH) : mkK 2 m_Source_init [.p n, .p (.lst c), .p (.lst k), .p (.lst r)] S = some (.p (soI n (.lst c) (.lst k) (.lst r)), S) := by
  refine mkK_of (gs := [("name", n), ("columns", .lst c), ("kinds", .lst k), ("rows", .lst r)]) ?_
  have s1 : ∀ v, setFld [2] "name" (.ref S.os.length) (.p v) ⟨S.os.length, S.os ++ [.ins 2 []]⟩ = some ⟨S.os.length, S.os ++ [.ins 2 [("name", .p v)]]⟩ := fun v => setF_last rfl (by decide)
  have s2 : ∀ a v, setFld [2] "columns" (.ref S.os.length) (.p v) ⟨S.os.length, S.os ++ [.ins 2 [("name", a)]]⟩ = some ⟨S.os.length, S.os ++ [.ins 2 [("name", a), ("columns", .p v)]]⟩ := fun a v => setF_last rfl (by simp)
  have s3 : ∀ a b v, setFld [2] "kinds" (.ref S.os.length) (.p v) ⟨S.os.length, S.os ++ [.ins 2 [("name", a), ("columns", b)]]⟩ = some ⟨S.os.length, S.os ++ [.ins 2 [("name", a), ("columns", b), ("kinds", .p v)]]⟩ := fun a b v => setF_last rfl (by simp)
  have s4 : ∀ a b c v, setFld [2] "rows" (.ref S.os.length) (.p v) ⟨S.os.length, S.os ++ [.ins 2 [("name", a), ("columns", b), ("kinds", c)]]⟩ = some ⟨S.os.length, S.os ++ [.ins 2 [("name", a), ("columns", b), ("kinds", c), ("rows", .p v)]]⟩ := fun a b c v => setF_last rfl (by simp)
  refine Ev.eq (t := ⟨⟩) (Ev_fnL rfl ?_)
  simp -dsimp (disch := decide +kernel) only [evT, evD, Int.reduceLT, Int.reduceLE, Int.reduceEq, Int.reduceAdd, Int.reduceSub, Int.reduceMul, Int.reduceNeg, wipeD, List.set_cons_zero, List.set_cons_succ, Bool.false_eq_true, if_true, if_false, decide_true, decide_false, Bool.not_true, Bool.not_false, and_self, and_true, true_and, eq_self, fList_l (lin h1), fList_l (lin h2), fList_l (lin h3), s1, s2, s3, s4]
  rfl
theorem so_cols (n c k r : P) (cs : List Nat) (hc : cs.contains 2 = true) (S : SH) : dFld cs "columns" (.p (soI n c k r)) S = some (.p c, S) := mfld hc rfl S
theorem so_rows (n c k r : P) (S : SH) : dFld [2] "rows" (.p (soI n c k r)) S = some (.p r, S) := mfld rfl rfl S
/-! the columns that a name means -/
def cP (c : Str × Str) : P := .tup [.str c.1, .str c.2]
def oS : Option Str → P
  | none => .non
  | some s => .str s
def hit (src : Option Str) (nm : Str) (c : Str × Str) : Bool := c.2 == nm && (match src with | none => true | some s => c.1 == s)
def idx (cs : List (Str × Str)) (src : Option Str) (nm : Str) : List Int := (cs.zipIdx.filter fun q => hit src nm q.1).map fun q => (q.2 : Int)
theorem enum_map {α : Type} (f : α → P) : ∀ (xs : List α) (k : Nat), enumP k (xs.map f) = (xs.zipIdx k).map fun q => P.tup [.int (q.2 : Int), f q.1]
  | [], k => rfl
  | x :: xs, k => by
    rw [List.map_cons, enumP, enum_map f xs (k + 1), List.zipIdx_cons, List.map_cons]
theorem named_eq (cs : List (Str × Str)) (src : Option Str) (nm : Str) (hl : cs.length ≤ 100000) (S : SH) : m_named [.p (.lst (cs.map cP)), .p (oS src), .p (.str nm)] S = some (.p (.lst (intsP (idx cs src nm))), S) := by
  refine Ev.eq (t := ⟨⟩) (fn_ev rfl rfl ?_)
  have nl : ∀ T : SH, newL true [] T = some (.ref T.os.length, ⟨T.b, T.os ++ [.lst []]⟩) := fun T => newL_t [] (lin (by simp))
  have en : ∀ T, enum1 (.p (.lst (cs.map cP))) T = some (srcP ((cs.zipIdx 0).map fun q => P.tup [.int (q.2 : Int), cP q.1]), T) := fun T => by
    show some (srcP (enumP 0 (cs.map cP)), T) = _
    rw [enum_map]
  simp -dsimp (disch := decide +kernel) only [evT, evD, Int.reduceLT, Int.reduceLE, Int.reduceEq, Int.reduceAdd, Int.reduceSub, Int.reduceMul, Int.reduceNeg, wipeD, List.set_cons_zero, List.set_cons_succ, Bool.false_eq_true, if_true, if_false, decide_true, decide_false, Bool.not_true, Bool.not_false, and_self, and_true, true_and, eq_self, nl, en, l_Enum]
  refine Ev_p (fun i σ T => σ = [none, some (.p (oS src)), some (.p (.str nm)), some (.ref S.os.length), none, none] ∧ T = ⟨S.os.length, S.os ++ [.lst ((intsP (((cs.zipIdx.take i).filter fun q => hit src nm q.1).map fun q => (q.2 : Int))).map D.p)]⟩) ⟨rfl, rfl⟩ ?_ ?_
  · rintro i q σ T hq ⟨rfl, rfl⟩
    obtain ⟨c, j⟩ := q
    refine ⟨[none, some (.p (oS src)), some (.p (.str nm)), some (.ref S.os.length), some (.p (.int (j : Int))), some (.p (cP c))], rfl, ?_⟩
    have tk : (cs.zipIdx.take (i + 1)) = cs.zipIdx.take i ++ [(c, j)] := by rw [List.take_add_one, hq]; rfl
    have c0 : ∀ T, fIx (.p (cP c)) (.p (.int 0)) T = some (.p (.str c.1), T) := fun T => ix0 _ _ T
    have c1 : ∀ T, fIx (.p (cP c)) (.p (.int 1)) T = some (.p (.str c.2), T) := fun T => ix1 _ _ _ T
    have ty := isTy_ref (S := ⟨S.os.length, S.os ++ [.lst ((intsP (((cs.zipIdx.take i).filter fun q => hit src nm q.1).map fun q => (q.2 : Int))).map D.p)]⟩) (at_last S.os.length S.os _)
    have ap := fApp_p (x := .int (j : Int)) (at_last S.os.length S.os (.lst ((intsP (((cs.zipIdx.take i).filter fun q => hit src nm q.1).map fun q => (q.2 : Int))).map D.p))) (by
      rw [List.length_map, intsP_len, List.length_map]
      have h1 := List.length_filter_le (fun q => hit src nm q.1) (cs.zipIdx.take i)
      have h2 : (cs.zipIdx.take i).length ≤ cs.length := by rw [List.length_take, List.length_zipIdx]; omega
      have := line_ge
      omega)
    rw [put_last] at ap
    have yes : hit src nm c = true → Hold (([none, some (.p (oS src)), some (.p (.str nm)), some (.ref S.os.length), none, none] : En) = [none, some (.p (oS src)), some (.p (.str nm)), some (.ref S.os.length), none, none] ∧ (⟨S.os.length, S.os ++ [.lst ((intsP (((cs.zipIdx.take i).filter fun q => hit src nm q.1).map fun q => (q.2 : Int))).map D.p ++ [.p (.int (j : Int))])]⟩ : SH) = ⟨S.os.length, S.os ++ [.lst ((intsP (((cs.zipIdx.take (i + 1)).filter fun q => hit src nm q.1).map fun q => (q.2 : Int))).map D.p)]⟩) ⟨⟩ := fun h => by
      refine ⟨rfl, ?_⟩
      rw [tk, List.filter_append, List.map_append]
      simp [intsP, h]
    have no : hit src nm c = false → Hold (([none, some (.p (oS src)), some (.p (.str nm)), some (.ref S.os.length), none, none] : En) = [none, some (.p (oS src)), some (.p (.str nm)), some (.ref S.os.length), none, none] ∧ (⟨S.os.length, S.os ++ [.lst ((intsP (((cs.zipIdx.take i).filter fun q => hit src nm q.1).map fun q => (q.2 : Int))).map D.p)]⟩ : SH) = ⟨S.os.length, S.os ++ [.lst ((intsP (((cs.zipIdx.take (i + 1)).filter fun q => hit src nm q.1).map fun q => (q.2 : Int))).map D.p)]⟩) ⟨⟩ := fun h => by
      refine ⟨rfl, ?_⟩
      rw [tk, List.filter_append, List.map_append]
      simp [intsP, h]
    cases h1 : c.2 == nm with
    | false =>
      have hh : hit src nm c = false := by unfold hit; rw [h1]; rfl
      simp -dsimp (disch := decide +kernel) only [evT, evD, Int.reduceLT, Int.reduceLE, Int.reduceEq, Int.reduceAdd, Int.reduceSub, Int.reduceMul, Int.reduceNeg, wipeD, List.set_cons_zero, List.set_cons_succ, Bool.false_eq_true, if_true, if_false, decide_true, decide_false, Bool.not_true, Bool.not_false, and_self, and_true, true_and, eq_self, c1, fEq_ss, h1]
      exact no hh
    | true =>
      cases src with
      | none =>
        have hh : hit none nm c = true := by unfold hit; rw [h1]; rfl
        have o1 : oS none = .non := rfl
        rw [o1] at *
        simp -dsimp (disch := decide +kernel) only [evT, evD, Int.reduceLT, Int.reduceLE, Int.reduceEq, Int.reduceAdd, Int.reduceSub, Int.reduceMul, Int.reduceNeg, wipeD, List.set_cons_zero, List.set_cons_succ, Bool.false_eq_true, if_true, if_false, decide_true, decide_false, Bool.not_true, Bool.not_false, and_self, and_true, true_and, eq_self, c1, fEq_ss, h1, ty, ap]
        exact yes hh
      | some s =>
        have o1 : oS (some s) = .str s := rfl
        rw [o1] at *
        cases h2 : c.1 == s with
        | false =>
          have hh : hit (some s) nm c = false := by unfold hit; dsimp only; rw [h1, h2]; rfl
          simp -dsimp (disch := decide +kernel) only [evT, evD, Int.reduceLT, Int.reduceLE, Int.reduceEq, Int.reduceAdd, Int.reduceSub, Int.reduceMul, Int.reduceNeg, wipeD, List.set_cons_zero, List.set_cons_succ, Bool.false_eq_true, if_true, if_false, decide_true, decide_false, Bool.not_true, Bool.not_false, and_self, and_true, true_and, eq_self, c1, fEq_ss, h1, c0, h2]
          exact no hh
        | true =>
          have hh : hit (some s) nm c = true := by unfold hit; dsimp only; rw [h1, h2]; rfl
          simp -dsimp (disch := decide +kernel) only [evT, evD, Int.reduceLT, Int.reduceLE, Int.reduceEq, Int.reduceAdd, Int.reduceSub, Int.reduceMul, Int.reduceNeg, wipeD, List.set_cons_zero, List.set_cons_succ, Bool.false_eq_true, if_true, if_false, decide_true, decide_false, Bool.not_true, Bool.not_false, and_self, and_true, true_and, eq_self, c1, fEq_ss, h1, c0, h2, ty, ap]
          exact yes hh
  · rintro σ T ⟨rfl, rfl⟩
    have tk : cs.zipIdx.take cs.zipIdx.length = cs.zipIdx := List.take_length
    rw [tk]
    simp -dsimp (disch := decide +kernel) only [evT, evD, Int.reduceLT, Int.reduceLE, Int.reduceEq, Int.reduceAdd, Int.reduceSub, Int.reduceMul, Int.reduceNeg, wipeD, List.set_cons_zero, List.set_cons_succ, Bool.false_eq_true, if_true, if_false, decide_true, decide_false, Bool.not_true, Bool.not_false, and_self, and_true, true_and, eq_self, ]
    show Ev (frameF S (some (.ret (.ref S.os.length), ⟨S.os.length, S.os ++ [.lst ((intsP (idx cs src nm)).map D.p)]⟩))) _ _
    rw [frame_ref (ps := intsP (idx cs src nm)) (Nat.le_refl _) (at_last _ _ _), cut_app]
    simp -dsimp (disch := decide +kernel) only [evT, evD, Int.reduceLT, Int.reduceLE, Int.reduceEq, Int.reduceAdd, Int.reduceSub, Int.reduceMul, Int.reduceNeg, wipeD, List.set_cons_zero, List.set_cons_succ, Bool.false_eq_true, if_true, if_false, decide_true, decide_false, Bool.not_true, Bool.not_false, and_self, and_true, true_and, eq_self, ]
end Kb
namespace Kb
open PySem PySem.Spec PyProof.Rows L2 Pv
/-! frames -/
abbrev Row := List U
def rowP (r : Row) : P := .tup (r.map uP)
def rowsP (rs : List Row) : P := .lst (rs.map rowP)
abbrev Cols := List (Str × Str)
def colsP (cs : Cols) : P := .lst (cs.map cP)
inductive Fr where
  | nil
  | cons (cs : Cols) (r : Row) (ms : Option (List Row)) (o : Fr)
def msP : Option (List Row) → P
  | none => .non
  | some rs => rowsP rs
def frP : Fr → P
  | .nil => .non
  | .cons cs r ms o => frI (colsP cs) (rowP r) (msP ms) (frP o)
def Fr.ok : Fr → Prop
  | .nil => True
  | .cons cs _ _ o => cs.length ≤ 100000 ∧ o.ok
def Fr.dep : Fr → Nat
  | .nil => 0
  | .cons _ _ _ o => o.dep + 1
def locF : Fr → Option Str → Str → Option (Fr × Nat)
  | .nil, _, _ => none
  | .cons cs r ms o, src, nm => match idx cs src nm with
    | [i] => some (.cons cs r ms o, i.toNat)
    | [] => locF o src nm
    | _ => none
theorem idx_nn {cs : Cols} {src : Option Str} {nm : Str} {i : Int} (h : i ∈ idx cs src nm) : 0 ≤ i := by
  obtain ⟨q, _, rfl⟩ := List.mem_map.mp h
  omega
theorem locate_eq {fr g : Fr} {src : Option Str} {nm : Str} {i : Nat} (h : locF fr src nm = some (g, i)) (ok : fr.ok) (dp : fr.dep ≤ 100) (S : SH) :
    m_locate [.p (frP fr), .p (oS src), .p (.str nm)] S = some (.p (.tup [frP g, .int (i : Int)]), S) := by
  refine Ev.eq (t := ⟨⟩) (fn_ev rfl rfl ?_)
  simp -dsimp (disch := decide +kernel) only [evT, evD, Int.reduceLT, Int.reduceLE, Int.reduceEq, Int.reduceAdd, Int.reduceSub, Int.reduceMul, Int.reduceNeg, wipeD, List.set_cons_zero, List.set_cons_succ, Bool.false_eq_true, if_true, if_false, decide_true, decide_false, Bool.not_true, Bool.not_false, and_self, and_true, true_and, eq_self, ]
  refine Ev_wh (fun n σ T => ∃ f : Fr, f.dep = n ∧ f.ok ∧ locF f src nm = some (g, i) ∧ σ = [none, some (.p (oS src)), some (.p (.str nm)), some (.p (frP f)), none] ∧ T = ⟨S.os.length, S.os⟩) wFuel fr.dep _ _ (by have : wFuel = 1000000 := rfl; omega) ⟨fr, rfl, ok, h, rfl, rfl⟩ ?_
  rintro n σ T ⟨f, rfl, okf, hf, rfl, rfl⟩
  cases f with
  | nil => cases hf
  | cons cs r ms o =>
    obtain ⟨o1, o2⟩ := okf
    have nm_eq : ∀ T, m_named [.p (colsP cs), .p (oS src), .p (.str nm)] T = some (.p (.lst (intsP (idx cs src nm))), T) := fun T => named_eq cs src nm o1 T
    have cw : [1, 2].contains 1 = true := rfl
    have ef : frP (.cons cs r ms o) = frI (colsP cs) (rowP r) (msP ms) (frP o) := rfl
    unfold locF at hf
    cases hi : idx cs src nm with
    | nil =>
      rw [hi] at nm_eq hf
      have l0 : ∀ T, fLen [.p (.lst (intsP []))] T = some (.p (.int 0), T) := fun T => rfl
      rw [ef]
      simp -dsimp (disch := decide +kernel) only [evT, evD, Int.reduceLT, Int.reduceLE, Int.reduceEq, Int.reduceAdd, Int.reduceSub, Int.reduceMul, Int.reduceNeg, wipeD, List.set_cons_zero, List.set_cons_succ, Bool.false_eq_true, if_true, if_false, decide_true, decide_false, Bool.not_true, Bool.not_false, and_self, and_true, true_and, eq_self, is_fr, fr_cols _ _ _ _ [1, 2] cw, nm_eq, l0, fEq_ii, fr_out]
      exact Hold.i ⟨o.dep, Nat.lt_succ_self _, o, rfl, o2, hf, rfl, rfl⟩
    | cons a t =>
      cases t with
      | nil =>
        rw [hi] at nm_eq hf
        cases hf
        have nn : 0 ≤ a := idx_nn (hi ▸ List.mem_singleton.mpr rfl)
        have l0 : ∀ T, fLen [.p (.lst (intsP [a]))] T = some (.p (.int 1), T) := fun T => rfl
        have ix : ∀ T, fIx (.p (.lst (intsP [a]))) (.p (.int 0)) T = some (.p (.int a), T) := fun T => fIx_l (n := 0) rfl
        rw [ef]
        simp -dsimp (disch := decide +kernel) only [evT, evD, Int.reduceLT, Int.reduceLE, Int.reduceEq, Int.reduceAdd, Int.reduceSub, Int.reduceMul, Int.reduceNeg, wipeD, List.set_cons_zero, List.set_cons_succ, Bool.false_eq_true, if_true, if_false, decide_true, decide_false, Bool.not_true, Bool.not_false, and_self, and_true, true_and, eq_self, is_fr, fr_cols _ _ _ _ [1, 2] cw, nm_eq, l0, fEq_ii, ix]
        rw [Int.toNat_of_nonneg nn]
      | cons b t => rw [hi] at hf; cases hf
end Kb
namespace Kb
open PySem PySem.Spec PyProof.Rows L2 Pv
/-! expressions, form by form -/
theorem inC (o : Op) (S : SH) : fInG false (.p (.str (opS o))) (.p u_COMPARISONS) S = some (.p (.bl true), S) := by
  cases o <;> exact inS_t (by decide +kernel) (by decide +kernel) S
theorem comb_cmp (o : Op) (a b : U) (S : SH) : m_combined [.p (.str (opS o)), .p (uP a), .p (uP b)] S = some (.p (uP (tU (cmpU o a b))), S) := by
  refine fn_eq rfl rfl ?_
  have c := inC o
  have e := compare_eq o a b
  cases o <;> (unfold opS at c e ⊢; simp -dsimp (disch := decide +kernel) only [evT, evD, Int.reduceLT, Int.reduceLE, Int.reduceEq, Int.reduceAdd, Int.reduceSub, Int.reduceMul, Int.reduceNeg, wipeD, List.set_cons_zero, List.set_cons_succ, Bool.false_eq_true, if_true, if_false, decide_true, decide_false, Bool.not_true, Bool.not_false, and_self, and_true, true_and, eq_self, fEq_f, c, e])
section
variable {n : Nat} {f w : P}
/-- an expression has a value, whatever else stands in the heap -/
def Val (n : Nat) (f w x : P) (u : U) : Prop := ∀ S, m_value_of n [.p x, .p f, .p w] S = some (.p (uP u), S)
theorem vo_lit (u : U) : Val (n + 1) f w (.tup [.str "literal", uP u]) u := fun S => by
  refine fn_eq rfl rfl ?_
  simp -dsimp (disch := decide +kernel) only [evT, evD, Int.reduceLT, Int.reduceLE, Int.reduceEq, Int.reduceAdd, Int.reduceSub, Int.reduceMul, Int.reduceNeg, wipeD, List.set_cons_zero, List.set_cons_succ, Bool.false_eq_true, if_true, if_false, decide_true, decide_false, Bool.not_true, Bool.not_false, and_self, and_true, true_and, eq_self, ix0, ix1, fEq_t, fEq_f]
theorem vo_cmp {o : Op} {x y : P} {a b : U} (h1 : Val n f w x a) (h2 : Val n f w y b) : Val (n + 1) f w (.tup [.str "binary", .str (opS o), x, y]) (tU (cmpU o a b)) := fun S => by
  refine fn_eq rfl rfl ?_
  have e1 := fun T => h1 T
  have e2 := fun T => h2 T
  simp -dsimp (disch := decide +kernel) only [evT, evD, Int.reduceLT, Int.reduceLE, Int.reduceEq, Int.reduceAdd, Int.reduceSub, Int.reduceMul, Int.reduceNeg, wipeD, List.set_cons_zero, List.set_cons_succ, Bool.false_eq_true, if_true, if_false, decide_true, decide_false, Bool.not_true, Bool.not_false, and_self, and_true, true_and, eq_self, ix0, ix1, ix2, ix3, fEq_t, fEq_f, e1, e2, comb_cmp]
theorem vo_col {fr : Fr} {cs : Cols} {r : Row} {ms : Option (List Row)} {o : Fr} {src : Option Str} {nm : Str} {i : Nat} {u : U} (h : locF fr src nm = some (.cons cs r ms o, i)) (ok : fr.ok) (dp : fr.dep ≤ 100) (hu : r[i]? = some u) : Val (n + 1) (frP fr) w (.tup [.str "column", oS src, .str nm]) u := fun S => by
  refine fn_eq rfl rfl ?_
  have e1 := fun T => locate_eq h ok dp T
  have ef : frP (.cons cs r ms o) = frI (colsP cs) (rowP r) (msP ms) (frP o) := rfl
  have ix : ∀ T, fIx (.p (rowP r)) (.p (.int (i : Int))) T = some (.p (uP u), T) := fun T => fIx_t (by rw [List.getElem?_map, hu]; rfl)
  rw [ef] at e1
  simp -dsimp (disch := decide +kernel) only [evT, evD, Int.reduceLT, Int.reduceLE, Int.reduceEq, Int.reduceAdd, Int.reduceSub, Int.reduceMul, Int.reduceNeg, wipeD, List.set_cons_zero, List.set_cons_succ, Bool.false_eq_true, if_true, if_false, decide_true, decide_false, Bool.not_true, Bool.not_false, and_self, and_true, true_and, eq_self, ix0, ix1, ix2, fEq_t, fEq_f, e1, fr_row, ix]
end
end Kb
namespace Kb
open PySem PySem.Spec PyProof.Rows L2 Pv
/-! numbers as texts -/
def decS (n : Nat) : Str := toString (n : Int)
theorem decS_ok : ∀ n, n < 2000 → (decS n).length ≤ 10 := by decide +kernel
theorem str_eq (n : Nat) (hn : n < 2000) (S : SH) : fStr [.p (.int (n : Int))] S = some (.p (.str (decS n)), S) := by
  unfold fStr
  have h : (n : Int).natAbs.log2 < 1920 := by
    rw [Int.natAbs_natCast]
    by_cases h0 : n = 0
    · subst h0; decide
    · exact Nat.lt_trans ((Nat.log2_lt h0).mpr (show n < 2 ^ 11 by omega)) (by decide)
  exact if_pos h
theorem app_len (a b : Str) : (a ++ b).length = a.length + b.length := by
  show (a.cps ++ b.cps).size = _
  rw [Array.size_append]
  rfl
theorem add_s (l : Bool) {a b : Str} (h : a.length + b.length ≤ 100000) (S : SH) : fAdd l (.p (.str a)) (.p (.str b)) S = some (.p (.str (a ++ b)), S) := by
  unfold fAdd
  exact if_pos (lin (by omega))
end Kb
namespace Kb
open PySem PySem.Spec PyProof.Rows L2 Pv
/-! rows put together -/
theorem addR (l : Bool) {r o : Row} (h : r.length + o.length ≤ 1000) (S : SH) : fAdd l (.p (rowP r)) (.p (rowP o)) S = some (.p (rowP (r ++ o)), S) := by
  have e : rowP (r ++ o) = .tup (r.map uP ++ o.map uP) := by unfold rowP; rw [List.map_append]
  rw [e]
  exact fAdd_tt l _ _ (by rw [List.length_map, List.length_map]; omega) S
theorem addL {α : Type} (g : α → P) {xs ys : List α} (h : xs.length + ys.length ≤ 1000000) (S : SH) : fAdd false (.p (.lst (xs.map g))) (.p (.lst (ys.map g))) S = some (.p (.lst ((xs ++ ys).map g)), S) := by
  rw [fAdd_ll, ← List.map_append]
  exact newL_f _ (by rw [List.length_map, List.length_append]; exact lin h)
end Kb
namespace Kb
open PySem PySem.Spec PyProof.Rows L2 Pv
/-! frames that a condition keeps -/
theorem kept_eq {α : Type} {n : Nat} {w c : P} (xs : List α) (g : α → P) (t : α → Option Bool) (hc : Pv.isNon (.p c) = false) (hv : ∀ x ∈ xs, Val n (g x) w c (tU (t x))) (hl : xs.length ≤ 1000000) (S : SH) :
    m_kept_frames (n + 1) [.p c, .p (.lst (xs.map g)), .p w] S = some (.p (.lst ((xs.filter fun x => isT (t x)).map g)), S) := by
  refine Ev.eq (t := ⟨⟩) (fn_ev rfl rfl ?_)
  simp -dsimp (disch := decide +kernel) only [evT, evD, Int.reduceLT, Int.reduceLE, Int.reduceEq, Int.reduceAdd, Int.reduceSub, Int.reduceMul, Int.reduceNeg, wipeD, List.set_cons_zero, List.set_cons_succ, Bool.false_eq_true, if_true, if_false, decide_true, decide_false, Bool.not_true, Bool.not_false, and_self, and_true, true_and, eq_self, hc]
  refine Ev_cpf (fun x => isT (t x)) (fun x => .p (g x)) (lin hl) (fun x hx => ?_) ?_
  · have e := fun T => hv x hx T
    constructor
    · simp -dsimp (disch := decide +kernel) only [evT, evD, Int.reduceLT, Int.reduceLE, Int.reduceEq, Int.reduceAdd, Int.reduceSub, Int.reduceMul, Int.reduceNeg, wipeD, List.set_cons_zero, List.set_cons_succ, Bool.false_eq_true, if_true, if_false, decide_true, decide_false, Bool.not_true, Bool.not_false, and_self, and_true, true_and, eq_self, e, is_t]
    · intro _; simp -dsimp (disch := decide +kernel) only [evT, evD, Int.reduceLT, Int.reduceLE, Int.reduceEq, Int.reduceAdd, Int.reduceSub, Int.reduceMul, Int.reduceNeg, wipeD, List.set_cons_zero, List.set_cons_succ, Bool.false_eq_true, if_true, if_false, decide_true, decide_false, Bool.not_true, Bool.not_false, and_self, and_true, true_and, eq_self, ]
  · have nm := fun T => newM T g (xs.filter fun x => isT (t x)) (lin (Nat.le_trans (List.length_filter_le ..) hl))
    simp -dsimp (disch := decide +kernel) only [evT, evD, Int.reduceLT, Int.reduceLE, Int.reduceEq, Int.reduceAdd, Int.reduceSub, Int.reduceMul, Int.reduceNeg, wipeD, List.set_cons_zero, List.set_cons_succ, Bool.false_eq_true, if_true, if_false, decide_true, decide_false, Bool.not_true, Bool.not_false, and_self, and_true, true_and, eq_self, nm]
theorem kept_all {n : Nat} {w x : P} (S : SH) : m_kept_frames (n + 1) [.p .non, .p x, .p w] S = some (.p x, S) := by
  refine fn_eq rfl rfl ?_
  simp -dsimp (disch := decide +kernel) only [evT, evD, Int.reduceLT, Int.reduceLE, Int.reduceEq, Int.reduceAdd, Int.reduceSub, Int.reduceMul, Int.reduceNeg, wipeD, List.set_cons_zero, List.set_cons_succ, Bool.false_eq_true, if_true, if_false, decide_true, decide_false, Bool.not_true, Bool.not_false, and_self, and_true, true_and, eq_self, ]
/-! tables -/
theorem known_no (nm : Str) (S : SH) : m_known_as [.p (.tup [.str "table", .str nm, .non])] S = some (.p (.str nm), S) := by
  refine fn_eq rfl rfl ?_
  simp -dsimp (disch := decide +kernel) only [evT, evD, Int.reduceLT, Int.reduceLE, Int.reduceEq, Int.reduceAdd, Int.reduceSub, Int.reduceMul, Int.reduceNeg, wipeD, List.set_cons_zero, List.set_cons_succ, Bool.false_eq_true, if_true, if_false, decide_true, decide_false, Bool.not_true, Bool.not_false, and_self, and_true, true_and, eq_self, ix1, ix2]
/-- a table: its columns and its rows -/
def tabP (nm : Str) (cs : List Str) (ks : List Str) (rs : List Row) : P := soI (.str nm) (.lst (cs.map .str)) (.lst (ks.map .str)) (rowsP rs)
section
variable {ts : List (Key × P)} {pr : P} {nm : Str} {cs ks : List Str} {rs : List Row} (ht : ∀ T, kIx (.p (.dK ts)) (.p (.str nm)) T = some (.p (tabP nm cs ks rs), T)) (l1 : cs.length ≤ 1000) (l2 : rs.length ≤ 1000000)
include ht l1 l2
theorem table_no (S : SH) : m_table_result [.p (.tup [.str "table", .str nm, .non]), .p (woI (.dK ts) pr)] S = some (.p (.tup [colsP (cs.map fun c => (nm, c)), rowsP rs]), S) := by
  refine Ev.eq (t := ⟨⟩) (fn_ev rfl rfl ?_)
  have s1 : ∀ T, srcOf (.p (.lst (cs.map .str))) T = some (srcP (cs.map .str), T) := fun T => rfl
  have fc : ∀ T, dFld [1, 2] "columns" (.p (tabP nm cs ks rs)) T = some (.p (.lst (cs.map .str)), T) := fun T => so_cols _ _ _ _ [1, 2] rfl T
  have fr : ∀ T, dFld [2] "rows" (.p (tabP nm cs ks rs)) T = some (.p (rowsP rs), T) := fun T => so_rows ..
  have fl : ∀ T, fList false [.p (rowsP rs)] T = some (.p (rowsP rs), T) := fun T => fList_l (lin (by rw [List.length_map]; omega))
  have ka := known_no nm
  simp -dsimp (disch := decide +kernel) only [evT, evD, Int.reduceLT, Int.reduceLE, Int.reduceEq, Int.reduceAdd, Int.reduceSub, Int.reduceMul, Int.reduceNeg, wipeD, List.set_cons_zero, List.set_cons_succ, Bool.false_eq_true, if_true, if_false, decide_true, decide_false, Bool.not_true, Bool.not_false, and_self, and_true, true_and, eq_self, wo_src, ix1, ht, fc, s1]
  refine Ev_cpn (fun c => .p (cP (nm, c))) (lin (by omega)) (fun c _ => ?_) ?_
  · have n2' : ∀ T, newT [.p (.str nm), .p (.str c)] T = some (.p (cP (nm, c)), T) := fun T => newT2 ..
    simp -dsimp (disch := decide +kernel) only [evT, evD, Int.reduceLT, Int.reduceLE, Int.reduceEq, Int.reduceAdd, Int.reduceSub, Int.reduceMul, Int.reduceNeg, wipeD, List.set_cons_zero, List.set_cons_succ, Bool.false_eq_true, if_true, if_false, decide_true, decide_false, Bool.not_true, Bool.not_false, and_self, and_true, true_and, eq_self, ka, n2']
  · have nw := fun T => newM T (fun c => cP (nm, c)) cs (lin (by omega))
    have ec : (.lst (cs.map fun c => cP (nm, c)) : P) = colsP (cs.map fun c => (nm, c)) := by unfold colsP; rw [List.map_map]; rfl
    rw [ec] at nw
    simp -dsimp (disch := decide +kernel) only [evT, evD, Int.reduceLT, Int.reduceLE, Int.reduceEq, Int.reduceAdd, Int.reduceSub, Int.reduceMul, Int.reduceNeg, wipeD, List.set_cons_zero, List.set_cons_succ, Bool.false_eq_true, if_true, if_false, decide_true, decide_false, Bool.not_true, Bool.not_false, and_self, and_true, true_and, eq_self, nw, fr, fl]
theorem source_no (n : Nat) (o : P) (S : SH) : m_source_result (n + 1) [.p (.tup [.str "table", .str nm, .non]), .p o, .p (woI (.dK ts) pr)] S = some (.p (.tup [colsP (cs.map fun c => (nm, c)), rowsP rs]), S) := by
  have e := table_no (pr := pr) ht l1 l2
  refine fn_eq rfl rfl ?_
  simp -dsimp (disch := decide +kernel) only [evT, evD, Int.reduceLT, Int.reduceLE, Int.reduceEq, Int.reduceAdd, Int.reduceSub, Int.reduceMul, Int.reduceNeg, wipeD, List.set_cons_zero, List.set_cons_succ, Bool.false_eq_true, if_true, if_false, decide_true, decide_false, Bool.not_true, Bool.not_false, and_self, and_true, true_and, eq_self, ix0, fEq_t, e]
end
end Kb
namespace Kb
open PySem PySem.Spec PyProof.Rows L2 Pv
/-! blocks -/
def blkK (S : SH) : Fl → SH → Option (Fl × SH)
  | .nx σ1, S1 => some (.nx (outE S.len S1 σ1), Pv.cutS S S1)
  | .ct σ1, S1 => some (.ct (outE S.len S1 σ1), Pv.cutS S S1)
  | .brk σ1, S1 => some (.brk (outE S.len S1 σ1), Pv.cutS S S1)
  | .ret d, S1 => match outD S.len S1 d with | some d' => some (.ret d', Pv.cutS S S1) | none => none
theorem l_Block {m : MS} {σ : En} {S : SH} : dBlock m σ S = bl (m σ ⟨S.os.length, S.os⟩) (blkK S) ⟨⟩ := by
  show bnd (m σ ⟨S.len, S.os⟩) _ = bnd (m σ ⟨S.len, S.os⟩) _
  congr 1
  funext f S1
  cases f <;> rfl
theorem blk_nx {b : Nat} {os : List Ob} {S1 : SH} (σ1 : En) : blkK ⟨b, os⟩ (.nx σ1) S1 = some (.nx (outE os.length S1 σ1), Pv.cutS ⟨b, os⟩ S1) := id rfl
theorem outE_c (b : Nat) (S : SH) (x : Option D) (σ : En) : outE b S (x :: σ) = outO b S x :: outE b S σ := id rfl
theorem outE_n (b : Nat) (S : SH) : outE b S [] = [] := id rfl
theorem outO_n (b : Nat) (S : SH) : outO b S none = none := id rfl
theorem outO_p (b : Nat) (S : SH) (x : P) : outO b S (some (.p x)) = some (.p x) := id rfl
theorem outO_old {b n : Nat} (S : SH) (h : n < b) : outO b S (some (.ref n)) = some (.ref n) := by
  show outD b S (.ref n) = _
  unfold outD
  dsimp only
  rw [if_pos h]
theorem toP_ps (k b : Nat) (S : SH) : ∀ ps : List P, (ps.map D.p).mapM (toP k b S) = some ps
  | [] => rfl
  | p :: ps => by
    have e : toP k b S (.p p) = some p := by cases k <;> rfl
    rw [List.map_cons, List.mapM_cons, e, toP_ps k b S ps]
    rfl
theorem toP_lpb {b k n : Nat} {S : SH} {ps : List P} (hb : b ≤ n) (h : S.os[n]? = some (.lst (ps.map D.p))) : toP (k + 1) b S (.ref n) = some (.lst ps) := by
  unfold toP
  rw [if_neg (by omega), h]
  dsimp only
  rw [toP_ps]
  rfl
theorem outO_r {b n : Nat} {S : SH} {ps : List P} (hb : b ≤ n) (h : S.os[n]? = some (.lst (ps.map D.p))) : outO b S (some (.ref n)) = some (.p (.lst ps)) := by
  show outD b S (.ref n) = _
  unfold outD
  dsimp only
  rw [if_neg (by omega), toP_lpb hb h]
  rfl
/-! joins -/
section
variable {n : Nat} {s1 s2 c w : P} {c1 c2 : Cols} {rs os : List Row} {ofr : Fr} {t : Row → Option Bool} {ou : Bool}
end
end Kb
namespace Kb
open PySem PySem.Spec PyProof.Rows L2 Pv
/-- one statement after the other -/
theorem Ev_seq {A B : MS} {σ : En} {S : SH} {Q : Fl → SH → Prop} (R : En → SH → Prop) (h : Ev (A σ S) (fun f T => ∃ σ', f = .nx σ' ∧ R σ' T) ⟨⟩) (k : ∀ σ' T, R σ' T → Ev (B σ' T) Q ⟨⟩) : Ev (dSeq A B σ S) Q ⟨⟩ := by
  rw [l_Seq, Ev_bl]
  refine h.mono fun f T hh => ?_
  obtain ⟨σ', rfl, r⟩ := hh
  rw [seqK_nx]
  exact k σ' T r
/-! selects that show all -/
def selP (di : Bool) (items src cnd grp hav : P) : P := .tup [.str "select", .bl di, items, src, cnd, grp, hav]
theorem result_sel {n : Nat} {di : Bool} {it src cnd g hv o w x : P} (h : ∀ S, m_select_result n [.p (selP di it src cnd g hv), .p o, .p w] S = some (.p x, S)) (S : SH) : m_result_of (n + 1) [.p (selP di it src cnd g hv), .p o, .p w] S = some (.p x, S) := by
  unfold selP at h ⊢
  refine fn_eq rfl rfl ?_
  simp -dsimp (disch := decide +kernel) only [evT, evD, Int.reduceLT, Int.reduceLE, Int.reduceEq, Int.reduceAdd, Int.reduceSub, Int.reduceMul, Int.reduceNeg, wipeD, List.set_cons_zero, List.set_cons_succ, Bool.false_eq_true, if_true, if_false, decide_true, decide_false, Bool.not_true, Bool.not_false, and_self, and_true, true_and, eq_self, ix0, fEq_t, h]
theorem rows_of {q ts pr nm rs : P} (h : ∀ S, m_result_of 40 [.p q, .p .non, .p (woI ts pr)] S = some (.p (.tup [nm, rs]), S)) (S : SH) : m_query_rows [.p q, .p ts, .p pr] S = some (.p rs, S) := by
  have mk : ∀ T, mkK 0 m_World_init [.p ts, .p pr] T = some (.p (woI ts pr), T) := fun T => mk_world ..
  refine fn_eq rfl rfl ?_
  simp -dsimp (disch := decide +kernel) only [evT, evD, Int.reduceLT, Int.reduceLE, Int.reduceEq, Int.reduceAdd, Int.reduceSub, Int.reduceMul, Int.reduceNeg, wipeD, List.set_cons_zero, List.set_cons_succ, Bool.false_eq_true, if_true, if_false, decide_true, decide_false, Bool.not_true, Bool.not_false, and_self, and_true, true_and, eq_self, l_Make, mk, h, ix1]
end Kb
namespace Kb
open PySem PySem.Spec PyProof.Rows L2 Pv
/-! comprehensions whose items change the state -/
section
variable {σ : En} {S : SH} {j : Nat} {elt : ME} {g : MG} {fin : SH → Bool} {Q : List D → SH → Prop}
theorem Ev_cJ (J : Nat → List D → SH → Prop) : ∀ (items : List (SH → Option D)) (acc : List D) (S : SH), J acc.length acc S → acc.length + items.length ≤ sizeLine → (∀ acc' S, acc'.length = acc.length + items.length → J acc'.length acc' S → fin S = true ∧ Q acc' S) →
    (∀ i it acc' S, items[i]? = some it → acc'.length = acc.length + i → J acc'.length acc' S → ∃ d σ1, it S = some d ∧ g d σ S = some (σ1, S) ∧ Ev (elt σ1 S) (fun y S2 => J (acc'.length + 1) (acc' ++ [y]) S2) ⟨⟩) →
    Ev (compL fin g dYes elt σ items acc S) Q ⟨⟩
  | [], acc, S, hj, _, hf, _ => by
    obtain ⟨h1, h2⟩ := hf acc S rfl hj
    rw [compL, if_pos h1, Ev_some]
    exact h2
  | it :: items, acc, S, hj, hz, hf, h => by
    obtain ⟨d, σ1, h1, h2, e⟩ := h 0 it acc S rfl rfl hj
    obtain ⟨y, S2, h3, h4⟩ := e.get
    have la : (acc ++ [y]).length = acc.length + 1 := by rw [List.length_append]; rfl
    rw [List.length_cons] at hz
    have ih := Ev_cJ J items (acc ++ [y]) S2 (by rw [la]; exact h4) (by rw [la]; omega) (fun acc' S hl hj => hf acc' S (by rw [hl, la, List.length_cons]; omega) hj) (fun i it' acc' S hi hl hj => h (i + 1) it' acc' S (by simpa using hi) (by rw [hl, la]; omega) hj)
    rw [compL, h1]
    dsimp only
    rw [h2, bnd_some, at_dYes, bnd_some, if_pos rfl, if_pos (by omega), h3, bnd_some]
    exact ih
/-- .. over a range from 0 -/
theorem Ev_crJ {n : Nat} (J : Nat → List D → SH → Prop) (hn : n ≤ sizeLine) (h0 : J 0 [] S)
    (hs : ∀ (i : Nat) acc S, i < n → acc.length = i → J i acc S → Ev (elt (σ.set j (some (.p (.int (i : Int))))) S) (fun y S2 => J (i + 1) (acc ++ [y]) S2) ⟨⟩)
    (he : ∀ acc S, acc.length = n → J n acc S → Q acc S) : Ev (compL (srcN 0 n).fin (gNm j) dYes elt σ (srcN 0 n).items [] S) Q ⟨⟩ := by
  have hl : (srcN 0 n).items.length = n := by simp [srcN]
  refine Ev_cJ J (srcN 0 n).items [] S h0 (by rw [hl]; simpa using hn) (fun acc S h hj => ⟨rfl, ?_⟩) fun i it acc S hi h hj => ?_
  · rw [hl, List.length_nil, Nat.zero_add] at h
    rw [h] at hj
    exact he acc S h hj
  · rw [List.length_nil, Nat.zero_add] at h
    simp only [srcN, List.getElem?_map] at hi
    cases e : (List.range n)[i]? with
    | none => rw [e] at hi; cases hi
    | some i' =>
      rw [e] at hi
      cases hi
      obtain ⟨h1, h2⟩ := List.getElem?_eq_some_iff.mp e
      rw [List.getElem_range] at h2
      subst h2
      rw [List.length_range] at h1
      rw [h] at hj ⊢
      have q := hs i acc S h1 h hj
      rw [← Int.zero_add (i : Int)] at q
      exact ⟨_, _, rfl, rfl, q⟩
/-- .. over a list of data -/
theorem Ev_cpJ {α : Type} {f : α → P} {xs : List α} (J : Nat → List D → SH → Prop) (hn : xs.length ≤ sizeLine) (h0 : J 0 [] S)
    (hs : ∀ (i : Nat) x acc S, xs[i]? = some x → acc.length = i → J i acc S → Ev (elt (σ.set j (some (.p (f x)))) S) (fun y S2 => J (i + 1) (acc ++ [y]) S2) ⟨⟩)
    (he : ∀ acc S, acc.length = xs.length → J xs.length acc S → Q acc S) : Ev (compL (srcP (xs.map f)).fin (gNm j) dYes elt σ (srcP (xs.map f)).items [] S) Q ⟨⟩ := by
  have hl : (srcP (xs.map f)).items.length = xs.length := by simp [srcP]
  refine Ev_cJ J (srcP (xs.map f)).items [] S h0 (by rw [hl]; simpa using hn) (fun acc S h hj => ⟨rfl, ?_⟩) fun i it acc S hi h hj => ?_
  · rw [hl, List.length_nil, Nat.zero_add] at h
    rw [h] at hj
    exact he acc S h hj
  · rw [List.length_nil, Nat.zero_add] at h
    simp only [srcP, List.getElem?_map] at hi
    cases e : xs[i]? with
    | none => rw [e] at hi; cases hi
    | some x =>
      rw [e] at hi
      cases hi
      rw [h] at hj ⊢
      exact ⟨_, _, rfl, rfl, hs i x acc S e h hj⟩
end
/-! values of a kind -/
def kindS : Nat → Str
  | 0 => "integer"
  | 1 => "text"
  | _ => "boolean"
def KindU : Nat → U → Prop
  | 0, u => u = .n ∨ ∃ i, u = .i i
  | 1, u => u = .n ∨ ∃ x, u = .s x
  | _, u => u = .n ∨ ∃ x, u = .b x
def chA : Str := " '!\"#$&()*+,-./0123456789:;<=>?@ABCDEFGHIJKLMNOPQRSTUVWXYZ[\\]^_`"
def chB : Str := "abcdefghijklmnopqrstuvwxyz{|}~\n"
theorem chs_len : (chA ++ chB).cps.toList.length = 95 ∧ chA.length ≤ 100 ∧ chB.length ≤ 100 := by decide +kernel
theorem ix_str {z : Str} {i : Nat} (h : i < z.cps.toList.length) (hz : z.length ≤ 1000) (T : SH) : ∃ c : Nat, ∀ T, fIx (.p (.str z)) (.p (.int (i : Int))) T = some (.p (.str ⟨#[c]⟩), T) := by
  refine ⟨z.cps.toList[i], fun T => ?_⟩
  have e : atI z.cps.toList (i : Int) = some z.cps.toList[i] := Pv.atI_nat (List.getElem?_eq_getElem h)
  unfold fIx
  dsimp only
  rw [if_pos (lin (by omega)), e]
theorem char_eq (v : Nat) (S : SH) : ∃ z : Str, z.length = 1 ∧ ∀ S, m_char [.p (.int (v : Int))] S = some (.p (.str z), S) := by
  obtain ⟨l, l1, l2⟩ := chs_len
  obtain ⟨c, ix⟩ := ix_str (z := chA ++ chB) (i := v % 95) (by rw [l]; exact Nat.mod_lt _ (by decide)) (by rw [app_len]; omega) S
  refine ⟨⟨#[c]⟩, rfl, fun S => ?_⟩
  have a : ∀ T, fAdd false (.p (.str " '!\"#$&()*+,-./0123456789:;<=>?@ABCDEFGHIJKLMNOPQRSTUVWXYZ[\\]^_`")) (.p (.str "abcdefghijklmnopqrstuvwxyz{|}~\n")) T = some (.p (.str (chA ++ chB)), T) := fun T => add_s false (a := chA) (b := chB) (by omega) T
  have m : ∀ T, fMod (.p (.int (v : Int))) (.p (.int 95)) T = some (.p (.int ((v % 95 : Nat) : Int)), T) := fun T => by rw [fMod_i (by decide)]; rfl
  refine fn_eq rfl rfl ?_
  simp -dsimp (disch := decide +kernel) only [evT, evD, Int.reduceLT, Int.reduceLE, Int.reduceEq, Int.reduceAdd, Int.reduceSub, Int.reduceMul, Int.reduceNeg, wipeD, List.set_cons_zero, List.set_cons_succ, Bool.false_eq_true, if_true, if_false, decide_true, decide_false, Bool.not_true, Bool.not_false, and_self, and_true, true_and, eq_self, a, fInt_i, m, ix]
theorem value_W (k : Nat) {s : St} (ok : s.ok) : ∃ (u : U) (s' : St), KindU k u ∧ s'.ok ∧ ∀ {os : List Ob} {m : Nat} (_ : m < os.length) (X : List Ob) b, m_value [.ref m, .p (.str (kindS k))] ⟨b, W os m s X⟩ = some (.p (uP u), ⟨b, W os m s' X⟩) := by
  obtain ⟨v1, s1, o1, l1, e1⟩ := next_W ok (lim := 5) (by decide) (by decide)
  by_cases q : v1 = 0
  · refine ⟨.n, s1, by unfold KindU; split <;> exact .inl rfl, o1, fun {os m} h X b => ?_⟩
    have f1 := e1 h X
    subst q
    refine fn_eq rfl rfl ?_
    simp -dsimp (disch := decide +kernel) only [evT, evD, Int.reduceLT, Int.reduceLE, Int.reduceEq, Int.reduceAdd, Int.reduceSub, Int.reduceMul, Int.reduceNeg, wipeD, List.set_cons_zero, List.set_cons_succ, Bool.false_eq_true, if_true, if_false, decide_true, decide_false, Bool.not_true, Bool.not_false, and_self, and_true, true_and, eq_self, f1, fEq_ii, Int.natCast_zero, uP, W_cut0]
  have q' : ¬ (v1 : Int) = 0 := by omega
  have ks : k = 0 ∨ k = 1 ∨ (k ≠ 0 ∧ k ≠ 1) := by omega
  rcases ks with rfl | rfl | ⟨k0, k1⟩
  · obtain ⟨v2, s2, o2, l2, e2⟩ := next_W o1 (lim := 4) (by decide) (by decide)
    obtain ⟨l, g0, g1, gi⟩ : ∃ l : Int, 0 < l ∧ l ≤ 10 ^ 40 ∧ ∀ T, fIx (.p (.lst [.int 4, .int 4, .int 4, .int (10 ^ 40)])) (.p (.int (v2 : Int))) T = some (.p (.int l), T) := by
      have : v2 = 0 ∨ v2 = 1 ∨ v2 = 2 ∨ v2 = 3 := by omega
      rcases this with rfl | rfl | rfl | rfl
      · exact ⟨4, by decide, by decide, fun T => fIx_l rfl⟩
      · exact ⟨4, by decide, by decide, fun T => fIx_l rfl⟩
      · exact ⟨4, by decide, by decide, fun T => fIx_l rfl⟩
      · exact ⟨10 ^ 40, by decide, by decide, fun T => fIx_l rfl⟩
    obtain ⟨v3, s3, o3, l3, e3⟩ := next_W o2 (lim := l) g0 (by omega)
    obtain ⟨v4, s4, o4, l4, e4⟩ := next_W o3 (lim := 2) (by decide) (by decide)
    refine ⟨.i ((v3 : Int) * (1 - 2 * (v4 : Int))), s4, .inr ⟨_, rfl⟩, o4, fun {os m} h X b => ?_⟩
    have f1 := e1 h X
    have f2 := e2 h X
    have f3 := e3 h X
    have f4 := e4 h X
    have nl : ∀ T, newL false [.p (.int 4), .p (.int 4), .p (.int 4), .p (.int (10 ^ 40))] T = some (.p (.lst [.int 4, .int 4, .int 4, .int (10 ^ 40)]), T) := fun T => newL_f (S := T) [.int 4, .int 4, .int 4, .int (10 ^ 40)] (lin (by simp))
    have mu : ∀ T, fMul (.p (.int (v3 : Int))) (.p (.int (1 - 2 * (v4 : Int)))) T = some (.p (.int ((v3 : Int) * (1 - 2 * (v4 : Int)))), T) := fun T => fMul_ri (by omega) T
    refine fn_eq rfl rfl ?_
    show Ev _ _ _
    simp -dsimp (disch := decide +kernel) only [evT, evD, Int.reduceLT, Int.reduceLE, Int.reduceEq, Int.reduceAdd, Int.reduceSub, Int.reduceMul, Int.reduceNeg, wipeD, List.set_cons_zero, List.set_cons_succ, Bool.false_eq_true, if_true, if_false, decide_true, decide_false, Bool.not_true, Bool.not_false, and_self, and_true, true_and, eq_self, f1, fEq_ii, q', show kindS 0 = "integer" from rfl, fEq_t, fEq_f, pow40, nl, f2, gi, f3, f4, mull2, mu, uP, W_cut0]
  · obtain ⟨v2, s2, o2, l2, e2⟩ := next_W o1 (lim := 5) (by decide) (by decide)
    obtain ⟨v3, s3, o3, l3, e3⟩ := next_W o2 (lim := 5) (by decide) (by decide)
    have nl : ∀ T, newL false [.p (.str ""), .p (.str "a"), .p (.str "b"), .p (.str "ab"), .p (.str "B")] T = some (.p (.lst [.str "", .str "a", .str "b", .str "ab", .str "B"]), T) := fun T => newL5 ..
    obtain ⟨x, lx, ix⟩ : ∃ x : Str, x.length ≤ 5 ∧ ∀ T, fIx (.p (.lst [.str "", .str "a", .str "b", .str "ab", .str "B"])) (.p (.int (v2 : Int))) T = some (.p (.str x), T) := by
      have : v2 = 0 ∨ v2 = 1 ∨ v2 = 2 ∨ v2 = 3 ∨ v2 = 4 := by omega
      rcases this with rfl | rfl | rfl | rfl | rfl
      · exact ⟨"", by decide +kernel, fun T => fIx_l rfl⟩
      · exact ⟨"a", by decide +kernel, fun T => fIx_l rfl⟩
      · exact ⟨"b", by decide +kernel, fun T => fIx_l rfl⟩
      · exact ⟨"ab", by decide +kernel, fun T => fIx_l rfl⟩
      · exact ⟨"B", by decide +kernel, fun T => fIx_l rfl⟩
    by_cases q2 : (v3 : Int) = 0
    · obtain ⟨v4, s4, o4, l4, e4⟩ := next_W o3 (lim := 95) (by decide) (by decide)
      obtain ⟨z, lz, ez⟩ := char_eq v4 (SH.mk 0 [])
      refine ⟨.s (x ++ z), s4, .inr ⟨_, rfl⟩, o4, fun {os m} h X b => ?_⟩
      have f1 := e1 h X
      have f2 := e2 h X
      have f3 := e3 h X
      have f4 := e4 h X
      have ad := fun T => add_s false (a := x) (b := z) (by omega) T
      refine fn_eq rfl rfl ?_
      simp -dsimp (disch := decide +kernel) only [evT, evD, Int.reduceLT, Int.reduceLE, Int.reduceEq, Int.reduceAdd, Int.reduceSub, Int.reduceMul, Int.reduceNeg, wipeD, List.set_cons_zero, List.set_cons_succ, Bool.false_eq_true, if_true, if_false, decide_true, decide_false, Bool.not_true, Bool.not_false, and_self, and_true, true_and, eq_self, f1, fEq_ii, q', show kindS 1 = "text" from rfl, fEq_t, fEq_f, nl, f2, ix, f3, q2, f4, ez, ad, uP, W_cut0]
    · refine ⟨.s x, s3, .inr ⟨_, rfl⟩, o3, fun {os m} h X b => ?_⟩
      have f1 := e1 h X
      have f2 := e2 h X
      have f3 := e3 h X
      refine fn_eq rfl rfl ?_
      simp -dsimp (disch := decide +kernel) only [evT, evD, Int.reduceLT, Int.reduceLE, Int.reduceEq, Int.reduceAdd, Int.reduceSub, Int.reduceMul, Int.reduceNeg, wipeD, List.set_cons_zero, List.set_cons_succ, Bool.false_eq_true, if_true, if_false, decide_true, decide_false, Bool.not_true, Bool.not_false, and_self, and_true, true_and, eq_self, f1, fEq_ii, q', show kindS 1 = "text" from rfl, fEq_t, fEq_f, nl, f2, ix, f3, q2, uP, W_cut0]
  · obtain ⟨v2, s2, o2, l2, e2⟩ := next_W o1 (lim := 2) (by decide) (by decide)
    obtain ⟨k', rfl⟩ : ∃ k', k = k' + 2 := ⟨k - 2, by omega⟩
    refine ⟨.b (decide ((v2 : Int) = 1)), s2, .inr ⟨_, rfl⟩, o2, fun {os m} h X b => ?_⟩
    have f1 := e1 h X
    have f2 := e2 h X
    refine fn_eq rfl rfl ?_
    simp -dsimp (disch := decide +kernel) only [evT, evD, Int.reduceLT, Int.reduceLE, Int.reduceEq, Int.reduceAdd, Int.reduceSub, Int.reduceMul, Int.reduceNeg, wipeD, List.set_cons_zero, List.set_cons_succ, Bool.false_eq_true, if_true, if_false, decide_true, decide_false, Bool.not_true, Bool.not_false, and_self, and_true, true_and, eq_self, f1, fEq_ii, q', show kindS (k' + 2) = "boolean" from rfl, fEq_t, fEq_f, f2, uP, W_cut0]
/-! rows of kinds -/
def KR (ks : List Nat) (r : Row) : Prop := r.length = ks.length ∧ ∀ (i k : Nat) (u : U), ks[i]? = some k → r[i]? = some u → KindU k u
theorem KR_nil : KR [] [] := ⟨rfl, fun i k u h => by cases h⟩
theorem KR_snoc {ks : List Nat} {r : Row} {k : Nat} {u : U} (h : KR ks r) (hu : KindU k u) : KR (ks ++ [k]) (r ++ [u]) := by
  refine ⟨by rw [List.length_append, List.length_append, h.1]; rfl, fun i k' u' h1 h2 => ?_⟩
  by_cases q : i < ks.length
  · rw [List.getElem?_append_left q] at h1
    rw [List.getElem?_append_left (by rw [h.1]; exact q)] at h2
    exact h.2 i k' u' h1 h2
  · rw [List.getElem?_append_right (by omega)] at h1
    rw [List.getElem?_append_right (by rw [h.1]; omega), h.1] at h2
    cases e : i - ks.length with
    | zero => rw [e] at h1 h2; cases h1; cases h2; exact hu
    | succ j => rw [e] at h1; cases h1
def kindsP (ks : List Nat) : P := .lst (ks.map fun k => .str (kindS k))
/-- values of these kinds, one after the other -/
theorem vals_W {ks : List Nat} (hk : ks.length ≤ 100) {s : St} (ok : s.ok) {os : List Ob} {m : Nat} (hm : m < os.length) (X : List Ob) (b : Nat) {σ : En} {j i1 : Nat} (hj : ∀ x : D, (σ.set j (some x))[i1]? = some (some (.ref m))) (hx : ∀ x : D, (σ.set j (some x))[j]? = some (some x)) {Q : List D → SH → Prop}
    (q : ∀ r s', KR ks r → s'.ok → Q (r.map fun u => D.p (uP u)) ⟨b, W os m s' X⟩) :
    Ev (compL (srcP (ks.map fun k => P.str (kindS k))).fin (gNm j) dYes (dCall m_value (dCons (dVar i1) (dCons (dVar j) dNil))) σ (srcP (ks.map fun k => P.str (kindS k))).items [] ⟨b, W os m s X⟩) Q ⟨⟩ := by
  refine Ev_cpJ (fun i acc T => ∃ (r : Row) (s' : St), KR (ks.take i) r ∧ s'.ok ∧ acc = r.map (fun u => D.p (uP u)) ∧ T = ⟨b, W os m s' X⟩) (lin (by omega)) ⟨[], s, by rw [List.take_zero]; exact KR_nil, ok, rfl, rfl⟩ ?_ ?_
  · rintro i k acc T hi hl ⟨r, s', hr, os', rfl, rfl⟩
    obtain ⟨u, s2, ku, o2, e2⟩ := value_W k os'
    have f2 := e2 hm X b
    refine Ev.of (a := .p (uP u)) (S := ⟨b, W os m s2 X⟩) ?_ ⟨r ++ [u], s2, ?_, o2, by rw [List.map_append]; rfl, rfl⟩
    · simp only [at_dCall, at_dCons, at_dNil, at_dVar, hj, hx, bnd_some, f2]
    · have tk : ks.take (i + 1) = ks.take i ++ [k] := by rw [List.take_add_one, hi]; rfl
      rw [tk]
      exact KR_snoc hr ku
  · rintro acc T hl ⟨r, s', hr, os', rfl, rfl⟩
    rw [List.take_length] at hr
    exact q r s' hr os'
end Kb
namespace Kb
open PySem PySem.Spec PyProof.Rows L2 Pv
/-! rows once -/
def once (rs : List Row) : List Row := rs.foldl (fun acc r => if r ∈ acc then acc else acc ++ [r]) []
/-! dicts by rows -/
section
variable (kf : Row → List P) (kk : Row → NestedKey)
structure KeyF : Prop where
  key : ∀ r, keyP (.tup (kf r)) = some (kk r)
  dep : ∀ r, (kk r).depth ≤ 8
  inj : ∀ r r', kk r = kk r' → r = r'
variable {kf kk} (h : KeyF kf kk)
include h
theorem keyD_kf (r : Row) : keyD (.p (.tup (kf r))) = some (.tup (kf r), kk r) := by
  unfold keyD
  dsimp only
  rw [h.key r]
  dsimp only
  rw [if_pos (h.dep r)]
end
/-! the two keys of a row -/
def keyK : U → List NestedKey
  | .n => [.num 0]
  | .b x => [.num 1, .num (if x = true then 1 else 0)]
  | .i x => [.num 2, .num x]
  | .s x => [.num 3, .text x]
theorem keyPs_app : ∀ (ps qs : List P) (a b : List NestedKey), keyPs ps = some a → keyPs qs = some b → keyPs (ps ++ qs) = some (a ++ b)
  | [], qs, a, b, h1, h2 => by cases h1; exact h2
  | p :: ps, qs, a, b, h1, h2 => by
    rw [keyPs] at h1
    cases e1 : keyP p with
    | none => rw [e1] at h1; cases h1
    | some k =>
      cases e2 : keyPs ps with
      | none => rw [e1, e2] at h1; cases h1
      | some ks =>
        rw [e1, e2] at h1
        cases h1
        rw [List.cons_append, keyPs, e1, keyPs_app ps qs ks b e2 h2]
        rfl
theorem keyPs_u (u : U) : keyPs (keyU u) = some (keyK u) := by cases u <;> simp [keyU, keyK, keyPs, keyP]
/-- a row's key in one piece -/
def flatK (r : Row) : List P := r.flatMap keyU
def flatN (r : Row) : NestedKey := .tup (r.flatMap keyK)
theorem keyPs_flat : ∀ r : Row, keyPs (flatK r) = some (r.flatMap keyK)
  | [] => rfl
  | u :: r => by
    show keyPs ((u :: r).flatMap keyU) = _
    rw [List.flatMap_cons, List.flatMap_cons]
    exact keyPs_app _ _ _ _ (keyPs_u u) (keyPs_flat r)
theorem flat_inj : ∀ r r' : Row, r.flatMap keyK = r'.flatMap keyK → r = r'
  | [], [], _ => rfl
  | [], u :: r', h => by rw [List.flatMap_cons] at h; cases u <;> simp [keyK] at h
  | u :: r, [], h => by rw [List.flatMap_cons] at h; cases u <;> simp [keyK] at h
  | u :: r, u' :: r', h => by
    rw [List.flatMap_cons, List.flatMap_cons] at h
    have key : u = u' ∧ r.flatMap keyK = r'.flatMap keyK := by
      cases u <;> cases u' <;> simp [keyK] at h ⊢
      · exact h
      · rename_i a b
        obtain ⟨h1, h2⟩ := h
        refine ⟨?_, h2⟩
        cases a <;> cases b <;> simp at h1 ⊢
      · exact h
      · exact h
    rw [key.1, flat_inj r r' key.2]
theorem depthAll_le (n : Nat) : ∀ ks : List NestedKey, (∀ k ∈ ks, k.depth ≤ n) → NestedKey.depthAll ks ≤ n
  | [], _ => Nat.zero_le _
  | k :: ks, h => by
    unfold NestedKey.depthAll
    exact Nat.max_le.mpr ⟨h k List.mem_cons_self, depthAll_le n ks fun x hx => h x (List.mem_cons_of_mem _ hx)⟩
theorem keyK_dep (u : U) : ∀ k ∈ keyK u, k.depth ≤ 0 := by
  intro k hk
  cases u <;> simp [keyK] at hk
  · subst hk; exact Nat.le_refl _
  · rcases hk with rfl | rfl
    · exact Nat.le_refl _
    · split <;> exact Nat.le_refl _
  · rcases hk with rfl | rfl <;> exact Nat.le_refl _
  · rcases hk with rfl | rfl <;> exact Nat.le_refl _
/-- the key in one piece -/
theorem flatF : KeyF flatK flatN where
  key := fun r => by
    unfold keyP
    rw [keyPs_flat]
    rfl
  dep := fun r => by
    unfold flatN NestedKey.depth
    have := depthAll_le 0 (r.flatMap keyK) (fun k hk => by
      obtain ⟨u, _, hu⟩ := List.mem_flatMap.mp hk
      exact keyK_dep u k hu)
    omega
  inj := fun r r' h => by
    unfold flatN at h
    injection h with h
    exact flat_inj r r' h
/-- the law's key: a tuple of pairs -/
def key2 : U → P
  | .n => .tup [.int 0, .int 0]
  | .b x => .tup [.int 1, .int (if x = true then 1 else 0)]
  | .i x => .tup [.int 2, .int x]
  | .s x => .tup [.int 3, .str x]
end Kb
namespace Kb
open PySem PySem.Spec PyProof.Rows L2 Pv
/-! keys of rows -/
theorem ext_rt {n : Nat} {S : SH} {ps qs : List P} (h : S.os[n]? = some (.lst (ps.map D.p))) (hl : ps.length + qs.length ≤ 1000000) : fExt [.ref n, .p (.tup qs)] S = some (.p .non, S.put n (.lst ((ps ++ qs).map D.p))) := by
  unfold fExt
  dsimp only
  rw [h]
  show (match toPs (qs.map D.p) with | some _ => _ | none => _) = _
  rw [toPs_map]
  dsimp only
  rw [List.length_map, if_pos (Nat.le_trans hl line_ge), List.map_append]
theorem fTuple_r {n : Nat} {S : SH} {ps : List P} (h : S.os[n]? = some (.lst (ps.map D.p))) (hl : ps.length ≤ sizeLine) : fTuple [.ref n] S = some (.p (.tup ps), S) := by
  have a : asL (.ref n) S = some (ps.map D.p) := by
    unfold asL
    dsimp only
    rw [h]
  show (match asL (.ref n) S with | some xs => newT xs S | none => none) = _
  rw [a]
  exact newT_p ps hl
theorem flatK_len : ∀ r : Row, (flatK r).length ≤ 2 * r.length
  | [] => Nat.le_refl _
  | u :: r => by
    have := flatK_len r
    have := keyU_len u
    show ((u :: r).flatMap keyU).length ≤ _
    rw [List.flatMap_cons, List.length_append, List.length_cons]
    show (keyU u).length + (flatK r).length ≤ _
    omega
theorem flatK_snoc (r : Row) (u : U) : flatK (r ++ [u]) = flatK r ++ keyU u := by unfold flatK; rw [List.flatMap_append, List.flatMap_singleton]
theorem row_key_d {d : P} {r : Row} (hd : ∀ T, srcOf (.p d) T = some (srcP (r.map uP), T)) (hl : r.length ≤ 1000) (S : SH) : m_row_key [.p d] S = some (.p (.tup (flatK r)), S) := by
  refine Ev.eq (t := ⟨⟩) (fn_ev rfl rfl ?_)
  have nl : ∀ T : SH, newL true [] T = some (.ref T.os.length, ⟨T.b, T.os ++ [.lst []]⟩) := fun T => newL_t [] (lin (by simp))
  simp -dsimp (disch := decide +kernel) only [evT, evD, Int.reduceLT, Int.reduceLE, Int.reduceEq, Int.reduceAdd, Int.reduceSub, Int.reduceMul, Int.reduceNeg, wipeD, List.set_cons_zero, List.set_cons_succ, Bool.false_eq_true, if_true, if_false, decide_true, decide_false, Bool.not_true, Bool.not_false, and_self, and_true, true_and, eq_self, nl, hd]
  refine Ev_pn (fun i σ T => σ = [none, some (.ref S.os.length), none] ∧ T = ⟨S.os.length, S.os ++ [.lst ((flatK (r.take i)).map D.p)]⟩) ⟨rfl, rfl⟩ ?_ ?_
  · rintro i u σ T hu ⟨rfl, rfl⟩
    have tk : r.take (i + 1) = r.take i ++ [u] := by rw [List.take_add_one, hu]; rfl
    have vk := fun T => value_key_eq u T
    have ty : isTy "list" (.ref S.os.length) ⟨S.os.length, S.os ++ [.lst ((flatK (r.take i)).map D.p)]⟩ = true := isTy_ref (at_last _ S.os _)
    have fl := flatK_len (r.take i)
    have lt : (r.take i).length ≤ r.length := by rw [List.length_take]; omega
    have ku := keyU_len u
    have ex : fExt [.ref S.os.length, .p (.tup (keyU u))] ⟨S.os.length, S.os ++ [.lst ((flatK (r.take i)).map D.p)]⟩ = some (.p .non, ⟨S.os.length, S.os ++ [.lst ((flatK (r.take (i + 1))).map D.p)]⟩) := by
      rw [tk, flatK_snoc]
      have z := ext_rt (n := S.os.length) (S := ⟨S.os.length, S.os ++ [.lst ((flatK (r.take i)).map D.p)]⟩) (qs := keyU u) (at_last _ S.os _) (by omega)
      rw [put_last] at z
      exact z
    simp -dsimp (disch := decide +kernel) only [evT, evD, Int.reduceLT, Int.reduceLE, Int.reduceEq, Int.reduceAdd, Int.reduceSub, Int.reduceMul, Int.reduceNeg, wipeD, List.set_cons_zero, List.set_cons_succ, Bool.false_eq_true, if_true, if_false, decide_true, decide_false, Bool.not_true, Bool.not_false, and_self, and_true, true_and, eq_self, vk, ty, ex]
    exact Hold.i ⟨rfl, rfl⟩
  · rintro σ T ⟨rfl, rfl⟩
    rw [List.take_length]
    have fl := flatK_len r
    have tu : fTuple [.ref S.os.length] ⟨S.os.length, S.os ++ [.lst ((flatK r).map D.p)]⟩ = some (.p (.tup (flatK r)), ⟨S.os.length, S.os ++ [.lst ((flatK r).map D.p)]⟩) := fTuple_r (at_last _ S.os _) (lin (by omega))
    simp -dsimp (disch := decide +kernel) only [evT, evD, Int.reduceLT, Int.reduceLE, Int.reduceEq, Int.reduceAdd, Int.reduceSub, Int.reduceMul, Int.reduceNeg, wipeD, List.set_cons_zero, List.set_cons_succ, Bool.false_eq_true, if_true, if_false, decide_true, decide_false, Bool.not_true, Bool.not_false, and_self, and_true, true_and, eq_self, tu]
theorem key_eq (u : U) (S : SH) : m_key [.p (uP u)] S = some (.p (key2 u), S) := by
  have ib : ∀ (x : P) (T : SH), fIsi ["bool"] (.p x) T = (match tyName (.p x) T with | some t => some (.p (.bl (isSub t "bool")), T) | none => none) := fun x T => by
    unfold fIsi; cases tyName (.p x) T <;> simp [tyOk]
  have ii : ∀ (x : P) (T : SH), fIsi ["int"] (.p x) T = (match tyName (.p x) T with | some t => some (.p (.bl (isSub t "int")), T) | none => none) := fun x T => by
    unfold fIsi; cases tyName (.p x) T <;> simp [tyOk]
  cases u with
  | n => exact fn_eq rfl rfl (by unfold uP key2; simp -dsimp (disch := decide +kernel) only [evT, evD, Int.reduceLT, Int.reduceLE, Int.reduceEq, Int.reduceAdd, Int.reduceSub, Int.reduceMul, Int.reduceNeg, wipeD, List.set_cons_zero, List.set_cons_succ, Bool.false_eq_true, if_true, if_false, decide_true, decide_false, Bool.not_true, Bool.not_false, and_self, and_true, true_and, eq_self, ])
  | b x =>
    have e1 : ∀ T, fIsi ["bool"] (.p (.bl x)) T = some (.p (.bl true), T) := fun T => ib _ T
    have e2 : ∀ T, fInt [.p (.bl x)] T = some (.p (.int (if x = true then 1 else 0)), T) := fun T => rfl
    exact fn_eq rfl rfl (by unfold uP key2; simp -dsimp (disch := decide +kernel) only [evT, evD, Int.reduceLT, Int.reduceLE, Int.reduceEq, Int.reduceAdd, Int.reduceSub, Int.reduceMul, Int.reduceNeg, wipeD, List.set_cons_zero, List.set_cons_succ, Bool.false_eq_true, if_true, if_false, decide_true, decide_false, Bool.not_true, Bool.not_false, and_self, and_true, true_and, eq_self, e1, e2])
  | i x =>
    have e1 : ∀ T, fIsi ["bool"] (.p (.int x)) T = some (.p (.bl false), T) := fun T => ib _ T
    have e2 : ∀ T, fIsi ["int"] (.p (.int x)) T = some (.p (.bl true), T) := fun T => ii _ T
    exact fn_eq rfl rfl (by unfold uP key2; simp -dsimp (disch := decide +kernel) only [evT, evD, Int.reduceLT, Int.reduceLE, Int.reduceEq, Int.reduceAdd, Int.reduceSub, Int.reduceMul, Int.reduceNeg, wipeD, List.set_cons_zero, List.set_cons_succ, Bool.false_eq_true, if_true, if_false, decide_true, decide_false, Bool.not_true, Bool.not_false, and_self, and_true, true_and, eq_self, e1, e2])
  | s x =>
    have e1 : ∀ T, fIsi ["bool"] (.p (.str x)) T = some (.p (.bl false), T) := fun T => ib _ T
    have e2 : ∀ T, fIsi ["int"] (.p (.str x)) T = some (.p (.bl false), T) := fun T => ii _ T
    exact fn_eq rfl rfl (by unfold uP key2; simp -dsimp (disch := decide +kernel) only [evT, evD, Int.reduceLT, Int.reduceLE, Int.reduceEq, Int.reduceAdd, Int.reduceSub, Int.reduceMul, Int.reduceNeg, wipeD, List.set_cons_zero, List.set_cons_succ, Bool.false_eq_true, if_true, if_false, decide_true, decide_false, Bool.not_true, Bool.not_false, and_self, and_true, true_and, eq_self, e1, e2])
theorem lrow_key_d {d : P} {r : Row} (hd : ∀ T, srcOf (.p d) T = some (srcP (r.map uP), T)) (hl : r.length ≤ 1000) (S : SH) : m_lrow_key [.p d] S = some (.p (.tup (r.map key2)), S) := by
  refine Ev.eq (t := ⟨⟩) (fn_ev rfl rfl ?_)
  simp -dsimp (disch := decide +kernel) only [evT, evD, Int.reduceLT, Int.reduceLE, Int.reduceEq, Int.reduceAdd, Int.reduceSub, Int.reduceMul, Int.reduceNeg, wipeD, List.set_cons_zero, List.set_cons_succ, Bool.false_eq_true, if_true, if_false, decide_true, decide_false, Bool.not_true, Bool.not_false, and_self, and_true, true_and, eq_self, hd]
  refine Ev_cpn (fun u => .p (key2 u)) (lin (by omega)) (fun u hm => ?_) ?_
  · have ke := fun T => key_eq u T
    simp -dsimp (disch := decide +kernel) only [evT, evD, Int.reduceLT, Int.reduceLE, Int.reduceEq, Int.reduceAdd, Int.reduceSub, Int.reduceMul, Int.reduceNeg, wipeD, List.set_cons_zero, List.set_cons_succ, Bool.false_eq_true, if_true, if_false, decide_true, decide_false, Bool.not_true, Bool.not_false, and_self, and_true, true_and, eq_self, ke]
  · have nm := fun T => newM T key2 r (lin (by omega))
    have tu : ∀ T, fTuple [.p (.lst (r.map key2))] T = some (.p (.tup (r.map key2)), T) := fun T => fTuple_l (lin (by rw [List.length_map]; omega))
    simp -dsimp (disch := decide +kernel) only [evT, evD, Int.reduceLT, Int.reduceLE, Int.reduceEq, Int.reduceAdd, Int.reduceSub, Int.reduceMul, Int.reduceNeg, wipeD, List.set_cons_zero, List.set_cons_succ, Bool.false_eq_true, if_true, if_false, decide_true, decide_false, Bool.not_true, Bool.not_false, and_self, and_true, true_and, eq_self, nm, tu]
/-! rows once, in both programs -/
end Kb
namespace Kb
open PySem PySem.Spec PyProof.Rows L2 Pv
/-! select with columns -/
def colE (c : Str) : P := .tup [.str "column", .non, .str c]
theorem bols_no {α : Type} (xs : List α) : bolsOf (xs.map fun _ => D.p (P.bl false)) = some (xs.map fun _ => false) := by
  have := bolsOf_map (xs.map fun _ => false)
  rw [List.map_map] at this
  exact this
theorem any_no {α : Type} (xs : List α) (S : SH) : fAny [.p (.lst (xs.map fun _ => P.bl false))] S = some (.p (.bl false), S) := by
  have a : asL (.p (.lst (xs.map fun _ => P.bl false))) S = some (xs.map fun _ => D.p (P.bl false)) := by
    show some ((xs.map fun _ => P.bl false).map D.p) = _
    rw [List.map_map]
    rfl
  have b : (xs.map fun _ => false).any id = false := by simp
  unfold fAny
  dsimp only
  rw [a]
  dsimp only
  rw [bols_no]
  dsimp only
  rw [b]
end Kb
namespace Kb
open PySem PySem.Spec PyProof.Rows L2 Pv
/-! values in their order -/
theorem ltU_irr (a : U) : ltU a a = false := by
  cases a <;> simp [ltU, rankU, List.lt_irrefl]
theorem ltU_tr {a b c : U} (h1 : ltU a b = true) (h2 : ltU b c = true) : ltU a c = true := by
  cases a <;> cases b <;> cases c <;> simp [ltU, rankU] at h1 h2 ⊢
  · rename_i x y z; cases x <;> cases y <;> cases z <;> simp at h1 h2 ⊢
  · omega
  · exact List.lt_trans h1 h2
theorem str_cps {x y : Str} (h : x.cps.toList = y.cps.toList) : x = y := PySem.W.str_of_cps h
theorem ltU_tri {a b : U} (h1 : ltU a b = false) (h2 : ltU b a = false) : a = b := by
  cases a <;> cases b <;> simp [ltU, rankU] at h1 h2 ⊢
  · rename_i x y; cases x <;> cases y <;> simp at h1 h2 ⊢
  · omega
  · exact str_cps (List.le_antisymm h2 h1)
def leU (a b : U) : Bool := !ltU b a
theorem leU_pw (vs : List U) : (vs.mergeSort leU).Pairwise fun a b => leU a b = true := by
  refine List.pairwise_mergeSort (fun a b c h1 h2 => ?_) (fun a b => ?_) vs
  · unfold leU at *
    rw [Bool.not_eq_true'] at *
    cases h : ltU c a with
    | false => rfl
    | true =>
      cases h3 : ltU c b with
      | true => rw [h3] at h2; cases h2
      | false =>
        cases h4 : ltU b c with
        | true => rw [ltU_tr h4 h] at h1; cases h1
        | false =>
          rw [ltU_tri h3 h4] at h
          rw [h] at h1; cases h1
  · unfold leU
    cases h : ltU b a with
    | false => rfl
    | true =>
      cases h2 : ltU a b with
      | false => rfl
      | true =>
        have := ltU_tr h h2
        rw [ltU_irr] at this
        cases this
/-- u is the least (the greatest) of vs -/
def Mst (down : Bool) (vs : List U) (u : U) : Prop := u ∈ vs ∧ ∀ v ∈ vs, (if down = true then ltU u v else ltU v u) = false
theorem mst_uniq {down : Bool} {vs : List U} {u w : U} (h1 : Mst down vs u) (h2 : Mst down vs w) : u = w := by
  have a := h1.2 w h2.1
  have b := h2.2 u h1.1
  cases down
  · exact ltU_tri b a
  · exact ltU_tri a b
theorem srt_len (vs : List U) : (vs.mergeSort leU).length = vs.length := List.length_mergeSort vs
theorem mst_first' {vs ss : List U} (pm : ss.Perm vs) (pw : ss.Pairwise fun a b => leU a b = true) {u : U} (h : ss[0]? = some u) : Mst false vs u := by
  refine ⟨pm.mem_iff.mp (List.mem_of_getElem? h), fun v hv => ?_⟩
  have hv2 := pm.mem_iff.mpr hv
  rw [if_neg Bool.false_ne_true]
  cases ss with
  | nil => cases h
  | cons s ss =>
    cases h
    rcases List.mem_cons.mp hv2 with rfl | hm
    · exact ltU_irr _
    · have := (List.pairwise_cons.mp pw).1 v hm
      unfold leU at this
      rw [Bool.not_eq_true'] at this
      exact this
theorem mst_last' {vs ss : List U} (pm : ss.Perm vs) (pw : ss.Pairwise fun a b => leU a b = true) {u : U} (h : ss[ss.length - 1]? = some u) : Mst true vs u := by
  refine ⟨pm.mem_iff.mp (List.mem_of_getElem? h), fun v hv => ?_⟩
  have hv2 := pm.mem_iff.mpr hv
  rw [if_pos rfl]
  obtain ⟨hl, rfl⟩ := List.getElem?_eq_some_iff.mp h
  obtain ⟨i, hi, rfl⟩ := List.getElem_of_mem hv2
  by_cases q : i = ss.length - 1
  · subst q
    exact ltU_irr _
  · have := List.pairwise_iff_getElem.mp pw i (ss.length - 1) hi hl (by omega)
    unfold leU at this
    rw [Bool.not_eq_true'] at this
    exact this
theorem mst_first {vs : List U} {u : U} (h : (vs.mergeSort leU)[0]? = some u) : Mst false vs u := mst_first' (List.mergeSort_perm vs leU) (leU_pw vs) h
theorem mst_last {vs : List U} {u : U} (h : (vs.mergeSort leU)[(vs.mergeSort leU).length - 1]? = some u) : Mst true vs u := mst_last' (List.mergeSort_perm vs leU) (leU_pw vs) h
theorem fLen_r {n : Nat} {S : SH} {ds : List D} (h : S.os[n]? = some (.lst ds)) : fLen [.ref n] S = some (.p (.int (ds.length : Int)), S) := by
  have a : asQ (.ref n) S = some ds := by
    unfold asQ
    dsimp only
    rw [h]
  simp [fLen, a]
theorem asQ_r {n : Nat} {S : SH} {ds : List D} (h : S.os[n]? = some (.lst ds)) : asQ (.ref n) S = some ds := by
  unfold asQ
  dsimp only
  rw [h]
/-! what the law looks for -/
def stepU (down : Bool) (f v : U) : U := if f = .n ∨ (v ≠ f ∧ ltU v f ≠ down) then v else f
def mostU (down : Bool) (vs : List U) : U := vs.foldl (stepU down) .n
theorem most_gen (down : Bool) : ∀ (vs pre : List U) (f : U), (∀ v ∈ vs, v ≠ .n) → (pre = [] ∧ f = .n) ∨ (f ≠ .n ∧ Mst down pre f) → (pre ++ vs = [] ∧ vs.foldl (stepU down) f = .n) ∨ (vs.foldl (stepU down) f ≠ .n ∧ Mst down (pre ++ vs) (vs.foldl (stepU down) f))
  | [], pre, f, _, h => by
    rw [List.append_nil]
    exact h
  | v :: vs, pre, f, hv, h => by
    have e : pre ++ v :: vs = (pre ++ [v]) ++ vs := by simp
    rw [e, List.foldl_cons]
    have nv := hv v List.mem_cons_self
    refine most_gen down vs (pre ++ [v]) _ (fun x hx => hv x (List.mem_cons_of_mem _ hx)) (.inr ?_)
    unfold stepU
    rcases h with ⟨rfl, rfl⟩ | ⟨nf, hm⟩
    · rw [if_pos (.inl rfl)]
      refine ⟨nv, by simp, fun x hx => ?_⟩
      rw [List.nil_append, List.mem_singleton] at hx
      subst hx
      rw [ltU_irr]
      simp
    · by_cases q : v ≠ f ∧ ltU v f ≠ down
      · rw [if_pos (.inr q)]
        refine ⟨nv, by simp, fun x hx => ?_⟩
        obtain ⟨q1, q2⟩ := q
        rcases List.mem_append.mp hx with hx | hx
        · have hf := hm.2 x hx
          cases down
          · rw [if_neg Bool.false_ne_true] at hf ⊢
            have q3 : ltU v f = true := by simpa using q2
            cases hh : ltU x v with
            | false => rfl
            | true => rw [ltU_tr hh q3] at hf; cases hf
          · rw [if_pos rfl] at hf ⊢
            have q3 : ltU v f = false := by simpa using q2
            have q4 : ltU f v = true := by
              cases z : ltU f v with
              | true => rfl
              | false => exact absurd (ltU_tri q3 z) q1
            cases hh : ltU v x with
            | false => rfl
            | true => rw [ltU_tr q4 hh] at hf; cases hf
        · rw [List.mem_singleton] at hx
          subst hx
          rw [ltU_irr]
          simp
      · have : ¬ (f = .n ∨ (v ≠ f ∧ ltU v f ≠ down)) := fun z => z.elim nf q
        rw [if_neg this]
        refine ⟨nf, by simp [hm.1], fun x hx => ?_⟩
        rcases List.mem_append.mp hx with hx | hx
        · exact hm.2 x hx
        · rw [List.mem_singleton] at hx
          subst hx
          by_cases qq : x = f
          · subst qq
            rw [ltU_irr]
            simp
          · have q2 : ltU x f = down := by
              cases z : decide (ltU x f = down) with
              | true => exact of_decide_eq_true z
              | false => exact absurd ⟨qq, of_decide_eq_false z⟩ q
            cases down
            · rw [if_neg Bool.false_ne_true]; exact q2
            · rw [if_pos rfl]
              cases hh : ltU f x with
              | false => rfl
              | true =>
                have := ltU_tr hh q2
                rw [ltU_irr] at this
                cases this
theorem most_mst (down : Bool) {vs : List U} (hv : ∀ v ∈ vs, v ≠ .n) (h : vs ≠ []) : Mst down vs (mostU down vs) := by
  rcases most_gen down vs [] .n hv (.inl ⟨rfl, rfl⟩) with ⟨h1, _⟩ | ⟨_, h2⟩
  · exact absurd h1 h
  · exact h2
/-! sorted by value_key -/
def KK : Nat → U → Prop
  | 0, u => ∃ x, u = .i x
  | _, u => ∃ x, u = .s x
def keyDd : U → PyData
  | .n => .tuple [.int 0]
  | .b x => .tuple [.int 1, .int (if x = true then 1 else 0)]
  | .i x => .tuple [.int 2, .int x]
  | .s x => .tuple [.int 3, .str x]
theorem pyOf_key (u : U) : pyOf 60 (.tup (keyU u)) = some (keyDd u) := by cases u <;> rfl
theorem keyDd_lt {k : Nat} {a b : U} (ha : KK k a) (hb : KK k b) : PySem.W.dataLt (keyDd a) (keyDd b) = ltU a b := by
  unfold KK at ha hb
  cases k with
  | zero =>
    obtain ⟨x, rfl⟩ := ha
    obtain ⟨y, rfl⟩ := hb
    show PySem.W.dataLt (.tuple [.int 2, .int x]) (.tuple [.int 2, .int y]) = decide (x < y)
    rw [PySem.W.dataLt_ii]
    simp
  | succ k =>
    obtain ⟨x, rfl⟩ := ha
    obtain ⟨y, rfl⟩ := hb
    show PySem.W.dataLt (.tuple [.int 3, .str x]) (.tuple [.int 3, .str y]) = decide (x.cps.toList < y.cps.toList)
    rw [PySem.W.dataLt_pair (by simp [PySem.W.alike]) (by simp [PySem.W.alike]), PySem.W.dataLt_str]
    by_cases q : x = y
    · subst q
      simp [PyData.eqv, List.lt_irrefl]
    · simp [PyData.eqv, q]
theorem keyDd_al {k : Nat} {a b : U} (ha : KK k a) (hb : KK k b) : PySem.W.alike (keyDd a) (keyDd b) = true := by
  unfold KK at ha hb
  cases k with
  | zero =>
    obtain ⟨x, rfl⟩ := ha
    obtain ⟨y, rfl⟩ := hb
    simp [keyDd, PySem.W.alike, PySem.W.alikeAll]
  | succ k =>
    obtain ⟨x, rfl⟩ := ha
    obtain ⟨y, rfl⟩ := hb
    simp [keyDd, PySem.W.alike, PySem.W.alikeAll]
theorem keysU_ok {k : Nat} {vs : List U} (h : ∀ v ∈ vs, KK k v) : okKeys ((vs.map fun v => (uP v, keyDd v)).map (·.2)) = true := by
  unfold okKeys
  simp only [List.map_map, Bool.and_eq_true, Bool.or_eq_true, List.all_eq_true, List.mem_map, decide_eq_true_eq]
  refine ⟨⟨?_, .inl ?_⟩, ?_⟩
  · rintro x ⟨r, hr, rfl⟩ y ⟨q, hq, rfl⟩
    exact keyDd_al (h r hr) (h q hq)
  · rintro x ⟨r, _, rfl⟩
    cases r <;> rfl
  · rintro x ⟨r, _, rfl⟩
    show (keyDd r).depth ≤ 60
    cases r <;> simp [keyDd, PyData.depth, PyData.depthAll]
theorem keysU_eq (S : SH) : ∀ vs : List U, keysL m_value_key (vs.map uP) S = some (vs.map fun v => (uP v, keyDd v), S)
  | [] => rfl
  | v :: vs => by
    rw [List.map_cons, keysL, value_key_eq, bnd_some]
    dsimp only
    rw [pyOf_key]
    dsimp only
    rw [keysU_eq S vs, bnd_some]
    rfl
theorem sortU_eq {k : Nat} {vs : List U} (h : ∀ v ∈ vs, KK k v) (hl : vs.length ≤ 100000) {d : D} {S : SH} (ha : asL d S = some ((vs.map uP).map D.p)) : sortK true m_value_key d S = some (.ref S.os.length, ⟨S.b, S.os ++ [.lst (((vs.mergeSort leU).map uP).map D.p)]⟩) := by
  unfold sortK
  rw [ha]
  dsimp only
  rw [toPs_map]
  dsimp only
  rw [keysU_eq, bnd_some, if_pos (keysU_ok h)]
  have em : (vs.map fun v => (uP v, keyDd v)).mergeSort (PySem.W.dataLe false (fun x : P × PyData => x.2)) = (vs.mergeSort leU).map fun v => (uP v, keyDd v) := by
    refine (List.map_mergeSort fun a ha b hb => ?_).symm
    rw [PySem.W.dataLe_eq]
    show leU a b = !PySem.W.dataLt (keyDd b) (keyDd a)
    rw [keyDd_lt (h b hb) (h a ha)]
    rfl
  rw [em, List.map_map]
  have e3 : ((fun x : P × PyData => D.p x.1) ∘ fun v => (uP v, keyDd v)) = fun v => D.p (uP v) := rfl
  rw [e3, newL_t _ (lin (by rw [List.length_map, srt_len]; omega)), List.map_map]
  rfl
end Kb
namespace Kb
open PySem PySem.Spec PyProof.Rows L2 Pv
/-! aggregates -/
theorem atI_m1 {α : Type} (xs : List α) : atI xs (-1) = xs[xs.length - 1]? := by
  unfold atI ixN
  rw [if_neg (by decide)]
  cases xs with
  | nil => rfl
  | cons x xs =>
    rw [if_pos (by rw [List.length_cons]; omega)]
    have e : ((-1 : Int) + ((x :: xs).length : Int)).toNat = (x :: xs).length - 1 := by rw [List.length_cons]; omega
    rw [e]
    rfl
def cntE : P := .tup [.str "count_all"]
def fnS : Nat → Str
  | 0 => "count"
  | 1 => "sum"
  | 2 => "min"
  | _ => "max"
def aggE (f : Nat) (x : P) : P := .tup [.str "aggregate", .str (fnS f), x]
def intU : U → Int
  | .i x => x
  | _ => 0
def totU (vs : List U) : U := if vs = [] ∨ 10 ^ 40 ≤ ((vs.map intU).sum).natAbs then .n else .i (vs.map intU).sum
def aggR (f : Nat) (vs : List U) : U := match f with
  | 0 => .i (vs.length : Int)
  | 1 => totU vs
  | 2 => mostU false vs
  | _ => mostU true vs
def valsG (g : Row → U) (ms : List Row) : List U := (ms.map g).filter fun u => decide (u ≠ .n)
theorem valsG_len (g : Row → U) (ms : List Row) : (valsG g ms).length ≤ ms.length := by
  have := List.length_filter_le (fun u : U => decide (u ≠ .n)) (ms.map g)
  rw [List.length_map] at this
  exact this
theorem valsG_snoc (g : Row → U) (ms : List Row) (q : Row) : valsG g (ms ++ [q]) = valsG g ms ++ (if g q = .n then [] else [g q]) := by
  unfold valsG
  rw [List.map_append, List.filter_append]
  congr 1
  by_cases h : g q = .n <;> simp [h]
theorem valsG_n (g : Row → U) (ms : List Row) : ∀ v ∈ valsG g ms, v ≠ .n := fun v hv => of_decide_eq_true (List.mem_filter.mp hv).2
theorem ints_u : ∀ {vs : List U}, (∀ v ∈ vs, KK 0 v) → vs.map uP = (vs.map intU).map P.int
  | [], _ => rfl
  | v :: vs, h => by
    obtain ⟨x, rfl⟩ := h v List.mem_cons_self
    have ih := ints_u (vs := vs) fun v hv => h v (List.mem_cons_of_mem _ hv)
    rw [List.map_cons, ih]
    rfl
theorem intsOf_u {vs : List U} (h : ∀ v ∈ vs, KK 0 v) : intsOf ((vs.map uP).map D.p) = some (vs.map intU) := by
  rw [ints_u h]
  generalize vs.map intU = is
  induction is with
  | nil => rfl
  | cons i is ih =>
    rw [List.map_cons, List.map_cons, intsOf, ih]
    rfl
theorem bounded_eq (x : Int) (S : SH) : m_bounded [.p (.int x)] S = some (.p (uP (if 10 ^ 40 ≤ x.natAbs then .n else .i x)), S) := by
  have ab : ∀ T, fAbs [.p (.int x)] T = some (.p (.int (x.natAbs : Int)), T) := fun T => by
    have e : (if x < 0 then -x else x) = (x.natAbs : Int) := by split <;> omega
    rw [← e]
    rfl
  have bd : u_BOUND = .int (10 ^ 40) := rfl
  by_cases h : 10 ^ 40 ≤ x.natAbs
  · have h2 : (10 : Int) ^ 40 ≤ (x.natAbs : Int) := by omega
    rw [if_pos h]
    refine fn_eq rfl rfl ?_
    simp -dsimp (disch := decide +kernel) only [evT, evD, Int.reduceLT, Int.reduceLE, Int.reduceEq, Int.reduceAdd, Int.reduceSub, Int.reduceMul, Int.reduceNeg, wipeD, List.set_cons_zero, List.set_cons_succ, Bool.false_eq_true, if_true, if_false, decide_true, decide_false, Bool.not_true, Bool.not_false, and_self, and_true, true_and, eq_self, ab, bd, h2]
    rfl
  · have h2 : ¬ (10 : Int) ^ 40 ≤ (x.natAbs : Int) := by omega
    rw [if_neg h]
    refine fn_eq rfl rfl ?_
    simp -dsimp (disch := decide +kernel) only [evT, evD, Int.reduceLT, Int.reduceLE, Int.reduceEq, Int.reduceAdd, Int.reduceSub, Int.reduceMul, Int.reduceNeg, wipeD, List.set_cons_zero, List.set_cons_succ, Bool.false_eq_true, if_true, if_false, decide_true, decide_false, Bool.not_true, Bool.not_false, and_self, and_true, true_and, eq_self, ab, bd, h2]
    rfl
section
variable {n : Nat} {cs : Cols} {r : Row} {ms : List Row} {o : Fr} {w : P}
theorem agg_cnt (S : SH) : m_aggregate (n + 1) [.p cntE, .p (frP (.cons cs r (some ms) o)), .p w] S = some (.p (.int (ms.length : Int)), S) := by
  have ef : frP (.cons cs r (some ms) o) = frI (colsP cs) (rowP r) (rowsP ms) (frP o) := rfl
  have ln : ∀ T, fLen [.p (rowsP ms)] T = some (.p (.int (ms.length : Int)), T) := fun T => by
    show fLen [.p (.lst (ms.map rowP))] T = _
    rw [fLen_l, List.length_map]
  have i0 : ∀ T, fIx (.p cntE) (.p (.int 0)) T = some (.p (.str "count_all"), T) := fun T => ix0 ..
  rw [ef]
  refine fn_eq rfl rfl ?_
  simp -dsimp (disch := decide +kernel) only [evT, evD, Int.reduceLT, Int.reduceLE, Int.reduceEq, Int.reduceAdd, Int.reduceSub, Int.reduceMul, Int.reduceNeg, wipeD, List.set_cons_zero, List.set_cons_succ, Bool.false_eq_true, if_true, if_false, decide_true, decide_false, Bool.not_true, Bool.not_false, and_self, and_true, true_and, eq_self, i0, fEq_t, fr_mem, ln]
theorem notin_of {x : Str} {ys : List P} (hy : ys.all (okd 40) = true) (h : (ys.any fun y => peq y (.str x)) = false) : ∀ T, fInG false (.p (.str x)) (.p (.tup ys)) T = some (.p (.bl false), T) := fun T => inS_f hy h T
theorem vo_agg {x : P} {u : U} {tag : Str} {rest : List P} (hx : x = .tup (.str tag :: rest)) (ht : tag = "count_all" ∨ tag = "aggregate") {f : P} (h : ∀ S, m_aggregate n [.p x, .p f, .p w] S = some (.p (uP u), S)) : Val (n + 1) f w x u := fun S => by
  subst hx
  have t2 : ∀ T, newT [.p (.str "in_list"), .p (.str "in_query")] T = some (.p (.tup [.str "in_list", .str "in_query"]), T) := fun T => newT2 ..
  rcases ht with rfl | rfl
  · have no := notin_of (x := "count_all") (ys := [.str "in_list", .str "in_query"]) (by decide +kernel) (by decide +kernel)
    refine fn_eq rfl rfl ?_
    simp -dsimp (disch := decide +kernel) only [evT, evD, Int.reduceLT, Int.reduceLE, Int.reduceEq, Int.reduceAdd, Int.reduceSub, Int.reduceMul, Int.reduceNeg, wipeD, List.set_cons_zero, List.set_cons_succ, Bool.false_eq_true, if_true, if_false, decide_true, decide_false, Bool.not_true, Bool.not_false, and_self, and_true, true_and, eq_self, ix0, fEq_f, t2, no, h]
  · have no := notin_of (x := "aggregate") (ys := [.str "in_list", .str "in_query"]) (by decide +kernel) (by decide +kernel)
    refine fn_eq rfl rfl ?_
    simp -dsimp (disch := decide +kernel) only [evT, evD, Int.reduceLT, Int.reduceLE, Int.reduceEq, Int.reduceAdd, Int.reduceSub, Int.reduceMul, Int.reduceNeg, wipeD, List.set_cons_zero, List.set_cons_succ, Bool.false_eq_true, if_true, if_false, decide_true, decide_false, Bool.not_true, Bool.not_false, and_self, and_true, true_and, eq_self, ix0, fEq_f, t2, no, h]
theorem agg_fn {x : P} {f k : Nat} (hf : f < 4) {g : Row → U} (hv : ∀ q ∈ ms, Val n (frP (.cons cs q none o)) w x (g q)) (hk : ∀ v ∈ valsG g ms, KK k v) (h1 : f = 1 → k = 0) (hl : ms.length ≤ 10000) (S : SH) :
    m_aggregate (n + 1) [.p (aggE f x), .p (frP (.cons cs r (some ms) o)), .p w] S = some (.p (uP (aggR f (valsG g ms))), S) := by
  have ef : frP (.cons cs r (some ms) o) = frI (colsP cs) (rowP r) (rowsP ms) (frP o) := rfl
  have i0 : ∀ T, fIx (.p (aggE f x)) (.p (.int 0)) T = some (.p (.str "aggregate"), T) := fun T => ix0 ..
  have i1 : ∀ T, fIx (.p (aggE f x)) (.p (.int 1)) T = some (.p (.str (fnS f)), T) := fun T => ix1 ..
  have i2 : ∀ T, fIx (.p (aggE f x)) (.p (.int 2)) T = some (.p x, T) := fun T => ix2 ..
  have nl : ∀ T : SH, newL true [] T = some (.ref T.os.length, ⟨T.b, T.os ++ [.lst []]⟩) := fun T => newL_t [] (lin (by simp))
  have rm : ∀ T, srcOf (.p (rowsP ms)) T = some (srcP (ms.map rowP), T) := fun T => rfl
  have cw : [1, 2].contains 1 = true := rfl
  have fc := fun m => fr_cols (colsP cs) (rowP r) m (frP o) [1, 2] cw
  rw [ef]
  refine Ev.eq (t := ⟨⟩) (fn_ev rfl rfl ?_)
  simp -dsimp (disch := decide +kernel) only [evT, evD, Int.reduceLT, Int.reduceLE, Int.reduceEq, Int.reduceAdd, Int.reduceSub, Int.reduceMul, Int.reduceNeg, wipeD, List.set_cons_zero, List.set_cons_succ, Bool.false_eq_true, if_true, if_false, decide_true, decide_false, Bool.not_true, Bool.not_false, and_self, and_true, true_and, eq_self, i0, fEq_f, nl, fr_mem, rm]
  refine Ev_pn (fun i σ T => σ = [some (.p (aggE f x)), some (.p (frI (colsP cs) (rowP r) (rowsP ms) (frP o))), some (.p w), some (.ref S.os.length), none, none] ∧ T = ⟨S.os.length, S.os ++ [.lst (((valsG g (ms.take i)).map uP).map D.p)]⟩) ⟨rfl, rfl⟩ ?_ ?_
  · rintro i q σ T hq ⟨rfl, rfl⟩
    have mq := List.mem_of_getElem? hq
    have tk : ms.take (i + 1) = ms.take i ++ [q] := by rw [List.take_add_one, hq]; rfl
    have mk : ∀ T, mkK 1 m_Frame_init [.p (colsP cs), .p (rowP q), .p .non, .p (frP o)] T = some (.p (frP (.cons cs q none o)), T) := fun T => mk_frame ..
    have vv := fun T => hv q mq T
    have ll := valsG_len g (ms.take i)
    have lt : (ms.take i).length ≤ ms.length := by rw [List.length_take]; omega
    have ty : isTy "list" (.ref S.os.length) ⟨S.os.length, S.os ++ [.lst (((valsG g (ms.take i)).map uP).map D.p)]⟩ = true := isTy_ref (at_last _ S.os _)
    by_cases hn : g q = .n
    · have sn : valsG g (ms.take (i + 1)) = valsG g (ms.take i) := by rw [tk, valsG_snoc, if_pos hn, List.append_nil]
      simp -dsimp (disch := decide +kernel) only [evT, evD, Int.reduceLT, Int.reduceLE, Int.reduceEq, Int.reduceAdd, Int.reduceSub, Int.reduceMul, Int.reduceNeg, wipeD, List.set_cons_zero, List.set_cons_succ, Bool.false_eq_true, if_true, if_false, decide_true, decide_false, Bool.not_true, Bool.not_false, and_self, and_true, true_and, eq_self, i2, l_Make, fc, fr_out, mk, vv, is_u, hn]
      exact Hold.i ⟨rfl, by rw [sn]⟩
    · have sn : valsG g (ms.take (i + 1)) = valsG g (ms.take i) ++ [g q] := by rw [tk, valsG_snoc, if_neg hn]
      have ap : fApp [.ref S.os.length, .p (uP (g q))] ⟨S.os.length, S.os ++ [.lst (((valsG g (ms.take i)).map uP).map D.p)]⟩ = some (.p .non, ⟨S.os.length, S.os ++ [.lst (((valsG g (ms.take (i + 1))).map uP).map D.p)]⟩) := by
        rw [sn]
        have z := fApp_p (S := ⟨S.os.length, S.os ++ [.lst (((valsG g (ms.take i)).map uP).map D.p)]⟩) (x := uP (g q)) (at_last _ S.os _) (by rw [List.length_map, List.length_map]; have := line_ge; omega)
        rw [put_last] at z
        rw [List.map_append, List.map_append]
        exact z
      simp -dsimp (disch := decide +kernel) only [evT, evD, Int.reduceLT, Int.reduceLE, Int.reduceEq, Int.reduceAdd, Int.reduceSub, Int.reduceMul, Int.reduceNeg, wipeD, List.set_cons_zero, List.set_cons_succ, Bool.false_eq_true, if_true, if_false, decide_true, decide_false, Bool.not_true, Bool.not_false, and_self, and_true, true_and, eq_self, i2, l_Make, fc, fr_out, mk, vv, is_u, hn, ty, ap]
      exact Hold.i ⟨rfl, rfl⟩
  · rintro σ T ⟨rfl, rfl⟩
    rw [List.take_length]
    have ll := valsG_len g ms
    have vn := valsG_n g ms
    generalize valsG g ms = vs at hk ll vn ⊢
    have at3 := at_last S.os.length S.os (.lst ((vs.map uP).map D.p))
    have ln := @fLen_r S.os.length ⟨S.os.length, S.os ++ [.lst ((vs.map uP).map D.p)]⟩ ((vs.map uP).map D.p) at3
    rw [List.length_map, List.length_map] at ln
    have h4 : f = 0 ∨ f = 1 ∨ f = 2 ∨ f = 3 := by omega
    by_cases hf0 : f = 0
    · subst hf0
      simp -dsimp (disch := decide +kernel) only [evT, evD, Int.reduceLT, Int.reduceLE, Int.reduceEq, Int.reduceAdd, Int.reduceSub, Int.reduceMul, Int.reduceNeg, wipeD, List.set_cons_zero, List.set_cons_succ, Bool.false_eq_true, if_true, if_false, decide_true, decide_false, Bool.not_true, Bool.not_false, and_self, and_true, true_and, eq_self, i1, show fnS 0 = "count" from rfl, fEq_t, ln]
      rfl
    have e0 : (fnS f == "count") = false := by
      have : f = 1 ∨ f = 2 ∨ f = 3 := by omega
      rcases this with rfl | rfl | rfl <;> decide +kernel
    have q0 : ∀ T, fEq false (.p (.str (fnS f))) (.p (.str "count")) T = some (.p (.bl false), T) := fun T => fEq_f e0 T
    by_cases hv0 : vs = []
    · subst hv0
      have z : ((0 : Nat) : Int) = 0 := rfl
      have ra : aggR f [] = .n := by
        have : f = 1 ∨ f = 2 ∨ f = 3 := by omega
        rcases this with rfl | rfl | rfl <;> rfl
      rw [ra]
      simp only [List.length_nil, z] at ln
      simp -dsimp (disch := decide +kernel) only [evT, evD, Int.reduceLT, Int.reduceLE, Int.reduceEq, Int.reduceAdd, Int.reduceSub, Int.reduceMul, Int.reduceNeg, wipeD, List.set_cons_zero, List.set_cons_succ, Bool.false_eq_true, if_true, if_false, decide_true, decide_false, Bool.not_true, Bool.not_false, and_self, and_true, true_and, eq_self, i1, q0, ln, fEq_ii]
      rfl
    have lp : vs.length ≠ 0 := fun h => hv0 (List.eq_nil_of_length_eq_zero h)
    have lp2 : ¬ ((vs.length : Int) = 0) := by omega
    by_cases hf1 : f = 1
    · subst hf1
      have k0 := h1 rfl
      subst k0
      have su : fSum [.ref S.os.length] ⟨S.os.length, S.os ++ [.lst ((vs.map uP).map D.p)]⟩ = some (.p (.int (vs.map intU).sum), ⟨S.os.length, S.os ++ [.lst ((vs.map uP).map D.p)]⟩) := by
        unfold fSum
        dsimp only
        rw [asQ_r at3]
        dsimp only
        rw [intsOf_u hk]
      have bo := fun T => bounded_eq (vs.map intU).sum T
      have ra : aggR 1 vs = if 10 ^ 40 ≤ ((vs.map intU).sum).natAbs then .n else .i (vs.map intU).sum := by
        show totU vs = _
        unfold totU
        by_cases q : 10 ^ 40 ≤ ((vs.map intU).sum).natAbs
        · rw [if_pos (.inr q), if_pos q]
        · rw [if_neg (fun z => z.elim hv0 q), if_neg q]
      rw [ra]
      have qs := fun T => fEq_t (a := fnS 1) (b := "sum") (by decide +kernel) T
      simp -dsimp (disch := decide +kernel) only [evT, evD, Int.reduceLT, Int.reduceLE, Int.reduceEq, Int.reduceAdd, Int.reduceSub, Int.reduceMul, Int.reduceNeg, wipeD, List.set_cons_zero, List.set_cons_succ, Bool.false_eq_true, if_true, if_false, decide_true, decide_false, Bool.not_true, Bool.not_false, and_self, and_true, true_and, eq_self, i1, q0, ln, fEq_ii, lp2, qs, su, bo]
    have e1 : (fnS f == "sum") = false := by
      have : f = 2 ∨ f = 3 := by omega
      rcases this with rfl | rfl <;> decide +kernel
    have q1 : ∀ T, fEq false (.p (.str (fnS f))) (.p (.str "sum")) T = some (.p (.bl false), T) := fun T => fEq_f e1 T
    have so := sortU_eq hk (by omega) (d := .ref S.os.length) (S := ⟨S.os.length, S.os ++ [.lst ((vs.map uP).map D.p)]⟩) (by
      unfold asL
      dsimp only
      rw [at3])
    have sl := srt_len vs
    generalize hss : vs.mergeSort leU = ss at so sl
    have hi0 : ss[0]? = some ss[0] := List.getElem?_eq_getElem (by omega)
    have hi1 : ss[ss.length - 1]? = some (ss[ss.length - 1]'(by omega)) := List.getElem?_eq_getElem (by omega)
    have m0 : ss[0] = mostU false vs := mst_uniq (mst_first (by rw [hss]; exact hi0)) (most_mst false vn hv0)
    have m1 : (ss[ss.length - 1]'(by omega)) = mostU true vs := mst_uniq (mst_last (by rw [hss]; exact hi1)) (most_mst true vn hv0)
    rw [m0] at hi0
    rw [m1] at hi1
    have os2 : S.os ++ [Ob.lst ((vs.map uP).map D.p)] ++ [Ob.lst ((ss.map uP).map D.p)] = S.os ++ [Ob.lst ((vs.map uP).map D.p), Ob.lst ((ss.map uP).map D.p)] := by simp
    have ol : (S.os ++ [Ob.lst ((vs.map uP).map D.p)]).length = S.os.length + 1 := by simp
    dsimp only at so
    rw [os2, ol] at so
    have at4 := at_lst S.os.length S.os (.lst ((vs.map uP).map D.p)) (.lst ((ss.map uP).map D.p))
    have x0 : fIx (.ref (S.os.length + 1)) (.p (.int 0)) ⟨S.os.length, S.os ++ [Ob.lst ((vs.map uP).map D.p), Ob.lst ((ss.map uP).map D.p)]⟩ = some (.p (uP (mostU false vs)), ⟨S.os.length, S.os ++ [Ob.lst ((vs.map uP).map D.p), Ob.lst ((ss.map uP).map D.p)]⟩) := fIx_ri (i := 0) at4 (by decide) (by
      show ((ss.map uP).map D.p)[0]? = _
      rw [List.getElem?_map, List.getElem?_map, hi0]; rfl)
    have x1 : fIx (.ref (S.os.length + 1)) (.p (.int (-1))) ⟨S.os.length, S.os ++ [Ob.lst ((vs.map uP).map D.p), Ob.lst ((ss.map uP).map D.p)]⟩ = some (.p (uP (mostU true vs)), ⟨S.os.length, S.os ++ [Ob.lst ((vs.map uP).map D.p), Ob.lst ((ss.map uP).map D.p)]⟩) := by
      have z : atI ((ss.map uP).map D.p) (-1) = some (.p (uP (mostU true vs))) := by
        rw [atI_m1, List.length_map, List.length_map, List.getElem?_map, List.getElem?_map, hi1]; rfl
      show (match asQ (.ref (S.os.length + 1)) ⟨S.os.length, S.os ++ [Ob.lst ((vs.map uP).map D.p), Ob.lst ((ss.map uP).map D.p)]⟩ with
        | some xs => (match atI xs (-1) with | some x => some (x, (⟨S.os.length, S.os ++ [Ob.lst ((vs.map uP).map D.p), Ob.lst ((ss.map uP).map D.p)]⟩ : SH)) | none => none)
        | none => none) = _
      rw [asQ_r at4]
      dsimp only
      rw [z]
    have f23 : f = 2 ∨ f = 3 := by omega
    rcases f23 with rfl | rfl
    · have qm := fun T => fEq_t (a := fnS 2) (b := "min") (by decide +kernel) T
      simp -dsimp (disch := decide +kernel) only [evT, evD, Int.reduceLT, Int.reduceLE, Int.reduceEq, Int.reduceAdd, Int.reduceSub, Int.reduceMul, Int.reduceNeg, wipeD, List.set_cons_zero, List.set_cons_succ, Bool.false_eq_true, if_true, if_false, decide_true, decide_false, Bool.not_true, Bool.not_false, and_self, and_true, true_and, eq_self, i1, q0, ln, fEq_ii, lp2, q1, l_SortK, so, qm, x0]
      rfl
    · have qm := fun T => fEq_f (a := fnS 3) (b := "min") (by decide +kernel) T
      simp -dsimp (disch := decide +kernel) only [evT, evD, Int.reduceLT, Int.reduceLE, Int.reduceEq, Int.reduceAdd, Int.reduceSub, Int.reduceMul, Int.reduceNeg, wipeD, List.set_cons_zero, List.set_cons_succ, Bool.false_eq_true, if_true, if_false, decide_true, decide_false, Bool.not_true, Bool.not_false, and_self, and_true, true_and, eq_self, i1, q0, ln, fEq_ii, lp2, q1, l_SortK, so, qm, fNeg_i, x1]
      rfl
end
end Kb
namespace Kb
open PySem PySem.Spec PyProof.Rows L2 Pv
/-! groups in plain lists -/
abbrev Grp := Row × List Row
def insG (acc : List Grp) (k r : Row) : List Grp := if k ∈ acc.map (·.1) then acc.map (fun a => if a.1 = k then (a.1, a.2 ++ [r]) else a) else acc ++ [(k, [r])]
def grpG (pk : Row → Row) (rs : List Row) : List Grp := rs.foldl (fun acc r => insG acc (pk r) r) []
theorem grpG_snoc (pk : Row → Row) (rs : List Row) (r : Row) : grpG pk (rs ++ [r]) = insG (grpG pk rs) (pk r) r := by
  unfold grpG
  rw [List.foldl_append]
  rfl
theorem insG_keys (acc : List Grp) (k r : Row) : (insG acc k r).map (·.1) = if k ∈ acc.map (·.1) then acc.map (·.1) else acc.map (·.1) ++ [k] := by
  unfold insG
  split
  · rw [List.map_map]
    refine List.map_congr_left fun a _ => ?_
    simp only [Function.comp]
    split <;> rfl
  · rw [List.map_append]
    rfl
/-- what holds of all groups -/
structure GOk (pk : Row → Row) (rs : List Row) (acc : List Grp) : Prop where
  nd : (acc.map (·.1)).Nodup
  ne : ∀ a ∈ acc, a.2 ≠ []
  key : ∀ a ∈ acc, ∀ r ∈ a.2, pk r = a.1 ∧ r ∈ rs
  len : ∀ a ∈ acc, a.2.length ≤ rs.length
  num : acc.length ≤ rs.length
theorem grpG_ok (pk : Row → Row) (rs : List Row) : ∀ n, GOk pk (rs.take n) (grpG pk (rs.take n))
  | 0 => ⟨List.nodup_nil, fun a h => (by cases h), fun a h => (by cases h), fun a h => (by cases h), Nat.le_refl _⟩
  | n + 1 => by
    have ih := grpG_ok pk rs n
    cases hr : rs[n]? with
    | none =>
      have e : rs.take (n + 1) = rs.take n := by rw [List.take_add_one, hr]; simp
      rw [e]
      exact ih
    | some r =>
      have e : rs.take (n + 1) = rs.take n ++ [r] := by rw [List.take_add_one, hr]; rfl
      rw [e, grpG_snoc]
      generalize grpG pk (rs.take n) = acc at ih
      generalize rs.take n = rt at ih
      have lr : (rt ++ [r]).length = rt.length + 1 := by rw [List.length_append]; rfl
      by_cases q : pk r ∈ acc.map (·.1)
      · have ei : insG acc (pk r) r = acc.map (fun a => if a.1 = pk r then (a.1, a.2 ++ [r]) else a) := if_pos q
        refine ⟨by rw [insG_keys, if_pos q]; exact ih.nd, ?_, ?_, ?_, ?_⟩
        · rw [ei]; intro a ha
          obtain ⟨x, hx, rfl⟩ := List.mem_map.mp ha
          split
          · simp
          · exact ih.ne x hx
        · rw [ei]; intro a ha y hy
          obtain ⟨x, hx, rfl⟩ := List.mem_map.mp ha
          by_cases z : x.1 = pk r
          · rw [if_pos z] at hy ⊢
            rcases List.mem_append.mp hy with hy | hy
            · exact ⟨(ih.key x hx y hy).1, List.mem_append_left _ (ih.key x hx y hy).2⟩
            · rw [List.mem_singleton] at hy
              subst hy
              exact ⟨z.symm, by simp⟩
          · rw [if_neg z] at hy ⊢
            exact ⟨(ih.key x hx y hy).1, List.mem_append_left _ (ih.key x hx y hy).2⟩
        · rw [ei]; intro a ha
          obtain ⟨x, hx, rfl⟩ := List.mem_map.mp ha
          have := ih.len x hx
          split
          · rw [List.length_append]; show x.2.length + 1 ≤ _; omega
          · omega
        · rw [ei, List.length_map]; have := ih.num; omega
      · have ei : insG acc (pk r) r = acc ++ [(pk r, [r])] := if_neg q
        refine ⟨?_, ?_, ?_, ?_, ?_⟩
        · rw [insG_keys, if_neg q, List.nodup_append]
          refine ⟨ih.nd, by simp, fun a ha b hb => ?_⟩
          rw [List.mem_singleton] at hb
          subst hb
          exact fun z => q (z ▸ ha)
        · rw [ei]; intro a ha
          rcases List.mem_append.mp ha with ha | ha
          · exact ih.ne a ha
          · rw [List.mem_singleton] at ha; subst ha; simp
        · rw [ei]; intro a ha y hy
          rcases List.mem_append.mp ha with ha | ha
          · exact ⟨(ih.key a ha y hy).1, List.mem_append_left _ (ih.key a ha y hy).2⟩
          · rw [List.mem_singleton] at ha; subst ha
            rw [List.mem_singleton] at hy; subst hy
            exact ⟨rfl, by simp⟩
        · rw [ei]; intro a ha
          rcases List.mem_append.mp ha with ha | ha
          · have := ih.len a ha; omega
          · rw [List.mem_singleton] at ha; subst ha; show 1 ≤ _; omega
        · rw [ei, List.length_append]; have := ih.num; show _ + 1 ≤ _; omega
/-! the dict of groups: where each list stands -/
structure G3 where
  k : Row
  rs : List Row
  p : Nat
def G3.g (a : G3) : Grp := (a.k, a.rs)
def entG (acc : List G3) : List (P × D) := acc.map fun a => (P.tup (flatK a.k), D.ref a.p)
structure GI (os : List Ob) (acc : List G3) (T : SH) : Prop where
  b : T.b = os.length
  base : T.os.take os.length = os
  dic : T.os[os.length]? = some (.dT (entG acc))
  obj : ∀ a ∈ acc, T.os[a.p]? = some (.lst ((a.rs.map rowP).map D.p))
  gt : ∀ a ∈ acc, os.length < a.p
  nd : (acc.map (·.k)).Nodup
  np : (acc.map (·.p)).Nodup
theorem val_entG (k : Row) : ∀ acc : List G3, valD (entG acc) (flatN k) = (acc.find? fun a => decide (a.k = k)).map fun a => D.ref a.p
  | [] => rfl
  | a :: acc => by
    have ih := val_entG k acc
    unfold valD entG at *
    rw [List.map_cons, List.find?_cons, List.find?_cons]
    by_cases q : a.k = k
    · have e : decide (keyP (.tup (flatK a.k)) = some (flatN k)) = true := decide_eq_true (by rw [q]; exact flatF.key k)
      rw [e, decide_eq_true q]
      rfl
    · have e : decide (keyP (.tup (flatK a.k)) = some (flatN k)) = false := decide_eq_false fun z => by
        rw [flatF.key a.k] at z
        exact q (flatF.inj _ _ (Option.some.inj z))
      rw [e, decide_eq_false q]
      exact ih
theorem find_key {acc : List G3} {k : Row} : (∃ a, acc.find? (fun a => decide (a.k = k)) = some a ∧ a ∈ acc ∧ a.k = k) ∨ (acc.find? (fun a => decide (a.k = k)) = none ∧ ∀ a ∈ acc, a.k ≠ k) := by
  cases hf : acc.find? (fun a => decide (a.k = k)) with
  | some a => exact .inl ⟨a, rfl, List.mem_of_find?_eq_some hf, by simpa using List.find?_some hf⟩
  | none => exact .inr ⟨rfl, fun a ha => of_decide_eq_false (by simpa using List.find?_eq_none.mp hf a ha)⟩
theorem keys_g (acc : List G3) : (acc.map G3.g).map (·.1) = acc.map (·.k) := by rw [List.map_map]; rfl
theorem nodup_uniq {α β : Type} {f : α → β} : ∀ {xs : List α}, (xs.map f).Nodup → ∀ {a b}, a ∈ xs → b ∈ xs → f a = f b → a = b
  | [], _, _, _, h, _, _ => by cases h
  | x :: xs, h, a, b, ha, hb, e => by
    rw [List.map_cons, List.nodup_cons] at h
    obtain ⟨h1, h2⟩ := h
    rcases List.mem_cons.mp ha with ea | ha
    · rcases List.mem_cons.mp hb with eb | hb
      · rw [ea, eb]
      · exact absurd (List.mem_map.mpr ⟨b, hb, by rw [← e, ea]⟩) h1
    · rcases List.mem_cons.mp hb with eb | hb
      · exact absurd (List.mem_map.mpr ⟨a, ha, by rw [e, eb]⟩) h1
      · exact nodup_uniq h2 ha hb e
theorem GI_step {os : List Ob} {acc : List G3} {T : SH} (h : GI os acc T) (k r : Row) (l1 : acc.length ≤ 100000) (l2 : ∀ a ∈ acc, a.rs.length ≤ 100000) :
    ∃ (acc' : List G3) (p : Nat) (T1 T2 : SH), acc'.map G3.g = insG (acc.map G3.g) k r ∧ fNSetd [.ref os.length, .p (.tup (flatK k)), .ref T.os.length] ⟨T.b, T.os ++ [.lst []]⟩ = some (.ref p, T1) ∧ isTy "list" (.ref p) T1 = true ∧ fApp [.ref p, .p (rowP r)] T1 = some (.p .non, T2) ∧ GI os acc' T2 := by
  have nlt : os.length < T.os.length := (List.getElem?_eq_some_iff.mp h.dic).1
  have dic1 : (SH.mk T.b (T.os ++ [Ob.lst []])).os[os.length]? = some (.dT (entG acc)) := by
    show (T.os ++ [Ob.lst []])[os.length]? = _
    rw [List.getElem?_append_left nlt]
    exact h.dic
  have kd := keyD_kf flatF k
  have lsz := line_ge
  rcases find_key (acc := acc) (k := k) with ⟨a, hf, ha, hk⟩ | ⟨hf, hno⟩
  · have hin : k ∈ (acc.map G3.g).map (·.1) := by rw [keys_g]; exact List.mem_map.mpr ⟨a, ha, hk⟩
    have oa := h.obj a ha
    have plt : a.p < T.os.length := (List.getElem?_eq_some_iff.mp oa).1
    have oa1 : (SH.mk T.b (T.os ++ [Ob.lst []])).os[a.p]? = some (.lst ((a.rs.map rowP).map D.p)) := by
      show (T.os ++ [Ob.lst []])[a.p]? = _
      rw [List.getElem?_append_left plt]
      exact oa
    have gt := h.gt a ha
    have la := l2 a ha
    refine ⟨acc.map (fun x => if x.k = k then ⟨x.k, x.rs ++ [r], x.p⟩ else x), a.p, ⟨T.b, T.os ++ [Ob.lst []]⟩, ⟨T.b, (T.os ++ [Ob.lst []]).set a.p (.lst (((a.rs ++ [r]).map rowP).map D.p))⟩, ?_, ?_, isTy_ref oa1, ?_, ?_⟩
    · unfold insG
      rw [if_pos hin, List.map_map, List.map_map]
      refine List.map_congr_left fun x _ => ?_
      show (if x.k = k then (⟨x.k, x.rs ++ [r], x.p⟩ : G3) else x).g = if x.g.1 = k then (x.g.1, x.g.2 ++ [r]) else x.g
      by_cases z : x.k = k
      · rw [if_pos z, if_pos (show x.g.1 = k from z)]
        rfl
      · rw [if_neg z, if_neg (show ¬ x.g.1 = k from z)]
    · unfold fNSetd
      dsimp only
      dsimp only at dic1
      rw [dic1, kd]
      dsimp only
      rw [val_entG, hf]
      rfl
    · have z := fApp_p (x := rowP r) oa1 (by rw [List.length_map, List.length_map]; omega)
      rw [z, List.map_append, List.map_append]
      rfl
    · have km : (acc.map (fun x : G3 => if x.k = k then (⟨x.k, x.rs ++ [r], x.p⟩ : G3) else x)).map (·.k) = acc.map (·.k) := by
        rw [List.map_map]
        refine List.map_congr_left fun x _ => ?_
        simp only [Function.comp]
        split <;> rfl
      have pm : (acc.map (fun x : G3 => if x.k = k then (⟨x.k, x.rs ++ [r], x.p⟩ : G3) else x)).map (·.p) = acc.map (·.p) := by
        rw [List.map_map]
        refine List.map_congr_left fun x _ => ?_
        simp only [Function.comp]
        split <;> rfl
      have em : entG (acc.map (fun x : G3 => if x.k = k then (⟨x.k, x.rs ++ [r], x.p⟩ : G3) else x)) = entG acc := by
        unfold entG
        rw [List.map_map]
        refine List.map_congr_left fun x _ => ?_
        simp only [Function.comp]
        split <;> rfl
      refine ⟨h.b, ?_, ?_, ?_, ?_, by rw [km]; exact h.nd, by rw [pm]; exact h.np⟩
      · show ((T.os ++ [Ob.lst []]).set a.p _).take os.length = os
        rw [List.take_set_of_le (by omega), List.take_append_of_le_length (by omega)]
        exact h.base
      · show ((T.os ++ [Ob.lst []]).set a.p _)[os.length]? = _
        rw [List.getElem?_set_ne (by omega), em]
        exact dic1
      · intro x' hx'
        obtain ⟨x, hx, rfl⟩ := List.mem_map.mp hx'
        show ((T.os ++ [Ob.lst []]).set a.p _)[_]? = _
        by_cases q : x.k = k
        · have : x = a := nodup_uniq h.nd hx ha (q.trans hk.symm)
          subst this
          rw [if_pos q, List.getElem?_set_self (by rw [List.length_append]; omega)]
        · rw [if_neg q]
          have np : a.p ≠ x.p := fun z => q (by rw [← nodup_uniq h.np ha hx z]; exact hk)
          have ox := h.obj x hx
          have xlt : x.p < T.os.length := (List.getElem?_eq_some_iff.mp ox).1
          rw [List.getElem?_set_ne np, List.getElem?_append_left xlt]
          exact ox
      · intro x' hx'
        obtain ⟨x, hx, rfl⟩ := List.mem_map.mp hx'
        have := h.gt x hx
        split <;> exact this
  · have hin : ¬ k ∈ (acc.map G3.g).map (·.1) := by
      rw [keys_g]
      intro z
      obtain ⟨a, ha, e⟩ := List.mem_map.mp z
      exact hno a ha e
    have en : entG (acc ++ [⟨k, [r], T.os.length⟩]) = entG acc ++ [(P.tup (flatK k), D.ref T.os.length)] := by unfold entG; rw [List.map_append]; rfl
    have lE : (entG acc).length = acc.length := List.length_map _
    have at1 : (SH.mk T.b ((T.os ++ [Ob.lst []]).set os.length (.dT (entG acc ++ [(P.tup (flatK k), D.ref T.os.length)])))).os[T.os.length]? = some (.lst []) := by
      show ((T.os ++ [Ob.lst []]).set os.length _)[T.os.length]? = _
      rw [List.getElem?_set_ne (by omega)]
      simp
    refine ⟨acc ++ [⟨k, [r], T.os.length⟩], T.os.length, ⟨T.b, (T.os ++ [Ob.lst []]).set os.length (.dT (entG acc ++ [(P.tup (flatK k), D.ref T.os.length)]))⟩, ⟨T.b, ((T.os ++ [Ob.lst []]).set os.length (.dT (entG acc ++ [(P.tup (flatK k), D.ref T.os.length)]))).set T.os.length (.lst [.p (rowP r)])⟩, ?_, ?_, isTy_ref at1, ?_, ?_⟩
    · unfold insG
      rw [if_neg hin, List.map_append]
      rfl
    · unfold fNSetd
      dsimp only
      dsimp only at dic1
      rw [dic1, kd]
      dsimp only
      rw [val_entG, hf]
      dsimp only [Option.map_none]
      rw [if_pos ⟨by rw [lE]; omega, by unfold okRef; exact decide_eq_true (by show T.b ≤ os.length; rw [h.b]; exact Nat.le_refl _)⟩]
    · exact fApp_p (x := rowP r) at1 (by show 0 < sizeLine; omega)
    · have len1 : ((T.os ++ [Ob.lst []]).set os.length (.dT (entG acc ++ [(P.tup (flatK k), D.ref T.os.length)]))).length = T.os.length + 1 := by simp
      have pgt : ∀ a ∈ acc, a.p < T.os.length := fun a ha => (List.getElem?_eq_some_iff.mp (h.obj a ha)).1
      refine ⟨h.b, ?_, ?_, ?_, ?_, ?_, ?_⟩
      · show (((T.os ++ [Ob.lst []]).set os.length _).set T.os.length _).take os.length = os
        rw [List.take_set_of_le (by omega), List.take_set_of_le (Nat.le_refl _), List.take_append_of_le_length (by omega)]
        exact h.base
      · show (((T.os ++ [Ob.lst []]).set os.length _).set T.os.length _)[os.length]? = _
        rw [List.getElem?_set_ne (by omega), List.getElem?_set_self (by rw [List.length_append]; omega), en]
      · intro x hx
        show (((T.os ++ [Ob.lst []]).set os.length _).set T.os.length _)[_]? = _
        rcases List.mem_append.mp hx with hx | hx
        · have xl := pgt x hx
          have xg := h.gt x hx
          rw [List.getElem?_set_ne (by omega), List.getElem?_set_ne (by omega), List.getElem?_append_left xl]
          exact h.obj x hx
        · rw [List.mem_singleton] at hx
          subst hx
          rw [List.getElem?_set_self (by rw [len1]; exact Nat.lt_succ_self _)]
          rfl
      · intro x hx
        rcases List.mem_append.mp hx with hx | hx
        · exact h.gt x hx
        · rw [List.mem_singleton] at hx
          subst hx
          exact nlt
      · rw [List.map_append, List.nodup_append]
        refine ⟨h.nd, by simp, fun a ha b hb => ?_⟩
        simp only [List.map_cons, List.map_nil, List.mem_singleton] at hb
        subst hb
        obtain ⟨x, hx, rfl⟩ := List.mem_map.mp ha
        exact hno x hx
      · rw [List.map_append, List.nodup_append]
        refine ⟨h.np, by simp, fun a ha b hb => ?_⟩
        simp only [List.map_cons, List.map_nil, List.mem_singleton] at hb
        subst hb
        obtain ⟨x, hx, rfl⟩ := List.mem_map.mp ha
        have := pgt x hx
        omega
end Kb
namespace Kb
open PySem PySem.Spec PyProof.Rows L2 Pv
/-! frames of groups -/
theorem l_ItD {f : P × P → P} {m : ME} {σ : En} {S : SH} : dItD f m σ S = bl (m σ S) (srcD f) ⟨⟩ := id rfl
def colS (c : Option Str × Str) : P := .tup [.str "column", oS c.1, .str c.2]
theorem own_eq {cs : Cols} {c : Option Str × Str} {i : Nat} (h : idx cs c.1 c.2 = [(i : Int)]) (hl : cs.length ≤ 100000) (S : SH) : m_own_index [.p (colsP cs), .p (colS c)] S = some (.p (.int (i : Int)), S) := by
  have ne := fun T => named_eq cs c.1 c.2 hl T
  rw [h] at ne
  have ne2 : ∀ T, m_named [.p (colsP cs), .p (oS c.1), .p (.str c.2)] T = some (.p (.lst (intsP [(i : Int)])), T) := ne
  have l1 : ∀ T, fLen [.p (.lst (intsP [(i : Int)]))] T = some (.p (.int 1), T) := fun T => rfl
  have x0 : ∀ T, fIx (.p (.lst (intsP [(i : Int)]))) (.p (.int 0)) T = some (.p (.int (i : Int)), T) := fun T => fIx_l (n := 0) rfl
  have i0 : ∀ T, fIx (.p (colS c)) (.p (.int 0)) T = some (.p (.str "column"), T) := fun T => ix0 ..
  have i1 : ∀ T, fIx (.p (colS c)) (.p (.int 1)) T = some (.p (oS c.1), T) := fun T => ix1 ..
  have i2 : ∀ T, fIx (.p (colS c)) (.p (.int 2)) T = some (.p (.str c.2), T) := fun T => ix2 ..
  have q : ∀ T, fEq true (.p (.str "column")) (.p (.str "column")) T = some (.p (.bl false), T) := fun T => by rw [fEq_ss]; rfl
  refine fn_eq rfl rfl ?_
  simp -dsimp (disch := decide +kernel) only [evT, evD, Int.reduceLT, Int.reduceLE, Int.reduceEq, Int.reduceAdd, Int.reduceSub, Int.reduceMul, Int.reduceNeg, wipeD, List.set_cons_zero, List.set_cons_succ, Bool.false_eq_true, if_true, if_false, decide_true, decide_false, Bool.not_true, Bool.not_false, and_self, and_true, true_and, eq_self, i0, i1, i2, q, ne2, l1, fEq_ii, x0]
def pickR (is : List Nat) (r : Row) : Row := is.map fun i => r.getD i .n
def grpsOf (is : Option (List Nat)) (rs : List Row) : List (Row × List Row) := match is with
  | none => [(rs.headD [], rs)]
  | some is => (grpG (pickR is) rs).map fun a => (a.2.headD [], a.2)
def grpP : Option (List (Option Str × Str)) → P
  | none => .non
  | some cs => .tup (cs.map colS)
theorem toP_entG {os : List Ob} {acc : List G3} {T : SH} (h : GI os acc T) (j : Nat) : (entG acc).mapM (fun p => (toP (j + 1) os.length T p.2).map fun x => (p.1, x)) = some (acc.map fun a => (P.tup (flatK a.k), rowsP a.rs)) := by
  have hall : ∀ a ∈ acc, toP (j + 1) os.length T (.ref a.p) = some (rowsP a.rs) := fun a ha => toP_lpb (Nat.le_of_lt (h.gt a ha)) (h.obj a ha)
  clear h
  induction acc with
  | nil => rfl
  | cons a acc ih =>
    have e := hall a List.mem_cons_self
    have ih := ih fun x hx => hall x (List.mem_cons_of_mem _ hx)
    unfold entG at ih ⊢
    rw [List.map_cons, List.mapM_cons, ih]
    show (do let __x ← (toP (j + 1) os.length T (.ref a.p)).map fun x => (P.tup (flatK a.k), x); _) = _
    rw [e]
    rfl
theorem outO_entG {os : List Ob} {acc : List G3} {T : SH} (h : GI os acc T) : outO os.length T (some (.ref os.length)) = some (.p (.dT (acc.map fun a => (P.tup (flatK a.k), rowsP a.rs)))) := by
  unfold outO outD
  dsimp only
  rw [if_neg (by omega)]
  unfold toP
  rw [if_neg (by omega), h.dic]
  dsimp only
  rw [toP_entG h]
  rfl
theorem grouped_none {di : Bool} {it src cnd hv : P} {cs : Cols} {rs : List Row} {ofr : Fr} (S : SH) :
    m_grouped_frames [.p (selP di it src cnd .non hv), .p (colsP cs), .p (rowsP rs), .p (frP ofr)] S = some (.p (.lst ((grpsOf none rs).map fun a => frP (.cons cs a.1 (some a.2) ofr))), S) := by
  unfold selP
  have ln : ∀ T, fLen [.p (rowsP rs)] T = some (.p (.int (rs.length : Int)), T) := fun T => by
    show fLen [.p (.lst (rs.map rowP))] T = _
    rw [fLen_l, List.length_map]
  have mk : ∀ (r : Row) T, mkK 1 m_Frame_init [.p (colsP cs), .p (rowP r), .p (rowsP rs), .p (frP ofr)] T = some (.p (frP (.cons cs r (some rs) ofr)), T) := fun r T => mk_frame ..
  have n1 : ∀ (x : P) T, newL false [.p x] T = some (.p (.lst [x]), T) := fun x T => newL1 ..
  cases rs with
  | nil =>
    have t0 : ∀ T, newT [] T = some (.p (rowP []), T) := fun T => rfl
    have z : ((([] : List Row).length : Nat) : Int) = 0 := rfl
    rw [z] at ln
    refine fn_eq rfl rfl ?_
    simp -dsimp (disch := decide +kernel) only [evT, evD, Int.reduceLT, Int.reduceLE, Int.reduceEq, Int.reduceAdd, Int.reduceSub, Int.reduceMul, Int.reduceNeg, wipeD, List.set_cons_zero, List.set_cons_succ, Bool.false_eq_true, if_true, if_false, decide_true, decide_false, Bool.not_true, Bool.not_false, and_self, and_true, true_and, eq_self, ix5, t0, ln, l_Make, mk, n1]
    rfl
  | cons r rs =>
    have t0 : ∀ T, newT [] T = some (.p (rowP []), T) := fun T => rfl
    have z : (0 : Int) < (((r :: rs).length : Nat) : Int) := by rw [List.length_cons]; omega
    have x0 : ∀ T, fIx (.p (rowsP (r :: rs))) (.p (.int 0)) T = some (.p (rowP r), T) := fun T => fIx_l (n := 0) rfl
    refine fn_eq rfl rfl ?_
    simp -dsimp (disch := decide +kernel) only [evT, evD, Int.reduceLT, Int.reduceLE, Int.reduceEq, Int.reduceAdd, Int.reduceSub, Int.reduceMul, Int.reduceNeg, wipeD, List.set_cons_zero, List.set_cons_succ, Bool.false_eq_true, if_true, if_false, decide_true, decide_false, Bool.not_true, Bool.not_false, and_self, and_true, true_and, eq_self, ix5, t0, ln, z, x0, l_Make, mk, n1]
    rfl
theorem grouped_some {di : Bool} {it src cnd hv : P} {cs : Cols} {rs : List Row} {ofr : Fr} {gs : List ((Option Str × Str) × Nat)} (hg : ∀ g ∈ gs, idx cs g.1.1 g.1.2 = [(g.2 : Int)]) (hc : cs.length ≤ 100000) (hgl : gs.length ≤ 1000) (hr : ∀ r ∈ rs, ∀ g ∈ gs, g.2 < r.length) (hl : rs.length ≤ 100000) (S : SH) :
    m_grouped_frames [.p (selP di it src cnd (grpP (some (gs.map (·.1)))) hv), .p (colsP cs), .p (rowsP rs), .p (frP ofr)] S = some (.p (.lst ((grpsOf (some (gs.map (·.2))) rs).map fun a => frP (.cons cs a.1 (some a.2) ofr))), S) := by
  unfold selP
  have ng : Pv.isNon (.p (grpP (some (gs.map (·.1))))) = false := rfl
  have sg : ∀ T, srcOf (.p (grpP (some (gs.map (·.1))))) T = some (srcP (gs.map fun g => colS g.1), T) := fun T => by
    show some (srcP ((gs.map (·.1)).map colS), T) = _
    rw [List.map_map]
    rfl
  have sr : ∀ T, srcOf (.p (rowsP rs)) T = some (srcP (rs.map rowP), T) := fun T => rfl
  refine Ev.eq (t := ⟨⟩) (fn_ev rfl rfl ?_)
  simp -dsimp (disch := decide +kernel) only [evT, evD, Int.reduceLT, Int.reduceLE, Int.reduceEq, Int.reduceAdd, Int.reduceSub, Int.reduceMul, Int.reduceNeg, wipeD, List.set_cons_zero, List.set_cons_succ, Bool.false_eq_true, if_true, if_false, decide_true, decide_false, Bool.not_true, Bool.not_false, and_self, and_true, true_and, eq_self, ix5, ng, sg]
  refine Ev_cpn (xs := gs) (f := fun g => colS g.1) (fun g => .p (.int (g.2 : Int))) (lin (by omega)) (fun g hm => ?_) ?_
  · have oe := fun T => own_eq (hg g hm) hc T
    simp -dsimp (disch := decide +kernel) only [evT, evD, Int.reduceLT, Int.reduceLE, Int.reduceEq, Int.reduceAdd, Int.reduceSub, Int.reduceMul, Int.reduceNeg, wipeD, List.set_cons_zero, List.set_cons_succ, Bool.false_eq_true, if_true, if_false, decide_true, decide_false, Bool.not_true, Bool.not_false, and_self, and_true, true_and, eq_self, oe]
  have nm : ∀ T, newL false (gs.map fun g => D.p (.int (g.2 : Int))) T = some (.p (.lst (gs.map fun g => P.int (g.2 : Int))), T) := fun T => newM T (fun g => P.int (g.2 : Int)) gs (lin (by omega))
  have si : ∀ T, srcOf (.p (.lst (gs.map fun g => P.int (g.2 : Int)))) T = some (srcP (gs.map fun g => P.int (g.2 : Int)), T) := fun T => rfl
  simp -dsimp (disch := decide +kernel) only [evT, evD, Int.reduceLT, Int.reduceLE, Int.reduceEq, Int.reduceAdd, Int.reduceSub, Int.reduceMul, Int.reduceNeg, wipeD, List.set_cons_zero, List.set_cons_succ, Bool.false_eq_true, if_true, if_false, decide_true, decide_false, Bool.not_true, Bool.not_false, and_self, and_true, true_and, eq_self, nm, l_Block, l_NNew, sr]
  refine Ev_pn (fun i σ T => ∃ acc : List G3, acc.map G3.g = grpG (pickR (gs.map (·.2))) (rs.take i) ∧ GI S.os acc T ∧ σ = [none, some (.p (colsP cs)), none, some (.p (frP ofr)), none, some (.p (.lst (gs.map fun g => P.int (g.2 : Int)))), some (.ref S.os.length), none, none, none, none]) ⟨[], rfl, ⟨rfl, by simp, by simp [entG], fun a h => (by cases h), fun a h => (by cases h), List.nodup_nil, List.nodup_nil⟩, rfl⟩ ?_ ?_
  · rintro i r σ T hi ⟨acc, ha, gi, rfl⟩
    have mr := List.mem_of_getElem? hi
    have tk : rs.take (i + 1) = rs.take i ++ [r] := by rw [List.take_add_one, hi]; rfl
    have ok := grpG_ok (pickR (gs.map (·.2))) rs i
    rw [← ha] at ok
    have ln := ok.num
    rw [List.length_map] at ln
    have lt : (rs.take i).length ≤ rs.length := by rw [List.length_take]; omega
    obtain ⟨acc', p, T1, T2, s1, s2, s3, s4, s5⟩ := GI_step gi (pickR (gs.map (·.2)) r) r (by omega) (fun a ha2 => by
      have := ok.len a.g (List.mem_map.mpr ⟨a, ha2, rfl⟩)
      show a.g.2.length ≤ _
      omega)
    obtain ⟨b, tos⟩ := T
    have nl : newL true [] ⟨b, tos⟩ = some (.ref tos.length, ⟨b, tos ++ [.lst []]⟩) := newL_t [] (lin (by simp))
    have isn : isN (.ref S.os.length) ⟨b, tos⟩ = true := by
      unfold isN asN
      dsimp only
      have := gi.dic
      dsimp only at this
      rw [this]
      rfl
    simp -dsimp (disch := decide +kernel) only [evT, evD, Int.reduceLT, Int.reduceLE, Int.reduceEq, Int.reduceAdd, Int.reduceSub, Int.reduceMul, Int.reduceNeg, wipeD, List.set_cons_zero, List.set_cons_succ, Bool.false_eq_true, if_true, if_false, decide_true, decide_false, Bool.not_true, Bool.not_false, and_self, and_true, true_and, eq_self, l_NM, isn, si]
    refine Ev_cpn (xs := gs) (f := fun g => P.int (g.2 : Int)) (fun g => .p (uP (r.getD g.2 .n))) (lin (by omega)) (fun g hm => ?_) ?_
    · have lg := hr r mr g hm
      have ix : ∀ T, fIx (.p (rowP r)) (.p (.int (g.2 : Int))) T = some (.p (uP (r.getD g.2 .n)), T) := fun T => fIx_t (by rw [List.getElem?_map, List.getElem?_eq_getElem lg]; simp [List.getD_eq_getElem?_getD, List.getElem?_eq_getElem lg])
      simp -dsimp (disch := decide +kernel) only [evT, evD, Int.reduceLT, Int.reduceLE, Int.reduceEq, Int.reduceAdd, Int.reduceSub, Int.reduceMul, Int.reduceNeg, wipeD, List.set_cons_zero, List.set_cons_succ, Bool.false_eq_true, if_true, if_false, decide_true, decide_false, Bool.not_true, Bool.not_false, and_self, and_true, true_and, eq_self, ix]
    · have nm2 : ∀ T, newL false (gs.map fun g => D.p (uP (r.getD g.2 .n))) T = some (.p (.lst ((pickR (gs.map (·.2)) r).map uP)), T) := fun T => by
        have z := newM T (fun g : (Option Str × Str) × Nat => uP (r.getD g.2 .n)) gs (lin (by omega))
        have e : gs.map (fun g : (Option Str × Str) × Nat => uP (r.getD g.2 .n)) = (pickR (gs.map (·.2)) r).map uP := by unfold pickR; rw [List.map_map, List.map_map]; rfl
        rw [e] at z
        exact z
      have rk := fun T => row_key_d (d := .lst ((pickR (gs.map (·.2)) r).map uP)) (r := pickR (gs.map (·.2)) r) (fun T => rfl) (by unfold pickR; rw [List.length_map, List.length_map]; omega) T
      simp -dsimp (disch := decide +kernel) only [evT, evD, Int.reduceLT, Int.reduceLE, Int.reduceEq, Int.reduceAdd, Int.reduceSub, Int.reduceMul, Int.reduceNeg, wipeD, List.set_cons_zero, List.set_cons_succ, Bool.false_eq_true, if_true, if_false, decide_true, decide_false, Bool.not_true, Bool.not_false, and_self, and_true, true_and, eq_self, nm2, rk, nl, s2, s3, s4]
      exact Hold.i ⟨acc', by rw [tk, grpG_snoc, ← ha, s1], s5, rfl⟩
  · rintro σ T ⟨acc, ha, gi, rfl⟩
    rw [List.take_length] at ha
    have oe := outO_entG gi
    have ok := grpG_ok (pickR (gs.map (·.2))) rs rs.length
    rw [List.take_length, ← ha] at ok
    have ln := ok.num
    rw [List.length_map] at ln
    have cu : ∀ b, Pv.cutS ⟨b, S.os⟩ T = ⟨b, S.os⟩ := fun b => by
      unfold Pv.cutS
      show SH.mk b (T.os.take S.os.length) = _
      rw [gi.base]
    have sd : ∀ T', srcD itV (.p (.dT (acc.map fun a => (P.tup (flatK a.k), rowsP a.rs)))) T' = some (srcP (acc.map fun a => rowsP a.rs), T') := fun T' => by
      show some (srcP ((acc.map fun a => (P.tup (flatK a.k), rowsP a.rs)).map itV), T') = _
      rw [List.map_map]
      rfl
    simp -dsimp (disch := decide +kernel) only [evT, evD, Int.reduceLT, Int.reduceLE, Int.reduceEq, Int.reduceAdd, Int.reduceSub, Int.reduceMul, Int.reduceNeg, wipeD, List.set_cons_zero, List.set_cons_succ, Bool.false_eq_true, if_true, if_false, decide_true, decide_false, Bool.not_true, Bool.not_false, and_self, and_true, true_and, eq_self, blk_nx, outE_c, outE_n, outO_n, outO_p, oe, cu, l_ItD, sd]
    refine Ev_cpn (xs := acc) (f := fun a => rowsP a.rs) (fun a => .p (frP (.cons cs (a.rs.headD []) (some a.rs) ofr))) (lin (by omega)) (fun a hm => ?_) ?_
    · have ne := ok.ne a.g (List.mem_map.mpr ⟨a, hm, rfl⟩)
      have x0 : ∀ T, fIx (.p (rowsP a.rs)) (.p (.int 0)) T = some (.p (rowP (a.rs.headD [])), T) := fun T => by
        have ne2 : a.rs ≠ [] := ne
        cases hh : a.rs with
        | nil => exact absurd hh ne2
        | cons x xs => exact fIx_l (n := 0) rfl
      have mk : ∀ T, mkK 1 m_Frame_init [.p (colsP cs), .p (rowP (a.rs.headD [])), .p (rowsP a.rs), .p (frP ofr)] T = some (.p (frP (.cons cs (a.rs.headD []) (some a.rs) ofr)), T) := fun T => mk_frame ..
      simp -dsimp (disch := decide +kernel) only [evT, evD, Int.reduceLT, Int.reduceLE, Int.reduceEq, Int.reduceAdd, Int.reduceSub, Int.reduceMul, Int.reduceNeg, wipeD, List.set_cons_zero, List.set_cons_succ, Bool.false_eq_true, if_true, if_false, decide_true, decide_false, Bool.not_true, Bool.not_false, and_self, and_true, true_and, eq_self, l_Make, x0, mk]
    · have nm := fun T => newM T (fun a : G3 => frP (.cons cs (a.rs.headD []) (some a.rs) ofr)) acc (lin (by omega))
      have er : P.lst (acc.map fun a : G3 => frP (.cons cs (a.rs.headD []) (some a.rs) ofr)) = .lst ((grpsOf (some (gs.map (·.2))) rs).map fun a => frP (.cons cs a.1 (some a.2) ofr)) := by
        unfold grpsOf
        dsimp only
        rw [← ha, List.map_map, List.map_map]
        rfl
      rw [er] at nm
      simp -dsimp (disch := decide +kernel) only [evT, evD, Int.reduceLT, Int.reduceLE, Int.reduceEq, Int.reduceAdd, Int.reduceSub, Int.reduceMul, Int.reduceNeg, wipeD, List.set_cons_zero, List.set_cons_succ, Bool.false_eq_true, if_true, if_false, decide_true, decide_false, Bool.not_true, Bool.not_false, and_self, and_true, true_and, eq_self, nm]
end Kb
namespace Kb
open PySem PySem.Spec PyProof.Rows L2 Pv
/-! select with groups -/
inductive IT where
  | col (c : Option Str × Str)
  | cnt
  | agg (f : Nat) (c : Str)
def IT.e : IT → P
  | .col c => colS c
  | .cnt => cntE
  | .agg f c => aggE f (colE c)
def IT.n : IT → P
  | .cnt => .str "many"
  | _ => .non
def IT.p (i : IT) : P := .tup [i.e, i.n]
def IT.isA : IT → Bool
  | .col _ => false
  | _ => true
def IT.nm : IT → Str
  | .col c => c.2
  | .cnt => "many"
  | .agg _ _ => ""
def itsP (is : List IT) : P := .tup (is.map IT.p)
theorem operands_col2 (c : Option Str × Str) (S : SH) : m_operands [.p (colS c)] S = some (.p (.lst []), S) := by
  unfold colS
  have t4 : ∀ T, newT [.p (.str "not"), .p (.str "negate"), .p (.str "is_null"), .p (.str "in_query")] T = some (.p (.tup [.str "not", .str "negate", .str "is_null", .str "in_query"]), T) := fun T => newT4 ..
  have no : ∀ T, fInG false (.p (.str "column")) (.p (.tup [.str "not", .str "negate", .str "is_null", .str "in_query"])) T = some (.p (.bl false), T) := fun T => inS_f (by decide +kernel) (by decide +kernel) T
  refine fn_eq rfl rfl ?_
  simp -dsimp (disch := decide +kernel) only [evT, evD, Int.reduceLT, Int.reduceLE, Int.reduceEq, Int.reduceAdd, Int.reduceSub, Int.reduceMul, Int.reduceNeg, wipeD, List.set_cons_zero, List.set_cons_succ, Bool.false_eq_true, if_true, if_false, decide_true, decide_false, Bool.not_true, Bool.not_false, and_self, and_true, true_and, eq_self, ix0, t4, no, fEq_f, newL0]
theorem hasagg_eq (n : Nat) (i : IT) (S : SH) : m_has_aggregate (n + 1) [.p i.e] S = some (.p (.bl i.isA), S) := by
  have t2 : ∀ T, newT [.p (.str "count_all"), .p (.str "aggregate")] T = some (.p (.tup [.str "count_all", .str "aggregate"]), T) := fun T => newT2 ..
  cases i with
  | col c =>
    have oc := fun T => operands_col2 c T
    have no : ∀ T, fInG false (.p (.str "column")) (.p (.tup [.str "count_all", .str "aggregate"])) T = some (.p (.bl false), T) := fun T => inS_f (by decide +kernel) (by decide +kernel) T
    have i0 : ∀ T, fIx (.p (colS c)) (.p (.int 0)) T = some (.p (.str "column"), T) := fun T => ix0 ..
    have r0 : ∀ T, srcOf (.p (.lst [])) T = some (srcP (([] : List Str).map P.str), T) := fun T => rfl
    show m_has_aggregate (n + 1) [.p (colS c)] S = some (.p (.bl false), S)
    refine Ev.eq (t := ⟨⟩) (fn_ev rfl rfl ?_)
    simp -dsimp (disch := decide +kernel) only [evT, evD, Int.reduceLT, Int.reduceLE, Int.reduceEq, Int.reduceAdd, Int.reduceSub, Int.reduceMul, Int.reduceNeg, wipeD, List.set_cons_zero, List.set_cons_succ, Bool.false_eq_true, if_true, if_false, decide_true, decide_false, Bool.not_true, Bool.not_false, and_self, and_true, true_and, eq_self, i0, t2, no, oc, r0]
    refine Ev_cpn (fun _ => .p (.bl false)) (lin (by simp)) (fun c hm => by cases hm) ?_
    have nn : ∀ T, newL false ([] : List D) T = some (.p (.lst (([] : List Str).map fun _ => P.bl false)), T) := fun T => newM T (fun _ => P.bl false) ([] : List Str) (lin (by simp))
    have an := fun T => any_no ([] : List Str) T
    rw [List.map_nil] at nn an ⊢
    simp -dsimp (disch := decide +kernel) only [evT, evD, Int.reduceLT, Int.reduceLE, Int.reduceEq, Int.reduceAdd, Int.reduceSub, Int.reduceMul, Int.reduceNeg, wipeD, List.set_cons_zero, List.set_cons_succ, Bool.false_eq_true, if_true, if_false, decide_true, decide_false, Bool.not_true, Bool.not_false, and_self, and_true, true_and, eq_self, nn, an]
  | cnt =>
    have yes : ∀ T, fInG false (.p (.str "count_all")) (.p (.tup [.str "count_all", .str "aggregate"])) T = some (.p (.bl true), T) := fun T => inS_t (by decide +kernel) (by decide +kernel) T
    have i0 : ∀ T, fIx (.p cntE) (.p (.int 0)) T = some (.p (.str "count_all"), T) := fun T => ix0 ..
    show m_has_aggregate (n + 1) [.p cntE] S = some (.p (.bl true), S)
    refine fn_eq rfl rfl ?_
    simp -dsimp (disch := decide +kernel) only [evT, evD, Int.reduceLT, Int.reduceLE, Int.reduceEq, Int.reduceAdd, Int.reduceSub, Int.reduceMul, Int.reduceNeg, wipeD, List.set_cons_zero, List.set_cons_succ, Bool.false_eq_true, if_true, if_false, decide_true, decide_false, Bool.not_true, Bool.not_false, and_self, and_true, true_and, eq_self, i0, t2, yes]
  | agg f c =>
    have yes : ∀ T, fInG false (.p (.str "aggregate")) (.p (.tup [.str "count_all", .str "aggregate"])) T = some (.p (.bl true), T) := fun T => inS_t (by decide +kernel) (by decide +kernel) T
    have i0 : ∀ T, fIx (.p (aggE f (colE c))) (.p (.int 0)) T = some (.p (.str "aggregate"), T) := fun T => ix0 ..
    show m_has_aggregate (n + 1) [.p (aggE f (colE c))] S = some (.p (.bl true), S)
    refine fn_eq rfl rfl ?_
    simp -dsimp (disch := decide +kernel) only [evT, evD, Int.reduceLT, Int.reduceLE, Int.reduceEq, Int.reduceAdd, Int.reduceSub, Int.reduceMul, Int.reduceNeg, wipeD, List.set_cons_zero, List.set_cons_succ, Bool.false_eq_true, if_true, if_false, decide_true, decide_false, Bool.not_true, Bool.not_false, and_self, and_true, true_and, eq_self, i0, t2, yes]
theorem any_bl (bs : List Bool) (S : SH) : fAny [.p (.lst (bs.map P.bl))] S = some (.p (.bl (bs.any id)), S) := by
  have a : asL (.p (.lst (bs.map P.bl))) S = some (bs.map fun b => D.p (P.bl b)) := by
    show some ((bs.map P.bl).map D.p) = _
    rw [List.map_map]
    rfl
  unfold fAny
  dsimp only
  rw [a]
  dsimp only
  rw [bolsOf_map]
theorem grouping_any {di : Bool} {is : List IT} (hl : is.length ≤ 1000) {src cnd : P} (h : is.any IT.isA = true) (S : SH) : m_is_grouping [.p (selP di (itsP is) src cnd .non .non)] S = some (.p (.bl true), S) := by
  unfold selP
  refine Ev.eq (t := ⟨⟩) (fn_ev rfl rfl ?_)
  have ni : Pv.isNon (.p (itsP is)) = false := rfl
  have si : ∀ T, srcOf (.p (itsP is)) T = some (srcP (is.map IT.p), T) := fun T => rfl
  simp -dsimp (disch := decide +kernel) only [evT, evD, Int.reduceLT, Int.reduceLE, Int.reduceEq, Int.reduceAdd, Int.reduceSub, Int.reduceMul, Int.reduceNeg, wipeD, List.set_cons_zero, List.set_cons_succ, Bool.false_eq_true, if_true, if_false, decide_true, decide_false, Bool.not_true, Bool.not_false, and_self, and_true, true_and, eq_self, ix2, ix5, ix6, ni, si]
  refine Ev_cpn (xs := is) (f := IT.p) (fun i => .p (.bl i.isA)) (lin (by omega)) (fun i hm => ?_) ?_
  · have i0 : ∀ T, fIx (.p i.p) (.p (.int 0)) T = some (.p i.e, T) := fun T => ix0 ..
    have ag := fun T => hasagg_eq 39 i T
    simp -dsimp (disch := decide +kernel) only [evT, evD, Int.reduceLT, Int.reduceLE, Int.reduceEq, Int.reduceAdd, Int.reduceSub, Int.reduceMul, Int.reduceNeg, wipeD, List.set_cons_zero, List.set_cons_succ, Bool.false_eq_true, if_true, if_false, decide_true, decide_false, Bool.not_true, Bool.not_false, and_self, and_true, true_and, eq_self, i0, ag]
  · have nm : ∀ T, newL false (is.map fun i => D.p (.bl i.isA)) T = some (.p (.lst ((is.map IT.isA).map P.bl)), T) := fun T => by
      have z := newM T (fun i : IT => P.bl i.isA) is (lin (by omega))
      rw [List.map_map]
      exact z
    have an := fun T => any_bl (is.map IT.isA) T
    have e : (is.map IT.isA).any id = true := by rw [List.any_map]; exact h
    rw [e] at an
    simp -dsimp (disch := decide +kernel) only [evT, evD, Int.reduceLT, Int.reduceLE, Int.reduceEq, Int.reduceAdd, Int.reduceSub, Int.reduceMul, Int.reduceNeg, wipeD, List.set_cons_zero, List.set_cons_succ, Bool.false_eq_true, if_true, if_false, decide_true, decide_false, Bool.not_true, Bool.not_false, and_self, and_true, true_and, eq_self, nm, an]
theorem grouping_5 {di : Bool} {it src cnd g hv : P} (h : Pv.isNon (.p g) = false) (S : SH) : m_is_grouping [.p (selP di it src cnd g hv)] S = some (.p (.bl true), S) := by
  unfold selP
  refine fn_eq rfl rfl ?_
  simp -dsimp (disch := decide +kernel) only [evT, evD, Int.reduceLT, Int.reduceLE, Int.reduceEq, Int.reduceAdd, Int.reduceSub, Int.reduceMul, Int.reduceNeg, wipeD, List.set_cons_zero, List.set_cons_succ, Bool.false_eq_true, if_true, if_false, decide_true, decide_false, Bool.not_true, Bool.not_false, and_self, and_true, true_and, eq_self, ix5, h]
theorem grouping_6 {di : Bool} {it src cnd hv : P} (h : Pv.isNon (.p hv) = false) (S : SH) : m_is_grouping [.p (selP di it src cnd .non hv)] S = some (.p (.bl true), S) := by
  unfold selP
  refine fn_eq rfl rfl ?_
  simp -dsimp (disch := decide +kernel) only [evT, evD, Int.reduceLT, Int.reduceLE, Int.reduceEq, Int.reduceAdd, Int.reduceSub, Int.reduceMul, Int.reduceNeg, wipeD, List.set_cons_zero, List.set_cons_succ, Bool.false_eq_true, if_true, if_false, decide_true, decide_false, Bool.not_true, Bool.not_false, and_self, and_true, true_and, eq_self, ix5, ix6, h]
theorem iname_eq (i : IT) (S : SH) : m_item_name [.p i.p] S = some (.p (.str i.nm), S) := by
  cases i with
  | col c =>
    have i0 : ∀ T, fIx (.p (colS c)) (.p (.int 0)) T = some (.p (.str "column"), T) := fun T => ix0 ..
    have i2 : ∀ T, fIx (.p (colS c)) (.p (.int 2)) T = some (.p (.str c.2), T) := fun T => ix2 ..
    show m_item_name [.p (.tup [colS c, .non])] S = _
    refine fn_eq rfl rfl ?_
    simp -dsimp (disch := decide +kernel) only [evT, evD, Int.reduceLT, Int.reduceLE, Int.reduceEq, Int.reduceAdd, Int.reduceSub, Int.reduceMul, Int.reduceNeg, wipeD, List.set_cons_zero, List.set_cons_succ, Bool.false_eq_true, if_true, if_false, decide_true, decide_false, Bool.not_true, Bool.not_false, and_self, and_true, true_and, eq_self, i0, i2, fEq_t]
    rfl
  | cnt =>
    show m_item_name [.p (.tup [cntE, .str "many"])] S = _
    refine fn_eq rfl rfl ?_
    simp -dsimp (disch := decide +kernel) only [evT, evD, Int.reduceLT, Int.reduceLE, Int.reduceEq, Int.reduceAdd, Int.reduceSub, Int.reduceMul, Int.reduceNeg, wipeD, List.set_cons_zero, List.set_cons_succ, Bool.false_eq_true, if_true, if_false, decide_true, decide_false, Bool.not_true, Bool.not_false, and_self, and_true, true_and, eq_self, ]
    rfl
  | agg f c =>
    have i0 : ∀ T, fIx (.p (aggE f (colE c))) (.p (.int 0)) T = some (.p (.str "aggregate"), T) := fun T => ix0 ..
    show m_item_name [.p (.tup [aggE f (colE c), .non])] S = _
    refine fn_eq rfl rfl ?_
    simp -dsimp (disch := decide +kernel) only [evT, evD, Int.reduceLT, Int.reduceLE, Int.reduceEq, Int.reduceAdd, Int.reduceSub, Int.reduceMul, Int.reduceNeg, wipeD, List.set_cons_zero, List.set_cons_succ, Bool.false_eq_true, if_true, if_false, decide_true, decide_false, Bool.not_true, Bool.not_false, and_self, and_true, true_and, eq_self, i0, fEq_f]
    rfl
theorem made_its {n : Nat} {f w : P} (is : List IT) (g : IT → U) (hl : is.length ≤ 1000) (hv : ∀ i ∈ is, Val n f w i.e (g i)) (S : SH) : m_made_row (n + 1) [.p (itsP is), .p f, .p w] S = some (.p (rowP (is.map g)), S) := by
  refine Ev.eq (t := ⟨⟩) (fn_ev rfl rfl ?_)
  have si : ∀ T, srcOf (.p (itsP is)) T = some (srcP (is.map IT.p), T) := fun T => rfl
  simp -dsimp (disch := decide +kernel) only [evT, evD, Int.reduceLT, Int.reduceLE, Int.reduceEq, Int.reduceAdd, Int.reduceSub, Int.reduceMul, Int.reduceNeg, wipeD, List.set_cons_zero, List.set_cons_succ, Bool.false_eq_true, if_true, if_false, decide_true, decide_false, Bool.not_true, Bool.not_false, and_self, and_true, true_and, eq_self, si]
  refine Ev_cpn (xs := is) (f := IT.p) (fun c => .p (uP (g c))) (lin (by omega)) (fun c hm => ?_) ?_
  · have i0 : ∀ T, fIx (.p c.p) (.p (.int 0)) T = some (.p c.e, T) := fun T => ix0 ..
    have v := fun T => hv c hm T
    simp -dsimp (disch := decide +kernel) only [evT, evD, Int.reduceLT, Int.reduceLE, Int.reduceEq, Int.reduceAdd, Int.reduceSub, Int.reduceMul, Int.reduceNeg, wipeD, List.set_cons_zero, List.set_cons_succ, Bool.false_eq_true, if_true, if_false, decide_true, decide_false, Bool.not_true, Bool.not_false, and_self, and_true, true_and, eq_self, i0, v]
  · have nm := fun T => newM T (fun c => uP (g c)) is (lin (by omega))
    have tu : ∀ T, fTuple [.p (.lst (is.map fun c => uP (g c)))] T = some (.p (rowP (is.map g)), T) := fun T => by
      rw [fTuple_l (lin (by rw [List.length_map]; omega))]
      unfold rowP
      rw [List.map_map]
      rfl
    simp -dsimp (disch := decide +kernel) only [evT, evD, Int.reduceLT, Int.reduceLE, Int.reduceEq, Int.reduceAdd, Int.reduceSub, Int.reduceMul, Int.reduceNeg, wipeD, List.set_cons_zero, List.set_cons_succ, Bool.false_eq_true, if_true, if_false, decide_true, decide_false, Bool.not_true, Bool.not_false, and_self, and_true, true_and, eq_self, nm, tu]
theorem select_grp {n : Nat} {src hv g w : P} {cs : Cols} {rs : List Row} {ofr : Fr} (is : List IT) (gps : List (Row × List Row)) (t : Row × List Row → Bool) (v : Row × List Row → Row) (hs : Pv.isNon (.p src) = false) (h : ∀ S, m_source_result (n + 1) [.p src, .p (frP ofr), .p w] S = some (.p (.tup [colsP cs, rowsP rs]), S))
    (hgr : ∀ S, m_is_grouping [.p (selP false (itsP is) src .non g hv)] S = some (.p (.bl true), S))
    (hgf : ∀ S, m_grouped_frames [.p (selP false (itsP is) src .non g hv), .p (colsP cs), .p (rowsP rs), .p (frP ofr)] S = some (.p (.lst (gps.map fun a => frP (.cons cs a.1 (some a.2) ofr))), S))
    (hk : ∀ S, m_kept_frames (n + 1) [.p hv, .p (.lst (gps.map fun a => frP (.cons cs a.1 (some a.2) ofr))), .p w] S = some (.p (.lst ((gps.filter t).map fun a => frP (.cons cs a.1 (some a.2) ofr))), S))
    (hm : ∀ a ∈ gps.filter t, ∀ S, m_made_row (n + 1) [.p (itsP is), .p (frP (.cons cs a.1 (some a.2) ofr)), .p w] S = some (.p (rowP (v a)), S))
    (l1 : rs.length ≤ 100000) (l2 : is.length ≤ 1000) (l3 : gps.length ≤ 100000) (S : SH) :
    m_select_result (n + 2) [.p (selP false (itsP is) src .non g hv), .p (frP ofr), .p w] S = some (.p (.tup [.lst (is.map fun i => .str i.nm), rowsP ((gps.filter t).map v)]), S) := by
  unfold selP at hgr hgf ⊢
  refine Ev.eq (t := ⟨⟩) (fn_ev rfl rfl ?_)
  have r1 : ∀ T, srcOf (.p (rowsP rs)) T = some (srcP (rs.map rowP), T) := fun T => rfl
  have lt : ∀ T, newL false [.p (.tup [])] T = some (.p (.lst [.tup []]), T) := fun T => newL1 ..
  have lf : (gps.filter t).length ≤ gps.length := List.length_filter_le ..
  simp -dsimp (disch := decide +kernel) only [evT, evD, Int.reduceLT, Int.reduceLE, Int.reduceEq, Int.reduceAdd, Int.reduceSub, Int.reduceMul, Int.reduceNeg, wipeD, List.set_cons_zero, List.set_cons_succ, Bool.false_eq_true, if_true, if_false, decide_true, decide_false, Bool.not_true, Bool.not_false, and_self, and_true, true_and, eq_self, lt, ix3, hs, h, ix4, r1]
  refine Ev_cpn (fun r => .p (frP (.cons cs r none ofr))) (lin (by omega)) (fun r hm => ?_) ?_
  · have mk : ∀ T, mkK 1 m_Frame_init [.p (colsP cs), .p (rowP r), .p .non, .p (frP ofr)] T = some (.p (frP (.cons cs r none ofr)), T) := fun T => mk_frame ..
    simp -dsimp (disch := decide +kernel) only [evT, evD, Int.reduceLT, Int.reduceLE, Int.reduceEq, Int.reduceAdd, Int.reduceSub, Int.reduceMul, Int.reduceNeg, wipeD, List.set_cons_zero, List.set_cons_succ, Bool.false_eq_true, if_true, if_false, decide_true, decide_false, Bool.not_true, Bool.not_false, and_self, and_true, true_and, eq_self, l_Make, mk]
  · have nm := fun T => newM T (fun r => frP (.cons cs r none ofr)) rs (lin (by omega))
    have ka := fun T => kept_all (n := n) (w := w) (x := .lst (rs.map fun r => frP (.cons cs r none ofr))) T
    have sf : ∀ T, srcOf (.p (.lst (rs.map fun r => frP (.cons cs r none ofr)))) T = some (srcP (rs.map fun r => frP (.cons cs r none ofr)), T) := fun T => rfl
    simp -dsimp (disch := decide +kernel) only [evT, evD, Int.reduceLT, Int.reduceLE, Int.reduceEq, Int.reduceAdd, Int.reduceSub, Int.reduceMul, Int.reduceNeg, wipeD, List.set_cons_zero, List.set_cons_succ, Bool.false_eq_true, if_true, if_false, decide_true, decide_false, Bool.not_true, Bool.not_false, and_self, and_true, true_and, eq_self, nm, ka, hgr, sf]
    refine Ev_cpn (xs := rs) (f := fun r => frP (.cons cs r none ofr)) (fun r => .p (rowP r)) (lin (by omega)) (fun r hm => ?_) ?_
    · have fr : ∀ T, dFld [1] "row" (.p (frP (.cons cs r none ofr))) T = some (.p (rowP r), T) := fun T => fr_row ..
      simp -dsimp (disch := decide +kernel) only [evT, evD, Int.reduceLT, Int.reduceLE, Int.reduceEq, Int.reduceAdd, Int.reduceSub, Int.reduceMul, Int.reduceNeg, wipeD, List.set_cons_zero, List.set_cons_succ, Bool.false_eq_true, if_true, if_false, decide_true, decide_false, Bool.not_true, Bool.not_false, and_self, and_true, true_and, eq_self, fr]
    · have nr := fun T => newM T rowP rs (lin (by omega))
      have er : P.lst (rs.map rowP) = rowsP rs := rfl
      rw [er] at nr
      have ni : Pv.isNon (.p (itsP is)) = false := rfl
      have si : ∀ T, srcOf (.p (itsP is)) T = some (srcP (is.map IT.p), T) := fun T => rfl
      simp -dsimp (disch := decide +kernel) only [evT, evD, Int.reduceLT, Int.reduceLE, Int.reduceEq, Int.reduceAdd, Int.reduceSub, Int.reduceMul, Int.reduceNeg, wipeD, List.set_cons_zero, List.set_cons_succ, Bool.false_eq_true, if_true, if_false, decide_true, decide_false, Bool.not_true, Bool.not_false, and_self, and_true, true_and, eq_self, nr, hgf, ix6, hk, ix2, ni, si]
      refine Ev_cpn (xs := is) (f := IT.p) (fun i => .p (.str i.nm)) (lin (by omega)) (fun c hm => ?_) ?_
      · have c1 := fun T => iname_eq c T
        simp -dsimp (disch := decide +kernel) only [evT, evD, Int.reduceLT, Int.reduceLE, Int.reduceEq, Int.reduceAdd, Int.reduceSub, Int.reduceMul, Int.reduceNeg, wipeD, List.set_cons_zero, List.set_cons_succ, Bool.false_eq_true, if_true, if_false, decide_true, decide_false, Bool.not_true, Bool.not_false, and_self, and_true, true_and, eq_self, c1]
      · have nn := fun T => newM T (fun i : IT => P.str i.nm) is (lin (by omega))
        have sg : ∀ T, srcOf (.p (.lst ((gps.filter t).map fun a => frP (.cons cs a.1 (some a.2) ofr)))) T = some (srcP ((gps.filter t).map fun a => frP (.cons cs a.1 (some a.2) ofr)), T) := fun T => rfl
        simp -dsimp (disch := decide +kernel) only [evT, evD, Int.reduceLT, Int.reduceLE, Int.reduceEq, Int.reduceAdd, Int.reduceSub, Int.reduceMul, Int.reduceNeg, wipeD, List.set_cons_zero, List.set_cons_succ, Bool.false_eq_true, if_true, if_false, decide_true, decide_false, Bool.not_true, Bool.not_false, and_self, and_true, true_and, eq_self, nn, ix2, sg]
        refine Ev_cpn (xs := gps.filter t) (f := fun a => frP (.cons cs a.1 (some a.2) ofr)) (fun a => .p (rowP (v a))) (lin (by omega)) (fun a ha => ?_) ?_
        · have mr := fun T => hm a ha T
          simp -dsimp (disch := decide +kernel) only [evT, evD, Int.reduceLT, Int.reduceLE, Int.reduceEq, Int.reduceAdd, Int.reduceSub, Int.reduceMul, Int.reduceNeg, wipeD, List.set_cons_zero, List.set_cons_succ, Bool.false_eq_true, if_true, if_false, decide_true, decide_false, Bool.not_true, Bool.not_false, and_self, and_true, true_and, eq_self, ix2, mr]
        · have nm2 := fun T => newM T (fun a => rowP (v a)) (gps.filter t) (lin (by omega))
          have er2 : P.lst ((gps.filter t).map fun a => rowP (v a)) = rowsP ((gps.filter t).map v) := by unfold rowsP; rw [List.map_map]; rfl
          rw [er2] at nm2
          simp -dsimp (disch := decide +kernel) only [evT, evD, Int.reduceLT, Int.reduceLE, Int.reduceEq, Int.reduceAdd, Int.reduceSub, Int.reduceMul, Int.reduceNeg, wipeD, List.set_cons_zero, List.set_cons_succ, Bool.false_eq_true, if_true, if_false, decide_true, decide_false, Bool.not_true, Bool.not_false, and_self, and_true, true_and, eq_self, nm2, ix1]
end Kb
namespace Kb
open PySem PySem.Spec PyProof.Rows L2 Pv
/-! the law's groups -/
def k2P (k : Row) : P := .tup (k.map key2)
theorem okd_key2 (j : Nat) (u : U) : okd (j + 1) (key2 u) = true := by cases u <;> cases j <;> rfl
theorem okd_k2 (j : Nat) (k : Row) : okd (j + 2) (k2P k) = true := by
  show (k.map key2).all (okd (j + 1)) = true
  rw [List.all_map, List.all_eq_true]
  exact fun u _ => okd_key2 j u
theorem peq_key2 (a b : U) : peq (key2 a) (key2 b) = decide (a = b) := by
  cases a <;> cases b <;> simp [key2, peq, peqA]
  all_goals (try rename_i x y; cases x <;> cases y <;> rfl)
theorem peqA_k2 : ∀ a b : Row, peqA (a.map key2) (b.map key2) = decide (a = b)
  | [], [] => rfl
  | [], _ :: _ => by simp [peqA]
  | _ :: _, [] => by simp [peqA]
  | u :: a, v :: b => by
    rw [List.map_cons, List.map_cons, peqA, peq_key2, peqA_k2 a b]
    by_cases h1 : u = v <;> by_cases h2 : a = b <;> simp [h1, h2]
theorem peq_k2 (a b : Row) : peq (k2P a) (k2P b) = decide (a = b) := peqA_k2 a b
theorem any_k2 (k : Row) (ks : List Row) : ((ks.map k2P).any fun y => peq y (k2P k)) = decide (k ∈ ks) := by
  induction ks with
  | nil => rfl
  | cons x xs ih =>
    rw [List.map_cons, List.any_cons, ih, peq_k2]
    by_cases h : x = k
    · subst h; simp
    · have h2 : ¬ k = x := fun z => h z.symm
      simp [h, h2]
theorem idx_k2 (k : Row) : ∀ ks : List Row, k ∈ ks → ∃ j, idxP (k2P k) (ks.map k2P) = some j ∧ ks[j]? = some k
  | [], h => by cases h
  | x :: xs, h => by
    rw [List.map_cons]
    unfold idxP
    rw [peq_k2]
    by_cases q : x = k
    · subst q
      exact ⟨0, by simp, rfl⟩
    · rcases List.mem_cons.mp h with h | h
      · exact absurd h.symm q
      · obtain ⟨j, h1, h2⟩ := idx_k2 k xs h
        exact ⟨j + 1, by simp [q, h1], by simpa using h2⟩
structure GL (os : List Ob) (acc : List G3) (T : SH) : Prop where
  b : T.b = os.length
  base : T.os.take os.length = os
  ky : T.os[os.length]? = some (.lst ((acc.map fun a => k2P a.k).map D.p))
  li : T.os[os.length + 1]? = some (.lst (acc.map fun a => D.ref a.p))
  obj : ∀ a ∈ acc, T.os[a.p]? = some (.lst ((a.rs.map rowP).map D.p))
  gt : ∀ a ∈ acc, os.length + 1 < a.p
  nd : (acc.map (·.k)).Nodup
  np : (acc.map (·.p)).Nodup
theorem keysk (acc : List G3) : (acc.map fun a => k2P a.k) = (acc.map (·.k)).map k2P := by rw [List.map_map]; rfl
theorem rdP_lst {S : SH} {n : Nat} {ps : List P} (h : S.os[n]? = some (.lst (ps.map D.p))) : rdP S (.ref n) = some (.lst ps) := toP_lpb (Nat.zero_le _) h
theorem GL_in {os : List Ob} {acc : List G3} {T : SH} (h : GL os acc T) (k : Row) : fInG false (.p (k2P k)) (.ref os.length) T = some (.p (.bl (decide (k ∈ acc.map (·.k)))), T) := by
  have e : fInG false (.p (k2P k)) (.ref os.length) T = fIn false (.p (k2P k)) (.ref os.length) T := rfl
  rw [e]
  unfold fIn
  rw [rdP_p, rdP_lst h.ky]
  dsimp only
  rw [if_pos ⟨okd_k2 38 k, by rw [List.all_map, List.all_eq_true]; exact fun a _ => okd_k2 38 a.k⟩, if_neg Bool.false_ne_true, keysk, any_k2]
theorem GL_old {os : List Ob} {acc : List G3} {T : SH} (h : GL os acc T) (k r : Row) (hk : k ∈ acc.map (·.k)) (l2 : ∀ a ∈ acc, a.rs.length ≤ 100000) :
    ∃ (acc' : List G3) (j p : Nat) (T2 : SH), acc'.map G3.g = insG (acc.map G3.g) k r ∧ fIndexP [.ref os.length, .p (k2P k)] T = some (.p (.int (j : Int)), T) ∧ fIx (.ref (os.length + 1)) (.p (.int (j : Int))) T = some (.ref p, T) ∧ isTy "list" (.ref p) T = true ∧ fApp [.ref p, .p (rowP r)] T = some (.p .non, T2) ∧ GL os acc' T2 := by
  have lsz := line_ge
  obtain ⟨j, h1, h2⟩ := idx_k2 k (acc.map (·.k)) hk
  rw [List.getElem?_map] at h2
  cases ha : acc[j]? with
  | none => rw [ha] at h2; cases h2
  | some a =>
    rw [ha] at h2
    have ek : a.k = k := Option.some.inj h2
    have ma := List.mem_of_getElem? ha
    have oa := h.obj a ma
    have plt : a.p < T.os.length := (List.getElem?_eq_some_iff.mp oa).1
    have gt := h.gt a ma
    have la := l2 a ma
    have hin : k ∈ (acc.map G3.g).map (·.1) := by rw [keys_g]; exact hk
    refine ⟨acc.map (fun x => if x.k = k then ⟨x.k, x.rs ++ [r], x.p⟩ else x), j, a.p, ⟨T.b, T.os.set a.p (.lst (((a.rs ++ [r]).map rowP).map D.p))⟩, ?_, ?_, ?_, isTy_ref oa, ?_, ?_⟩
    · unfold insG
      rw [if_pos hin, List.map_map, List.map_map]
      refine List.map_congr_left fun x _ => ?_
      show (if x.k = k then (⟨x.k, x.rs ++ [r], x.p⟩ : G3) else x).g = if x.g.1 = k then (x.g.1, x.g.2 ++ [r]) else x.g
      by_cases z : x.k = k
      · rw [if_pos z, if_pos (show x.g.1 = k from z)]
        rfl
      · rw [if_neg z, if_neg (show ¬ x.g.1 = k from z)]
    · unfold fIndexP
      dsimp only
      rw [rdP_p, rdP_lst h.ky]
      dsimp only
      rw [if_pos ⟨okd_k2 38 k, by rw [List.all_map, List.all_eq_true]; exact fun a _ => okd_k2 38 a.k⟩, keysk, h1]
    · exact fIx_ri h.li (Int.natCast_nonneg j) (by rw [Int.toNat_natCast, List.getElem?_map, ha]; rfl)
    · have z := fApp_p (x := rowP r) oa (by rw [List.length_map, List.length_map]; omega)
      rw [z, List.map_append, List.map_append]
      rfl
    · have fm : ∀ {β : Type} (f : G3 → β), (∀ x y, f ⟨x.k, y, x.p⟩ = f x) → (acc.map (fun x : G3 => if x.k = k then (⟨x.k, x.rs ++ [r], x.p⟩ : G3) else x)).map f = acc.map f := fun f hf => by
        rw [List.map_map]
        refine List.map_congr_left fun x _ => ?_
        show f (if x.k = k then (⟨x.k, x.rs ++ [r], x.p⟩ : G3) else x) = f x
        split
        · exact hf x _
        · rfl
      refine ⟨h.b, ?_, ?_, ?_, ?_, ?_, by rw [fm _ fun _ _ => rfl]; exact h.nd, by rw [fm _ fun _ _ => rfl]; exact h.np⟩
      · show (T.os.set a.p _).take os.length = os
        rw [List.take_set_of_le (by omega)]
        exact h.base
      · show (T.os.set a.p _)[os.length]? = _
        rw [List.getElem?_set_ne (by omega), fm _ fun _ _ => rfl]
        exact h.ky
      · show (T.os.set a.p _)[os.length + 1]? = _
        rw [List.getElem?_set_ne (by omega), fm _ fun _ _ => rfl]
        exact h.li
      · intro x' hx'
        obtain ⟨x, hx, rfl⟩ := List.mem_map.mp hx'
        show (T.os.set a.p _)[_]? = _
        by_cases q : x.k = k
        · have : x = a := nodup_uniq h.nd hx ma (q.trans ek.symm)
          subst this
          rw [if_pos q, List.getElem?_set_self plt]
        · rw [if_neg q]
          have np : a.p ≠ x.p := fun z => q (by rw [← nodup_uniq h.np ma hx z]; exact ek)
          rw [List.getElem?_set_ne np]
          exact h.obj x hx
      · intro x' hx'
        obtain ⟨x, hx, rfl⟩ := List.mem_map.mp hx'
        have := h.gt x hx
        split <;> exact this
theorem GL_new {os : List Ob} {acc : List G3} {T : SH} (h : GL os acc T) (k r : Row) (hk : ¬ k ∈ acc.map (·.k)) (l1 : acc.length ≤ 100000) :
    ∃ (acc' : List G3) (T1 T2 : SH), acc'.map G3.g = insG (acc.map G3.g) k r ∧ isTy "list" (.ref os.length) T = true ∧ fApp [.ref os.length, .p (k2P k)] T = some (.p .non, T1) ∧ isTy "list" (.ref (os.length + 1)) T1 = true ∧ fApp [.ref (os.length + 1), .ref T1.os.length] ⟨T1.b, T1.os ++ [.lst [.p (rowP r)]]⟩ = some (.p .non, T2) ∧ GL os acc' T2 := by
  have lsz := line_ge
  have n0 : os.length < T.os.length := (List.getElem?_eq_some_iff.mp h.ky).1
  have n1 : os.length + 1 < T.os.length := (List.getElem?_eq_some_iff.mp h.li).1
  have hin : ¬ k ∈ (acc.map G3.g).map (·.1) := by rw [keys_g]; exact hk
  have ap1 := fApp_p (x := k2P k) h.ky (by rw [List.length_map, List.length_map]; omega)
  have e1 : ((acc.map fun a => k2P a.k).map D.p) ++ [D.p (k2P k)] = (((acc ++ [⟨k, [r], T.os.length⟩] : List G3).map fun a => k2P a.k).map D.p) := by rw [List.map_append, List.map_append]; rfl
  rw [e1] at ap1
  have e2 : (acc.map fun a => D.ref a.p) ++ [D.ref T.os.length] = ((acc ++ [⟨k, [r], T.os.length⟩] : List G3).map fun a => D.ref a.p) := by rw [List.map_append]; rfl
  generalize hl1 : (((acc ++ [⟨k, [r], T.os.length⟩] : List G3).map fun a => k2P a.k).map D.p) = L1 at ap1
  generalize hl2 : ((acc ++ [⟨k, [r], T.os.length⟩] : List G3).map fun a => D.ref a.p) = L2 at e2
  have li1 : (T.os.set os.length (Ob.lst L1))[os.length + 1]? = some (.lst (acc.map fun a => D.ref a.p)) := by rw [List.getElem?_set_ne (by omega)]; exact h.li
  have lenS : (T.os.set os.length (Ob.lst L1)).length = T.os.length := List.length_set
  have pgt : ∀ a ∈ acc, a.p < T.os.length := fun a ha => (List.getElem?_eq_some_iff.mp (h.obj a ha)).1
  refine ⟨acc ++ [⟨k, [r], T.os.length⟩], ⟨T.b, T.os.set os.length (Ob.lst L1)⟩, ⟨T.b, (T.os.set os.length (Ob.lst L1) ++ [Ob.lst [.p (rowP r)]]).set (os.length + 1) (Ob.lst L2)⟩, ?_, isTy_ref h.ky, ap1, isTy_ref li1, ?_, ?_⟩
  · unfold insG
    rw [if_neg hin, List.map_append]
    rfl
  · have li2 : (T.os.set os.length (Ob.lst L1) ++ [Ob.lst [.p (rowP r)]])[os.length + 1]? = some (.lst (acc.map fun a => D.ref a.p)) := by
      rw [List.getElem?_append_left (by rw [lenS]; exact n1)]
      exact li1
    unfold fApp
    dsimp only
    rw [li2]
    dsimp only
    rw [if_pos ⟨by rw [List.length_map]; omega, by unfold okRef; exact decide_eq_true (by show T.b ≤ os.length + 1; rw [h.b]; omega)⟩, lenS, e2]
  · have lenA : (T.os.set os.length (Ob.lst L1) ++ [Ob.lst [.p (rowP r)]]).length = T.os.length + 1 := by rw [List.length_append, lenS]; rfl
    refine ⟨h.b, ?_, ?_, ?_, ?_, ?_, ?_, ?_⟩
    · show ((T.os.set os.length (Ob.lst L1) ++ [Ob.lst [.p (rowP r)]]).set (os.length + 1) (Ob.lst L2)).take os.length = os
      rw [List.take_set_of_le (by omega), List.take_append_of_le_length (by rw [lenS]; omega), List.take_set_of_le (Nat.le_refl _)]
      exact h.base
    · show ((T.os.set os.length (Ob.lst L1) ++ [Ob.lst [.p (rowP r)]]).set (os.length + 1) (Ob.lst L2))[os.length]? = _
      rw [List.getElem?_set_ne (by omega), List.getElem?_append_left (by rw [lenS]; exact n0), List.getElem?_set_self n0, hl1]
    · show ((T.os.set os.length (Ob.lst L1) ++ [Ob.lst [.p (rowP r)]]).set (os.length + 1) (Ob.lst L2))[os.length + 1]? = _
      rw [List.getElem?_set_self (by rw [lenA]; omega), hl2]
    · intro x hx
      show ((T.os.set os.length (Ob.lst L1) ++ [Ob.lst [.p (rowP r)]]).set (os.length + 1) (Ob.lst L2))[x.p]? = _
      rcases List.mem_append.mp hx with hx | hx
      · have xl := pgt x hx
        have xg := h.gt x hx
        rw [List.getElem?_set_ne (by omega), List.getElem?_append_left (by rw [lenS]; exact xl), List.getElem?_set_ne (by omega)]
        exact h.obj x hx
      · rw [List.mem_singleton] at hx
        subst hx
        show _[T.os.length]? = _
        rw [List.getElem?_set_ne (by omega), List.getElem?_append_right (by rw [lenS]; exact Nat.le_refl _), lenS, Nat.sub_self]
        rfl
    · intro x hx
      rcases List.mem_append.mp hx with hx | hx
      · exact h.gt x hx
      · rw [List.mem_singleton] at hx
        subst hx
        exact n1
    · rw [List.map_append, List.nodup_append]
      refine ⟨h.nd, by simp, fun a ha b hb => ?_⟩
      simp only [List.map_cons, List.map_nil, List.mem_singleton] at hb
      subst hb
      exact fun z => hk (z ▸ ha)
    · rw [List.map_append, List.nodup_append]
      refine ⟨h.np, by simp, fun a ha b hb => ?_⟩
      simp only [List.map_cons, List.map_nil, List.mem_singleton] at hb
      subst hb
      obtain ⟨x, hx, rfl⟩ := List.mem_map.mp ha
      have := pgt x hx
      omega
end Kb
namespace Kb
open PySem PySem.Spec PyProof.Rows L2 Pv
def natsP (is : List Nat) : P := .lst (is.map fun i : Nat => P.int (i : Int))
theorem nats_emp (neg : Bool) (is : List Nat) (T : SH) : fEq neg (.p (natsP is)) (.p (.lst [])) T = some (.p (.bl (if neg = true then !is.isEmpty else is.isEmpty)), T) := by
  rw [fEq_d neg (show okd 40 (natsP is) = true by
    show (is.map fun i : Nat => P.int (i : Int)).all (okd 39) = true
    rw [List.all_map, List.all_eq_true]
    exact fun _ _ => rfl) rfl]
  have e : peq (natsP is) (.lst []) = is.isEmpty := by cases is <;> simp [natsP, peq, peqA]
  rw [e]
theorem toP_li {os : List Ob} {acc : List G3} {T : SH} (h : GL os acc T) (j : Nat) : (acc.map fun a => D.ref a.p).mapM (toP (j + 1) os.length T) = some (acc.map fun a => rowsP a.rs) := by
  have hall : ∀ a ∈ acc, toP (j + 1) os.length T (.ref a.p) = some (rowsP a.rs) := fun a ha => toP_lpb (by have := h.gt a ha; omega) (h.obj a ha)
  clear h
  induction acc with
  | nil => rfl
  | cons a acc ih =>
    have e := hall a List.mem_cons_self
    have ih := ih fun x hx => hall x (List.mem_cons_of_mem _ hx)
    rw [List.map_cons, List.mapM_cons, e, ih]
    rfl
/-- the groups as the law forms them -/
def lawG (is : List Nat) (rs : List Row) : List (List Row) := if is = [] then [rs] else (grpG (pickR is) rs).map (·.2)
theorem groups_none (rs : List Row) (S : SH) : m_groups [.p (rowsP rs), .p (natsP [])] S = some (.p (.lst [rowsP rs]), S) := by
  have q := nats_emp false []
  have n1 : ∀ (x : P) T, newL false [.p x] T = some (.p (.lst [x]), T) := fun x T => newL1 ..
  refine fn_eq rfl rfl ?_
  simp -dsimp (disch := decide +kernel) only [evT, evD, Int.reduceLT, Int.reduceLE, Int.reduceEq, Int.reduceAdd, Int.reduceSub, Int.reduceMul, Int.reduceNeg, wipeD, List.set_cons_zero, List.set_cons_succ, Bool.false_eq_true, if_true, if_false, decide_true, decide_false, Bool.not_true, Bool.not_false, and_self, and_true, true_and, eq_self, newL0, q, List.isEmpty_nil, n1]
theorem groups_some {is : List Nat} {rs : List Row} (hn : is ≠ []) (hi : is.length ≤ 1000) (hr : ∀ r ∈ rs, ∀ i ∈ is, i < r.length) (hl : rs.length ≤ 100000) (S : SH) : m_groups [.p (rowsP rs), .p (natsP is)] S = some (.p (.lst ((grpG (pickR is) rs).map fun a => rowsP a.2)), S) := by
  have q : ∀ T, fEq false (.p (natsP is)) (.p (.lst [])) T = some (.p (.bl false), T) := fun T => by
    rw [nats_emp]
    cases is with
    | nil => exact absurd rfl hn
    | cons _ _ => rfl
  have sr : ∀ T, srcOf (.p (rowsP rs)) T = some (srcP (rs.map rowP), T) := fun T => rfl
  have si : ∀ T, srcOf (.p (natsP is)) T = some (srcP (is.map fun i : Nat => P.int (i : Int)), T) := fun T => rfl
  have nl : ∀ T : SH, newL true [] T = some (.ref T.os.length, ⟨T.b, T.os ++ [.lst []]⟩) := fun T => newL_t [] (lin (by simp))
  have nl2 : ∀ b, newL true [] ⟨b, S.os ++ [.lst []]⟩ = some (.ref (S.os.length + 1), ⟨b, S.os ++ [.lst [], .lst []]⟩) := fun b => by
    rw [newL_t [] (lin (by simp))]
    simp
  refine Ev.eq (t := ⟨⟩) (fn_ev rfl rfl ?_)
  have nl1 : ∀ b, newL true [] ⟨b, S.os⟩ = some (.ref S.os.length, ⟨b, S.os ++ [.lst []]⟩) := fun b => newL_t [] (lin (by simp))
  simp -dsimp (disch := decide +kernel) only [evT, evD, Int.reduceLT, Int.reduceLE, Int.reduceEq, Int.reduceAdd, Int.reduceSub, Int.reduceMul, Int.reduceNeg, wipeD, List.set_cons_zero, List.set_cons_succ, Bool.false_eq_true, if_true, if_false, decide_true, decide_false, Bool.not_true, Bool.not_false, and_self, and_true, true_and, eq_self, newL0, q, nl1, nl2, sr]
  refine Ev_pn (fun i σ T => ∃ acc : List G3, acc.map G3.g = grpG (pickR is) (rs.take i) ∧ GL S.os acc T ∧ σ = [none, some (.p (natsP is)), some (.ref S.os.length), some (.ref (S.os.length + 1)), none, none, none]) ⟨[], rfl, ⟨rfl, by simp, by simp, by simp, fun a h => (by cases h), fun a h => (by cases h), List.nodup_nil, List.nodup_nil⟩, rfl⟩ ?_ ?_
  · rintro i r σ T hri ⟨acc, ha, gl, rfl⟩
    have mr := List.mem_of_getElem? hri
    have tk : rs.take (i + 1) = rs.take i ++ [r] := by rw [List.take_add_one, hri]; rfl
    have ok := grpG_ok (pickR is) rs i
    rw [← ha] at ok
    have ln := ok.num
    rw [List.length_map] at ln
    have lt : (rs.take i).length ≤ rs.length := by rw [List.length_take]; omega
    have l2 : ∀ a ∈ acc, a.rs.length ≤ 100000 := fun a ha2 => by
      have := ok.len a.g (List.mem_map.mpr ⟨a, ha2, rfl⟩)
      show a.g.2.length ≤ _
      omega
    obtain ⟨b, tos⟩ := T
    simp -dsimp (disch := decide +kernel) only [evT, evD, Int.reduceLT, Int.reduceLE, Int.reduceEq, Int.reduceAdd, Int.reduceSub, Int.reduceMul, Int.reduceNeg, wipeD, List.set_cons_zero, List.set_cons_succ, Bool.false_eq_true, if_true, if_false, decide_true, decide_false, Bool.not_true, Bool.not_false, and_self, and_true, true_and, eq_self, si]
    refine Ev_cpn (xs := is) (f := fun i : Nat => P.int (i : Int)) (fun i => .p (uP (r.getD i .n))) (lin (by omega)) (fun j hm => ?_) ?_
    · have lg := hr r mr j hm
      have ix : ∀ T, fIx (.p (rowP r)) (.p (.int (j : Int))) T = some (.p (uP (r.getD j .n)), T) := fun T => fIx_t (by rw [List.getElem?_map, List.getElem?_eq_getElem lg]; simp [List.getD_eq_getElem?_getD, List.getElem?_eq_getElem lg])
      simp -dsimp (disch := decide +kernel) only [evT, evD, Int.reduceLT, Int.reduceLE, Int.reduceEq, Int.reduceAdd, Int.reduceSub, Int.reduceMul, Int.reduceNeg, wipeD, List.set_cons_zero, List.set_cons_succ, Bool.false_eq_true, if_true, if_false, decide_true, decide_false, Bool.not_true, Bool.not_false, and_self, and_true, true_and, eq_self, ix]
    · have nm2 : ∀ T, newL false (is.map fun i => D.p (uP (r.getD i .n))) T = some (.p (.lst ((pickR is r).map uP)), T) := fun T => by
        have z := newM T (fun i : Nat => uP (r.getD i .n)) is (lin (by omega))
        have e : is.map (fun i : Nat => uP (r.getD i .n)) = (pickR is r).map uP := by unfold pickR; rw [List.map_map]; rfl
        rw [e] at z
        exact z
      have rk : ∀ T, m_lrow_key [.p (.lst ((pickR is r).map uP))] T = some (.p (k2P (pickR is r)), T) := fun T => lrow_key_d (r := pickR is r) (fun T => rfl) (by unfold pickR; rw [List.length_map]; omega) T
      have gi := GL_in gl (pickR is r)
      by_cases hk : pickR is r ∈ acc.map (·.k)
      · obtain ⟨acc', j, p, T2, s1, s2, s3, s4, s5, s6⟩ := GL_old gl (pickR is r) r hk l2
        have tk2 : isTy "list" (.ref S.os.length) ⟨b, tos⟩ = true := isTy_ref gl.ky
        rw [decide_eq_true hk] at gi
        simp -dsimp (disch := decide +kernel) only [evT, evD, Int.reduceLT, Int.reduceLE, Int.reduceEq, Int.reduceAdd, Int.reduceSub, Int.reduceMul, Int.reduceNeg, wipeD, List.set_cons_zero, List.set_cons_succ, Bool.false_eq_true, if_true, if_false, decide_true, decide_false, Bool.not_true, Bool.not_false, and_self, and_true, true_and, eq_self, nm2, rk, gi, tk2, s2, s3, s4, s5]
        exact Hold.i ⟨acc', by rw [tk, grpG_snoc, ← ha, s1], s6, rfl⟩
      · obtain ⟨acc', T1, T2, s1, s2, s3, s4, s5, s6⟩ := GL_new gl (pickR is r) r hk (by omega)
        obtain ⟨b1, os1⟩ := T1
        have n1 : newL true [.p (rowP r)] ⟨b1, os1⟩ = some (.ref os1.length, ⟨b1, os1 ++ [.lst [.p (rowP r)]]⟩) := newL_t _ (lin (by simp))
        rw [decide_eq_false hk] at gi
        simp -dsimp (disch := decide +kernel) only [evT, evD, Int.reduceLT, Int.reduceLE, Int.reduceEq, Int.reduceAdd, Int.reduceSub, Int.reduceMul, Int.reduceNeg, wipeD, List.set_cons_zero, List.set_cons_succ, Bool.false_eq_true, if_true, if_false, decide_true, decide_false, Bool.not_true, Bool.not_false, and_self, and_true, true_and, eq_self, nm2, rk, gi, s2, s3, s4, n1, s5]
        exact Hold.i ⟨acc', by rw [tk, grpG_snoc, ← ha, s1], s6, rfl⟩
  · rintro σ T ⟨acc, ha, gl, rfl⟩
    rw [List.take_length] at ha
    have fr : frameF S (some (.ret (.ref (S.os.length + 1)), T)) = some (.p (.lst (acc.map fun a => rowsP a.rs)), S) := by
      show (match outD S.len T (.ref (S.os.length + 1)) with | some d' => some (d', Pv.cutS S T) | none => none) = _
      have o : outD S.len T (.ref (S.os.length + 1)) = some (.p (.lst (acc.map fun a => rowsP a.rs))) := by
        unfold outD
        dsimp only
        rw [if_neg (by show ¬ S.os.length + 1 < S.os.length; omega)]
        unfold toP
        rw [if_neg (by show ¬ S.os.length + 1 < S.os.length; omega), gl.li]
        dsimp only
        have := toP_li gl 6
        show (((acc.map fun a => D.ref a.p).mapM (toP 7 S.os.length T)).map P.lst).map D.p = _
        rw [this]
        rfl
      rw [o]
      show some (_, SH.mk S.b (T.os.take S.os.length)) = _
      rw [gl.base]
    simp -dsimp (disch := decide +kernel) only [evT, evD, Int.reduceLT, Int.reduceLE, Int.reduceEq, Int.reduceAdd, Int.reduceSub, Int.reduceMul, Int.reduceNeg, wipeD, List.set_cons_zero, List.set_cons_succ, Bool.false_eq_true, if_true, if_false, decide_true, decide_false, Bool.not_true, Bool.not_false, and_self, and_true, true_and, eq_self, fr]
    have e : (acc.map fun a => rowsP a.rs) = (grpG (pickR is) rs).map fun a => rowsP a.2 := by rw [← ha, List.map_map]; rfl
    rw [e]
end Kb
namespace Kb
open PySem PySem.Spec PyProof.Rows L2 Pv
/-! the law's aggregates -/
def key2V : U → List V
  | .n => [.int 0, .int 0]
  | .b x => [.int 1, .int (if x = true then 1 else 0)]
  | .i x => [.int 2, .int x]
  | .s x => [.int 3, .str x]
def key2L : U → List P
  | .n => [.int 0, .int 0]
  | .b x => [.int 1, .int (if x = true then 1 else 0)]
  | .i x => [.int 2, .int x]
  | .s x => [.int 3, .str x]
theorem key2_L (u : U) : key2 u = .tup (key2L u) := by cases u <;> rfl
theorem flat_key2 (u : U) : flatPs (key2L u) = some (key2V u) := by cases u <;> rfl
theorem lt_key2 (a b : U) : cmpT ltV (false, true, false) (key2V a) (key2V b) = some (ltU a b) := by
  cases a <;> cases b <;> simp [key2V, cmpT, eqV_ii, eqV_ss, likeV, ltV, ltU, rankU]
  all_goals (rename_i x y)
  · cases x <;> cases y <;> rfl
  · by_cases h : x = y <;> simp [h]
  · by_cases h : x = y
    · subst h; simp
    · simp [h]
theorem fLt_key2 (a b : U) (S : SH) : fLtD (.p (key2 a)) (.p (key2 b)) S = some (.p (.bl (ltU a b)), S) := by
  rw [key2_L, key2_L]
  unfold fLtD fCmpD
  dsimp only
  rw [flat_key2, flat_key2]
  dsimp only
  rw [lt_key2]
theorem ne_u {k : Nat} {a b : U} (ha : KK k a) (hb : KK k b) (S : SH) : fEq true (.p (uP a)) (.p (uP b)) S = some (.p (.bl (decide (a ≠ b))), S) := by
  rw [fEq_d true (okd_u 40 a) (okd_u 40 b), if_pos rfl]
  have e : peq (uP a) (uP b) = decide (a = b) := by
    unfold KK at ha hb
    cases k with
    | zero =>
      obtain ⟨x, rfl⟩ := ha
      obtain ⟨y, rfl⟩ := hb
      simp only [uP, peq, U.i.injEq]
      exact Bool.eq_iff_iff.mpr (by simp)
    | succ k =>
      obtain ⟨x, rfl⟩ := ha
      obtain ⟨y, rfl⟩ := hb
      simp only [uP, peq, U.s.injEq]
      exact Bool.eq_iff_iff.mpr (by simp)
  rw [e]
  by_cases q : a = b <;> simp [q]
theorem least_eq {k : Nat} {vs : List U} (h : ∀ v ∈ vs, KK k v) (down : Bool) (S : SH) : m_least [.p (.lst (vs.map uP)), .p (.bl down)] S = some (.p (uP (mostU down vs)), S) := by
  have sv : ∀ T, srcOf (.p (.lst (vs.map uP))) T = some (srcP (vs.map uP), T) := fun T => rfl
  refine Ev.eq (t := ⟨⟩) (fn_ev rfl rfl ?_)
  simp -dsimp (disch := decide +kernel) only [evT, evD, Int.reduceLT, Int.reduceLE, Int.reduceEq, Int.reduceAdd, Int.reduceSub, Int.reduceMul, Int.reduceNeg, wipeD, List.set_cons_zero, List.set_cons_succ, Bool.false_eq_true, if_true, if_false, decide_true, decide_false, Bool.not_true, Bool.not_false, and_self, and_true, true_and, eq_self, sv]
  refine Ev_pn (fun i σ T => (mostU down (vs.take i) = .n ∨ KK k (mostU down (vs.take i))) ∧ σ = [none, some (.p (.bl down)), some (.p (uP (mostU down (vs.take i)))), none] ∧ T = ⟨S.os.length, S.os⟩) ⟨.inl rfl, rfl, rfl⟩ ?_ ?_
  · rintro i v σ T hi ⟨hf, rfl, rfl⟩
    have kv := h v (List.mem_of_getElem? hi)
    have tk : mostU down (vs.take (i + 1)) = stepU down (mostU down (vs.take i)) v := by
      rw [List.take_add_one, hi]
      unfold mostU
      show ((vs.take i) ++ [v]).foldl _ _ = _
      rw [List.foldl_append]
      rfl
    generalize mostU down (vs.take i) = f at hf tk
    by_cases hn : f = .n
    · subst hn
      have e : stepU down .n v = v := if_pos (.inl rfl)
      rw [e] at tk
      simp -dsimp (disch := decide +kernel) only [evT, evD, Int.reduceLT, Int.reduceLE, Int.reduceEq, Int.reduceAdd, Int.reduceSub, Int.reduceMul, Int.reduceNeg, wipeD, List.set_cons_zero, List.set_cons_succ, Bool.false_eq_true, if_true, if_false, decide_true, decide_false, Bool.not_true, Bool.not_false, and_self, and_true, true_and, eq_self, is_u]
      exact Hold.i ⟨by rw [tk]; exact .inr kv, by rw [tk]; rfl, rfl⟩
    · have kf : KK k f := hf.resolve_left hn
      have ne := fun T => ne_u kv kf T
      have k1 := fun T => key_eq v T
      have k2 := fun T => key_eq f T
      have lt := fun T => fLt_key2 v f T
      by_cases q1 : v = f
      · have e : stepU down f v = f := if_neg (fun z => z.elim hn fun z => z.1 q1)
        rw [e] at tk
        have ne' : ∀ T, fEq true (.p (uP v)) (.p (uP f)) T = some (.p (.bl false), T) := fun T => by rw [ne T]; simp [q1]
        clear ne
        simp -dsimp (disch := decide +kernel) only [evT, evD, Int.reduceLT, Int.reduceLE, Int.reduceEq, Int.reduceAdd, Int.reduceSub, Int.reduceMul, Int.reduceNeg, wipeD, List.set_cons_zero, List.set_cons_succ, Bool.false_eq_true, if_true, if_false, decide_true, decide_false, Bool.not_true, Bool.not_false, and_self, and_true, true_and, eq_self, is_u, hn, ne']
        exact Hold.i ⟨by rw [tk]; exact .inr kf, by rw [tk]; rfl, rfl⟩
      · have ne' : ∀ T, fEq true (.p (uP v)) (.p (uP f)) T = some (.p (.bl true), T) := fun T => by rw [ne T]; simp [q1]
        clear ne
        have fb : ∀ T, fEq true (.p (.bl (ltU v f))) (.p (.bl down)) T = some (.p (.bl (!(ltU v f == down))), T) := fun T => by rw [fEq_bb]; rfl
        by_cases q2 : ltU v f = down
        · have e : stepU down f v = f := if_neg (fun z => z.elim hn fun z => z.2 q2)
          have b : (!(ltU v f == down)) = false := by rw [q2]; simp
          rw [e] at tk
          rw [b] at fb
          simp -dsimp (disch := decide +kernel) only [evT, evD, Int.reduceLT, Int.reduceLE, Int.reduceEq, Int.reduceAdd, Int.reduceSub, Int.reduceMul, Int.reduceNeg, wipeD, List.set_cons_zero, List.set_cons_succ, Bool.false_eq_true, if_true, if_false, decide_true, decide_false, Bool.not_true, Bool.not_false, and_self, and_true, true_and, eq_self, is_u, hn, ne', k1, k2, lt, fb]
          exact Hold.i ⟨by rw [tk]; exact .inr kf, by rw [tk]; rfl, rfl⟩
        · have e : stepU down f v = v := if_pos (.inr ⟨q1, q2⟩)
          have b : (!(ltU v f == down)) = true := by cases h1 : ltU v f <;> cases down <;> simp_all
          rw [e] at tk
          rw [b] at fb
          simp -dsimp (disch := decide +kernel) only [evT, evD, Int.reduceLT, Int.reduceLE, Int.reduceEq, Int.reduceAdd, Int.reduceSub, Int.reduceMul, Int.reduceNeg, wipeD, List.set_cons_zero, List.set_cons_succ, Bool.false_eq_true, if_true, if_false, decide_true, decide_false, Bool.not_true, Bool.not_false, and_self, and_true, true_and, eq_self, is_u, hn, ne', k1, k2, lt, fb]
          exact Hold.i ⟨by rw [tk]; exact .inr kv, by rw [tk]; rfl, rfl⟩
  · rintro σ T ⟨hf, rfl, rfl⟩
    rw [List.take_length]
    simp -dsimp (disch := decide +kernel) only [evT, evD, Int.reduceLT, Int.reduceLE, Int.reduceEq, Int.reduceAdd, Int.reduceSub, Int.reduceMul, Int.reduceNeg, wipeD, List.set_cons_zero, List.set_cons_succ, Bool.false_eq_true, if_true, if_false, decide_true, decide_false, Bool.not_true, Bool.not_false, and_self, and_true, true_and, eq_self, ]
theorem total_eq {vs : List U} (h : ∀ v ∈ vs, KK 0 v) (S : SH) : m_total [.p (.lst (vs.map uP))] S = some (.p (uP (totU vs)), S) := by
  have q : ∀ T, fEq false (.p (.lst (vs.map uP))) (.p (.lst [])) T = some (.p (.bl vs.isEmpty), T) := fun T => by
    rw [fEq_d false (show okd 40 (.lst (vs.map uP)) = true by
      show (vs.map uP).all (okd 39) = true
      rw [List.all_map, List.all_eq_true]
      exact fun u _ => okd_u 39 u) rfl]
    have e : peq (.lst (vs.map uP)) (.lst []) = vs.isEmpty := by cases vs <;> simp [peq, peqA]
    rw [e]
    rfl
  have su : ∀ T, fSum [.p (.lst (vs.map uP))] T = some (.p (.int (vs.map intU).sum), T) := fun T => by
    unfold fSum
    dsimp only
    rw [asQ_l]
    dsimp only
    rw [intsOf_u h]
  have ab : ∀ (x : Int) T, fAbs [.p (.int x)] T = some (.p (.int (x.natAbs : Int)), T) := fun x T => by
    have e : (if x < 0 then -x else x) = (x.natAbs : Int) := by split <;> omega
    rw [← e]
    rfl
  by_cases hv : vs = []
  · subst hv
    refine fn_eq rfl rfl ?_
    simp -dsimp (disch := decide +kernel) only [evT, evD, Int.reduceLT, Int.reduceLE, Int.reduceEq, Int.reduceAdd, Int.reduceSub, Int.reduceMul, Int.reduceNeg, wipeD, List.set_cons_zero, List.set_cons_succ, Bool.false_eq_true, if_true, if_false, decide_true, decide_false, Bool.not_true, Bool.not_false, and_self, and_true, true_and, eq_self, q, newL0, List.isEmpty_nil]
    rfl
  · have ie : vs.isEmpty = false := by cases vs with
      | nil => exact absurd rfl hv
      | cons _ _ => rfl
    unfold totU
    by_cases hb : 10 ^ 40 ≤ ((vs.map intU).sum).natAbs
    · have h2 : (10 : Int) ^ 40 ≤ (((vs.map intU).sum).natAbs : Int) := by omega
      rw [if_pos (.inr hb)]
      refine fn_eq rfl rfl ?_
      simp -dsimp (disch := decide +kernel) only [evT, evD, Int.reduceLT, Int.reduceLE, Int.reduceEq, Int.reduceAdd, Int.reduceSub, Int.reduceMul, Int.reduceNeg, wipeD, List.set_cons_zero, List.set_cons_succ, Bool.false_eq_true, if_true, if_false, decide_true, decide_false, Bool.not_true, Bool.not_false, and_self, and_true, true_and, eq_self, q, newL0, ie, su, ab, pow40, h2]
      rfl
    · have h2 : ¬ (10 : Int) ^ 40 ≤ (((vs.map intU).sum).natAbs : Int) := by omega
      rw [if_neg (fun z => z.elim hv hb)]
      refine fn_eq rfl rfl ?_
      simp -dsimp (disch := decide +kernel) only [evT, evD, Int.reduceLT, Int.reduceLE, Int.reduceEq, Int.reduceAdd, Int.reduceSub, Int.reduceMul, Int.reduceNeg, wipeD, List.set_cons_zero, List.set_cons_succ, Bool.false_eq_true, if_true, if_false, decide_true, decide_false, Bool.not_true, Bool.not_false, and_self, and_true, true_and, eq_self, q, newL0, ie, su, ab, pow40, h2]
      rfl
end Kb
namespace Kb
open PySem PySem.Spec PyProof.Rows L2 Pv
/-! a row of the answer -/
def at_ (p : Nat) (r : Row) : U := r.getD p .n
def kOf (p : Nat) : Nat := if p = 5 then 0 else 1
structure RK (r : Row) : Prop where
  len : r.length = 7
  k5 : at_ 5 r = .n ∨ KK 0 (at_ 5 r)
  k6 : at_ 6 r = .n ∨ KK 1 (at_ 6 r)
theorem vals_kk {g : List Row} (h : ∀ r ∈ g, RK r) {p : Nat} (hp : p = 5 ∨ p = 6) : ∀ v ∈ valsG (at_ p) g, KK (kOf p) v := by
  intro v hv
  have nv := valsG_n _ _ v hv
  obtain ⟨r, hr, e⟩ := List.mem_map.mp (List.mem_filter.mp hv).1
  rcases hp with rfl | rfl
  · rcases (h r hr).k5 with z | z
    · exact absurd (e.symm.trans z) nv
    · rw [e] at z; exact z
  · rcases (h r hr).k6 with z | z
    · exact absurd (e.symm.trans z) nv
    · rw [e] at z; exact z
def partU (g : List Row) (p : Nat) : List U := [.i ((valsG (at_ p) g).length : Int)] ++ (if p = 5 then [totU (valsG (at_ p) g)] else []) ++ [mostU false (valsG (at_ p) g), mostU true (valsG (at_ p) g)]
def headU (is : List Nat) (g : List Row) : List U := is.map (fun i => at_ i (g.headD [])) ++ [.i (g.length : Int)]
def madeR (is : List Nat) (g : List Row) : Row := headU is g ++ [5, 6].flatMap (partU g)
theorem at_some {i : Nat} {r : Row} (h : i < r.length) : r[i]? = some (at_ i r) := by unfold at_; simp [h]
theorem app_u (b : Nat) (os : List Ob) (row : Row) (u : U) (h : row.length ≤ 1000) : fApp [.ref os.length, .p (uP u)] ⟨b, os ++ [.lst ((row.map uP).map D.p)]⟩ = some (.p .non, ⟨b, os ++ [.lst (((row ++ [u]).map uP).map D.p)]⟩) := by
  have z := fApp_p (S := ⟨b, os ++ [.lst ((row.map uP).map D.p)]⟩) (x := uP u) (at_last b os _) (by rw [List.length_map, List.length_map]; have := line_ge; omega)
  rw [put_last] at z
  rw [List.map_append, List.map_append]
  exact z
theorem ty_u (b : Nat) (os : List Ob) (row : Row) : isTy "list" (.ref os.length) ⟨b, os ++ [.lst ((row.map uP).map D.p)]⟩ = true := isTy_ref (at_last b os _)
theorem vals_map (p : Nat) (g : List Row) : (g.filter fun r => decide (at_ p r ≠ .n)).map (at_ p) = valsG (at_ p) g := by
  unfold valsG
  rw [List.filter_map]
  rfl
theorem made_eq {is : List Nat} {g : List Row} (hg : ∀ r ∈ g, RK r) (hi : is.length ≤ 10) (hi2 : ∀ i ∈ is, i < 7) (hn : is = [] ∨ g ≠ []) (hl : g.length ≤ 1000) (S : SH) : m_made [.p (rowsP g), .p (natsP is)] S = some (.p (rowP (madeR is g)), S) := by
  have sn : ∀ T, srcOf (.p (natsP is)) T = some (srcP (is.map fun i : Nat => P.int (i : Int)), T) := fun T => rfl
  have sg : ∀ T, srcOf (.p (rowsP g)) T = some (srcP (g.map rowP), T) := fun T => rfl
  have ln : ∀ T, fLen [.p (rowsP g)] T = some (.p (uP (.i (g.length : Int))), T) := fun T => by
    show fLen [.p (.lst (g.map rowP))] T = _
    rw [fLen_l, List.length_map]
    rfl
  have n56 : ∀ T, newL false [.p (.int 5), .p (.int 6)] T = some (.p (natsP [5, 6]), T) := fun T => newL2 ..
  have s56 : ∀ T, srcOf (.p (natsP [5, 6])) T = some (srcP (([5, 6] : List Nat).map fun i : Nat => P.int (i : Int)), T) := fun T => rfl
  have lh : (headU is g).length ≤ 11 := by unfold headU; rw [List.length_append, List.length_map]; show is.length + 1 ≤ 11; omega
  refine Ev.eq (t := ⟨⟩) (fn_ev rfl rfl ?_)
  simp -dsimp (disch := decide +kernel) only [evT, evD, Int.reduceLT, Int.reduceLE, Int.reduceEq, Int.reduceAdd, Int.reduceSub, Int.reduceMul, Int.reduceNeg, wipeD, List.set_cons_zero, List.set_cons_succ, Bool.false_eq_true, if_true, if_false, decide_true, decide_false, Bool.not_true, Bool.not_false, and_self, and_true, true_and, eq_self, sn]
  refine Ev_cpn (xs := is) (f := fun i : Nat => P.int (i : Int)) (fun i => .p (uP (at_ i (g.headD [])))) (lin (by omega)) (fun i hm => ?_) ?_
  · have ne : g ≠ [] := hn.resolve_left (fun z => by rw [z] at hm; cases hm)
    have x0 : ∀ T, fIx (.p (rowsP g)) (.p (.int 0)) T = some (.p (rowP (g.headD [])), T) := fun T => by
      cases g with
      | nil => exact absurd rfl ne
      | cons x xs => exact fIx_l (n := 0) rfl
    have lr : i < (g.headD []).length := by
      cases g with
      | nil => exact absurd rfl ne
      | cons x xs =>
        show i < x.length
        rw [(hg x List.mem_cons_self).len]
        exact hi2 i hm
    have xi : ∀ T, fIx (.p (rowP (g.headD []))) (.p (.int (i : Int))) T = some (.p (uP (at_ i (g.headD []))), T) := fun T => fIx_t (by rw [List.getElem?_map, at_some lr]; rfl)
    simp -dsimp (disch := decide +kernel) only [evT, evD, Int.reduceLT, Int.reduceLE, Int.reduceEq, Int.reduceAdd, Int.reduceSub, Int.reduceMul, Int.reduceNeg, wipeD, List.set_cons_zero, List.set_cons_succ, Bool.false_eq_true, if_true, if_false, decide_true, decide_false, Bool.not_true, Bool.not_false, and_self, and_true, true_and, eq_self, x0, xi]
  · have em : (is.map fun i => D.p (uP (at_ i (g.headD [])))) = ((is.map fun i => at_ i (g.headD [])).map uP).map D.p := by rw [List.map_map, List.map_map]; rfl
    rw [em]
    have nl : ∀ b, newL true (((is.map fun i => at_ i (g.headD [])).map uP).map D.p) ⟨b, S.os⟩ = some (.ref S.os.length, ⟨b, S.os ++ [.lst (((is.map fun i => at_ i (g.headD [])).map uP).map D.p)]⟩) := fun b => newL_t _ (lin (by rw [List.length_map, List.length_map, List.length_map]; omega))
    have a1 := fun b => app_u b S.os (is.map fun i => at_ i (g.headD [])) (.i (g.length : Int)) (by rw [List.length_map]; omega)
    have t1 := fun b => ty_u b S.os (is.map fun i => at_ i (g.headD []))
    have eh : (is.map fun i => at_ i (g.headD [])) ++ [U.i (g.length : Int)] = headU is g := rfl
    rw [eh] at a1
    simp -dsimp (disch := decide +kernel) only [evT, evD, Int.reduceLT, Int.reduceLE, Int.reduceEq, Int.reduceAdd, Int.reduceSub, Int.reduceMul, Int.reduceNeg, wipeD, List.set_cons_zero, List.set_cons_succ, Bool.false_eq_true, if_true, if_false, decide_true, decide_false, Bool.not_true, Bool.not_false, and_self, and_true, true_and, eq_self, nl, t1, ln, a1, n56, s56]
    refine Ev_pn (xs := [5, 6]) (f := fun i : Nat => P.int (i : Int)) (fun i σ T => σ = [some (.p (rowsP g)), none, none, some (.ref S.os.length), none, none] ∧ T = ⟨S.os.length, S.os ++ [.lst (((headU is g ++ ([5, 6].take i).flatMap (partU g)).map uP).map D.p)]⟩) ⟨rfl, by simp⟩ ?_ ?_
    · rintro i p σ T hp ⟨rfl, rfl⟩
      have hp56 : p = 5 ∨ p = 6 := by
        have := List.mem_of_getElem? hp
        simpa using this
      have tk : ([5, 6] : List Nat).take (i + 1) = ([5, 6] : List Nat).take i ++ [p] := by rw [List.take_add_one, hp]; rfl
      have hi3 : i < 2 := (List.getElem?_eq_some_iff.mp hp).1
      have lp : ∀ q, (partU g q).length ≤ 4 := fun q => by unfold partU; split <;> simp
      have lb : (headU is g ++ ([5, 6].take i).flatMap (partU g)).length ≤ 30 := by
        rw [List.length_append]
        have : i = 0 ∨ i = 1 := by omega
        rcases this with rfl | rfl
        · simp; omega
        · have := lp 5
          simp only [List.take_succ_cons, List.take_zero, List.flatMap_cons, List.flatMap_nil, List.append_nil]
          omega
      generalize hb : headU is g ++ ([5, 6].take i).flatMap (partU g) = bs at lb
      have fin : bs ++ partU g p = headU is g ++ ([5, 6].take (i + 1)).flatMap (partU g) := by
        rw [tk, List.flatMap_append, List.flatMap_singleton, ← List.append_assoc, hb]
      have kv := vals_kk hg hp56
      simp -dsimp (disch := decide +kernel) only [evT, evD, Int.reduceLT, Int.reduceLE, Int.reduceEq, Int.reduceAdd, Int.reduceSub, Int.reduceMul, Int.reduceNeg, wipeD, List.set_cons_zero, List.set_cons_succ, Bool.false_eq_true, if_true, if_false, decide_true, decide_false, Bool.not_true, Bool.not_false, and_self, and_true, true_and, eq_self, sg]
      refine Ev_cpf (xs := g) (f := rowP) (fun r => decide (at_ p r ≠ .n)) (fun r => .p (uP (at_ p r))) (lin (by omega)) (fun r hr => ?_) ?_
      · have lr : p < r.length := by rw [(hg r hr).len]; rcases hp56 with rfl | rfl <;> decide
        have xi : ∀ T, fIx (.p (rowP r)) (.p (.int (p : Int))) T = some (.p (uP (at_ p r)), T) := fun T => fIx_t (by rw [List.getElem?_map, at_some lr]; rfl)
        refine ⟨?_, fun _ => ?_⟩
        · by_cases q : at_ p r = .n
          · simp -dsimp (disch := decide +kernel) only [evT, evD, Int.reduceLT, Int.reduceLE, Int.reduceEq, Int.reduceAdd, Int.reduceSub, Int.reduceMul, Int.reduceNeg, wipeD, List.set_cons_zero, List.set_cons_succ, Bool.false_eq_true, if_true, if_false, decide_true, decide_false, Bool.not_true, Bool.not_false, and_self, and_true, true_and, eq_self, xi, is_u, q]
            simp [q]
          · simp -dsimp (disch := decide +kernel) only [evT, evD, Int.reduceLT, Int.reduceLE, Int.reduceEq, Int.reduceAdd, Int.reduceSub, Int.reduceMul, Int.reduceNeg, wipeD, List.set_cons_zero, List.set_cons_succ, Bool.false_eq_true, if_true, if_false, decide_true, decide_false, Bool.not_true, Bool.not_false, and_self, and_true, true_and, eq_self, xi, is_u, q]
            simp [q]
        · simp -dsimp (disch := decide +kernel) only [evT, evD, Int.reduceLT, Int.reduceLE, Int.reduceEq, Int.reduceAdd, Int.reduceSub, Int.reduceMul, Int.reduceNeg, wipeD, List.set_cons_zero, List.set_cons_succ, Bool.false_eq_true, if_true, if_false, decide_true, decide_false, Bool.not_true, Bool.not_false, and_self, and_true, true_and, eq_self, xi]
      · have vm : ((g.filter fun r => decide (at_ p r ≠ .n)).map fun r => D.p (uP (at_ p r))) = ((valsG (at_ p) g).map uP).map D.p := by
          rw [← vals_map, List.map_map, List.map_map]
          rfl
        rw [vm]
        have lv := valsG_len (at_ p) g
        have le0 := fun T => least_eq kv false T
        have le1 := fun T => least_eq kv true T
        have lnv : ∀ T, fLen [.p (.lst ((valsG (at_ p) g).map uP))] T = some (.p (uP (.i ((valsG (at_ p) g).length : Int))), T) := fun T => by
          rw [fLen_l, List.length_map]
          rfl
        have nv : ∀ T, newL false (((valsG (at_ p) g).map uP).map D.p) T = some (.p (.lst ((valsG (at_ p) g).map uP)), T) := fun T => newL_f _ (lin (by rw [List.length_map]; omega))
        have tys := ty_u S.os.length S.os
        have aps := fun row u (h : row.length ≤ 1000) => app_u S.os.length S.os row u h
        rcases hp56 with rfl | rfl
        · have tt := fun T => total_eq (vs := valsG (at_ 5) g) kv T
          have a1 := aps bs (.i ((valsG (at_ 5) g).length : Int)) (by omega)
          have a2 := aps (bs ++ [.i ((valsG (at_ 5) g).length : Int)]) (totU (valsG (at_ 5) g)) (by simp; omega)
          have a3 := aps (bs ++ [.i ((valsG (at_ 5) g).length : Int)] ++ [totU (valsG (at_ 5) g)]) (mostU false (valsG (at_ 5) g)) (by simp; omega)
          have a4 := aps (bs ++ [.i ((valsG (at_ 5) g).length : Int)] ++ [totU (valsG (at_ 5) g)] ++ [mostU false (valsG (at_ 5) g)]) (mostU true (valsG (at_ 5) g)) (by simp; omega)
          have ef : bs ++ [.i ((valsG (at_ 5) g).length : Int)] ++ [totU (valsG (at_ 5) g)] ++ [mostU false (valsG (at_ 5) g)] ++ [mostU true (valsG (at_ 5) g)] = headU is g ++ ([5, 6].take (i + 1)).flatMap (partU g) := by
            rw [← fin]
            simp [partU]
          rw [ef] at a4
          have c5 : ((5 : Nat) : Int) = 5 := rfl
          simp -dsimp (disch := decide +kernel) only [evT, evD, Int.reduceLT, Int.reduceLE, Int.reduceEq, Int.reduceAdd, Int.reduceSub, Int.reduceMul, Int.reduceNeg, wipeD, List.set_cons_zero, List.set_cons_succ, Bool.false_eq_true, if_true, if_false, decide_true, decide_false, Bool.not_true, Bool.not_false, and_self, and_true, true_and, eq_self, nv, lnv, tys, a1, fEq_ii, c5, tt, a2, le0, a3, le1, a4]
          exact Hold.i ⟨rfl, rfl⟩
        · have a1 := aps bs (.i ((valsG (at_ 6) g).length : Int)) (by omega)
          have a3 := aps (bs ++ [.i ((valsG (at_ 6) g).length : Int)]) (mostU false (valsG (at_ 6) g)) (by simp; omega)
          have a4 := aps (bs ++ [.i ((valsG (at_ 6) g).length : Int)] ++ [mostU false (valsG (at_ 6) g)]) (mostU true (valsG (at_ 6) g)) (by simp; omega)
          have ef : bs ++ [.i ((valsG (at_ 6) g).length : Int)] ++ [mostU false (valsG (at_ 6) g)] ++ [mostU true (valsG (at_ 6) g)] = headU is g ++ ([5, 6].take (i + 1)).flatMap (partU g) := by
            rw [← fin]
            simp [partU]
          rw [ef] at a4
          have c6 : ((6 : Nat) : Int) = 6 := rfl
          simp -dsimp (disch := decide +kernel) only [evT, evD, Int.reduceLT, Int.reduceLE, Int.reduceEq, Int.reduceAdd, Int.reduceSub, Int.reduceMul, Int.reduceNeg, wipeD, List.set_cons_zero, List.set_cons_succ, Bool.false_eq_true, if_true, if_false, decide_true, decide_false, Bool.not_true, Bool.not_false, and_self, and_true, true_and, eq_self, nv, lnv, tys, a1, fEq_ii, c6, le0, a3, le1, a4]
          exact Hold.i ⟨rfl, rfl⟩
    · rintro σ T ⟨rfl, rfl⟩
      have em2 : headU is g ++ (([5, 6] : List Nat).take 2).flatMap (partU g) = madeR is g := rfl
      have lm : (madeR is g).length ≤ 1000 := by
        unfold madeR partU
        simp
        omega
      show Ev _ _ _
      have tu : fTuple [.ref S.os.length] ⟨S.os.length, S.os ++ [.lst (((madeR is g).map uP).map D.p)]⟩ = some (.p (rowP (madeR is g)), ⟨S.os.length, S.os ++ [.lst (((madeR is g).map uP).map D.p)]⟩) := fTuple_r (at_last _ S.os _) (lin (by rw [List.length_map]; omega))
      have e2 : ([5, 6] : List Nat).length = 2 := rfl
      rw [e2, em2]
      simp -dsimp (disch := decide +kernel) only [evT, evD, Int.reduceLT, Int.reduceLE, Int.reduceEq, Int.reduceAdd, Int.reduceSub, Int.reduceMul, Int.reduceNeg, wipeD, List.set_cons_zero, List.set_cons_succ, Bool.false_eq_true, if_true, if_false, decide_true, decide_false, Bool.not_true, Bool.not_false, and_self, and_true, true_and, eq_self, tu]
end Kb
namespace Kb
open PySem PySem.Spec PyProof.Rows L2 Pv
/-! the question -/
def os0 : List Ob := [.lst []]
theorem hm0 : 0 < os0.length := by decide
def plc : Nat → List Nat
  | 0 => []
  | 1 => [1]
  | 2 => [2]
  | 3 => [1, 2]
  | 4 => [2, 1]
  | 5 => [1, 1]
  | 6 => [3, 1, 2]
  | 7 => [1, 2, 4]
  | 8 => [4, 2, 3, 1]
  | _ => [1, 2, 3, 4]
def nam7 : List Str := ["id", "g", "h", "k", "l", "v", "w"]
def nam7P : P := .lst (nam7.map .str)
def nmA (p : Nat) : Str := nam7.getD p ""
def s1t : Str := "s1_t"
def cs7 : Cols := nam7.map fun c => ("s1_t", c)
def srcA (p : Nat) : Option Str := if p % 2 = 0 then none else some s1t
def itemsL (is : List Nat) : List IT := is.map (fun p => IT.col (srcA p, nmA p)) ++ [.cnt, .agg 0 "v", .agg 1 "v", .agg 2 "v", .agg 3 "v", .agg 0 "w", .agg 2 "w", .agg 3 "w"]
theorem items_eq {v : Nat} (h : v < 10) (s : St) : m_items [.p (natsP (plc v)), .p nam7P] ⟨0, W os0 0 s []⟩ = some (.p (itsP (itemsL (plc v))), ⟨0, W os0 0 s []⟩) := by
  match v, h with
  | 0, _ => kernel_rfl
  | 1, _ => kernel_rfl
  | 2, _ => kernel_rfl
  | 3, _ => kernel_rfl
  | 4, _ => kernel_rfl
  | 5, _ => kernel_rfl
  | 6, _ => kernel_rfl
  | 7, _ => kernel_rfl
  | 8, _ => kernel_rfl
  | 9, _ => kernel_rfl
theorem plc_ok : ∀ v, v < 10 → (plc v).length ≤ 4 ∧ (∀ p ∈ plc v, p < 5) ∧ ((plc v = []) ↔ v = 0) := by decide
def nIdx (c : Str) : Nat := ((idx cs7 none c).headD 0).toNat
theorem nIdx_A : ∀ p, p < 7 → nIdx (nmA p) = p := by decide +kernel
theorem nIdx_v : nIdx "v" = 5 ∧ nIdx "w" = 6 := by decide +kernel
theorem idx_A : ∀ p, p < 7 → idx cs7 none (nmA p) = [(p : Int)] ∧ idx cs7 (some s1t) (nmA p) = [(p : Int)] := by decide +kernel
def gI (a : Row × List Row) : IT → U
  | .col c => at_ (nIdx c.2) a.1
  | .cnt => .i (a.2.length : Int)
  | .agg f c => aggR f (valsG (at_ (nIdx c)) a.2)
theorem gI_made {is : List Nat} (hi : ∀ p ∈ is, p < 5) {a : Row × List Row} (ha : a.1 = a.2.headD []) : (itemsL is).map (gI a) = madeR is a.2 := by
  obtain ⟨n5, n6⟩ := nIdx_v
  unfold itemsL madeR headU
  rw [List.map_append, List.append_assoc]
  refine congr (congrArg _ ?_) ?_
  · rw [List.map_map]
    refine List.map_congr_left fun p hp => ?_
    show at_ (nIdx (nmA p)) a.1 = _
    rw [nIdx_A p (by have := hi p hp; omega), ha]
  · show [gI a .cnt, gI a (.agg 0 "v"), gI a (.agg 1 "v"), gI a (.agg 2 "v"), gI a (.agg 3 "v"), gI a (.agg 0 "w"), gI a (.agg 2 "w"), gI a (.agg 3 "w")] = _
    simp only [gI, n5, n6, aggR, partU]
    rfl
theorem loc7 {p : Nat} (hp : p < 7) (src : Option Str) (hs : src = none ∨ src = some s1t) (r : Row) (ms : Option (List Row)) : locF (.cons cs7 r ms .nil) src (nmA p) = some (.cons cs7 r ms .nil, p) := by
  obtain ⟨h1, h2⟩ := idx_A p hp
  unfold locF
  rcases hs with rfl | rfl
  · rw [h1]; rfl
  · rw [h2]; rfl
theorem ok7 (r : Row) (ms : Option (List Row)) : (Fr.cons cs7 r ms .nil).ok ∧ (Fr.cons cs7 r ms .nil).dep ≤ 100 := ⟨⟨by decide, trivial⟩, by show 0 + 1 ≤ 100; decide⟩
theorem val_col {k p : Nat} (hp : p < 7) {src : Option Str} (hs : src = none ∨ src = some s1t) {r : Row} (hr : r.length = 7) (ms : Option (List Row)) (w : P) : Val (k + 1) (frP (.cons cs7 r ms .nil)) w (colS (src, nmA p)) (at_ p r) :=
  vo_col (loc7 hp src hs r ms) (ok7 r ms).1 (ok7 r ms).2 (at_some (by rw [hr]; exact hp))
theorem val_agg {k p f : Nat} (hp : p = 5 ∨ p = 6) (hf : f < 4) (hf1 : f = 1 → p = 5) {first : Row} {ms : List Row} (hr : ∀ r ∈ ms, RK r) (hl : ms.length ≤ 1000) (w : P) : Val (k + 3) (frP (.cons cs7 first (some ms) .nil)) w (aggE f (colE (nmA p))) (aggR f (valsG (at_ p) ms)) :=
  vo_agg (tag := "aggregate") rfl (.inr rfl) fun S => agg_fn (k := kOf p) hf (fun q hq => val_col (by omega) (.inl rfl) (hr q hq).len none w) (vals_kk hr hp) (fun h => by rw [hf1 h]; rfl) (by omega) S
theorem val_it {is : List Nat} (hi : ∀ p ∈ is, p < 5) {a : Row × List Row} (ha : is = [] ∨ a.1 ∈ a.2) (hr : ∀ r ∈ a.2, RK r) (hl : a.2.length ≤ 1000) (k : Nat) (w : P) : ∀ i ∈ itemsL is, Val (k + 3) (frP (.cons cs7 a.1 (some a.2) .nil)) w i.e (gI a i) := by
  obtain ⟨n5, n6⟩ := nIdx_v
  intro i hm
  rcases List.mem_append.mp hm with hm | hm
  · obtain ⟨p, hp, rfl⟩ := List.mem_map.mp hm
    have p5 := hi p hp
    have ma := ha.resolve_left (fun z => by rw [z] at hp; cases hp)
    show Val (k + 3) _ w (colS (srcA p, nmA p)) (at_ (nIdx (nmA p)) a.1)
    rw [nIdx_A p (by omega)]
    exact val_col (by omega) (by unfold srcA; split; exact .inl rfl; exact .inr rfl) (hr a.1 ma).len (some a.2) w
  · have v5 : nmA 5 = "v" := rfl
    have v6 : nmA 6 = "w" := rfl
    have ag5 : ∀ f, f < 4 → Val (k + 3) (frP (.cons cs7 a.1 (some a.2) .nil)) w (aggE f (colE "v")) (aggR f (valsG (at_ (nIdx "v")) a.2)) := fun f hf => by
      rw [n5]
      exact val_agg (p := 5) (.inl rfl) hf (fun _ => rfl) hr hl w
    have ag6 : ∀ f, f < 4 → f ≠ 1 → Val (k + 3) (frP (.cons cs7 a.1 (some a.2) .nil)) w (aggE f (colE "w")) (aggR f (valsG (at_ (nIdx "w")) a.2)) := fun f hf h1 => by
      rw [n6]
      exact val_agg (p := 6) (.inr rfl) hf (fun h => absurd h h1) hr hl w
    simp only [List.mem_cons, List.not_mem_nil, or_false] at hm
    rcases hm with rfl | rfl | rfl | rfl | rfl | rfl | rfl | rfl
    · exact vo_agg (tag := "count_all") (rest := []) rfl (.inl rfl) fun S => agg_cnt S
    · exact ag5 0 (by decide)
    · exact ag5 1 (by decide)
    · exact ag5 2 (by decide)
    · exact ag5 3 (by decide)
    · exact ag6 0 (by decide) (by decide)
    · exact ag6 2 (by decide) (by decide)
    · exact ag6 3 (by decide) (by decide)
/-! having -/
def havP : Option Nat → P
  | none => .non
  | some k => .tup [.str "binary", .str ">=", cntE, .tup [.str "literal", .int (k : Int)]]
def havT (hv : Option Nat) (a : Row × List Row) : Bool := match hv with
  | none => true
  | some k => decide (k ≤ a.2.length)
theorem kept_hav {gps : List (Row × List Row)} (hv : Option Nat) (hl : gps.length ≤ 100000) (k : Nat) (w : P) (S : SH) : m_kept_frames (k + 4) [.p (havP hv), .p (.lst (gps.map fun a => frP (.cons cs7 a.1 (some a.2) .nil))), .p w] S = some (.p (.lst ((gps.filter (havT hv)).map fun a => frP (.cons cs7 a.1 (some a.2) .nil))), S) := by
  cases hv with
  | none =>
    have e : gps.filter (havT none) = gps := List.filter_eq_self.mpr fun _ _ => rfl
    rw [e]
    exact kept_all S
  | some c =>
    have z := kept_eq (n := k + 3) (w := w) (c := havP (some c)) gps (fun a => frP (.cons cs7 a.1 (some a.2) .nil)) (fun a => cmpU .ge (.i (a.2.length : Int)) (.i (c : Int))) rfl (fun a ha => by
      have v1 : Val (k + 2) (frP (.cons cs7 a.1 (some a.2) .nil)) w cntE (.i (a.2.length : Int)) := vo_agg (tag := "count_all") (rest := []) rfl (.inl rfl) fun S => agg_cnt S
      have v2 : Val (k + 2) (frP (.cons cs7 a.1 (some a.2) .nil)) w (.tup [.str "literal", uP (.i (c : Int))]) (.i (c : Int)) := vo_lit (.i (c : Int))
      exact vo_cmp (o := .ge) v1 v2) (by omega) S
    have e : (fun a : Row × List Row => isT (cmpU .ge (.i (a.2.length : Int)) (.i (c : Int)))) = havT (some c) := by
      funext a
      unfold cmpU havT
      rw [if_neg (by simp)]
      show isT (some (!decide ((a.2.length : Int) < (c : Int)))) = _
      by_cases q : c ≤ a.2.length
      · have q2 : ¬ ((a.2.length : Int) < (c : Int)) := by omega
        simp [isT, q, q2]
      · have q2 : (a.2.length : Int) < (c : Int) := by omega
        simp [isT, q, q2]
    rw [e] at z
    exact z
end Kb
namespace Kb
open PySem PySem.Spec PyProof.Rows L2 Pv
def src1 : P := .tup [.str "table", .str "s1_t", .non]
def ts1 (kin : List Str) (rs : List Row) : List (Key × P) := [(.inr "s1_t", tabP "s1_t" nam7 kin rs)]
theorem kix1 (kin : List Str) (rs : List Row) (T : SH) : kIx (.p (.dK (ts1 kin rs))) (.p (.str "s1_t")) T = some (.p (tabP "s1_t" nam7 kin rs), T) := by
  simp [kIx, asK, Pv.keyK, valK, ts1]
def leK : Option Nat → Nat
  | none => 0
  | some k => k
structure GpOk (is : List Nat) (rs : List Row) (gps : List (Row × List Row)) : Prop where
  hd : ∀ a ∈ gps, a.1 = a.2.headD []
  inn : ∀ a ∈ gps, is = [] ∨ a.1 ∈ a.2
  rk : ∀ a ∈ gps, ∀ r ∈ a.2, RK r
  len : ∀ a ∈ gps, a.2.length ≤ 1000
  num : gps.length ≤ 100000
  law : gps.map (·.2) = lawG is rs
theorem query_gen {is : List Nat} (hi : ∀ p ∈ is, p < 5) (hil : is.length ≤ 4) {kin : List Str} {rs : List Row} (hrl : rs.length ≤ 1000) {g : P} {hv : Option Nat} {gps : List (Row × List Row)} (ok : GpOk is rs gps)
    (hgr : ∀ S, m_is_grouping [.p (selP false (itsP (itemsL is)) src1 .non g (havP hv))] S = some (.p (.bl true), S))
    (hgf : ∀ S, m_grouped_frames [.p (selP false (itsP (itemsL is)) src1 .non g (havP hv)), .p (colsP cs7), .p (rowsP rs), .p (frP .nil)] S = some (.p (.lst (gps.map fun a => frP (.cons cs7 a.1 (some a.2) .nil))), S)) (S : SH) :
    m_query_rows [.p (selP false (itsP (itemsL is)) src1 .non g (havP hv)), .p (.dK (ts1 kin rs)), .p (.lst [])] S = some (.p (rowsP (((lawG is rs).filter fun ms => decide (leK hv ≤ ms.length)).map (madeR is))), S) := by
  refine rows_of (nm := .lst ((itemsL is).map fun i => .str i.nm)) (fun S => ?_) S
  refine result_sel (fun S => ?_) S
  have lit : (itemsL is).length ≤ 1000 := by unfold itemsL; rw [List.length_append, List.length_map]; show is.length + 8 ≤ 1000; omega
  have z := select_grp (n := 37) (src := src1) (hv := havP hv) (g := g) (w := woI (.dK (ts1 kin rs)) (.lst [])) (cs := cs7) (rs := rs) (ofr := .nil) (itemsL is) gps (havT hv) (fun a => madeR is a.2) rfl
    (fun S => source_no (pr := .lst []) (fun T => kix1 kin rs T) (by decide) (by omega) 37 .non S) hgr hgf (fun S => kept_hav hv ok.num 34 _ S)
    (fun a ha S => by
      have ma := (List.mem_filter.mp ha).1
      have m := made_its (n := 37) (f := frP (.cons cs7 a.1 (some a.2) .nil)) (w := woI (.dK (ts1 kin rs)) (.lst [])) (itemsL is) (gI a) lit (val_it hi (ok.inn a ma) (ok.rk a ma) (ok.len a ma) 34 _) S
      rw [gI_made hi (ok.hd a ma)] at m
      exact m) (by omega) lit ok.num S
  have e : (gps.filter (havT hv)).map (fun a => madeR is a.2) = ((lawG is rs).filter fun ms => decide (leK hv ≤ ms.length)).map (madeR is) := by
    rw [← ok.law, List.filter_map, List.map_map]
    have f : gps.filter (havT hv) = gps.filter ((fun ms : List Row => decide (leK hv ≤ ms.length)) ∘ fun x => x.2) := by
      refine List.filter_congr fun a _ => ?_
      cases hv with
      | none => simp [havT, leK]
      | some k => rfl
    rw [f]
    rfl
  rw [e] at z
  exact z
theorem query_none {kin : List Str} {rs : List Row} (hrk : ∀ r ∈ rs, RK r) (hrl : rs.length ≤ 1000) (hv : Option Nat) (S : SH) :
    m_query_rows [.p (selP false (itsP (itemsL [])) src1 .non .non (havP hv)), .p (.dK (ts1 kin rs)), .p (.lst [])] S = some (.p (rowsP (((lawG [] rs).filter fun ms => decide (leK hv ≤ ms.length)).map (madeR []))), S) := by
  refine query_gen (gps := grpsOf none rs) (fun p h => by cases h) (by decide) hrl ⟨?_, ?_, ?_, ?_, ?_, ?_⟩ (fun S => ?_) (fun S => grouped_none S) S
  · intro a ha; rw [List.mem_singleton.mp ha]
  · intro a ha; exact .inl rfl
  · intro a ha; rw [List.mem_singleton.mp ha]; exact hrk
  · intro a ha; rw [List.mem_singleton.mp ha]; exact hrl
  · show 1 ≤ 100000; decide
  · rfl
  · cases hv with
    | none => exact grouping_any (by decide) rfl S
    | some k => exact grouping_6 rfl S
theorem query_some {kin : List Str} {rs : List Row} (hrk : ∀ r ∈ rs, RK r) (hrl : rs.length ≤ 1000) (hv : Option Nat) {gs : List ((Option Str × Str) × Nat)} (hg : ∀ g ∈ gs, g.1.2 = nmA g.2 ∧ g.2 < 5 ∧ (g.1.1 = none ∨ g.1.1 = some s1t)) (hn : gs ≠ []) (hgl : gs.length ≤ 4) (S : SH) :
    m_query_rows [.p (selP false (itsP (itemsL (gs.map (·.2)))) src1 .non (grpP (some (gs.map (·.1)))) (havP hv)), .p (.dK (ts1 kin rs)), .p (.lst [])] S = some (.p (rowsP (((lawG (gs.map (·.2)) rs).filter fun ms => decide (leK hv ≤ ms.length)).map (madeR (gs.map (·.2))))), S) := by
  have ok := grpG_ok (pickR (gs.map (·.2))) rs rs.length
  rw [List.take_length] at ok
  have nn : gs.map (·.2) ≠ [] := fun z => hn (List.map_eq_nil_iff.mp z)
  have hgd : ∀ a ∈ grpsOf (some (gs.map (·.2))) rs, ∃ q ∈ grpG (pickR (gs.map (·.2))) rs, a = (q.2.headD [], q.2) := fun a ha => by
    obtain ⟨q, hq, e⟩ := List.mem_map.mp ha
    exact ⟨q, hq, e.symm⟩
  refine query_gen (gps := grpsOf (some (gs.map (·.2))) rs) (fun p h => ?_) (by rw [List.length_map]; exact hgl) hrl ⟨?_, ?_, ?_, ?_, ?_, ?_⟩ (fun S => grouping_5 rfl S) (fun S => grouped_some (fun g hgm => ?_) (by decide) (by omega) (fun r hr g hgm => ?_) (by omega) S) S
  · obtain ⟨g, hgm, rfl⟩ := List.mem_map.mp h
    exact (hg g hgm).2.1
  · intro a ha
    obtain ⟨q, hq, rfl⟩ := hgd a ha
    rfl
  · intro a ha
    obtain ⟨q, hq, rfl⟩ := hgd a ha
    have ne := ok.ne q hq
    refine .inr ?_
    show q.2.headD [] ∈ q.2
    cases hh : q.2 with
    | nil => exact absurd hh ne
    | cons x xs => exact List.mem_cons_self
  · intro a ha r hr
    obtain ⟨q, hq, rfl⟩ := hgd a ha
    exact hrk r (ok.key q hq r hr).2
  · intro a ha
    obtain ⟨q, hq, rfl⟩ := hgd a ha
    have := ok.len q hq
    show q.2.length ≤ 1000
    omega
  · show ((grpG _ rs).map _).length ≤ _
    rw [List.length_map]
    have := ok.num
    omega
  · unfold lawG grpsOf
    rw [if_neg nn]
    dsimp only
    rw [List.map_map]
    rfl
  · obtain ⟨h1, h2, h3⟩ := hg g hgm
    obtain ⟨i1, i2⟩ := idx_A g.2 (by omega)
    rw [h1]
    rcases h3 with h3 | h3 <;> rw [h3]
    · exact i1
    · exact i2
  · rw [(hrk r hr).len]
    have := (hg g hgm).2.1
    omega
/-- the law's groups, whatever the places -/
theorem groups_law {is : List Nat} (hi : is.length ≤ 1000) {rs : List Row} (hr : ∀ r ∈ rs, ∀ i ∈ is, i < r.length) (hl : rs.length ≤ 100000) (S : SH) : m_groups [.p (rowsP rs), .p (natsP is)] S = some (.p (.lst ((lawG is rs).map rowsP)), S) := by
  by_cases h : is = []
  · subst h
    exact groups_none rs S
  · have z := groups_some h hi hr hl S
    unfold lawG
    rw [if_neg h, List.map_map]
    exact z
theorem lawG_ok {is : List Nat} {rs : List Row} (hrk : ∀ r ∈ rs, RK r) (hrl : rs.length ≤ 1000) : (lawG is rs).length ≤ 1001 ∧ ∀ g ∈ lawG is rs, (∀ r ∈ g, RK r) ∧ g.length ≤ 1000 ∧ (is = [] ∨ g ≠ []) := by
  have ok := grpG_ok (pickR is) rs rs.length
  rw [List.take_length] at ok
  unfold lawG
  by_cases h : is = []
  · rw [if_pos h]
    refine ⟨by show 1 ≤ 1001; decide, fun g hg => ?_⟩
    rw [List.mem_singleton] at hg
    subst hg
    exact ⟨hrk, hrl, .inl h⟩
  · rw [if_neg h]
    refine ⟨by rw [List.length_map]; have := ok.num; omega, fun g hg => ?_⟩
    obtain ⟨q, hq, rfl⟩ := List.mem_map.mp hg
    exact ⟨fun r hr => hrk r (ok.key q hq r hr).2, by have := ok.len q hq; omega, .inr (ok.ne q hq)⟩
end Kb
namespace Kb
open PySem PySem.Spec PyProof.Rows L2 Pv
theorem cutD_1 {α : Type} (xs : List α) : Pv.cutD xs (some 1) none = xs.drop 1 := by
  unfold Pv.cutD
  rw [show (some 1 : Option Int) = some ((1 : Nat) : Int) from rfl, HT.sIx_nat, HT.sIx_none]
  cases xs with
  | nil => rfl
  | cons x xs =>
    have e : min 1 (x :: xs).length = 1 := by rw [List.length_cons]; omega
    rw [e, List.take_of_length_le (by rw [List.length_drop]; exact Nat.le_refl _)]
theorem ix_k3 {c : Nat} (h : c < 3) (T : SH) : fIx (.p (.lst [.str "integer", .str "text", .str "boolean"])) (.p (.int (c : Int))) T = some (.p (.str (kindS c)), T) := by
  have : c = 0 ∨ c = 1 ∨ c = 2 := by omega
  rcases this with rfl | rfl | rfl <;> exact fIx_l rfl
structure V6 (vs : List U) : Prop where
  len : vs.length = 6
  k4 : vs.getD 4 .n = .n ∨ KK 0 (vs.getD 4 .n)
  k5 : vs.getD 5 .n = .n ∨ KK 1 (vs.getD 5 .n)
theorem v6_rk {vs : List U} (h : V6 vs) (x : Str) : RK (U.s x :: vs) := ⟨by rw [List.length_cons, h.len], h.k4, h.k5⟩
theorem kr_v6 {k1 k2 k3 k4 : Nat} {r : Row} (h : KR [k1, k2, k3, k4, 0, 1] r) : V6 r := by
  have l : r.length = 6 := h.1
  refine ⟨l, ?_, ?_⟩
  · have e : r[4]? = some (r.getD 4 .n) := by simp [l]
    exact h.2 4 0 _ rfl e
  · have e : r[5]? = some (r.getD 5 .n) := by simp [l]
    exact h.2 5 1 _ rfl e
theorem tail_v6 {a b : Row} (ha : a.length = 4) (hb : V6 b) (v : Nat) (hv : v < 4) : V6 ((a ++ b.drop 4).set v .n) := by
  match a, ha, b, hb.len with
  | [a0, a1, a2, a3], _, [b0, b1, b2, b3, b4, b5], _ =>
    have : v = 0 ∨ v = 1 ∨ v = 2 ∨ v = 3 := by omega
    rcases this with rfl | rfl | rfl | rfl <;> exact ⟨rfl, hb.k4, hb.k5⟩
theorem cut15 {r : Row} (h : r.length = 7) : Pv.cutD (r.map uP) (some 1) (some 5) = ((r.drop 1).take 4).map uP := by
  match r, h with
  | [a, b, c, d, e, f, g], _ => rfl
theorem cut4 {r : Row} (h : r.length = 6) : Pv.cutD (r.map uP) (some 4) none = (r.drop 4).map uP := by
  match r, h with
  | [a, b, c, d, e, f], _ => rfl
theorem len15 {r : Row} (h : r.length = 7) : ((r.drop 1).take 4).length = 4 := by rw [List.length_take, List.length_drop, h]; rfl
theorem okz_row (k : Nat) {r : Row} (h : r.length ≤ 1000000) : okz (k + 1) (rowP r) = true := by
  show (decide ((r.map uP).length ≤ 1000000) && (r.map uP).all (okz k)) = true
  rw [List.length_map, decide_eq_true h, Bool.true_and, List.all_map, List.all_eq_true]
  exact fun u _ => okz_u k u
theorem okz_rows (k : Nat) {rs : List Row} (h : rs.length ≤ 1000000) (hr : ∀ r ∈ rs, r.length ≤ 1000000) : okz (k + 2) (rowsP rs) = true := by
  show (decide ((rs.map rowP).length ≤ 1000000) && (rs.map rowP).all (okz (k + 1))) = true
  rw [List.length_map, decide_eq_true h, Bool.true_and, List.all_map, List.all_eq_true]
  exact fun r m => okz_row k (hr r m)
def plcP : P := .lst [.lst [], .lst [.int 1], .lst [.int 2], .lst [.int 1, .int 2], .lst [.int 2, .int 1], .lst [.int 1, .int 1], .lst [.int 3, .int 1, .int 2], .lst [.int 1, .int 2, .int 4], .lst [.int 4, .int 2, .int 3, .int 1], .lst [.int 1, .int 2, .int 3, .int 4]]
theorem ix_plc {v : Nat} (h : v < 10) (T : SH) : fIx (.p plcP) (.p (.int (v : Int))) T = some (.p (natsP (plc v)), T) := by
  match v, h with
  | 0, _ => exact fIx_l (n := 0) rfl
  | 1, _ => exact fIx_l (n := 1) rfl
  | 2, _ => exact fIx_l (n := 2) rfl
  | 3, _ => exact fIx_l (n := 3) rfl
  | 4, _ => exact fIx_l (n := 4) rfl
  | 5, _ => exact fIx_l (n := 5) rfl
  | 6, _ => exact fIx_l (n := 6) rfl
  | 7, _ => exact fIx_l (n := 7) rfl
  | 8, _ => exact fIx_l (n := 8) rfl
  | 9, _ => exact fIx_l (n := 9) rfl
theorem ix_n7 {p : Nat} (h : p < 7) (T : SH) : fIx (.p nam7P) (.p (.int (p : Int))) T = some (.p (.str (nmA p)), T) := by
  match p, h with
  | 0, _ => exact fIx_l (n := 0) rfl
  | 1, _ => exact fIx_l (n := 1) rfl
  | 2, _ => exact fIx_l (n := 2) rfl
  | 3, _ => exact fIx_l (n := 3) rfl
  | 4, _ => exact fIx_l (n := 4) rfl
  | 5, _ => exact fIx_l (n := 5) rfl
  | 6, _ => exact fIx_l (n := 6) rfl
theorem kindsS (ks : List Nat) : kindsP ks = .lst ((ks.map kindS).map .str) := by unfold kindsP; rw [List.map_map]; rfl
theorem l_KDisp {ps : MPs} {σ : En} {S : SH} : dKDisp ps σ S = bl (ps σ S) (fun ds S1 => if ds.length ≤ 15 then match toKs (mergeD [] ds) with
  | some xs => some (.p (.dK xs), S1)
  | none => none
  else none) ⟨⟩ := id rfl
def idN (k : Nat) : Str := "2." ++ decS (k + 1) ++ ".1"
theorem law_true (ns : List Int) (hl : ns.length ≤ 63) : m_law [.p (.lst (intsP ns))] (SH.mk 0 []) = some (.p (.bl true), SH.mk 0 []) := by
  have nl4 : newL true [.p (.lst (intsP ns)), .p (.int 0), .p (.int 0), .p (.int 1)] (SH.mk 0 []) = some (.ref 0, ⟨0, W os0 0 ⟨ns, 0, 0, 1⟩ []⟩) := newL_t _ (lin (by simp))
  have fl : ∀ T, fList false [.p (.lst (intsP ns))] T = some (.p (.lst (intsP ns)), T) := fun T => fList_l (lin (by rw [intsP_len]; omega))
  have o0 : St.ok ⟨ns, 0, 0, 1⟩ := ⟨Int.le_refl 0, (by show (0 : Int) ≤ 1; decide), hl⟩
  refine Ev.eq (t := ⟨⟩) (fn_ev rfl rfl ?_)
  change Ev (dSeq _ _ [some (.p (.lst (intsP ns))), none, none, none, none, none, none, none, none, none, none, none, none, none, none, none, none] ⟨0, []⟩) _ _
  refine Ev_seq (fun σ T => σ = [some (.p (.lst (intsP ns))), some (.ref 0), none, none, none, none, none, none, none, none, none, none, none, none, none, none, none] ∧ T = ⟨0, W os0 0 ⟨ns, 0, 0, 1⟩ []⟩) (by simp -dsimp (disch := decide +kernel) only [evT, evD, Int.reduceLT, Int.reduceLE, Int.reduceEq, Int.reduceAdd, Int.reduceSub, Int.reduceMul, Int.reduceNeg, wipeD, List.set_cons_zero, List.set_cons_succ, Bool.false_eq_true, if_true, if_false, decide_true, decide_false, Bool.not_true, Bool.not_false, and_self, and_true, true_and, eq_self, fl, nl4]; exact ⟨_, rfl, rfl⟩) ?_
  rintro σ T ⟨rfl, rfl⟩
  -- the kinds
  refine Ev_seq (fun σ T => ∃ (k1 k2 k3 k4 : Nat) (kk : List Nat) (s : St), kk = [k1, k2, k3, k4, 0, 1] ∧ s.ok ∧ σ = [some (.p (.lst (intsP ns))), some (.ref 0), none, some (.p (kindsP (1 :: kk))), none, none, none, none, none, none, none, none, none, none, none, none, none] ∧ T = ⟨0, W os0 0 s []⟩) ?_ ?_
  · have rg : ∀ T, rng1 [.p (.int 4)] T = some (srcN 0 4, T) := fun T => srt_rng (S := T) 4 (by decide)
    have n1 : ∀ T, newL false [.p (.str "text")] T = some (.p (.lst (([1] : List Nat).map fun k => P.str (kindS k))), T) := fun T => newL1 ..
    have n2 : ∀ T, newL false [.p (.str "integer"), .p (.str "text")] T = some (.p (.lst (([0, 1] : List Nat).map fun k => P.str (kindS k))), T) := fun T => newL2 ..
    simp -dsimp (disch := decide +kernel) only [evT, evD, Int.reduceLT, Int.reduceLE, Int.reduceEq, Int.reduceAdd, Int.reduceSub, Int.reduceMul, Int.reduceNeg, wipeD, List.set_cons_zero, List.set_cons_succ, Bool.false_eq_true, if_true, if_false, decide_true, decide_false, Bool.not_true, Bool.not_false, and_self, and_true, true_and, eq_self, n1, rg]
    refine Ev_crJ (fun i acc T => ∃ (ks : List Nat) (s : St), ks.length = i ∧ s.ok ∧ acc = ks.map (fun k => D.p (.str (kindS k))) ∧ T = ⟨0, W os0 0 s []⟩) (lin (by decide)) ⟨[], _, rfl, o0, rfl, rfl⟩ ?_ ?_
    · rintro i acc T hi hl ⟨ks, s, hk, os, rfl, rfl⟩
      obtain ⟨v2, s2, o2, l2, e2⟩ := next_W os (lim := 3) (by decide) (by decide)
      have f2 := e2 hm0 []
      have n3 : ∀ T, newL false [.p (.str "integer"), .p (.str "text"), .p (.str "boolean")] T = some (.p (.lst [.str "integer", .str "text", .str "boolean"]), T) := fun T => newL3 ..
      have ix := fun T => ix_k3 (c := v2) (by omega) T
      simp -dsimp (disch := decide +kernel) only [evT, evD, Int.reduceLT, Int.reduceLE, Int.reduceEq, Int.reduceAdd, Int.reduceSub, Int.reduceMul, Int.reduceNeg, wipeD, List.set_cons_zero, List.set_cons_succ, Bool.false_eq_true, if_true, if_false, decide_true, decide_false, Bool.not_true, Bool.not_false, and_self, and_true, true_and, eq_self, n3, f2, ix]
      exact ⟨ks ++ [v2], s2, by rw [List.length_append, hk]; rfl, o2, by rw [List.map_append]; rfl, rfl⟩
    · rintro acc T hl ⟨ks, s, hk, os, rfl, rfl⟩
      have nm := fun T => newM T (fun k => P.str (kindS k)) ks (lin (by omega))
      have a1 := fun T => addL (fun k => P.str (kindS k)) (xs := [1]) (ys := ks) (by rw [hk]; decide) T
      have a2 : ∀ T, fAdd false (.p (.lst (([1] ++ ks).map fun k => P.str (kindS k)))) (.p (.lst (([0, 1] : List Nat).map fun k => P.str (kindS k)))) T = some (.p (kindsP (([1] ++ ks) ++ [0, 1])), T) := fun T => addL (fun k => P.str (kindS k)) (xs := [1] ++ ks) (ys := [0, 1]) (by rw [List.length_append, hk]; decide) T
      simp -dsimp (disch := decide +kernel) only [evT, evD, Int.reduceLT, Int.reduceLE, Int.reduceEq, Int.reduceAdd, Int.reduceSub, Int.reduceMul, Int.reduceNeg, wipeD, List.set_cons_zero, List.set_cons_succ, Bool.false_eq_true, if_true, if_false, decide_true, decide_false, Bool.not_true, Bool.not_false, and_self, and_true, true_and, eq_self, nm, a1, n2, a2]
      match ks, hk with
      | [k1, k2, k3, k4], _ => exact ⟨_, rfl, k1, k2, k3, k4, [k1, k2, k3, k4, 0, 1], s, rfl, os, rfl, rfl⟩
  rintro σ T ⟨k1, k2, k3, k4, kk, s, hkk, os, rfl, rfl⟩
  have lkk : kk.length = 6 := by rw [hkk]; rfl
  -- the rows
  refine Ev_seq (fun σ T => ∃ (rs : List Row) (s : St), rs.length ≤ 10 ∧ (∀ r ∈ rs, RK r) ∧ s.ok ∧ σ = [none, some (.ref 0), none, some (.p (kindsP (1 :: kk))), some (.p (rowsP rs)), none, none, none, none, none, none, none, none, none, none, none, none] ∧ T = ⟨0, W os0 0 s []⟩) ?_ ?_
  · rw [l_Block, Ev_bl]
    have nl : newL true [] ⟨1, W os0 0 s []⟩ = some (.ref 1, ⟨1, W os0 0 s [Ob.lst ((([] : List Row).map rowP).map D.p)]⟩) := newL_t [] (lin (by simp))
    refine Ev_seq (fun σ T => σ = [some (.p (.lst (intsP ns))), some (.ref 0), none, some (.p (kindsP (1 :: kk))), some (.ref 1), none, none, none, none, none, none, none, none, none, none, none, none] ∧ T = ⟨1, W os0 0 s [Ob.lst ((([] : List Row).map rowP).map D.p)]⟩) (by
      change Ev (dSet 4 (dLst true dNil) _ ⟨1, W os0 0 s []⟩) _ _
      simp -dsimp (disch := decide +kernel) only [evT, evD, Int.reduceLT, Int.reduceLE, Int.reduceEq, Int.reduceAdd, Int.reduceSub, Int.reduceMul, Int.reduceNeg, wipeD, List.set_cons_zero, List.set_cons_succ, Bool.false_eq_true, if_true, if_false, decide_true, decide_false, Bool.not_true, Bool.not_false, and_self, and_true, true_and, eq_self, nl]; exact ⟨_, rfl, rfl⟩) ?_
    rintro σ T ⟨rfl, rfl⟩
    obtain ⟨v, s1, o1, l1, e1⟩ := next_W os (lim := 10) (by decide) (by decide)
    have f1 := e1 hm0 [Ob.lst ((([] : List Row).map rowP).map D.p)]
    have rg := fun T => srt_rng (S := T) v (by omega)
    simp -dsimp (disch := decide +kernel) only [evT, evD, Int.reduceLT, Int.reduceLE, Int.reduceEq, Int.reduceAdd, Int.reduceSub, Int.reduceMul, Int.reduceNeg, wipeD, List.set_cons_zero, List.set_cons_succ, Bool.false_eq_true, if_true, if_false, decide_true, decide_false, Bool.not_true, Bool.not_false, and_self, and_true, true_and, eq_self, f1, rg]
    refine Ev_rng (fun i σ T => ∃ (rs : List Row) (s : St), rs.length = i ∧ (∀ r ∈ rs, RK r) ∧ s.ok ∧ σ = [none, some (.ref 0), none, some (.p (kindsP (1 :: kk))), some (.ref 1), none, none, none, none, none, none, none, none, none, none, none, none] ∧ T = ⟨1, W os0 0 s [Ob.lst ((rs.map rowP).map D.p)]⟩) ⟨[], s1, rfl, fun _ h => (by cases h), o1, rfl, rfl⟩ ?_ ?_
    · rintro i σ T hi ⟨rs, s, hrs, hrk, os, rfl, rfl⟩
      rw [l_Block, Ev_bl]
      -- values
      refine Ev_seq (fun σ T => ∃ (r : Row) (s : St), V6 r ∧ s.ok ∧ σ = [none, some (.ref 0), some (.p (.int (i : Int))), some (.p (kindsP (1 :: kk))), some (.ref 1), some (.ref 2), none, none, none, none, none, none, none, none, none, none, none] ∧ T = ⟨2, W os0 0 s [Ob.lst ((rs.map rowP).map D.p), Ob.lst ((r.map uP).map D.p)]⟩) ?_ ?_
      · have sl : ∀ T, fSl false (.p (kindsP (1 :: kk))) (some 1) none T = some (.p (kindsP kk), T) := fun T => by
          show fSl false (.p (.lst ((1 :: kk).map fun k => P.str (kindS k)))) (some 1) none T = _
          rw [fSl_l (by rw [List.length_map, List.length_cons]; omega), cutD_1]
          rfl
        have sk : ∀ T, srcOf (.p (kindsP kk)) T = some (srcP (kk.map fun k => P.str (kindS k)), T) := fun T => rfl
        simp -dsimp (disch := decide +kernel) only [evT, evD, Int.reduceLT, Int.reduceLE, Int.reduceEq, Int.reduceAdd, Int.reduceSub, Int.reduceMul, Int.reduceNeg, wipeD, List.set_cons_zero, List.set_cons_succ, Bool.false_eq_true, if_true, if_false, decide_true, decide_false, Bool.not_true, Bool.not_false, and_self, and_true, true_and, eq_self, l_SlL, sl, sk]
        refine vals_W (by omega) os hm0 [Ob.lst ((rs.map rowP).map D.p)] _ (fun x => rfl) (fun x => rfl) ?_
        intro r s2 kr o2
        rw [hkk] at kr
        have v6 := kr_v6 kr
        have nr : newL true (r.map fun u => D.p (uP u)) ⟨2, W os0 0 s2 [Ob.lst ((rs.map rowP).map D.p)]⟩ = some (.ref 2, ⟨2, W os0 0 s2 [Ob.lst ((rs.map rowP).map D.p), Ob.lst ((r.map uP).map D.p)]⟩) := by
          have e : (r.map fun u => D.p (uP u)) = (r.map uP).map D.p := by rw [List.map_map]; rfl
          rw [e]
          exact newL_t _ (lin (by rw [List.length_map, List.length_map, v6.len]; decide))
        change Ev (newL true (r.map fun u => D.p (uP u)) ⟨2, W os0 0 s2 [Ob.lst ((rs.map rowP).map D.p)]⟩) _ _
        simp -dsimp (disch := decide +kernel) only [evT, evD, Int.reduceLT, Int.reduceLE, Int.reduceEq, Int.reduceAdd, Int.reduceSub, Int.reduceMul, Int.reduceNeg, wipeD, List.set_cons_zero, List.set_cons_succ, Bool.false_eq_true, if_true, if_false, decide_true, decide_false, Bool.not_true, Bool.not_false, and_self, and_true, true_and, eq_self, nr]
        exact ⟨_, rfl, r, s2, v6, o2, rfl, rfl⟩
      rintro σ T ⟨r, s2, v6, o2, rfl, rfl⟩
      refine Ev_seq (fun σ T => ∃ (vs : Row) (s : St) (p : Nat) (X : List Ob), V6 vs ∧ s.ok ∧ σ = [none, some (.ref 0), some (.p (.int (i : Int))), some (.p (kindsP (1 :: kk))), some (.ref 1), some (.ref p), none, none, none, none, none, none, none, none, none, none, none] ∧ T = ⟨2, W os0 0 s (Ob.lst ((rs.map rowP).map D.p) :: X)⟩ ∧ (W os0 0 s (Ob.lst ((rs.map rowP).map D.p) :: X))[p]? = some (Ob.lst ((vs.map uP).map D.p))) ?_ ?_
      · by_cases qi : i = 0
        · have z : ¬ ((0 : Int) < (i : Int)) := by omega
          simp -dsimp (disch := decide +kernel) only [evT, evD, Int.reduceLT, Int.reduceLE, Int.reduceEq, Int.reduceAdd, Int.reduceSub, Int.reduceMul, Int.reduceNeg, wipeD, List.set_cons_zero, List.set_cons_succ, Bool.false_eq_true, if_true, if_false, decide_true, decide_false, Bool.not_true, Bool.not_false, and_self, and_true, true_and, eq_self, z]
          exact ⟨_, rfl, r, s2, 2, [Ob.lst ((r.map uP).map D.p)], v6, o2, rfl, rfl, rfl⟩
        have z : (0 : Int) < (i : Int) := by omega
        obtain ⟨v3, s3, o3, l3, e3⟩ := next_W o2 (lim := 3) (by decide) (by decide)
        have f3 := e3 hm0 [Ob.lst ((rs.map rowP).map D.p), Ob.lst ((r.map uP).map D.p)]
        by_cases q3 : v3 = 0
        · have z3 : ¬ ((0 : Int) < (v3 : Int)) := by omega
          simp -dsimp (disch := decide +kernel) only [evT, evD, Int.reduceLT, Int.reduceLE, Int.reduceEq, Int.reduceAdd, Int.reduceSub, Int.reduceMul, Int.reduceNeg, wipeD, List.set_cons_zero, List.set_cons_succ, Bool.false_eq_true, if_true, if_false, decide_true, decide_false, Bool.not_true, Bool.not_false, and_self, and_true, true_and, eq_self, z, f3, z3]
          exact ⟨_, rfl, r, s3, 2, [Ob.lst ((r.map uP).map D.p)], v6, o3, rfl, rfl, rfl⟩
        have z3 : (0 : Int) < (v3 : Int) := by omega
        obtain ⟨v4, s4, o4, l4, e4⟩ := next_W o3 (lim := 4) (by decide) (by decide)
        have hp : i - 1 < rs.length := by omega
        have rkp := hrk _ (List.getElem_mem hp)
        generalize hpv : rs[i - 1] = pv at rkp
        have hpv2 : rs[i - 1]? = some pv := by rw [List.getElem?_eq_getElem hp, hpv]
        have em1 : (i : Int) - 1 = ((i - 1 : Nat) : Int) := by omega
        have xi : fIx (.ref 1) (.p (.int ((i - 1 : Nat) : Int))) ⟨2, W os0 0 s3 [Ob.lst ((rs.map rowP).map D.p), Ob.lst ((r.map uP).map D.p)]⟩ = some (.p (rowP pv), ⟨2, W os0 0 s3 [Ob.lst ((rs.map rowP).map D.p), Ob.lst ((r.map uP).map D.p)]⟩) := fIx_ri (ds := (rs.map rowP).map D.p) rfl (by omega) (by rw [Int.toNat_natCast, List.getElem?_map, List.getElem?_map, hpv2]; rfl)
        have sl1 : ∀ T, fSl false (.p (rowP pv)) (some 1) (some 5) T = some (.p (rowP ((pv.drop 1).take 4)), T) := fun T => by
          show some (D.p (.tup (Pv.cutD (pv.map uP) (some 1) (some 5))), T) = _
          rw [cut15 rkp.len]
          rfl
        have fl2 : ∀ T, fList false [.p (rowP ((pv.drop 1).take 4))] T = some (.p (.lst (((pv.drop 1).take 4).map uP)), T) := fun T => newL_f (S := T) _ (lin (by rw [List.length_map, len15 rkp.len]; decide))
        have sl2 : fSl false (.ref 2) (some 4) none ⟨2, W os0 0 s3 [Ob.lst ((rs.map rowP).map D.p), Ob.lst ((r.map uP).map D.p)]⟩ = some (.p (.lst ((r.drop 4).map uP)), ⟨2, W os0 0 s3 [Ob.lst ((rs.map rowP).map D.p), Ob.lst ((r.map uP).map D.p)]⟩) := by
          rw [fSl_r (n := 2) (S := ⟨2, W os0 0 s3 [Ob.lst ((rs.map rowP).map D.p), Ob.lst ((r.map uP).map D.p)]⟩) (ps := r.map uP) rfl (by rw [List.length_map, v6.len]; decide), cut4 v6.len]
        have l6 : ((pv.drop 1).take 4 ++ r.drop 4).length = 6 := by rw [List.length_append, len15 rkp.len, List.length_drop, v6.len]
        have ad : fAdd true (.p (.lst (((pv.drop 1).take 4).map uP))) (.p (.lst ((r.drop 4).map uP))) ⟨2, W os0 0 s3 [Ob.lst ((rs.map rowP).map D.p), Ob.lst ((r.map uP).map D.p)]⟩ = some (.ref 3, ⟨2, W os0 0 s3 [Ob.lst ((rs.map rowP).map D.p), Ob.lst ((r.map uP).map D.p), Ob.lst ((((pv.drop 1).take 4 ++ r.drop 4).map uP).map D.p)]⟩) := by
          rw [fAdd_ll, ← List.map_append]
          exact newL_t _ (lin (by rw [List.length_map, List.length_map, l6]; decide))
        have f4 := e4 hm0 [Ob.lst ((rs.map rowP).map D.p), Ob.lst ((r.map uP).map D.p), Ob.lst ((((pv.drop 1).take 4 ++ r.drop 4).map uP).map D.p)]
        have sx : setIx (.ref 3) (.p (.int (v4 : Int))) (.p .non) ⟨2, W os0 0 s4 [Ob.lst ((rs.map rowP).map D.p), Ob.lst ((r.map uP).map D.p), Ob.lst ((((pv.drop 1).take 4 ++ r.drop 4).map uP).map D.p)]⟩ = some ⟨2, W os0 0 s4 [Ob.lst ((rs.map rowP).map D.p), Ob.lst ((r.map uP).map D.p), Ob.lst (((((pv.drop 1).take 4 ++ r.drop 4).set v4 .n).map uP).map D.p)]⟩ := by
          rw [setIx_ri (m := 3) (S := ⟨2, W os0 0 s4 [Ob.lst ((rs.map rowP).map D.p), Ob.lst ((r.map uP).map D.p), Ob.lst ((((pv.drop 1).take 4 ++ r.drop 4).map uP).map D.p)]⟩) (ds := (((pv.drop 1).take 4 ++ r.drop 4).map uP).map D.p) rfl (by omega) (by rw [List.length_map, List.length_map, l6]; omega), Int.toNat_natCast, List.map_set, List.map_set]
          rfl
        simp -dsimp (disch := decide +kernel) only [evT, evD, Int.reduceLT, Int.reduceLE, Int.reduceEq, Int.reduceAdd, Int.reduceSub, Int.reduceMul, Int.reduceNeg, wipeD, List.set_cons_zero, List.set_cons_succ, Bool.false_eq_true, if_true, if_false, decide_true, decide_false, Bool.not_true, Bool.not_false, and_self, and_true, true_and, eq_self, z, f3, z3, em1, xi, l_SlB, sl1, fl2, l_SlL, sl2, ad, f4, sx]
        exact ⟨_, rfl, ((pv.drop 1).take 4 ++ r.drop 4).set v4 .n, s4, 3, [Ob.lst ((r.map uP).map D.p), Ob.lst (((((pv.drop 1).take 4 ++ r.drop 4).set v4 .n).map uP).map D.p)], tail_v6 (len15 rkp.len) v6 v4 (by omega), o4, rfl, rfl, rfl⟩
      clear v6 o2
      rintro σ T ⟨vs, s3, p, X, v6, o3, rfl, rfl, hp⟩
      have ek : (i : Int) + 1 = ((i + 1 : Nat) : Int) := by omega
      have hk : i + 1 < 2000 := by omega
      have sl := decS_ok (i + 1) hk
      have a1 := fun T => add_s false (a := "2.") (b := decS (i + 1)) (by have : ("2." : Str).length = 2 := (by decide +kernel); omega) T
      have a2 : ∀ T, fAdd false (.p (.str ("2." ++ decS (i + 1)))) (.p (.str ".1")) T = some (.p (.str (idN i)), T) := fun T => add_s false (a := "2." ++ decS (i + 1)) (b := ".1") (by rw [app_len]; have : ("2." : Str).length = 2 := (by decide +kernel); have : (".1" : Str).length = 2 := (by decide +kernel); omega) T
      have t1 : ∀ T, newT [.p (.str (idN i))] T = some (.p (rowP [U.s (idN i)]), T) := fun T => newT_p (S := T) [.str (idN i)] (lin (by simp))
      have tu : fTuple [.ref p] ⟨2, W os0 0 s3 (Ob.lst ((rs.map rowP).map D.p) :: X)⟩ = some (.p (rowP vs), ⟨2, W os0 0 s3 (Ob.lst ((rs.map rowP).map D.p) :: X)⟩) := fTuple_r hp (lin (by rw [List.length_map, v6.len]; decide))
      have ad : ∀ T, fAdd false (.p (rowP [U.s (idN i)])) (.p (rowP vs)) T = some (.p (rowP (U.s (idN i) :: vs)), T) := fun T => addR false (r := [U.s (idN i)]) (o := vs) (by rw [v6.len]; show 1 + 6 ≤ 1000; decide) T
      have ty : isTy "list" (.ref 1) ⟨2, W os0 0 s3 (Ob.lst ((rs.map rowP).map D.p) :: X)⟩ = true := isTy_ref (ds := (rs.map rowP).map D.p) rfl
      have ap : fApp [.ref 1, .p (rowP (U.s (idN i) :: vs))] ⟨2, W os0 0 s3 (Ob.lst ((rs.map rowP).map D.p) :: X)⟩ = some (.p .non, ⟨2, W os0 0 s3 (Ob.lst (((rs ++ [U.s (idN i) :: vs]).map rowP).map D.p) :: X)⟩) := by
        rw [List.map_append, List.map_append]
        exact fApp_p (n := 1) (ds := (rs.map rowP).map D.p) rfl (by rw [List.length_map, List.length_map]; have := line_ge; omega)
      simp -dsimp (disch := decide +kernel) only [evT, evD, Int.reduceLT, Int.reduceLE, Int.reduceEq, Int.reduceAdd, Int.reduceSub, Int.reduceMul, Int.reduceNeg, wipeD, List.set_cons_zero, List.set_cons_succ, Bool.false_eq_true, if_true, if_false, decide_true, decide_false, Bool.not_true, Bool.not_false, and_self, and_true, true_and, eq_self, ty, ek, str_eq (i + 1) hk, a1, a2, t1, tu, ad, ap]
      refine ⟨_, _, rfl, ?_⟩
      exact Hold.i (t := ⟨⟩) ⟨rs ++ [U.s (idN i) :: vs], s3, by rw [List.length_append, hrs]; rfl, fun x hx => (List.mem_append.mp hx).elim (hrk x) fun h => by rw [List.mem_singleton.mp h]; exact v6_rk v6 _, o3, rfl, rfl⟩
    · rintro σ T ⟨rs, s, hrs, hrk, os, rfl, rfl⟩
      have oR : outO 1 ⟨1, W os0 0 s [Ob.lst ((rs.map rowP).map D.p)]⟩ (some (.ref 1)) = some (.p (rowsP rs)) := outO_r (n := 1) (ps := rs.map rowP) (Nat.le_refl _) rfl
      have oS : outO 1 ⟨1, W os0 0 s [Ob.lst ((rs.map rowP).map D.p)]⟩ (some (.ref 0)) = some (.ref 0) := outO_old _ (by decide)
      refine ⟨_, _, rfl, _, rfl, rs, s, by omega, hrk, os, ?_, rfl⟩
      show [_, outO 1 _ _, _, outO 1 _ _, outO 1 _ _, _, _, _, _, _, _, _, _, _, _, _, _] = _
      rw [oR, oS]
      rfl
  rintro σ T ⟨rs, s, lrs, hrk, os, rfl, rfl⟩
  obtain ⟨v, s1, o1, lv, e1⟩ := next_W os (lim := 10) (by decide) (by decide)
  have f1 := e1 hm0 []
  have hv' : v < 10 := by omega
  obtain ⟨pl, p5, p0⟩ := plc_ok v hv'
  have npl : ∀ T, newL false [.p (.lst []), .p (.lst [.int 1]), .p (.lst [.int 2]), .p (.lst [.int 1, .int 2]), .p (.lst [.int 2, .int 1]), .p (.lst [.int 1, .int 1]), .p (.lst [.int 3, .int 1, .int 2]), .p (.lst [.int 1, .int 2, .int 4]), .p (.lst [.int 4, .int 2, .int 3, .int 1]), .p (.lst [.int 1, .int 2, .int 3, .int 4])] T = some (.p plcP, T) := fun T => newL_f (S := T) [.lst [], .lst [.int 1], .lst [.int 2], .lst [.int 1, .int 2], .lst [.int 2, .int 1], .lst [.int 1, .int 1], .lst [.int 3, .int 1, .int 2], .lst [.int 1, .int 2, .int 4], .lst [.int 4, .int 2, .int 3, .int 1], .lst [.int 1, .int 2, .int 3, .int 4]] (lin (by simp))
  have xpl := fun T => ix_plc hv' T
  refine Ev_seq (fun σ T => σ = [none, some (.ref 0), none, some (.p (kindsP (1 :: kk))), some (.p (rowsP rs)), none, some (.p (natsP (plc v))), none, none, none, none, none, none, none, none, none, none] ∧ T = ⟨0, W os0 0 s1 []⟩) (by simp -dsimp (disch := decide +kernel) only [evT, evD, Int.reduceLT, Int.reduceLE, Int.reduceEq, Int.reduceAdd, Int.reduceSub, Int.reduceMul, Int.reduceNeg, wipeD, List.set_cons_zero, List.set_cons_succ, Bool.false_eq_true, if_true, if_false, decide_true, decide_false, Bool.not_true, Bool.not_false, and_self, and_true, true_and, eq_self, npl, f1, xpl]; exact ⟨_, rfl, rfl⟩) ?_
  rintro σ T ⟨rfl, rfl⟩
  have n7 : ∀ T, newL false [.p (.str "id"), .p (.str "g"), .p (.str "h"), .p (.str "k"), .p (.str "l"), .p (.str "v"), .p (.str "w")] T = some (.p nam7P, T) := fun T => newL_f (S := T) [.str "id", .str "g", .str "h", .str "k", .str "l", .str "v", .str "w"] (lin (by simp))
  refine Ev_seq (fun σ T => σ = [none, some (.ref 0), none, some (.p (kindsP (1 :: kk))), some (.p (rowsP rs)), none, some (.p (natsP (plc v))), some (.p nam7P), none, none, none, none, none, none, none, none, none] ∧ T = ⟨0, W os0 0 s1 []⟩) (by simp -dsimp (disch := decide +kernel) only [evT, evD, Int.reduceLT, Int.reduceLE, Int.reduceEq, Int.reduceAdd, Int.reduceSub, Int.reduceMul, Int.reduceNeg, wipeD, List.set_cons_zero, List.set_cons_succ, Bool.false_eq_true, if_true, if_false, decide_true, decide_false, Bool.not_true, Bool.not_false, and_self, and_true, true_and, eq_self, n7]; exact ⟨_, rfl, rfl⟩) ?_
  rintro σ T ⟨rfl, rfl⟩
  refine Ev_seq (fun σ T => σ = [none, some (.ref 0), none, some (.p (kindsP (1 :: kk))), some (.p (rowsP rs)), none, some (.p (natsP (plc v))), some (.p nam7P), some (.p .non), none, none, none, none, none, none, none, none] ∧ T = ⟨0, W os0 0 s1 []⟩) (by simp -dsimp (disch := decide +kernel) only [evT, evD, Int.reduceLT, Int.reduceLE, Int.reduceEq, Int.reduceAdd, Int.reduceSub, Int.reduceMul, Int.reduceNeg, wipeD, List.set_cons_zero, List.set_cons_succ, Bool.false_eq_true, if_true, if_false, decide_true, decide_false, Bool.not_true, Bool.not_false, and_self, and_true, true_and, eq_self, ]; exact ⟨_, rfl, rfl⟩) ?_
  rintro σ T ⟨rfl, rfl⟩
  -- group by
  refine Ev_seq (fun σ T => ∃ (gr : P) (s : St), s.ok ∧ (∀ hv S, m_query_rows [.p (selP false (itsP (itemsL (plc v))) src1 .non gr (havP hv)), .p (.dK (ts1 ((1 :: kk).map kindS) rs)), .p (.lst [])] S = some (.p (rowsP (((lawG (plc v) rs).filter fun ms => decide (leK hv ≤ ms.length)).map (madeR (plc v)))), S)) ∧ σ = [none, some (.ref 0), none, some (.p (kindsP (1 :: kk))), some (.p (rowsP rs)), none, some (.p (natsP (plc v))), some (.p nam7P), some (.p gr), none, none, none, none, none, none, none, none] ∧ T = ⟨0, W os0 0 s []⟩) ?_ ?_
  · by_cases z : v = 0
    · subst z
      have q : ∀ T, fEq true (.p (natsP (plc 0))) (.p (.lst [])) T = some (.p (.bl false), T) := fun T => nats_emp true [] T
      simp -dsimp (disch := decide +kernel) only [evT, evD, Int.reduceLT, Int.reduceLE, Int.reduceEq, Int.reduceAdd, Int.reduceSub, Int.reduceMul, Int.reduceNeg, wipeD, List.set_cons_zero, List.set_cons_succ, Bool.false_eq_true, if_true, if_false, decide_true, decide_false, Bool.not_true, Bool.not_false, and_self, and_true, true_and, eq_self, newL0, q]
      exact ⟨_, rfl, .non, s1, o1, fun hv S => query_none hrk (by omega) hv S, rfl, rfl⟩
    · have ne : plc v ≠ [] := fun h => z (p0.mp h)
      have q : ∀ T, fEq true (.p (natsP (plc v))) (.p (.lst [])) T = some (.p (.bl true), T) := fun T => by
        rw [nats_emp]
        cases h : plc v with
        | nil => exact absurd h ne
        | cons _ _ => rfl
      have sn : ∀ T, srcOf (.p (natsP (plc v))) T = some (srcP ((plc v).map fun i : Nat => P.int (i : Int)), T) := fun T => rfl
      simp -dsimp (disch := decide +kernel) only [evT, evD, Int.reduceLT, Int.reduceLE, Int.reduceEq, Int.reduceAdd, Int.reduceSub, Int.reduceMul, Int.reduceNeg, wipeD, List.set_cons_zero, List.set_cons_succ, Bool.false_eq_true, if_true, if_false, decide_true, decide_false, Bool.not_true, Bool.not_false, and_self, and_true, true_and, eq_self, newL0, q, sn]
      refine Ev_cpJ (xs := plc v) (f := fun i : Nat => P.int (i : Int)) (fun i acc T => ∃ (gs : List ((Option Str × Str) × Nat)) (s : St), gs.length = i ∧ gs.map (·.2) = (plc v).take i ∧ (∀ g ∈ gs, g.1.2 = nmA g.2 ∧ g.2 < 5 ∧ (g.1.1 = none ∨ g.1.1 = some s1t)) ∧ s.ok ∧ acc = gs.map (fun g => D.p (colS g.1)) ∧ T = ⟨0, W os0 0 s []⟩) (lin (by omega)) ⟨[], s1, rfl, by simp, fun _ h => (by cases h), o1, rfl, rfl⟩ ?_ ?_
      · rintro i p acc T hp hl ⟨gs, s, g1, g2, g3, os, rfl, rfl⟩
        have pp := p5 p (List.mem_of_getElem? hp)
        obtain ⟨w, s2, o2, l2, e2⟩ := next_W os (lim := 2) (by decide) (by decide)
        have f2 := e2 hm0 []
        have tk : (plc v).take (i + 1) = (plc v).take i ++ [p] := by rw [List.take_add_one, hp]; rfl
        obtain ⟨src, hs, ix⟩ : ∃ src : Option Str, (src = none ∨ src = some s1t) ∧ ∀ T, fIx (.p (.lst [.str "s1_t", .non])) (.p (.int (w : Int))) T = some (.p (oS src), T) := by
          have : w = 0 ∨ w = 1 := by omega
          rcases this with rfl | rfl
          · exact ⟨some s1t, .inr rfl, fun T => fIx_l (n := 0) rfl⟩
          · exact ⟨none, .inl rfl, fun T => fIx_l (n := 1) rfl⟩
        have n2 : ∀ T, newL false [.p (.str "s1_t"), .p .non] T = some (.p (.lst [.str "s1_t", .non]), T) := fun T => newL2 ..
        have xn := fun T => ix_n7 (p := p) (by omega) T
        have t3 : ∀ T, newT [.p (.str "column"), .p (oS src), .p (.str (nmA p))] T = some (.p (colS (src, nmA p)), T) := fun T => newT3 ..
        simp -dsimp (disch := decide +kernel) only [evT, evD, Int.reduceLT, Int.reduceLE, Int.reduceEq, Int.reduceAdd, Int.reduceSub, Int.reduceMul, Int.reduceNeg, wipeD, List.set_cons_zero, List.set_cons_succ, Bool.false_eq_true, if_true, if_false, decide_true, decide_false, Bool.not_true, Bool.not_false, and_self, and_true, true_and, eq_self, n2, f2, ix, xn, t3]
        exact ⟨gs ++ [((src, nmA p), p)], s2, by rw [List.length_append, g1]; rfl, by rw [List.map_append, g2, tk]; rfl, fun g hg => (List.mem_append.mp hg).elim (g3 g) fun h => by rw [List.mem_singleton.mp h]; exact ⟨rfl, pp, hs⟩, o2, by rw [List.map_append]; rfl, rfl⟩
      · rintro acc T hl ⟨gs, s, g1, g2, g3, os, rfl, rfl⟩
        rw [List.take_length] at g2
        have nm : ∀ T, newL false (gs.map fun g => D.p (colS g.1)) T = some (.p (.lst ((gs.map (·.1)).map colS)), T) := fun T => by
          have zz := newM T (fun g : (Option Str × Str) × Nat => colS g.1) gs (lin (by omega))
          have e : gs.map (fun g : (Option Str × Str) × Nat => colS g.1) = (gs.map (·.1)).map colS := by rw [List.map_map]; rfl
          rw [e] at zz
          exact zz
        have tu : ∀ T, fTuple [.p (.lst ((gs.map (·.1)).map colS))] T = some (.p (grpP (some (gs.map (·.1)))), T) := fun T => fTuple_l (lin (by rw [List.length_map, List.length_map]; omega))
        simp -dsimp (disch := decide +kernel) only [evT, evD, Int.reduceLT, Int.reduceLE, Int.reduceEq, Int.reduceAdd, Int.reduceSub, Int.reduceMul, Int.reduceNeg, wipeD, List.set_cons_zero, List.set_cons_succ, Bool.false_eq_true, if_true, if_false, decide_true, decide_false, Bool.not_true, Bool.not_false, and_self, and_true, true_and, eq_self, nm, tu]
        refine ⟨_, rfl, grpP (some (gs.map (·.1))), s, os, fun hv S => ?_, rfl, rfl⟩
        have zq := query_some (kin := (1 :: kk).map kindS) hrk (by omega) hv g3 (fun h => ne (by rw [← g2, h]; rfl)) (by omega) S
        rw [g2] at zq
        exact zq
  rintro σ T ⟨gr, s2, o2, hq, rfl, rfl⟩
  refine Ev_seq (fun σ T => σ = [none, some (.ref 0), none, some (.p (kindsP (1 :: kk))), some (.p (rowsP rs)), none, some (.p (natsP (plc v))), some (.p nam7P), some (.p gr), some (.p .non), none, none, none, none, none, none, none] ∧ T = ⟨0, W os0 0 s2 []⟩) (by simp -dsimp (disch := decide +kernel) only [evT, evD, Int.reduceLT, Int.reduceLE, Int.reduceEq, Int.reduceAdd, Int.reduceSub, Int.reduceMul, Int.reduceNeg, wipeD, List.set_cons_zero, List.set_cons_succ, Bool.false_eq_true, if_true, if_false, decide_true, decide_false, Bool.not_true, Bool.not_false, and_self, and_true, true_and, eq_self, ]; exact ⟨_, rfl, rfl⟩) ?_
  rintro σ T ⟨rfl, rfl⟩
  refine Ev_seq (fun σ T => σ = [none, some (.ref 0), none, some (.p (kindsP (1 :: kk))), some (.p (rowsP rs)), none, some (.p (natsP (plc v))), some (.p nam7P), some (.p gr), some (.p .non), some (.p (.int 0)), none, none, none, none, none, none] ∧ T = ⟨0, W os0 0 s2 []⟩) (by simp -dsimp (disch := decide +kernel) only [evT, evD, Int.reduceLT, Int.reduceLE, Int.reduceEq, Int.reduceAdd, Int.reduceSub, Int.reduceMul, Int.reduceNeg, wipeD, List.set_cons_zero, List.set_cons_succ, Bool.false_eq_true, if_true, if_false, decide_true, decide_false, Bool.not_true, Bool.not_false, and_self, and_true, true_and, eq_self, ]; exact ⟨_, rfl, rfl⟩) ?_
  rintro σ T ⟨rfl, rfl⟩
  refine Ev_seq (fun σ T => ∃ (hv : Option Nat) (s : St), σ = [none, some (.ref 0), none, some (.p (kindsP (1 :: kk))), some (.p (rowsP rs)), none, some (.p (natsP (plc v))), some (.p nam7P), some (.p gr), some (.p (havP hv)), some (.p (.int (leK hv : Int))), none, none, none, none, none, none] ∧ T = ⟨0, W os0 0 s []⟩) ?_ ?_
  · obtain ⟨w, s3, o3, l3, e3⟩ := next_W o2 (lim := 2) (by decide) (by decide)
    have f3 := e3 hm0 []
    by_cases z : (w : Int) = 1
    · obtain ⟨c, s4, o4, l4, e4⟩ := next_W o3 (lim := 4) (by decide) (by decide)
      have f4 := e4 hm0 []
      have t1 : ∀ T, newT [.p (.str "count_all")] T = some (.p cntE, T) := fun T => newT1 ..
      have t2 : ∀ T, newT [.p (.str "literal"), .p (.int (c : Int))] T = some (.p (.tup [.str "literal", .int (c : Int)]), T) := fun T => newT2 ..
      have t4 : ∀ T, newT [.p (.str "binary"), .p (.str ">="), .p cntE, .p (.tup [.str "literal", .int (c : Int)])] T = some (.p (havP (some c)), T) := fun T => newT4 ..
      simp -dsimp (disch := decide +kernel) only [evT, evD, Int.reduceLT, Int.reduceLE, Int.reduceEq, Int.reduceAdd, Int.reduceSub, Int.reduceMul, Int.reduceNeg, wipeD, List.set_cons_zero, List.set_cons_succ, Bool.false_eq_true, if_true, if_false, decide_true, decide_false, Bool.not_true, Bool.not_false, and_self, and_true, true_and, eq_self, f3, fEq_ii, z, f4, t1, t2, t4]
      exact ⟨_, rfl, some c, s4, rfl, rfl⟩
    · simp -dsimp (disch := decide +kernel) only [evT, evD, Int.reduceLT, Int.reduceLE, Int.reduceEq, Int.reduceAdd, Int.reduceSub, Int.reduceMul, Int.reduceNeg, wipeD, List.set_cons_zero, List.set_cons_succ, Bool.false_eq_true, if_true, if_false, decide_true, decide_false, Bool.not_true, Bool.not_false, and_self, and_true, true_and, eq_self, f3, fEq_ii, z]
      exact ⟨_, rfl, none, s3, rfl, rfl⟩
  clear o2
  rintro σ T ⟨hv, s3, rfl, rfl⟩
  obtain ⟨lg, gk⟩ := lawG_ok (is := plc v) hrk (by omega : rs.length ≤ 1000)
  have gl := fun T => groups_law (is := plc v) (rs := rs) (by omega) (fun r hr i hi => by rw [(hrk r hr).len]; have := p5 i hi; omega) (by omega) T
  have sg : ∀ T, srcOf (.p (.lst ((lawG (plc v) rs).map rowsP))) T = some (srcP ((lawG (plc v) rs).map rowsP), T) := fun T => rfl
  refine Ev_seq (fun σ T => σ = [none, some (.ref 0), none, some (.p (kindsP (1 :: kk))), some (.p (rowsP rs)), none, some (.p (natsP (plc v))), some (.p nam7P), some (.p gr), some (.p (havP hv)), some (.p (.int (leK hv : Int))), some (.p (rowsP (((lawG (plc v) rs).filter fun g => decide (leK hv ≤ g.length)).map (madeR (plc v))))), none, none, none, none, none] ∧ T = ⟨0, W os0 0 s3 []⟩) ?_ ?_
  · simp -dsimp (disch := decide +kernel) only [evT, evD, Int.reduceLT, Int.reduceLE, Int.reduceEq, Int.reduceAdd, Int.reduceSub, Int.reduceMul, Int.reduceNeg, wipeD, List.set_cons_zero, List.set_cons_succ, Bool.false_eq_true, if_true, if_false, decide_true, decide_false, Bool.not_true, Bool.not_false, and_self, and_true, true_and, eq_self, gl, sg]
    refine Ev_cpf (xs := lawG (plc v) rs) (f := rowsP) (fun g => decide (leK hv ≤ g.length)) (fun g => .p (rowP (madeR (plc v) g))) (lin (by omega)) (fun g hg => ⟨?_, fun _ => ?_⟩) ?_
    · have ln : ∀ T, fLen [.p (rowsP g)] T = some (.p (.int (g.length : Int)), T) := fun T => by
        show fLen [.p (.lst (g.map rowP))] T = _
        rw [fLen_l, List.length_map]
      by_cases q : leK hv ≤ g.length
      · have q2 : (leK hv : Int) ≤ (g.length : Int) := by omega
        simp -dsimp (disch := decide +kernel) only [evT, evD, Int.reduceLT, Int.reduceLE, Int.reduceEq, Int.reduceAdd, Int.reduceSub, Int.reduceMul, Int.reduceNeg, wipeD, List.set_cons_zero, List.set_cons_succ, Bool.false_eq_true, if_true, if_false, decide_true, decide_false, Bool.not_true, Bool.not_false, and_self, and_true, true_and, eq_self, ln, q2]
        simp [q]
      · have q2 : ¬ (leK hv : Int) ≤ (g.length : Int) := by omega
        simp -dsimp (disch := decide +kernel) only [evT, evD, Int.reduceLT, Int.reduceLE, Int.reduceEq, Int.reduceAdd, Int.reduceSub, Int.reduceMul, Int.reduceNeg, wipeD, List.set_cons_zero, List.set_cons_succ, Bool.false_eq_true, if_true, if_false, decide_true, decide_false, Bool.not_true, Bool.not_false, and_self, and_true, true_and, eq_self, ln, q2]
        simp [q]
    · obtain ⟨r1, r2, r3⟩ := gk g hg
      have me := fun T => made_eq (is := plc v) r1 (by omega) (fun i hi => by have := p5 i hi; omega) r3 r2 T
      simp -dsimp (disch := decide +kernel) only [evT, evD, Int.reduceLT, Int.reduceLE, Int.reduceEq, Int.reduceAdd, Int.reduceSub, Int.reduceMul, Int.reduceNeg, wipeD, List.set_cons_zero, List.set_cons_succ, Bool.false_eq_true, if_true, if_false, decide_true, decide_false, Bool.not_true, Bool.not_false, and_self, and_true, true_and, eq_self, me]
    · have lf := List.length_filter_le (fun g : List Row => decide (leK hv ≤ g.length)) (lawG (plc v) rs)
      have nm := fun T => newM T (fun g => rowP (madeR (plc v) g)) ((lawG (plc v) rs).filter fun g => decide (leK hv ≤ g.length)) (lin (by omega))
      have er : P.lst (((lawG (plc v) rs).filter fun g => decide (leK hv ≤ g.length)).map fun g => rowP (madeR (plc v) g)) = rowsP (((lawG (plc v) rs).filter fun g => decide (leK hv ≤ g.length)).map (madeR (plc v))) := by unfold rowsP; rw [List.map_map]; rfl
      rw [er] at nm
      simp -dsimp (disch := decide +kernel) only [evT, evD, Int.reduceLT, Int.reduceLE, Int.reduceEq, Int.reduceAdd, Int.reduceSub, Int.reduceMul, Int.reduceNeg, wipeD, List.set_cons_zero, List.set_cons_succ, Bool.false_eq_true, if_true, if_false, decide_true, decide_false, Bool.not_true, Bool.not_false, and_self, and_true, true_and, eq_self, nm]
      exact ⟨_, rfl, rfl⟩
  rintro σ T ⟨rfl, rfl⟩
  have fr : ∀ T, fList false [.p (rowsP rs)] T = some (.p (rowsP rs), T) := fun T => fList_l (lin (by rw [List.length_map]; omega))
  have mk : ∀ T, mkK 2 m_Source_init [.p (.str "s1_t"), .p nam7P, .p (kindsP (1 :: kk)), .p (rowsP rs)] T = some (.p (tabP "s1_t" nam7 ((1 :: kk).map kindS) rs), T) := fun T => by
    rw [kindsS]
    exact mk_source _ _ _ _ (by decide) (by rw [List.length_map, List.length_map, List.length_cons]; omega) (by rw [List.length_map]; omega) T
  have gd : ∀ T : SH, (if [((Sum.inr "s1_t" : Key), D.p (tabP "s1_t" nam7 ((1 :: kk).map kindS) rs))].length ≤ 15 then match toKs (mergeD [] [((Sum.inr "s1_t" : Key), D.p (tabP "s1_t" nam7 ((1 :: kk).map kindS) rs))]) with
    | some xs => some (D.p (.dK xs), T)
    | none => none
    else none) = some (.p (.dK (ts1 ((1 :: kk).map kindS) rs)), T) := fun T => by
    simp [mergeD, putKD, toKs, ts1]
  have ps : ∀ T, (dPcons (dC (.str "s1_t")) (dMake false 2 m_Source_init (dCons (dC (.str "s1_t")) (dCons (dVar 7) (dCons (dVar 3) (dCons (dCall (fList false) (dCons (dVar 4) dNil)) dNil))))) dPnil) [none, some (.ref 0), none, some (.p (kindsP (1 :: kk))), some (.p (rowsP rs)), none, some (.p (natsP (plc v))), some (.p nam7P), some (.p gr), some (.p (havP hv)), some (.p (.int (leK hv : Int))), some (.p (rowsP (((lawG (plc v) rs).filter fun g => decide (leK hv ≤ g.length)).map (madeR (plc v))))), none, none, none, none, none] T = some ([((Sum.inr "s1_t" : Key), D.p (tabP "s1_t" nam7 ((1 :: kk).map kindS) rs))], T) := fun T => by
    have em : (dMake false 2 m_Source_init (dCons (dC (.str "s1_t")) (dCons (dVar 7) (dCons (dVar 3) (dCons (dCall (fList false) (dCons (dVar 4) dNil)) dNil))))) [none, some (.ref 0), none, some (.p (kindsP (1 :: kk))), some (.p (rowsP rs)), none, some (.p (natsP (plc v))), some (.p nam7P), some (.p gr), some (.p (havP hv)), some (.p (.int (leK hv : Int))), some (.p (rowsP (((lawG (plc v) rs).filter fun g => decide (leK hv ≤ g.length)).map (madeR (plc v))))), none, none, none, none, none] T = some (.p (tabP "s1_t" nam7 ((1 :: kk).map kindS) rs), T) := by
      refine Ev.eq (t := ⟨⟩) ?_
      simp -dsimp (disch := decide +kernel) only [evT, evD, Int.reduceLT, Int.reduceLE, Int.reduceEq, Int.reduceAdd, Int.reduceSub, Int.reduceMul, Int.reduceNeg, wipeD, List.set_cons_zero, List.set_cons_succ, Bool.false_eq_true, if_true, if_false, decide_true, decide_false, Bool.not_true, Bool.not_false, and_self, and_true, true_and, eq_self, l_Make, fr, mk]
    simp only [dPcons, dPnil, at_dC, bnd_some, Pv.keyK, em]
  refine Ev_seq (fun σ T => σ = [none, some (.ref 0), none, some (.p (kindsP (1 :: kk))), some (.p (rowsP rs)), none, some (.p (natsP (plc v))), some (.p nam7P), some (.p gr), some (.p (havP hv)), some (.p (.int (leK hv : Int))), some (.p (rowsP (((lawG (plc v) rs).filter fun g => decide (leK hv ≤ g.length)).map (madeR (plc v))))), some (.p (.dK (ts1 ((1 :: kk).map kindS) rs))), none, none, none, none] ∧ T = ⟨0, W os0 0 s3 []⟩) (by simp -dsimp (disch := decide +kernel) only [evT, evD, Int.reduceLT, Int.reduceLE, Int.reduceEq, Int.reduceAdd, Int.reduceSub, Int.reduceMul, Int.reduceNeg, wipeD, List.set_cons_zero, List.set_cons_succ, Bool.false_eq_true, if_true, if_false, decide_true, decide_false, Bool.not_true, Bool.not_false, and_self, and_true, true_and, eq_self, l_KDisp, ps, gd]; exact ⟨_, rfl, rfl⟩) ?_
  rintro σ T ⟨rfl, rfl⟩
  have ie := items_eq hv' s3
  have t3 : ∀ T, newT [.p (.str "table"), .p (.str "s1_t"), .p .non] T = some (.p src1, T) := fun T => newT3 ..
  have t7 : ∀ T, newT [.p (.str "select"), .p (.bl false), .p (itsP (itemsL (plc v))), .p src1, .p .non, .p gr, .p (havP hv)] T = some (.p (selP false (itsP (itemsL (plc v))) src1 .non gr (havP hv)), T) := fun T => newT_p (S := T) [.str "select", .bl false, itsP (itemsL (plc v)), src1, .non, gr, havP hv] (lin (by simp))
  have hq2 := fun T => hq hv T
  have lf := List.length_filter_le (fun g : List Row => decide (leK hv ≤ g.length)) (lawG (plc v) rs)
  have sm : ∀ T, m_lsame 40 [.p (rowsP (((lawG (plc v) rs).filter fun ms => decide (leK hv ≤ ms.length)).map (madeR (plc v)))), .p (rowsP (((lawG (plc v) rs).filter fun ms => decide (leK hv ≤ ms.length)).map (madeR (plc v))))] T = some (.p (.bl true), T) := fun T => same40 _ T (okz_rows 37 (by rw [List.length_map]; omega) fun r hr => by
    obtain ⟨g, _, rfl⟩ := List.mem_map.mp hr
    unfold madeR headU partU
    simp
    omega)
  simp -dsimp (disch := decide +kernel) only [evT, evD, Int.reduceLT, Int.reduceLE, Int.reduceEq, Int.reduceAdd, Int.reduceSub, Int.reduceMul, Int.reduceNeg, wipeD, List.set_cons_zero, List.set_cons_succ, Bool.false_eq_true, if_true, if_false, decide_true, decide_false, Bool.not_true, Bool.not_false, and_self, and_true, true_and, eq_self, ie, t3, t7, newL0, hq2, sm]
  rfl
end Kb
namespace Kb
open PySem PySem.Spec PyProof.Rows L2 Pv
def spLaw (K : PySem.W.Frag) : Sp := fun vs H Q _ => ∃ (a : Addr) (ns : List Int), vs = [V.ref a] ∧ SqL K H a (ns.map V.int) ∧ ns.length ≤ 63 ∧ ∀ H', Q (.bl true) H'
theorem law_sp {K : PySem.W.Frag} {cl : ClW} {vs : List V} {H : Hp} {Q : VK} {E : XK} (h : spLaw K vs H Q E) : spOf K cl m_law vs H Q E := by
  obtain ⟨a, ns, rfl, hs, hl, q⟩ := h
  exact law_of hs (law_true ns hl) q
end Kb
namespace Kb
open PySem PySem.Spec PyProof.Rows L2 Pv

theorem bt_abs : bootBuiltins "abs" = some (.builtin "abs") := by decide +kernel
theorem bt_any : bootBuiltins "any" = some (.builtin "any") := by decide +kernel
theorem bt_bool : bootBuiltins "bool" = some (.type "bool") := by decide +kernel
theorem bt_int : bootBuiltins "int" = some (.type "int") := by decide +kernel
theorem bt_len : bootBuiltins "len" = some (.builtin "len") := by decide +kernel
theorem bt_list : bootBuiltins "list" = some (.type "list") := by decide +kernel
theorem bt_sorted : bootBuiltins "sorted" = some (.builtin "sorted") := by decide +kernel
theorem bt_str : bootBuiltins "str" = some (.type "str") := by decide +kernel
theorem bt_sum : bootBuiltins "sum" = some (.builtin "sum") := by decide +kernel
theorem bt_tuple : bootBuiltins "tuple" = some (.type "tuple") := by decide +kernel
set_option genInjectivity false
set_option genSizeOfSpec false
structure TxtQ0 (K : PySem.W.Frag) (mg : Str → Option Value) (C_World C_Frame C_Source : Addr) where
  cl_World : Cls K C_World
  g_World : mg "World" = some (.ref C_World)
  n_World_parameters : NoAttr K C_World "parameters"
  n_World_sources : NoAttr K C_World "sources"
  cl_Frame : Cls K C_Frame
  g_Frame : mg "Frame" = some (.ref C_Frame)
  n_Frame_columns : NoAttr K C_Frame "columns"
  n_Frame_members : NoAttr K C_Frame "members"
  n_Frame_outer : NoAttr K C_Frame "outer"
  n_Frame_row : NoAttr K C_Frame "row"
  cl_Source : Cls K C_Source
  g_Source : mg "Source" = some (.ref C_Source)
  n_Source_columns : NoAttr K C_Source "columns"
  n_Source_kinds : NoAttr K C_Source "kinds"
  n_Source_name : NoAttr K C_Source "name"
  n_Source_rows : NoAttr K C_Source "rows"
  a_World_init : Addr
  d_World_init : FuncData
  F_World_init : Fun K "__init__" "World.__init__" s_World_init a_World_init d_World_init
  b_World_init : Binds K d_World_init ["self", "sources", "parameters"] []
  M_World : Mk K C_World a_World_init
  a_Frame_init : Addr
  d_Frame_init : FuncData
  F_Frame_init : Fun K "__init__" "Frame.__init__" s_Frame_init a_Frame_init d_Frame_init
  b_Frame_init : Binds K d_Frame_init ["self", "columns", "row", "members", "outer"] []
  M_Frame : Mk K C_Frame a_Frame_init
  a_named : Addr
  d_named : FuncData
  F_named : Fun K "named" "named" s_named a_named d_named
  b_named : Binds K d_named ["columns", "source", "name"] []
  g_named : mg "named" = some (.ref a_named)
  a_locate : Addr
  d_locate : FuncData
  F_locate : Fun K "locate" "locate" s_locate a_locate d_locate
  b_locate : Binds K d_locate ["scope", "source", "name"] []
  g_locate : mg "locate" = some (.ref a_locate)
  a_own_index : Addr
  d_own_index : FuncData
  F_own_index : Fun K "own_index" "own_index" s_own_index a_own_index d_own_index
  b_own_index : Binds K d_own_index ["columns", "node"] []
  g_own_index : mg "own_index" = some (.ref a_own_index)
  a_operands : Addr
  d_operands : FuncData
  F_operands : Fun K "operands" "operands" s_operands a_operands d_operands
  b_operands : Binds K d_operands ["node"] []
  g_operands : mg "operands" = some (.ref a_operands)
structure TxtQ1 (K : PySem.W.Frag) (mg : Str → Option Value) (C_World C_Frame C_Source : Addr) where
  a_has_aggregate : Addr
  d_has_aggregate : FuncData
  F_has_aggregate : Fun K "has_aggregate" "has_aggregate" s_has_aggregate a_has_aggregate d_has_aggregate
  b_has_aggregate : Binds K d_has_aggregate ["node"] []
  g_has_aggregate : mg "has_aggregate" = some (.ref a_has_aggregate)
  a_is_grouping : Addr
  d_is_grouping : FuncData
  F_is_grouping : Fun K "is_grouping" "is_grouping" s_is_grouping a_is_grouping d_is_grouping
  b_is_grouping : Binds K d_is_grouping ["select"] []
  g_is_grouping : mg "is_grouping" = some (.ref a_is_grouping)
  a_item_name : Addr
  d_item_name : FuncData
  F_item_name : Fun K "item_name" "item_name" s_item_name a_item_name d_item_name
  b_item_name : Binds K d_item_name ["item"] []
  g_item_name : mg "item_name" = some (.ref a_item_name)
  a_known_as : Addr
  d_known_as : FuncData
  F_known_as : Fun K "known_as" "known_as" s_known_as a_known_as d_known_as
  b_known_as : Binds K d_known_as ["source"] []
  g_known_as : mg "known_as" = some (.ref a_known_as)
  a_value_key : Addr
  d_value_key : FuncData
  F_value_key : Fun K "value_key" "value_key" s_value_key a_value_key d_value_key
  b_value_key : Binds K d_value_key ["value"] []
  g_value_key : mg "value_key" = some (.ref a_value_key)
  a_row_key : Addr
  d_row_key : FuncData
  F_row_key : Fun K "row_key" "row_key" s_row_key a_row_key d_row_key
  b_row_key : Binds K d_row_key ["row"] []
  g_row_key : mg "row_key" = some (.ref a_row_key)
  a_same : Addr
  d_same : FuncData
  F_same : Fun K "same" "same" s_same a_same d_same
  b_same : Binds K d_same ["first", "second"] []
  g_same : mg "same" = some (.ref a_same)
  a_bounded : Addr
  d_bounded : FuncData
  F_bounded : Fun K "bounded" "bounded" s_bounded a_bounded d_bounded
  b_bounded : Binds K d_bounded ["number"] []
  g_bounded : mg "bounded" = some (.ref a_bounded)
  a_quotient : Addr
  d_quotient : FuncData
  F_quotient : Fun K "quotient" "quotient" s_quotient a_quotient d_quotient
  b_quotient : Binds K d_quotient ["first", "second"] []
  g_quotient : mg "quotient" = some (.ref a_quotient)
structure TxtQ2 (K : PySem.W.Frag) (mg : Str → Option Value) (C_World C_Frame C_Source : Addr) where
  a_arithmetic : Addr
  d_arithmetic : FuncData
  F_arithmetic : Fun K "arithmetic" "arithmetic" s_arithmetic a_arithmetic d_arithmetic
  b_arithmetic : Binds K d_arithmetic ["operator", "first", "second"] []
  g_arithmetic : mg "arithmetic" = some (.ref a_arithmetic)
  a_compare : Addr
  d_compare : FuncData
  F_compare : Fun K "compare" "compare" s_compare a_compare d_compare
  b_compare : Binds K d_compare ["operator", "first", "second"] []
  g_compare : mg "compare" = some (.ref a_compare)
  a_negation : Addr
  d_negation : FuncData
  F_negation : Fun K "negation" "negation" s_negation a_negation d_negation
  b_negation : Binds K d_negation ["value"] []
  g_negation : mg "negation" = some (.ref a_negation)
  a_conjunction : Addr
  d_conjunction : FuncData
  F_conjunction : Fun K "conjunction" "conjunction" s_conjunction a_conjunction d_conjunction
  b_conjunction : Binds K d_conjunction ["first", "second"] []
  g_conjunction : mg "conjunction" = some (.ref a_conjunction)
  a_disjunction : Addr
  d_disjunction : FuncData
  F_disjunction : Fun K "disjunction" "disjunction" s_disjunction a_disjunction d_disjunction
  b_disjunction : Binds K d_disjunction ["first", "second"] []
  g_disjunction : mg "disjunction" = some (.ref a_disjunction)
  a_value_of : Addr
  d_value_of : FuncData
  F_value_of : Fun K "value_of" "value_of" s_value_of a_value_of d_value_of
  b_value_of : Binds K d_value_of ["node", "frame", "world"] []
  g_value_of : mg "value_of" = some (.ref a_value_of)
  a_combined : Addr
  d_combined : FuncData
  F_combined : Fun K "combined" "combined" s_combined a_combined d_combined
  b_combined : Binds K d_combined ["operator", "first", "second"] []
  g_combined : mg "combined" = some (.ref a_combined)
  a_membership : Addr
  d_membership : FuncData
  F_membership : Fun K "membership" "membership" s_membership a_membership d_membership
  b_membership : Binds K d_membership ["node", "frame", "world"] []
  g_membership : mg "membership" = some (.ref a_membership)
  a_is_among : Addr
  d_is_among : FuncData
  F_is_among : Fun K "is_among" "is_among" s_is_among a_is_among d_is_among
  b_is_among : Binds K d_is_among ["value", "column"] []
  g_is_among : mg "is_among" = some (.ref a_is_among)
structure TxtQ3 (K : PySem.W.Frag) (mg : Str → Option Value) (C_World C_Frame C_Source : Addr) where
  a_aggregate : Addr
  d_aggregate : FuncData
  F_aggregate : Fun K "aggregate" "aggregate" s_aggregate a_aggregate d_aggregate
  b_aggregate : Binds K d_aggregate ["node", "frame", "world"] []
  g_aggregate : mg "aggregate" = some (.ref a_aggregate)
  a_kept_frames : Addr
  d_kept_frames : FuncData
  F_kept_frames : Fun K "kept_frames" "kept_frames" s_kept_frames a_kept_frames d_kept_frames
  b_kept_frames : Binds K d_kept_frames ["condition", "frames", "world"] []
  g_kept_frames : mg "kept_frames" = some (.ref a_kept_frames)
  a_without_repeats : Addr
  d_without_repeats : FuncData
  F_without_repeats : Fun K "without_repeats" "without_repeats" s_without_repeats a_without_repeats d_without_repeats
  b_without_repeats : Binds K d_without_repeats ["rows"] []
  g_without_repeats : mg "without_repeats" = some (.ref a_without_repeats)
  a_table_result : Addr
  d_table_result : FuncData
  F_table_result : Fun K "table_result" "table_result" s_table_result a_table_result d_table_result
  b_table_result : Binds K d_table_result ["source", "world"] []
  g_table_result : mg "table_result" = some (.ref a_table_result)
  a_source_result : Addr
  d_source_result : FuncData
  F_source_result : Fun K "source_result" "source_result" s_source_result a_source_result d_source_result
  b_source_result : Binds K d_source_result ["source", "outer", "world"] []
  g_source_result : mg "source_result" = some (.ref a_source_result)
  a_grouped_frames : Addr
  d_grouped_frames : FuncData
  F_grouped_frames : Fun K "grouped_frames" "grouped_frames" s_grouped_frames a_grouped_frames d_grouped_frames
  b_grouped_frames : Binds K d_grouped_frames ["select", "columns", "rows", "outer"] []
  g_grouped_frames : mg "grouped_frames" = some (.ref a_grouped_frames)
  a_select_result : Addr
  d_select_result : FuncData
  F_select_result : Fun K "select_result" "select_result" s_select_result a_select_result d_select_result
  b_select_result : Binds K d_select_result ["select", "outer", "world"] []
  g_select_result : mg "select_result" = some (.ref a_select_result)
  a_made_row : Addr
  d_made_row : FuncData
  F_made_row : Fun K "made_row" "made_row" s_made_row a_made_row d_made_row
  b_made_row : Binds K d_made_row ["items", "frame", "world"] []
  g_made_row : mg "made_row" = some (.ref a_made_row)
  a_result_of : Addr
  d_result_of : FuncData
  F_result_of : Fun K "result_of" "result_of" s_result_of a_result_of d_result_of
  b_result_of : Binds K d_result_of ["query", "outer", "world"] []
  g_result_of : mg "result_of" = some (.ref a_result_of)
structure TxtQ4 (K : PySem.W.Frag) (mg : Str → Option Value) (C_World C_Frame C_Source : Addr) where
  a_query_rows : Addr
  d_query_rows : FuncData
  F_query_rows : Fun K "query_rows" "query_rows" s_query_rows a_query_rows d_query_rows
  b_query_rows : Binds K d_query_rows ["query", "sources", "parameters"] []
  g_query_rows : mg "query_rows" = some (.ref a_query_rows)
  a_Source_init : Addr
  d_Source_init : FuncData
  F_Source_init : Fun K "__init__" "Source.__init__" s_Source_init a_Source_init d_Source_init
  b_Source_init : Binds K d_Source_init ["self", "name", "columns", "kinds", "rows"] []
  M_Source : Mk K C_Source a_Source_init
  a_next : Addr
  d_next : FuncData
  F_next : Fun K "_law_next" "_law_next" s_next a_next d_next
  b_next : Binds K d_next ["_law_state", "_law_limit"] []
  g_next : mg "_law_next" = some (.ref a_next)
  a_lsame : Addr
  d_lsame : FuncData
  F_lsame : Fun K "_law_same" "_law_same" s_lsame a_lsame d_lsame
  b_lsame : Binds K d_lsame ["_law_actual", "_law_expected"] []
  g_lsame : mg "_law_same" = some (.ref a_lsame)
  a_char : Addr
  d_char : FuncData
  F_char : Fun K "_law_char" "_law_char" s_char a_char d_char
  b_char : Binds K d_char ["_law_index"] []
  g_char : mg "_law_char" = some (.ref a_char)
  a_value : Addr
  d_value : FuncData
  F_value : Fun K "_law_value" "_law_value" s_value a_value d_value
  b_value : Binds K d_value ["_law_state", "_law_kind"] []
  g_value : mg "_law_value" = some (.ref a_value)
  a_key : Addr
  d_key : FuncData
  F_key : Fun K "_law_key" "_law_key" s_key a_key d_key
  b_key : Binds K d_key ["_law_value_here"] []
  g_key : mg "_law_key" = some (.ref a_key)
  a_lrow_key : Addr
  d_lrow_key : FuncData
  F_lrow_key : Fun K "_law_row_key" "_law_row_key" s_lrow_key a_lrow_key d_lrow_key
  b_lrow_key : Binds K d_lrow_key ["_law_row"] []
  g_lrow_key : mg "_law_row_key" = some (.ref a_lrow_key)
  a_groups : Addr
  d_groups : FuncData
  F_groups : Fun K "_law_groups" "_law_groups" s_groups a_groups d_groups
  b_groups : Binds K d_groups ["_law_rows", "_law_places"] []
  g_groups : mg "_law_groups" = some (.ref a_groups)
structure TxtQ5 (K : PySem.W.Frag) (mg : Str → Option Value) (C_World C_Frame C_Source : Addr) where
  a_least : Addr
  d_least : FuncData
  F_least : Fun K "_law_least" "_law_least" s_least a_least d_least
  b_least : Binds K d_least ["_law_values", "_law_down"] []
  g_least : mg "_law_least" = some (.ref a_least)
  a_total : Addr
  d_total : FuncData
  F_total : Fun K "_law_total" "_law_total" s_total a_total d_total
  b_total : Binds K d_total ["_law_values"] []
  g_total : mg "_law_total" = some (.ref a_total)
  a_made : Addr
  d_made : FuncData
  F_made : Fun K "_law_made" "_law_made" s_made a_made d_made
  b_made : Binds K d_made ["_law_group", "_law_places"] []
  g_made : mg "_law_made" = some (.ref a_made)
  a_items : Addr
  d_items : FuncData
  F_items : Fun K "_law_items" "_law_items" s_items a_items d_items
  b_items : Binds K d_items ["_law_places", "_law_names"] []
  g_items : mg "_law_items" = some (.ref a_items)
  a_law : Addr
  d_law : FuncData
  F_law : Fun K "law" "law" s_law a_law d_law
  b_law : Binds K d_law ["_law_script"] []
  g_law : mg "law" = some (.ref a_law)
  w_law : ∀ (s : Shared) (v : Value), BindsTo s d_law ⟨[v], []⟩ [("_law_script", v)]
  z_abs : mg "abs" = none
  z_any : mg "any" = none
  z_bool : mg "bool" = none
  z_enumerate : mg "enumerate" = none
  z_int : mg "int" = none
  z_isinstance : mg "isinstance" = none
  z_len : mg "len" = none
  z_list : mg "list" = none
  z_range : mg "range" = none
  z_sorted : mg "sorted" = none
  z_str : mg "str" = none
  z_sum : mg "sum" = none
  z_tuple : mg "tuple" = none
  v_BOUND : V
  u_BOUND : Value
  g_BOUND : mg "BOUND" = some u_BOUND
  r_BOUND : RelV v_BOUND u_BOUND
  q_BOUND : ∀ (F : Hp) (cl : ClW), Rp K cl F Kb.u_BOUND v_BOUND
structure TxtQ6 (K : PySem.W.Frag) (mg : Str → Option Value) (C_World C_Frame C_Source : Addr) where
  v_LONGESTTEXT : V
  u_LONGESTTEXT : Value
  g_LONGESTTEXT : mg "LONGEST_TEXT" = some u_LONGESTTEXT
  r_LONGESTTEXT : RelV v_LONGESTTEXT u_LONGESTTEXT
  q_LONGESTTEXT : ∀ (F : Hp) (cl : ClW), Rp K cl F Kb.u_LONGESTTEXT v_LONGESTTEXT
  v_COMPARISONS : V
  u_COMPARISONS : Value
  g_COMPARISONS : mg "COMPARISONS" = some u_COMPARISONS
  r_COMPARISONS : RelV v_COMPARISONS u_COMPARISONS
  q_COMPARISONS : ∀ (F : Hp) (cl : ClW), Rp K cl F Kb.u_COMPARISONS v_COMPARISONS
  t_COMPARISONS : TupC K v_COMPARISONS
structure Txt (K : PySem.W.Frag) (mg : Str → Option Value) where
  c_World : Addr
  c_Frame : Addr
  c_Source : Addr
  Q0 : TxtQ0 K mg c_World c_Frame c_Source
  Q1 : TxtQ1 K mg c_World c_Frame c_Source
  Q2 : TxtQ2 K mg c_World c_Frame c_Source
  Q3 : TxtQ3 K mg c_World c_Frame c_Source
  Q4 : TxtQ4 K mg c_World c_Frame c_Source
  Q5 : TxtQ5 K mg c_World c_Frame c_Source
  Q6 : TxtQ6 K mg c_World c_Frame c_Source
def Txt.cl {K : PySem.W.Frag} {mg : Str → Option Value} (T : Txt K mg) : Nat → Addr
  | 0 => T.c_World
  | 1 => T.c_Frame
  | 2 => T.c_Source
  | _ => 0
abbrev Txt.cw {K : PySem.W.Frag} {mg : Str → Option Value} (T : Txt K mg) (P : Program) (w : World) : ClW := ⟨T.cl, P, w⟩
section
variable {P : Program} {w : World} {K : PySem.W.Frag} {mg : Str → Option Value} {base : Heap}
theorem ok_World_init (T : Txt K mg) : FnOk P w K mg base CX0 1 T.Q0.a_World_init T.Q0.d_World_init ["self", "sources", "parameters"] (spOf K (T.cw P w) m_World_init) :=
  fnL_ok T.Q0.F_World_init sc_World_init fun cdv A outer s H E hr => (s_cons (s_fld (cs_cons ⟨T.Q0.cl_World, T.Q0.n_World_sources⟩ cs_nil) (k_var 0) (k_var 1))
    (s_one (s_fld (cs_cons ⟨T.Q0.cl_World, T.Q0.n_World_parameters⟩ cs_nil) (k_var 0) (k_var 2))))
theorem ok_Frame_init (T : Txt K mg) : FnOk P w K mg base CX0 1 T.Q0.a_Frame_init T.Q0.d_Frame_init ["self", "columns", "row", "members", "outer"] (spOf K (T.cw P w) m_Frame_init) :=
  fnL_ok T.Q0.F_Frame_init sc_Frame_init fun cdv A outer s H E hr => (s_cons (s_fld (cs_cons ⟨T.Q0.cl_Frame, T.Q0.n_Frame_columns⟩ cs_nil) (k_var 0) (k_var 1))
    (s_cons (s_fld (cs_cons ⟨T.Q0.cl_Frame, T.Q0.n_Frame_row⟩ cs_nil) (k_var 0) (k_var 2))
    (s_cons (s_fld (cs_cons ⟨T.Q0.cl_Frame, T.Q0.n_Frame_members⟩ cs_nil) (k_var 0) (k_var 3))
    (s_one (s_fld (cs_cons ⟨T.Q0.cl_Frame, T.Q0.n_Frame_outer⟩ cs_nil) (k_var 0) (k_var 4))))))
theorem ok_named (T : Txt K mg) : FnOk P w K mg base CX0 1 T.Q0.a_named T.Q0.d_named ["columns", "source", "name"] (spOf K (T.cw P w) m_named) :=
  fn_ok T.Q0.F_named sc_named fun cdv A outer s H E hr => (s_cons (s_set (i := 3) sc_named.nd rfl (.inl rfl) (k_lst (live := true) a_nil))
    (s_cons (s_for PassesOwn.never rfl (pi_enumerate (by rfl) T.Q5.z_enumerate (k_var 0)) (g_tup rfl (gs_cons (g_name (i := 4) sc_named.nd rfl (.inl rfl)) (gs_cons (g_name (i := 5) sc_named.nd rfl (.inl rfl)) gs_nil)))
      (s_one (s_if (PW.pt (w_and (t_cmp d_eq (o_eq hr.units) (k_ix (k_var 5) k_int) (k_var 2) (nomark _)) (w_and1 (PW.pt (w_or (t_cmp d_is o_is (k_var 1) k_non (nomark _)) (w_or1 (t_cmp d_eq (o_eq hr.units) (k_ix (k_var 5) k_int) (k_var 1) (nomark _))))))))
      (s_one (s_drop (k_bm d_app PySem.F.plainAttrs_list PySem.F.slot_list_append PySem.F.type_list_append mt_append (k_var 3) (a_cons (k_var 4) a_nil))))
      s_nil)))
    (s_one (s_ret (k_var 3)))))
theorem ok_locate (T : Txt K mg) : FnOk P w K mg base CX0 2 T.Q0.a_locate T.Q0.d_locate ["scope", "source", "name"] (spOf K (T.cw P w) m_locate) :=
  fn_ok T.Q0.F_locate sc_locate fun cdv A outer s H E hr => (s_cons (s_set (i := 3) sc_locate.nd rfl (.inl rfl) (k_var 0))
    (s_cons (s_while PassesOwn.never (t_cmp d_is o_isnot (k_var 3) k_non (nomark _))
      (s_cons (s_set (i := 4) sc_locate.nd rfl (.inl rfl) (k_call (ok_named T) (hr.mono (by first | decide | omega)) (by rfl) T.Q0.g_named T.Q0.F_named.kp T.Q0.b_named pass0 (a_cons (k_fld (cs_cons ⟨T.Q0.cl_Frame, T.Q0.n_Frame_columns⟩ (cs_cons ⟨T.Q0.cl_Source, T.Q0.n_Source_columns⟩ cs_nil)) (k_var 3)) (a_cons (k_var 1) (a_cons (k_var 2) a_nil)))))
    (s_cons (s_if (t_cmp d_gt op_gt (k_callB d_len c_len (by rfl) T.Q5.z_len bt_len (a_cons (k_var 4) a_nil)) k_int (nomark _))
      ss_never
      s_nil)
    (s_cons (s_if (t_cmp d_eq (o_eq hr.units) (k_callB d_len c_len (by rfl) T.Q5.z_len bt_len (a_cons (k_var 4) a_nil)) k_int (nomark _))
      (s_one (s_ret (k_tup (a_cons (k_var 3) (a_cons (k_ix (k_var 4) k_int) a_nil)))))
      s_nil)
    (s_one (s_set (i := 3) sc_locate.nd rfl (.inl rfl) (k_fld (cs_cons ⟨T.Q0.cl_Frame, T.Q0.n_Frame_outer⟩ cs_nil) (k_var 3))))))))
    (s_cons (s_if (t_cmp d_is o_is (k_var 1) k_non (nomark _))
      ss_never
      s_nil)
    ss_never)))
theorem ok_own_index (T : Txt K mg) : FnOk P w K mg base CX0 2 T.Q0.a_own_index T.Q0.d_own_index ["columns", "node"] (spOf K (T.cw P w) m_own_index) :=
  fn_ok T.Q0.F_own_index sc_own_index fun cdv A outer s H E hr => (s_cons (s_if (t_cmp d_eq (o_ne hr.units) (k_ix (k_var 1) k_int) k_str (nomark _))
      (s_one (s_ret k_non))
      s_nil)
    (s_cons (s_set (i := 2) sc_own_index.nd rfl (.inl rfl) (k_call (ok_named T) (hr.mono (by first | decide | omega)) (by rfl) T.Q0.g_named T.Q0.F_named.kp T.Q0.b_named pass0 (a_cons (k_var 0) (a_cons (k_ix (k_var 1) k_int) (a_cons (k_ix (k_var 1) k_int) a_nil)))))
    (s_cons (s_if (t_cmp d_eq (o_eq hr.units) (k_callB d_len c_len (by rfl) T.Q5.z_len bt_len (a_cons (k_var 2) a_nil)) k_int (nomark _))
      (s_one (s_ret (k_ix (k_var 2) k_int)))
      s_nil)
    (s_one (s_ret k_non)))))
theorem ok_operands (T : Txt K mg) : FnOk P w K mg base CX0 1 T.Q0.a_operands T.Q0.d_operands ["node"] (spOf K (T.cw P w) m_operands) :=
  fn_ok T.Q0.F_operands sc_operands fun cdv A outer s H E hr => (s_cons (s_set (i := 1) sc_operands.nd rfl (.inl rfl) (k_ix (k_var 0) k_int))
    (s_cons (s_if (t_cmp d_inG (o_inG (u65 hr)) (k_var 1) (k_tup (a_cons k_str (a_cons k_str (a_cons k_str (a_cons k_str a_nil))))) (by rfl))
      (s_one (s_ret (k_lst (live := false) (a_cons (k_ix (k_var 0) k_int) a_nil))))
      s_nil)
    (s_cons (s_if (t_cmp d_eq (o_eq hr.units) (k_var 1) k_str (nomark _))
      (s_one (s_ret (k_lst (live := false) (a_cons (k_ix (k_var 0) k_int) (a_cons (k_ix (k_var 0) k_int) a_nil)))))
      s_nil)
    (s_cons (s_if (t_cmp d_eq (o_eq hr.units) (k_var 1) k_str (nomark _))
      (s_one (s_ret (k_lst (live := false) (a_cons (k_ix (k_var 0) k_int) (a_star (k_ix (k_var 0) k_int) a_nil)))))
      s_nil)
    (s_cons (s_if (t_cmp d_eq (o_eq hr.units) (k_var 1) k_str (nomark _))
      (s_one (s_ret (k_lst (live := false) (a_cons (k_ix (k_var 0) k_int) (a_cons (k_ix (k_var 0) k_int) (a_cons (k_ix (k_var 0) k_int) a_nil))))))
      s_nil)
    (s_cons (s_if (t_cmp d_eq (o_eq hr.units) (k_var 1) k_str (nomark _))
      (s_one (s_ret (k_lst (live := false) (a_cons (k_ix (k_var 0) k_int) a_nil))))
      s_nil)
    (s_one (s_ret (k_lst (live := false) a_nil)))))))))
theorem ok_has_aggregate (T : Txt K mg) : ∀ n : Nat, FnOk P w K mg base CX0 (1 + n) T.Q1.a_has_aggregate T.Q1.d_has_aggregate ["node"] (spOf K (T.cw P w) (m_has_aggregate n))
  | 0 => fn_no
  | n + 1 => by
    have G_has_aggregate := ok_has_aggregate T n
    exact fn_ok (k := 1 + n) T.Q1.F_has_aggregate sc_has_aggregate fun cdv A outer s H E hr => (s_cons (s_if (t_cmp d_inG (o_inG (u65 hr)) (k_ix (k_var 0) k_int) (k_tup (a_cons k_str (a_cons k_str a_nil))) (by rfl))
      (s_one (s_ret k_bl))
      s_nil)
    (s_one (s_ret (k_callB d_any (cr_any rfl) (by rfl) T.Q5.z_any bt_any (a_cons (k_comp (own := [("part", 1)]) (live := false) rfl sc_has_aggregate.nd (pi_any (k_call (ok_operands T) (hr.mono (by first | decide | omega)) (by rfl) T.Q0.g_operands T.Q0.F_operands.kp T.Q0.b_operands pass0 (a_cons (k_var 0) a_nil))) (blkOk_by (own := [("part", 1)]) (N := ["node", "part"]) (sc := defScope s_has_aggregate) (by decide +kernel)) (fun _ _ _ _ _ => (g_name (i := 1) sc_has_aggregate.nd rfl (.inl rfl))) (fun _ _ _ _ _ => ts_nil) (fun _ _ _ _ _ => (k_call G_has_aggregate (hr.mono (by first | decide | omega)) (by rfl) T.Q1.g_has_aggregate T.Q1.F_has_aggregate.kp T.Q1.b_has_aggregate pass0 (a_cons (k_var 1) a_nil)))) a_nil)))))
theorem ok_is_grouping (T : Txt K mg) : FnOk P w K mg base CX0 42 T.Q1.a_is_grouping T.Q1.d_is_grouping ["select"] (spOf K (T.cw P w) m_is_grouping) :=
  fn_ok T.Q1.F_is_grouping sc_is_grouping fun cdv A outer s H E hr => (s_cons (s_if (PW.pt (w_or (t_cmp d_is o_isnot (k_ix (k_var 0) k_int) k_non (nomark _)) (w_or1 (t_cmp d_is o_isnot (k_ix (k_var 0) k_int) k_non (nomark _)))))
      (s_one (s_ret k_bl))
      s_nil)
    (s_one (s_ret (k_and (k_cmp d_is o_isnot (k_ix (k_var 0) k_int) k_non (nomark _)) (k_one (k_callB d_any (cr_any rfl) (by rfl) T.Q5.z_any bt_any (a_cons (k_comp (own := [("item", 1)]) (live := false) rfl sc_is_grouping.nd (pi_any (k_ix (k_var 0) k_int)) (blkOk_by (own := [("item", 1)]) (N := ["select", "item"]) (sc := defScope s_is_grouping) (by decide +kernel)) (fun _ _ _ _ _ => (g_name (i := 1) sc_is_grouping.nd rfl (.inl rfl))) (fun _ _ _ _ _ => ts_nil) (fun _ _ _ _ _ => (k_call (ok_has_aggregate T 40) (hr.mono (by first | decide | omega)) (by rfl) T.Q1.g_has_aggregate T.Q1.F_has_aggregate.kp T.Q1.b_has_aggregate pass0 (a_cons (k_ix (k_var 1) k_int) a_nil)))) a_nil)))))))
theorem ok_item_name (T : Txt K mg) : FnOk P w K mg base CX0 1 T.Q1.a_item_name T.Q1.d_item_name ["item"] (spOf K (T.cw P w) m_item_name) :=
  fn_ok T.Q1.F_item_name sc_item_name fun cdv A outer s H E hr => (s_cons (s_asg (k_var 0) (g_tup rfl (gs_cons (g_name (i := 1) sc_item_name.nd rfl (.inl rfl)) (gs_cons (g_name (i := 2) sc_item_name.nd rfl (.inl rfl)) gs_nil))))
    (s_cons (s_if (t_cmp d_is o_isnot (k_var 2) k_non (nomark _))
      (s_one (s_ret (k_var 2)))
      s_nil)
    (s_cons (s_if (t_cmp d_eq (o_eq hr.units) (k_ix (k_var 1) k_int) k_str (nomark _))
      (s_one (s_ret (k_ix (k_var 1) k_int)))
      s_nil)
    (s_one (s_ret k_str)))))
theorem ok_known_as (T : Txt K mg) : FnOk P w K mg base CX0 1 T.Q1.a_known_as T.Q1.d_known_as ["source"] (spOf K (T.cw P w) m_known_as) :=
  fn_ok T.Q1.F_known_as sc_known_as fun cdv A outer s H E hr => (s_cons (s_if (t_cmp d_is o_is (k_ix (k_var 0) k_int) k_non (nomark _))
      (s_one (s_ret (k_ix (k_var 0) k_int)))
      s_nil)
    (s_one (s_ret (k_ix (k_var 0) k_int))))
theorem ok_value_key (T : Txt K mg) : FnOk P w K mg base CX0 1 T.Q1.a_value_key T.Q1.d_value_key ["value"] (spOf K (T.cw P w) m_value_key) :=
  fn_ok T.Q1.F_value_key sc_value_key fun cdv A outer s H E hr => (s_cons (s_if (t_cmp d_is o_is (k_var 0) k_non (nomark _))
      (s_one (s_ret (k_tup (a_cons k_int a_nil))))
      s_nil)
    (s_cons (s_if (t_val (k_isi (k_var 0) (by rfl) T.Q5.z_isinstance (by rfl) T.Q5.z_bool bt_bool))
      (s_one (s_ret (k_tup (a_cons k_int (a_cons (k_callT d_int c_int (by rfl) T.Q5.z_int bt_int (a_cons (k_var 0) a_nil)) a_nil)))))
      s_nil)
    (s_cons (s_if (t_val (k_isi (k_var 0) (by rfl) T.Q5.z_isinstance (by rfl) T.Q5.z_int bt_int))
      (s_one (s_ret (k_tup (a_cons k_int (a_cons (k_var 0) a_nil)))))
      s_nil)
    (s_one (s_ret (k_tup (a_cons k_int (a_cons (k_var 0) a_nil))))))))
theorem ok_row_key (T : Txt K mg) : FnOk P w K mg base CX0 4 T.Q1.a_row_key T.Q1.d_row_key ["row"] (spOf K (T.cw P w) m_row_key) :=
  fn_ok T.Q1.F_row_key sc_row_key fun cdv A outer s H E hr => (s_cons (s_set (i := 1) sc_row_key.nd rfl (.inl rfl) (k_lst (live := true) a_nil))
    (s_cons (s_for PassesOwn.never rfl (pi_any (k_var 0)) (g_name (i := 2) sc_row_key.nd rfl (.inl rfl))
      (s_one (s_drop (k_bm d_ext PySem.F.plainAttrs_list PySem.F.slot_list_extend PySem.F.type_list_extend mt_extG (k_var 1) (a_cons (k_call (ok_value_key T) (hr.mono (by first | decide | omega)) (by rfl) T.Q1.g_value_key T.Q1.F_value_key.kp T.Q1.b_value_key pass0 (a_cons (k_var 2) a_nil)) a_nil)))))
    (s_one (s_ret (k_callT d_tuple c_tuple (by rfl) T.Q5.z_tuple bt_tuple (a_cons (k_var 1) a_nil))))))
theorem ok_same (T : Txt K mg) : FnOk P w K mg base CX0 4 T.Q1.a_same T.Q1.d_same ["first", "second"] (spOf K (T.cw P w) m_same) :=
  fn_ok T.Q1.F_same sc_same fun cdv A outer s H E hr => (s_one (s_ret (k_cmp d_eq (o_eq hr.units) (k_call (ok_value_key T) (hr.mono (by first | decide | omega)) (by rfl) T.Q1.g_value_key T.Q1.F_value_key.kp T.Q1.b_value_key pass0 (a_cons (k_var 0) a_nil)) (k_call (ok_value_key T) (hr.mono (by first | decide | omega)) (by rfl) T.Q1.g_value_key T.Q1.F_value_key.kp T.Q1.b_value_key pass0 (a_cons (k_var 1) a_nil)) (nomark _))))
theorem ok_bounded (T : Txt K mg) : FnOk P w K mg base CX0 1 T.Q1.a_bounded T.Q1.d_bounded ["number"] (spOf K (T.cw P w) m_bounded) :=
  fn_ok T.Q1.F_bounded sc_bounded fun cdv A outer s H E hr => (s_cons (s_if (t_cmp d_ge op_ge (k_callB d_abs c_abs (by rfl) T.Q5.z_abs bt_abs (a_cons (k_var 0) a_nil)) (k_glob (by rfl) T.Q5.g_BOUND T.Q5.r_BOUND (fun F => T.Q5.q_BOUND F (T.cw P w))) (nomark _))
      (s_one (s_ret k_non))
      s_nil)
    (s_one (s_ret (k_var 0))))
theorem ok_quotient (T : Txt K mg) : FnOk P w K mg base CX0 1 T.Q1.a_quotient T.Q1.d_quotient ["first", "second"] (spOf K (T.cw P w) m_quotient) :=
  fn_ok T.Q1.F_quotient sc_quotient fun cdv A outer s H E hr => (s_cons (s_set (i := 2) sc_quotient.nd rfl (.inl rfl) (k_op d_div op_fdivW (k_callB d_abs c_abs (by rfl) T.Q5.z_abs bt_abs (a_cons (k_var 0) a_nil)) (k_callB d_abs c_abs (by rfl) T.Q5.z_abs bt_abs (a_cons (k_var 1) a_nil))))
    (s_cons (s_if (t_cmp d_eq (o_ne hr.units) (k_cmp d_lt op_lt (k_var 0) k_int (nomark _)) (k_cmp d_lt op_lt (k_var 1) k_int (nomark _)) (nomark _))
      (s_one (s_ret (k_un d_neg un_neg (k_var 2))))
      s_nil)
    (s_one (s_ret (k_var 2)))))
theorem ok_arithmetic (T : Txt K mg) : FnOk P w K mg base CX0 2 T.Q2.a_arithmetic T.Q2.d_arithmetic ["operator", "first", "second"] (spOf K (T.cw P w) m_arithmetic) :=
  fn_ok T.Q2.F_arithmetic sc_arithmetic fun cdv A outer s H E hr => (s_cons (s_if (PW.pt (w_or (t_cmp d_is o_is (k_var 1) k_non (nomark _)) (w_or1 (t_cmp d_is o_is (k_var 2) k_non (nomark _)))))
      (s_one (s_ret k_non))
      s_nil)
    (s_cons (s_if (t_cmp d_eq (o_eq hr.units) (k_var 0) k_str (nomark _))
      (s_cons (s_set (i := 3) sc_arithmetic.nd rfl (.inl rfl) (k_op d_add o_add (k_var 1) (k_var 2)))
    (s_cons (s_if (t_cmp d_gt op_gt (k_callB d_len c_len (by rfl) T.Q5.z_len bt_len (a_cons (k_var 3) a_nil)) (k_glob (by rfl) T.Q6.g_LONGESTTEXT T.Q6.r_LONGESTTEXT (fun F => T.Q6.q_LONGESTTEXT F (T.cw P w))) (nomark _))
      (s_one (s_ret k_non))
      s_nil)
    (s_one (s_ret (k_var 3)))))
      s_nil)
    (s_cons (s_if (t_cmp d_eq (o_eq hr.units) (k_var 0) k_str (nomark _))
      (s_one (s_ret (k_call (ok_bounded T) (hr.mono (by first | decide | omega)) (by rfl) T.Q1.g_bounded T.Q1.F_bounded.kp T.Q1.b_bounded pass0 (a_cons (k_op d_add o_add (k_var 1) (k_var 2)) a_nil))))
      s_nil)
    (s_cons (s_if (t_cmp d_eq (o_eq hr.units) (k_var 0) k_str (nomark _))
      (s_one (s_ret (k_call (ok_bounded T) (hr.mono (by first | decide | omega)) (by rfl) T.Q1.g_bounded T.Q1.F_bounded.kp T.Q1.b_bounded pass0 (a_cons (k_op d_sub op_sub (k_var 1) (k_var 2)) a_nil))))
      s_nil)
    (s_cons (s_if (t_cmp d_eq (o_eq hr.units) (k_var 0) k_str (nomark _))
      (s_one (s_ret (k_call (ok_bounded T) (hr.mono (by first | decide | omega)) (by rfl) T.Q1.g_bounded T.Q1.F_bounded.kp T.Q1.b_bounded pass0 (a_cons (k_op d_mul op_mulG (k_var 1) (k_var 2)) a_nil))))
      s_nil)
    (s_cons (s_if (t_cmp d_eq (o_eq hr.units) (k_var 2) k_int (nomark _))
      (s_one (s_ret k_non))
      s_nil)
    (s_cons (s_if (t_cmp d_eq (o_eq hr.units) (k_var 0) k_str (nomark _))
      (s_one (s_ret (k_call (ok_quotient T) (hr.mono (by first | decide | omega)) (by rfl) T.Q1.g_quotient T.Q1.F_quotient.kp T.Q1.b_quotient pass0 (a_cons (k_var 1) (a_cons (k_var 2) a_nil)))))
      s_nil)
    (s_one (s_ret (k_op d_sub op_sub (k_var 1) (k_op d_mul op_mulG (k_call (ok_quotient T) (hr.mono (by first | decide | omega)) (by rfl) T.Q1.g_quotient T.Q1.F_quotient.kp T.Q1.b_quotient pass0 (a_cons (k_var 1) (a_cons (k_var 2) a_nil))) (k_var 2))))))))))))
theorem ok_compare (T : Txt K mg) : FnOk P w K mg base CX0 4 T.Q2.a_compare T.Q2.d_compare ["operator", "first", "second"] (spOf K (T.cw P w) m_compare) :=
  fn_ok T.Q2.F_compare sc_compare fun cdv A outer s H E hr => (s_cons (s_if (PW.pt (w_or (t_cmp d_is o_is (k_var 1) k_non (nomark _)) (w_or1 (t_cmp d_is o_is (k_var 2) k_non (nomark _)))))
      (s_one (s_ret k_non))
      s_nil)
    (s_cons (s_set (i := 3) sc_compare.nd rfl (.inl rfl) (k_call (ok_value_key T) (hr.mono (by first | decide | omega)) (by rfl) T.Q1.g_value_key T.Q1.F_value_key.kp T.Q1.b_value_key pass0 (a_cons (k_var 1) a_nil)))
    (s_cons (s_set (i := 4) sc_compare.nd rfl (.inl rfl) (k_call (ok_value_key T) (hr.mono (by first | decide | omega)) (by rfl) T.Q1.g_value_key T.Q1.F_value_key.kp T.Q1.b_value_key pass0 (a_cons (k_var 2) a_nil)))
    (s_cons (s_if (t_cmp d_eq (o_eq hr.units) (k_var 0) k_str (nomark _))
      (s_one (s_ret (k_cmp d_eq (o_eq hr.units) (k_var 3) (k_var 4) (nomark _))))
      s_nil)
    (s_cons (s_if (t_cmp d_eq (o_eq hr.units) (k_var 0) k_str (nomark _))
      (s_one (s_ret (k_cmp d_eq (o_ne hr.units) (k_var 3) (k_var 4) (nomark _))))
      s_nil)
    (s_cons (s_if (t_cmp d_eq (o_eq hr.units) (k_var 0) k_str (nomark _))
      (s_one (s_ret (k_cmp d_ltD (o_ltD (u65 hr)) (k_var 3) (k_var 4) (nomark _))))
      s_nil)
    (s_cons (s_if (t_cmp d_eq (o_eq hr.units) (k_var 0) k_str (nomark _))
      (s_one (s_ret (k_cmp d_leD (o_leD (u65 hr)) (k_var 3) (k_var 4) (nomark _))))
      s_nil)
    (s_cons (s_if (t_cmp d_eq (o_eq hr.units) (k_var 0) k_str (nomark _))
      (s_one (s_ret (k_cmp d_gtD (o_gtD (u65 hr)) (k_var 3) (k_var 4) (nomark _))))
      s_nil)
    (s_one (s_ret (k_cmp d_geD (o_geD (u65 hr)) (k_var 3) (k_var 4) (nomark _))))))))))))
theorem ok_negation (T : Txt K mg) : FnOk P w K mg base CX0 1 T.Q2.a_negation T.Q2.d_negation ["value"] (spOf K (T.cw P w) m_negation) :=
  fn_ok T.Q2.F_negation sc_negation fun cdv A outer s H E hr => (s_cons (s_if (t_cmp d_is o_is (k_var 0) k_non (nomark _))
      (s_one (s_ret k_non))
      s_nil)
    (s_one (s_ret (k_not (k_var 0)))))
theorem ok_conjunction (T : Txt K mg) : FnOk P w K mg base CX0 1 T.Q2.a_conjunction T.Q2.d_conjunction ["first", "second"] (spOf K (T.cw P w) m_conjunction) :=
  fn_ok T.Q2.F_conjunction sc_conjunction fun cdv A outer s H E hr => (s_cons (s_if (PW.pt (w_or (t_cmp d_is o_is (k_var 0) k_bl (nomark _)) (w_or1 (t_cmp d_is o_is (k_var 1) k_bl (nomark _)))))
      (s_one (s_ret k_bl))
      s_nil)
    (s_cons (s_if (PW.pt (w_or (t_cmp d_is o_is (k_var 0) k_non (nomark _)) (w_or1 (t_cmp d_is o_is (k_var 1) k_non (nomark _)))))
      (s_one (s_ret k_non))
      s_nil)
    (s_one (s_ret k_bl))))
theorem ok_disjunction (T : Txt K mg) : FnOk P w K mg base CX0 1 T.Q2.a_disjunction T.Q2.d_disjunction ["first", "second"] (spOf K (T.cw P w) m_disjunction) :=
  fn_ok T.Q2.F_disjunction sc_disjunction fun cdv A outer s H E hr => (s_cons (s_if (PW.pt (w_or (t_cmp d_is o_is (k_var 0) k_bl (nomark _)) (w_or1 (t_cmp d_is o_is (k_var 1) k_bl (nomark _)))))
      (s_one (s_ret k_bl))
      s_nil)
    (s_cons (s_if (PW.pt (w_or (t_cmp d_is o_is (k_var 0) k_non (nomark _)) (w_or1 (t_cmp d_is o_is (k_var 1) k_non (nomark _)))))
      (s_one (s_ret k_non))
      s_nil)
    (s_one (s_ret k_bl))))
theorem ok_without_repeats (T : Txt K mg) : FnOk P w K mg base CX0 5 T.Q3.a_without_repeats T.Q3.d_without_repeats ["rows"] (spOf K (T.cw P w) m_without_repeats) :=
  fn_ok T.Q3.F_without_repeats sc_without_repeats fun cdv A outer s H E hr => (ss_pre 2 (s_cons (s_set (i := 1) sc_without_repeats.nd rfl (.inl rfl) (k_nnew (live := true)))
    (s_one (s_for PassesOwn.never rfl (pi_any (k_var 0)) (g_name (i := 2) sc_without_repeats.nd rfl (.inl rfl))
      (s_one (s_drop (k_nm d_nsetd PySem.F.slot_dict_setdefault PySem.F.type_dict_setdefault (m_nsetd (u10 hr)) (k_var 1) (a_cons (k_call (ok_row_key T) (hr.mono (by first | decide | omega)) (by rfl) T.Q1.g_row_key T.Q1.F_row_key.kp T.Q1.b_row_key pass0 (a_cons (k_var 2) a_nil)) (a_cons (k_var 2) a_nil))))))))
    (s_one (s_ret (k_listV (live := false) rfl (k_var 1) (by rfl) T.Q5.z_list))))
theorem ok_table_result (T : Txt K mg) : FnOk P w K mg base CX0 2 T.Q3.a_table_result T.Q3.d_table_result ["source", "world"] (spOf K (T.cw P w) m_table_result) :=
  fn_ok T.Q3.F_table_result sc_table_result fun cdv A outer s H E hr => (s_cons (s_set (i := 2) sc_table_result.nd rfl (.inl rfl) (k_kix (u1 hr) (k_fld (cs_cons ⟨T.Q0.cl_World, T.Q0.n_World_sources⟩ cs_nil) (k_var 1)) (k_ix (k_var 0) k_int) (fun _ _ => rfl)))
    (s_one (s_ret (k_tup (a_cons (k_comp (own := [("name", 3)]) (live := false) rfl sc_table_result.nd (pi_any (k_fld (cs_cons ⟨T.Q0.cl_Frame, T.Q0.n_Frame_columns⟩ (cs_cons ⟨T.Q0.cl_Source, T.Q0.n_Source_columns⟩ cs_nil)) (k_var 2))) (blkOk_by (own := [("name", 3)]) (N := ["source", "world", "table", "name"]) (sc := defScope s_table_result) (by decide +kernel)) (fun _ _ _ _ _ => (g_name (i := 3) sc_table_result.nd rfl (.inl rfl))) (fun _ _ _ _ _ => ts_nil) (fun _ _ _ _ _ => (k_tup (a_cons (k_call (ok_known_as T) (hr.mono (by first | decide | omega)) (by rfl) T.Q1.g_known_as T.Q1.F_known_as.kp T.Q1.b_known_as pass0 (a_cons (k_var 0) a_nil)) (a_cons (k_var 3) a_nil))))) (a_cons (k_callT (d_list (live := false)) c_list (by rfl) T.Q5.z_list bt_list (a_cons (k_fld (cs_cons ⟨T.Q0.cl_Source, T.Q0.n_Source_rows⟩ cs_nil) (k_var 2)) a_nil)) a_nil))))))
theorem ok_grouped_frames (T : Txt K mg) : FnOk P w K mg base CX0 5 T.Q3.a_grouped_frames T.Q3.d_grouped_frames ["select", "columns", "rows", "outer"] (spOf K (T.cw P w) m_grouped_frames) :=
  fn_ok T.Q3.F_grouped_frames sc_grouped_frames fun cdv A outer s H E hr => (s_cons (s_if (t_cmp d_is o_is (k_ix (k_var 0) k_int) k_non (nomark _))
      (s_cons (s_set (i := 4) sc_grouped_frames.nd rfl (.inl rfl) (k_tup a_nil))
    (s_cons (s_if (t_cmp d_gt op_gt (k_callB d_len c_len (by rfl) T.Q5.z_len bt_len (a_cons (k_var 2) a_nil)) k_int (nomark _))
      (s_one (s_set (i := 4) sc_grouped_frames.nd rfl (.inl rfl) (k_ix (k_var 2) k_int)))
      s_nil)
    (s_one (s_ret (k_lst (live := false) (a_cons (k_make (live := false) (c := 1) T.Q0.M_Frame (ok_Frame_init T) (hr.mono (by first | decide | omega)) (by rfl) T.Q0.g_Frame T.Q0.b_Frame_init pass0 (a_cons (k_var 1) (a_cons (k_var 4) (a_cons (k_var 2) (a_cons (k_var 3) a_nil))))) a_nil))))))
      s_nil)
    (s_cons (s_setComp (i := 5) (own := [("node", 8)]) (live := false) rfl sc_grouped_frames.nd rfl rfl (sw_true rfl rfl rfl (by decide +kernel)) (pi_any (k_ix (k_var 0) k_int)) (blkOk_by (own := [("node", 8)]) (N := ["select", "columns", "rows", "outer", "first", "indexes", "groups", "row", "node", "members", "index"]) (sc := defScope s_grouped_frames) (by decide +kernel)) (fun _ _ _ _ _ => (g_name (i := 8) sc_grouped_frames.nd rfl (.inl rfl))) (fun _ _ _ _ _ => ts_nil) (fun _ _ _ _ _ => (k_call (ok_own_index T) (hr.mono (by first | decide | omega)) (by rfl) T.Q0.g_own_index T.Q0.F_own_index.kp T.Q0.b_own_index pass0 (a_cons (k_var 1) (a_cons (k_var 8) a_nil)))))
    (ss_pre 2 (s_cons (s_set (i := 6) sc_grouped_frames.nd rfl (.inl rfl) (k_nnew (live := true)))
    (s_one (s_for PassesOwn.never rfl (pi_any (k_var 2)) (g_name (i := 7) sc_grouped_frames.nd rfl (.inr rfl))
      (s_one (s_drop (k_bm d_app PySem.F.plainAttrs_list PySem.F.slot_list_append PySem.F.type_list_append mt_append (k_nm d_nsetd PySem.F.slot_dict_setdefault PySem.F.type_dict_setdefault (m_nsetd (u10 hr)) (k_var 6) (a_cons (k_call (ok_row_key T) (hr.mono (by first | decide | omega)) (by rfl) T.Q1.g_row_key T.Q1.F_row_key.kp T.Q1.b_row_key pass0 (a_cons (k_comp (own := [("index", 10)]) (live := false) rfl sc_grouped_frames.nd (pi_any (k_var 5)) (blkOk_by (own := [("index", 10)]) (N := ["select", "columns", "rows", "outer", "first", "indexes", "groups", "row", "node", "members", "index"]) (sc := defScope s_grouped_frames) (by decide +kernel)) (fun _ _ _ _ _ => (g_name (i := 10) sc_grouped_frames.nd rfl (.inl rfl))) (fun _ _ _ _ _ => ts_nil) (fun _ _ _ _ _ => (k_ix (k_var 7) (k_var 10)))) a_nil)) (a_cons (k_lst (live := true) a_nil) a_nil))) (a_cons (k_var 7) a_nil)))))))
    (s_one (s_ret (k_compD (own := [("members", 9)]) (live := false) rfl sc_grouped_frames.nd (w_values (k_var 6)) (blkOk_by (own := [("members", 9)]) (N := ["select", "columns", "rows", "outer", "first", "indexes", "groups", "row", "node", "members", "index"]) (sc := defScope s_grouped_frames) (by decide +kernel)) (fun _ _ _ _ _ => (g_name (i := 9) sc_grouped_frames.nd rfl (.inl rfl))) (fun _ _ _ _ _ => ts_nil) (fun _ _ _ _ _ => (k_make (live := false) (c := 1) T.Q0.M_Frame (ok_Frame_init T) (hr.mono (by first | decide | omega)) (by rfl) T.Q0.g_Frame T.Q0.b_Frame_init pass0 (a_cons (k_var 1) (a_cons (k_ix (k_var 9) k_int) (a_cons (k_var 9) (a_cons (k_var 3) a_nil))))))))))))
theorem ok_is_among (T : Txt K mg) : FnOk P w K mg base CX0 5 T.Q2.a_is_among T.Q2.d_is_among ["value", "column"] (spOf K (T.cw P w) m_is_among) :=
  fn_ok T.Q2.F_is_among sc_is_among fun cdv A outer s H E hr => (s_cons (s_if (t_cmp d_eq (o_eq hr.units) (k_callB d_len c_len (by rfl) T.Q5.z_len bt_len (a_cons (k_var 1) a_nil)) k_int (nomark _))
      (s_one (s_ret k_bl))
      s_nil)
    (s_cons (s_if (t_cmp d_is o_is (k_var 0) k_non (nomark _))
      (s_one (s_ret k_non))
      s_nil)
    (s_cons (s_if (t_val (k_callB d_any (cr_any rfl) (by rfl) T.Q5.z_any bt_any (a_cons (k_comp (own := [("other", 2)]) (live := false) rfl sc_is_among.nd (pi_any (k_var 1)) (blkOk_by (own := [("other", 2)]) (N := ["value", "column", "other"]) (sc := defScope s_is_among) (by decide +kernel)) (fun _ _ _ _ _ => (g_name (i := 2) sc_is_among.nd rfl (.inl rfl))) (fun _ _ _ _ _ => ts_nil) (fun _ _ _ _ _ => (k_call (ok_same T) (hr.mono (by first | decide | omega)) (by rfl) T.Q1.g_same T.Q1.F_same.kp T.Q1.b_same pass0 (a_cons (k_var 0) (a_cons (k_var 2) a_nil))))) a_nil)))
      (s_one (s_ret k_bl))
      s_nil)
    (s_cons (s_if (t_val (k_callB d_any (cr_any rfl) (by rfl) T.Q5.z_any bt_any (a_cons (k_comp (own := [("other", 2)]) (live := false) rfl sc_is_among.nd (pi_any (k_var 1)) (blkOk_by (own := [("other", 2)]) (N := ["value", "column", "other"]) (sc := defScope s_is_among) (by decide +kernel)) (fun _ _ _ _ _ => (g_name (i := 2) sc_is_among.nd rfl (.inl rfl))) (fun _ _ _ _ _ => ts_nil) (fun _ _ _ _ _ => (k_cmp d_is o_is (k_var 2) k_non (nomark _)))) a_nil)))
      (s_one (s_ret k_non))
      s_nil)
    (s_one (s_ret k_bl))))))
theorem ok_combined (T : Txt K mg) : FnOk P w K mg base CX0 5 T.Q2.a_combined T.Q2.d_combined ["operator", "first", "second"] (spOf K (T.cw P w) m_combined) :=
  fn_ok T.Q2.F_combined sc_combined fun cdv A outer s H E hr => (s_cons (s_if (t_cmp d_eq (o_eq hr.units) (k_var 0) k_str (nomark _))
      (s_one (s_ret (k_call (ok_conjunction T) (hr.mono (by first | decide | omega)) (by rfl) T.Q2.g_conjunction T.Q2.F_conjunction.kp T.Q2.b_conjunction pass0 (a_cons (k_var 1) (a_cons (k_var 2) a_nil)))))
      s_nil)
    (s_cons (s_if (t_cmp d_eq (o_eq hr.units) (k_var 0) k_str (nomark _))
      (s_one (s_ret (k_call (ok_disjunction T) (hr.mono (by first | decide | omega)) (by rfl) T.Q2.g_disjunction T.Q2.F_disjunction.kp T.Q2.b_disjunction pass0 (a_cons (k_var 1) (a_cons (k_var 2) a_nil)))))
      s_nil)
    (s_cons (s_if (t_cmp d_inG (o_inG (u65 hr)) (k_var 0) (k_glob (by rfl) T.Q6.g_COMPARISONS T.Q6.r_COMPARISONS (fun F => T.Q6.q_COMPARISONS F (T.cw P w))) (by rfl))
      (s_one (s_ret (k_call (ok_compare T) (hr.mono (by first | decide | omega)) (by rfl) T.Q2.g_compare T.Q2.F_compare.kp T.Q2.b_compare pass0 (a_cons (k_var 0) (a_cons (k_var 1) (a_cons (k_var 2) a_nil))))))
      s_nil)
    (s_one (s_ret (k_call (ok_arithmetic T) (hr.mono (by first | decide | omega)) (by rfl) T.Q2.g_arithmetic T.Q2.F_arithmetic.kp T.Q2.b_arithmetic pass0 (a_cons (k_var 0) (a_cons (k_var 1) (a_cons (k_var 2) a_nil)))))))))
mutual
theorem ok_aggregate (T : Txt K mg) : ∀ n : Nat, FnOk P w K mg base CX0 (42 + n) T.Q3.a_aggregate T.Q3.d_aggregate ["node", "frame", "world"] (spOf K (T.cw P w) (m_aggregate n))
  | 0 => fn_no
  | n + 1 => by
    have G_aggregate := ok_aggregate T n
    have G_membership := ok_membership T n
    have G_kept_frames := ok_kept_frames T n
    have G_source_result := ok_source_result T n
    have G_made_row := ok_made_row T n
    have G_select_result := ok_select_result T n
    have G_result_of := ok_result_of T n
    have G_value_of := ok_value_of T n
    exact fn_ok (k := 42 + n) T.Q3.F_aggregate sc_aggregate fun cdv A outer s H E hr => (s_cons (s_if (t_cmp d_eq (o_eq hr.units) (k_ix (k_var 0) k_int) k_str (nomark _))
      (s_one (s_ret (k_callB d_len c_len (by rfl) T.Q5.z_len bt_len (a_cons (k_fld (cs_cons ⟨T.Q0.cl_Frame, T.Q0.n_Frame_members⟩ cs_nil) (k_var 1)) a_nil))))
      s_nil)
    (s_cons (s_set (i := 3) sc_aggregate.nd rfl (.inl rfl) (k_lst (live := true) a_nil))
    (s_cons (s_for PassesOwn.never rfl (pi_any (k_fld (cs_cons ⟨T.Q0.cl_Frame, T.Q0.n_Frame_members⟩ cs_nil) (k_var 1))) (g_name (i := 4) sc_aggregate.nd rfl (.inl rfl))
      (s_cons (s_set (i := 5) sc_aggregate.nd rfl (.inl rfl) (k_call G_value_of (hr.mono (by first | decide | omega)) (by rfl) T.Q2.g_value_of T.Q2.F_value_of.kp T.Q2.b_value_of pass0 (a_cons (k_ix (k_var 0) k_int) (a_cons (k_make (live := false) (c := 1) T.Q0.M_Frame (ok_Frame_init T) (hr.mono (by first | decide | omega)) (by rfl) T.Q0.g_Frame T.Q0.b_Frame_init pass0 (a_cons (k_fld (cs_cons ⟨T.Q0.cl_Frame, T.Q0.n_Frame_columns⟩ (cs_cons ⟨T.Q0.cl_Source, T.Q0.n_Source_columns⟩ cs_nil)) (k_var 1)) (a_cons (k_var 4) (a_cons k_non (a_cons (k_fld (cs_cons ⟨T.Q0.cl_Frame, T.Q0.n_Frame_outer⟩ cs_nil) (k_var 1)) a_nil))))) (a_cons (k_var 2) a_nil)))))
    (s_one (s_if (t_cmp d_is o_isnot (k_var 5) k_non (nomark _))
      (s_one (s_drop (k_bm d_app PySem.F.plainAttrs_list PySem.F.slot_list_append PySem.F.type_list_append mt_append (k_var 3) (a_cons (k_var 5) a_nil))))
      s_nil))))
    (s_cons (s_if (t_cmp d_eq (o_eq hr.units) (k_ix (k_var 0) k_int) k_str (nomark _))
      (s_one (s_ret (k_callB d_len c_len (by rfl) T.Q5.z_len bt_len (a_cons (k_var 3) a_nil))))
      s_nil)
    (s_cons (s_if (t_cmp d_eq (o_eq hr.units) (k_callB d_len c_len (by rfl) T.Q5.z_len bt_len (a_cons (k_var 3) a_nil)) k_int (nomark _))
      (s_one (s_ret k_non))
      s_nil)
    (s_cons (s_if (t_cmp d_eq (o_eq hr.units) (k_ix (k_var 0) k_int) k_str (nomark _))
      (s_one (s_ret (k_call (ok_bounded T) (hr.mono (by first | decide | omega)) (by rfl) T.Q1.g_bounded T.Q1.F_bounded.kp T.Q1.b_bounded pass0 (a_cons (k_callB d_sum (c_sum rfl) (by rfl) T.Q5.z_sum bt_sum (a_cons (k_var 3) a_nil)) a_nil))))
      s_nil)
    (s_cons (s_set (i := 3) sc_aggregate.nd rfl (.inl rfl) (k_sortK (live := true) (ok_value_key T) (hr.mono (by first | decide | omega)) (by rfl) T.Q5.z_sorted bt_sorted (by rfl) T.Q1.g_value_key T.Q1.b_value_key (k_var 3)))
    (s_cons (s_if (t_cmp d_eq (o_eq hr.units) (k_ix (k_var 0) k_int) k_str (nomark _))
      (s_one (s_ret (k_ix (k_var 3) k_int)))
      s_nil)
    (s_one (s_ret (k_ix (k_var 3) (k_un d_neg un_neg k_int))))))))))))
theorem ok_membership (T : Txt K mg) : ∀ n : Nat, FnOk P w K mg base CX0 (42 + n) T.Q2.a_membership T.Q2.d_membership ["node", "frame", "world"] (spOf K (T.cw P w) (m_membership n))
  | 0 => fn_no
  | n + 1 => by
    have G_aggregate := ok_aggregate T n
    have G_membership := ok_membership T n
    have G_kept_frames := ok_kept_frames T n
    have G_source_result := ok_source_result T n
    have G_made_row := ok_made_row T n
    have G_select_result := ok_select_result T n
    have G_result_of := ok_result_of T n
    have G_value_of := ok_value_of T n
    exact fn_ok (k := 42 + n) T.Q2.F_membership sc_membership fun cdv A outer s H E hr => (s_cons (s_set (i := 3) sc_membership.nd rfl (.inl rfl) (k_call G_value_of (hr.mono (by first | decide | omega)) (by rfl) T.Q2.g_value_of T.Q2.F_value_of.kp T.Q2.b_value_of pass0 (a_cons (k_ix (k_var 0) k_int) (a_cons (k_var 1) (a_cons (k_var 2) a_nil)))))
    (s_cons (s_if (t_cmp d_eq (o_eq hr.units) (k_ix (k_var 0) k_int) k_str (nomark _))
      (s_cons (s_set (i := 4) sc_membership.nd rfl (.inl rfl) k_bl)
    (s_one (s_for PassesOwn.never rfl (pi_any (k_ix (k_var 0) k_int)) (g_name (i := 5) sc_membership.nd rfl (.inl rfl))
      (s_one (s_set (i := 4) sc_membership.nd rfl (.inl rfl) (k_call (ok_disjunction T) (hr.mono (by first | decide | omega)) (by rfl) T.Q2.g_disjunction T.Q2.F_disjunction.kp T.Q2.b_disjunction pass0 (a_cons (k_var 4) (a_cons (k_call (ok_compare T) (hr.mono (by first | decide | omega)) (by rfl) T.Q2.g_compare T.Q2.F_compare.kp T.Q2.b_compare pass0 (a_cons k_str (a_cons (k_var 3) (a_cons (k_call G_value_of (hr.mono (by first | decide | omega)) (by rfl) T.Q2.g_value_of T.Q2.F_value_of.kp T.Q2.b_value_of pass0 (a_cons (k_var 5) (a_cons (k_var 1) (a_cons (k_var 2) a_nil)))) a_nil)))) a_nil))))))))
      (s_one (s_set (i := 4) sc_membership.nd rfl (.inl rfl) (k_call (ok_is_among T) (hr.mono (by first | decide | omega)) (by rfl) T.Q2.g_is_among T.Q2.F_is_among.kp T.Q2.b_is_among pass0 (a_cons (k_var 3) (a_cons (k_comp (own := [("row", 6)]) (live := false) rfl sc_membership.nd (pi_any (k_ix (k_call G_result_of (hr.mono (by first | decide | omega)) (by rfl) T.Q3.g_result_of T.Q3.F_result_of.kp T.Q3.b_result_of pass0 (a_cons (k_ix (k_var 0) k_int) (a_cons (k_var 1) (a_cons (k_var 2) a_nil)))) k_int)) (blkOk_by (own := [("row", 6)]) (N := ["node", "frame", "world", "value", "found", "item", "row"]) (sc := defScope s_membership) (by decide +kernel)) (fun _ _ _ _ _ => (g_name (i := 6) sc_membership.nd rfl (.inl rfl))) (fun _ _ _ _ _ => ts_nil) (fun _ _ _ _ _ => (k_ix (k_var 6) k_int))) a_nil))))))
    (s_cons (s_if (t_tru (k_ix (k_var 0) k_int))
      (s_one (s_ret (k_call (ok_negation T) (hr.mono (by first | decide | omega)) (by rfl) T.Q2.g_negation T.Q2.F_negation.kp T.Q2.b_negation pass0 (a_cons (k_var 4) a_nil))))
      s_nil)
    (s_one (s_ret (k_var 4))))))
theorem ok_kept_frames (T : Txt K mg) : ∀ n : Nat, FnOk P w K mg base CX0 (42 + n) T.Q3.a_kept_frames T.Q3.d_kept_frames ["condition", "frames", "world"] (spOf K (T.cw P w) (m_kept_frames n))
  | 0 => fn_no
  | n + 1 => by
    have G_aggregate := ok_aggregate T n
    have G_membership := ok_membership T n
    have G_kept_frames := ok_kept_frames T n
    have G_source_result := ok_source_result T n
    have G_made_row := ok_made_row T n
    have G_select_result := ok_select_result T n
    have G_result_of := ok_result_of T n
    have G_value_of := ok_value_of T n
    exact fn_ok (k := 42 + n) T.Q3.F_kept_frames sc_kept_frames fun cdv A outer s H E hr => (s_cons (s_if (t_cmp d_is o_is (k_var 0) k_non (nomark _))
      (s_one (s_ret (k_var 1)))
      s_nil)
    (s_one (s_ret (k_comp (own := [("frame", 3)]) (live := false) rfl sc_kept_frames.nd (pi_any (k_var 1)) (blkOk_by (own := [("frame", 3)]) (N := ["condition", "frames", "world", "frame"]) (sc := defScope s_kept_frames) (by decide +kernel)) (fun _ _ _ _ _ => (g_name (i := 3) sc_kept_frames.nd rfl (.inl rfl))) (fun _ _ _ _ _ => (ts_one (t_cmp d_is o_is (k_call G_value_of (hr.mono (by first | decide | omega)) (by rfl) T.Q2.g_value_of T.Q2.F_value_of.kp T.Q2.b_value_of pass0 (a_cons (k_var 0) (a_cons (k_var 3) (a_cons (k_var 2) a_nil)))) k_bl (nomark _)))) (fun _ _ _ _ _ => (k_var 3))))))
theorem ok_source_result (T : Txt K mg) : ∀ n : Nat, FnOk P w K mg base CX0 (42 + n) T.Q3.a_source_result T.Q3.d_source_result ["source", "outer", "world"] (spOf K (T.cw P w) (m_source_result n))
  | 0 => fn_no
  | n + 1 => by
    have G_aggregate := ok_aggregate T n
    have G_membership := ok_membership T n
    have G_kept_frames := ok_kept_frames T n
    have G_source_result := ok_source_result T n
    have G_made_row := ok_made_row T n
    have G_select_result := ok_select_result T n
    have G_result_of := ok_result_of T n
    have G_value_of := ok_value_of T n
    exact fn_ok (k := 42 + n) T.Q3.F_source_result sc_source_result fun cdv A outer s H E hr => (s_cons (s_if (t_cmp d_eq (o_eq hr.units) (k_ix (k_var 0) k_int) k_str (nomark _))
      (s_one (s_ret (k_call (ok_table_result T) (hr.mono (by first | decide | omega)) (by rfl) T.Q3.g_table_result T.Q3.F_table_result.kp T.Q3.b_table_result pass0 (a_cons (k_var 0) (a_cons (k_var 2) a_nil)))))
      s_nil)
    (s_cons (s_if (t_cmp d_eq (o_eq hr.units) (k_ix (k_var 0) k_int) k_str (nomark _))
      (s_cons (s_asg (k_call G_result_of (hr.mono (by first | decide | omega)) (by rfl) T.Q3.g_result_of T.Q3.F_result_of.kp T.Q3.b_result_of pass0 (a_cons (k_ix (k_var 0) k_int) (a_cons (k_var 1) (a_cons (k_var 2) a_nil)))) (g_tup rfl (gs_cons (g_name (i := 3) sc_source_result.nd rfl (.inl rfl)) (gs_cons (g_name (i := 4) sc_source_result.nd rfl (.inl rfl)) gs_nil))))
    (s_one (s_ret (k_tup (a_cons (k_comp (own := [("name", 16)]) (live := false) rfl sc_source_result.nd (pi_any (k_var 3)) (blkOk_by (own := [("name", 16)]) (N := ["source", "outer", "world", "names", "rows", "left", "left_rows", "right", "right_rows", "columns", "joined", "row", "frames", "matches", "other", "frame", "name", "_"]) (sc := defScope s_source_result) (by decide +kernel)) (fun _ _ _ _ _ => (g_name (i := 16) sc_source_result.nd rfl (.inl rfl))) (fun _ _ _ _ _ => ts_nil) (fun _ _ _ _ _ => (k_tup (a_cons (k_ix (k_var 0) k_int) (a_cons (k_var 16) a_nil))))) (a_cons (k_var 4) a_nil))))))
      s_nil)
    (s_cons (s_asg (k_call G_source_result (hr.mono (by first | decide | omega)) (by rfl) T.Q3.g_source_result T.Q3.F_source_result.kp T.Q3.b_source_result pass0 (a_cons (k_ix (k_var 0) k_int) (a_cons (k_var 1) (a_cons (k_var 2) a_nil)))) (g_tup rfl (gs_cons (g_name (i := 5) sc_source_result.nd rfl (.inl rfl)) (gs_cons (g_name (i := 6) sc_source_result.nd rfl (.inl rfl)) gs_nil))))
    (s_cons (s_asg (k_call G_source_result (hr.mono (by first | decide | omega)) (by rfl) T.Q3.g_source_result T.Q3.F_source_result.kp T.Q3.b_source_result pass0 (a_cons (k_ix (k_var 0) k_int) (a_cons (k_var 1) (a_cons (k_var 2) a_nil)))) (g_tup rfl (gs_cons (g_name (i := 7) sc_source_result.nd rfl (.inl rfl)) (gs_cons (g_name (i := 8) sc_source_result.nd rfl (.inl rfl)) gs_nil))))
    (s_cons (s_set (i := 9) sc_source_result.nd rfl (.inr rfl) (k_op d_add o_add (k_var 5) (k_var 7)))
    (ss_pre 2 (s_cons (s_set (i := 10) sc_source_result.nd rfl (.inl rfl) (k_lst (live := true) a_nil))
    (s_one (s_for PassesOwn.never rfl (pi_any (k_var 6)) (g_name (i := 11) sc_source_result.nd rfl (.inr rfl))
      (s_cons (s_setComp (i := 12) (own := [("other", 14)]) (live := false) rfl sc_source_result.nd rfl rfl (sw_true rfl rfl rfl (by decide +kernel)) (pi_any (k_var 8)) (blkOk_by (own := [("other", 14)]) (N := ["source", "outer", "world", "names", "rows", "left", "left_rows", "right", "right_rows", "columns", "joined", "row", "frames", "matches", "other", "frame", "name", "_"]) (sc := defScope s_source_result) (by decide +kernel)) (fun _ _ _ _ _ => (g_name (i := 14) sc_source_result.nd rfl (.inl rfl))) (fun _ _ _ _ _ => ts_nil) (fun _ _ _ _ _ => (k_make (live := false) (c := 1) T.Q0.M_Frame (ok_Frame_init T) (hr.mono (by first | decide | omega)) (by rfl) T.Q0.g_Frame T.Q0.b_Frame_init pass0 (a_cons (k_var 9) (a_cons (k_op d_add o_add (k_var 11) (k_var 14)) (a_cons k_non (a_cons (k_var 1) a_nil)))))))
    (s_cons (s_setComp (i := 13) (own := [("frame", 15)]) (live := false) rfl sc_source_result.nd rfl rfl (sw_true rfl rfl rfl (by decide +kernel)) (pi_any (k_call G_kept_frames (hr.mono (by first | decide | omega)) (by rfl) T.Q3.g_kept_frames T.Q3.F_kept_frames.kp T.Q3.b_kept_frames pass0 (a_cons (k_ix (k_var 0) k_int) (a_cons (k_var 12) (a_cons (k_var 2) a_nil))))) (blkOk_by (own := [("frame", 15)]) (N := ["source", "outer", "world", "names", "rows", "left", "left_rows", "right", "right_rows", "columns", "joined", "row", "frames", "matches", "other", "frame", "name", "_"]) (sc := defScope s_source_result) (by decide +kernel)) (fun _ _ _ _ _ => (g_name (i := 15) sc_source_result.nd rfl (.inl rfl))) (fun _ _ _ _ _ => ts_nil) (fun _ _ _ _ _ => (k_fld (cs_cons ⟨T.Q0.cl_Frame, T.Q0.n_Frame_row⟩ cs_nil) (k_var 15))))
    (s_cons (s_if (PW.pt (w_and (t_tru (k_ix (k_var 0) k_int)) (w_and1 (t_cmp d_eq (o_eq hr.units) (k_callB d_len c_len (by rfl) T.Q5.z_len bt_len (a_cons (k_var 13) a_nil)) k_int (nomark _)))))
      (s_one (s_set (i := 13) sc_source_result.nd rfl (.inl rfl) (k_lst (live := false) (a_cons (k_op d_add o_add (k_var 11) (k_callT d_tuple c_tuple (by rfl) T.Q5.z_tuple bt_tuple (a_cons (k_comp (own := [("_", 17)]) (live := false) rfl sc_source_result.nd (pi_any (k_var 7)) (blkOk_by (own := [("_", 17)]) (N := ["source", "outer", "world", "names", "rows", "left", "left_rows", "right", "right_rows", "columns", "joined", "row", "frames", "matches", "other", "frame", "name", "_"]) (sc := defScope s_source_result) (by decide +kernel)) (fun _ _ _ _ _ => (g_name (i := 17) sc_source_result.nd rfl (.inl rfl))) (fun _ _ _ _ _ => ts_nil) (fun _ _ _ _ _ => k_non)) a_nil))) a_nil))))
      s_nil)
    (s_one (s_drop (k_bm d_ext PySem.F.plainAttrs_list PySem.F.slot_list_extend PySem.F.type_list_extend mt_extG (k_var 10) (a_cons (k_var 13) a_nil))))))))))
    (s_one (s_ret (k_tup (a_cons (k_var 9) (a_cons (k_var 10) a_nil)))))))))))
theorem ok_made_row (T : Txt K mg) : ∀ n : Nat, FnOk P w K mg base CX0 (42 + n) T.Q3.a_made_row T.Q3.d_made_row ["items", "frame", "world"] (spOf K (T.cw P w) (m_made_row n))
  | 0 => fn_no
  | n + 1 => by
    have G_aggregate := ok_aggregate T n
    have G_membership := ok_membership T n
    have G_kept_frames := ok_kept_frames T n
    have G_source_result := ok_source_result T n
    have G_made_row := ok_made_row T n
    have G_select_result := ok_select_result T n
    have G_result_of := ok_result_of T n
    have G_value_of := ok_value_of T n
    exact fn_ok (k := 42 + n) T.Q3.F_made_row sc_made_row fun cdv A outer s H E hr => (s_one (s_ret (k_callT d_tuple c_tuple (by rfl) T.Q5.z_tuple bt_tuple (a_cons (k_comp (own := [("item", 3)]) (live := false) rfl sc_made_row.nd (pi_any (k_var 0)) (blkOk_by (own := [("item", 3)]) (N := ["items", "frame", "world", "item"]) (sc := defScope s_made_row) (by decide +kernel)) (fun _ _ _ _ _ => (g_name (i := 3) sc_made_row.nd rfl (.inl rfl))) (fun _ _ _ _ _ => ts_nil) (fun _ _ _ _ _ => (k_call G_value_of (hr.mono (by first | decide | omega)) (by rfl) T.Q2.g_value_of T.Q2.F_value_of.kp T.Q2.b_value_of pass0 (a_cons (k_ix (k_var 3) k_int) (a_cons (k_var 1) (a_cons (k_var 2) a_nil)))))) a_nil))))
theorem ok_select_result (T : Txt K mg) : ∀ n : Nat, FnOk P w K mg base CX0 (42 + n) T.Q3.a_select_result T.Q3.d_select_result ["select", "outer", "world"] (spOf K (T.cw P w) (m_select_result n))
  | 0 => fn_no
  | n + 1 => by
    have G_aggregate := ok_aggregate T n
    have G_membership := ok_membership T n
    have G_kept_frames := ok_kept_frames T n
    have G_source_result := ok_source_result T n
    have G_made_row := ok_made_row T n
    have G_select_result := ok_select_result T n
    have G_result_of := ok_result_of T n
    have G_value_of := ok_value_of T n
    exact fn_ok (k := 42 + n) T.Q3.F_select_result sc_select_result fun cdv A outer s H E hr => (s_cons (s_set (i := 3) sc_select_result.nd rfl (.inr rfl) (k_lst (live := false) a_nil))
    (s_cons (s_set (i := 4) sc_select_result.nd rfl (.inl rfl) (k_lst (live := false) (a_cons (k_tup a_nil) a_nil)))
    (s_cons (s_if (t_cmp d_is o_isnot (k_ix (k_var 0) k_int) k_non (nomark _))
      (s_one (s_asg (k_call G_source_result (hr.mono (by first | decide | omega)) (by rfl) T.Q3.g_source_result T.Q3.F_source_result.kp T.Q3.b_source_result pass0 (a_cons (k_ix (k_var 0) k_int) (a_cons (k_var 1) (a_cons (k_var 2) a_nil)))) (g_tup rfl (gs_cons (g_name (i := 3) sc_select_result.nd rfl (.inr rfl)) (gs_cons (g_name (i := 4) sc_select_result.nd rfl (.inl rfl)) gs_nil)))))
      s_nil)
    (s_cons (s_set (i := 5) sc_select_result.nd rfl (.inl rfl) (k_call G_kept_frames (hr.mono (by first | decide | omega)) (by rfl) T.Q3.g_kept_frames T.Q3.F_kept_frames.kp T.Q3.b_kept_frames pass0 (a_cons (k_ix (k_var 0) k_int) (a_cons (k_comp (own := [("row", 8)]) (live := false) rfl sc_select_result.nd (pi_any (k_var 4)) (blkOk_by (own := [("row", 8)]) (N := ["select", "outer", "world", "columns", "rows", "frames", "names", "made", "row", "column", "frame", "item"]) (sc := defScope s_select_result) (by decide +kernel)) (fun _ _ _ _ _ => (g_name (i := 8) sc_select_result.nd rfl (.inl rfl))) (fun _ _ _ _ _ => ts_nil) (fun _ _ _ _ _ => (k_make (live := false) (c := 1) T.Q0.M_Frame (ok_Frame_init T) (hr.mono (by first | decide | omega)) (by rfl) T.Q0.g_Frame T.Q0.b_Frame_init pass0 (a_cons (k_var 3) (a_cons (k_var 8) (a_cons k_non (a_cons (k_var 1) a_nil))))))) (a_cons (k_var 2) a_nil)))))
    (s_cons (s_if (t_val (k_call (ok_is_grouping T) (hr.mono (by first | decide | omega)) (by rfl) T.Q1.g_is_grouping T.Q1.F_is_grouping.kp T.Q1.b_is_grouping pass0 (a_cons (k_var 0) a_nil)))
      (s_one (s_set (i := 5) sc_select_result.nd rfl (.inl rfl) (k_call (ok_grouped_frames T) (hr.mono (by first | decide | omega)) (by rfl) T.Q3.g_grouped_frames T.Q3.F_grouped_frames.kp T.Q3.b_grouped_frames pass0 (a_cons (k_var 0) (a_cons (k_var 3) (a_cons (k_comp (own := [("frame", 10)]) (live := false) rfl sc_select_result.nd (pi_any (k_var 5)) (blkOk_by (own := [("frame", 10)]) (N := ["select", "outer", "world", "columns", "rows", "frames", "names", "made", "row", "column", "frame", "item"]) (sc := defScope s_select_result) (by decide +kernel)) (fun _ _ _ _ _ => (g_name (i := 10) sc_select_result.nd rfl (.inl rfl))) (fun _ _ _ _ _ => ts_nil) (fun _ _ _ _ _ => (k_fld (cs_cons ⟨T.Q0.cl_Frame, T.Q0.n_Frame_row⟩ cs_nil) (k_var 10)))) (a_cons (k_var 1) a_nil)))))))
      s_nil)
    (s_cons (s_set (i := 5) sc_select_result.nd rfl (.inl rfl) (k_call G_kept_frames (hr.mono (by first | decide | omega)) (by rfl) T.Q3.g_kept_frames T.Q3.F_kept_frames.kp T.Q3.b_kept_frames pass0 (a_cons (k_ix (k_var 0) k_int) (a_cons (k_var 5) (a_cons (k_var 2) a_nil)))))
    (s_cons (s_if (t_cmp d_is o_is (k_ix (k_var 0) k_int) k_non (nomark _))
      (s_cons (s_setComp (i := 6) (own := [("column", 9)]) (live := false) rfl sc_select_result.nd rfl rfl (sw_true rfl rfl rfl (by decide +kernel)) (pi_any (k_var 3)) (blkOk_by (own := [("column", 9)]) (N := ["select", "outer", "world", "columns", "rows", "frames", "names", "made", "row", "column", "frame", "item"]) (sc := defScope s_select_result) (by decide +kernel)) (fun _ _ _ _ _ => (g_name (i := 9) sc_select_result.nd rfl (.inl rfl))) (fun _ _ _ _ _ => ts_nil) (fun _ _ _ _ _ => (k_ix (k_var 9) k_int)))
    (s_one (s_setComp (i := 7) (own := [("frame", 10)]) (live := false) rfl sc_select_result.nd rfl rfl (sw_true rfl rfl rfl (by decide +kernel)) (pi_any (k_var 5)) (blkOk_by (own := [("frame", 10)]) (N := ["select", "outer", "world", "columns", "rows", "frames", "names", "made", "row", "column", "frame", "item"]) (sc := defScope s_select_result) (by decide +kernel)) (fun _ _ _ _ _ => (g_name (i := 10) sc_select_result.nd rfl (.inl rfl))) (fun _ _ _ _ _ => ts_nil) (fun _ _ _ _ _ => (k_fld (cs_cons ⟨T.Q0.cl_Frame, T.Q0.n_Frame_row⟩ cs_nil) (k_var 10))))))
      (s_cons (s_setComp (i := 6) (own := [("item", 11)]) (live := false) rfl sc_select_result.nd rfl rfl (sw_true rfl rfl rfl (by decide +kernel)) (pi_any (k_ix (k_var 0) k_int)) (blkOk_by (own := [("item", 11)]) (N := ["select", "outer", "world", "columns", "rows", "frames", "names", "made", "row", "column", "frame", "item"]) (sc := defScope s_select_result) (by decide +kernel)) (fun _ _ _ _ _ => (g_name (i := 11) sc_select_result.nd rfl (.inl rfl))) (fun _ _ _ _ _ => ts_nil) (fun _ _ _ _ _ => (k_call (ok_item_name T) (hr.mono (by first | decide | omega)) (by rfl) T.Q1.g_item_name T.Q1.F_item_name.kp T.Q1.b_item_name pass0 (a_cons (k_var 11) a_nil))))
    (s_one (s_setComp (i := 7) (own := [("frame", 10)]) (live := false) rfl sc_select_result.nd rfl rfl (sw_true rfl rfl rfl (by decide +kernel)) (pi_any (k_var 5)) (blkOk_by (own := [("frame", 10)]) (N := ["select", "outer", "world", "columns", "rows", "frames", "names", "made", "row", "column", "frame", "item"]) (sc := defScope s_select_result) (by decide +kernel)) (fun _ _ _ _ _ => (g_name (i := 10) sc_select_result.nd rfl (.inl rfl))) (fun _ _ _ _ _ => ts_nil) (fun _ _ _ _ _ => (k_call G_made_row (hr.mono (by first | decide | omega)) (by rfl) T.Q3.g_made_row T.Q3.F_made_row.kp T.Q3.b_made_row pass0 (a_cons (k_ix (k_var 0) k_int) (a_cons (k_var 10) (a_cons (k_var 2) a_nil)))))))))
    (s_cons (s_if (t_tru (k_ix (k_var 0) k_int))
      (s_one (s_set (i := 7) sc_select_result.nd rfl (.inl rfl) (k_call (ok_without_repeats T) (hr.mono (by first | decide | omega)) (by rfl) T.Q3.g_without_repeats T.Q3.F_without_repeats.kp T.Q3.b_without_repeats pass0 (a_cons (k_var 7) a_nil))))
      s_nil)
    (s_one (s_ret (k_tup (a_cons (k_var 6) (a_cons (k_var 7) a_nil)))))))))))))
theorem ok_result_of (T : Txt K mg) : ∀ n : Nat, FnOk P w K mg base CX0 (42 + n) T.Q3.a_result_of T.Q3.d_result_of ["query", "outer", "world"] (spOf K (T.cw P w) (m_result_of n))
  | 0 => fn_no
  | n + 1 => by
    have G_aggregate := ok_aggregate T n
    have G_membership := ok_membership T n
    have G_kept_frames := ok_kept_frames T n
    have G_source_result := ok_source_result T n
    have G_made_row := ok_made_row T n
    have G_select_result := ok_select_result T n
    have G_result_of := ok_result_of T n
    have G_value_of := ok_value_of T n
    exact fn_ok (k := 42 + n) T.Q3.F_result_of sc_result_of fun cdv A outer s H E hr => (s_cons (s_if (t_cmp d_eq (o_eq hr.units) (k_ix (k_var 0) k_int) k_str (nomark _))
      (s_one (s_ret (k_call G_select_result (hr.mono (by first | decide | omega)) (by rfl) T.Q3.g_select_result T.Q3.F_select_result.kp T.Q3.b_select_result pass0 (a_cons (k_var 0) (a_cons (k_var 1) (a_cons (k_var 2) a_nil))))))
      s_nil)
    (s_cons (s_asg (k_call G_result_of (hr.mono (by first | decide | omega)) (by rfl) T.Q3.g_result_of T.Q3.F_result_of.kp T.Q3.b_result_of pass0 (a_cons (k_ix (k_var 0) k_int) (a_cons (k_var 1) (a_cons (k_var 2) a_nil)))) (g_tup rfl (gs_cons (g_name (i := 3) sc_result_of.nd rfl (.inl rfl)) (gs_cons (g_name (i := 4) sc_result_of.nd rfl (.inl rfl)) gs_nil))))
    (s_cons (s_set (i := 5) sc_result_of.nd rfl (.inl rfl) (k_ix (k_call G_result_of (hr.mono (by first | decide | omega)) (by rfl) T.Q3.g_result_of T.Q3.F_result_of.kp T.Q3.b_result_of pass0 (a_cons (k_ix (k_var 0) k_int) (a_cons (k_var 1) (a_cons (k_var 2) a_nil)))) k_int))
    (s_cons (s_if (t_cmp d_eq (o_eq hr.units) (k_ix (k_var 0) k_int) k_str (nomark _))
      (s_one (s_ret (k_tup (a_cons (k_var 3) (a_cons (k_op d_add o_add (k_var 4) (k_var 5)) a_nil)))))
      s_nil)
    (s_cons (s_if (t_cmp d_eq (o_eq hr.units) (k_ix (k_var 0) k_int) k_str (nomark _))
      (s_one (s_ret (k_tup (a_cons (k_var 3) (a_cons (k_call (ok_without_repeats T) (hr.mono (by first | decide | omega)) (by rfl) T.Q3.g_without_repeats T.Q3.F_without_repeats.kp T.Q3.b_without_repeats pass0 (a_cons (k_op d_add o_add (k_var 4) (k_var 5)) a_nil)) a_nil)))))
      s_nil)
    (s_cons (s_set (i := 6) sc_result_of.nd rfl (.inr rfl) (k_dcomp (own := [("row", 8)]) (live := false) (u10 hr) rfl sc_result_of.nd (pi_any (k_var 5)) (blkOk_by (own := [("row", 8)]) (N := ["query", "outer", "world", "names", "first", "second", "there", "wanted", "row"]) (sc := defScope s_result_of) (by decide +kernel)) (fun _ _ _ _ _ => (g_name (i := 8) sc_result_of.nd rfl (.inl rfl))) (fun _ _ _ _ _ => ts_nil) (fun _ _ _ _ _ => (k_call (ok_row_key T) (hr.mono (by first | decide | omega)) (by rfl) T.Q1.g_row_key T.Q1.F_row_key.kp T.Q1.b_row_key pass0 (a_cons (k_var 8) a_nil))) (fun _ _ _ _ _ => k_bl)))
    (s_cons (s_set (i := 7) sc_result_of.nd rfl (.inr rfl) (k_cmp d_eq (o_eq hr.units) (k_ix (k_var 0) k_int) k_str (nomark _)))
    (s_one (s_ret (k_tup (a_cons (k_var 3) (a_cons (k_call (ok_without_repeats T) (hr.mono (by first | decide | omega)) (by rfl) T.Q3.g_without_repeats T.Q3.F_without_repeats.kp T.Q3.b_without_repeats pass0 (a_cons (k_comp (own := [("row", 8)]) (live := false) rfl sc_result_of.nd (pi_any (k_var 4)) (blkOk_by (own := [("row", 8)]) (N := ["query", "outer", "world", "names", "first", "second", "there", "wanted", "row"]) (sc := defScope s_result_of) (by decide +kernel)) (fun _ _ _ _ _ => (g_name (i := 8) sc_result_of.nd rfl (.inl rfl))) (fun _ _ _ _ _ => (ts_one (t_cmp d_eq (o_eq hr.units) (k_cmp d_nin (o_nin (u10 hr)) (k_call (ok_row_key T) (hr.mono (by first | decide | omega)) (by rfl) T.Q1.g_row_key T.Q1.F_row_key.kp T.Q1.b_row_key pass0 (a_cons (k_var 8) a_nil)) (k_var 6) (by rfl)) (k_var 7) (nomark _)))) (fun _ _ _ _ _ => (k_var 8))) a_nil)) a_nil))))))))))))
theorem ok_value_of (T : Txt K mg) : ∀ n : Nat, FnOk P w K mg base CX0 (42 + n) T.Q2.a_value_of T.Q2.d_value_of ["node", "frame", "world"] (spOf K (T.cw P w) (m_value_of n))
  | 0 => fn_no
  | n + 1 => by
    have G_aggregate := ok_aggregate T n
    have G_membership := ok_membership T n
    have G_kept_frames := ok_kept_frames T n
    have G_source_result := ok_source_result T n
    have G_made_row := ok_made_row T n
    have G_select_result := ok_select_result T n
    have G_result_of := ok_result_of T n
    have G_value_of := ok_value_of T n
    exact fn_ok (k := 42 + n) T.Q2.F_value_of sc_value_of fun cdv A outer s H E hr => (s_cons (s_set (i := 3) sc_value_of.nd rfl (.inl rfl) (k_ix (k_var 0) k_int))
    (s_cons (s_if (t_cmp d_eq (o_eq hr.units) (k_var 3) k_str (nomark _))
      (s_one (s_ret (k_ix (k_var 0) k_int)))
      s_nil)
    (s_cons (s_if (t_cmp d_eq (o_eq hr.units) (k_var 3) k_str (nomark _))
      (s_one (s_ret (k_ix (k_fld (cs_cons ⟨T.Q0.cl_World, T.Q0.n_World_parameters⟩ cs_nil) (k_var 2)) (k_op d_sub op_sub (k_ix (k_var 0) k_int) k_int))))
      s_nil)
    (s_cons (s_if (t_cmp d_eq (o_eq hr.units) (k_var 3) k_str (nomark _))
      (s_cons (s_asg (k_call (ok_locate T) (hr.mono (by first | decide | omega)) (by rfl) T.Q0.g_locate T.Q0.F_locate.kp T.Q0.b_locate pass0 (a_cons (k_var 1) (a_cons (k_ix (k_var 0) k_int) (a_cons (k_ix (k_var 0) k_int) a_nil)))) (g_tup rfl (gs_cons (g_name (i := 4) sc_value_of.nd rfl (.inl rfl)) (gs_cons (g_name (i := 5) sc_value_of.nd rfl (.inl rfl)) gs_nil))))
    (s_one (s_ret (k_ix (k_fld (cs_cons ⟨T.Q0.cl_Frame, T.Q0.n_Frame_row⟩ cs_nil) (k_var 4)) (k_var 5)))))
      s_nil)
    (s_cons (s_if (t_cmp d_eq (o_eq hr.units) (k_var 3) k_str (nomark _))
      (s_one (s_ret (k_call (ok_combined T) (hr.mono (by first | decide | omega)) (by rfl) T.Q2.g_combined T.Q2.F_combined.kp T.Q2.b_combined pass0 (a_cons (k_ix (k_var 0) k_int) (a_cons (k_call G_value_of (hr.mono (by first | decide | omega)) (by rfl) T.Q2.g_value_of T.Q2.F_value_of.kp T.Q2.b_value_of pass0 (a_cons (k_ix (k_var 0) k_int) (a_cons (k_var 1) (a_cons (k_var 2) a_nil)))) (a_cons (k_call G_value_of (hr.mono (by first | decide | omega)) (by rfl) T.Q2.g_value_of T.Q2.F_value_of.kp T.Q2.b_value_of pass0 (a_cons (k_ix (k_var 0) k_int) (a_cons (k_var 1) (a_cons (k_var 2) a_nil)))) a_nil))))))
      s_nil)
    (s_cons (s_if (t_cmp d_eq (o_eq hr.units) (k_var 3) k_str (nomark _))
      (s_one (s_ret (k_call (ok_negation T) (hr.mono (by first | decide | omega)) (by rfl) T.Q2.g_negation T.Q2.F_negation.kp T.Q2.b_negation pass0 (a_cons (k_call G_value_of (hr.mono (by first | decide | omega)) (by rfl) T.Q2.g_value_of T.Q2.F_value_of.kp T.Q2.b_value_of pass0 (a_cons (k_ix (k_var 0) k_int) (a_cons (k_var 1) (a_cons (k_var 2) a_nil)))) a_nil))))
      s_nil)
    (s_cons (s_if (t_cmp d_eq (o_eq hr.units) (k_var 3) k_str (nomark _))
      (s_one (s_ret (k_call (ok_arithmetic T) (hr.mono (by first | decide | omega)) (by rfl) T.Q2.g_arithmetic T.Q2.F_arithmetic.kp T.Q2.b_arithmetic pass0 (a_cons k_str (a_cons k_int (a_cons (k_call G_value_of (hr.mono (by first | decide | omega)) (by rfl) T.Q2.g_value_of T.Q2.F_value_of.kp T.Q2.b_value_of pass0 (a_cons (k_ix (k_var 0) k_int) (a_cons (k_var 1) (a_cons (k_var 2) a_nil)))) a_nil))))))
      s_nil)
    (s_cons (s_if (t_cmp d_eq (o_eq hr.units) (k_var 3) k_str (nomark _))
      (s_one (s_ret (k_cmp d_eq (o_ne hr.units) (k_cmp d_is o_is (k_call G_value_of (hr.mono (by first | decide | omega)) (by rfl) T.Q2.g_value_of T.Q2.F_value_of.kp T.Q2.b_value_of pass0 (a_cons (k_ix (k_var 0) k_int) (a_cons (k_var 1) (a_cons (k_var 2) a_nil)))) k_non (nomark _)) (k_ix (k_var 0) k_int) (nomark _))))
      s_nil)
    (s_cons (s_if (t_cmp d_inG (o_inG (u65 hr)) (k_var 3) (k_tup (a_cons k_str (a_cons k_str a_nil))) (by rfl))
      (s_one (s_ret (k_call G_membership (hr.mono (by first | decide | omega)) (by rfl) T.Q2.g_membership T.Q2.F_membership.kp T.Q2.b_membership pass0 (a_cons (k_var 0) (a_cons (k_var 1) (a_cons (k_var 2) a_nil))))))
      s_nil)
    (s_cons (s_if (t_cmp d_eq (o_eq hr.units) (k_var 3) k_str (nomark _))
      (s_one (s_ret (k_cmp d_gt op_gt (k_callB d_len c_len (by rfl) T.Q5.z_len bt_len (a_cons (k_ix (k_call G_result_of (hr.mono (by first | decide | omega)) (by rfl) T.Q3.g_result_of T.Q3.F_result_of.kp T.Q3.b_result_of pass0 (a_cons (k_ix (k_var 0) k_int) (a_cons (k_var 1) (a_cons (k_var 2) a_nil)))) k_int) a_nil)) k_int (nomark _))))
      s_nil)
    (s_cons (s_if (t_cmp d_eq (o_eq hr.units) (k_var 3) k_str (nomark _))
      (s_one (s_ret (k_ix (k_ix (k_ix (k_call G_result_of (hr.mono (by first | decide | omega)) (by rfl) T.Q3.g_result_of T.Q3.F_result_of.kp T.Q3.b_result_of pass0 (a_cons (k_ix (k_var 0) k_int) (a_cons (k_var 1) (a_cons (k_var 2) a_nil)))) k_int) k_int) k_int)))
      s_nil)
    (s_cons (s_if (t_cmp d_eq (o_eq hr.units) (k_var 3) k_str (nomark _))
      (s_cons (s_if (t_cmp d_is o_is (k_call G_value_of (hr.mono (by first | decide | omega)) (by rfl) T.Q2.g_value_of T.Q2.F_value_of.kp T.Q2.b_value_of pass0 (a_cons (k_ix (k_var 0) k_int) (a_cons (k_var 1) (a_cons (k_var 2) a_nil)))) k_bl (nomark _))
      (s_one (s_ret (k_call G_value_of (hr.mono (by first | decide | omega)) (by rfl) T.Q2.g_value_of T.Q2.F_value_of.kp T.Q2.b_value_of pass0 (a_cons (k_ix (k_var 0) k_int) (a_cons (k_var 1) (a_cons (k_var 2) a_nil))))))
      s_nil)
    (s_one (s_ret (k_call G_value_of (hr.mono (by first | decide | omega)) (by rfl) T.Q2.g_value_of T.Q2.F_value_of.kp T.Q2.b_value_of pass0 (a_cons (k_ix (k_var 0) k_int) (a_cons (k_var 1) (a_cons (k_var 2) a_nil)))))))
      s_nil)
    (s_one (s_ret (k_call G_aggregate (hr.mono (by first | decide | omega)) (by rfl) T.Q3.g_aggregate T.Q3.F_aggregate.kp T.Q3.b_aggregate pass0 (a_cons (k_var 0) (a_cons (k_var 1) (a_cons (k_var 2) a_nil))))))))))))))))))
end
theorem ok_query_rows (T : Txt K mg) : FnOk P w K mg base CX0 83 T.Q4.a_query_rows T.Q4.d_query_rows ["query", "sources", "parameters"] (spOf K (T.cw P w) m_query_rows) :=
  fn_ok T.Q4.F_query_rows sc_query_rows fun cdv A outer s H E hr => (s_one (s_ret (k_ix (k_call (ok_result_of T 40) (hr.mono (by first | decide | omega)) (by rfl) T.Q3.g_result_of T.Q3.F_result_of.kp T.Q3.b_result_of pass0 (a_cons (k_var 0) (a_cons k_non (a_cons (k_make (live := false) (c := 0) T.Q0.M_World (ok_World_init T) (hr.mono (by first | decide | omega)) (by rfl) T.Q0.g_World T.Q0.b_World_init pass0 (a_cons (k_var 1) (a_cons (k_var 2) a_nil))) a_nil)))) k_int)))
theorem ok_Source_init (T : Txt K mg) : FnOk P w K mg base CX0 1 T.Q4.a_Source_init T.Q4.d_Source_init ["self", "name", "columns", "kinds", "rows"] (spOf K (T.cw P w) m_Source_init) :=
  fnL_ok T.Q4.F_Source_init sc_Source_init fun cdv A outer s H E hr => (s_cons (s_fld (cs_cons ⟨T.Q0.cl_Source, T.Q0.n_Source_name⟩ cs_nil) (k_var 0) (k_var 1))
    (s_cons (s_fld (cs_cons ⟨T.Q0.cl_Source, T.Q0.n_Source_columns⟩ cs_nil) (k_var 0) (k_callT (d_list (live := false)) c_list (by rfl) T.Q5.z_list bt_list (a_cons (k_var 2) a_nil)))
    (s_cons (s_fld (cs_cons ⟨T.Q0.cl_Source, T.Q0.n_Source_kinds⟩ cs_nil) (k_var 0) (k_callT (d_list (live := false)) c_list (by rfl) T.Q5.z_list bt_list (a_cons (k_var 3) a_nil)))
    (s_one (s_fld (cs_cons ⟨T.Q0.cl_Source, T.Q0.n_Source_rows⟩ cs_nil) (k_var 0) (k_callT (d_list (live := false)) c_list (by rfl) T.Q5.z_list bt_list (a_cons (k_var 4) a_nil)))))))
theorem ok_next (T : Txt K mg) : FnOk P w K mg base CX0 1 T.Q4.a_next T.Q4.d_next ["_law_state", "_law_limit"] (spOf K (T.cw P w) m_next) :=
  fn_ok T.Q4.F_next sc_next fun cdv A outer s H E hr => (s_cons (s_if (PW.pt (w_and (t_cmp d_eq (o_eq hr.units) (k_ix (k_var 0) k_int) k_int (nomark _)) (w_and1 (t_cmp d_lt op_lt (k_ix (k_var 0) k_int) (k_callB d_len c_len (by rfl) T.Q5.z_len bt_len (a_cons (k_ix (k_var 0) k_int) a_nil)) (nomark _)))))
      (s_cons (s_set (i := 2) sc_next.nd rfl (.inl rfl) (k_ix (k_ix (k_var 0) k_int) (k_ix (k_var 0) k_int)))
    (s_cons (s_augS d_aug io_add (k_var 0) k_int k_int)
    (s_one (s_if (t_cmp d_ge op_ge (k_var 2) (k_op d_pow op_pow k_int k_int) (nomark _))
      (s_one (s_asg (k_var 2) (g_sub (k_var 0) k_int)))
      (s_one (s_asg (k_op d_mod op_mod (k_callT d_int c_int (by rfl) T.Q5.z_int bt_int (a_cons (k_op d_add o_add (k_op d_add o_add (k_op d_mul op_mulG (k_ix (k_var 0) k_int) k_int) (k_op d_mod op_mod (k_callT d_int c_int (by rfl) T.Q5.z_int bt_int (a_cons (k_var 2) a_nil)) k_int)) k_int) a_nil)) k_int) (g_sub (k_var 0) k_int)))))))
      s_nil)
    (s_cons (s_if (t_cmp d_gt op_gt (k_ix (k_var 0) k_int) k_int (nomark _))
      (s_cons (s_set (i := 3) sc_next.nd rfl (.inl rfl) (k_op d_mod op_mod (k_callT d_int c_int (by rfl) T.Q5.z_int bt_int (a_cons (k_ix (k_var 0) k_int) a_nil)) (k_var 1)))
    (s_cons (s_asg (k_op d_div op_fdivW (k_ix (k_var 0) k_int) (k_var 1)) (g_sub (k_var 0) k_int))
    (s_one (s_ret (k_var 3)))))
      s_nil)
    (s_cons (s_asg (k_op d_mod op_mod (k_callT d_int c_int (by rfl) T.Q5.z_int bt_int (a_cons (k_op d_add o_add (k_op d_mul op_mulG (k_ix (k_var 0) k_int) k_int) k_int) a_nil)) k_int) (g_sub (k_var 0) k_int))
    (s_one (s_ret (k_op d_mod op_mod (k_callT d_int c_int (by rfl) T.Q5.z_int bt_int (a_cons (k_op d_div op_fdivW (k_ix (k_var 0) k_int) k_int) a_nil)) (k_var 1)))))))
theorem ok_lsame (T : Txt K mg) : ∀ n : Nat, FnOk P w K mg base CX0 (0 + n) T.Q4.a_lsame T.Q4.d_lsame ["_law_actual", "_law_expected"] (spOf K (T.cw P w) (m_lsame n))
  | 0 => fn_no
  | n + 1 => by
    have G_lsame := ok_lsame T n
    exact fn_ok (k := 0 + n) T.Q4.F_lsame sc_lsame fun cdv A outer s H E hr => (s_cons (s_if (t_cmp d_is o_is (k_var 1) k_non (nomark _))
      (s_one (s_ret (k_cmp d_is o_is (k_var 0) k_non (nomark _))))
      s_nil)
    (s_cons (s_if (t_val (k_isi (k_var 1) (by rfl) T.Q5.z_isinstance (by rfl) T.Q5.z_bool bt_bool))
      (s_one (s_ret (k_and (k_isi (k_var 0) (by rfl) T.Q5.z_isinstance (by rfl) T.Q5.z_bool bt_bool) (k_one (k_cmp d_eq (o_eq hr.units) (k_var 0) (k_var 1) (nomark _))))))
      s_nil)
    (s_cons (s_if (t_val (k_isi (k_var 1) (by rfl) T.Q5.z_isinstance (by rfl) T.Q5.z_int bt_int))
      (s_one (s_ret (k_and (k_isi (k_var 0) (by rfl) T.Q5.z_isinstance (by rfl) T.Q5.z_int bt_int) (k_and (k_not (k_isi (k_var 0) (by rfl) T.Q5.z_isinstance (by rfl) T.Q5.z_bool bt_bool)) (k_one (k_cmp d_eq (o_eq hr.units) (k_var 0) (k_var 1) (nomark _)))))))
      s_nil)
    (s_cons (s_if (t_val (k_isi (k_var 1) (by rfl) T.Q5.z_isinstance (by rfl) T.Q5.z_str bt_str))
      (s_one (s_ret (k_and (k_isi (k_var 0) (by rfl) T.Q5.z_isinstance (by rfl) T.Q5.z_str bt_str) (k_one (k_cmp d_eq (o_eq hr.units) (k_var 0) (k_var 1) (nomark _))))))
      s_nil)
    (s_cons (s_if (PW.pt (w_and (t_val (k_isi (k_var 1) (by rfl) T.Q5.z_isinstance (by rfl) T.Q5.z_tuple bt_tuple)) (w_and1 (t_not (t_val (k_isi (k_var 0) (by rfl) T.Q5.z_isinstance (by rfl) T.Q5.z_tuple bt_tuple))))))
      (s_one (s_ret k_bl))
      s_nil)
    (s_cons (s_if (PW.pt (w_and (t_val (k_isi (k_var 1) (by rfl) T.Q5.z_isinstance (by rfl) T.Q5.z_list bt_list)) (w_and1 (t_not (t_val (k_isi (k_var 0) (by rfl) T.Q5.z_isinstance (by rfl) T.Q5.z_list bt_list))))))
      (s_one (s_ret k_bl))
      s_nil)
    (s_cons (s_if (t_cmp d_eq (o_ne hr.units) (k_callB d_len c_len (by rfl) T.Q5.z_len bt_len (a_cons (k_var 0) a_nil)) (k_callB d_len c_len (by rfl) T.Q5.z_len bt_len (a_cons (k_var 1) a_nil)) (nomark _))
      (s_one (s_ret k_bl))
      s_nil)
    (s_cons (s_for PassesOwn.never rfl (pi_rng1 (by rfl) T.Q5.z_range (a_cons (k_callB d_len c_len (by rfl) T.Q5.z_len bt_len (a_cons (k_var 1) a_nil)) a_nil)) (g_name (i := 2) sc_lsame.nd rfl (.inl rfl))
      (s_one (s_if (t_not (t_val (k_call G_lsame (hr.mono (by first | decide | omega)) (by rfl) T.Q4.g_lsame T.Q4.F_lsame.kp T.Q4.b_lsame pass0 (a_cons (k_ix (k_var 0) (k_var 2)) (a_cons (k_ix (k_var 1) (k_var 2)) a_nil)))))
      (s_one (s_ret k_bl))
      s_nil)))
    (s_one (s_ret k_bl))))))))))
theorem ok_char (T : Txt K mg) : FnOk P w K mg base CX0 1 T.Q4.a_char T.Q4.d_char ["_law_index"] (spOf K (T.cw P w) m_char) :=
  fn_ok T.Q4.F_char sc_char fun cdv A outer s H E hr => (s_cons (s_set (i := 1) sc_char.nd rfl (.inl rfl) k_str)
    (s_cons (s_set (i := 1) sc_char.nd rfl (.inl rfl) (k_op d_add o_add (k_var 1) k_str))
    (s_one (s_ret (k_ix (k_var 1) (k_op d_mod op_mod (k_callT d_int c_int (by rfl) T.Q5.z_int bt_int (a_cons (k_var 0) a_nil)) k_int))))))
theorem ok_value (T : Txt K mg) : FnOk P w K mg base CX0 2 T.Q4.a_value T.Q4.d_value ["_law_state", "_law_kind"] (spOf K (T.cw P w) m_value) :=
  fn_ok T.Q4.F_value sc_value fun cdv A outer s H E hr => (s_cons (s_if (t_cmp d_eq (o_eq hr.units) (k_call (ok_next T) (hr.mono (by first | decide | omega)) (by rfl) T.Q4.g_next T.Q4.F_next.kp T.Q4.b_next pass0 (a_cons (k_var 0) (a_cons k_int a_nil))) k_int (nomark _))
      (s_one (s_ret k_non))
      s_nil)
    (s_cons (s_if (t_cmp d_eq (o_eq hr.units) (k_var 1) k_str (nomark _))
      (s_one (s_ret (k_cmp d_eq (o_eq hr.units) (k_call (ok_next T) (hr.mono (by first | decide | omega)) (by rfl) T.Q4.g_next T.Q4.F_next.kp T.Q4.b_next pass0 (a_cons (k_var 0) (a_cons k_int a_nil))) k_int (nomark _))))
      s_nil)
    (s_cons (s_if (t_cmp d_eq (o_eq hr.units) (k_var 1) k_str (nomark _))
      (s_one (s_ret (k_op d_mul op_mulG (k_call (ok_next T) (hr.mono (by first | decide | omega)) (by rfl) T.Q4.g_next T.Q4.F_next.kp T.Q4.b_next pass0 (a_cons (k_var 0) (a_cons (k_ix (k_lst (live := false) (a_cons k_int (a_cons k_int (a_cons k_int (a_cons (k_op d_pow op_pow k_int k_int) a_nil))))) (k_call (ok_next T) (hr.mono (by first | decide | omega)) (by rfl) T.Q4.g_next T.Q4.F_next.kp T.Q4.b_next pass0 (a_cons (k_var 0) (a_cons k_int a_nil)))) a_nil))) (k_op d_sub op_sub k_int (k_op d_mul op_mulG k_int (k_call (ok_next T) (hr.mono (by first | decide | omega)) (by rfl) T.Q4.g_next T.Q4.F_next.kp T.Q4.b_next pass0 (a_cons (k_var 0) (a_cons k_int a_nil))))))))
      s_nil)
    (s_cons (s_set (i := 2) sc_value.nd rfl (.inl rfl) (k_ix (k_lst (live := false) (a_cons k_str (a_cons k_str (a_cons k_str (a_cons k_str (a_cons k_str a_nil)))))) (k_call (ok_next T) (hr.mono (by first | decide | omega)) (by rfl) T.Q4.g_next T.Q4.F_next.kp T.Q4.b_next pass0 (a_cons (k_var 0) (a_cons k_int a_nil)))))
    (s_cons (s_if (t_cmp d_eq (o_eq hr.units) (k_call (ok_next T) (hr.mono (by first | decide | omega)) (by rfl) T.Q4.g_next T.Q4.F_next.kp T.Q4.b_next pass0 (a_cons (k_var 0) (a_cons k_int a_nil))) k_int (nomark _))
      (s_one (s_set (i := 2) sc_value.nd rfl (.inl rfl) (k_op d_add o_add (k_var 2) (k_call (ok_char T) (hr.mono (by first | decide | omega)) (by rfl) T.Q4.g_char T.Q4.F_char.kp T.Q4.b_char pass0 (a_cons (k_call (ok_next T) (hr.mono (by first | decide | omega)) (by rfl) T.Q4.g_next T.Q4.F_next.kp T.Q4.b_next pass0 (a_cons (k_var 0) (a_cons k_int a_nil))) a_nil)))))
      s_nil)
    (s_one (s_ret (k_var 2))))))))
theorem ok_key (T : Txt K mg) : FnOk P w K mg base CX0 1 T.Q4.a_key T.Q4.d_key ["_law_value_here"] (spOf K (T.cw P w) m_key) :=
  fn_ok T.Q4.F_key sc_key fun cdv A outer s H E hr => (s_cons (s_if (t_cmp d_is o_is (k_var 0) k_non (nomark _))
      (s_one (s_ret (k_tup (a_cons k_int (a_cons k_int a_nil)))))
      s_nil)
    (s_cons (s_if (t_val (k_isi (k_var 0) (by rfl) T.Q5.z_isinstance (by rfl) T.Q5.z_bool bt_bool))
      (s_one (s_ret (k_tup (a_cons k_int (a_cons (k_callT d_int c_int (by rfl) T.Q5.z_int bt_int (a_cons (k_var 0) a_nil)) a_nil)))))
      s_nil)
    (s_cons (s_if (t_val (k_isi (k_var 0) (by rfl) T.Q5.z_isinstance (by rfl) T.Q5.z_int bt_int))
      (s_one (s_ret (k_tup (a_cons k_int (a_cons (k_var 0) a_nil)))))
      s_nil)
    (s_one (s_ret (k_tup (a_cons k_int (a_cons (k_var 0) a_nil))))))))
theorem ok_lrow_key (T : Txt K mg) : FnOk P w K mg base CX0 2 T.Q4.a_lrow_key T.Q4.d_lrow_key ["_law_row"] (spOf K (T.cw P w) m_lrow_key) :=
  fn_ok T.Q4.F_lrow_key sc_lrow_key fun cdv A outer s H E hr => (s_one (s_ret (k_callT d_tuple c_tuple (by rfl) T.Q5.z_tuple bt_tuple (a_cons (k_comp (own := [("_law_value_here", 1)]) (live := false) rfl sc_lrow_key.nd (pi_any (k_var 0)) (blkOk_by (own := [("_law_value_here", 1)]) (N := ["_law_row", "_law_value_here"]) (sc := defScope s_lrow_key) (by decide +kernel)) (fun _ _ _ _ _ => (g_name (i := 1) sc_lrow_key.nd rfl (.inl rfl))) (fun _ _ _ _ _ => ts_nil) (fun _ _ _ _ _ => (k_call (ok_key T) (hr.mono (by first | decide | omega)) (by rfl) T.Q4.g_key T.Q4.F_key.kp T.Q4.b_key pass0 (a_cons (k_var 1) a_nil)))) a_nil))))
theorem ok_groups (T : Txt K mg) : FnOk P w K mg base CX0 3 T.Q4.a_groups T.Q4.d_groups ["_law_rows", "_law_places"] (spOf K (T.cw P w) m_groups) :=
  fn_ok T.Q4.F_groups sc_groups fun cdv A outer s H E hr => (s_cons (s_if (t_cmp d_eq (o_eq hr.units) (k_var 1) (k_lst (live := false) a_nil) (nomark _))
      (s_one (s_ret (k_lst (live := false) (a_cons (k_var 0) a_nil))))
      s_nil)
    (s_cons (s_set (i := 2) sc_groups.nd rfl (.inl rfl) (k_lst (live := true) a_nil))
    (s_cons (s_set (i := 3) sc_groups.nd rfl (.inl rfl) (k_lst (live := true) a_nil))
    (s_cons (s_for PassesOwn.never rfl (pi_any (k_var 0)) (g_name (i := 4) sc_groups.nd rfl (.inr rfl))
      (s_cons (s_set (i := 5) sc_groups.nd rfl (.inl rfl) (k_call (ok_lrow_key T) (hr.mono (by first | decide | omega)) (by rfl) T.Q4.g_lrow_key T.Q4.F_lrow_key.kp T.Q4.b_lrow_key pass0 (a_cons (k_comp (own := [("_law_place", 6)]) (live := false) rfl sc_groups.nd (pi_any (k_var 1)) (blkOk_by (own := [("_law_place", 6)]) (N := ["_law_rows", "_law_places", "_law_keys", "_law_groups_here", "_law_row", "_law_key_here", "_law_place"]) (sc := defScope s_groups) (by decide +kernel)) (fun _ _ _ _ _ => (g_name (i := 6) sc_groups.nd rfl (.inl rfl))) (fun _ _ _ _ _ => ts_nil) (fun _ _ _ _ _ => (k_ix (k_var 4) (k_var 6)))) a_nil)))
    (s_one (s_if (t_cmp d_inG (o_inG (u65 hr)) (k_var 5) (k_var 2) (by rfl))
      (s_one (s_drop (k_bm d_app PySem.F.plainAttrs_list PySem.F.slot_list_append PySem.F.type_list_append mt_append (k_ix (k_var 3) (k_bm d_indexP PySem.F.plainAttrs_list PySem.F.slot_list_index PySem.F.type_list_index (mt_indexP (u65 hr)) (k_var 2) (a_cons (k_var 5) a_nil))) (a_cons (k_var 4) a_nil))))
      (s_cons (s_drop (k_bm d_app PySem.F.plainAttrs_list PySem.F.slot_list_append PySem.F.type_list_append mt_append (k_var 2) (a_cons (k_var 5) a_nil)))
    (s_one (s_drop (k_bm d_app PySem.F.plainAttrs_list PySem.F.slot_list_append PySem.F.type_list_append mt_append (k_var 3) (a_cons (k_lst (live := true) (a_cons (k_var 4) a_nil)) a_nil)))))))))
    (s_one (s_ret (k_var 3)))))))
theorem ok_least (T : Txt K mg) : FnOk P w K mg base CX0 2 T.Q5.a_least T.Q5.d_least ["_law_values", "_law_down"] (spOf K (T.cw P w) m_least) :=
  fn_ok T.Q5.F_least sc_least fun cdv A outer s H E hr => (s_cons (s_set (i := 2) sc_least.nd rfl (.inl rfl) k_non)
    (s_cons (s_for PassesOwn.never rfl (pi_any (k_var 0)) (g_name (i := 3) sc_least.nd rfl (.inl rfl))
      (s_one (s_if (PW.pt (w_or (t_cmp d_is o_is (k_var 2) k_non (nomark _)) (w_or1 (PW.pt (w_and (t_cmp d_eq (o_ne hr.units) (k_var 3) (k_var 2) (nomark _)) (w_and1 (t_cmp d_eq (o_ne hr.units) (k_cmp d_ltD (o_ltD (u65 hr)) (k_call (ok_key T) (hr.mono (by first | decide | omega)) (by rfl) T.Q4.g_key T.Q4.F_key.kp T.Q4.b_key pass0 (a_cons (k_var 3) a_nil)) (k_call (ok_key T) (hr.mono (by first | decide | omega)) (by rfl) T.Q4.g_key T.Q4.F_key.kp T.Q4.b_key pass0 (a_cons (k_var 2) a_nil)) (nomark _)) (k_var 1) (nomark _))))))))
      (s_one (s_set (i := 2) sc_least.nd rfl (.inl rfl) (k_var 3)))
      s_nil)))
    (s_one (s_ret (k_var 2)))))
theorem ok_total (T : Txt K mg) : FnOk P w K mg base CX0 1 T.Q5.a_total T.Q5.d_total ["_law_values"] (spOf K (T.cw P w) m_total) :=
  fn_ok T.Q5.F_total sc_total fun cdv A outer s H E hr => (s_cons (s_if (PW.pt (w_or (t_cmp d_eq (o_eq hr.units) (k_var 0) (k_lst (live := false) a_nil) (nomark _)) (w_or1 (t_cmp d_ge op_ge (k_callB d_abs c_abs (by rfl) T.Q5.z_abs bt_abs (a_cons (k_callB d_sum (c_sum rfl) (by rfl) T.Q5.z_sum bt_sum (a_cons (k_var 0) a_nil)) a_nil)) (k_op d_pow op_pow k_int k_int) (nomark _)))))
      (s_one (s_ret k_non))
      s_nil)
    (s_one (s_ret (k_callB d_sum (c_sum rfl) (by rfl) T.Q5.z_sum bt_sum (a_cons (k_var 0) a_nil)))))
theorem ok_made (T : Txt K mg) : FnOk P w K mg base CX0 3 T.Q5.a_made T.Q5.d_made ["_law_group", "_law_places"] (spOf K (T.cw P w) m_made) :=
  fn_ok T.Q5.F_made sc_made fun cdv A outer s H E hr => (s_cons (s_setComp (i := 3) (own := [("_law_place", 2)]) (live := true) rfl sc_made.nd rfl rfl (sw_true rfl rfl rfl (by decide +kernel)) (pi_any (k_var 1)) (blkOk_by (own := [("_law_place", 2)]) (N := ["_law_group", "_law_places", "_law_place", "_law_row", "_law_values", "_law_each"]) (sc := defScope s_made) (by decide +kernel)) (fun _ _ _ _ _ => (g_name (i := 2) sc_made.nd rfl (.inl rfl))) (fun _ _ _ _ _ => ts_nil) (fun _ _ _ _ _ => (k_ix (k_ix (k_var 0) k_int) (k_var 2))))
    (s_cons (s_drop (k_bm d_app PySem.F.plainAttrs_list PySem.F.slot_list_append PySem.F.type_list_append mt_append (k_var 3) (a_cons (k_callB d_len c_len (by rfl) T.Q5.z_len bt_len (a_cons (k_var 0) a_nil)) a_nil)))
    (s_cons (s_for PassesOwn.never rfl (pi_any (k_lst (live := false) (a_cons k_int (a_cons k_int a_nil)))) (g_name (i := 2) sc_made.nd rfl (.inr rfl))
      (s_cons (s_setComp (i := 4) (own := [("_law_each", 5)]) (live := false) rfl sc_made.nd rfl rfl (sw_true rfl rfl rfl (by decide +kernel)) (pi_any (k_var 0)) (blkOk_by (own := [("_law_each", 5)]) (N := ["_law_group", "_law_places", "_law_place", "_law_row", "_law_values", "_law_each"]) (sc := defScope s_made) (by decide +kernel)) (fun _ _ _ _ _ => (g_name (i := 5) sc_made.nd rfl (.inl rfl))) (fun _ _ _ _ _ => (ts_one (t_cmp d_is o_isnot (k_ix (k_var 5) (k_var 2)) k_non (nomark _)))) (fun _ _ _ _ _ => (k_ix (k_var 5) (k_var 2))))
    (s_cons (s_drop (k_bm d_app PySem.F.plainAttrs_list PySem.F.slot_list_append PySem.F.type_list_append mt_append (k_var 3) (a_cons (k_callB d_len c_len (by rfl) T.Q5.z_len bt_len (a_cons (k_var 4) a_nil)) a_nil)))
    (s_cons (s_if (t_cmp d_eq (o_eq hr.units) (k_var 2) k_int (nomark _))
      (s_one (s_drop (k_bm d_app PySem.F.plainAttrs_list PySem.F.slot_list_append PySem.F.type_list_append mt_append (k_var 3) (a_cons (k_call (ok_total T) (hr.mono (by first | decide | omega)) (by rfl) T.Q5.g_total T.Q5.F_total.kp T.Q5.b_total pass0 (a_cons (k_var 4) a_nil)) a_nil))))
      s_nil)
    (s_cons (s_drop (k_bm d_app PySem.F.plainAttrs_list PySem.F.slot_list_append PySem.F.type_list_append mt_append (k_var 3) (a_cons (k_call (ok_least T) (hr.mono (by first | decide | omega)) (by rfl) T.Q5.g_least T.Q5.F_least.kp T.Q5.b_least pass0 (a_cons (k_var 4) (a_cons k_bl a_nil))) a_nil)))
    (s_one (s_drop (k_bm d_app PySem.F.plainAttrs_list PySem.F.slot_list_append PySem.F.type_list_append mt_append (k_var 3) (a_cons (k_call (ok_least T) (hr.mono (by first | decide | omega)) (by rfl) T.Q5.g_least T.Q5.F_least.kp T.Q5.b_least pass0 (a_cons (k_var 4) (a_cons k_bl a_nil))) a_nil)))))))))
    (s_one (s_ret (k_callT d_tuple c_tuple (by rfl) T.Q5.z_tuple bt_tuple (a_cons (k_var 3) a_nil)))))))
theorem ok_items (T : Txt K mg) : FnOk P w K mg base CX0 1 T.Q5.a_items T.Q5.d_items ["_law_places", "_law_names"] (spOf K (T.cw P w) m_items) :=
  fn_ok T.Q5.F_items sc_items fun cdv A outer s H E hr => (s_cons (s_setComp (i := 3) (own := [("_law_place", 2)]) (live := true) rfl sc_items.nd rfl rfl (sw_true rfl rfl rfl (by decide +kernel)) (pi_any (k_var 0)) (blkOk_by (own := [("_law_place", 2)]) (N := ["_law_places", "_law_names", "_law_place", "_law_items_here", "_law_function"]) (sc := defScope s_items) (by decide +kernel)) (fun _ _ _ _ _ => (g_name (i := 2) sc_items.nd rfl (.inl rfl))) (fun _ _ _ _ _ => ts_nil) (fun _ _ _ _ _ => (k_tup (a_cons (k_tup (a_cons k_str (a_cons (k_ix (k_lst (live := false) (a_cons k_non (a_cons k_str a_nil))) (k_op d_mod op_mod (k_var 2) k_int)) (a_cons (k_ix (k_var 1) (k_var 2)) a_nil)))) (a_cons k_non a_nil)))))
    (s_cons (s_drop (k_bm d_app PySem.F.plainAttrs_list PySem.F.slot_list_append PySem.F.type_list_append mt_append (k_var 3) (a_cons (k_tup (a_cons (k_tup (a_cons k_str a_nil)) (a_cons k_str a_nil))) a_nil)))
    (s_cons (s_for PassesOwn.never rfl (pi_any (k_lst (live := false) (a_cons k_int (a_cons k_int a_nil)))) (g_name (i := 2) sc_items.nd rfl (.inl rfl))
      (s_one (s_for PassesOwn.never rfl (pi_any (k_lst (live := false) (a_cons k_str (a_cons k_str (a_cons k_str (a_cons k_str a_nil)))))) (g_name (i := 4) sc_items.nd rfl (.inl rfl))
      (s_one (s_if (PW.pt (w_or (t_cmp d_eq (o_ne hr.units) (k_var 4) k_str (nomark _)) (w_or1 (t_cmp d_eq (o_eq hr.units) (k_var 2) k_int (nomark _)))))
      (s_one (s_drop (k_bm d_app PySem.F.plainAttrs_list PySem.F.slot_list_append PySem.F.type_list_append mt_append (k_var 3) (a_cons (k_tup (a_cons (k_tup (a_cons k_str (a_cons (k_var 4) (a_cons (k_tup (a_cons k_str (a_cons k_non (a_cons (k_ix (k_var 1) (k_var 2)) a_nil)))) a_nil)))) (a_cons k_non a_nil))) a_nil))))
      s_nil)))))
    (s_one (s_ret (k_callT d_tuple c_tuple (by rfl) T.Q5.z_tuple bt_tuple (a_cons (k_var 3) a_nil)))))))
theorem ok_law (T : Txt K mg) : FnOk P w K mg base CX0 84 T.Q5.a_law T.Q5.d_law ["_law_script"] (spOf K (T.cw P w) m_law) :=
  fn_ok T.Q5.F_law sc_law fun cdv A outer s H E hr => (s_cons (s_set (i := 1) sc_law.nd rfl (.inr rfl) (k_lst (live := true) (a_cons (k_callT (d_list (live := false)) c_list (by rfl) T.Q5.z_list bt_list (a_cons (k_var 0) a_nil)) (a_cons k_int (a_cons k_int (a_cons k_int a_nil))))))
    (s_cons (s_set (i := 3) sc_law.nd rfl (.inl rfl) (k_op d_add o_add (k_op d_add o_add (k_lst (live := false) (a_cons k_str a_nil)) (k_comp (own := [("_law_k", 2)]) (live := false) rfl sc_law.nd (pi_rng1 (by rfl) T.Q5.z_range (a_cons k_int a_nil)) (blkOk_by (own := [("_law_k", 2)]) (N := ["_law_script", "_law_state", "_law_k", "_law_kinds", "_law_rows", "_law_values", "_law_places", "_law_names", "_law_group", "_law_having", "_law_least_here", "_law_expected", "_law_sources", "_law_select", "_law_each", "_law_kind", "_law_place"]) (sc := defScope s_law) (by decide +kernel)) (fun _ _ _ _ _ => (g_name (i := 2) sc_law.nd rfl (.inl rfl))) (fun _ _ _ _ _ => ts_nil) (fun _ _ _ _ _ => (k_ix (k_lst (live := false) (a_cons k_str (a_cons k_str (a_cons k_str a_nil)))) (k_call (ok_next T) (hr.mono (by first | decide | omega)) (by rfl) T.Q4.g_next T.Q4.F_next.kp T.Q4.b_next pass0 (a_cons (k_var 1) (a_cons k_int a_nil))))))) (k_lst (live := false) (a_cons k_str (a_cons k_str a_nil)))))
    (ss_pre 2 (s_cons (s_set (i := 4) sc_law.nd rfl (.inl rfl) (k_lst (live := true) a_nil))
    (s_one (s_for PassesOwn.never rfl (pi_rng1 (by rfl) T.Q5.z_range (a_cons (k_call (ok_next T) (hr.mono (by first | decide | omega)) (by rfl) T.Q4.g_next T.Q4.F_next.kp T.Q4.b_next pass0 (a_cons (k_var 1) (a_cons k_int a_nil))) a_nil)) (g_name (i := 2) sc_law.nd rfl (.inl rfl))
      (ss_block (s_cons (s_setComp (i := 5) (own := [("_law_kind", 15)]) (live := true) rfl sc_law.nd rfl rfl (sw_true rfl rfl rfl (by decide +kernel)) (pi_any (k_sl (live := false) (k_var 3) (o_some k_int) o_none)) (blkOk_by (own := [("_law_kind", 15)]) (N := ["_law_script", "_law_state", "_law_k", "_law_kinds", "_law_rows", "_law_values", "_law_places", "_law_names", "_law_group", "_law_having", "_law_least_here", "_law_expected", "_law_sources", "_law_select", "_law_each", "_law_kind", "_law_place"]) (sc := defScope s_law) (by decide +kernel)) (fun _ _ _ _ _ => (g_name (i := 15) sc_law.nd rfl (.inl rfl))) (fun _ _ _ _ _ => ts_nil) (fun _ _ _ _ _ => (k_call (ok_value T) (hr.mono (by first | decide | omega)) (by rfl) T.Q4.g_value T.Q4.F_value.kp T.Q4.b_value pass0 (a_cons (k_var 1) (a_cons (k_var 15) a_nil)))))
    (s_cons (s_if (PW.pt (w_and (t_cmp d_gt op_gt (k_var 2) k_int (nomark _)) (w_and1 (t_cmp d_gt op_gt (k_call (ok_next T) (hr.mono (by first | decide | omega)) (by rfl) T.Q4.g_next T.Q4.F_next.kp T.Q4.b_next pass0 (a_cons (k_var 1) (a_cons k_int a_nil))) k_int (nomark _)))))
      (s_cons (s_set (i := 5) sc_law.nd rfl (.inl rfl) (k_op d_add o_add (k_callT (d_list (live := false)) c_list (by rfl) T.Q5.z_list bt_list (a_cons (k_sl (live := false) (k_ix (k_var 4) (k_op d_sub op_sub (k_var 2) k_int)) (o_some k_int) (o_some k_int)) a_nil)) (k_sl (live := false) (k_var 5) (o_some k_int) o_none)))
    (s_one (s_asg k_non (g_sub (k_var 5) (k_call (ok_next T) (hr.mono (by first | decide | omega)) (by rfl) T.Q4.g_next T.Q4.F_next.kp T.Q4.b_next pass0 (a_cons (k_var 1) (a_cons k_int a_nil)))))))
      s_nil)
    (s_one (s_drop (k_bm d_app PySem.F.plainAttrs_list PySem.F.slot_list_append PySem.F.type_list_append mt_append (k_var 4) (a_cons (k_op d_add o_add (k_tup (a_cons (k_op d_add o_add (k_op d_add o_add k_str (k_callT d_str c_str (by rfl) T.Q5.z_str bt_str (a_cons (k_op d_add o_add (k_var 2) k_int) a_nil))) k_str) a_nil)) (k_callT d_tuple c_tuple (by rfl) T.Q5.z_tuple bt_tuple (a_cons (k_var 5) a_nil))) a_nil))))))))))
    (s_cons (s_set (i := 6) sc_law.nd rfl (.inr rfl) (k_ix (k_lst (live := false) (a_cons (k_lst (live := false) a_nil) (a_cons (k_lst (live := false) (a_cons k_int a_nil)) (a_cons (k_lst (live := false) (a_cons k_int a_nil)) (a_cons (k_lst (live := false) (a_cons k_int (a_cons k_int a_nil))) (a_cons (k_lst (live := false) (a_cons k_int (a_cons k_int a_nil))) (a_cons (k_lst (live := false) (a_cons k_int (a_cons k_int a_nil))) (a_cons (k_lst (live := false) (a_cons k_int (a_cons k_int (a_cons k_int a_nil)))) (a_cons (k_lst (live := false) (a_cons k_int (a_cons k_int (a_cons k_int a_nil)))) (a_cons (k_lst (live := false) (a_cons k_int (a_cons k_int (a_cons k_int (a_cons k_int a_nil))))) (a_cons (k_lst (live := false) (a_cons k_int (a_cons k_int (a_cons k_int (a_cons k_int a_nil))))) a_nil))))))))))) (k_call (ok_next T) (hr.mono (by first | decide | omega)) (by rfl) T.Q4.g_next T.Q4.F_next.kp T.Q4.b_next pass0 (a_cons (k_var 1) (a_cons k_int a_nil)))))
    (s_cons (s_set (i := 7) sc_law.nd rfl (.inr rfl) (k_lst (live := false) (a_cons k_str (a_cons k_str (a_cons k_str (a_cons k_str (a_cons k_str (a_cons k_str (a_cons k_str a_nil)))))))))
    (s_cons (s_set (i := 8) sc_law.nd rfl (.inl rfl) k_non)
    (s_cons (s_if (t_cmp d_eq (o_ne hr.units) (k_var 6) (k_lst (live := false) a_nil) (nomark _))
      (s_one (s_set (i := 8) sc_law.nd rfl (.inl rfl) (k_callT d_tuple c_tuple (by rfl) T.Q5.z_tuple bt_tuple (a_cons (k_comp (own := [("_law_place", 16)]) (live := false) rfl sc_law.nd (pi_any (k_var 6)) (blkOk_by (own := [("_law_place", 16)]) (N := ["_law_script", "_law_state", "_law_k", "_law_kinds", "_law_rows", "_law_values", "_law_places", "_law_names", "_law_group", "_law_having", "_law_least_here", "_law_expected", "_law_sources", "_law_select", "_law_each", "_law_kind", "_law_place"]) (sc := defScope s_law) (by decide +kernel)) (fun _ _ _ _ _ => (g_name (i := 16) sc_law.nd rfl (.inl rfl))) (fun _ _ _ _ _ => ts_nil) (fun _ _ _ _ _ => (k_tup (a_cons k_str (a_cons (k_ix (k_lst (live := false) (a_cons k_str (a_cons k_non a_nil))) (k_call (ok_next T) (hr.mono (by first | decide | omega)) (by rfl) T.Q4.g_next T.Q4.F_next.kp T.Q4.b_next pass0 (a_cons (k_var 1) (a_cons k_int a_nil)))) (a_cons (k_ix (k_var 7) (k_var 16)) a_nil)))))) a_nil))))
      s_nil)
    (s_cons (s_set (i := 9) sc_law.nd rfl (.inl rfl) k_non)
    (s_cons (s_set (i := 10) sc_law.nd rfl (.inr rfl) k_int)
    (s_cons (s_if (t_cmp d_eq (o_eq hr.units) (k_call (ok_next T) (hr.mono (by first | decide | omega)) (by rfl) T.Q4.g_next T.Q4.F_next.kp T.Q4.b_next pass0 (a_cons (k_var 1) (a_cons k_int a_nil))) k_int (nomark _))
      (s_cons (s_set (i := 10) sc_law.nd rfl (.inr rfl) (k_call (ok_next T) (hr.mono (by first | decide | omega)) (by rfl) T.Q4.g_next T.Q4.F_next.kp T.Q4.b_next pass0 (a_cons (k_var 1) (a_cons k_int a_nil))))
    (s_one (s_set (i := 9) sc_law.nd rfl (.inl rfl) (k_tup (a_cons k_str (a_cons k_str (a_cons (k_tup (a_cons k_str a_nil)) (a_cons (k_tup (a_cons k_str (a_cons (k_var 10) a_nil))) a_nil))))))))
      s_nil)
    (s_cons (s_setComp (i := 11) (own := [("_law_each", 14)]) (live := false) rfl sc_law.nd rfl rfl (sw_true rfl rfl rfl (by decide +kernel)) (pi_any (k_call (ok_groups T) (hr.mono (by first | decide | omega)) (by rfl) T.Q4.g_groups T.Q4.F_groups.kp T.Q4.b_groups pass0 (a_cons (k_var 4) (a_cons (k_var 6) a_nil)))) (blkOk_by (own := [("_law_each", 14)]) (N := ["_law_script", "_law_state", "_law_k", "_law_kinds", "_law_rows", "_law_values", "_law_places", "_law_names", "_law_group", "_law_having", "_law_least_here", "_law_expected", "_law_sources", "_law_select", "_law_each", "_law_kind", "_law_place"]) (sc := defScope s_law) (by decide +kernel)) (fun _ _ _ _ _ => (g_name (i := 14) sc_law.nd rfl (.inl rfl))) (fun _ _ _ _ _ => (ts_one (t_cmp d_ge op_ge (k_callB d_len c_len (by rfl) T.Q5.z_len bt_len (a_cons (k_var 14) a_nil)) (k_var 10) (nomark _)))) (fun _ _ _ _ _ => (k_call (ok_made T) (hr.mono (by first | decide | omega)) (by rfl) T.Q5.g_made T.Q5.F_made.kp T.Q5.b_made pass0 (a_cons (k_var 14) (a_cons (k_var 6) a_nil)))))
    (s_cons (s_set (i := 12) sc_law.nd rfl (.inl rfl) (k_kdisp (pps_cons k_str (k_make (live := false) (c := 2) T.Q4.M_Source (ok_Source_init T) (hr.mono (by first | decide | omega)) (by rfl) T.Q0.g_Source T.Q4.b_Source_init pass0 (a_cons k_str (a_cons (k_var 7) (a_cons (k_var 3) (a_cons (k_callT (d_list (live := false)) c_list (by rfl) T.Q5.z_list bt_list (a_cons (k_var 4) a_nil)) a_nil))))) pps_nil) (lps_cons lps_nil)))
    (s_cons (s_set (i := 13) sc_law.nd rfl (.inl rfl) (k_tup (a_cons k_str (a_cons k_bl (a_cons (k_call (ok_items T) (hr.mono (by first | decide | omega)) (by rfl) T.Q5.g_items T.Q5.F_items.kp T.Q5.b_items pass0 (a_cons (k_var 6) (a_cons (k_var 7) a_nil))) (a_cons (k_tup (a_cons k_str (a_cons k_str (a_cons k_non a_nil)))) (a_cons k_non (a_cons (k_var 8) (a_cons (k_var 9) a_nil)))))))))
    (s_one (s_ret (k_call (ok_lsame T 40) (hr.mono (by first | decide | omega)) (by rfl) T.Q4.g_lsame T.Q4.F_lsame.kp T.Q4.b_lsame pass0 (a_cons (k_call (ok_query_rows T) (hr.mono (by first | decide | omega)) (by rfl) T.Q4.g_query_rows T.Q4.F_query_rows.kp T.Q4.b_query_rows pass0 (a_cons (k_var 13) (a_cons (k_var 12) (a_cons (k_lst (live := false) a_nil) a_nil)))) (a_cons (k_var 11) a_nil))))))))))))))))))
end
theorem fx_World_init {K : PySem.W.Frag} (c : Pv.SaysC fas fns csl K) : ∃ fd, Fun K "__init__" "World.__init__" s_World_init (He.fAd K ("World", some "__init__")) fd := c.fun_ 0 0 (l := fn0)
theorem fx_Frame_init {K : PySem.W.Frag} (c : Pv.SaysC fas fns csl K) : ∃ fd, Fun K "__init__" "Frame.__init__" s_Frame_init (He.fAd K ("Frame", some "__init__")) fd := c.fun_ 0 1 (l := fn0)
theorem fx_named {K : PySem.W.Frag} (c : Pv.SaysC fas fns csl K) : ∃ fd, Fun K "named" "named" s_named (He.fAd K ("named", none)) fd := c.fun_ 0 2 (l := fn0)
theorem fx_locate {K : PySem.W.Frag} (c : Pv.SaysC fas fns csl K) : ∃ fd, Fun K "locate" "locate" s_locate (He.fAd K ("locate", none)) fd := c.fun_ 0 3 (l := fn0)
theorem fx_own_index {K : PySem.W.Frag} (c : Pv.SaysC fas fns csl K) : ∃ fd, Fun K "own_index" "own_index" s_own_index (He.fAd K ("own_index", none)) fd := c.fun_ 0 4 (l := fn0)
theorem fx_operands {K : PySem.W.Frag} (c : Pv.SaysC fas fns csl K) : ∃ fd, Fun K "operands" "operands" s_operands (He.fAd K ("operands", none)) fd := c.fun_ 0 5 (l := fn0)
theorem fx_has_aggregate {K : PySem.W.Frag} (c : Pv.SaysC fas fns csl K) : ∃ fd, Fun K "has_aggregate" "has_aggregate" s_has_aggregate (He.fAd K ("has_aggregate", none)) fd := c.fun_ 1 0 (l := fn1)
theorem fx_is_grouping {K : PySem.W.Frag} (c : Pv.SaysC fas fns csl K) : ∃ fd, Fun K "is_grouping" "is_grouping" s_is_grouping (He.fAd K ("is_grouping", none)) fd := c.fun_ 1 1 (l := fn1)
theorem fx_item_name {K : PySem.W.Frag} (c : Pv.SaysC fas fns csl K) : ∃ fd, Fun K "item_name" "item_name" s_item_name (He.fAd K ("item_name", none)) fd := c.fun_ 1 2 (l := fn1)
theorem fx_known_as {K : PySem.W.Frag} (c : Pv.SaysC fas fns csl K) : ∃ fd, Fun K "known_as" "known_as" s_known_as (He.fAd K ("known_as", none)) fd := c.fun_ 1 3 (l := fn1)
theorem fx_value_key {K : PySem.W.Frag} (c : Pv.SaysC fas fns csl K) : ∃ fd, Fun K "value_key" "value_key" s_value_key (He.fAd K ("value_key", none)) fd := c.fun_ 1 4 (l := fn1)
theorem fx_row_key {K : PySem.W.Frag} (c : Pv.SaysC fas fns csl K) : ∃ fd, Fun K "row_key" "row_key" s_row_key (He.fAd K ("row_key", none)) fd := c.fun_ 1 5 (l := fn1)
theorem fx_same {K : PySem.W.Frag} (c : Pv.SaysC fas fns csl K) : ∃ fd, Fun K "same" "same" s_same (He.fAd K ("same", none)) fd := c.fun_ 1 6 (l := fn1)
theorem fx_bounded {K : PySem.W.Frag} (c : Pv.SaysC fas fns csl K) : ∃ fd, Fun K "bounded" "bounded" s_bounded (He.fAd K ("bounded", none)) fd := c.fun_ 1 7 (l := fn1)
theorem fx_quotient {K : PySem.W.Frag} (c : Pv.SaysC fas fns csl K) : ∃ fd, Fun K "quotient" "quotient" s_quotient (He.fAd K ("quotient", none)) fd := c.fun_ 1 8 (l := fn1)
theorem fx_arithmetic {K : PySem.W.Frag} (c : Pv.SaysC fas fns csl K) : ∃ fd, Fun K "arithmetic" "arithmetic" s_arithmetic (He.fAd K ("arithmetic", none)) fd := c.fun_ 2 0 (l := fn2)
theorem fx_compare {K : PySem.W.Frag} (c : Pv.SaysC fas fns csl K) : ∃ fd, Fun K "compare" "compare" s_compare (He.fAd K ("compare", none)) fd := c.fun_ 2 1 (l := fn2)
theorem fx_negation {K : PySem.W.Frag} (c : Pv.SaysC fas fns csl K) : ∃ fd, Fun K "negation" "negation" s_negation (He.fAd K ("negation", none)) fd := c.fun_ 2 2 (l := fn2)
theorem fx_conjunction {K : PySem.W.Frag} (c : Pv.SaysC fas fns csl K) : ∃ fd, Fun K "conjunction" "conjunction" s_conjunction (He.fAd K ("conjunction", none)) fd := c.fun_ 2 3 (l := fn2)
theorem fx_disjunction {K : PySem.W.Frag} (c : Pv.SaysC fas fns csl K) : ∃ fd, Fun K "disjunction" "disjunction" s_disjunction (He.fAd K ("disjunction", none)) fd := c.fun_ 2 4 (l := fn2)
theorem fx_value_of {K : PySem.W.Frag} (c : Pv.SaysC fas fns csl K) : ∃ fd, Fun K "value_of" "value_of" s_value_of (He.fAd K ("value_of", none)) fd := c.fun_ 2 5 (l := fn2)
theorem fx_combined {K : PySem.W.Frag} (c : Pv.SaysC fas fns csl K) : ∃ fd, Fun K "combined" "combined" s_combined (He.fAd K ("combined", none)) fd := c.fun_ 2 6 (l := fn2)
theorem fx_membership {K : PySem.W.Frag} (c : Pv.SaysC fas fns csl K) : ∃ fd, Fun K "membership" "membership" s_membership (He.fAd K ("membership", none)) fd := c.fun_ 2 7 (l := fn2)
theorem fx_is_among {K : PySem.W.Frag} (c : Pv.SaysC fas fns csl K) : ∃ fd, Fun K "is_among" "is_among" s_is_among (He.fAd K ("is_among", none)) fd := c.fun_ 2 8 (l := fn2)
theorem fx_aggregate {K : PySem.W.Frag} (c : Pv.SaysC fas fns csl K) : ∃ fd, Fun K "aggregate" "aggregate" s_aggregate (He.fAd K ("aggregate", none)) fd := c.fun_ 3 0 (l := fn3)
theorem fx_kept_frames {K : PySem.W.Frag} (c : Pv.SaysC fas fns csl K) : ∃ fd, Fun K "kept_frames" "kept_frames" s_kept_frames (He.fAd K ("kept_frames", none)) fd := c.fun_ 3 1 (l := fn3)
theorem fx_without_repeats {K : PySem.W.Frag} (c : Pv.SaysC fas fns csl K) : ∃ fd, Fun K "without_repeats" "without_repeats" s_without_repeats (He.fAd K ("without_repeats", none)) fd := c.fun_ 3 2 (l := fn3)
theorem fx_table_result {K : PySem.W.Frag} (c : Pv.SaysC fas fns csl K) : ∃ fd, Fun K "table_result" "table_result" s_table_result (He.fAd K ("table_result", none)) fd := c.fun_ 3 3 (l := fn3)
theorem fx_source_result {K : PySem.W.Frag} (c : Pv.SaysC fas fns csl K) : ∃ fd, Fun K "source_result" "source_result" s_source_result (He.fAd K ("source_result", none)) fd := c.fun_ 3 4 (l := fn3)
theorem fx_grouped_frames {K : PySem.W.Frag} (c : Pv.SaysC fas fns csl K) : ∃ fd, Fun K "grouped_frames" "grouped_frames" s_grouped_frames (He.fAd K ("grouped_frames", none)) fd := c.fun_ 3 5 (l := fn3)
theorem fx_select_result {K : PySem.W.Frag} (c : Pv.SaysC fas fns csl K) : ∃ fd, Fun K "select_result" "select_result" s_select_result (He.fAd K ("select_result", none)) fd := c.fun_ 3 6 (l := fn3)
theorem fx_made_row {K : PySem.W.Frag} (c : Pv.SaysC fas fns csl K) : ∃ fd, Fun K "made_row" "made_row" s_made_row (He.fAd K ("made_row", none)) fd := c.fun_ 3 7 (l := fn3)
theorem fx_result_of {K : PySem.W.Frag} (c : Pv.SaysC fas fns csl K) : ∃ fd, Fun K "result_of" "result_of" s_result_of (He.fAd K ("result_of", none)) fd := c.fun_ 3 8 (l := fn3)
theorem fx_query_rows {K : PySem.W.Frag} (c : Pv.SaysC fas fns csl K) : ∃ fd, Fun K "query_rows" "query_rows" s_query_rows (He.fAd K ("query_rows", none)) fd := c.fun_ 4 0 (l := fn4)
theorem fx_Source_init {K : PySem.W.Frag} (c : Pv.SaysC fas fns csl K) : ∃ fd, Fun K "__init__" "Source.__init__" s_Source_init (He.fAd K ("Source", some "__init__")) fd := c.fun_ 4 1 (l := fn4)
theorem fx_next {K : PySem.W.Frag} (c : Pv.SaysC fas fns csl K) : ∃ fd, Fun K "_law_next" "_law_next" s_next (He.fAd K ("_law_next", none)) fd := c.fun_ 4 2 (l := fn4)
theorem fx_lsame {K : PySem.W.Frag} (c : Pv.SaysC fas fns csl K) : ∃ fd, Fun K "_law_same" "_law_same" s_lsame (He.fAd K ("_law_same", none)) fd := c.fun_ 4 3 (l := fn4)
theorem fx_char {K : PySem.W.Frag} (c : Pv.SaysC fas fns csl K) : ∃ fd, Fun K "_law_char" "_law_char" s_char (He.fAd K ("_law_char", none)) fd := c.fun_ 4 4 (l := fn4)
theorem fx_value {K : PySem.W.Frag} (c : Pv.SaysC fas fns csl K) : ∃ fd, Fun K "_law_value" "_law_value" s_value (He.fAd K ("_law_value", none)) fd := c.fun_ 4 5 (l := fn4)
theorem fx_key {K : PySem.W.Frag} (c : Pv.SaysC fas fns csl K) : ∃ fd, Fun K "_law_key" "_law_key" s_key (He.fAd K ("_law_key", none)) fd := c.fun_ 4 6 (l := fn4)
theorem fx_lrow_key {K : PySem.W.Frag} (c : Pv.SaysC fas fns csl K) : ∃ fd, Fun K "_law_row_key" "_law_row_key" s_lrow_key (He.fAd K ("_law_row_key", none)) fd := c.fun_ 4 7 (l := fn4)
theorem fx_groups {K : PySem.W.Frag} (c : Pv.SaysC fas fns csl K) : ∃ fd, Fun K "_law_groups" "_law_groups" s_groups (He.fAd K ("_law_groups", none)) fd := c.fun_ 4 8 (l := fn4)
theorem fx_least {K : PySem.W.Frag} (c : Pv.SaysC fas fns csl K) : ∃ fd, Fun K "_law_least" "_law_least" s_least (He.fAd K ("_law_least", none)) fd := c.fun_ 5 0 (l := fn5)
theorem fx_total {K : PySem.W.Frag} (c : Pv.SaysC fas fns csl K) : ∃ fd, Fun K "_law_total" "_law_total" s_total (He.fAd K ("_law_total", none)) fd := c.fun_ 5 1 (l := fn5)
theorem fx_made {K : PySem.W.Frag} (c : Pv.SaysC fas fns csl K) : ∃ fd, Fun K "_law_made" "_law_made" s_made (He.fAd K ("_law_made", none)) fd := c.fun_ 5 2 (l := fn5)
theorem fx_items {K : PySem.W.Frag} (c : Pv.SaysC fas fns csl K) : ∃ fd, Fun K "_law_items" "_law_items" s_items (He.fAd K ("_law_items", none)) fd := c.fun_ 5 3 (l := fn5)
theorem fx_law {K : PySem.W.Frag} (c : Pv.SaysC fas fns csl K) : ∃ fd, Fun K "law" "law" s_law (He.fAd K ("law", none)) fd := c.fun_ 5 4 (l := fn5)
theorem cx_BOUND {K : PySem.W.Frag} (c : Pv.SaysC fas fns csl K) {h : Heap} {mg : Str → Option Value} (X : K.In h) (G : h.Ns mainGlobals mg) : ∃ (u : Value) (v : V), mg "BOUND" = some u ∧ RelV v u ∧ (∀ (F : Hp) (cl : ClW), Rp K cl F Kb.u_BOUND v) ∧ ((∃ ps, Kb.u_BOUND = .tup ps) → TupC K v) := c.cst X G 0
theorem cx_LONGESTTEXT {K : PySem.W.Frag} (c : Pv.SaysC fas fns csl K) {h : Heap} {mg : Str → Option Value} (X : K.In h) (G : h.Ns mainGlobals mg) : ∃ (u : Value) (v : V), mg "LONGEST_TEXT" = some u ∧ RelV v u ∧ (∀ (F : Hp) (cl : ClW), Rp K cl F Kb.u_LONGESTTEXT v) ∧ ((∃ ps, Kb.u_LONGESTTEXT = .tup ps) → TupC K v) := c.cst X G 1
theorem cx_COMPARISONS {K : PySem.W.Frag} (c : Pv.SaysC fas fns csl K) {h : Heap} {mg : Str → Option Value} (X : K.In h) (G : h.Ns mainGlobals mg) : ∃ (u : Value) (v : V), mg "COMPARISONS" = some u ∧ RelV v u ∧ (∀ (F : Hp) (cl : ClW), Rp K cl F Kb.u_COMPARISONS v) ∧ ((∃ ps, Kb.u_COMPARISONS = .tup ps) → TupC K v) := c.cst X G 2
noncomputable def mkQ0 {K : PySem.W.Frag} {h : Heap} {mg : Str → Option Value} (X : K.In h) (G : h.Ns mainGlobals mg) (c : Pv.SaysC fas fns csl K) : TxtQ0 K mg (He.ga K "World") (He.ga K "Frame") (He.ga K "Source") where
  cl_World := He.cls_ok (c.fact 0 0 (l := fa0) (f := .cls "World"))
  g_World := He.glo_ok X G (c.fact 0 1 (l := fa0) (f := .glo "World"))
  n_World_parameters := He.noat_ok (c.fact 0 2 (l := fa0) (f := .noat "World" "parameters"))
  n_World_sources := He.noat_ok (c.fact 0 3 (l := fa0) (f := .noat "World" "sources"))
  cl_Frame := He.cls_ok (c.fact 0 4 (l := fa0) (f := .cls "Frame"))
  g_Frame := He.glo_ok X G (c.fact 0 5 (l := fa0) (f := .glo "Frame"))
  n_Frame_columns := He.noat_ok (c.fact 0 6 (l := fa0) (f := .noat "Frame" "columns"))
  n_Frame_members := He.noat_ok (c.fact 0 7 (l := fa0) (f := .noat "Frame" "members"))
  n_Frame_outer := He.noat_ok (c.fact 0 8 (l := fa0) (f := .noat "Frame" "outer"))
  n_Frame_row := He.noat_ok (c.fact 0 9 (l := fa0) (f := .noat "Frame" "row"))
  cl_Source := He.cls_ok (c.fact 0 10 (l := fa0) (f := .cls "Source"))
  g_Source := He.glo_ok X G (c.fact 0 11 (l := fa0) (f := .glo "Source"))
  n_Source_columns := He.noat_ok (c.fact 0 12 (l := fa0) (f := .noat "Source" "columns"))
  n_Source_kinds := He.noat_ok (c.fact 0 13 (l := fa0) (f := .noat "Source" "kinds"))
  n_Source_name := He.noat_ok (c.fact 0 14 (l := fa0) (f := .noat "Source" "name"))
  n_Source_rows := He.noat_ok (c.fact 0 15 (l := fa0) (f := .noat "Source" "rows"))
  a_World_init := He.fAd K ("World", some "__init__")
  d_World_init := (fx_World_init c).choose
  F_World_init := (fx_World_init c).choose_spec
  b_World_init := (fx_World_init c).choose_spec.binds (ps := ["self", "sources", "parameters"]) fun _ _ _ _ _ _ us hl => match us, hl with | [_, _, _], _ => rfl
  M_World := He.mkr_ok (c.fact 0 16 (l := fa0) (f := .mkr "World"))
  a_Frame_init := He.fAd K ("Frame", some "__init__")
  d_Frame_init := (fx_Frame_init c).choose
  F_Frame_init := (fx_Frame_init c).choose_spec
  b_Frame_init := (fx_Frame_init c).choose_spec.binds (ps := ["self", "columns", "row", "members", "outer"]) fun _ _ _ _ _ _ us hl => match us, hl with | [_, _, _, _, _], _ => rfl
  M_Frame := He.mkr_ok (c.fact 0 17 (l := fa0) (f := .mkr "Frame"))
  a_named := He.fAd K ("named", none)
  d_named := (fx_named c).choose
  F_named := (fx_named c).choose_spec
  b_named := (fx_named c).choose_spec.binds (ps := ["columns", "source", "name"]) fun _ _ _ _ _ _ us hl => match us, hl with | [_, _, _], _ => rfl
  g_named := He.glo_ok X G (c.fact 0 18 (l := fa0) (f := .glo "named"))
  a_locate := He.fAd K ("locate", none)
  d_locate := (fx_locate c).choose
  F_locate := (fx_locate c).choose_spec
  b_locate := (fx_locate c).choose_spec.binds (ps := ["scope", "source", "name"]) fun _ _ _ _ _ _ us hl => match us, hl with | [_, _, _], _ => rfl
  g_locate := He.glo_ok X G (c.fact 0 19 (l := fa0) (f := .glo "locate"))
  a_own_index := He.fAd K ("own_index", none)
  d_own_index := (fx_own_index c).choose
  F_own_index := (fx_own_index c).choose_spec
  b_own_index := (fx_own_index c).choose_spec.binds (ps := ["columns", "node"]) fun _ _ _ _ _ _ us hl => match us, hl with | [_, _], _ => rfl
  g_own_index := He.glo_ok X G (c.fact 0 20 (l := fa0) (f := .glo "own_index"))
  a_operands := He.fAd K ("operands", none)
  d_operands := (fx_operands c).choose
  F_operands := (fx_operands c).choose_spec
  b_operands := (fx_operands c).choose_spec.binds (ps := ["node"]) fun _ _ _ _ _ _ us hl => match us, hl with | [_], _ => rfl
  g_operands := He.glo_ok X G (c.fact 0 21 (l := fa0) (f := .glo "operands"))
noncomputable def mkQ1 {K : PySem.W.Frag} {h : Heap} {mg : Str → Option Value} (X : K.In h) (G : h.Ns mainGlobals mg) (c : Pv.SaysC fas fns csl K) : TxtQ1 K mg (He.ga K "World") (He.ga K "Frame") (He.ga K "Source") where
  a_has_aggregate := He.fAd K ("has_aggregate", none)
  d_has_aggregate := (fx_has_aggregate c).choose
  F_has_aggregate := (fx_has_aggregate c).choose_spec
  b_has_aggregate := (fx_has_aggregate c).choose_spec.binds (ps := ["node"]) fun _ _ _ _ _ _ us hl => match us, hl with | [_], _ => rfl
  g_has_aggregate := He.glo_ok X G (c.fact 1 0 (l := fa1) (f := .glo "has_aggregate"))
  a_is_grouping := He.fAd K ("is_grouping", none)
  d_is_grouping := (fx_is_grouping c).choose
  F_is_grouping := (fx_is_grouping c).choose_spec
  b_is_grouping := (fx_is_grouping c).choose_spec.binds (ps := ["select"]) fun _ _ _ _ _ _ us hl => match us, hl with | [_], _ => rfl
  g_is_grouping := He.glo_ok X G (c.fact 1 1 (l := fa1) (f := .glo "is_grouping"))
  a_item_name := He.fAd K ("item_name", none)
  d_item_name := (fx_item_name c).choose
  F_item_name := (fx_item_name c).choose_spec
  b_item_name := (fx_item_name c).choose_spec.binds (ps := ["item"]) fun _ _ _ _ _ _ us hl => match us, hl with | [_], _ => rfl
  g_item_name := He.glo_ok X G (c.fact 1 2 (l := fa1) (f := .glo "item_name"))
  a_known_as := He.fAd K ("known_as", none)
  d_known_as := (fx_known_as c).choose
  F_known_as := (fx_known_as c).choose_spec
  b_known_as := (fx_known_as c).choose_spec.binds (ps := ["source"]) fun _ _ _ _ _ _ us hl => match us, hl with | [_], _ => rfl
  g_known_as := He.glo_ok X G (c.fact 1 3 (l := fa1) (f := .glo "known_as"))
  a_value_key := He.fAd K ("value_key", none)
  d_value_key := (fx_value_key c).choose
  F_value_key := (fx_value_key c).choose_spec
  b_value_key := (fx_value_key c).choose_spec.binds (ps := ["value"]) fun _ _ _ _ _ _ us hl => match us, hl with | [_], _ => rfl
  g_value_key := He.glo_ok X G (c.fact 1 4 (l := fa1) (f := .glo "value_key"))
  a_row_key := He.fAd K ("row_key", none)
  d_row_key := (fx_row_key c).choose
  F_row_key := (fx_row_key c).choose_spec
  b_row_key := (fx_row_key c).choose_spec.binds (ps := ["row"]) fun _ _ _ _ _ _ us hl => match us, hl with | [_], _ => rfl
  g_row_key := He.glo_ok X G (c.fact 1 5 (l := fa1) (f := .glo "row_key"))
  a_same := He.fAd K ("same", none)
  d_same := (fx_same c).choose
  F_same := (fx_same c).choose_spec
  b_same := (fx_same c).choose_spec.binds (ps := ["first", "second"]) fun _ _ _ _ _ _ us hl => match us, hl with | [_, _], _ => rfl
  g_same := He.glo_ok X G (c.fact 1 6 (l := fa1) (f := .glo "same"))
  a_bounded := He.fAd K ("bounded", none)
  d_bounded := (fx_bounded c).choose
  F_bounded := (fx_bounded c).choose_spec
  b_bounded := (fx_bounded c).choose_spec.binds (ps := ["number"]) fun _ _ _ _ _ _ us hl => match us, hl with | [_], _ => rfl
  g_bounded := He.glo_ok X G (c.fact 1 7 (l := fa1) (f := .glo "bounded"))
  a_quotient := He.fAd K ("quotient", none)
  d_quotient := (fx_quotient c).choose
  F_quotient := (fx_quotient c).choose_spec
  b_quotient := (fx_quotient c).choose_spec.binds (ps := ["first", "second"]) fun _ _ _ _ _ _ us hl => match us, hl with | [_, _], _ => rfl
  g_quotient := He.glo_ok X G (c.fact 1 8 (l := fa1) (f := .glo "quotient"))
noncomputable def mkQ2 {K : PySem.W.Frag} {h : Heap} {mg : Str → Option Value} (X : K.In h) (G : h.Ns mainGlobals mg) (c : Pv.SaysC fas fns csl K) : TxtQ2 K mg (He.ga K "World") (He.ga K "Frame") (He.ga K "Source") where
  a_arithmetic := He.fAd K ("arithmetic", none)
  d_arithmetic := (fx_arithmetic c).choose
  F_arithmetic := (fx_arithmetic c).choose_spec
  b_arithmetic := (fx_arithmetic c).choose_spec.binds (ps := ["operator", "first", "second"]) fun _ _ _ _ _ _ us hl => match us, hl with | [_, _, _], _ => rfl
  g_arithmetic := He.glo_ok X G (c.fact 2 0 (l := fa2) (f := .glo "arithmetic"))
  a_compare := He.fAd K ("compare", none)
  d_compare := (fx_compare c).choose
  F_compare := (fx_compare c).choose_spec
  b_compare := (fx_compare c).choose_spec.binds (ps := ["operator", "first", "second"]) fun _ _ _ _ _ _ us hl => match us, hl with | [_, _, _], _ => rfl
  g_compare := He.glo_ok X G (c.fact 2 1 (l := fa2) (f := .glo "compare"))
  a_negation := He.fAd K ("negation", none)
  d_negation := (fx_negation c).choose
  F_negation := (fx_negation c).choose_spec
  b_negation := (fx_negation c).choose_spec.binds (ps := ["value"]) fun _ _ _ _ _ _ us hl => match us, hl with | [_], _ => rfl
  g_negation := He.glo_ok X G (c.fact 2 2 (l := fa2) (f := .glo "negation"))
  a_conjunction := He.fAd K ("conjunction", none)
  d_conjunction := (fx_conjunction c).choose
  F_conjunction := (fx_conjunction c).choose_spec
  b_conjunction := (fx_conjunction c).choose_spec.binds (ps := ["first", "second"]) fun _ _ _ _ _ _ us hl => match us, hl with | [_, _], _ => rfl
  g_conjunction := He.glo_ok X G (c.fact 2 3 (l := fa2) (f := .glo "conjunction"))
  a_disjunction := He.fAd K ("disjunction", none)
  d_disjunction := (fx_disjunction c).choose
  F_disjunction := (fx_disjunction c).choose_spec
  b_disjunction := (fx_disjunction c).choose_spec.binds (ps := ["first", "second"]) fun _ _ _ _ _ _ us hl => match us, hl with | [_, _], _ => rfl
  g_disjunction := He.glo_ok X G (c.fact 2 4 (l := fa2) (f := .glo "disjunction"))
  a_value_of := He.fAd K ("value_of", none)
  d_value_of := (fx_value_of c).choose
  F_value_of := (fx_value_of c).choose_spec
  b_value_of := (fx_value_of c).choose_spec.binds (ps := ["node", "frame", "world"]) fun _ _ _ _ _ _ us hl => match us, hl with | [_, _, _], _ => rfl
  g_value_of := He.glo_ok X G (c.fact 2 5 (l := fa2) (f := .glo "value_of"))
  a_combined := He.fAd K ("combined", none)
  d_combined := (fx_combined c).choose
  F_combined := (fx_combined c).choose_spec
  b_combined := (fx_combined c).choose_spec.binds (ps := ["operator", "first", "second"]) fun _ _ _ _ _ _ us hl => match us, hl with | [_, _, _], _ => rfl
  g_combined := He.glo_ok X G (c.fact 2 6 (l := fa2) (f := .glo "combined"))
  a_membership := He.fAd K ("membership", none)
  d_membership := (fx_membership c).choose
  F_membership := (fx_membership c).choose_spec
  b_membership := (fx_membership c).choose_spec.binds (ps := ["node", "frame", "world"]) fun _ _ _ _ _ _ us hl => match us, hl with | [_, _, _], _ => rfl
  g_membership := He.glo_ok X G (c.fact 2 7 (l := fa2) (f := .glo "membership"))
  a_is_among := He.fAd K ("is_among", none)
  d_is_among := (fx_is_among c).choose
  F_is_among := (fx_is_among c).choose_spec
  b_is_among := (fx_is_among c).choose_spec.binds (ps := ["value", "column"]) fun _ _ _ _ _ _ us hl => match us, hl with | [_, _], _ => rfl
  g_is_among := He.glo_ok X G (c.fact 2 8 (l := fa2) (f := .glo "is_among"))
noncomputable def mkQ3 {K : PySem.W.Frag} {h : Heap} {mg : Str → Option Value} (X : K.In h) (G : h.Ns mainGlobals mg) (c : Pv.SaysC fas fns csl K) : TxtQ3 K mg (He.ga K "World") (He.ga K "Frame") (He.ga K "Source") where
  a_aggregate := He.fAd K ("aggregate", none)
  d_aggregate := (fx_aggregate c).choose
  F_aggregate := (fx_aggregate c).choose_spec
  b_aggregate := (fx_aggregate c).choose_spec.binds (ps := ["node", "frame", "world"]) fun _ _ _ _ _ _ us hl => match us, hl with | [_, _, _], _ => rfl
  g_aggregate := He.glo_ok X G (c.fact 3 0 (l := fa3) (f := .glo "aggregate"))
  a_kept_frames := He.fAd K ("kept_frames", none)
  d_kept_frames := (fx_kept_frames c).choose
  F_kept_frames := (fx_kept_frames c).choose_spec
  b_kept_frames := (fx_kept_frames c).choose_spec.binds (ps := ["condition", "frames", "world"]) fun _ _ _ _ _ _ us hl => match us, hl with | [_, _, _], _ => rfl
  g_kept_frames := He.glo_ok X G (c.fact 3 1 (l := fa3) (f := .glo "kept_frames"))
  a_without_repeats := He.fAd K ("without_repeats", none)
  d_without_repeats := (fx_without_repeats c).choose
  F_without_repeats := (fx_without_repeats c).choose_spec
  b_without_repeats := (fx_without_repeats c).choose_spec.binds (ps := ["rows"]) fun _ _ _ _ _ _ us hl => match us, hl with | [_], _ => rfl
  g_without_repeats := He.glo_ok X G (c.fact 3 2 (l := fa3) (f := .glo "without_repeats"))
  a_table_result := He.fAd K ("table_result", none)
  d_table_result := (fx_table_result c).choose
  F_table_result := (fx_table_result c).choose_spec
  b_table_result := (fx_table_result c).choose_spec.binds (ps := ["source", "world"]) fun _ _ _ _ _ _ us hl => match us, hl with | [_, _], _ => rfl
  g_table_result := He.glo_ok X G (c.fact 3 3 (l := fa3) (f := .glo "table_result"))
  a_source_result := He.fAd K ("source_result", none)
  d_source_result := (fx_source_result c).choose
  F_source_result := (fx_source_result c).choose_spec
  b_source_result := (fx_source_result c).choose_spec.binds (ps := ["source", "outer", "world"]) fun _ _ _ _ _ _ us hl => match us, hl with | [_, _, _], _ => rfl
  g_source_result := He.glo_ok X G (c.fact 3 4 (l := fa3) (f := .glo "source_result"))
  a_grouped_frames := He.fAd K ("grouped_frames", none)
  d_grouped_frames := (fx_grouped_frames c).choose
  F_grouped_frames := (fx_grouped_frames c).choose_spec
  b_grouped_frames := (fx_grouped_frames c).choose_spec.binds (ps := ["select", "columns", "rows", "outer"]) fun _ _ _ _ _ _ us hl => match us, hl with | [_, _, _, _], _ => rfl
  g_grouped_frames := He.glo_ok X G (c.fact 3 5 (l := fa3) (f := .glo "grouped_frames"))
  a_select_result := He.fAd K ("select_result", none)
  d_select_result := (fx_select_result c).choose
  F_select_result := (fx_select_result c).choose_spec
  b_select_result := (fx_select_result c).choose_spec.binds (ps := ["select", "outer", "world"]) fun _ _ _ _ _ _ us hl => match us, hl with | [_, _, _], _ => rfl
  g_select_result := He.glo_ok X G (c.fact 3 6 (l := fa3) (f := .glo "select_result"))
  a_made_row := He.fAd K ("made_row", none)
  d_made_row := (fx_made_row c).choose
  F_made_row := (fx_made_row c).choose_spec
  b_made_row := (fx_made_row c).choose_spec.binds (ps := ["items", "frame", "world"]) fun _ _ _ _ _ _ us hl => match us, hl with | [_, _, _], _ => rfl
  g_made_row := He.glo_ok X G (c.fact 3 7 (l := fa3) (f := .glo "made_row"))
  a_result_of := He.fAd K ("result_of", none)
  d_result_of := (fx_result_of c).choose
  F_result_of := (fx_result_of c).choose_spec
  b_result_of := (fx_result_of c).choose_spec.binds (ps := ["query", "outer", "world"]) fun _ _ _ _ _ _ us hl => match us, hl with | [_, _, _], _ => rfl
  g_result_of := He.glo_ok X G (c.fact 3 8 (l := fa3) (f := .glo "result_of"))
noncomputable def mkQ4 {K : PySem.W.Frag} {h : Heap} {mg : Str → Option Value} (X : K.In h) (G : h.Ns mainGlobals mg) (c : Pv.SaysC fas fns csl K) : TxtQ4 K mg (He.ga K "World") (He.ga K "Frame") (He.ga K "Source") where
  a_query_rows := He.fAd K ("query_rows", none)
  d_query_rows := (fx_query_rows c).choose
  F_query_rows := (fx_query_rows c).choose_spec
  b_query_rows := (fx_query_rows c).choose_spec.binds (ps := ["query", "sources", "parameters"]) fun _ _ _ _ _ _ us hl => match us, hl with | [_, _, _], _ => rfl
  g_query_rows := He.glo_ok X G (c.fact 4 0 (l := fa4) (f := .glo "query_rows"))
  a_Source_init := He.fAd K ("Source", some "__init__")
  d_Source_init := (fx_Source_init c).choose
  F_Source_init := (fx_Source_init c).choose_spec
  b_Source_init := (fx_Source_init c).choose_spec.binds (ps := ["self", "name", "columns", "kinds", "rows"]) fun _ _ _ _ _ _ us hl => match us, hl with | [_, _, _, _, _], _ => rfl
  M_Source := He.mkr_ok (c.fact 4 1 (l := fa4) (f := .mkr "Source"))
  a_next := He.fAd K ("_law_next", none)
  d_next := (fx_next c).choose
  F_next := (fx_next c).choose_spec
  b_next := (fx_next c).choose_spec.binds (ps := ["_law_state", "_law_limit"]) fun _ _ _ _ _ _ us hl => match us, hl with | [_, _], _ => rfl
  g_next := He.glo_ok X G (c.fact 4 2 (l := fa4) (f := .glo "_law_next"))
  a_lsame := He.fAd K ("_law_same", none)
  d_lsame := (fx_lsame c).choose
  F_lsame := (fx_lsame c).choose_spec
  b_lsame := (fx_lsame c).choose_spec.binds (ps := ["_law_actual", "_law_expected"]) fun _ _ _ _ _ _ us hl => match us, hl with | [_, _], _ => rfl
  g_lsame := He.glo_ok X G (c.fact 4 3 (l := fa4) (f := .glo "_law_same"))
  a_char := He.fAd K ("_law_char", none)
  d_char := (fx_char c).choose
  F_char := (fx_char c).choose_spec
  b_char := (fx_char c).choose_spec.binds (ps := ["_law_index"]) fun _ _ _ _ _ _ us hl => match us, hl with | [_], _ => rfl
  g_char := He.glo_ok X G (c.fact 4 4 (l := fa4) (f := .glo "_law_char"))
  a_value := He.fAd K ("_law_value", none)
  d_value := (fx_value c).choose
  F_value := (fx_value c).choose_spec
  b_value := (fx_value c).choose_spec.binds (ps := ["_law_state", "_law_kind"]) fun _ _ _ _ _ _ us hl => match us, hl with | [_, _], _ => rfl
  g_value := He.glo_ok X G (c.fact 4 5 (l := fa4) (f := .glo "_law_value"))
  a_key := He.fAd K ("_law_key", none)
  d_key := (fx_key c).choose
  F_key := (fx_key c).choose_spec
  b_key := (fx_key c).choose_spec.binds (ps := ["_law_value_here"]) fun _ _ _ _ _ _ us hl => match us, hl with | [_], _ => rfl
  g_key := He.glo_ok X G (c.fact 4 6 (l := fa4) (f := .glo "_law_key"))
  a_lrow_key := He.fAd K ("_law_row_key", none)
  d_lrow_key := (fx_lrow_key c).choose
  F_lrow_key := (fx_lrow_key c).choose_spec
  b_lrow_key := (fx_lrow_key c).choose_spec.binds (ps := ["_law_row"]) fun _ _ _ _ _ _ us hl => match us, hl with | [_], _ => rfl
  g_lrow_key := He.glo_ok X G (c.fact 4 7 (l := fa4) (f := .glo "_law_row_key"))
  a_groups := He.fAd K ("_law_groups", none)
  d_groups := (fx_groups c).choose
  F_groups := (fx_groups c).choose_spec
  b_groups := (fx_groups c).choose_spec.binds (ps := ["_law_rows", "_law_places"]) fun _ _ _ _ _ _ us hl => match us, hl with | [_, _], _ => rfl
  g_groups := He.glo_ok X G (c.fact 4 8 (l := fa4) (f := .glo "_law_groups"))
noncomputable def mkQ5 {K : PySem.W.Frag} {h : Heap} {mg : Str → Option Value} (X : K.In h) (G : h.Ns mainGlobals mg) (c : Pv.SaysC fas fns csl K) : TxtQ5 K mg (He.ga K "World") (He.ga K "Frame") (He.ga K "Source") where
  a_least := He.fAd K ("_law_least", none)
  d_least := (fx_least c).choose
  F_least := (fx_least c).choose_spec
  b_least := (fx_least c).choose_spec.binds (ps := ["_law_values", "_law_down"]) fun _ _ _ _ _ _ us hl => match us, hl with | [_, _], _ => rfl
  g_least := He.glo_ok X G (c.fact 5 0 (l := fa5) (f := .glo "_law_least"))
  a_total := He.fAd K ("_law_total", none)
  d_total := (fx_total c).choose
  F_total := (fx_total c).choose_spec
  b_total := (fx_total c).choose_spec.binds (ps := ["_law_values"]) fun _ _ _ _ _ _ us hl => match us, hl with | [_], _ => rfl
  g_total := He.glo_ok X G (c.fact 5 1 (l := fa5) (f := .glo "_law_total"))
  a_made := He.fAd K ("_law_made", none)
  d_made := (fx_made c).choose
  F_made := (fx_made c).choose_spec
  b_made := (fx_made c).choose_spec.binds (ps := ["_law_group", "_law_places"]) fun _ _ _ _ _ _ us hl => match us, hl with | [_, _], _ => rfl
  g_made := He.glo_ok X G (c.fact 5 2 (l := fa5) (f := .glo "_law_made"))
  a_items := He.fAd K ("_law_items", none)
  d_items := (fx_items c).choose
  F_items := (fx_items c).choose_spec
  b_items := (fx_items c).choose_spec.binds (ps := ["_law_places", "_law_names"]) fun _ _ _ _ _ _ us hl => match us, hl with | [_, _], _ => rfl
  g_items := He.glo_ok X G (c.fact 5 3 (l := fa5) (f := .glo "_law_items"))
  a_law := He.fAd K ("law", none)
  d_law := (fx_law c).choose
  F_law := (fx_law c).choose_spec
  b_law := (fx_law c).choose_spec.binds (ps := ["_law_script"]) fun _ _ _ _ _ _ us hl => match us, hl with | [_], _ => rfl
  g_law := He.glo_ok X G (c.fact 5 4 (l := fa5) (f := .glo "law"))
  w_law := Pv.fun_w (fx_law c).choose_spec fun _ _ _ _ _ _ _ => rfl
  z_abs := He.free_ok X G (c.fact 5 5 (l := fa5) (f := .free "abs"))
  z_any := He.free_ok X G (c.fact 5 6 (l := fa5) (f := .free "any"))
  z_bool := He.free_ok X G (c.fact 5 7 (l := fa5) (f := .free "bool"))
  z_enumerate := He.free_ok X G (c.fact 5 8 (l := fa5) (f := .free "enumerate"))
  z_int := He.free_ok X G (c.fact 5 9 (l := fa5) (f := .free "int"))
  z_isinstance := He.free_ok X G (c.fact 5 10 (l := fa5) (f := .free "isinstance"))
  z_len := He.free_ok X G (c.fact 5 11 (l := fa5) (f := .free "len"))
  z_list := He.free_ok X G (c.fact 5 12 (l := fa5) (f := .free "list"))
  z_range := He.free_ok X G (c.fact 5 13 (l := fa5) (f := .free "range"))
  z_sorted := He.free_ok X G (c.fact 5 14 (l := fa5) (f := .free "sorted"))
  z_str := He.free_ok X G (c.fact 5 15 (l := fa5) (f := .free "str"))
  z_sum := He.free_ok X G (c.fact 5 16 (l := fa5) (f := .free "sum"))
  z_tuple := He.free_ok X G (c.fact 5 17 (l := fa5) (f := .free "tuple"))
  v_BOUND := (cx_BOUND c X G).choose_spec.choose
  u_BOUND := (cx_BOUND c X G).choose
  g_BOUND := (cx_BOUND c X G).choose_spec.choose_spec.1
  r_BOUND := (cx_BOUND c X G).choose_spec.choose_spec.2.1
  q_BOUND := (cx_BOUND c X G).choose_spec.choose_spec.2.2.1
noncomputable def mkQ6 {K : PySem.W.Frag} {h : Heap} {mg : Str → Option Value} (X : K.In h) (G : h.Ns mainGlobals mg) (c : Pv.SaysC fas fns csl K) : TxtQ6 K mg (He.ga K "World") (He.ga K "Frame") (He.ga K "Source") where
  v_LONGESTTEXT := (cx_LONGESTTEXT c X G).choose_spec.choose
  u_LONGESTTEXT := (cx_LONGESTTEXT c X G).choose
  g_LONGESTTEXT := (cx_LONGESTTEXT c X G).choose_spec.choose_spec.1
  r_LONGESTTEXT := (cx_LONGESTTEXT c X G).choose_spec.choose_spec.2.1
  q_LONGESTTEXT := (cx_LONGESTTEXT c X G).choose_spec.choose_spec.2.2.1
  v_COMPARISONS := (cx_COMPARISONS c X G).choose_spec.choose
  u_COMPARISONS := (cx_COMPARISONS c X G).choose
  g_COMPARISONS := (cx_COMPARISONS c X G).choose_spec.choose_spec.1
  r_COMPARISONS := (cx_COMPARISONS c X G).choose_spec.choose_spec.2.1
  q_COMPARISONS := (cx_COMPARISONS c X G).choose_spec.choose_spec.2.2.1
  t_COMPARISONS := (cx_COMPARISONS c X G).choose_spec.choose_spec.2.2.2 ⟨_, rfl⟩
theorem all_mk {l : PySem.W.OpenLaw} {w : World} {K : PySem.W.Frag} {mg : Str → Option Value} {fa : Addr} {C_World C_Frame C_Source : Addr} (hfa : mg "law" = some (.ref fa))
    (Q0 : TxtQ0 K mg C_World C_Frame C_Source)
    (Q1 : TxtQ1 K mg C_World C_Frame C_Source)
    (Q2 : TxtQ2 K mg C_World C_Frame C_Source)
    (Q3 : TxtQ3 K mg C_World C_Frame C_Source)
    (Q4 : TxtQ4 K mg C_World C_Frame C_Source)
    (Q5 : TxtQ5 K mg C_World C_Frame C_Source)
    (Q6 : TxtQ6 K mg C_World C_Frame C_Source)
    : ∃ fd : FuncData, (∀ (s : Shared) (v : Value), BindsTo s fd ⟨[v], []⟩ [("_law_script", v)]) ∧ ∀ base : Heap, K.In base → base.Ns mainGlobals mg → FnOk l.prog w K mg base CX0 84 fa fd ["_law_script"] (spLaw K) := by
  have e := hfa.symm.trans Q5.g_law
  have e2 : fa = Q5.a_law := by injection e with e; injection e
  rw [e2]
  exact ⟨Q5.d_law, Q5.w_law, fun base _ _ =>
    (ok_law { c_World := C_World, c_Frame := C_Frame, c_Source := C_Source, Q0 := Q0, Q1 := Q1, Q2 := Q2, Q3 := Q3, Q4 := Q4, Q5 := Q5, Q6 := Q6 }).imp (fun vs H Q E q => law_sp q)⟩
end Kb
open PySem PySem.W PySem.Calls PyProof.Rows
set_option maxHeartbeats 0 in
theorem PySem.Challenge.cw_kithbase_k34_groups_and_aggregates_holds : PySem.Challenge.rw_kithbase_k34_groups_and_aggregates.Holds := by
  w_on; o_law
  refine HandSHeadRun.head_any (r := (PySem.W.OpenLaw.row PySem.Challenge.rw_kithbase_k34_groups_and_aggregates)) (q := view (PySem.W.OpenLaw.row PySem.Challenge.rw_kithbase_k34_groups_and_aggregates).prog [60]) (H := Kb.hk) (ob := Kb.hob) (M := 9000) (loose := Kb.hnames) (d := HandSHeadRun.topDef (PySem.W.OpenLaw.row PySem.Challenge.rw_kithbase_k34_groups_and_aggregates).prog 60) (kwd := []) Kb.hob_eq (by kernel_rfl) (fun s => by kernel_rfl) Kb.hrun (by kernel_rfl) (by kernel_rfl) (by kernel_rfl) (by rfl) (by first | assumption | decide +kernel) (by decide +kernel) ⟨rfl, rfl, rfl, rfl, rfl, by decide +kernel⟩ ?hw ?hc
  case hw => w_witness2
  case hc =>
    refine L2.walk_ofE (l := PySem.Challenge.rw_kithbase_k34_groups_and_aggregates) (n := 63) (k := 84) (x := "_law_script") (CX := L2.CX0) rfl (by decide) (by kernel_rfl) ⟨rfl, by decide, by decide⟩ ?F (fun _ _ _ _ z => z)
    intro w mg fa h Y G hmg0
    obtain ⟨K, KX, c⟩ := Y
    have hmg : mg ("law" : PySem.Str) = some (.ref fa) := by
      have e : (HandSHeadRun.topDef (PySem.W.OpenLaw.row PySem.Challenge.rw_kithbase_k34_groups_and_aggregates).prog 60).name = ("law" : PySem.Str) := by kernel_rfl
      rw [← e]
      exact hmg0
    obtain ⟨fd, hb, hF⟩ := Kb.all_mk (l := PySem.Challenge.rw_kithbase_k34_groups_and_aggregates) (w := w) hmg (Kb.mkQ0 KX G c) (Kb.mkQ1 KX G c) (Kb.mkQ2 KX G c) (Kb.mkQ3 KX G c) (Kb.mkQ4 KX G c) (Kb.mkQ5 KX G c) (Kb.mkQ6 KX G c)
    exact ⟨K, fd, Kb.spLaw K, KX, hb, fun H a ns hl _ hS => ⟨a, ns, rfl, hS, hl, fun _ => rfl⟩, hF⟩

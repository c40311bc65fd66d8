import PyProof.Rows.All
import Wide.All
import OpenK.AllK
import Wide.FinOn
import HandS.ForMost
import HandS.Exc
import HandS.ExcOwn
import HandS.CallSlots
import HandS.Wide
import HandS.TupMul
import HandS.TupAny
import HandS.Deep
import HandS.Conv
import HandS.Strs
import HandS.SetBool
import HandS.TupSets
import HandS.SortInts
import HandS.IsInst
import HandS.WideBits
import HandS.WordsExc
import PySem.Challenge.RW_nearclerk_k01_relations_of_pairs
set_option Elab.async false
set_option linter.all false
set_option maxRecDepth 100000
set_option maxHeartbeats 4000000
/-! Data trees over the abstract heap: what a def does as a plain function on trees. -/
namespace Nc
open PySem PySem.Spec PyProof.Rows L2

/-! ### data -/
inductive D where
  | non | bl (b : Bool) | int (i : Int) | str (z : Str)
  | tup (ds : List D) | lst (ds : List D)
  | dk (ks : List Key) (ds : List D)
  | dt (ks : List (List Key)) (ds : List D)
  | ob (C : Addr) (fs : List Str) (ds : List D)
  | adr (a : Addr) | ty (n : String)

mutual
/-- the value v stands for the tree, read in the frozen part B -/
def Rep (K : PySem.W.Frag) (B : Hp) : D → V → Prop
  | .non, v => v = .non
  | .bl b, v => v = .bl b
  | .int i, v => v = .int i
  | .str z, v => v = .str z
  | .tup ds, v => ∃ a xs, v = .ref a ∧ SqT K B a xs ∧ Reps K B ds xs
  | .lst ds, v => ∃ a xs, v = .ref a ∧ B a = some (.lst xs) ∧ Reps K B ds xs
  | .dk ks ds, v => ∃ a xs, v = .ref a ∧ B a = some (.dK (ks.zip xs)) ∧ ks.length = xs.length ∧ Reps K B ds xs
  | .dt ks ds, v => ∃ a xs, v = .ref a ∧ B a = some (.dT (ks.zip xs)) ∧ ks.length = xs.length ∧ Reps K B ds xs
  | .ob C fs ds, v => ∃ a dx xs, v = .ref a ∧ B a = some (.ins C dx (fs.zip xs)) ∧ fs.length = xs.length ∧ Reps K B ds xs
  | .adr a, v => v = .ref a
  | .ty n, v => v = .ty n
def Reps (K : PySem.W.Frag) (B : Hp) : List D → List V → Prop
  | [], vs => vs = []
  | d :: ds, vs => ∃ x xs, vs = x :: xs ∧ Rep K B d x ∧ Reps K B ds xs
end

theorem Same.sqt {K : PySem.W.Frag} {H H' : Hp} {a : Addr} {xs : List V} (e : Same H H') (h : SqT K H a xs) : SqT K H' a xs := by
  rcases h with (h | ⟨o, h⟩) | h
  · exact .inl (.inl (e _ _ h))
  · exact .inl (.inr ⟨o, e _ _ h⟩)
  · exact .inr h

section
variable {K : PySem.W.Frag} {B B' H : Hp}
mutual
theorem Rep.mono (e : Same B B') : ∀ {d : D} {v : V}, Rep K B d v → Rep K B' d v
  | .non, _, h => h
  | .bl _, _, h => h
  | .int _, _, h => h
  | .str _, _, h => h
  | .tup ds, v, h => by
    simp only [Rep] at h ⊢
    obtain ⟨a, xs, h1, h2, h3⟩ := h
    exact ⟨a, xs, h1, Same.sqt e h2, Reps.mono e h3⟩
  | .lst ds, v, h => by
    simp only [Rep] at h ⊢
    obtain ⟨a, xs, h1, h2, h3⟩ := h
    exact ⟨a, xs, h1, e _ _ h2, Reps.mono e h3⟩
  | .dk ks ds, v, h => by
    simp only [Rep] at h ⊢
    obtain ⟨a, xs, h1, h2, h3, h4⟩ := h
    exact ⟨a, xs, h1, e _ _ h2, h3, Reps.mono e h4⟩
  | .dt ks ds, v, h => by
    simp only [Rep] at h ⊢
    obtain ⟨a, xs, h1, h2, h3, h4⟩ := h
    exact ⟨a, xs, h1, e _ _ h2, h3, Reps.mono e h4⟩
  | .ob C fs ds, v, h => by
    simp only [Rep] at h ⊢
    obtain ⟨a, dx, xs, h1, h2, h3, h4⟩ := h
    exact ⟨a, dx, xs, h1, e _ _ h2, h3, Reps.mono e h4⟩
  | .adr _, _, h => h
  | .ty _, _, h => h
theorem Reps.mono (e : Same B B') : ∀ {ds : List D} {vs : List V}, Reps K B ds vs → Reps K B' ds vs
  | [], _, h => h
  | d :: ds, vs, h => by
    simp only [Reps] at h ⊢
    obtain ⟨x, xs, h1, h2, h3⟩ := h
    exact ⟨x, xs, h1, Rep.mono e h2, Reps.mono e h3⟩
end
theorem Reps.nil : Reps K B [] [] := by simp only [Reps]
theorem Reps.cons {d : D} {v : V} {ds : List D} {vs : List V} (h : Rep K B d v) (t : Reps K B ds vs) : Reps K B (d :: ds) (v :: vs) := by
  simp only [Reps]
  exact ⟨v, vs, rfl, h, t⟩
theorem Reps.length : ∀ {ds : List D} {vs : List V}, Reps K B ds vs → ds.length = vs.length
  | [], _, h => by
    simp only [Reps] at h
    subst h
    rfl
  | d :: ds, vs, h => by
    simp only [Reps] at h
    obtain ⟨x, xs, rfl, _, h3⟩ := h
    rw [List.length_cons, List.length_cons, Reps.length h3]
theorem Reps.get : ∀ {ds : List D} {vs : List V} {i : Nat} {d : D}, Reps K B ds vs → ds[i]? = some d → ∃ v, vs[i]? = some v ∧ Rep K B d v
  | [], _, _, _, _, e => by simp at e
  | d :: ds, vs, 0, d', h, e => by
    simp only [Reps] at h
    obtain ⟨x, xs, rfl, h2, _⟩ := h
    simp at e
    subst e
    exact ⟨x, rfl, h2⟩
  | d :: ds, vs, i + 1, d', h, e => by
    simp only [Reps] at h
    obtain ⟨x, xs, rfl, _, h3⟩ := h
    obtain ⟨v, e1, r⟩ := Reps.get (i := i) h3 (by simpa using e)
    exact ⟨v, by simpa using e1, r⟩
theorem Reps.append : ∀ {ds es : List D} {vs us : List V}, Reps K B ds vs → Reps K B es us → Reps K B (ds ++ es) (vs ++ us)
  | [], es, vs, us, h, t => by
    simp only [Reps] at h
    subst h
    exact t
  | d :: ds, es, vs, us, h, t => by
    simp only [Reps] at h
    obtain ⟨x, xs, rfl, h2, h3⟩ := h
    exact Reps.cons h2 (Reps.append h3 t)
theorem Reps.drop : ∀ (n : Nat) {ds : List D} {vs : List V}, Reps K B ds vs → Reps K B (ds.drop n) (vs.drop n)
  | 0, _, _, h => h
  | n + 1, [], vs, h => by
    simp only [Reps] at h
    subst h
    exact Reps.nil
  | n + 1, d :: ds, vs, h => by
    simp only [Reps] at h
    obtain ⟨x, xs, rfl, _, h3⟩ := h
    exact Reps.drop n h3
theorem Reps.take : ∀ (n : Nat) {ds : List D} {vs : List V}, Reps K B ds vs → Reps K B (ds.take n) (vs.take n)
  | 0, _, _, h => Reps.nil
  | n + 1, [], vs, h => by
    simp only [Reps] at h
    subst h
    exact Reps.nil
  | n + 1, d :: ds, vs, h => by
    simp only [Reps] at h
    obtain ⟨x, xs, rfl, h2, h3⟩ := h
    exact Reps.cons h2 (Reps.take n h3)
theorem Reps.set : ∀ (i : Nat) {d : D} {v : V} {ds : List D} {vs : List V}, Rep K B d v → Reps K B ds vs → Reps K B (ds.set i d) (vs.set i v)
  | i, d, v, [], vs, r, h => by
    simp only [Reps] at h
    subst h
    cases i <;> exact Reps.nil
  | 0, d, v, c :: ds, vs, r, h => by
    simp only [Reps] at h
    obtain ⟨x, xs, rfl, h2, h3⟩ := h
    exact Reps.cons r h3
  | i + 1, d, v, c :: ds, vs, r, h => by
    simp only [Reps] at h
    obtain ⟨x, xs, rfl, h2, h3⟩ := h
    exact Reps.cons h2 (Reps.set i r h3)
theorem Reps.erase : ∀ (i : Nat) {ds : List D} {vs : List V}, Reps K B ds vs → Reps K B (ds.eraseIdx i) (vs.eraseIdx i)
  | i, [], vs, h => by
    simp only [Reps] at h
    subst h
    exact Reps.nil
  | 0, c :: ds, vs, h => by
    simp only [Reps] at h
    obtain ⟨x, xs, rfl, h2, h3⟩ := h
    exact h3
  | i + 1, c :: ds, vs, h => by
    simp only [Reps] at h
    obtain ⟨x, xs, rfl, h2, h3⟩ := h
    exact Reps.cons h2 (Reps.erase i h3)
theorem Reps.one {d : D} {vs : List V} (h : Reps K B [d] vs) : ∃ v, vs = [v] ∧ Rep K B d v := by
  simp only [Reps] at h
  obtain ⟨x, xs, rfl, h2, h3⟩ := h
  exact ⟨x, by rw [h3], h2⟩
theorem Reps.ints : ∀ {ns : List Int} {vs : List V}, Reps K B (ns.map D.int) vs → vs = ns.map V.int
  | [], vs, h => by
    simp only [List.map, Reps] at h
    exact h
  | n :: ns, vs, h => by
    simp only [List.map, Reps, Rep] at h
    obtain ⟨x, xs, rfl, rfl, h3⟩ := h
    rw [Reps.ints h3]
    rfl
theorem Reps.of_ints : ∀ (ns : List Int), Reps K B (ns.map D.int) (ns.map V.int)
  | [] => Reps.nil
  | n :: ns => Reps.cons (by simp only [Rep]) (Reps.of_ints ns)
end

/-! ### slots -/
/-- an object that a def's own local name holds, and nothing else does -/
inductive O where
  | lst (ds : List D) | dk (ks : List Key) (ds : List D) | dt (ks : List (List Key)) (ds : List D) | ob (C : Addr) (fs : List Str) (ds : List D)
inductive Slot where
  | val (d : D)
  /-- t: 0 of a fresh one; j + 1 of the j-th parameter -/
  | own (t : Nat) (o : O)
abbrev Rho := List (Option Slot)
def RepO (K : PySem.W.Frag) (B : Hp) : O → HO → Prop
  | .lst ds, h => ∃ xs, h = .lst xs ∧ Reps K B ds xs
  | .dk ks ds, h => ∃ xs, h = .dK (ks.zip xs) ∧ ks.length = xs.length ∧ Reps K B ds xs
  | .dt ks ds, h => ∃ xs, h = .dT (ks.zip xs) ∧ ks.length = xs.length ∧ Reps K B ds xs
  | .ob C fs ds, h => ∃ dx xs, h = .ins C dx (fs.zip xs) ∧ fs.length = xs.length ∧ Reps K B ds xs
def O.frozen : O → D
  | .lst ds => .lst ds
  | .dk ks ds => .dk ks ds
  | .dt ks ds => .dt ks ds
  | .ob C fs ds => .ob C fs ds
theorem RepO.mono {K : PySem.W.Frag} {B B' : Hp} (e : Same B B') : ∀ {o : O} {h : HO}, RepO K B o h → RepO K B' o h
  | .lst _, _, ⟨xs, h1, h2⟩ => ⟨xs, h1, h2.mono e⟩
  | .dk _ _, _, ⟨xs, h1, h3, h2⟩ => ⟨xs, h1, h3, h2.mono e⟩
  | .dt _ _, _, ⟨xs, h1, h3, h2⟩ => ⟨xs, h1, h3, h2.mono e⟩
  | .ob _ _ _, _, ⟨dx, xs, h1, h3, h2⟩ => ⟨dx, xs, h1, h3, h2.mono e⟩
theorem RepO.freeze {K : PySem.W.Frag} {B : Hp} {a : Addr} {h : HO} : ∀ {o : O}, RepO K B o h → B a = some h → Rep K B o.frozen (.ref a)
  | .lst _, ⟨xs, h1, h2⟩, e => by
    subst h1
    simp only [O.frozen, Rep]
    exact ⟨a, xs, rfl, e, h2⟩
  | .dk _ _, ⟨xs, h1, h3, h2⟩, e => by
    subst h1
    simp only [O.frozen, Rep]
    exact ⟨a, xs, rfl, e, h3, h2⟩
  | .dt _ _, ⟨xs, h1, h3, h2⟩, e => by
    subst h1
    simp only [O.frozen, Rep]
    exact ⟨a, xs, rfl, e, h3, h2⟩
  | .ob _ _ _, ⟨dx, xs, h1, h3, h2⟩, e => by
    subst h1
    simp only [O.frozen, Rep]
    exact ⟨a, dx, xs, rfl, e, h3, h2⟩
def SlotOk (K : PySem.W.Frag) (θ : Nat → Addr) (B H : Hp) (v : Option V) : Option Slot → Prop
  | none => True
  | some (.val d) => ∃ x, v = some x ∧ Rep K B d x
  | some (.own t o) => ∃ p h, v = some (.ref p) ∧ B p = none ∧ H p = some h ∧ RepO K B o h ∧ (t ≠ 0 → p = θ t)
/-- the slot i holds an object of its own at p -/
def OwnAt (σ : L2.St) (ρ : Rho) (i : Nat) (p : Addr) : Prop := (∃ t o, ρ[i]? = some (some (.own t o))) ∧ σ[i]? = some (some (.ref p))
def OwnA (σ : L2.St) (ρ : Rho) (p : Addr) : Prop := ∃ i, OwnAt σ ρ i p
structure Cf (K : PySem.W.Frag) (θ : Nat → Addr) (B H : Hp) (σ : L2.St) (ρ : Rho) : Prop where
  bh : Same B H
  len : σ.length = ρ.length
  at_ : ∀ (i : Nat) (s : Option Slot), ρ[i]? = some s → SlotOk K θ B H ((σ[i]?).getD none) s
  sep : ∀ i j p, OwnAt σ ρ i p → OwnAt σ ρ j p → i = j
structure Step (K : PySem.W.Frag) (θ : Nat → Addr) (σ : L2.St) (B H : Hp) (ρ : Rho) (σ' : L2.St) (B' H' : Hp) (ρ' : Rho) : Prop where
  cf : Cf K θ B' H' σ' ρ'
  bb : Same B B'
  keep : ∀ b o, H b = some o → ¬ OwnA σ ρ b → H' b = some o
  there : ∀ b, H b ≠ none → H' b ≠ none
  new : ∀ b, B' b ≠ none → B b = none → H b = none ∨ OwnA σ ρ b
  own : ∀ b, OwnA σ' ρ' b → OwnA σ ρ b ∨ H b = none
section
variable {K : PySem.W.Frag} {θ : Nat → Addr} {σ σ1 σ2 : L2.St} {B B1 B2 H H1 H2 : Hp} {ρ ρ1 ρ2 : Rho}
theorem Step.refl (c : Cf K θ B H σ ρ) : Step K θ σ B H ρ σ B H ρ :=
  ⟨c, Same.refl B, fun _ _ h _ => h, fun _ h => h, fun _ h e => absurd e h, fun _ h => .inl h⟩
theorem Step.trans (a : Step K θ σ B H ρ σ1 B1 H1 ρ1) (b : Step K θ σ1 B1 H1 ρ1 σ2 B2 H2 ρ2) : Step K θ σ B H ρ σ2 B2 H2 ρ2 where
  cf := b.cf
  bb := a.bb.trans b.bb
  keep := fun c o e n => b.keep c o (a.keep c o e n) fun z => (a.own c z).elim n fun z => by
    rw [z] at e
    cases e
  there := fun c e => b.there c (a.there c e)
  new := fun c e n => by
    by_cases z : B1 c = none
    · rcases b.new c e z with q | q
      · left
        exact Classical.byContradiction fun y => a.there c y q
      · exact (a.own c q).symm
    · exact a.new c z n
  own := fun c z => by
    rcases b.own c z with q | q
    · exact a.own c q
    · right
      exact Classical.byContradiction fun y => a.there c y q
theorem OwnAt.not_frozen (c : Cf K θ B H σ ρ) {i : Nat} {p : Addr} (o : OwnAt σ ρ i p) : B p = none ∧ H p ≠ none := by
  obtain ⟨⟨t, u, e⟩, f⟩ := o
  obtain ⟨q, h, h1, h2, h3, _⟩ := c.at_ i _ e
  rw [f] at h1
  cases h1
  exact ⟨h2, by rw [h3]; exact fun z => by cases z⟩
theorem OwnA.not_frozen (c : Cf K θ B H σ ρ) {p : Addr} (o : OwnA σ ρ p) : B p = none ∧ H p ≠ none := by
  obtain ⟨i, o⟩ := o
  exact o.not_frozen c
/-- a new frozen object -/
theorem Cf.laid (c : Cf K θ B H σ ρ) {p : Addr} (hp : H p = none) (o : HO) : Step K θ σ B H ρ σ (upd B p o) (upd H p o) ρ := by
  have hB : B p = none := Classical.byContradiction fun y => by
    cases e : B p with
    | none => exact y e
    | some u =>
      rw [c.bh p u e] at hp
      cases hp
  have sB : Same B (upd B p o) := fun b u e => by
    rw [upd_ne (ne_of_none e hB)]
    exact e
  refine ⟨⟨fun b u e => ?_, c.len, fun i s e => ?_, c.sep⟩, sB, fun b u e _ => ?_, fun b e => ?_, fun b e n => ?_, fun b z => .inl z⟩
  · by_cases hb : b = p
    · subst hb
      rw [upd_same] at e ⊢
      exact e
    · rw [upd_ne hb] at e ⊢
      exact c.bh b u e
  · have q := c.at_ i s e
    cases s with
    | none => trivial
    | some s =>
      cases s with
      | val d =>
        obtain ⟨x, h1, h2⟩ := q
        exact ⟨x, h1, h2.mono sB⟩
      | own t u =>
        obtain ⟨r, h, h1, h2, h3, h4, h5⟩ := q
        have hr : r ≠ p := ne_of_none h3 hp
        exact ⟨r, h, h1, by rw [upd_ne hr]; exact h2, by rw [upd_ne hr]; exact h3, h4.mono sB, h5⟩
  · rw [upd_ne (ne_of_none e hp)]
    exact e
  · by_cases hb : b = p
    · subst hb
      rw [upd_same]
      exact fun z => by cases z
    · rw [upd_ne hb]
      exact e
  · by_cases hb : b = p
    · subst hb
      exact .inl hp
    · rw [upd_ne hb] at e
      exact absurd n e
/-- a new object that is tracked and not frozen -/
theorem Cf.free (c : Cf K θ B H σ ρ) {p : Addr} (hp : H p = none) (o : HO) : Step K θ σ B H ρ σ B (upd H p o) ρ := by
  refine ⟨⟨fun b u e => ?_, c.len, fun i s e => ?_, c.sep⟩, Same.refl B, fun b u e _ => ?_, fun b e => ?_, fun b e n => absurd n e, fun b z => .inl z⟩
  · have q := c.bh b u e
    rw [upd_ne (ne_of_none q hp)]
    exact q
  · have q := c.at_ i s e
    cases s with
    | none => trivial
    | some s =>
      cases s with
      | val d => exact q
      | own t u =>
        obtain ⟨r, h, h1, h2, h3, h4, h5⟩ := q
        exact ⟨r, h, h1, h2, by rw [upd_ne (ne_of_none h3 hp)]; exact h3, h4, h5⟩
  · rw [upd_ne (ne_of_none e hp)]
    exact e
  · by_cases hb : b = p
    · subst hb
      rw [upd_same]
      exact fun z => by cases z
    · rw [upd_ne hb]
      exact e
end
end Nc

/-! The monad of what a def does on trees; readings by it; weakening and sequencing. -/
namespace Nc
open PySem PySem.Spec PyProof.Rows L2

/-- an exception of an own class, with its fields -/
structure Xn where
  C : Addr
  fs : List Str
  ds : List D
inductive Rs (α : Type) where
  | no | ok (a : α) (ρ : Rho) | ex (e : Xn) (ρ : Rho)
def M (α : Type) := Rho → Rs α
def M.ret {α : Type} (a : α) : M α := fun ρ => .ok a ρ
def M.bnd {α β : Type} (f : M α) (g : α → M β) : M β := fun ρ => match f ρ with
  | .no => .no
  | .ok a ρ' => g a ρ'
  | .ex e ρ' => .ex e ρ'
def M.opt {α : Type} : Option α → M α
  | none => fun _ => .no
  | some a => fun ρ => .ok a ρ
instance : Monad M where
  pure := M.ret
  bind := M.bnd
theorem bnd_ok {α β : Type} {f : M α} {g : α → M β} {ρ ρ' : Rho} {a : α} (h : f ρ = .ok a ρ') : (f >>= g) ρ = g a ρ' := by
  show M.bnd f g ρ = _
  unfold M.bnd
  rw [h]
theorem bnd_ex {α β : Type} {f : M α} {g : α → M β} {ρ ρ' : Rho} {e : Xn} (h : f ρ = .ex e ρ') : (f >>= g) ρ = .ex e ρ' := by
  show M.bnd f g ρ = _
  unfold M.bnd
  rw [h]
theorem bnd_no {α β : Type} {f : M α} {g : α → M β} {ρ : Rho} (h : f ρ = .no) : (f >>= g) ρ = .no := by
  show M.bnd f g ρ = _
  unfold M.bnd
  rw [h]
theorem pure_ok {α : Type} (a : α) (ρ : Rho) : (pure a : M α) ρ = .ok a ρ := rfl
theorem opt_some {α : Type} (a : α) (ρ : Rho) : M.opt (some a) ρ = .ok a ρ := rfl

def RepX (K : PySem.W.Frag) (B H : Hp) (e : Xn) (oc : Option Addr) : Prop := e.fs = [] ∨ ∃ d xs, oc = some d ∧ H d = some (.xd (e.fs.zip xs)) ∧ e.fs.length = xs.length ∧ Reps K B e.ds xs

/-! ### what is wanted behind -/
/-- how a value of the logic (β) stands for one of the monad (α); the first heap is the one at the start -/
abbrev Rl (α β : Type) := Hp → L2.St → Hp → Hp → Rho → α → β → Prop
class RlM {α β : Type} (R : Rl α β) : Prop where
  back : ∀ {H H1 : Hp} {σ : L2.St} {B' H' : Hp} {ρ' : Rho} {a : α} {b : β}, (∀ p, H p ≠ none → H1 p ≠ none) → R H1 σ B' H' ρ' a b → R H σ B' H' ρ' a b
def RD (K : PySem.W.Frag) : Rl D V := fun _ _ B _ _ d v => Rep K B d v
def RE (α : Type) : Rl α α := fun _ _ _ _ _ a b => a = b
abbrev RB : Rl Bool Bool := RE Bool
def RL (K : PySem.W.Frag) : Rl (List D) (List V) := fun _ _ B _ _ ds vs => Reps K B ds vs
instance (K : PySem.W.Frag) : RlM (RD K) := ⟨fun _ h => h⟩
instance (α : Type) : RlM (RE α) := ⟨fun _ h => h⟩
instance (K : PySem.W.Frag) : RlM (RL K) := ⟨fun _ h => h⟩
section
variable {α β γ δ : Type}
def At (K : PySem.W.Frag) (E : WX) (R : Rl α β) (θ : Nat → Addr) (σ : L2.St) (B H : Hp) (ρ : Rho) (Q : β → Hp → Prop) : Rs α → Prop
  | .no => False
  | .ok a ρ' => ∀ x B' H', Step K θ σ B H ρ σ B' H' ρ' → R H σ B' H' ρ' a x → Q x H'
  | .ex e ρ' => ∀ oc σ' B' H', Step K θ σ B H ρ σ' B' H' ρ' → RepX K B' H' e oc → E (.ref e.C) oc σ' H'
def tR (K : PySem.W.Frag) (E : WX) (R : Rl α β) (f : M α) : L2.St → Hp → (β → Hp → Prop) → Prop := fun σ H Q => ∃ θ B ρ, Cf K θ B H σ ρ ∧ At K E R θ σ B H ρ Q (f ρ)
abbrev tD (K : PySem.W.Frag) (E : WX) (f : M D) : TE := tR K E (RD K) f
abbrev tT (K : PySem.W.Frag) (E : WX) (f : M Bool) : TT := tR K E RB f
abbrev tL (K : PySem.W.Frag) (E : WX) (f : M (List D)) : TA := tR K E (RL K) f
variable {K : PySem.W.Frag} {E : WX} {R : Rl α β} {R' : Rl γ δ} {θ : Nat → Addr} {σ : L2.St} {B B1 H H1 : Hp} {ρ ρ1 : Rho} {f : M α} {g : α → M γ} {Q : δ → Hp → Prop}
theorem At.imp {Q Q' : β → Hp → Prop} : ∀ {r : Rs α}, At K E R θ σ B H ρ Q r → (∀ a ρ' x B' H', r = .ok a ρ' → Step K θ σ B H ρ σ B' H' ρ' → R H σ B' H' ρ' a x → Q x H' → Q' x H') → At K E R θ σ B H ρ Q' r
  | .no, h, _ => h
  | .ok a ρ', h, k => fun x B' H' st r => k a ρ' x B' H' rfl st r (h x B' H' st r)
  | .ex e ρ', h, _ => h
/-- from a point further on -/
theorem At.from [RlM R'] (st : Step K θ σ B H ρ σ B1 H1 ρ1) : ∀ {r : Rs γ}, At K E R' θ σ B H ρ Q r → At K E R' θ σ B1 H1 ρ1 Q r
  | .no, h => h
  | .ok a ρ', h => fun x B' H' s2 r => h x B' H' (st.trans s2) (RlM.back st.there r)
  | .ex e ρ', h => fun oc σ' B' H' s2 r => h oc σ' B' H' (st.trans s2) r
/-- THE RULE: a first part, then the rest from where it leaves -/
theorem At.seq [RlM R'] (h : At K E R' θ σ B H ρ Q ((f >>= g) ρ)) : At K E R θ σ B H ρ (fun x H1 => ∃ a B1 ρ1, Step K θ σ B H ρ σ B1 H1 ρ1 ∧ R H σ B1 H1 ρ1 a x ∧ At K E R' θ σ B1 H1 ρ1 Q (g a ρ1)) (f ρ) := by
  cases e : f ρ with
  | no =>
    rw [bnd_no e] at h
    exact h
  | ex x ρ' =>
    rw [bnd_ex e] at h
    exact h
  | ok a ρ' =>
    rw [bnd_ok e] at h
    exact fun x B1 H1 st r => ⟨a, B1, ρ', st, r, h.from st⟩
theorem At.opt {o : Option γ} (h : At K E R' θ σ B H ρ Q (M.opt o ρ)) : ∃ a, o = some a ∧ ∀ x B' H', Step K θ σ B H ρ σ B' H' ρ → R' H σ B' H' ρ a x → Q x H' := by
  cases o with
  | none => exact h.elim
  | some a => exact ⟨a, rfl, h⟩
theorem At.here (c : Cf K θ B H σ ρ) {a : γ} {x : δ} (h : At K E R' θ σ B H ρ Q (.ok a ρ)) (r : R' H σ B H ρ a x) : Q x H := h x B H (Step.refl c) r
end

theorem rep_int {K : PySem.W.Frag} {B : Hp} {i : Int} {x : V} (h : Rep K B (.int i) x) : x = .int i := by simpa only [Rep] using h
theorem rep_bl {K : PySem.W.Frag} {B : Hp} {b : Bool} {x : V} (h : Rep K B (.bl b) x) : x = .bl b := by simpa only [Rep] using h
theorem rep_str {K : PySem.W.Frag} {B : Hp} {z : Str} {x : V} (h : Rep K B (.str z) x) : x = .str z := by simpa only [Rep] using h
theorem rep_non {K : PySem.W.Frag} {B : Hp} {x : V} (h : Rep K B .non x) : x = .non := by simpa only [Rep] using h

/-! ### weakening -/
section
variable {X : Cx}
theorem pe_weak {e : Expr} {t t' : TE} (h : PE X e t) (k : ∀ σ H Q, t' σ H Q → t σ H Q) : PE X e t' := ⟨fun pins s σ H Q I q => h.run pins s σ H Q I (k σ H Q q)⟩
theorem pt_weak {e : Expr} {t t' : TT} (h : PT X e t) (k : ∀ σ H Q, t' σ H Q → t σ H Q) : PT X e t' := ⟨fun pins s σ H Q I q => h.run pins s σ H Q I (k σ H Q q)⟩
theorem pw_weak {e : Expr} {t t' : TT} (h : PW X e t) (k : ∀ σ H Q, t' σ H Q → t σ H Q) : PW X e t' := ⟨fun w pins s σ H Q I q => h.run w pins s σ H Q I (k σ H Q q)⟩
theorem pa_weak {e : List Expr} {t t' : TA} (h : PA X e t) (k : ∀ σ H Q, t' σ H Q → t σ H Q) : PA X e t' := ⟨fun pos pins s σ H Q I q => h.run pos pins s σ H Q I (k σ H Q q)⟩
theorem ps_weak {e : Stmt} {t t' : TS} (h : PS X e t) (k : ∀ D σ H, t' D σ H → t D σ H) : PS X e t' := ⟨fun pins s σ H D I q => h.run pins s σ H D I (k D σ H q)⟩
theorem pss_weak {e : List Stmt} {t t' : TS} (h : PSs X e t) (k : ∀ D σ H, t' D σ H → t D σ H) : PSs X e t' := ⟨fun pins s σ H D I q => h.run pins s σ H D I (k D σ H q)⟩
end

/-! ### constants, names -/
section
variable {X : Cx} {E : WX}
theorem pd_const {e : Expr} {v : V} {d : D} (h : PE X e (tC v)) (r : ∀ B, Rep X.K B d v) : PE X e (tD X.K E (M.ret d)) :=
  pe_weak h fun σ H Q ⟨θ, B, ρ, c, a⟩ => a.here c (r B)
theorem pd_int {i j pos} : PE X (.Constant (.int i) j pos) (tD X.K E (M.ret (.int i))) := pd_const pe_int fun _ => by simp only [Rep]
theorem pd_bl {b j pos} : PE X (.Constant (.bool b) j pos) (tD X.K E (M.ret (.bl b))) := pd_const pe_bl fun _ => by simp only [Rep]
theorem pd_non {j pos} : PE X (.Constant .none j pos) (tD X.K E (M.ret .non)) := pd_const pe_non fun _ => by simp only [Rep]
theorem pd_str {z j pos} : PE X (.Constant (.str z) j pos) (tD X.K E (M.ret (.str z))) := pd_const pe_str fun _ => by simp only [Rep]

/-- the slot's value; an own object becomes frozen -/
def var (i : Nat) : M D := fun ρ => match ρ[i]? with
  | some (some (.val d)) => .ok d ρ
  | some (some (.own t o)) => .ok o.frozen (ρ.set i (some (.val o.frozen)))
  | _ => .no
section
variable {K : PySem.W.Frag} {θ : Nat → Addr} {σ : L2.St} {B H : Hp} {ρ : Rho}
theorem Cf.val (c : Cf K θ B H σ ρ) {i : Nat} {d : D} (h : ρ[i]? = some (some (.val d))) : ∃ v, σ[i]? = some (some v) ∧ Rep K B d v := by
  obtain ⟨x, h1, h2⟩ := c.at_ i _ h
  refine ⟨x, ?_, h2⟩
  cases e : σ[i]? with
  | none =>
    rw [e] at h1
    cases h1
  | some w =>
    rw [e] at h1
    have : w = some x := h1
    rw [this]
theorem Cf.own (c : Cf K θ B H σ ρ) {i : Nat} {t : Nat} {o : O} (h : ρ[i]? = some (some (.own t o))) : ∃ p u, σ[i]? = some (some (.ref p)) ∧ B p = none ∧ H p = some u ∧ RepO K B o u ∧ (t ≠ 0 → p = θ t) ∧ OwnAt σ ρ i p := by
  obtain ⟨p, u, h1, h2, h3, h4, h5⟩ := c.at_ i _ h
  have e : σ[i]? = some (some (.ref p)) := by
    cases e : σ[i]? with
    | none =>
      rw [e] at h1
      cases h1
    | some w =>
      rw [e] at h1
      have : w = some (.ref p) := h1
      rw [this]
  exact ⟨p, u, e, h2, h3, h4, h5, ⟨t, o, h⟩, e⟩
theorem getD_set {i j : Nat} {ρ : Rho} {s : Option Slot} {u : Option Slot} (h : (ρ.set i s)[j]? = some u) : (j = i ∧ u = s ∧ i < ρ.length) ∨ (j ≠ i ∧ ρ[j]? = some u) := by
  by_cases e : j = i
  · subst e
    by_cases l : j < ρ.length
    · rw [List.getElem?_set_self l] at h
      exact .inl ⟨rfl, (Option.some.inj h).symm, l⟩
    · rw [List.getElem?_eq_none (by rw [List.length_set]; omega)] at h
      cases h
  · rw [List.getElem?_set_ne (Ne.symm e)] at h
    exact .inr ⟨e, h⟩
/-- an own object is frozen -/
theorem Cf.freeze (c : Cf K θ B H σ ρ) {i : Nat} {t : Nat} {o : O} {p : Addr} {u : HO} (h : ρ[i]? = some (some (.own t o))) (e : σ[i]? = some (some (.ref p))) (hB : B p = none) (hH : H p = some u) (r : RepO K B o u) :
    Step K θ σ B H ρ σ (upd B p u) H (ρ.set i (some (.val o.frozen))) := by
  have oa : OwnAt σ ρ i p := ⟨⟨t, o, h⟩, e⟩
  have sB : Same B (upd B p u) := fun b w q => by
    rw [upd_ne (ne_of_none q hB)]
    exact q
  refine ⟨⟨fun b w q => ?_, by rw [List.length_set]; exact c.len, fun j s q => ?_, fun j k q z1 z2 => ?_⟩, sB, fun b w q _ => q, fun b q => q, fun b q n => ?_, fun b z => ?_⟩
  · by_cases hb : b = p
    · subst hb
      rw [upd_same] at q
      rw [hH, q]
    · rw [upd_ne hb] at q
      exact c.bh b w q
  · rcases getD_set q with ⟨rfl, rfl, _⟩ | ⟨hj, q⟩
    · refine ⟨.ref p, by rw [e]; rfl, ?_⟩
      exact (r.mono sB).freeze upd_same
    · have z := c.at_ j s q
      cases s with
      | none => trivial
      | some s =>
        cases s with
        | val d =>
          obtain ⟨x, h1, h2⟩ := z
          exact ⟨x, h1, h2.mono sB⟩
        | own t' o' =>
          obtain ⟨p', u', e1, b1, k1, r1, t1, oa1⟩ := c.own q
          have np : p' ≠ p := fun y => by
            subst y
            exact hj (c.sep j i p' oa1 oa)
          exact ⟨p', u', by rw [e1]; rfl, by rw [upd_ne np]; exact b1, k1, r1.mono sB, t1⟩
  · have back : ∀ (m : Nat) (x : Addr), OwnAt σ (ρ.set i (some (.val o.frozen))) m x → OwnAt σ ρ m x := fun m x ⟨⟨t', o', w⟩, w2⟩ => by
      rcases getD_set w with ⟨_, w3, _⟩ | ⟨_, w3⟩
      · cases w3
      · exact ⟨⟨t', o', w3⟩, w2⟩
    exact c.sep j k q (back j q z1) (back k q z2)
  · by_cases hb : b = p
    · subst hb
      exact .inr ⟨i, oa⟩
    · rw [upd_ne hb] at q
      exact absurd n q
  · obtain ⟨m, ⟨t', o', w⟩, w2⟩ := z
    rcases getD_set w with ⟨_, w3, _⟩ | ⟨_, w3⟩
    · cases w3
    · exact .inl ⟨m, ⟨t', o', w3⟩, w2⟩
end
theorem pd_var (i : Nat) {x : Str} {pos : Pos} (h : PE X (.Name x pos) (tVar i)) : PE X (.Name x pos) (tD X.K E (var i)) := by
  refine pe_weak h fun σ H Q ⟨θ, B, ρ, c, a⟩ => ?_
  unfold var at a
  cases e : ρ[i]? with
  | none =>
    rw [e] at a
    exact a.elim
  | some s =>
    cases s with
    | none =>
      rw [e] at a
      exact a.elim
    | some s =>
      cases s with
      | val d =>
        rw [e] at a
        obtain ⟨v, e1, r⟩ := c.val e
        exact ⟨v, e1, a.here c r⟩
      | own t o =>
        rw [e] at a
        obtain ⟨p, u, e1, b1, k1, r1, t1, oa1⟩ := c.own e
        refine ⟨.ref p, e1, a _ _ _ (c.freeze e e1 b1 k1 r1) ?_⟩
        exact (r1.mono (fun b w q => by rw [upd_ne (ne_of_none q b1)]; exact q)).freeze upd_same
end

/-! ### two parts -/
section
variable {X : Cx} {E : WX} {a b : Expr} {pos : Pos} {fa fb : M D}
/-- what an operator's reading asks, by trees -/
def OpD (K : PySem.W.Frag) (r : R2) (op : D → D → Option D) : Prop := ∀ (θ : Nat → Addr) (B H : Hp) (σ : L2.St) (ρ : Rho) (d e z : D) (x y : V) (Q : VK), Cf K θ B H σ ρ → Rep K B d x → Rep K B e y → op d e = some z →
  (∀ v B' H', Step K θ σ B H ρ σ B' H' ρ → Rep K B' z v → Q v H') → r x y H Q
theorem two_parts {r : R2} {op : D → D → Option D} (hr : OpD X.K r op) {ta tb : TE} (ka : ∀ σ H Q, tD X.K E fa σ H Q → ta σ H Q) (kb : ∀ σ H Q, tD X.K E fb σ H Q → tb σ H Q) :
    ∀ σ H Q, tD X.K E (fa >>= fun d => fb >>= fun e => M.opt (op d e)) σ H Q → tOp r ta tb σ H Q := by
  rintro σ H Q ⟨θ, B, ρ, c, h⟩
  refine ka _ _ _ ⟨θ, B, ρ, c, h.seq.imp ?_⟩
  rintro d ρ' x B' H1 - - - ⟨d, B1, ρ1, st1, rx, h1⟩
  refine kb _ _ _ ⟨θ, B1, ρ1, st1.cf, h1.seq.imp ?_⟩
  rintro e ρ' y B' H2 - - - ⟨e, B2, ρ2, st2, ry, h2⟩
  obtain ⟨z, ez, k⟩ := h2.opt
  exact hr θ B2 H2 σ ρ2 d e z x y Q st2.cf (Rep.mono st2.bb rx) ry ez k
theorem pd_bin {o : Operator} {r : R2} {op : D → D → Option D} (hr : OpD X.K r op) (ho : OpR X (binaryOp o) r) (ha : PE X a (tD X.K E fa)) (hb : PE X b (tD X.K E fb)) :
    PE X (.BinOp a o b pos) (tD X.K E (fa >>= fun d => fb >>= fun e => M.opt (op d e))) :=
  pe_weak (pe_op ho ha hb) (two_parts hr (fun _ _ _ h => h) fun _ _ _ h => h)
theorem pd_cmp {o : CmpOp} {r : R2} {op : D → D → Option D} (hr : OpD X.K r op) (ho : OpR X (compareOp o) r) (ha : PE X a (tD X.K E fa)) (hb : PE X b (tD X.K E fb)) (hm : behindInMarks o b = false) :
    PE X (.Compare a [o] [b] pos) (tD X.K E (fa >>= fun d => fb >>= fun e => M.opt (op d e))) :=
  pe_weak (pe_cmpR ho ha hb hm) (two_parts hr (fun _ _ _ h => h) fun _ _ _ h => h)
end
end Nc

/-! a tuple times 1: the tuple itself. -/
namespace Nc
open PySem PySem.Spec PyProof.Rows L2
theorem tuple_mul1 (l : Addr) (items : Array Value) (n : Nat) (dd : Option Addr) (sl : Array (Option Value)) (u : Tok) :
    Meets (Builtin.«tuple.__mul__» ⟨[.ref l, .int 1 u], []⟩) (fun _ R s => s.heap.get? l = some { cls := .type "tuple", dict := dd, data := .seq items n, slots := sl } ∧
      R (.ok (.ret (Value.ref l))) s) :=
  .of_wp fun prog w A R s h => by
    obtain ⟨hp, g, d, tk, os⟩ := s
    obtain ⟨hl, h⟩ := h
    have f1 := AutoSeq1.idx_int
    have c0 : (decide ((1 : Int) < -(2 ^ 63)) || decide ((1 : Int) ≥ 2 ^ 63)) = false := by decide
    have c1 : (items.isEmpty || (1 : Int) == 1) = true := by simp
    wp_walk using wpAny_loadPart' hl
    repeat (first
      | (refine wpAny_ite_false (decide_eq_false (by rw [c0]; exact Bool.false_ne_true)) ?_; wp_walk using wpAny_loadPart' hl)
      | (refine wpAny_ite_true (decide_eq_true (by rw [c1])) ?_; wp_walk using wpAny_loadPart' hl))
    exact ⟨_, rfl, h⟩
def rRep1 (K : PySem.W.Frag) : R2 := fun x y H Q => ∃ l xs, x = .ref l ∧ y = .int 1 ∧ SqT K H l xs ∧ Q (.ref l) H
section
variable {X : Cx}
theorem op_rep1 : OpR X (binaryOp .Mult) (rRep1 X.K) := by
  intro pins s σ H x y v u Q I rx ry h
  obtain ⟨l, xs, rfl, rfl, hT, q⟩ := h
  cases rx
  obtain ⟨t, rfl⟩ := ry
  obtain ⟨its, r, ⟨⟨cls, dd, data, sl⟩, ho, hc, n, hd⟩, hs⟩ := I.tuple hT
  simp only at hc hd
  subst hc hd
  refine wpAny_binaryOp_repeat_ref (T := "tuple") (U := "int") (by decide) ⟨_, ho, rfl⟩ (fun s' => typeIs_int s' 1 t) noFill_tuple_mul F.fills_int_mul F.slot_int_rmul repeat_tuple F.slot_int_index.lookup
    (call_meets F.slot_int_rmul (typeIs_int s 1 t) F.entry_int_rmul (F.args_int_rmul_2 _ _) (int_rmul_tuple 1 t l its.toArray n dd sl)
      ⟨ho, rfl, ⟨_, ho, rfl⟩, call_meets F.slot_tuple_mul ⟨_, ho, rfl⟩ F.entry_tuple_mul (F.args_tuple_mul_2 _ _) (tuple_mul1 l its.toArray n dd sl t) ⟨ho, ?_⟩⟩)
  exact ⟨.ref l, H, I, rfl, q⟩
end
end Nc

/-! Operators, comparisons, tests on trees. -/
namespace Nc
open PySem PySem.Spec PyProof.Rows L2

/-! ### arithmetic -/
def addD : D → D → Option D
  | .int a, .int b => some (.int (a + b))
  | .str a, .str b => if a.length + b.length ≤ sizeLine then some (.str (a ++ b)) else none
  | .lst a, .lst b => if a.length + b.length ≤ sizeLine then some (.lst (a ++ b)) else none
  | .tup a, .tup b => if a.length + b.length ≤ sizeLine then some (.tup (a ++ b)) else none
  | _, _ => none
def i2 (C : Int → Int → Bool) (g : Int → Int → Int) : D → D → Option D
  | .int a, .int b => if C a b then some (.int (g a b)) else none
  | _, _ => none
def subD := i2 (fun _ _ => true) fun a b => a - b
def small64i (i : Int) : Bool := decide (-(2 ^ 64) < i) && decide (i < 2 ^ 64)
def mulD : D → D → Option D
  | .int a, .int b => if small64i a || small64i b then some (.int (a * b)) else none
  | .lst a, .int b => if decide (-(2 ^ 63) ≤ b) && decide (b < 2 ^ 63) && decide (a.length * b.toNat ≤ sizeLine) then some (.lst (List.replicate b.toNat a).flatten) else none
  | .tup a, .int b => if b = 1 then some (.tup a) else if decide (a ≠ []) && decide (2 ≤ b) && decide (b ≤ 1000) && decide (a.length ≤ 1000) then some (.tup (List.replicate b.toNat a).flatten) else none
  | _, _ => none
def fdivD := i2 (fun _ j => decide (0 < j) && decide (j.natAbs.log2 < 9000)) fun a b => a / b
def modD := i2 (fun _ j => decide (0 < j)) fun a b => a % b
def powC (i j : Int) : Bool := decide (0 ≤ j) && decide (j ≤ 1000000) && decide (i.natAbs < 2 ^ 64)
def powD := i2 powC fun a b => a ^ b.toNat
def shlD := i2 powC fun a b => a * 2 ^ b.toNat
def shrD := i2 (fun _ j => decide (0 ≤ j)) fun a b => a / 2 ^ b.toNat
def andD := i2 (fun _ _ => true) Builtin.bitAnd
def orD := i2 (fun _ _ => true) Builtin.bitOr

section
variable {K : PySem.W.Frag}
theorem opd_i2 {Cp : Int → Int → Prop} {C : Int → Int → Bool} {g : Int → Int → Int} (h : ∀ i j, C i j = true → Cp i j) : OpD K (rI Cp fun i j => .int (g i j)) (i2 C g) := by
  intro θ B H σ ρ d e z x y Q c rx ry ez k
  cases d <;> cases e <;> simp only [i2, reduceCtorEq] at ez
  rename_i i j
  simp only [Rep] at rx ry
  subst rx
  subst ry
  split at ez
  · rename_i hc
    cases ez
    exact ⟨i, j, rfl, rfl, h i j hc, k _ _ _ (Step.refl c) (by simp only [Rep])⟩
  · cases ez
theorem opd_i20 {g : Int → Int → Int} : OpD K (rI0 fun i j => .int (g i j)) (i2 (fun _ _ => true) g) := by
  intro θ B H σ ρ d e z x y Q c rx ry ez k
  cases d <;> cases e <;> simp only [i2, reduceCtorEq] at ez
  rename_i i j
  simp only [Rep] at rx ry
  subst rx
  subst ry
  simp only [if_true] at ez
  cases ez
  exact ⟨i, j, rfl, rfl, k _ _ _ (Step.refl c) (by simp only [Rep])⟩
theorem opd_add : OpD K (fun x y H Q => rI0 (fun i j => .int (i + j)) x y H Q ∨ (∃ i j, x = .str i ∧ y = .str j ∧ i.length + j.length ≤ sizeLine ∧ Q (.str (i ++ j)) H) ∨ rCat x y H Q ∨ rCatA K x y H Q) addD := by
  intro θ B H σ ρ d e z x y Q c rx ry ez k
  cases d <;> cases e <;> simp only [addD, reduceCtorEq] at ez
  · simp only [Rep] at rx ry
    subst rx ry
    cases ez
    exact .inl ⟨_, _, rfl, rfl, k _ _ _ (Step.refl c) (by simp only [Rep])⟩
  · simp only [Rep] at rx ry
    subst rx ry
    split at ez
    · rename_i hc
      cases ez
      exact .inr (.inl ⟨_, _, rfl, rfl, hc, k _ _ _ (Step.refl c) (by simp only [Rep])⟩)
    · cases ez
  · simp only [Rep] at rx ry
    obtain ⟨p, xs, rfl, h1, h2⟩ := rx
    obtain ⟨q, ys, rfl, g1, g2⟩ := ry
    split at ez
    · rename_i hc
      cases ez
      rw [h2.length, g2.length] at hc
      refine .inr (.inr (.inr ⟨p, q, xs, ys, rfl, rfl, Same.sqt c.bh h1, Same.sqt c.bh g1, hc, ?_⟩))
      have fin : ∀ l, H l = none → Q (.ref l) (upd H l (.tup (xs ++ ys))) := fun l hl => k _ _ _ (c.laid hl _) (by
        simp only [Rep]
        exact ⟨l, xs ++ ys, rfl, .inl (.inl upd_same), (h2.append g2).mono (c.laid hl (.tup (xs ++ ys))).bb⟩)
      have fx : ys = [] → Q (.ref p) H := fun e0 => k _ _ _ (Step.refl c) (by
        subst e0
        simp only [Rep]
        exact ⟨p, xs, rfl, h1, by simpa using h2.append g2⟩)
      have fy : xs = [] → Q (.ref q) H := fun e0 => k _ _ _ (Step.refl c) (by
        subst e0
        simp only [Rep]
        exact ⟨q, ys, rfl, g1, by simpa using h2.append g2⟩)
      first
        | exact ⟨fun e0 => fy e0, fun e0 => ⟨fun e1 => fx e1, fun _ => fin⟩⟩
        | exact ⟨fun _ e0 => fx e0, fun _ _ => fin⟩
        | exact ⟨fun e0 => fx e0, fun e0 => fin⟩
        | exact ⟨fy, fun _ => fx, fun _ _ => fin⟩
        | exact ⟨fx, fun _ => fy, fun _ _ => fin⟩
        | exact ⟨fy, fx, fun _ _ => fin⟩
    · cases ez
  · simp only [Rep] at rx ry
    obtain ⟨p, xs, rfl, h1, h2⟩ := rx
    obtain ⟨q, ys, rfl, g1, g2⟩ := ry
    split at ez
    · rename_i hc
      cases ez
      rw [h2.length, g2.length] at hc
      refine .inr (.inr (.inl ⟨p, q, xs, ys, rfl, rfl, c.bh _ _ h1, c.bh _ _ g1, hc, fun l hl => k _ _ _ (c.laid hl _) ?_⟩))
      simp only [Rep]
      exact ⟨l, xs ++ ys, rfl, upd_same, (h2.append g2).mono (c.laid hl (.lst (xs ++ ys))).bb⟩
    · cases ez
theorem Reps.rep {B : Hp} {ds : List D} {vs : List V} (h : Reps K B ds vs) : ∀ n : Nat, Reps K B (List.replicate n ds).flatten (List.replicate n vs).flatten
  | 0 => Reps.nil
  | n + 1 => by
    rw [List.replicate_succ, List.replicate_succ, List.flatten_cons, List.flatten_cons]
    exact h.append (h.rep n)
theorem opd_mul : OpD K (fun x y H Q => rI CMul (fun i j => .int (i * j)) x y H Q ∨ rRep x y H Q ∨ rRepT K x y H Q ∨ rRep1 K x y H Q) mulD := by
  intro θ B H σ ρ d e z x y Q c rx ry ez k
  cases d <;> cases e <;> simp only [mulD, reduceCtorEq] at ez
  · simp only [Rep] at rx ry
    subst rx ry
    split at ez
    · rename_i hc
      cases ez
      refine .inl ⟨_, _, rfl, rfl, ?_, k _ _ _ (Step.refl c) (by simp only [Rep])⟩
      rw [Bool.or_eq_true] at hc
      rcases hc with hc | hc
      · simp only [small64i, Bool.and_eq_true, decide_eq_true_eq] at hc
        exact .inl hc
      · simp only [small64i, Bool.and_eq_true, decide_eq_true_eq] at hc
        exact .inr hc
    · cases ez
  · simp only [Rep] at rx ry
    obtain ⟨p, xs, rfl, h1, h2⟩ := rx
    subst ry
    split at ez
    · rename_i hb
      cases ez
      subst hb
      refine .inr (.inr (.inr ⟨p, xs, rfl, rfl, Same.sqt c.bh h1, k _ _ _ (Step.refl c) ?_⟩))
      simp only [Rep]
      exact ⟨p, xs, rfl, h1, h2⟩
    split at ez
    · rename_i hc
      cases ez
      simp only [Bool.and_eq_true, decide_eq_true_eq] at hc
      obtain ⟨⟨⟨c1, c2⟩, c3⟩, c4⟩ := hc
      rename_i ds b _
      refine .inr (.inr (.inl ⟨p, b, xs, rfl, rfl, Same.sqt c.bh h1, fun e0 => ?_, c2, c3, by rw [← h2.length]; exact c4, fun l hl => k _ _ _ (c.laid hl _) ?_⟩))
      · subst e0
        have := h2.length
        rw [List.length_nil] at this
        exact c1 (List.length_eq_zero_iff.mp this)
      · simp only [Rep]
        exact ⟨l, _, rfl, .inl (.inl upd_same), (h2.rep _).mono (c.laid hl _).bb⟩
    · cases ez
  · simp only [Rep] at rx ry
    obtain ⟨p, xs, rfl, h1, h2⟩ := rx
    subst ry
    split at ez
    · rename_i hc
      cases ez
      simp only [Bool.and_eq_true, decide_eq_true_eq] at hc
      obtain ⟨⟨c1, c2⟩, c3⟩ := hc
      rw [h2.length] at c3
      rename_i ds b
      refine .inr (.inl ⟨p, b, xs, rfl, rfl, c.bh _ _ h1, c1, c2, c3, fun l hl => k _ _ _ (c.laid hl _) ?_⟩)
      simp only [Rep]
      exact ⟨l, _, rfl, upd_same, (h2.rep _).mono (c.laid hl _).bb⟩
    · cases ez
end
section
variable {X : Cx} {E : WX} {a b : Expr} {pos : Pos} {fa fb : M D}
abbrev b2 (op : D → D → Option D) (fa fb : M D) : M D := fa >>= fun d => fb >>= fun e => M.opt (op d e)
theorem pd_add (ha : PE X a (tD X.K E fa)) (hb : PE X b (tD X.K E fb)) : PE X (.BinOp a .Add b pos) (tD X.K E (b2 addD fa fb)) := pd_bin opd_add (op_add.or (op_add_str.or (op_cat.or op_catA))) ha hb
theorem pd_sub (ha : PE X a (tD X.K E fa)) (hb : PE X b (tD X.K E fb)) : PE X (.BinOp a .Sub b pos) (tD X.K E (b2 subD fa fb)) := pd_bin opd_i20 op_sub ha hb
theorem pd_mul (ha : PE X a (tD X.K E fa)) (hb : PE X b (tD X.K E fb)) : PE X (.BinOp a .Mult b pos) (tD X.K E (b2 mulD fa fb)) := pd_bin opd_mul (op_mul.or (op_rep.or (op_repT.or op_rep1))) ha hb
theorem pd_fdiv (ha : PE X a (tD X.K E fa)) (hb : PE X b (tD X.K E fb)) : PE X (.BinOp a .FloorDiv b pos) (tD X.K E (b2 fdivD fa fb)) := pd_bin (opd_i2 fun i j h => by simpa [CDivW] using h) op_fdivW ha hb
theorem pd_mod (ha : PE X a (tD X.K E fa)) (hb : PE X b (tD X.K E fb)) : PE X (.BinOp a .Mod b pos) (tD X.K E (b2 modD fa fb)) := pd_bin (opd_i2 fun i j h => by simpa using h) op_mod ha hb
theorem powC_ok {i j : Int} (h : powC i j = true) : CPow i j := by
  simp only [powC, Bool.and_eq_true, decide_eq_true_eq] at h
  exact ⟨h.1.1, h.1.2, h.2⟩
theorem pd_pow (ha : PE X a (tD X.K E fa)) (hb : PE X b (tD X.K E fb)) : PE X (.BinOp a .Pow b pos) (tD X.K E (b2 powD fa fb)) := pd_bin (opd_i2 fun i j h => powC_ok h) op_pow ha hb
theorem pd_shl (ha : PE X a (tD X.K E fa)) (hb : PE X b (tD X.K E fb)) : PE X (.BinOp a .LShift b pos) (tD X.K E (b2 shlD fa fb)) := pd_bin (opd_i2 fun i j h => powC_ok h) op_shl ha hb
theorem pd_shr (ha : PE X a (tD X.K E fa)) (hb : PE X b (tD X.K E fb)) : PE X (.BinOp a .RShift b pos) (tD X.K E (b2 shrD fa fb)) := pd_bin (opd_i2 fun i j h => by simpa using h) op_shr ha hb
theorem pd_and (ha : PE X a (tD X.K E fa)) (hb : PE X b (tD X.K E fb)) : PE X (.BinOp a .BitAnd b pos) (tD X.K E (b2 andD fa fb)) := pd_bin opd_i20 op_and ha hb
theorem pd_or (ha : PE X a (tD X.K E fa)) (hb : PE X b (tD X.K E fb)) : PE X (.BinOp a .BitOr b pos) (tD X.K E (b2 orD fa fb)) := pd_bin opd_i20 op_or ha hb
/-- -a of an int -/
def negD : D → Option D
  | .int i => some (.int (-i))
  | _ => none
theorem pd_neg (ha : PE X a (tD X.K E fa)) : PE X (.UnaryOp .USub a pos) (tD X.K E (fa >>= fun d => M.opt (negD d))) := by
  refine pe_weak (pe_un un_neg ha) fun σ H Q ⟨θ, B, ρ, c, h⟩ => ⟨θ, B, ρ, c, h.seq.imp ?_⟩
  rintro d ρ' x B' H1 - - - ⟨d, B1, ρ1, st1, rx, h1⟩
  obtain ⟨z, ez, k⟩ := h1.opt
  cases d <;> simp only [negD, reduceCtorEq] at ez
  cases ez
  have rx' := rep_int rx
  exact ⟨_, rx', k _ _ _ (Step.refl st1.cf) (by simp only [RD, Rep])⟩
end

/-! ### == and its kin -/
mutual
def D.py : D → Option PyData
  | .non => some .none
  | .bl b => some (.bool b)
  | .int i => some (.int i)
  | .str z => some (.str z)
  | .tup ds => (D.pys ds).map .tuple
  | .lst ds => (D.pys ds).map .list
  | _ => none
def D.pys : List D → Option (List PyData)
  | [] => some []
  | d :: ds => match D.py d, D.pys ds with
    | some x, some xs => some (x :: xs)
    | _, _ => none
end
section
variable {K : PySem.W.Frag} {B H : Hp}
mutual
theorem Rep.dp (s : Same B H) : ∀ {d : D} {v : V} {p : PyData}, d.py = some p → Rep K B d v → Dp K H v p
  | .non, _, _, e, h => by
    simp only [Rep, D.py] at h e
    cases e
    subst h
    exact .non
  | .bl b, _, _, e, h => by
    simp only [Rep, D.py] at h e
    cases e
    subst h
    exact .bl b
  | .int i, _, _, e, h => by
    simp only [Rep, D.py] at h e
    cases e
    subst h
    exact .int i
  | .str z, _, _, e, h => by
    simp only [Rep, D.py] at h e
    cases e
    subst h
    exact .str z
  | .tup ds, _, _, e, h => by
    simp only [Rep, D.py] at h e
    obtain ⟨a, xs, rfl, h2, h3⟩ := h
    cases q : D.pys ds with
    | none =>
      rw [q] at e
      cases e
    | some ps =>
      rw [q] at e
      cases e
      exact .tup (Same.sqt s h2) (Reps.dp s q h3)
  | .lst ds, _, _, e, h => by
    simp only [Rep, D.py] at h e
    obtain ⟨a, xs, rfl, h2, h3⟩ := h
    cases q : D.pys ds with
    | none =>
      rw [q] at e
      cases e
    | some ps =>
      rw [q] at e
      cases e
      exact .lst (SqL.of (s _ _ h2)) (Reps.dp s q h3)
  | .dk _ _, _, _, e, _ => by
    simp only [D.py] at e
    cases e
  | .dt _ _, _, _, e, _ => by
    simp only [D.py] at e
    cases e
  | .ob _ _ _, _, _, e, _ => by
    simp only [D.py] at e
    cases e
  | .adr _, _, _, e, _ => by
    simp only [D.py] at e
    cases e
  | .ty _, _, _, e, _ => by
    simp only [D.py] at e
    cases e
theorem Reps.dp (s : Same B H) : ∀ {ds : List D} {vs : List V} {ps : List PyData}, D.pys ds = some ps → Reps K B ds vs → DpAll K H vs ps
  | [], _, _, e, h => by
    simp only [Reps, D.pys] at h e
    cases e
    subst h
    exact .nil
  | d :: ds, _, _, e, h => by
    simp only [Reps, D.pys] at h e
    obtain ⟨x, xs, rfl, h2, h3⟩ := h
    cases q : D.py d with
    | none =>
      rw [q] at e
      cases e
    | some p =>
      cases r : D.pys ds with
      | none =>
        rw [q, r] at e
        cases e
      | some ps =>
        rw [q, r] at e
        cases e
        exact .cons (Rep.dp s q h2) (Reps.dp s r h3)
end
end
/-- scalars of one kind, or none of them -/
def eqS : D → D → Option Bool
  | .non, .non => some true
  | .non, .int _ => some false
  | .int _, .non => some false
  | .non, .bl _ => some false
  | .bl _, .non => some false
  | .non, .str _ => some false
  | .str _, .non => some false
  | .int a, .int b => some (decide (a = b))
  | .bl a, .bl b => some (decide (a = b))
  | .str a, .str b => some (decide (a = b))
  | .int _, .str _ => some false
  | .str _, .int _ => some false
  | .bl _, .str _ => some false
  | .str _, .bl _ => some false
  | _, _ => none
def eqB (d e : D) : Option Bool := match eqS d e with
  | some b => some b
  | none => match d.py, e.py with
    | some x, some y => if SeqAt.shaped x && SeqAt.shaped y then some (PyData.eqv x y) else none
    | _, _ => none
def eqD (d e : D) : Option D := (eqB d e).map .bl
def neD (d e : D) : Option D := (eqB d e).map fun b => .bl (!b)
section
variable {K : PySem.W.Frag}
theorem eqS_scal {B : Hp} {d e : D} {x y : V} {b : Bool} (h : eqS d e = some b) (rx : Rep K B d x) (ry : Rep K B e y) : scal x y = true ∧ decide (x = y) = b := by
  cases d <;> cases e <;> simp only [eqS, reduceCtorEq] at h <;> simp only [Rep] at rx ry <;> subst rx ry <;> cases h <;> simp [scal]
theorem opd_eq : OpD K (fun x y H Q => rEqD K x y H Q ∨ rEq x y H Q) eqD := by
  intro θ B H σ ρ d e z x y Q c rx ry ez k
  unfold eqD eqB at ez
  split at ez
  · rename_i b hb
    cases ez
    obtain ⟨h1, h2⟩ := eqS_scal hb rx ry
    exact .inr ⟨h1, by rw [h2]; exact k _ _ _ (Step.refl c) (by simp only [Rep])⟩
  · split at ez
    · rename_i p q hp hq
      split at ez
      · rename_i hs
        rw [Bool.and_eq_true] at hs
        cases ez
        exact .inl ⟨p, q, rx.dp c.bh hp, ry.dp c.bh hq, hs.1, hs.2, k _ _ _ (Step.refl c) (by simp only [Rep])⟩
      · cases ez
    · cases ez
theorem opd_ne : OpD K (fun x y H Q => rNeD K x y H Q ∨ rNe x y H Q) neD := by
  intro θ B H σ ρ d e z x y Q c rx ry ez k
  unfold neD eqB at ez
  split at ez
  · rename_i b hb
    cases ez
    obtain ⟨h1, h2⟩ := eqS_scal hb rx ry
    exact .inr ⟨h1, by rw [h2]; exact k _ _ _ (Step.refl c) (by simp only [Rep])⟩
  · split at ez
    · rename_i p q hp hq
      split at ez
      · rename_i hs
        rw [Bool.and_eq_true] at hs
        cases ez
        exact .inl ⟨p, q, rx.dp c.bh hp, ry.dp c.bh hq, hs.1, hs.2, k _ _ _ (Step.refl c) (by simp only [Rep])⟩
      · cases ez
    · cases ez
def cmpI (p : Int → Int → Bool) (q : List Nat → List Nat → Bool) : D → D → Option D
  | .int a, .int b => some (.bl (p a b))
  | .str a, .str b => some (.bl (q a.cps.toList b.cps.toList))
  | _, _ => none
def ltD := cmpI (fun a b => decide (a < b)) fun a b => decide (a < b)
def leD := cmpI (fun a b => decide (a ≤ b)) fun a b => !decide (b < a)
def gtD := cmpI (fun a b => decide (b < a)) fun a b => decide (b < a)
def geD := cmpI (fun a b => decide (b ≤ a)) fun a b => !decide (a < b)
theorem opd_cmpI {p : Int → Int → Bool} {q : List Nat → List Nat → Bool} : OpD K (fun x y H Q => rI0 (fun i j => .bl (p i j)) x y H Q ∨ (∃ i j, x = .str i ∧ y = .str j ∧ Q (.bl (q i.cps.toList j.cps.toList)) H)) (cmpI p q) := by
  intro θ B H σ ρ d e z x y Q c rx ry ez k
  cases d <;> cases e <;> simp only [cmpI, reduceCtorEq] at ez
  · simp only [Rep] at rx ry
    subst rx ry
    cases ez
    exact .inl ⟨_, _, rfl, rfl, k _ _ _ (Step.refl c) (by simp only [Rep])⟩
  · simp only [Rep] at rx ry
    subst rx ry
    cases ez
    exact .inr ⟨_, _, rfl, rfl, k _ _ _ (Step.refl c) (by simp only [Rep])⟩
/-- is None, is not None -/
def isN : D → D → Option D
  | .non, .non => some (.bl true)
  | .bl _, .non => some (.bl false)
  | .int _, .non => some (.bl false)
  | .str _, .non => some (.bl false)
  | .tup _, .non => some (.bl false)
  | .lst _, .non => some (.bl false)
  | .dk _ _, .non => some (.bl false)
  | .dt _ _, .non => some (.bl false)
  | .ob _ _ _, .non => some (.bl false)
  | _, _ => none
def notN (d e : D) : Option D := match isN d e with
  | some (.bl b) => some (.bl (!b))
  | _ => none
theorem isN_dec {B : Hp} {d e z : D} {x y : V} (rx : Rep K B d x) (ry : Rep K B e y) (ez : isN d e = some z) : y = .non ∧ z = .bl (decide (x = .non)) := by
  cases d <;> cases e <;> simp only [isN, reduceCtorEq] at ez <;> simp only [Rep] at rx ry <;> cases ez <;> subst ry
  case tup.non => obtain ⟨a, xs, rfl, _⟩ := rx; simp
  case lst.non => obtain ⟨a, xs, rfl, _⟩ := rx; simp
  case dk.non => obtain ⟨a, xs, rfl, _⟩ := rx; simp
  case dt.non => obtain ⟨a, xs, rfl, _⟩ := rx; simp
  case ob.non => obtain ⟨a, dx, xs, rfl, _⟩ := rx; simp
  all_goals (subst rx; simp)
theorem opd_isN : OpD K (fun x y H Q => y = .non ∧ Q (.bl (decide (x = .non))) H) isN := by
  intro θ B H σ ρ d e z x y Q c rx ry ez k
  obtain ⟨h1, h2⟩ := isN_dec rx ry ez
  subst h2
  exact ⟨h1, k _ _ _ (Step.refl c) (by simp only [Rep])⟩
theorem opd_notN : OpD K (fun x y H Q => y = .non ∧ Q (.bl (!decide (x = .non))) H) notN := by
  intro θ B H σ ρ d e z x y Q c rx ry ez k
  unfold notN at ez
  split at ez
  · rename_i b hb
    obtain ⟨h1, h2⟩ := isN_dec rx ry hb
    cases h2
    cases ez
    exact ⟨h1, k _ _ _ (Step.refl c) (by simp only [Rep])⟩
  · cases ez
end
section
variable {X : Cx} {E : WX} {a b : Expr} {pos : Pos} {fa fb : M D}
theorem pd_eq (hu : X.A.units + 64 < cLine) (ha : PE X a (tD X.K E fa)) (hb : PE X b (tD X.K E fb)) : PE X (.Compare a [.Eq] [b] pos) (tD X.K E (b2 eqD fa fb)) := pd_cmp opd_eq ((op_eqD hu).or op_eq) ha hb (nomark _)
theorem pd_ne (hu : X.A.units + 64 < cLine) (ha : PE X a (tD X.K E fa)) (hb : PE X b (tD X.K E fb)) : PE X (.Compare a [.NotEq] [b] pos) (tD X.K E (b2 neD fa fb)) := pd_cmp opd_ne ((op_neD hu).or op_ne) ha hb (nomark _)
theorem pd_lt (ha : PE X a (tD X.K E fa)) (hb : PE X b (tD X.K E fb)) : PE X (.Compare a [.Lt] [b] pos) (tD X.K E (b2 ltD fa fb)) := pd_cmp opd_cmpI (op_lt.or op_lt_str) ha hb (nomark _)
theorem pd_le (ha : PE X a (tD X.K E fa)) (hb : PE X b (tD X.K E fb)) : PE X (.Compare a [.LtE] [b] pos) (tD X.K E (b2 leD fa fb)) := pd_cmp opd_cmpI (op_le.or op_le_str) ha hb (nomark _)
theorem pd_gt (ha : PE X a (tD X.K E fa)) (hb : PE X b (tD X.K E fb)) : PE X (.Compare a [.Gt] [b] pos) (tD X.K E (b2 gtD fa fb)) := pd_cmp opd_cmpI (op_gt.or op_gt_str) ha hb (nomark _)
theorem pd_ge (ha : PE X a (tD X.K E fa)) (hb : PE X b (tD X.K E fb)) : PE X (.Compare a [.GtE] [b] pos) (tD X.K E (b2 geD fa fb)) := pd_cmp opd_cmpI (op_ge.or op_ge_str) ha hb (nomark _)
theorem pd_isN (ha : PE X a (tD X.K E fa)) (hb : PE X b (tD X.K E fb)) : PE X (.Compare a [.Is] [b] pos) (tD X.K E (b2 isN fa fb)) := pd_cmp opd_isN op_isN ha hb (nomark _)
theorem pd_notN (ha : PE X a (tD X.K E fa)) (hb : PE X b (tD X.K E fb)) : PE X (.Compare a [.IsNot] [b] pos) (tD X.K E (b2 notN fa fb)) := pd_cmp opd_notN op_notN ha hb (nomark _)

/-! ### tests -/
def asB : D → Option Bool
  | .bl b => some b
  | _ => none
def tst (f : M D) : M Bool := f >>= fun d => M.opt (asB d)
theorem pt_tst {e : Expr} (h : PE X e (tD X.K E fa)) (he : ∀ whole, isTrue e X.env whole = (do let v ← whole; standAt e.pos; holding [v] (truthy v)) := by intro _; rfl) : PT X e (tT X.K E (tst fa)) := by
  refine pt_weak (pt_val h he) fun σ H Q ⟨θ, B, ρ, c, h⟩ => ⟨θ, B, ρ, c, h.seq.imp ?_⟩
  rintro d ρ' x B' H1 - - - ⟨d, B1, ρ1, st1, rx, h1⟩
  obtain ⟨z, ez, k⟩ := h1.opt
  cases d <;> simp only [asB, reduceCtorEq] at ez
  cases ez
  have rx' := rep_bl rx
  exact ⟨_, rx', k _ _ _ (Step.refl st1.cf) rfl⟩
variable {ta tb : M Bool}
/-- a comparison as a test -/
theorem pt_cmpD {o : CmpOp} {r : R2} {op : D → D → Option D} (hr : OpD X.K r op) (ho : OpR X (compareOp o) r) (ha : PE X a (tD X.K E fa)) (hb : PE X b (tD X.K E fb)) (hm : behindInMarks o b = false) :
    PT X (.Compare a [o] [b] pos) (tT X.K E (tst (b2 op fa fb))) := by
  refine pt_weak (pt_cmpR ho ha hb hm) fun σ H Q ⟨θ, B, ρ, c, h⟩ => ?_
  refine two_parts hr (fun _ _ _ h => h) (fun _ _ _ h => h) σ H _ ⟨θ, B, ρ, c, h.seq.imp ?_⟩
  rintro d ρ' x B' H1 - - - ⟨d, B1, ρ1, st1, rx, h1⟩
  obtain ⟨z, ez, k⟩ := h1.opt
  cases d <;> simp only [asB, reduceCtorEq] at ez
  cases ez
  have rx' := rep_bl rx
  exact ⟨_, rx', k _ _ _ (Step.refl st1.cf) rfl⟩
theorem pt_eq (hu : X.A.units + 64 < cLine) (ha : PE X a (tD X.K E fa)) (hb : PE X b (tD X.K E fb)) : PT X (.Compare a [.Eq] [b] pos) (tT X.K E (tst (b2 eqD fa fb))) := pt_cmpD opd_eq ((op_eqD hu).or op_eq) ha hb (nomark _)
theorem pt_ne (hu : X.A.units + 64 < cLine) (ha : PE X a (tD X.K E fa)) (hb : PE X b (tD X.K E fb)) : PT X (.Compare a [.NotEq] [b] pos) (tT X.K E (tst (b2 neD fa fb))) := pt_cmpD opd_ne ((op_neD hu).or op_ne) ha hb (nomark _)
theorem pt_lt (ha : PE X a (tD X.K E fa)) (hb : PE X b (tD X.K E fb)) : PT X (.Compare a [.Lt] [b] pos) (tT X.K E (tst (b2 ltD fa fb))) := pt_cmpD opd_cmpI (op_lt.or op_lt_str) ha hb (nomark _)
theorem pt_le (ha : PE X a (tD X.K E fa)) (hb : PE X b (tD X.K E fb)) : PT X (.Compare a [.LtE] [b] pos) (tT X.K E (tst (b2 leD fa fb))) := pt_cmpD opd_cmpI (op_le.or op_le_str) ha hb (nomark _)
theorem pt_gt (ha : PE X a (tD X.K E fa)) (hb : PE X b (tD X.K E fb)) : PT X (.Compare a [.Gt] [b] pos) (tT X.K E (tst (b2 gtD fa fb))) := pt_cmpD opd_cmpI (op_gt.or op_gt_str) ha hb (nomark _)
theorem pt_ge (ha : PE X a (tD X.K E fa)) (hb : PE X b (tD X.K E fb)) : PT X (.Compare a [.GtE] [b] pos) (tT X.K E (tst (b2 geD fa fb))) := pt_cmpD opd_cmpI (op_ge.or op_ge_str) ha hb (nomark _)
theorem pt_isN (ha : PE X a (tD X.K E fa)) (hb : PE X b (tD X.K E fb)) : PT X (.Compare a [.Is] [b] pos) (tT X.K E (tst (b2 isN fa fb))) := pt_cmpD opd_isN op_isN ha hb (nomark _)
theorem pt_notN (ha : PE X a (tD X.K E fa)) (hb : PE X b (tD X.K E fb)) : PT X (.Compare a [.IsNot] [b] pos) (tT X.K E (tst (b2 notN fa fb))) := pt_cmpD opd_notN op_notN ha hb (nomark _)
/-! and, or, not as tests -/
variable {rest : List Expr}
theorem wd_and1 (ha : PT X a (tT X.K E ta)) : PW X (.BoolOp .And [a] pos) (tT X.K E ta) := pw_and1 ha
theorem wd_or1 (ha : PT X a (tT X.K E ta)) : PW X (.BoolOp .Or [a] pos) (tT X.K E ta) := pw_or1 ha
def andM (f g : M Bool) : M Bool := f >>= fun b => if b then g else M.ret false
def orM (f g : M Bool) : M Bool := f >>= fun b => if b then M.ret true else g
theorem wd_and (ha : PT X a (tT X.K E ta)) (hb : PW X (.BoolOp .And (b :: rest) pos) (tT X.K E tb)) : PW X (.BoolOp .And (a :: b :: rest) pos) (tT X.K E (andM ta tb)) := by
  refine pw_weak (pw_and ha hb) fun σ H Q ⟨θ, B, ρ, c, h⟩ => ⟨θ, B, ρ, c, h.seq.imp ?_⟩
  rintro d ρ' x B' H1 - - - ⟨d, B1, ρ1, st1, rx, h1⟩
  have e : d = x := rx
  subst e
  cases d with
  | true => exact iteT ⟨θ, B1, ρ1, st1.cf, h1⟩
  | false => exact iteF (h1.here st1.cf rfl)
theorem wd_or (ha : PT X a (tT X.K E ta)) (hb : PW X (.BoolOp .Or (b :: rest) pos) (tT X.K E tb)) : PW X (.BoolOp .Or (a :: b :: rest) pos) (tT X.K E (orM ta tb)) := by
  refine pw_weak (pw_or ha hb) fun σ H Q ⟨θ, B, ρ, c, h⟩ => ⟨θ, B, ρ, c, h.seq.imp ?_⟩
  rintro d ρ' x B' H1 - - - ⟨d, B1, ρ1, st1, rx, h1⟩
  have e : d = x := rx
  subst e
  cases d with
  | false => exact iteF ⟨θ, B1, ρ1, st1.cf, h1⟩
  | true => exact iteT (h1.here st1.cf rfl)
def notM (f : M Bool) : M Bool := f >>= fun b => M.ret (!b)
theorem pt_notD (ha : PT X a (tT X.K E ta)) : PT X (.UnaryOp .Not a pos) (tT X.K E (notM ta)) := by
  refine pt_weak (pt_not ha) fun σ H Q ⟨θ, B, ρ, c, h⟩ => ⟨θ, B, ρ, c, h.seq.imp ?_⟩
  rintro d ρ' x B' H1 - - - ⟨d, B1, ρ1, st1, rx, h1⟩
  have e : d = x := rx
  subst e
  exact h1.here st1.cf rfl
/-! .. as values -/
def andV (f g : M D) : M D := f >>= fun d => M.opt (asB d) >>= fun b => if b then g else M.ret (.bl false)
def orV (f g : M D) : M D := f >>= fun d => M.opt (asB d) >>= fun b => if b then M.ret (.bl true) else g
theorem At.optSeq {α γ δ : Type} {K : PySem.W.Frag} {E : WX} {R' : Rl γ δ} {θ : Nat → Addr} {σ : L2.St} {B H : Hp} {ρ : Rho} {Q : δ → Hp → Prop} {o : Option α} {g : α → M γ} (h : At K E R' θ σ B H ρ Q ((M.opt o >>= g) ρ)) : ∃ a, o = some a ∧ At K E R' θ σ B H ρ Q (g a ρ) := by
  cases o with
  | none => exact h.elim
  | some a => exact ⟨a, rfl, h⟩
theorem pd_andV (ha : PE X a (tD X.K E fa)) (hb : PE X (.BoolOp .And (b :: rest) pos) (tD X.K E fb)) : PE X (.BoolOp .And (a :: b :: rest) pos) (tD X.K E (andV fa fb)) := by
  refine pe_weak (pe_and ha hb) fun σ H Q ⟨θ, B, ρ, c, h⟩ => ⟨θ, B, ρ, c, h.seq.imp ?_⟩
  rintro d ρ' x B' H1 - - - ⟨d, B1, ρ1, st1, rx, h1⟩
  obtain ⟨z, ez, k⟩ := h1.optSeq
  cases d <;> simp only [asB, reduceCtorEq] at ez
  cases ez
  have rx' := rep_bl rx
  refine ⟨_, rx', ?_⟩
  cases z with
  | true => exact iteT ⟨θ, B1, ρ1, st1.cf, k⟩
  | false => exact iteF (k.here st1.cf (by simp only [RD, Rep]))
theorem pd_orV (ha : PE X a (tD X.K E fa)) (hb : PE X (.BoolOp .Or (b :: rest) pos) (tD X.K E fb)) : PE X (.BoolOp .Or (a :: b :: rest) pos) (tD X.K E (orV fa fb)) := by
  refine pe_weak (pe_or ha hb) fun σ H Q ⟨θ, B, ρ, c, h⟩ => ⟨θ, B, ρ, c, h.seq.imp ?_⟩
  rintro d ρ' x B' H1 - - - ⟨d, B1, ρ1, st1, rx, h1⟩
  obtain ⟨z, ez, k⟩ := h1.optSeq
  cases d <;> simp only [asB, reduceCtorEq] at ez
  cases ez
  have rx' := rep_bl rx
  refine ⟨_, rx', ?_⟩
  cases z with
  | false => exact iteF ⟨θ, B1, ρ1, st1.cf, k⟩
  | true => exact iteT (k.here st1.cf (by simp only [RD, Rep]))
theorem pd_one {o} (ha : PE X a (tD X.K E fa)) : PE X (.BoolOp o [a] pos) (tD X.K E fa) := pe_one ha
def notV (f : M D) : M D := f >>= fun d => M.opt (asB d) >>= fun b => M.ret (.bl (!b))
theorem pd_notV (ha : PE X a (tD X.K E fa)) : PE X (.UnaryOp .Not a pos) (tD X.K E (notV fa)) := by
  refine pe_weak (pe_not ha) fun σ H Q ⟨θ, B, ρ, c, h⟩ => ⟨θ, B, ρ, c, h.seq.imp ?_⟩
  rintro d ρ' x B' H1 - - - ⟨d, B1, ρ1, st1, rx, h1⟩
  obtain ⟨z, ez, k⟩ := h1.optSeq
  cases d <;> simp only [asB, reduceCtorEq] at ez
  cases ez
  have rx' := rep_bl rx
  exact ⟨_, rx', k.here st1.cf (by simp only [RD, Rep])⟩
def ifM {α : Type} (t : M Bool) (f g : M α) : M α := t >>= fun b => if b then f else g
theorem pd_if {c : Expr} (hc : PT X c (tT X.K E ta)) (ha : PE X a (tD X.K E fa)) (hb : PE X b (tD X.K E fb)) : PE X (.IfExp c a b pos) (tD X.K E (ifM ta fa fb)) := by
  refine pe_weak (pe_ifExp hc ha hb) fun σ H Q ⟨θ, B, ρ, c, h⟩ => ⟨θ, B, ρ, c, h.seq.imp ?_⟩
  rintro d ρ' x B' H1 - - - ⟨d, B1, ρ1, st1, rx, h1⟩
  have e : d = x := rx
  subst e
  cases d with
  | true => exact iteT ⟨θ, B1, ρ1, st1.cf, h1⟩
  | false => exact iteF ⟨θ, B1, ρ1, st1.cf, h1⟩
end
end Nc

/-! Sequences: operands that are looked at, displays, items, slices, len, in, built-ins of one argument. -/
namespace Nc
open PySem PySem.Spec PyProof.Rows L2

/-- the tree, its top read in the whole heap -/
def RepT (K : PySem.W.Frag) (B H : Hp) : D → V → Prop
  | .lst ds, v => ∃ a xs, v = .ref a ∧ H a = some (.lst xs) ∧ Reps K B ds xs
  | .tup ds, v => ∃ a xs, v = .ref a ∧ SqT K H a xs ∧ Reps K B ds xs
  | .dk ks ds, v => ∃ a xs, v = .ref a ∧ H a = some (.dK (ks.zip xs)) ∧ ks.length = xs.length ∧ Reps K B ds xs
  | .dt ks ds, v => ∃ a xs, v = .ref a ∧ H a = some (.dT (ks.zip xs)) ∧ ks.length = xs.length ∧ Reps K B ds xs
  | .ob C fs ds, v => ∃ a dx xs, v = .ref a ∧ H a = some (.ins C dx (fs.zip xs)) ∧ fs.length = xs.length ∧ Reps K B ds xs
  | d, v => Rep K B d v
section
variable {K : PySem.W.Frag} {B H : Hp}
theorem Rep.top (s : Same B H) : ∀ {d : D} {v : V}, Rep K B d v → RepT K B H d v
  | .non, _, h => h
  | .bl _, _, h => h
  | .int _, _, h => h
  | .str _, _, h => h
  | .tup ds, v, h => by
    simp only [Rep] at h
    obtain ⟨a, xs, h1, h2, h3⟩ := h
    exact ⟨a, xs, h1, Same.sqt s h2, h3⟩
  | .lst ds, v, h => by
    simp only [Rep] at h
    obtain ⟨a, xs, h1, h2, h3⟩ := h
    exact ⟨a, xs, h1, s _ _ h2, h3⟩
  | .dk ks ds, v, h => by
    simp only [Rep] at h
    obtain ⟨a, xs, h1, h2, h3, h4⟩ := h
    exact ⟨a, xs, h1, s _ _ h2, h3, h4⟩
  | .dt ks ds, v, h => by
    simp only [Rep] at h
    obtain ⟨a, xs, h1, h2, h3, h4⟩ := h
    exact ⟨a, xs, h1, s _ _ h2, h3, h4⟩
  | .ob C fs ds, v, h => by
    simp only [Rep] at h
    obtain ⟨a, dx, xs, h1, h2, h3, h4⟩ := h
    exact ⟨a, dx, xs, h1, s _ _ h2, h3, h4⟩
  | .adr _, _, h => h
  | .ty _, _, h => h
theorem RepO.top {a : Addr} {u : HO} : ∀ {o : O}, RepO K B o u → H a = some u → RepT K B H o.frozen (.ref a)
  | .lst _, ⟨xs, h1, h2⟩, e => by
    subst h1
    exact ⟨a, xs, rfl, e, h2⟩
  | .dk _ _, ⟨xs, h1, h3, h2⟩, e => by
    subst h1
    exact ⟨a, xs, rfl, e, h3, h2⟩
  | .dt _ _, ⟨xs, h1, h3, h2⟩, e => by
    subst h1
    exact ⟨a, xs, rfl, e, h3, h2⟩
  | .ob _ _ _, ⟨dx, xs, h1, h3, h2⟩, e => by
    subst h1
    exact ⟨a, dx, xs, rfl, e, h3, h2⟩
theorem RepT.dp (s : Same B H) : ∀ {d : D} {v : V} {p : PyData}, d.py = some p → RepT K B H d v → Dp K H v p
  | .non, _, _, e, h => Rep.dp s e h
  | .bl b, _, _, e, h => Rep.dp s e h
  | .int i, _, _, e, h => Rep.dp s e h
  | .str z, _, _, e, h => Rep.dp s e h
  | .tup ds, _, _, e, h => by
    simp only [D.py] at e
    obtain ⟨a, xs, rfl, h2, h3⟩ := h
    cases q : D.pys ds with
    | none =>
      rw [q] at e
      cases e
    | some ps =>
      rw [q] at e
      cases e
      exact .tup h2 (Reps.dp s q h3)
  | .lst ds, _, _, e, h => by
    simp only [D.py] at e
    obtain ⟨a, xs, rfl, h2, h3⟩ := h
    cases q : D.pys ds with
    | none =>
      rw [q] at e
      cases e
    | some ps =>
      rw [q] at e
      cases e
      exact .lst (SqL.of h2) (Reps.dp s q h3)
  | .dk _ _, _, _, e, _ => by
    simp only [D.py] at e
    cases e
  | .dt _ _, _, _, e, _ => by
    simp only [D.py] at e
    cases e
  | .ob _ _ _, _, _, e, _ => by
    simp only [D.py] at e
    cases e
  | .adr _, _, _, e, _ => by
    simp only [D.py] at e
    cases e
  | .ty _, _, _, e, _ => by
    simp only [D.py] at e
    cases e
end

theorem rept_int {K : PySem.W.Frag} {B H : Hp} {i : Int} {x : V} (h : RepT K B H (.int i) x) : x = .int i := rep_int (K := K) (B := B) h
theorem rept_str {K : PySem.W.Frag} {B H : Hp} {z : Str} {x : V} (h : RepT K B H (.str z) x) : x = .str z := rep_str (K := K) (B := B) h
theorem rept_bl {K : PySem.W.Frag} {B H : Hp} {b : Bool} {x : V} (h : RepT K B H (.bl b) x) : x = .bl b := rep_bl (K := K) (B := B) h

/-! ### operands that are looked at -/
inductive Opd where
  | d (d : D)
  /-- what stands in the slot i -/
  | s (i : Nat)
def Opd.dat (ρ : Rho) (o : Opd) : Option D := match o with
  | .d x => some x
  | .s i => match ρ[i]? with
    | some (some (.val x)) => some x
    | some (some (.own _ y)) => some y.frozen
    | _ => none
def RK (K : PySem.W.Frag) : Rl Opd V := fun _ σ B _ _ o v => match o with
  | .d d => Rep K B d v
  | .s i => σ[i]? = some (some v)
instance (K : PySem.W.Frag) : RlM (RK K) := ⟨fun _ h => h⟩
abbrev tK (K : PySem.W.Frag) (E : WX) (f : M Opd) : TE := tR K E (RK K) f
/-- the tree of an operand, as things stand -/
def getO (o : Opd) : M D := fun ρ => match o.dat ρ with
  | some d => .ok d ρ
  | none => .no
def varK (i : Nat) : M Opd := fun ρ => match ρ[i]? with
  | some (some _) => .ok (.s i) ρ
  | _ => .no
def opdM (f : M D) : M Opd := f >>= fun d => M.ret (.d d)
section
variable {K : PySem.W.Frag} {E : WX} {θ : Nat → Addr} {σ : L2.St} {B B1 B' H H1 H' : Hp} {ρ ρ1 ρ' : Rho}
theorem RK.mono {H0 H0' : Hp} {o : Opd} {v : V} (st : Step K θ σ B H ρ σ B' H' ρ') (h : RK K H0 σ B H ρ o v) : RK K H0' σ B' H' ρ' o v := by
  cases o with
  | d d => exact Rep.mono st.bb h
  | s i => exact h
theorem RK.top {H0 : Hp} (c : Cf K θ B H σ ρ) {o : Opd} {v : V} {d : D} (h : RK K H0 σ B H ρ o v) (e : o.dat ρ = some d) : RepT K B H d v := by
  cases o with
  | d d' =>
    cases e
    exact Rep.top c.bh h
  | s i =>
    have h : σ[i]? = some (some v) := h
    unfold Opd.dat at e
    cases q : ρ[i]? with
    | none =>
      simp only [q] at e
      cases e
    | some s =>
      cases s with
      | none =>
        simp only [q] at e
        cases e
      | some s =>
        cases s with
        | val d' =>
          simp only [q] at e
          cases e
          obtain ⟨w, e1, r⟩ := c.val q
          rw [h] at e1
          cases e1
          exact Rep.top c.bh r
        | own t o =>
          simp only [q] at e
          cases e
          obtain ⟨p, u, e1, b1, k1, r1, t1, oa1⟩ := c.own q
          rw [h] at e1
          cases e1
          exact r1.top k1
theorem At.getO {γ δ : Type} {R' : Rl γ δ} {Q : δ → Hp → Prop} {o : Opd} {g : D → M γ} (h : At K E R' θ σ B H ρ Q ((getO o >>= g) ρ)) : ∃ d, o.dat ρ = some d ∧ At K E R' θ σ B H ρ Q (g d ρ) := by
  cases e : o.dat ρ with
  | none =>
    have : Nc.getO o ρ = .no := by unfold Nc.getO; rw [e]
    rw [bnd_no this] at h
    exact h.elim
  | some d =>
    have : Nc.getO o ρ = .ok d ρ := by unfold Nc.getO; rw [e]
    rw [bnd_ok this] at h
    exact ⟨d, rfl, h⟩
end
section
variable {X : Cx} {E : WX} {a b : Expr} {pos : Pos} {fa fb : M Opd} {f : M D}
theorem pk_var (i : Nat) {x : Str} {pos : Pos} (h : PE X (.Name x pos) (tVar i)) : PE X (.Name x pos) (tK X.K E (varK i)) := by
  refine pe_weak h fun σ H Q ⟨θ, B, ρ, c, a⟩ => ?_
  unfold varK at a
  cases e : ρ[i]? with
  | none =>
    rw [e] at a
    exact a.elim
  | some s =>
    cases s with
    | none =>
      rw [e] at a
      exact a.elim
    | some s =>
      rw [e] at a
      cases s with
      | val d =>
        obtain ⟨v, e1, r⟩ := c.val e
        exact ⟨v, e1, a.here c e1⟩
      | own t o =>
        obtain ⟨p, u, e1, b1, k1, r1, t1, oa1⟩ := c.own e
        exact ⟨.ref p, e1, a.here c e1⟩
theorem pk_of {e : Expr} (h : PE X e (tD X.K E f)) : PE X e (tK X.K E (opdM f)) := by
  refine pe_weak h fun σ H Q ⟨θ, B, ρ, c, h⟩ => ⟨θ, B, ρ, c, h.seq.imp ?_⟩
  rintro d ρ' x B' H1 - - - ⟨d, B1, ρ1, st1, rx, h1⟩
  exact h1.here st1.cf rx
/-- what an operator's reading asks, the tops of both read in the heap -/
def OpK (K : PySem.W.Frag) (r : R2) (op : D → D → Option D) : Prop := ∀ (θ : Nat → Addr) (B H : Hp) (σ : L2.St) (ρ : Rho) (d e z : D) (x y : V) (Q : VK), Cf K θ B H σ ρ → RepT K B H d x → RepT K B H e y → op d e = some z →
  (∀ v B' H', Step K θ σ B H ρ σ B' H' ρ → Rep K B' z v → Q v H') → r x y H Q
def k2 (op : D → D → Option D) (fa fb : M Opd) : M D := fa >>= fun o => fb >>= fun u => getO o >>= fun d => getO u >>= fun e => M.opt (op d e)
theorem two_partsK {r : R2} {op : D → D → Option D} (hr : OpK X.K r op) : ∀ σ H Q, tD X.K E (k2 op fa fb) σ H Q → tOp r (tK X.K E fa) (tK X.K E fb) σ H Q := by
  rintro σ H Q ⟨θ, B, ρ, c, h⟩
  refine ⟨θ, B, ρ, c, h.seq.imp ?_⟩
  rintro d ρ' x B' H1 - - - ⟨o, B1, ρ1, st1, rx, h1⟩
  refine ⟨θ, B1, ρ1, st1.cf, h1.seq.imp ?_⟩
  rintro e ρ' y B' H2 - - - ⟨u, B2, ρ2, st2, ry, h2⟩
  obtain ⟨d, e1, h2⟩ := h2.getO
  obtain ⟨e, e2, h2⟩ := h2.getO
  obtain ⟨z, ez, k⟩ := h2.opt
  exact hr θ B2 H2 σ ρ2 d e z x y Q st2.cf ((RK.mono (H0' := H2) st2 rx).top st2.cf e1) (RK.top st2.cf ry e2) ez k
theorem pk_cmp {o : CmpOp} {r : R2} {op : D → D → Option D} (hr : OpK X.K r op) (ho : OpR X (compareOp o) r) (ha : PE X a (tK X.K E fa)) (hb : PE X b (tK X.K E fb)) (hm : behindInMarks o b = false) :
    PE X (.Compare a [o] [b] pos) (tD X.K E (k2 op fa fb)) := pe_weak (pe_cmpR ho ha hb hm) (two_partsK hr)
theorem pkt_cmp {o : CmpOp} {r : R2} {op : D → D → Option D} (hr : OpK X.K r op) (ho : OpR X (compareOp o) r) (ha : PE X a (tK X.K E fa)) (hb : PE X b (tK X.K E fb)) (hm : behindInMarks o b = false) :
    PT X (.Compare a [o] [b] pos) (tT X.K E (tst (k2 op fa fb))) := by
  refine pt_weak (pt_cmpR ho ha hb hm) fun σ H Q ⟨θ, B, ρ, c, h⟩ => ?_
  refine two_partsK hr σ H _ ⟨θ, B, ρ, c, h.seq.imp ?_⟩
  rintro d ρ' x B' H1 - - - ⟨d, B1, ρ1, st1, rx, h1⟩
  obtain ⟨z, ez, k⟩ := h1.opt
  cases d <;> simp only [asB, reduceCtorEq] at ez
  cases ez
  have rx' := rep_bl rx
  exact ⟨_, rx', k _ _ _ (Step.refl st1.cf) rfl⟩
end

/-! ### ==, in, with operands that are looked at -/
section
variable {K : PySem.W.Frag}
theorem eqS_scalT {B H : Hp} {d e : D} {x y : V} {b : Bool} (h : eqS d e = some b) (rx : RepT K B H d x) (ry : RepT K B H e y) : scal x y = true ∧ decide (x = y) = b := by
  cases d <;> cases e <;> simp only [eqS, reduceCtorEq] at h <;> exact eqS_scal (by simpa only [eqS] using h) rx ry
theorem opk_eq : OpK K (fun x y H Q => rEqD K x y H Q ∨ rEq x y H Q) eqD := by
  intro θ B H σ ρ d e z x y Q c rx ry ez k
  unfold eqD eqB at ez
  split at ez
  · rename_i b hb
    cases ez
    obtain ⟨h1, h2⟩ := eqS_scalT hb rx ry
    exact .inr ⟨h1, by rw [h2]; exact k _ _ _ (Step.refl c) (by simp only [Rep])⟩
  · split at ez
    · rename_i p q hp hq
      split at ez
      · rename_i hs
        rw [Bool.and_eq_true] at hs
        cases ez
        exact .inl ⟨p, q, rx.dp c.bh hp, ry.dp c.bh hq, hs.1, hs.2, k _ _ _ (Step.refl c) (by simp only [Rep])⟩
      · cases ez
    · cases ez
theorem opk_ne : OpK K (fun x y H Q => rNeD K x y H Q ∨ rNe x y H Q) neD := by
  intro θ B H σ ρ d e z x y Q c rx ry ez k
  unfold neD eqB at ez
  split at ez
  · rename_i b hb
    cases ez
    obtain ⟨h1, h2⟩ := eqS_scalT hb rx ry
    exact .inr ⟨h1, by rw [h2]; exact k _ _ _ (Step.refl c) (by simp only [Rep])⟩
  · split at ez
    · rename_i p q hp hq
      split at ez
      · rename_i hs
        rw [Bool.and_eq_true] at hs
        cases ez
        exact .inl ⟨p, q, rx.dp c.bh hp, ry.dp c.bh hq, hs.1, hs.2, k _ _ _ (Step.refl c) (by simp only [Rep])⟩
      · cases ez
    · cases ez
def D.flat : D → Option V
  | .non => some .non
  | .bl b => some (.bl b)
  | .int i => some (.int i)
  | .str z => some (.str z)
  | _ => none
def D.flats : List D → Option (List V)
  | [] => some []
  | d :: ds => match d.flat, D.flats ds with
    | some x, some xs => some (x :: xs)
    | _, _ => none
theorem flat_rep {B : Hp} {d : D} {v w : V} (e : d.flat = some w) (h : Rep K B d v) : v = w ∧ flatV w = true := by
  cases d <;> simp only [D.flat, reduceCtorEq] at e <;> simp only [Rep] at h <;> cases e <;> subst h <;> exact ⟨rfl, rfl⟩
theorem flat_repT {B H : Hp} {d : D} {v w : V} (e : d.flat = some w) (h : RepT K B H d v) : v = w ∧ flatV w = true := by
  cases d <;> simp only [D.flat, reduceCtorEq] at e <;> exact flat_rep (by simpa only [D.flat] using e) h
theorem flats_reps {B : Hp} : ∀ {ds : List D} {vs ws : List V}, D.flats ds = some ws → Reps K B ds vs → vs = ws ∧ ws.all flatV = true
  | [], vs, ws, e, h => by
    simp only [D.flats, Reps] at e h
    cases e
    exact ⟨h, rfl⟩
  | d :: ds, vs, ws, e, h => by
    simp only [D.flats, Reps] at e h
    obtain ⟨x, xs, rfl, h2, h3⟩ := h
    split at e
    · rename_i y ys e1 e2
      cases e
      obtain ⟨rfl, f1⟩ := flat_rep e1 h2
      obtain ⟨rfl, f2⟩ := flats_reps e2 h3
      exact ⟨rfl, by rw [List.all_cons, f1, f2]; rfl⟩
    · cases e
def seqOf : D → Option (List D)
  | .lst ds => some ds
  | .tup ds => some ds
  | _ => none
def inS (d : D) : D → Option Bool
  | .str z => match d with
    | .str w => some (!(Builtin.Str.occurrences z w 0 z.length 1).isEmpty)
    | _ => none
  | .lst ds => match d.flat, D.flats ds with
    | some x, some xs => some (inV x xs)
    | _, _ => match d.py, D.pys ds with
      | some p, some ps => if SeqAt.shaped p && SeqAt.shaped (.list ps) then some (ps.any fun z => PyData.eqv z p) else none
      | _, _ => none
  | .tup ds => match d.flat, D.flats ds with
    | some x, some xs => some (inV x xs)
    | _, _ => none
  | _ => none
def inD (d e : D) : Option D := (inS d e).map .bl
def notInD (d e : D) : Option D := (inS d e).map fun b => .bl (!b)
theorem opk_in : OpK K (fun x y H Q => rIn K false x y H Q ∨ rInD K x y H Q ∨ (∃ i j, x = .str i ∧ y = .str j ∧ Q (.bl (!(Builtin.Str.occurrences j i 0 j.length 1).isEmpty)) H)) inD := by
  intro θ B H σ ρ d e z x y Q c rx ry ez k
  unfold inD at ez
  cases eb : inS d e with
  | none =>
    rw [eb] at ez
    cases ez
  | some b =>
    rw [eb] at ez
    cases ez
    have k' := k _ _ _ (Step.refl c) (show Rep K B (.bl b) (.bl b) by simp only [Rep])
    cases e with
    | str z =>
      cases d <;> simp only [inS, reduceCtorEq] at eb
      cases eb
      exact .inr (.inr ⟨_, _, rept_str rx, rept_str ry, k'⟩)
    | lst ds =>
      obtain ⟨p, xs, rfl, h1, h2⟩ := ry
      simp only [inS] at eb
      split at eb
      · rename_i w ws e1 e2
        cases eb
        obtain ⟨rfl, f1⟩ := flat_repT e1 rx
        obtain ⟨rfl, f2⟩ := flats_reps e2 h2
        exact .inl ⟨p, _, rfl, .inl (SqL.of h1), f1, f2, k'⟩
      · split at eb
        · rename_i q qs e1 e2
          split at eb
          · rename_i hs
            rw [Bool.and_eq_true] at hs
            cases eb
            exact .inr (.inl ⟨q, qs, rx.dp c.bh e1, .lst (SqL.of h1) (Reps.dp c.bh e2 h2), hs.1, hs.2, k'⟩)
          · cases eb
        · cases eb
    | tup ds =>
      obtain ⟨p, xs, rfl, h1, h2⟩ := ry
      simp only [inS] at eb
      split at eb
      · rename_i w ws e1 e2
        cases eb
        obtain ⟨rfl, f1⟩ := flat_repT e1 rx
        obtain ⟨rfl, f2⟩ := flats_reps e2 h2
        exact .inl ⟨p, _, rfl, .inr h1, f1, f2, k'⟩
      · cases eb
    | _ => simp only [inS, reduceCtorEq] at eb
theorem opk_notIn : OpK K (fun x y H Q => rIn K true x y H Q ∨ rNotInD K x y H Q ∨ (∃ i j, x = .str i ∧ y = .str j ∧ Q (.bl (!(!(Builtin.Str.occurrences j i 0 j.length 1).isEmpty))) H)) notInD := by
  intro θ B H σ ρ d e z x y Q c rx ry ez k
  unfold notInD at ez
  cases eb : inS d e with
  | none =>
    rw [eb] at ez
    cases ez
  | some b =>
    rw [eb] at ez
    cases ez
    have k' := k _ _ _ (Step.refl c) (show Rep K B (.bl !b) (.bl !b) by simp only [Rep])
    cases e with
    | str z =>
      cases d <;> simp only [inS, reduceCtorEq] at eb
      cases eb
      exact .inr (.inr ⟨_, _, rept_str rx, rept_str ry, k'⟩)
    | lst ds =>
      obtain ⟨p, xs, rfl, h1, h2⟩ := ry
      simp only [inS] at eb
      split at eb
      · rename_i w ws e1 e2
        cases eb
        obtain ⟨rfl, f1⟩ := flat_repT e1 rx
        obtain ⟨rfl, f2⟩ := flats_reps e2 h2
        exact .inl ⟨p, _, rfl, .inl (SqL.of h1), f1, f2, k'⟩
      · split at eb
        · rename_i q qs e1 e2
          split at eb
          · rename_i hs
            rw [Bool.and_eq_true] at hs
            cases eb
            exact .inr (.inl ⟨q, qs, rx.dp c.bh e1, .lst (SqL.of h1) (Reps.dp c.bh e2 h2), hs.1, hs.2, k'⟩)
          · cases eb
        · cases eb
    | tup ds =>
      obtain ⟨p, xs, rfl, h1, h2⟩ := ry
      simp only [inS] at eb
      split at eb
      · rename_i w ws e1 e2
        cases eb
        obtain ⟨rfl, f1⟩ := flat_repT e1 rx
        obtain ⟨rfl, f2⟩ := flats_reps e2 h2
        exact .inl ⟨p, _, rfl, .inr h1, f1, f2, k'⟩
      · cases eb
    | _ => simp only [inS, reduceCtorEq] at eb
end
section
variable {X : Cx} {E : WX} {a b : Expr} {pos : Pos} {fa fb : M Opd}
theorem pk_eq (hu : X.A.units + 64 < cLine) (ha : PE X a (tK X.K E fa)) (hb : PE X b (tK X.K E fb)) : PE X (.Compare a [.Eq] [b] pos) (tD X.K E (k2 eqD fa fb)) := pk_cmp opk_eq ((op_eqD hu).or op_eq) ha hb (nomark _)
theorem pk_ne (hu : X.A.units + 64 < cLine) (ha : PE X a (tK X.K E fa)) (hb : PE X b (tK X.K E fb)) : PE X (.Compare a [.NotEq] [b] pos) (tD X.K E (k2 neD fa fb)) := pk_cmp opk_ne ((op_neD hu).or op_ne) ha hb (nomark _)
theorem pkt_eq (hu : X.A.units + 64 < cLine) (ha : PE X a (tK X.K E fa)) (hb : PE X b (tK X.K E fb)) : PT X (.Compare a [.Eq] [b] pos) (tT X.K E (tst (k2 eqD fa fb))) := pkt_cmp opk_eq ((op_eqD hu).or op_eq) ha hb (nomark _)
theorem pkt_ne (hu : X.A.units + 64 < cLine) (ha : PE X a (tK X.K E fa)) (hb : PE X b (tK X.K E fb)) : PT X (.Compare a [.NotEq] [b] pos) (tT X.K E (tst (k2 neD fa fb))) := pkt_cmp opk_ne ((op_neD hu).or op_ne) ha hb (nomark _)
theorem pk_in (hu : X.A.units + 65 < cLine) (ha : PE X a (tK X.K E fa)) (hb : PE X b (tK X.K E fb)) (hm : behindInMarks .In b = false := by rfl) : PE X (.Compare a [.In] [b] pos) (tD X.K E (k2 inD fa fb)) := pk_cmp opk_in (op_in_seq.or ((op_inD hu).or op_in_str)) ha hb hm
theorem pk_notIn (hu : X.A.units + 65 < cLine) (ha : PE X a (tK X.K E fa)) (hb : PE X b (tK X.K E fb)) (hm : behindInMarks .NotIn b = false := by rfl) : PE X (.Compare a [.NotIn] [b] pos) (tD X.K E (k2 notInD fa fb)) := pk_cmp opk_notIn (op_notIn_seq.or ((op_notInD hu).or op_notIn_str)) ha hb hm
theorem pkt_in (hu : X.A.units + 65 < cLine) (ha : PE X a (tK X.K E fa)) (hb : PE X b (tK X.K E fb)) (hm : behindInMarks .In b = false := by rfl) : PT X (.Compare a [.In] [b] pos) (tT X.K E (tst (k2 inD fa fb))) := pkt_cmp opk_in (op_in_seq.or ((op_inD hu).or op_in_str)) ha hb hm
theorem pkt_notIn (hu : X.A.units + 65 < cLine) (ha : PE X a (tK X.K E fa)) (hb : PE X b (tK X.K E fb)) (hm : behindInMarks .NotIn b = false := by rfl) : PT X (.Compare a [.NotIn] [b] pos) (tT X.K E (tst (k2 notInD fa fb))) := pkt_cmp opk_notIn (op_notIn_seq.or ((op_notInD hu).or op_notIn_str)) ha hb hm
end

/-! ### items -/
def ixD : D → D → Option D
  | .lst ds, .int i => atI ds i
  | .tup ds, .int i => atI ds i
  | .str z, .int i => if z.length ≤ sizeLine then (atI z.cps.toList i).map fun c => .str ⟨#[c]⟩ else none
  | _, _ => none
theorem atI_rep {K : PySem.W.Frag} {B : Hp} {ds : List D} {vs : List V} {i : Int} {d : D} (h : Reps K B ds vs) (e : atI ds i = some d) : ∃ v, atI vs i = some v ∧ Rep K B d v := by
  unfold atI at e ⊢
  rw [← h.length]
  cases q : ixN ds.length i with
  | none =>
    rw [q] at e
    cases e
  | some j =>
    rw [q] at e
    obtain ⟨v, e1, r⟩ := h.get e
    exact ⟨v, e1, r⟩
section
variable {X : Cx} {E : WX} {a b : Expr} {pos : Pos} {fa fb : M Opd}
theorem opk_ix {K : PySem.W.Frag} : OpK K (rIx K) ixD := by
  intro θ B H σ ρ d e z x y Q c rx ry ez k
  cases d <;> cases e <;> simp only [ixD, reduceCtorEq] at ez
  · have ry' := rept_int ry
    have rx' := rept_str rx
    subst rx' ry'
    split at ez
    · rename_i hz
      obtain ⟨cc, e1, e2⟩ := Option.map_eq_some_iff.mp ez
      subst e2
      exact .inr (.inr ⟨_, _, cc, rfl, rfl, hz, e1, k _ _ _ (Step.refl c) (by simp only [Rep])⟩)
    · cases ez
  · have ry' := rept_int ry
    subst ry'
    obtain ⟨p, xs, rfl, h1, h2⟩ := rx
    obtain ⟨v, e1, r⟩ := atI_rep h2 ez
    exact .inr (.inl ⟨p, xs, _, v, rfl, rfl, h1, e1, k _ _ _ (Step.refl c) r⟩)
  · have ry' := rept_int ry
    subst ry'
    obtain ⟨p, xs, rfl, h1, h2⟩ := rx
    obtain ⟨v, e1, r⟩ := atI_rep h2 ez
    exact .inl ⟨p, xs, _, v, rfl, rfl, SqL.of h1, e1, k _ _ _ (Step.refl c) r⟩
theorem pk_ix (ha : PE X a (tK X.K E fa)) (hb : PE X b (tK X.K E fb)) (hs : PlainIx b) : PE X (.Subscript a b pos) (tD X.K E (k2 ixD fa fb)) := pe_weak (pe_ix ix_seq ha hb hs) (two_partsK opk_ix)
end

/-! ### slices -/
abbrev tO (K : PySem.W.Frag) (E : WX) (f : M (Option Int)) : TO := tR K E (RE (Option Int)) f
section
variable {X : Cx} {E : WX} {a : Expr} {pos p2 : Pos} {fa : M Opd} {f : M D} {fl fh : M (Option Int)} {lo hi : Option Expr}
def asI : D → Option Int
  | .int i => some i
  | _ => none
def partM (f : M D) : M (Option Int) := f >>= fun d => M.opt (asI d) >>= fun i => M.ret (some i)
theorem po_noneD : PO X none (tO X.K E (M.ret none)) := by
  have h := po_none (X := X)
  exact ⟨fun pins s σ H Q I q => h.run pins s σ H Q I (by obtain ⟨θ, B, ρ, c, a⟩ := q; exact a.here c rfl)⟩
theorem po_someD {e : Expr} (he : PE X e (tD X.K E f)) : PO X (some e) (tO X.K E (partM f)) := by
  have h := po_some he
  refine ⟨fun pins s σ H Q I q => h.run pins s σ H Q I ?_⟩
  obtain ⟨θ, B, ρ, c, h⟩ := q
  refine ⟨θ, B, ρ, c, h.seq.imp ?_⟩
  rintro d ρ' x B' H1 - - - ⟨d, B1, ρ1, st1, rx, h1⟩
  obtain ⟨i, ei, h1⟩ := h1.optSeq
  cases d <;> simp only [asI, reduceCtorEq] at ei
  cases ei
  exact ⟨_, rep_int rx, h1.here st1.cf rfl⟩
def cutL {α : Type} (xs : List α) (lo hi : Option Int) : List α := (xs.drop (HT.sIx xs.length 0 lo)).take (HT.sIx xs.length xs.length hi - HT.sIx xs.length 0 lo)
theorem cutL_V (xs : List V) (lo hi : Option Int) : cutV xs lo hi = cutL xs lo hi := rfl
theorem cut_reps {K : PySem.W.Frag} {B : Hp} {ds : List D} {vs : List V} (h : Reps K B ds vs) (lo hi : Option Int) : Reps K B (cutL ds lo hi) (cutV vs lo hi) := by
  rw [cutL_V]
  unfold cutL
  rw [h.length]
  exact (h.drop _).take _
def slD (lo hi : Option Int) : D → Option D
  | .lst ds => some (.lst (cutL ds lo hi))
  | .tup ds => some (.tup (cutL ds lo hi))
  | .str z => if z.length ≤ sizeLine then some (.str (cutS z lo hi)) else none
  | _ => none
def slM (fa : M Opd) (fl fh : M (Option Int)) : M D := fa >>= fun o => fl >>= fun l => fh >>= fun u => getO o >>= fun d => M.opt (slD l u d)
theorem pk_slice (ha : PE X a (tK X.K E fa)) (hl : PO X lo (tO X.K E fl)) (hh : PO X hi (tO X.K E fh)) : PE X (.Subscript a (.Slice lo hi none p2) pos) (tD X.K E (slM fa fl fh)) := by
  refine pe_weak (pe_slice (sl_list.or (sl_tupA.or sl_str)) ha hl hh) ?_
  rintro σ H Q ⟨θ, B, ρ, c, h⟩
  refine ⟨θ, B, ρ, c, h.seq.imp ?_⟩
  rintro d ρ' x B' H1 - - - ⟨o, B1, ρ1, st1, rx, h1⟩
  refine ⟨θ, B1, ρ1, st1.cf, h1.seq.imp ?_⟩
  rintro e ρ' y B' H2 - - - ⟨l, B2, ρ2, st2, ry, h2⟩
  have ry : l = y := ry
  subst ry
  refine ⟨θ, B2, ρ2, st2.cf, h2.seq.imp ?_⟩
  rintro e ρ' y B' H3 - - - ⟨u, B3, ρ3, st3, ry, h3⟩
  have ry : u = y := ry
  subst ry
  obtain ⟨d, e1, h3⟩ := h3.getO
  obtain ⟨z, ez, k⟩ := h3.opt
  have rx3 : RK X.K H3 σ B3 H3 ρ3 o x := RK.mono st3 (RK.mono (H0' := H3) st2 rx)
  have top := rx3.top st3.cf e1
  cases d <;> simp only [slD, reduceCtorEq] at ez
  · have e := rept_str top
    subst e
    split at ez
    · rename_i hz
      cases ez
      exact .inr (.inr ⟨_, rfl, hz, k _ _ _ (Step.refl st3.cf) (by simp only [RD, Rep])⟩)
    · cases ez
  · obtain ⟨p, xs, rfl, q1, q2⟩ := top
    cases ez
    refine .inr (.inl ⟨p, xs, rfl, q1, fun hw => ?_, fun _ l hl => k _ _ _ (st3.cf.laid hl _) ?_⟩)
    · have hwd : cutV xs l u = xs := by
        unfold cutV
        rw [hw.1, hw.2, List.drop_zero, Nat.sub_zero, List.take_length]
      rename_i ds
      have rr := cut_reps q2 l u
      rw [hwd] at rr
      cases o with
      | d d0 =>
        cases e1
        have r0 : Rep X.K B3 (.tup ds) (.ref p) := rx3
        simp only [Rep] at r0
        obtain ⟨p', xs', e', s', r'⟩ := r0
        cases e'
        have el : cutL ds l u = ds := by
          unfold cutL
          rw [q2.length, hw.1, hw.2, List.drop_zero, Nat.sub_zero, ← q2.length, List.take_length]
        refine k _ _ _ (Step.refl st3.cf) ?_
        rw [el]
        show Rep X.K B3 (.tup ds) (.ref p)
        simp only [Rep]
        exact ⟨p, xs', rfl, s', r'⟩
      | s i =>
        have el : cutL ds l u = ds := by
          unfold cutL
          rw [q2.length, hw.1, hw.2, List.drop_zero, Nat.sub_zero, ← q2.length, List.take_length]
        have hi : σ[i]? = some (some (.ref p)) := rx3
        unfold Opd.dat at e1
        cases q : ρ3[i]? with
        | none =>
          simp only [q] at e1
          cases e1
        | some s =>
          cases s with
          | none =>
            simp only [q] at e1
            cases e1
          | some s =>
            cases s with
            | val d' =>
              simp only [q] at e1
              cases e1
              obtain ⟨w, g1, r⟩ := st3.cf.val q
              rw [hi] at g1
              cases g1
              refine k _ _ _ (Step.refl st3.cf) ?_
              rw [el]
              exact r
            | own t o =>
              simp only [q] at e1
              cases o <;> simp only [O.frozen, reduceCtorEq, Option.some.injEq] at e1
    · show Rep X.K _ (.tup _) (.ref l)
      simp only [Rep]
      exact ⟨l, _, rfl, .inl (.inl upd_same), (cut_reps q2 _ _).mono (st3.cf.laid hl _).bb⟩
  · obtain ⟨p, xs, rfl, q1, q2⟩ := top
    cases ez
    refine .inl ⟨p, xs, rfl, SqL.of q1, fun l hl => k _ _ _ (st3.cf.laid hl _) ?_⟩
    show Rep X.K _ (.lst _) (.ref l)
    simp only [Rep]
    exact ⟨l, _, rfl, upd_same, (cut_reps q2 _ _).mono (st3.cf.laid hl _).bb⟩
end
end Nc

/-! New objects, displays, statements. -/
namespace Nc
open PySem PySem.Spec PyProof.Rows L2

/-! ### new objects -/
def RN (K : PySem.W.Frag) : Rl O V := fun H0 σ B H ρ o v => ∃ p u, v = .ref p ∧ H0 p = none ∧ B p = none ∧ H p = some u ∧ RepO K B o u ∧ ¬ OwnA σ ρ p
instance (K : PySem.W.Frag) : RlM (RN K) := ⟨fun {H H1 σ B' H' ρ' a b} k h => by
  obtain ⟨p, u, h1, h2, h3⟩ := h
  exact ⟨p, u, h1, Classical.byContradiction fun y => k p y h2, h3⟩⟩
abbrev tN (K : PySem.W.Frag) (E : WX) (f : M O) : TE := tR K E (RN K) f
section
variable {K : PySem.W.Frag} {E : WX} {θ : Nat → Addr} {σ σ' : L2.St} {B B1 H H1 : Hp} {ρ ρ1 : Rho}
theorem Step.wasNone (st : Step K θ σ B H ρ σ' B1 H1 ρ1) {p : Addr} (h : H1 p = .none) : H p = .none := Classical.byContradiction fun y => st.there p y h
/-- a part first, the rest seen from the start -/
theorem At.seqS {α β γ δ : Type} {R : Rl α β} {R' : Rl γ δ} {f : M α} {g : α → M γ} {Q : δ → Hp → Prop} (h : At K E R' θ σ B H ρ Q ((f >>= g) ρ)) :
    At K E R θ σ B H ρ (fun x H1 => ∃ a B1 ρ1, Step K θ σ B H ρ σ B1 H1 ρ1 ∧ R H σ B1 H1 ρ1 a x ∧ At K E R' θ σ B H ρ Q (g a ρ1)) (f ρ) := by
  cases e : f ρ with
  | no =>
    rw [bnd_no e] at h
    exact h
  | ex x ρ' =>
    rw [bnd_ex e] at h
    exact h
  | ok a ρ' =>
    rw [bnd_ok e] at h
    exact fun x B1 H1 st r => ⟨a, B1, ρ', st, r, h⟩
/-- what was new is frozen -/
theorem Step.seal (st : Step K θ σ B H ρ σ' B1 H1 ρ1) {p : Addr} {u : HO} (hp : H p = .none) (hB : B1 p = .none) (hH : H1 p = some u) (no : ¬ OwnA σ' ρ1 p) : Step K θ σ B H ρ σ' (upd B1 p u) H1 ρ1 := by
  have c := st.cf
  have sB : Same B1 (upd B1 p u) := fun b w q => by
    rw [upd_ne (ne_of_none q hB)]
    exact q
  refine ⟨⟨fun b w q => ?_, c.len, fun j s q => ?_, c.sep⟩, st.bb.trans sB, st.keep, st.there, fun b q n => ?_, st.own⟩
  · by_cases hb : b = p
    · subst hb
      rw [upd_same] at q
      rw [hH, q]
    · rw [upd_ne hb] at q
      exact c.bh b w q
  · have z := c.at_ j s q
    cases s with
    | none => trivial
    | some s =>
      cases s with
      | val d =>
        obtain ⟨x, h1, h2⟩ := z
        exact ⟨x, h1, h2.mono sB⟩
      | own t' o' =>
        obtain ⟨p', u', e1, b1, k1, r1, t1, oa1⟩ := c.own q
        have np : p' ≠ p := fun y => by
          subst y
          exact no ⟨j, oa1⟩
        exact ⟨p', u', by rw [e1]; rfl, by rw [upd_ne np]; exact b1, k1, r1.mono sB, t1⟩
  · by_cases hb : b = p
    · subst hb
      exact .inl hp
    · rw [upd_ne hb] at q
      exact st.new b q n
theorem Cf.unfrozen (c : Cf K θ B H σ ρ) {p : Addr} (h : H p = none) : B p = none := by
  cases e : B p with
  | none => rfl
  | some w =>
    have := c.bh p w e
    rw [h] at this
    cases this
theorem own_not_new (c : Cf K θ B H σ ρ) {p : Addr} (h : H p = none) : ¬ OwnA σ ρ p := fun z => (z.not_frozen c).2 h
end
def frzM (f : M O) : M D := f >>= fun o => M.ret o.frozen
section
variable {X : Cx} {E : WX} {pos : Pos} {es : List Expr} {fs : M (List D)} {f : M O}
theorem pd_new {e : Expr} (h : PE X e (tN X.K E f)) : PE X e (tD X.K E (frzM f)) := by
  refine pe_weak h fun σ H Q ⟨θ, B, ρ, c, h⟩ => ⟨θ, B, ρ, c, h.seqS.imp ?_⟩
  rintro d ρ' x B' H1 - - - ⟨o, B1, ρ1, st1, ⟨p, u, rfl, n0, nB, hH, r, no⟩, h1⟩
  have s2 := st1.seal n0 nB hH no
  refine h1 _ _ _ s2 ?_
  exact (r.mono (fun b w q => by rw [upd_ne (ne_of_none q nB)]; exact q)).freeze upd_same
/-! args -/
theorem pl_nil : PA X [] (tL X.K E (M.ret [])) := pa_weak pa_nil fun σ H Q ⟨θ, B, ρ, c, a⟩ => a.here c Reps.nil
def consM (f : M D) (fs : M (List D)) : M (List D) := f >>= fun d => fs >>= fun ds => M.ret (d :: ds)
theorem pl_cons {e : Expr} {f : M D} (h : PE X e (tD X.K E f)) (t : PA X es (tL X.K E fs)) (hs : starEach (e :: es) X.env = (false, eval e X.env) :: starEach es X.env := by rfl) : PA X (e :: es) (tL X.K E (consM f fs)) := by
  refine pa_weak (pa_cons h t hs) fun σ H Q ⟨θ, B, ρ, c, h⟩ => ⟨θ, B, ρ, c, h.seq.imp ?_⟩
  rintro d ρ' x B' H1 - - - ⟨d, B1, ρ1, st1, rx, h1⟩
  refine ⟨θ, B1, ρ1, st1.cf, h1.seq.imp ?_⟩
  rintro e ρ' y B' H2 - - - ⟨ds, B2, ρ2, st2, ry, h2⟩
  exact h2.here st2.cf (Reps.cons (Rep.mono st2.bb rx) ry)
def sizedL (ds : List D) : Option O := if ds.length ≤ sizeLine then some (.lst ds) else none
def lstM (fs : M (List D)) : M O := fs >>= fun ds => M.opt (sizedL ds)
theorem sizedL_some {ds : List D} {o : O} (h : sizedL ds = some o) : ds.length ≤ sizeLine ∧ o = .lst ds := by
  unfold sizedL at h
  split at h
  · rename_i hz
    cases h
    exact ⟨hz, rfl⟩
  · cases h
/-- a new list at p -/
theorem new_lst {K : PySem.W.Frag} {θ : Nat → Addr} {σ : L2.St} {B H H0 : Hp} {ρ : Rho} (c : Cf K θ B H σ ρ) (up : ∀ p, H0 p ≠ none → H p ≠ none) {p : Addr} (hp : H p = none) {ds : List D} {xs : List V} (r : Reps K B ds xs) : RN K H0 σ B (upd H p (.lst xs)) ρ (.lst ds) (.ref p) :=
  ⟨p, .lst xs, rfl, Classical.byContradiction fun y => up p y hp, c.unfrozen hp, upd_same, ⟨xs, rfl, r⟩, own_not_new c hp⟩
theorem pn_lst (t : PA X es (tL X.K E fs)) : PE X (.List es pos) (tN X.K E (lstM fs)) := by
  refine pe_weak (pe_lst t) fun σ H Q ⟨θ, B, ρ, c, h⟩ => ⟨θ, B, ρ, c, h.seq.imp ?_⟩
  rintro d ρ' xs B' H1 - - - ⟨ds, B1, ρ1, st1, rx, h1⟩
  obtain ⟨o, eo, k⟩ := h1.opt
  obtain ⟨hz, rfl⟩ := sizedL_some eo
  have rx : Reps X.K B1 ds xs := rx
  exact ⟨by rw [← rx.length]; exact hz, fun p hp => k _ _ _ (st1.cf.free hp _) (new_lst st1.cf (fun _ z => z) hp rx)⟩
def sizedT (ds : List D) : Option D := if ds.length ≤ sizeLine then some (.tup ds) else none
def tupM (fs : M (List D)) : M D := fs >>= fun ds => M.opt (sizedT ds)
theorem pd_tup {k} (t : PA X es (tL X.K E fs)) : PE X (.Tuple es k pos) (tD X.K E (tupM fs)) := by
  refine pe_weak (pe_tup t) fun σ H Q ⟨θ, B, ρ, c, h⟩ => ⟨θ, B, ρ, c, h.seq.imp ?_⟩
  rintro d ρ' xs B' H1 - - - ⟨ds, B1, ρ1, st1, rx, h1⟩
  obtain ⟨o, eo, k⟩ := h1.opt
  have rx : Reps X.K B1 ds xs := rx
  unfold sizedT at eo
  split at eo
  · rename_i hz
    cases eo
    refine ⟨by rw [← rx.length]; exact hz, fun p hp => k _ _ _ (st1.cf.laid hp _) ?_⟩
    show Rep X.K _ (.tup ds) (.ref p)
    simp only [Rep]
    exact ⟨p, xs, rfl, .inl (.inl upd_same), rx.mono (st1.cf.laid hp (.tup xs)).bb⟩
  · cases eo
end

/-! ### built-ins of one argument -/
def Call1 (K : PySem.W.Frag) (r : List V → Hp → VK → Prop) (op : D → Option D) : Prop := ∀ (θ : Nat → Addr) (B H : Hp) (σ : L2.St) (ρ : Rho) (d z : D) (x : V) (Q : VK), Cf K θ B H σ ρ → RepT K B H d x → op d = some z →
  (∀ v B' H', Step K θ σ B H ρ σ B' H' ρ → Rep K B' z v → Q v H') → r [x] H Q
def Call1N (K : PySem.W.Frag) (r : List V → Hp → VK → Prop) (op : D → Option O) : Prop := ∀ (θ : Nat → Addr) (B H : Hp) (σ : L2.St) (ρ : Rho) (d : D) (z : O) (x : V) (Q : VK), Cf K θ B H σ ρ → RepT K B H d x → op d = some z →
  (∀ v B' H', Step K θ σ B H ρ σ B' H' ρ → RN K H σ B' H' ρ z v → Q v H') → r [x] H Q
def k1 {α : Type} (op : D → Option α) (f : M Opd) : M α := f >>= fun o => getO o >>= fun d => M.opt (op d)
section
variable {X : Cx} {E : WX} {pos p : Pos} {a : Expr} {fa : M Opd} {r : List V → Hp → VK → Prop} {x : Str} {id : String}
theorem one_part {op : D → Option D} (hr : Call1 X.K r op) : ∀ σ H Q, tD X.K E (k1 op fa) σ H Q → tCB r (tCons (tK X.K E fa) tNil) σ H Q := by
  rintro σ H Q ⟨θ, B, ρ, c, h⟩
  refine ⟨θ, B, ρ, c, h.seq.imp ?_⟩
  rintro d ρ' x B' H1 - - - ⟨o, B1, ρ1, st1, rx, h1⟩
  obtain ⟨d, e1, h1⟩ := h1.getO
  obtain ⟨z, ez, k⟩ := h1.opt
  exact hr θ B1 H1 σ ρ1 d z x Q st1.cf (RK.top st1.cf rx e1) ez k
theorem one_partN {op : D → Option O} (hr : Call1N X.K r op) : ∀ σ H Q, tN X.K E (k1 op fa) σ H Q → tCB r (tCons (tK X.K E fa) tNil) σ H Q := by
  rintro σ H Q ⟨θ, B, ρ, c, h⟩
  refine ⟨θ, B, ρ, c, h.seq.imp ?_⟩
  rintro d ρ' x B' H1 - - - ⟨o, B1, ρ1, st1, rx, h1⟩
  obtain ⟨d, e1, h1⟩ := h1.getO
  obtain ⟨z, ez, k⟩ := h1.opt
  exact hr θ B1 H1 σ ρ1 d z x Q st1.cf (RK.top st1.cf rx e1) ez k
theorem pd_b1 {op : D → Option D} (hr : Call1 X.K r op) (hc : CallR X (.builtin id) r) (hv : bootBuiltins x = some (.builtin id)) (hg : Gl X x) (hm : X.mg x = none) (ha : PE X a (tK X.K E fa)) (hn : x ≠ "__name__" := by decide) (hdb : (x == ("__debug__" : Str)) = false := by decide) (hs : starEach [a] X.env = (false, eval a X.env) :: starEach [] X.env := by rfl) (hp : (backTo pos (starEach [] X.env)).any (·.1) = false := by rfl) :
    PE X (.Call (.Name x p) [a] [] pos) (tD X.K E (k1 op fa)) := pe_weak (pe_callB hc hg hm hv (pa_cons ha pa_nil hs) hn hdb hs hp) (one_part hr)
theorem pd_t1 {op : D → Option D} (hr : Call1 X.K r op) (hc : CallR X (.type id) r) (hv : bootBuiltins x = some (.type id)) (hg : Gl X x) (hm : X.mg x = none) (ha : PE X a (tK X.K E fa)) (hn : x ≠ "__name__" := by decide) (hdb : (x == ("__debug__" : Str)) = false := by decide) (hs : starEach [a] X.env = (false, eval a X.env) :: starEach [] X.env := by rfl) (hp : (backTo pos (starEach [] X.env)).any (·.1) = false := by rfl) :
    PE X (.Call (.Name x p) [a] [] pos) (tD X.K E (k1 op fa)) := pe_weak (pe_callTy hc hg hm hv (pa_cons ha pa_nil hs) hn hdb hs hp) (one_part hr)
theorem pn_b1 {op : D → Option O} (hr : Call1N X.K r op) (hc : CallR X (.builtin id) r) (hv : bootBuiltins x = some (.builtin id)) (hg : Gl X x) (hm : X.mg x = none) (ha : PE X a (tK X.K E fa)) (hn : x ≠ "__name__" := by decide) (hdb : (x == ("__debug__" : Str)) = false := by decide) (hs : starEach [a] X.env = (false, eval a X.env) :: starEach [] X.env := by rfl) (hp : (backTo pos (starEach [] X.env)).any (·.1) = false := by rfl) :
    PE X (.Call (.Name x p) [a] [] pos) (tN X.K E (k1 op fa)) := pe_weak (pe_callB hc hg hm hv (pa_cons ha pa_nil hs) hn hdb hs hp) (one_partN hr)
theorem pn_t1 {op : D → Option O} (hr : Call1N X.K r op) (hc : CallR X (.type id) r) (hv : bootBuiltins x = some (.type id)) (hg : Gl X x) (hm : X.mg x = none) (ha : PE X a (tK X.K E fa)) (hn : x ≠ "__name__" := by decide) (hdb : (x == ("__debug__" : Str)) = false := by decide) (hs : starEach [a] X.env = (false, eval a X.env) :: starEach [] X.env := by rfl) (hp : (backTo pos (starEach [] X.env)).any (·.1) = false := by rfl) :
    PE X (.Call (.Name x p) [a] [] pos) (tN X.K E (k1 op fa)) := pe_weak (pe_callTy hc hg hm hv (pa_cons ha pa_nil hs) hn hdb hs hp) (one_partN hr)
end
section
variable {K : PySem.W.Frag}
def lenD : D → Option D
  | .lst ds => some (.int ds.length)
  | .tup ds => some (.int ds.length)
  | .str z => if z.length ≤ sizeLine then some (.int z.length) else none
  | _ => none
theorem c1_len : Call1 K (fun xs H Q => (∃ p ys, xs = [.ref p] ∧ (SqL K H p ys ∨ SqT K H p ys) ∧ Q (.int ys.length) H) ∨ ∃ z, xs = [.str z] ∧ z.length ≤ sizeLine ∧ Q (.int z.length) H) lenD := by
  intro θ B H σ ρ d z x Q c rx ez k
  cases d <;> simp only [lenD, reduceCtorEq] at ez
  · have e := rept_str rx
    subst e
    split at ez
    · rename_i hz
      cases ez
      exact .inr ⟨_, rfl, hz, k _ _ _ (Step.refl c) (by simp only [Rep])⟩
    · cases ez
  · obtain ⟨p, xs, rfl, h1, h2⟩ := rx
    cases ez
    exact .inl ⟨p, xs, rfl, .inr h1, k _ _ _ (Step.refl c) (by rw [h2.length]; simp only [Rep])⟩
  · obtain ⟨p, xs, rfl, h1, h2⟩ := rx
    cases ez
    exact .inl ⟨p, xs, rfl, .inl (SqL.of h1), k _ _ _ (Step.refl c) (by rw [h2.length]; simp only [Rep])⟩
def intD : D → Option D
  | .int i => some (.int i)
  | .bl b => some (.int (if b then 1 else 0))
  | _ => none
theorem c1_int : Call1 K (fun xs H Q => (∃ i, xs = [.int i] ∧ Q (.int i) H) ∨ ∃ k, xs = [.bl k] ∧ Q (.int (if k then 1 else 0)) H) intD := by
  intro θ B H σ ρ d z x Q c rx ez k
  cases d <;> simp only [intD, reduceCtorEq] at ez
  · have e := rept_bl rx
    subst e
    cases ez
    exact .inr ⟨_, rfl, k _ _ _ (Step.refl c) (by simp only [Rep])⟩
  · have e := rept_int rx
    subst e
    cases ez
    exact .inl ⟨_, rfl, k _ _ _ (Step.refl c) (by simp only [Rep])⟩
def listO : D → Option O
  | .lst ds => some (.lst ds)
  | .tup ds => some (.lst ds)
  | _ => none
theorem c1_list : Call1N K (fun xs H Q => ∃ p ys, xs = [.ref p] ∧ (SqL K H p ys ∨ SqT K H p ys) ∧ ∀ l, H l = none → Q (.ref l) (upd H l (.lst ys))) listO := by
  intro θ B H σ ρ d z x Q c rx ez k
  cases d <;> simp only [listO, reduceCtorEq] at ez
  · obtain ⟨p, xs, rfl, h1, h2⟩ := rx
    cases ez
    exact ⟨p, xs, rfl, .inr h1, fun l hl => k _ _ _ (c.free hl _) (new_lst c (fun _ z => z) hl h2)⟩
  · obtain ⟨p, xs, rfl, h1, h2⟩ := rx
    cases ez
    exact ⟨p, xs, rfl, .inl (SqL.of h1), fun l hl => k _ _ _ (c.free hl _) (new_lst c (fun _ z => z) hl h2)⟩
def tupleD : D → Option D
  | .lst ds => some (.tup ds)
  | _ => none
theorem c1_tuple : Call1 K (fun xs H Q => ∃ p ys, xs = [.ref p] ∧ ((SqL K H p ys ∧ ∀ l, H l = none → Q (.ref l) (upd H l (.tup ys))) ∨ (SqT K H p ys ∧ Q (.ref p) H))) tupleD := by
  intro θ B H σ ρ d z x Q c rx ez k
  cases d <;> simp only [tupleD, reduceCtorEq] at ez
  · obtain ⟨p, xs, rfl, h1, h2⟩ := rx
    cases ez
    refine ⟨p, xs, rfl, .inl ⟨SqL.of h1, fun l hl => k _ _ _ (c.laid hl _) ?_⟩⟩
    simp only [Rep]
    exact ⟨l, xs, rfl, .inl (.inl upd_same), h2.mono (c.laid hl (.tup xs)).bb⟩
def D.ints : List D → Option (List Int)
  | [] => some []
  | .int i :: ds => (D.ints ds).map (i :: ·)
  | _ => none
theorem ints_map : ∀ {ds : List D} {ns : List Int}, D.ints ds = some ns → ds = ns.map D.int
  | [], ns, h => by
    simp only [D.ints] at h
    cases h
    rfl
  | d :: ds, ns, h => by
    cases d <;> simp only [D.ints, reduceCtorEq] at h
    obtain ⟨ms, e1, e2⟩ := Option.map_eq_some_iff.mp h
    subst e2
    rw [ints_map e1]
    rfl
theorem ints_of_map : ∀ ns : List Int, D.ints (ns.map D.int) = some ns
  | [] => rfl
  | n :: ns => by
    simp only [List.map, D.ints, ints_of_map ns, Option.map_some]
def sumD : D → Option D
  | .lst ds => (D.ints ds).map fun ns => .int ns.sum
  | _ => none
theorem c1_sum : Call1 K (rSum K) sumD := by
  intro θ B H σ ρ d z x Q c rx ez k
  cases d <;> simp only [sumD, reduceCtorEq] at ez
  · obtain ⟨p, xs, rfl, h1, h2⟩ := rx
    obtain ⟨ns, e1, e2⟩ := Option.map_eq_some_iff.mp ez
    subst e2
    have e := ints_map e1
    subst e
    have e := h2.ints
    subst e
    exact ⟨p, ns, rfl, SqL.of h1, k _ _ _ (Step.refl c) (by simp only [Rep])⟩
def D.bls : List D → Option (List Bool)
  | [] => some []
  | .bl i :: ds => (D.bls ds).map (i :: ·)
  | _ => none
theorem bls_reps {B : Hp} : ∀ {ds : List D} {bs : List Bool} {vs : List V}, D.bls ds = some bs → Reps K B ds vs → vs = bs.map V.bl
  | [], bs, vs, h, r => by
    simp only [D.bls, Reps] at h r
    cases h
    subst r
    rfl
  | d :: ds, bs, vs, h, r => by
    cases d <;> simp only [D.bls, reduceCtorEq] at h
    obtain ⟨ms, e1, e2⟩ := Option.map_eq_some_iff.mp h
    subst e2
    simp only [Reps] at r
    obtain ⟨x, xs, rfl, r1, r2⟩ := r
    rw [rep_bl r1, bls_reps e1 r2]
    rfl
def allD : D → Option D
  | .lst ds => (D.bls ds).map fun bs => .bl (bs.all id)
  | _ => none
def anyD : D → Option D
  | .lst ds => (D.bls ds).map fun bs => .bl (bs.any id)
  | _ => none
theorem c1_all : Call1 K (rAll K) allD := by
  intro θ B H σ ρ d z x Q c rx ez k
  cases d <;> simp only [allD, reduceCtorEq] at ez
  · obtain ⟨p, xs, rfl, h1, h2⟩ := rx
    obtain ⟨bs, e1, e2⟩ := Option.map_eq_some_iff.mp ez
    subst e2
    have e := bls_reps e1 h2
    subst e
    exact ⟨p, bs, rfl, SqL.of h1, k _ _ _ (Step.refl c) (by simp only [Rep])⟩
theorem c1_any : Call1 K (rAny K) anyD := by
  intro θ B H σ ρ d z x Q c rx ez k
  cases d <;> simp only [anyD, reduceCtorEq] at ez
  · obtain ⟨p, xs, rfl, h1, h2⟩ := rx
    obtain ⟨bs, e1, e2⟩ := Option.map_eq_some_iff.mp ez
    subst e2
    have e := bls_reps e1 h2
    subst e
    exact ⟨p, bs, rfl, SqL.of h1, k _ _ _ (Step.refl c) (by simp only [Rep])⟩
end

/-! ### statements -/
inductive Out where
  | nx | rt (d : D) | bk | ct
section
variable {K : PySem.W.Frag} {E : WX} {θ : Nat → Addr} {σ σ1 : L2.St} {B B1 H H1 : Hp} {ρ ρ1 : Rho} {Dn : Ends}
def AtS (K : PySem.W.Frag) (E : WX) (θ : Nat → Addr) (σ : L2.St) (B H : Hp) (ρ : Rho) (Dn : Ends) : Rs Out → Prop
  | .no => False
  | .ok .nx ρ' => ∀ σ' B' H', Step K θ σ B H ρ σ' B' H' ρ' → Dn.nx σ' H'
  | .ok .bk ρ' => ∀ σ' B' H', Step K θ σ B H ρ σ' B' H' ρ' → Dn.bk σ' H'
  | .ok .ct ρ' => ∀ σ' B' H', Step K θ σ B H ρ σ' B' H' ρ' → Dn.ct σ' H'
  | .ok (.rt d) ρ' => ∀ v σ' B' H', Step K θ σ B H ρ σ' B' H' ρ' → Rep K B' d v → Dn.rt v H'
  | .ex e ρ' => ∀ oc σ' B' H', Step K θ σ B H ρ σ' B' H' ρ' → RepX K B' H' e oc → E (.ref e.C) oc σ' H'
def tS (K : PySem.W.Frag) (E : WX) (h : M Out) : TS := fun Dn σ H => ∃ θ B ρ, Cf K θ B H σ ρ ∧ AtS K E θ σ B H ρ Dn (h ρ)
theorem AtS.from (st : Step K θ σ B H ρ σ1 B1 H1 ρ1) : ∀ {r : Rs Out}, AtS K E θ σ B H ρ Dn r → AtS K E θ σ1 B1 H1 ρ1 Dn r
  | .no, h => h
  | .ok .nx ρ', h => fun σ' B' H' s2 => h σ' B' H' (st.trans s2)
  | .ok .bk ρ', h => fun σ' B' H' s2 => h σ' B' H' (st.trans s2)
  | .ok .ct ρ', h => fun σ' B' H' s2 => h σ' B' H' (st.trans s2)
  | .ok (.rt d) ρ', h => fun v σ' B' H' s2 r => h v σ' B' H' (st.trans s2) r
  | .ex e ρ', h => fun oc σ' B' H' s2 r => h oc σ' B' H' (st.trans s2) r
/-- an expression's part, then the rest, seen from the start too -/
theorem AtS.seq {α β : Type} {R : Rl α β} {f : M α} {g : α → M Out} (h : AtS K E θ σ B H ρ Dn ((f >>= g) ρ)) :
    At K E R θ σ B H ρ (fun x H1 => ∃ a B1 ρ1, Step K θ σ B H ρ σ B1 H1 ρ1 ∧ R H σ B1 H1 ρ1 a x ∧ AtS K E θ σ B H ρ Dn (g a ρ1)) (f ρ) := by
  cases e : f ρ with
  | no =>
    rw [bnd_no e] at h
    exact h.elim
  | ex x ρ' =>
    rw [bnd_ex e] at h
    exact fun oc σ' B' H' s2 r => h oc σ' B' H' s2 r
  | ok a ρ' =>
    rw [bnd_ok e] at h
    exact fun x B1 H1 st r => ⟨a, B1, ρ', st, r, h⟩
/-- a statement's part, then the rest -/
def thenS (h1 h2 : M Out) : M Out := h1 >>= fun o => match o with
  | .nx => h2
  | o => M.ret o
theorem AtS.then {h1 h2 : M Out} {Dn' : Ends} (h : AtS K E θ σ B H ρ Dn (thenS h1 h2 ρ)) (hn : ∀ σ' B' H' ρ', Step K θ σ B H ρ σ' B' H' ρ' → AtS K E θ σ B H ρ Dn (h2 ρ') → Dn'.nx σ' H')
    (hr : ∀ v H', Dn.rt v H' → Dn'.rt v H') (hb : ∀ s H', Dn.bk s H' → Dn'.bk s H') (hc : ∀ s H', Dn.ct s H' → Dn'.ct s H') : AtS K E θ σ B H ρ Dn' (h1 ρ) := by
  unfold thenS at h
  cases e : h1 ρ with
  | no =>
    rw [bnd_no e] at h
    exact h.elim
  | ex x ρ' =>
    rw [bnd_ex e] at h
    exact fun oc σ' B' H' s2 r => h oc σ' B' H' s2 r
  | ok o ρ' =>
    rw [bnd_ok e] at h
    cases o with
    | nx => exact fun σ' B' H' st => hn σ' B' H' ρ' st h
    | bk => exact fun σ' B' H' st => hb _ _ (h σ' B' H' st)
    | ct => exact fun σ' B' H' st => hc _ _ (h σ' B' H' st)
    | rt d => exact fun v σ' B' H' st r => hr _ _ (h v σ' B' H' st r)
theorem AtS.opt {o : Option Rho} {Dn : Ends} : True := trivial
end
section
variable {X : Cx} {E : WX} {st : Stmt} {sts rest : List Stmt} {h1 h2 : M Out} {e : Expr} {pos : Pos} {f : M D}
theorem sd_nil : PSs X [] (tS X.K E (M.ret .nx)) := pss_weak pss_nil fun Dn σ H ⟨θ, B, ρ, c, a⟩ => a _ _ _ (Step.refl c)
theorem sd_cons (p1 : PS X st (tS X.K E h1)) (p2 : PSs X rest (tS X.K E h2)) : PSs X (st :: rest) (tS X.K E (thenS h1 h2)) := by
  refine pss_weak (pss_cons p1 p2) fun Dn σ H ⟨θ, B, ρ, c, h⟩ => ⟨θ, B, ρ, c, ?_⟩
  exact h.then (fun σ' B' H' ρ' s k => ⟨θ, B', ρ', s.cf, k.from s⟩) (fun _ _ z => z) (fun _ _ z => z) (fun _ _ z => z)
theorem sd_one (p1 : PS X st (tS X.K E h1)) : PSs X [st] (tS X.K E h1) := pss_one p1
/-- a slot's new value -/
theorem Cf.set {K : PySem.W.Frag} {θ : Nat → Addr} {σ : L2.St} {B H : Hp} {ρ : Rho} (c : Cf K θ B H σ ρ) (i : Nat) {d : D} {v : V} (r : Rep K B d v) : Step K θ σ B H ρ (σ.set i (some v)) B H (ρ.set i (some (.val d))) := by
  have back : ∀ (m : Nat) (x : Addr), OwnAt (σ.set i (some v)) (ρ.set i (some (.val d))) m x → OwnAt σ ρ m x := fun m x ⟨⟨t', o', w⟩, w2⟩ => by
    rcases getD_set w with ⟨_, w3, _⟩ | ⟨hm, w3⟩
    · cases w3
    · rw [List.getElem?_set_ne (Ne.symm hm)] at w2
      exact ⟨⟨t', o', w3⟩, w2⟩
  refine ⟨⟨c.bh, by rw [List.length_set, List.length_set]; exact c.len, fun j s q => ?_, fun j k q z1 z2 => c.sep j k q (back j q z1) (back k q z2)⟩, Same.refl B, fun b o e _ => e, fun b e => e, fun b e n => absurd n e, fun b ⟨m, z⟩ => .inl ⟨m, back m b z⟩⟩
  rcases getD_set q with ⟨rfl, rfl, hl⟩ | ⟨hj, q⟩
  · rw [List.getElem?_set_self (by rw [c.len]; exact hl)]
    exact ⟨v, rfl, r⟩
  · rw [List.getElem?_set_ne (Ne.symm hj)]
    exact c.at_ j s q
def setS (i : Nat) (f : M D) : M Out := f >>= fun d => fun ρ => .ok .nx (ρ.set i (some (.val d)))
theorem sd_set {i : Nat} {x : Str} {pos' : Pos} (h : PE X e (tD X.K E f)) (p : ∀ {te : TE}, PE X e te → PS X (.Assign [.Name x pos'] e pos) (tAsg te (gName i))) : PS X (.Assign [.Name x pos'] e pos) (tS X.K E (setS i f)) := by
  refine ps_weak (p h) fun Dn σ H ⟨θ, B, ρ, c, h⟩ => ⟨θ, B, ρ, c, h.seq.imp ?_⟩
  rintro d ρ' x B' H1 - - - ⟨d, B1, ρ1, st1, rx, h1⟩
  exact h1 _ _ _ (st1.trans (st1.cf.set i rx))
/-- a slot takes a new object as its own -/
theorem Step.take {K : PySem.W.Frag} {θ : Nat → Addr} {σ σ1 : L2.St} {B H B1 H1 : Hp} {ρ ρ1 : Rho} (st : Step K θ σ B H ρ σ1 B1 H1 ρ1) (i : Nat) {o : O} {v : V} (r : RN K H σ1 B1 H1 ρ1 o v) : Step K θ σ B H ρ (σ1.set i (some v)) B1 H1 (ρ1.set i (some (.own 0 o))) := by
  obtain ⟨p, u, rfl, n0, nB, hH, ro, no⟩ := r
  have c := st.cf
  have back : ∀ (m : Nat) (x : Addr), OwnAt (σ1.set i (some (.ref p))) (ρ1.set i (some (.own 0 o))) m x → (m = i ∧ x = p) ∨ (m ≠ i ∧ OwnAt σ1 ρ1 m x) := fun m x ⟨⟨t', o', w⟩, w2⟩ => by
    rcases getD_set w with ⟨rfl, _, hl⟩ | ⟨hm, w3⟩
    · rw [List.getElem?_set_self (by rw [c.len]; exact hl)] at w2
      cases w2
      exact .inl ⟨rfl, rfl⟩
    · rw [List.getElem?_set_ne (Ne.symm hm)] at w2
      exact .inr ⟨hm, ⟨t', o', w3⟩, w2⟩
  refine ⟨⟨c.bh, by rw [List.length_set, List.length_set]; exact c.len, fun j s q => ?_, fun j k q z1 z2 => ?_⟩, st.bb, st.keep, st.there, st.new, fun b ⟨m, z⟩ => ?_⟩
  · rcases getD_set q with ⟨rfl, rfl, hl⟩ | ⟨hj, q⟩
    · rw [List.getElem?_set_self (by rw [c.len]; exact hl)]
      exact ⟨p, u, rfl, nB, hH, ro, fun z => absurd rfl z⟩
    · rw [List.getElem?_set_ne (Ne.symm hj)]
      exact c.at_ j s q
  · rcases back j q z1 with ⟨rfl, rfl⟩ | ⟨hj, y1⟩
    · rcases back k q z2 with ⟨rfl, _⟩ | ⟨hk, y2⟩
      · rfl
      · exact absurd ⟨k, y2⟩ no
    · rcases back k q z2 with ⟨rfl, rfl⟩ | ⟨hk, y2⟩
      · exact absurd ⟨j, y1⟩ no
      · exact c.sep j k q y1 y2
  · rcases back m b z with ⟨rfl, rfl⟩ | ⟨hm, y⟩
    · exact .inr n0
    · exact st.own b ⟨m, y⟩
def setN (i : Nat) (f : M O) : M Out := f >>= fun o => fun ρ => .ok .nx (ρ.set i (some (.own 0 o)))
theorem sn_set {i : Nat} {x : Str} {pos' : Pos} {f : M O} (h : PE X e (tN X.K E f)) (p : ∀ {te : TE}, PE X e te → PS X (.Assign [.Name x pos'] e pos) (tAsg te (gName i))) : PS X (.Assign [.Name x pos'] e pos) (tS X.K E (setN i f)) := by
  refine ps_weak (p h) fun Dn σ H ⟨θ, B, ρ, c, h⟩ => ⟨θ, B, ρ, c, h.seq.imp ?_⟩
  rintro d ρ' x B' H1 - - - ⟨d, B1, ρ1, st1, rx, h1⟩
  exact h1 _ _ _ (st1.take i rx)
def retS (f : M D) : M Out := f >>= fun d => M.ret (.rt d)
theorem sd_ret (h : PE X e (tD X.K E f)) : PS X (.Return (some e) pos) (tS X.K E (retS f)) := by
  refine ps_weak (ps_ret h) fun Dn σ H ⟨θ, B, ρ, c, h⟩ => ⟨θ, B, ρ, c, h.seq.imp ?_⟩
  rintro d ρ' x B' H1 - - - ⟨d, B1, ρ1, st1, rx, h1⟩
  exact h1 _ _ _ _ st1 rx
theorem sd_retN : PS X (.Return none pos) (tS X.K E (M.ret (.rt .non))) := ps_weak ps_retN fun Dn σ H ⟨θ, B, ρ, c, a⟩ => a _ _ _ _ (Step.refl c) (by simp only [Rep])
theorem sd_pass : PS X (.Pass pos) (tS X.K E (M.ret .nx)) := ps_weak ps_pass fun Dn σ H ⟨θ, B, ρ, c, a⟩ => a _ _ _ (Step.refl c)
theorem sd_break : PS X (.Break pos) (tS X.K E (M.ret .bk)) := ps_weak ps_break fun Dn σ H ⟨θ, B, ρ, c, a⟩ => a _ _ _ (Step.refl c)
theorem sd_continue : PS X (.Continue pos) (tS X.K E (M.ret .ct)) := ps_weak ps_continue fun Dn σ H ⟨θ, B, ρ, c, a⟩ => a _ _ _ (Step.refl c)
def dropS (f : M D) : M Out := f >>= fun _ => M.ret .nx
theorem sd_expr (h : PE X e (tD X.K E f)) (hs : swapsWith e none pos.line X.env = pure false := by rfl) : PS X (.Expr e pos) (tS X.K E (dropS f)) := by
  refine ps_weak (ps_expr h hs) fun Dn σ H ⟨θ, B, ρ, c, h⟩ => ⟨θ, B, ρ, c, h.seq.imp ?_⟩
  rintro d ρ' x B' H1 - - - ⟨d, B1, ρ1, st1, rx, h1⟩
  exact h1 _ _ _ st1
theorem sd_if {t : Expr} {a b : List Stmt} {ft : M Bool} (ht : PT X t (tT X.K E ft)) (ha : PSs X a (tS X.K E h1)) (hb : PSs X b (tS X.K E h2)) : PS X (.If t a b pos) (tS X.K E (ifM ft h1 h2)) := by
  refine ps_weak (ps_if ht ha hb) fun Dn σ H ⟨θ, B, ρ, c, h⟩ => ⟨θ, B, ρ, c, h.seq.imp ?_⟩
  rintro d ρ' x B' H1 - - - ⟨d, B1, ρ1, st1, rx, h1⟩
  have e : d = x := rx
  subst e
  cases d with
  | true => exact iteT ⟨θ, B1, ρ1, st1.cf, h1.from st1⟩
  | false => exact iteF ⟨θ, B1, ρ1, st1.cf, h1.from st1⟩
/-! an own object is changed -/
theorem Cf.put {K : PySem.W.Frag} {θ : Nat → Addr} {σ : L2.St} {B H : Hp} {ρ : Rho} (c : Cf K θ B H σ ρ) {i t : Nat} {o o' : O} {p : Addr} {u : HO} (h : ρ[i]? = some (some (.own t o))) (e : σ[i]? = some (some (.ref p))) (r : RepO K B o' u) :
    Step K θ σ B H ρ σ B (upd H p u) (ρ.set i (some (.own t o'))) := by
  obtain ⟨p', u', e1, b1, k1, r1, t1, oa1⟩ := c.own h
  rw [e] at e1
  cases e1
  have hl : i < ρ.length := (List.getElem?_eq_some_iff.mp h).1
  have back : ∀ (m : Nat) (x : Addr), OwnAt σ (ρ.set i (some (.own t o'))) m x → OwnAt σ ρ m x := fun m x ⟨⟨t', o2, w⟩, w2⟩ => by
    rcases getD_set w with ⟨rfl, w3, _⟩ | ⟨hm, w3⟩
    · exact ⟨⟨t, o, h⟩, w2⟩
    · exact ⟨⟨t', o2, w3⟩, w2⟩
  refine ⟨⟨fun b w q => ?_, by rw [List.length_set]; exact c.len, fun j s q => ?_, fun j k q z1 z2 => c.sep j k q (back j q z1) (back k q z2)⟩, Same.refl B, fun b w q n => ?_, fun b q => ?_, fun b q n => absurd n q, fun b ⟨m, z⟩ => .inl ⟨m, back m b z⟩⟩
  · rw [upd_ne (ne_of_none q b1)]
    exact c.bh b w q
  · rcases getD_set q with ⟨rfl, rfl, _⟩ | ⟨hj, q⟩
    · exact ⟨p, u, by rw [e]; rfl, b1, upd_same, r, t1⟩
    · have z := c.at_ j s q
      cases s with
      | none => trivial
      | some s =>
        cases s with
        | val d => exact z
        | own t' o2 =>
          obtain ⟨p2, u2, e2, b2, k2, r2, t2, oa2⟩ := c.own q
          have np : p2 ≠ p := fun y => by
            subst y
            exact hj (c.sep j i p2 oa2 oa1)
          exact ⟨p2, u2, by rw [e2]; rfl, b2, by rw [upd_ne np]; exact k2, r2, t2⟩
  · have nb : b ≠ p := fun y => by
      subst y
      exact n ⟨i, oa1⟩
    rw [upd_ne nb]
    exact q
  · by_cases hb : b = p
    · subst hb
      rw [upd_same]
      exact fun z => by cases z
    · rw [upd_ne hb]
      exact q
/-- the own list in a slot -/
def ownL (ρ : Rho) (i : Nat) : Option (Nat × List D) := match ρ[i]? with
  | some (some (.own t (.lst ds))) => some (t, ds)
  | _ => none
theorem ownL_some {ρ : Rho} {i t : Nat} {ds : List D} (h : ownL ρ i = some (t, ds)) : ρ[i]? = some (some (.own t (.lst ds))) := by
  unfold ownL at h
  split at h
  · rename_i e
    cases h
    exact e
  · cases h
end
def checkL (i : Nat) : M Unit := fun ρ => match ownL ρ i with
  | some _ => .ok () ρ
  | none => .no
theorem checkL_no {i : Nat} {ρ : Rho} (e : ownL ρ i = none) : checkL i ρ = .no := by
  unfold checkL
  rw [e]
theorem checkL_ok {i : Nat} {ρ : Rho} {q : Nat × List D} (e : ownL ρ i = some q) : checkL i ρ = .ok () ρ := by
  unfold checkL
  rw [e]
def updL (i : Nat) (g : List D → Option (D × List D)) : M D := fun ρ => match ownL ρ i with
  | some (t, ds) => match g ds with
    | some (z, es) => .ok z (ρ.set i (some (.own t (.lst es))))
    | none => .no
  | none => .no
/-- name.m(e), the name's list its own -/
def lm1 (op : List D → D → Option (D × List D)) (i : Nat) (f : M D) : M D := checkL i >>= fun _ => f >>= fun d => updL i fun ds => op ds d
def lm0 (op : List D → Option (D × List D)) (i : Nat) : M D := updL i op
def Mt1 (K : PySem.W.Frag) (r : V → List V → Hp → VK → Prop) (op : List D → D → Option (D × List D)) : Prop := ∀ (B H : Hp) (l : Addr) (xs : List V) (ds es : List D) (d z : D) (y : V) (Q : VK), H l = some (.lst xs) → Reps K B ds xs → Rep K B d y → op ds d = some (z, es) →
  (∀ v ys, Rep K B z v → Reps K B es ys → Q v (upd H l (.lst ys))) → r (.ref l) [y] H Q
def Mt0 (K : PySem.W.Frag) (r : V → List V → Hp → VK → Prop) (op : List D → Option (D × List D)) : Prop := ∀ (B H : Hp) (l : Addr) (xs : List V) (ds es : List D) (z : D) (Q : VK), H l = some (.lst xs) → Reps K B ds xs → op ds = some (z, es) →
  (∀ v ys, Rep K B z v → Reps K B es ys → Q v (upd H l (.lst ys))) → r (.ref l) [] H Q
section
variable {K : PySem.W.Frag} {θ : Nat → Addr} {σ : L2.St} {B H : Hp} {ρ : Rho}
theorem Cf.ownList (c : Cf K θ B H σ ρ) {i t : Nat} {ds : List D} (h : ρ[i]? = some (some (.own t (.lst ds)))) : ∃ p xs, σ[i]? = some (some (.ref p)) ∧ H p = some (.lst xs) ∧ Reps K B ds xs := by
  obtain ⟨p, u, e1, b1, k1, ⟨xs, rfl, r1⟩, t1, oa1⟩ := c.own h
  exact ⟨p, xs, e1, k1, r1⟩
end
theorem At.updL {γ : Type} {K : PySem.W.Frag} {E : WX} {θ : Nat → Addr} {σ : L2.St} {B H : Hp} {ρ : Rho} {Q : VK} {i : Nat} {g : List D → Option (D × List D)} (c : Cf K θ B H σ ρ) (h : At K E (RD K) θ σ B H ρ Q (updL i g ρ)) :
    ∃ p xs ds z es, σ[i]? = some (some (.ref p)) ∧ H p = some (.lst xs) ∧ Reps K B ds xs ∧ g ds = some (z, es) ∧ ∀ v ys, Rep K B z v → Reps K B es ys → Q v (upd H p (.lst ys)) := by
  unfold Nc.updL at h
  cases e : ownL ρ i with
  | none =>
    rw [e] at h
    exact h.elim
  | some q =>
    obtain ⟨t, ds⟩ := q
    rw [e] at h
    have ew := ownL_some e
    obtain ⟨p, xs, e1, k1, r1⟩ := c.ownList ew
    cases eg : g ds with
    | none =>
      simp only [eg] at h
      exact h.elim
    | some q =>
      obtain ⟨z, es⟩ := q
      simp only [eg] at h
      exact ⟨p, xs, ds, z, es, e1, k1, r1, eg, fun v ys rv ry => h _ _ _ (c.put ew e1 ⟨ys, rfl, ry⟩) rv⟩
section
variable {X : Cx} {E : WX} {e : Expr} {f : M D} {x name : Str} {p1 p2 p3 : Pos} {r : V → List V → Hp → VK → Prop}
theorem lm1_read {op : List D → D → Option (D × List D)} (hr : Mt1 X.K r op) {i : Nat} : ∀ σ H Q, tD X.K E (lm1 op i f) σ H Q → tBM X.K "list" r (tVar i) (tCons (tD X.K E f) tNil) σ H Q := by
  rintro σ H Q ⟨θ, B, ρ, c, h⟩
  unfold lm1 at h
  cases e : ownL ρ i with
  | none =>
    rw [bnd_no (checkL_no e)] at h
    exact h.elim
  | some q =>
    obtain ⟨t, ds⟩ := q
    rw [bnd_ok (checkL_ok e)] at h
    obtain ⟨p, xs, e1, k1, r1⟩ := c.ownList (ownL_some e)
    refine ⟨.ref p, e1, .inl ⟨rfl, xs, SqL.of k1⟩, θ, B, ρ, c, h.seq.imp ?_⟩
    rintro d ρ' y B' H1 - - - ⟨d, B1, ρ1, st1, ry, h1⟩
    obtain ⟨p', xs', ds', z, es, e1', k1', r1', eg, q⟩ := At.updL (γ := Unit) st1.cf h1
    rw [e1] at e1'
    cases e1'
    exact hr B1 H1 p xs' ds' es d z y Q k1' r1' ry eg q
theorem lm0_read {op : List D → Option (D × List D)} (hr : Mt0 X.K r op) {i : Nat} : ∀ σ H Q, tD X.K E (lm0 op i) σ H Q → tBM0 X.K "list" r (tVar i) σ H Q := by
  rintro σ H Q ⟨θ, B, ρ, c, h⟩
  obtain ⟨p, xs, ds, z, es, e1, k1, r1, eg, q⟩ := At.updL (γ := Unit) c h
  exact ⟨.ref p, e1, .inl ⟨rfl, xs, SqL.of k1⟩, hr B H p xs ds es z Q k1 r1 eg q⟩
end
def appOp (ds : List D) (d : D) : Option (D × List D) := if ds.length < sizeLine then some (.non, ds ++ [d]) else none
def popAtOp (ds : List D) : D → Option (D × List D)
  | .int i => if decide (-(2 ^ 63) ≤ i) && decide (i < 2 ^ 63) then match seqIndex? i ds.length with
    | some k => (ds[k]?).map fun z => (z, ds.eraseIdx k)
    | none => none
    else none
  | _ => none
def popOp (ds : List D) : Option (D × List D) := (ds[ds.length - 1]?).map fun z => (z, ds.dropLast)
def clearOp (_ : List D) : Option (D × List D) := some (.non, [])
def revOp (ds : List D) : Option (D × List D) := some (.non, ds.reverse)
section
variable {K : PySem.W.Frag}
theorem mt1_append : Mt1 K rAppend appOp := by
  intro B H l xs ds es d z y Q hl r rd ez k
  unfold appOp at ez
  split at ez
  · rename_i hz
    cases ez
    rw [r.length] at hz
    exact ⟨l, xs, y, rfl, rfl, hl, hz, k _ _ (by simp only [Rep]) (r.append (Reps.cons rd Reps.nil))⟩
  · cases ez
theorem mt1_pop : Mt1 K rPopAt popAtOp := by
  intro B H l xs ds es d z y Q hl r rd ez k
  cases d <;> simp only [popAtOp, reduceCtorEq] at ez
  have e := rep_int rd
  subst e
  split at ez
  · rename_i hz
    rw [Bool.and_eq_true, decide_eq_true_eq, decide_eq_true_eq] at hz
    split at ez
    · rename_i j hj
      obtain ⟨w, e1, e2⟩ := Option.map_eq_some_iff.mp ez
      cases e2
      obtain ⟨v, e3, rv⟩ := r.get e1
      rw [r.length] at hj
      exact ⟨l, xs, _, j, v, rfl, rfl, hl, hz.1, hz.2, hj, e3, k _ _ rv (r.erase j)⟩
    · cases ez
  · cases ez
theorem Reps.dropLast {B : Hp} {ds : List D} {vs : List V} (h : Reps K B ds vs) : Reps K B ds.dropLast vs.dropLast := by
  rw [List.dropLast_eq_take, List.dropLast_eq_take, ← h.length]
  exact h.take _
theorem Reps.reverse {B : Hp} : ∀ {ds : List D} {vs : List V}, Reps K B ds vs → Reps K B ds.reverse vs.reverse
  | [], _, h => by
    simp only [Reps] at h
    subst h
    exact Reps.nil
  | d :: ds, vs, h => by
    simp only [Reps] at h
    obtain ⟨x, xs, rfl, h2, h3⟩ := h
    rw [List.reverse_cons, List.reverse_cons]
    exact (Reps.reverse h3).append (Reps.cons h2 Reps.nil)
theorem mt0_pop : Mt0 K rPop popOp := by
  intro B H l xs ds es z Q hl r ez k
  unfold popOp at ez
  obtain ⟨w, e1, e2⟩ := Option.map_eq_some_iff.mp ez
  cases e2
  obtain ⟨v, e3, rv⟩ := r.get e1
  rw [r.length] at e3
  exact ⟨l, xs, v, rfl, rfl, hl, e3, k _ _ rv r.dropLast⟩
theorem mt0_clear : Mt0 K rClear clearOp := by
  intro B H l xs ds es z Q hl r ez k
  cases ez
  exact ⟨l, xs, rfl, rfl, hl, k _ _ (by simp only [Rep]) Reps.nil⟩
end
section
variable {X : Cx} {E : WX} {e : Expr} {f : M D} {x : Str} {p1 p2 p3 : Pos}
theorem pm_append {i : Nat} (hx : PE X (.Name x p1) (tVar i)) (he : PE X e (tD X.K E f))
    (hbase : attributeBase (.Name x p1) "append" X.env (eval (.Name x p1) X.env) = eval (.Name x p1) X.env := by rfl)
    (hfew : ((backTo p3 (starEach [e] X.env)).all (fun x => !x.1) && (backToKw p3 (keywordEach [] X.env)).all (fun x => x.1.isSome)
      && decide ([e].length + ([] : List Keyword).length + (if ([] : List Keyword).isEmpty then 0 else 1) < 30)) = true := by rfl)
    (hline : (p2.endLine == p3.line) = true := by rfl) (hs : starEach [e] X.env = (false, eval e X.env) :: starEach [] X.env := by rfl) (hplain : (backTo p3 (starEach [] X.env)).any (·.1) = false := by rfl) :
    PE X (.Call (.Attribute (.Name x p1) "append" p2) [e] [] p3) (tD X.K E (lm1 appOp i f)) :=
  pe_weak (pe_bm PySem.F.plainAttrs_list PySem.F.slot_list_append PySem.F.type_list_append mt_append hx (pa_cons he pa_nil hs) hbase hfew hline hs hplain) (lm1_read mt1_append)
theorem pm_popAt {i : Nat} (hx : PE X (.Name x p1) (tVar i)) (he : PE X e (tD X.K E f))
    (hbase : attributeBase (.Name x p1) "pop" X.env (eval (.Name x p1) X.env) = eval (.Name x p1) X.env := by rfl)
    (hfew : ((backTo p3 (starEach [e] X.env)).all (fun x => !x.1) && (backToKw p3 (keywordEach [] X.env)).all (fun x => x.1.isSome)
      && decide ([e].length + ([] : List Keyword).length + (if ([] : List Keyword).isEmpty then 0 else 1) < 30)) = true := by rfl)
    (hline : (p2.endLine == p3.line) = true := by rfl) (hs : starEach [e] X.env = (false, eval e X.env) :: starEach [] X.env := by rfl) (hplain : (backTo p3 (starEach [] X.env)).any (·.1) = false := by rfl) :
    PE X (.Call (.Attribute (.Name x p1) "pop" p2) [e] [] p3) (tD X.K E (lm1 popAtOp i f)) :=
  pe_weak (pe_bm PySem.F.plainAttrs_list PySem.F.slot_list_pop PySem.F.type_list_pop mt_popAt hx (pa_cons he pa_nil hs) hbase hfew hline hs hplain) (lm1_read mt1_pop)
theorem pm_pop {i : Nat} (hx : PE X (.Name x p1) (tVar i))
    (hbase : attributeBase (.Name x p1) "pop" X.env (eval (.Name x p1) X.env) = eval (.Name x p1) X.env := by rfl) (hline : (p2.endLine == p3.line) = true := by rfl) :
    PE X (.Call (.Attribute (.Name x p1) "pop" p2) [] [] p3) (tD X.K E (lm0 popOp i)) :=
  pe_weak (pe_bm0 PySem.F.plainAttrs_list PySem.F.slot_list_pop PySem.F.type_list_pop mt_pop hx hbase hline) (lm0_read mt0_pop)
/-! name[j] = e, the name's list its own -/
def putL (i : Nat) (g : List D → Option (List D)) : M Out := fun ρ => match ownL ρ i with
  | some (t, ds) => match g ds with
    | some es => .ok .nx (ρ.set i (some (.own t (.lst es))))
    | none => .no
  | none => .no
def setIx (ds : List D) (j d : D) : Option (List D) := match j with
  | .int k => (ixN ds.length k).map fun n => ds.set n d
  | _ => none
def itemS (i : Nat) (f fj : M D) : M Out := f >>= fun d => checkL i >>= fun _ => fj >>= fun j => putL i fun ds => setIx ds j d
theorem AtS.putL {K : PySem.W.Frag} {θ : Nat → Addr} {σ : L2.St} {B H : Hp} {ρ : Rho} {Dn : Ends} {E : WX} {i : Nat} {g : List D → Option (List D)} (c : Cf K θ B H σ ρ) (h : AtS K E θ σ B H ρ Dn (putL i g ρ)) :
    ∃ p xs ds es, σ[i]? = some (some (.ref p)) ∧ H p = some (.lst xs) ∧ Reps K B ds xs ∧ g ds = some es ∧ ∀ ys, Reps K B es ys → Dn.nx σ (upd H p (.lst ys)) := by
  unfold Nc.putL at h
  cases e : ownL ρ i with
  | none =>
    rw [e] at h
    exact h.elim
  | some q =>
    obtain ⟨t, ds⟩ := q
    rw [e] at h
    have ew := ownL_some e
    obtain ⟨p, xs, e1, k1, r1⟩ := c.ownList ew
    cases eg : g ds with
    | none =>
      simp only [eg] at h
      exact h.elim
    | some es =>
      simp only [eg] at h
      exact ⟨p, xs, ds, es, e1, k1, r1, eg, fun ys ry => h _ _ _ (c.put ew e1 ⟨ys, rfl, ry⟩)⟩
theorem sd_item {i : Nat} {ej : Expr} {fj : M D} {ps pos : Pos} (hx : PE X (.Name x p1) (tVar i)) (hj : PE X ej (tD X.K E fj)) (he : PE X e (tD X.K E f))
    (ha : ∀ v, assign (.Subscript (.Name x p1) ej ps) X.env v = (do
      let ov ← holding [v] (eval (.Name x p1) X.env)
      let iv ← holding [v, ov] (eval ej X.env)
      standAt ps
      holding [v, ov, iv] (setItem ov iv v)
      release [v, ov, iv] []) := by intro _; rfl)
    (hs : swapsWithSole [.Subscript (.Name x p1) ej ps] e pos.line X.env = pure false := by rfl) (hw : swappedStores [.Subscript (.Name x p1) ej ps] e X.env = pure none := by rfl)
    (h1 : (assignEach [.Subscript (.Name x p1) ej ps] X.env).map (·.2) = [assign (.Subscript (.Name x p1) ej ps) X.env] := by rfl) :
    PS X (.Assign [.Subscript (.Name x p1) ej ps] e pos) (tS X.K E (itemS i f fj)) := by
  refine ps_weak (ps_asg he (pg_sub hx hj set_list ha) hs hw h1) fun Dn σ H ⟨θ, B, ρ, c, h⟩ => ⟨θ, B, ρ, c, h.seq.imp ?_⟩
  rintro d ρ' v B' H1 - - - ⟨d, B1, ρ1, st1, rv, h1⟩
  have rv : Rep X.K B1 d v := rv
  have h1 := h1.from st1
  cases eo : ownL ρ1 i with
  | none =>
    rw [bnd_no (checkL_no eo)] at h1
    exact h1.elim
  | some q =>
    obtain ⟨t, ds⟩ := q
    rw [bnd_ok (checkL_ok eo)] at h1
    obtain ⟨p, xs, e1, k1, r1⟩ := st1.cf.ownList (ownL_some eo)
    refine ⟨.ref p, e1, θ, B1, ρ1, st1.cf, h1.seq.imp ?_⟩
    rintro j ρ' w B' H2 - - - ⟨j, B2, ρ2, st2, rj, h2⟩
    have rj : Rep X.K B2 j w := rj
    obtain ⟨p', xs', ds', es, e1', k1', r1', eg, q⟩ := AtS.putL st2.cf (h2.from st2)
    rw [e1] at e1'
    cases e1'
    cases j <;> simp only [setIx, reduceCtorEq] at eg
    have ew := rep_int rj
    subst ew
    rename_i k
    obtain ⟨n, en, ee⟩ := Option.map_eq_some_iff.mp eg
    subst ee
    rw [r1'.length] at en
    exact ⟨p, xs', _, n, rfl, rfl, k1', en, q _ (r1'.set n (rv.mono st2.bb))⟩
end
end Nc

/-! Targets, what is walked, for, while, list comprehensions. -/
namespace Nc
open PySem PySem.Spec PyProof.Rows L2

/-! ### targets -/
/-- the tree d is stored by a target whose names stand at the slots ts -/
def gD (K : PySem.W.Frag) (ts : List Nat) (bnd : D → M Unit) : TG := fun v σ H Q => ∃ θ B ρ d, Cf K θ B H σ ρ ∧ Rep K B d v ∧ ∃ ρ', bnd d ρ = .ok () ρ' ∧
  ∀ σ' B' H', Step K θ σ B H ρ σ' B' H' ρ' → σ'.length = σ.length → (∀ j, j ∉ ts → σ'[j]? = σ[j]?) → (∀ j, j ∉ ts → ρ'[j]? = ρ[j]?) → Q σ' H'
def bndN (i : Nat) : D → M Unit := fun d ρ => .ok () (ρ.set i (some (.val d)))
def bndS : List Nat → List D → Rho → Rs Unit
  | [], [], ρ => .ok () ρ
  | i :: is, d :: ds, ρ => bndS is ds (ρ.set i (some (.val d)))
  | _, _, _ => .no
section
variable {X : Cx} {pos : Pos}
theorem pg_weak {e : Expr} {t t' : TG} (h : PG X e t) (k : ∀ v σ H Q, t' v σ H Q → t v σ H Q) : PG X e t' := ⟨fun pins s σ H v u Q I r q => h.run pins s σ H v u Q I r (k v σ H Q q)⟩
theorem gd_name {i : Nat} {x : Str} (h : PG X (.Name x pos) (gName i)) : PG X (.Name x pos) (gD X.K [i] (bndN i)) := by
  refine pg_weak h fun v σ H Q ⟨θ, B, ρ, d, c, r, ρ', e, k⟩ => ?_
  cases e
  exact k _ _ _ (c.set i r) (by rw [List.length_set]) (fun j hj => List.getElem?_set_ne fun z => hj (by simp [z])) (fun j hj => List.getElem?_set_ne fun z => hj (by simp [z]))
/-- several targets that are names -/
def gsD (K : PySem.W.Frag) (is : List Nat) : TGs := fun vs σ H Q => ∃ θ B ρ ds, Cf K θ B H σ ρ ∧ Reps K B ds vs ∧ ∃ ρ', bndS is ds ρ = .ok () ρ' ∧
  ∀ σ' B' H', Step K θ σ B H ρ σ' B' H' ρ' → σ'.length = σ.length → (∀ j, j ∉ is → σ'[j]? = σ[j]?) → (∀ j, j ∉ is → ρ'[j]? = ρ[j]?) → Q σ' H'
theorem pgs_weak {es : List Expr} {t t' : TGs} (h : PGs X es t) (k : ∀ v σ H Q, t' v σ H Q → t v σ H Q) : PGs X es t' := ⟨fun pins s σ H v u Q I r q => h.run pins s σ H v u Q I r (k v σ H Q q)⟩
theorem gds_nil : PGs X [] (gsD X.K []) := by
  refine pgs_weak pgs_nil fun vs σ H Q ⟨θ, B, ρ, ds, c, r, ρ', e, k⟩ => ?_
  cases ds with
  | nil =>
    simp only [bndS] at e
    cases e
    simp only [Reps] at r
    exact ⟨r, k _ _ _ (Step.refl c) rfl (fun _ _ => rfl) (fun _ _ => rfl)⟩
  | cons d ds => simp only [bndS, reduceCtorEq] at e
theorem gds_cons {i : Nat} {is : List Nat} {x : Str} {p : Pos} {es : List Expr} (h : PG X (.Name x p) (gName i)) (t : PGs X es (gsD X.K is)) (hs : (assignEach (.Name x p :: es) X.env).map (·.2) = assign (.Name x p) X.env :: (assignEach es X.env).map (·.2) := by rfl) :
    PGs X (.Name x p :: es) (gsD X.K (i :: is)) := by
  refine pgs_weak (pgs_cons h t hs) fun vs σ H Q ⟨θ, B, ρ, ds, c, r, ρ', e, k⟩ => ?_
  cases ds with
  | nil => simp only [bndS, reduceCtorEq] at e
  | cons d ds =>
    simp only [Reps] at r
    simp only [bndS] at e
    obtain ⟨v, ws, rfl, r1, r2⟩ := r
    have st := c.set i r1
    refine ⟨v, ws, rfl, θ, B, _, ds, st.cf, r2, ρ', e, fun σ' B' H' s2 hl hj hr => ?_⟩
    refine k σ' B' H' (st.trans s2) (by rw [hl, List.length_set]) (fun j z => ?_) (fun j z => ?_)
    · rw [List.mem_cons, not_or] at z
      rw [hj j z.2, List.getElem?_set_ne (Ne.symm z.1)]
    · rw [List.mem_cons, not_or] at z
      rw [hr j z.2, List.getElem?_set_ne (Ne.symm z.1)]
def tupOf : D → Option (List D)
  | .tup ds => some ds
  | _ => none
def bndT (is : List Nat) (d : D) : M Unit := fun ρ => match tupOf d with
  | some ds => bndS is ds ρ
  | none => .no
theorem bndT_ok {is : List Nat} {d : D} {ρ ρ' : Rho} (e : bndT is d ρ = .ok () ρ') : ∃ ds, d = .tup ds ∧ bndS is ds ρ = .ok () ρ' := by
  unfold bndT at e
  cases d <;> simp only [tupOf, reduceCtorEq] at e
  exact ⟨_, rfl, e⟩
theorem bndS_len : ∀ {is : List Nat} {ds : List D} {ρ ρ' : Rho}, bndS is ds ρ = .ok () ρ' → ds.length = is.length
  | [], [], _, _, _ => rfl
  | [], _ :: _, _, _, e => by simp only [bndS, reduceCtorEq] at e
  | _ :: _, [], _, _, e => by simp only [bndS, reduceCtorEq] at e
  | i :: is, d :: ds, ρ, ρ', e => by
    simp only [bndS] at e
    rw [List.length_cons, List.length_cons, bndS_len (is := is) e]
theorem gd_tup {es : List Expr} {k : Nat} {is : List Nat} (hc : X.calm = true) (h : PGs X es (gsD X.K is)) (hn : (assignEach es X.env).length = is.length := by rfl) (hst : (assignEach es X.env).findIdx? (·.1) = none := by rfl) :
    PG X (.Tuple es k pos) (gD X.K is (bndT is)) := by
  refine pg_weak (pg_tup hc h hn hst) fun v σ H Q ⟨θ, B, ρ, d, c, r, ρ', e, kk⟩ => ?_
  obtain ⟨ds, rfl, e⟩ := bndT_ok e
  simp only [Rep] at r
  obtain ⟨a, xs, rfl, h1, h2⟩ := r
  exact ⟨a, xs, rfl, Same.sqt c.bh h1, by rw [← h2.length]; exact bndS_len e, θ, B, ρ, _, c, h2, ρ', e, kk⟩
/-! a, b, .. = e -/
variable {E : WX} {e : Expr} {f : M D}
def asgS (bnd : D → M Unit) (f : M D) : M Out := f >>= fun d => bnd d >>= fun _ => M.ret .nx
theorem sd_asg {ts : List Nat} {tg : Expr} {bnd : D → M Unit} (hg : PG X tg (gD X.K ts bnd)) (he : PE X e (tD X.K E f)) (hx : ∀ d ρ x ρ', bnd d ρ ≠ .ex x ρ') (hs : swapsWithSole [tg] e pos.line X.env = pure false := by rfl) (hw : swappedStores [tg] e X.env = pure none := by rfl)
    (h1 : (assignEach [tg] X.env).map (·.2) = [assign tg X.env] := by rfl) : PS X (.Assign [tg] e pos) (tS X.K E (asgS bnd f)) := by
  refine ps_weak (ps_asg he hg hs hw h1) fun Dn σ H ⟨θ, B, ρ, c, h⟩ => ⟨θ, B, ρ, c, h.seq.imp ?_⟩
  rintro d ρ' v B' H1 - - - ⟨d, B1, ρ1, st1, rv, h1⟩
  cases e1 : bnd d ρ1 with
  | no =>
    rw [bnd_no e1] at h1
    exact h1.elim
  | ex x ρ2 => exact absurd e1 (hx d ρ1 x ρ2)
  | ok u ρ2 =>
    rw [bnd_ok e1] at h1
    exact ⟨θ, B1, ρ1, d, st1.cf, rv, ρ2, e1, fun σ' B' H' s2 _ _ _ => h1 _ _ _ (st1.trans s2)⟩
theorem bndS_noex : ∀ {is : List Nat} {ds : List D} {ρ : Rho} {x : Xn} {ρ' : Rho}, bndS is ds ρ ≠ .ex x ρ'
  | [], [], _, _, _ => by simp only [bndS, ne_eq, reduceCtorEq, not_false_eq_true]
  | i :: is, d :: ds, ρ, x, ρ' => by
    simp only [bndS]
    exact bndS_noex
  | _ :: _, [], _, _, _ => by simp only [bndS, ne_eq, reduceCtorEq, not_false_eq_true]
  | [], _ :: _, _, _, _ => by simp only [bndS, ne_eq, reduceCtorEq, not_false_eq_true]
theorem bndT_noex {is : List Nat} : ∀ d ρ x ρ', bndT is d ρ ≠ .ex x ρ' := fun d ρ x ρ' => by
  unfold bndT
  split
  · exact bndS_noex
  · simp only [ne_eq, reduceCtorEq, not_false_eq_true]
theorem bndN_noex {i : Nat} : ∀ d ρ x ρ', bndN i d ρ ≠ .ex x ρ' := fun d ρ x ρ' => by simp only [bndN, ne_eq, reduceCtorEq, not_false_eq_true]
end

/-! ### what is walked -/
structure Yields (K : PySem.W.Frag) (B : Hp) (J : It) (ds : List D) : Prop where
  stop : ∀ H, Same B H → J.stop ds.length H
  go : ∀ i H, i < ds.length → Same B H → J.go i H
  yld : ∀ i d H x H', ds[i]? = some d → Same B H → J.yld i H x H' → (H' = H ∧ Rep K B d x) ∨ ∃ p o, H p = none ∧ H' = upd H p o ∧ Rep K (upd B p o) d x
def RY (K : PySem.W.Frag) : Rl (List D) It := fun _ _ B _ _ ds J => Yields K B J ds
instance (K : PySem.W.Frag) : RlM (RY K) := ⟨fun _ h => h⟩
abbrev tI (K : PySem.W.Frag) (E : WX) (f : M (List D)) : TI := tR K E (RY K) f
section
variable {K : PySem.W.Frag} {B : Hp}
theorem yields_list {a : Addr} {xs : List V} {ds : List D} (h : B a = some (.lst xs)) (r : Reps K B ds xs) : Yields K B (Itl K a) ds where
  stop := fun H s => ⟨xs, SqL.of (s _ _ h), Nat.le_of_eq r.length.symm⟩
  go := fun i H hi s => by
    rw [r.length] at hi
    exact ⟨xs, xs[i], SqL.of (s _ _ h), List.getElem?_eq_getElem hi⟩
  yld := fun i d H x H' e s ⟨e1, e2⟩ => by
    obtain ⟨v, e3, rv⟩ := r.get e
    rw [e2 xs (SqL.of (s _ _ h))] at e3
    cases e3
    exact .inl ⟨e1, rv⟩
theorem yields_tup {a : Addr} {xs : List V} {ds : List D} (h : SqT K B a xs) (r : Reps K B ds xs) : Yields K B (Itt K a) ds where
  stop := fun H s => ⟨xs, Same.sqt s h, Nat.le_of_eq r.length.symm⟩
  go := fun i H hi s => by
    rw [r.length] at hi
    exact ⟨xs, xs[i], Same.sqt s h, List.getElem?_eq_getElem hi⟩
  yld := fun i d H x H' e s ⟨e1, e2⟩ => by
    obtain ⟨v, e3, rv⟩ := r.get e
    rw [e2 xs (Same.sqt s h)] at e3
    cases e3
    exact .inl ⟨e1, rv⟩
def rangeL (lo : Int) (n : Nat) : List D := (List.range n).map fun k => .int (lo + (k : Nat))
theorem yields_range {lo : Int} {n : Nat} : Yields K B (Itr lo n) (rangeL lo n) where
  stop := fun H s => by
    show n ≤ _
    simp [rangeL]
  go := fun i H hi s => by
    show i < n
    simpa [rangeL] using hi
  yld := fun i d H x H' e s ⟨e1, e2⟩ => by
    refine .inl ⟨e1, ?_⟩
    subst e2
    unfold rangeL at e
    rw [List.getElem?_map] at e
    cases q : (List.range n)[i]? with
    | none =>
      rw [q] at e
      cases e
    | some k =>
      rw [q] at e
      have hk := List.getElem?_range (show i < n by
        have := (List.getElem?_eq_some_iff.mp q).1
        simpa using this)
      rw [q] at hk
      cases hk
      cases e
      simp only [Rep]
def signsL (z : Str) : List D := z.cps.toList.map fun c => .str ⟨#[c]⟩
theorem yields_str {z : Str} : Yields K B (Its z) (signsL z) where
  stop := fun H s => by
    show z.cps.size ≤ _
    simp [signsL]
  go := fun i H hi s => by
    show i < z.cps.size
    simpa [signsL] using hi
  yld := fun i d H x H' e s ⟨e1, c, e2, e3⟩ => by
    refine .inl ⟨e1, ?_⟩
    subst e3
    unfold signsL at e
    rw [List.getElem?_map, Array.getElem?_toList, e2] at e
    cases e
    simp only [Rep]
end
section
variable {X : Cx} {E : WX} {tg e : Expr} {f : M D}
theorem pi_weak {w w' : TI} (h : PI X tg e w) (k : ∀ σ H R, w' σ H R → w σ H R) : PI X tg e w' := ⟨fun pins s σ H R I q => h.run pins s σ H R I (k σ H R q)⟩
theorem pi_or {w w' : TI} (h : PI X tg e w) (h' : PI X tg e w') : PI X tg e (fun σ H R => w σ H R ∨ w' σ H R) := ⟨fun pins s σ H R I q => q.elim (h.run pins s σ H R I) (h'.run pins s σ H R I)⟩
def itemsD : D → Option (List D)
  | .lst ds => some ds
  | .tup ds => some ds
  | .str z => some (signsL z)
  | _ => none
def seqI (f : M D) : M (List D) := f >>= fun d => M.opt (itemsD d)
theorem At.known {α β : Type} {K : PySem.W.Frag} {R R2 : Rl α β} {θ : Nat → Addr} {σ : L2.St} {B H : Hp} {ρ : Rho} {Q Q' : β → Hp → Prop} {r : Rs α} (h : At K E R θ σ B H ρ Q r) (hn : ∀ a ρ', r ≠ .ok a ρ') : At K E R2 θ σ B H ρ Q' r := by
  cases r with
  | no => exact h
  | ex x ρ' => exact h
  | ok a ρ' => exact absurd rfl (hn a ρ')
/-- the part is known: what is left -/
theorem At.step {α γ δ : Type} {K : PySem.W.Frag} {E : WX} {R' : Rl γ δ} {θ : Nat → Addr} {σ : L2.St} {B H : Hp} {ρ ρ1 : Rho} {f : M α} {g : α → M γ} {a : α} {Q : δ → Hp → Prop} (h : At K E R' θ σ B H ρ Q ((f >>= g) ρ)) (e : f ρ = .ok a ρ1) : At K E R' θ σ B H ρ Q (g a ρ1) := by
  rw [bnd_ok e] at h
  exact h
theorem At.optS {γ δ : Type} {K : PySem.W.Frag} {E : WX} {R' : Rl γ δ} {θ : Nat → Addr} {σ : L2.St} {B H : Hp} {ρ ρ1 : Rho} {Q : δ → Hp → Prop} {o : Option γ} (h : At K E R' θ σ B H ρ Q (M.opt o ρ1)) : ∃ a, o = some a ∧ ∀ x B' H', Step K θ σ B H ρ σ B' H' ρ1 → R' H σ B' H' ρ1 a x → Q x H' := by
  cases o with
  | none => exact h.elim
  | some a => exact ⟨a, rfl, h⟩
theorem pi_seq (h : PE X e (tD X.K E f)) : PI X tg e (tI X.K E (seqI f)) := by
  refine pi_weak (pi_or (pi_list h) (pi_or (pi_tup h) (pi_str h))) ?_
  rintro σ H R ⟨θ, B, ρ, c, h⟩
  cases e0 : f ρ with
  | no =>
    have hs := h.seq (R := RD X.K)
    rw [e0] at hs
    exact hs.elim
  | ex x ρ1 =>
    have hs := h.seq (R := RD X.K)
    rw [e0] at hs
    exact .inl ⟨θ, B, ρ, c, by rw [e0]; exact hs⟩
  | ok d ρ1 =>
    obtain ⟨es, ee, k⟩ := (h.step e0).optS
    cases d <;> simp only [itemsD, reduceCtorEq] at ee
    · cases ee
      refine .inr (.inr ⟨θ, B, ρ, c, ?_⟩)
      rw [e0]
      exact fun x B1 H1 st1 rx => ⟨_, rep_str rx, k _ _ _ st1 yields_str⟩
    · cases ee
      refine .inr (.inl ⟨θ, B, ρ, c, ?_⟩)
      rw [e0]
      intro x B1 H1 st1 rx
      have rx : Rep X.K B1 (.tup es) x := rx
      simp only [Rep] at rx
      obtain ⟨a, xs, rfl, h1, h2⟩ := rx
      exact ⟨a, rfl, ⟨xs, Same.sqt st1.cf.bh h1⟩, k _ _ _ st1 (yields_tup h1 h2)⟩
    · cases ee
      refine .inl ⟨θ, B, ρ, c, ?_⟩
      rw [e0]
      intro x B1 H1 st1 rx
      have rx : Rep X.K B1 (.lst es) x := rx
      simp only [Rep] at rx
      obtain ⟨a, xs, rfl, h1, h2⟩ := rx
      exact ⟨a, rfl, ⟨xs, SqL.of (st1.cf.bh _ _ h1)⟩, k _ _ _ st1 (yields_list h1 h2)⟩
def inR (j : Int) : Bool := decide (-(2 ^ 62) ≤ j) && decide (j < 2 ^ 62)
def rng1 : D → Option (List D)
  | .int j => if inR j then some (rangeL 0 j.toNat) else none
  | _ => none
def rng2 : D → D → Option (List D)
  | .int i, .int j => if inR i && inR j then some (rangeL i (j - i).toNat) else none
  | _, _ => none
def rngI (f : M D) : M (List D) := f >>= fun d => M.opt (rng1 d)
def rngI2 (f g : M D) : M (List D) := f >>= fun d => g >>= fun e => M.opt (rng2 d e)
theorem inR_ok {j : Int} (h : inR j = true) : -(2 ^ 62) ≤ j ∧ j < 2 ^ 62 := by
  unfold inR at h
  rw [Bool.and_eq_true, decide_eq_true_eq, decide_eq_true_eq] at h
  exact h
theorem pi_rng1 {a : Expr} {p pos : Pos} (hg : Gl X "range") (hm : X.mg "range" = none) (ha : PE X a (tD X.K E f)) (hs : starEach [a] X.env = [(false, eval a X.env)] := by rfl) (hs0 : starEach [a] X.env = (false, eval a X.env) :: starEach [] X.env := by rfl) :
    PI X tg (.Call (.Name "range" p) [a] [] pos) (tI X.K E (rngI f)) := by
  refine pi_weak (pi_range1 hg hm (pa_cons ha pa_nil hs0) hs) ?_
  rintro σ H R ⟨θ, B, ρ, c, h⟩
  refine ⟨θ, B, ρ, c, h.seq.imp ?_⟩
  rintro d ρ' x B' H1 - - - ⟨d, B1, ρ1, st1, rx, h1⟩
  obtain ⟨es, ee, k⟩ := h1.opt
  cases d <;> simp only [rng1, reduceCtorEq] at ee
  split at ee
  · rename_i hz
    cases ee
    obtain ⟨h1, h2⟩ := inR_ok hz
    refine ⟨_, by rw [rep_int rx], h1, h2, k _ _ _ (Step.refl st1.cf) yields_range⟩
  · cases ee
theorem pi_rng2 {g : M D} {a b : Expr} {p pos : Pos} (hg : Gl X "range") (hm : X.mg "range" = none) (ha : PE X a (tD X.K E f)) (hb : PE X b (tD X.K E g)) (hs : starEach [a, b] X.env = [(false, eval a X.env), (false, eval b X.env)] := by rfl) (hs2 : starEach [b] X.env = [(false, eval b X.env)] := by rfl)
    (hs0 : starEach [a, b] X.env = (false, eval a X.env) :: starEach [b] X.env := by rfl) (hs1 : starEach [b] X.env = (false, eval b X.env) :: starEach [] X.env := by rfl) : PI X tg (.Call (.Name "range" p) [a, b] [] pos) (tI X.K E (rngI2 f g)) := by
  refine pi_weak (pi_range2 hg hm (pa_cons ha (pa_cons hb pa_nil hs1) hs0) hs hs2) ?_
  rintro σ H R ⟨θ, B, ρ, c, h⟩
  refine ⟨θ, B, ρ, c, h.seq.imp ?_⟩
  rintro d ρ' x B' H1 - - - ⟨d, B1, ρ1, st1, rx, h1⟩
  refine ⟨θ, B1, ρ1, st1.cf, h1.seq.imp ?_⟩
  rintro e ρ' y B' H2 - - - ⟨e, B2, ρ2, st2, ry, h2⟩
  obtain ⟨es, ee, k⟩ := h2.opt
  cases d <;> cases e <;> simp only [rng2, reduceCtorEq] at ee
  split at ee
  · rename_i hz
    cases ee
    rw [Bool.and_eq_true] at hz
    obtain ⟨h1, h2⟩ := inR_ok hz.1
    obtain ⟨h3, h4⟩ := inR_ok hz.2
    exact ⟨_, _, by rw [rep_int rx, rep_int ry], ⟨h1, h2, h3, h4⟩, k _ _ _ (Step.refl st2.cf) yields_range⟩
  · cases ee
end

/-! ### for -/
def loopS (bnd : D → M Unit) (body : M Out) : List D → M Out
  | [] => M.ret .nx
  | d :: ds => bnd d >>= fun _ => body >>= fun o => match o with
    | .nx => loopS bnd body ds
    | .ct => loopS bnd body ds
    | .bk => M.ret .nx
    | .rt d => M.ret (.rt d)
def forS (src : M (List D)) (bnd : D → M Unit) (body : M Out) : M Out := src >>= fun ds => loopS bnd body ds
section
variable {X : Cx} {E : WX} {tg iter : Expr} {body : List Stmt} {pos : Pos} {src : M (List D)} {bnd : D → M Unit} {fb : M Out} {ts : List Nat}
theorem AtS.step {α : Type} {K : PySem.W.Frag} {E : WX} {θ : Nat → Addr} {σ : L2.St} {B H : Hp} {ρ ρ1 : Rho} {Dn : Ends} {f : M α} {g : α → M Out} {a : α} (h : AtS K E θ σ B H ρ Dn ((f >>= g) ρ)) (e : f ρ = .ok a ρ1) : AtS K E θ σ B H ρ Dn (g a ρ1) := by
  rw [bnd_ok e] at h
  exact h
theorem sd_for (hp : PassesOwn (model X.prog X.w) X.A X.env X.xe) (hc : X.calm = true) (hi : PI X tg iter (tI X.K E src)) (hg : PG X tg (gD X.K ts bnd)) (hx : ∀ d ρ x ρ', bnd d ρ ≠ .ex x ρ') (hb : PSs X body (tS X.K E fb))
    (hs : ∀ x, foldedSetIterable iter X.env x = pure x := by intro _; rfl) : PS X (.For tg iter body [] pos) (tS X.K E (forS src bnd fb)) := by
  refine ps_weak (ps_for hp hc hi hg hb hs) fun Dn σ0 H0 ⟨θ, B0, ρ0, c0, h0⟩ => ⟨θ, B0, ρ0, c0, h0.seq.imp ?_⟩
  rintro d ρ' J B' H1 - - - ⟨ds, B1, ρ1, st1, ys, h1⟩
  have ys : Yields X.K B1 J ds := ys
  refine ⟨fun i m σ H => m = ds.length - i ∧ i ≤ ds.length ∧ ∃ B ρ, Cf X.K θ B H σ ρ ∧ Same B1 B ∧ AtS X.K E θ σ B H ρ Dn (loopS bnd fb (ds.drop i) ρ), ⟨ds.length, by simp, Nat.zero_le _, B1, ρ1, st1.cf, Same.refl _, h1.from st1⟩, ?_⟩
  rintro i m σ H ⟨rfl, hi, B, ρ, c, sB, h⟩
  by_cases hlt : i < ds.length
  · refine .inr ⟨ys.go i H hlt (sB.trans c.bh), fun σ' H' => ∃ B' ρ', Cf X.K θ B' H' σ' ρ' ∧ Same B1 B' ∧ AtS X.K E θ σ' B' H' ρ' Dn (loopS bnd fb (ds.drop (i + 1)) ρ'), fun σ' H' ⟨B', ρ', z⟩ => ⟨ds.length - (i + 1), by omega, rfl, hlt, B', ρ', z⟩, fun x H2 hy => ?_⟩
    rw [List.drop_eq_getElem_cons hlt] at h
    have hd : ds[i]? = some ds[i] := List.getElem?_eq_getElem hlt
    -- the item
    obtain ⟨B2, st2, rx⟩ : ∃ B2, Step X.K θ σ B H ρ σ B2 H2 ρ ∧ Rep X.K B2 ds[i] x := by
      rcases ys.yld i _ H x H2 hd (sB.trans c.bh) hy with ⟨rfl, r⟩ | ⟨p, o, hp, rfl, r⟩
      · exact ⟨B, Step.refl c, r.mono sB⟩
      · refine ⟨upd B p o, c.laid hp o, r.mono fun b w q => ?_⟩
        by_cases hb : b = p
        · subst hb
          rw [upd_same] at q ⊢
          exact q
        · rw [upd_ne hb] at q ⊢
          exact sB b w q
    cases e1 : bnd ds[i] ρ with
    | no =>
      simp only [loopS] at h
      rw [bnd_no e1] at h
      exact h.elim
    | ex x ρ2 => exact absurd e1 (hx _ ρ x ρ2)
    | ok u ρ2 =>
      simp only [loopS] at h
      rw [bnd_ok e1] at h
      refine ⟨θ, B2, ρ, ds[i], st2.cf, rx, ρ2, e1, fun σ3 B3 H3 st3 _ _ _ => ?_⟩
      have st := st2.trans st3
      refine ⟨θ, B3, ρ2, st.cf, ?_⟩
      have hh := h.from st
      have sB3 : Same B1 B3 := sB.trans st.bb
      cases eb : fb ρ2 with
      | no =>
        rw [bnd_no eb] at hh
        exact hh.elim
      | ex x ρ4 =>
        rw [bnd_ex eb] at hh
        exact hh
      | ok o ρ4 =>
        rw [bnd_ok eb] at hh
        cases o with
        | nx => exact fun σ' B' H' s4 => ⟨B', ρ4, s4.cf, sB3.trans s4.bb, hh.from s4⟩
        | ct => exact fun σ' B' H' s4 => ⟨B', ρ4, s4.cf, sB3.trans s4.bb, hh.from s4⟩
        | bk => exact hh
        | rt d => exact hh
  · have e : i = ds.length := by omega
    subst e
    rw [List.drop_length] at h
    exact .inl ⟨ys.stop H (sB.trans c.bh), h _ _ _ (Step.refl c)⟩
/-! ### while -/
def wN (t : M Bool) (b : M Out) : Nat → M Out
  | 0 => fun _ => .no
  | n + 1 => t >>= fun c => if c then b >>= fun o => match o with
      | .nx => wN t b n
      | .ct => wN t b n
      | .bk => M.ret .nx
      | .rt d => M.ret (.rt d)
    else M.ret .nx
open Classical in
noncomputable def whileS (t : M Bool) (b : M Out) : M Out := fun ρ => if h : ∃ n, wN t b n ρ ≠ .no then wN t b (Classical.choose h) ρ else .no
theorem sd_while {t : Expr} {ft : M Bool} (hp : PassesOwn (model X.prog X.w) X.A X.env X.xe) (ht : PT X t (tT X.K E ft)) (hb : PSs X body (tS X.K E fb)) : PS X (.While t body [] pos) (tS X.K E (whileS ft fb)) := by
  refine ps_weak (ps_while hp ht hb) fun Dn σ0 H0 ⟨θ, B0, ρ0, c0, h0⟩ => ?_
  unfold whileS at h0
  split at h0
  · rename_i hn
    generalize Classical.choose hn = n0 at h0
    refine ⟨fun m σ H => ∃ B ρ, Cf X.K θ B H σ ρ ∧ AtS X.K E θ σ B H ρ Dn (wN ft fb m ρ), ⟨n0, B0, ρ0, c0, h0⟩, ?_⟩
    rintro m σ H ⟨B, ρ, c, h⟩
    cases m with
    | zero => exact h.elim
    | succ m =>
      simp only [wN] at h
      refine ⟨θ, B, ρ, c, h.seq.imp ?_⟩
      rintro d ρ' x B' H1 - - - ⟨d, B1, ρ1, st1, rx, h1⟩
      have e : d = x := rx
      subst e
      cases d with
      | false => exact iteF (h1 _ _ _ st1)
      | true =>
        refine iteT ⟨fun σ' H' => ∃ B' ρ', Cf X.K θ B' H' σ' ρ' ∧ AtS X.K E θ σ' B' H' ρ' Dn (wN ft fb m ρ'), fun σ' H' ⟨B', ρ', z⟩ => ⟨m, Nat.lt_succ_self m, B', ρ', z⟩, θ, B1, ρ1, st1.cf, ?_⟩
        have hh := h1.from st1
        simp only [if_true] at hh
        cases eb : fb ρ1 with
        | no =>
          rw [bnd_no eb] at hh
          exact hh.elim
        | ex x ρ4 =>
          rw [bnd_ex eb] at hh
          exact hh
        | ok o ρ4 =>
          rw [bnd_ok eb] at hh
          cases o with
          | nx => exact fun σ' B' H' s4 => ⟨B', ρ4, s4.cf, hh.from s4⟩
          | ct => exact fun σ' B' H' s4 => ⟨B', ρ4, s4.cf, hh.from s4⟩
          | bk => exact hh
          | rt d => exact hh
  · exact h0.elim
end
end Nc

/-! List comprehensions. -/
namespace Nc
open PySem PySem.Spec PyProof.Rows L2

def wipeR (ρ : Rho) : List Nat → Rho
  | [] => ρ
  | v :: vs => (wipeR ρ vs).set v none
theorem wipeR_length (ρ : Rho) : ∀ vs : List Nat, (wipeR ρ vs).length = ρ.length
  | [] => rfl
  | v :: vs => by unfold wipeR; rw [List.length_set, wipeR_length ρ vs]
theorem wipe_at {σ : L2.St} {j : Nat} : ∀ {vs : List Nat}, j ∉ vs → (wipe σ vs)[j]? = σ[j]?
  | [], _ => rfl
  | v :: vs, h => by
    rw [List.mem_cons, not_or] at h
    unfold wipe
    rw [List.getElem?_set_ne (Ne.symm h.1), wipe_at h.2]
theorem wipe_in {σ : L2.St} {j : Nat} : ∀ {vs : List Nat}, j ∈ vs → j < σ.length → (wipe σ vs)[j]? = some none
  | v :: vs, h, l => by
    unfold wipe
    by_cases e : v = j
    · subst e
      rw [List.getElem?_set_self (by rw [wipe_length]; exact l)]
    · rw [List.getElem?_set_ne e]
      exact wipe_in (by rcases List.mem_cons.mp h with z | z; exact absurd z.symm e; exact z) l
theorem wipeR_at {σ : Rho} {j : Nat} : ∀ {vs : List Nat}, j ∉ vs → (wipeR σ vs)[j]? = σ[j]?
  | [], _ => rfl
  | v :: vs, h => by
    rw [List.mem_cons, not_or] at h
    unfold wipeR
    rw [List.getElem?_set_ne (Ne.symm h.1), wipeR_at h.2]
theorem wipeR_in {σ : Rho} {j : Nat} : ∀ {vs : List Nat}, j ∈ vs → j < σ.length → (wipeR σ vs)[j]? = some none
  | v :: vs, h, l => by
    unfold wipeR
    by_cases e : v = j
    · subst e
      rw [List.getElem?_set_self (by rw [wipeR_length]; exact l)]
    · rw [List.getElem?_set_ne e]
      exact wipeR_in (by rcases List.mem_cons.mp h with z | z; exact absurd z.symm e; exact z) l
theorem wipe_same {σ σ' : L2.St} {vs ts : List Nat} (hts : ∀ i ∈ ts, i ∈ vs) (hl : σ'.length = σ.length) (h : ∀ j, j ∉ ts → σ'[j]? = (wipe σ vs)[j]?) : wipe σ' vs = wipe σ vs := by
  refine List.ext_getElem? fun j => ?_
  by_cases hj : j ∈ vs
  · by_cases l : j < σ.length
    · rw [wipe_in hj (by rw [hl]; exact l), wipe_in hj l]
    · rw [List.getElem?_eq_none (by rw [wipe_length]; omega), List.getElem?_eq_none (by rw [wipe_length]; omega)]
  · rw [wipe_at hj, h j fun z => hj (hts j z)]
/-- behind a turn: the block's own slots as they were outside -/
def mixR (ρ ρ' : Rho) (vs : List Nat) : Rho := ρ'.mapIdx fun i s => if i ∈ vs then (ρ[i]?).getD none else s
theorem mixR_length (ρ ρ' : Rho) (vs : List Nat) : (mixR ρ ρ' vs).length = ρ'.length := by unfold mixR; rw [List.length_mapIdx]
theorem mixR_at {ρ ρ' : Rho} {vs : List Nat} (hl : ρ'.length = ρ.length) (j : Nat) : (mixR ρ ρ' vs)[j]? = if j ∈ vs then ρ[j]? else ρ'[j]? := by
  unfold mixR
  rw [List.getElem?_mapIdx]
  by_cases l : j < ρ.length
  · rw [List.getElem?_eq_getElem (show j < ρ'.length by omega), List.getElem?_eq_getElem l]
    by_cases h : j ∈ vs
    · simp [h]
    · simp [h]
  · rw [List.getElem?_eq_none (show ρ'.length ≤ j by omega), List.getElem?_eq_none (show ρ.length ≤ j by omega)]
    simp
section
variable {K : PySem.W.Frag} {θ : Nat → Addr} {σ σ3 : L2.St} {B B3 H H3 : Hp} {ρ ρ3 : Rho} {vs : List Nat}
theorem own_wipe {p : Addr} {i : Nat} (h : OwnAt (wipe σ vs) (wipeR ρ vs) i p) (hl : σ.length = ρ.length) : OwnAt σ ρ i p ∧ i ∉ vs := by
  obtain ⟨⟨t, o, e⟩, e2⟩ := h
  by_cases hi : i ∈ vs
  · by_cases l : i < ρ.length
    · rw [wipeR_in hi l] at e
      cases e
    · rw [List.getElem?_eq_none (by rw [wipeR_length]; omega)] at e
      cases e
  · rw [wipeR_at hi] at e
    rw [wipe_at hi] at e2
    exact ⟨⟨⟨t, o, e⟩, e2⟩, hi⟩
/-- into the block -/
theorem Cf.wiped (c : Cf K θ B H σ ρ) : Cf K θ B H (wipe σ vs) (wipeR ρ vs) where
  bh := c.bh
  len := by rw [wipe_length, wipeR_length]; exact c.len
  at_ := fun i s e => by
    by_cases hi : i ∈ vs
    · by_cases l : i < ρ.length
      · rw [wipeR_in hi l] at e
        cases e
        trivial
      · rw [List.getElem?_eq_none (by rw [wipeR_length]; omega)] at e
        cases e
    · rw [wipeR_at hi] at e
      rw [wipe_at hi]
      exact c.at_ i s e
  sep := fun i j p h1 h2 => c.sep i j p (own_wipe h1 c.len).1 (own_wipe h2 c.len).1
/-- out of the block -/
theorem Step.unwiped (c : Cf K θ B H σ ρ) (st : Step K θ (wipe σ vs) B H (wipeR ρ vs) σ3 B3 H3 ρ3) (hw : wipe σ3 vs = wipe σ vs) : Step K θ σ B H ρ σ B3 H3 (mixR ρ ρ3 vs) := by
  have l3 : σ3.length = σ.length := by
    have := congrArg List.length hw
    rw [wipe_length, wipe_length] at this
    exact this
  have lr : ρ3.length = ρ.length := by rw [← st.cf.len, l3, c.len]
  have sub : ∀ b, OwnA (wipe σ vs) (wipeR ρ vs) b → OwnA σ ρ b := fun b ⟨i, z⟩ => ⟨i, (own_wipe z c.len).1⟩
  have at3 : ∀ j, j ∉ vs → σ3[j]? = σ[j]? := fun j hj => by
    have := congrArg (fun l => l[j]?) hw
    simp only [wipe_at hj] at this
    exact this
  -- an own object that the block did not see
  have hid : ∀ i p, i ∈ vs → OwnAt σ ρ i p → ¬ OwnA (wipe σ vs) (wipeR ρ vs) p := fun i p hi z ⟨j, y⟩ => by
    obtain ⟨y, hj⟩ := own_wipe y c.len
    exact hj (c.sep j i p y z ▸ hi)
  have own3 : ∀ i p, OwnAt σ (mixR ρ ρ3 vs) i p → (i ∈ vs ∧ OwnAt σ ρ i p) ∨ (i ∉ vs ∧ OwnAt σ3 ρ3 i p) := fun i p ⟨⟨t, o, e⟩, e2⟩ => by
    rw [mixR_at lr] at e
    by_cases hi : i ∈ vs
    · rw [if_pos hi] at e
      exact .inl ⟨hi, ⟨t, o, e⟩, e2⟩
    · rw [if_neg hi] at e
      rw [← at3 i hi] at e2
      exact .inr ⟨hi, ⟨t, o, e⟩, e2⟩
  refine ⟨⟨st.cf.bh, by rw [mixR_length, lr, c.len], fun i s e => ?_, fun i j p h1 h2 => ?_⟩, st.bb, fun b o e n => st.keep b o e fun z => n (sub b z), st.there, fun b q n => (st.new b q n).imp_right (sub b), fun b ⟨i, z⟩ => ?_⟩
  · rw [mixR_at lr] at e
    by_cases hi : i ∈ vs
    · rw [if_pos hi] at e
      have q := c.at_ i s e
      cases s with
      | none => trivial
      | some s =>
        cases s with
        | val d =>
          obtain ⟨x, h1, h2⟩ := q
          exact ⟨x, h1, h2.mono st.bb⟩
        | own t o =>
          obtain ⟨p, u, e1, b1, k1, r1, t1, oa⟩ := c.own e
          have no := hid i p hi oa
          refine ⟨p, u, by rw [e1]; rfl, ?_, st.keep p u k1 no, r1.mono st.bb, t1⟩
          refine Classical.byContradiction fun y => ?_
          rcases st.new p y b1 with z | z
          · rw [k1] at z
            cases z
          · exact no z
    · rw [if_neg hi] at e
      have q := st.cf.at_ i s e
      rw [at3 i hi] at q
      exact q
  · rcases own3 i p h1 with ⟨i1, y1⟩ | ⟨i1, y1⟩
    · rcases own3 j p h2 with ⟨j1, y2⟩ | ⟨j1, y2⟩
      · exact c.sep i j p y1 y2
      · rcases st.own p ⟨j, y2⟩ with z | z
        · exact absurd z (hid i p i1 y1)
        · obtain ⟨_, q⟩ := y1.not_frozen c
          exact absurd z q
    · rcases own3 j p h2 with ⟨j1, y2⟩ | ⟨j1, y2⟩
      · rcases st.own p ⟨i, y1⟩ with z | z
        · exact absurd z (hid j p j1 y2)
        · obtain ⟨_, q⟩ := y2.not_frozen c
          exact absurd z q
      · exact st.cf.sep i j p y1 y2
  · rcases own3 i b z with ⟨_, y⟩ | ⟨_, y⟩
    · exact .inl ⟨i, y⟩
    · rcases st.own b ⟨i, y⟩ with q | q
      · exact .inl (sub b q)
      · exact .inr q
/-- an object that no slot knows is changed -/
theorem Step.poke {K : PySem.W.Frag} {θ : Nat → Addr} {σ : L2.St} {B H : Hp} {ρ : Rho} (c : Cf K θ B H σ ρ) {p : Addr} (hB : B p = Option.none) (no : ¬ OwnA σ ρ p) (u : HO) : Cf K θ B (upd H p u) σ ρ := by
  refine ⟨fun b w q => ?_, c.len, fun i s e => ?_, c.sep⟩
  · rw [upd_ne (ne_of_none q hB)]
    exact c.bh b w q
  · have q := c.at_ i s e
    cases s with
    | none => trivial
    | some s =>
      cases s with
      | val d => exact q
      | own t o =>
        obtain ⟨p', u', e1, b1, k1, r1, t1, oa⟩ := c.own e
        have np : p' ≠ p := fun y => by
          subst y
          exact no ⟨i, oa⟩
        exact ⟨p', u', by rw [e1]; rfl, b1, by rw [upd_ne np]; exact k1, r1, t1⟩
end

theorem Step.pokeS {K : PySem.W.Frag} {θ : Nat → Addr} {σ σ1 : L2.St} {B B1 H H1 : Hp} {ρ ρ1 : Rho} (st : Step K θ σ B H ρ σ1 B1 H1 ρ1) {p : Addr} (hp : H p = Option.none) (hB : B1 p = Option.none) (no : ¬ OwnA σ1 ρ1 p) (u : HO) : Step K θ σ B H ρ σ1 B1 (upd H1 p u) ρ1 where
  cf := Step.poke st.cf hB no u
  bb := st.bb
  keep := fun b o e n => by
    rw [upd_ne (ne_of_none e hp)]
    exact st.keep b o e n
  there := fun b e => by
    by_cases hb : b = p
    · subst hb
      exact absurd hp e
    · rw [upd_ne hb]
      exact st.there b e
  new := st.new
  own := st.own

/-- nothing is raised in a block -/
def noX {α : Type} (f : M α) : M α := fun ρ => match f ρ with
  | .ok a ρ' => .ok a ρ'
  | _ => .no
abbrev EN : WX := fun _ _ _ _ => False
/-- one turn of a comprehension's block -/
def turnM (bnd : D → M Unit) (tt : M Bool) (el : M D) (vs : List Nat) (d : D) : M (Option D) := fun ρ =>
  match (bnd d >>= fun _ => tt >>= fun b => if b then el >>= fun z => M.ret (some z) else M.ret none) (wipeR ρ vs) with
  | .ok r ρ' => .ok r (mixR ρ ρ' vs)
  | _ => .no
def addO (acc : List D) : Option D → List D
  | some z => acc ++ [z]
  | none => acc
def M.bad {α : Type} : M α := fun _ => .no
def lcLoop (bnd : D → M Unit) (tt : M Bool) (el : M D) (vs : List Nat) : List D → List D → M (List D)
  | [], acc => M.ret acc
  | d :: ds, acc => if acc.length < sizeLine then turnM bnd tt el vs d >>= fun r => lcLoop bnd tt el vs ds (addO acc r) else M.bad
def lcM (src : M (List D)) (bnd : D → M Unit) (tt : M Bool) (el : M D) (vs : List Nat) : M O := src >>= fun ds => lcLoop bnd tt el vs ds [] >>= fun out => M.ret (.lst out)
section
variable {K : PySem.W.Frag} {E : WX} {bnd : D → M Unit} {tt : M Bool} {el : M D} {vs ts : List Nat} {src : M (List D)}
theorem turnM_noex {d : D} {ρ : Rho} {x : Xn} {ρ' : Rho} : turnM bnd tt el vs d ρ ≠ .ex x ρ' := by
  unfold turnM
  split <;> simp only [ne_eq, reduceCtorEq, not_false_eq_true]
theorem lcLoop_noex : ∀ {ds acc : List D} {ρ : Rho} {x : Xn} {ρ' : Rho}, lcLoop bnd tt el vs ds acc ρ ≠ .ex x ρ'
  | [], acc, ρ, x, ρ' => by simp only [lcLoop, M.ret, ne_eq, reduceCtorEq, not_false_eq_true]
  | d :: ds, acc, ρ, x, ρ' => by
    simp only [lcLoop]
    by_cases hz : acc.length < sizeLine
    · rw [if_pos hz]
      cases e : turnM bnd tt el vs d ρ with
      | no => rw [bnd_no e]; simp only [ne_eq, reduceCtorEq, not_false_eq_true]
      | ex y ρ2 => exact absurd e turnM_noex
      | ok r ρ2 =>
        rw [bnd_ok e]
        exact lcLoop_noex
    · rw [if_neg hz]
      unfold M.bad
      simp only [ne_eq, reduceCtorEq, not_false_eq_true]
/-- the reading of a list comprehension -/
theorem lc_read {wi : TI} {g : TG} {t : TT} {te : TE} (hts : ∀ i ∈ ts, i ∈ vs) (hx : ∀ d ρ x ρ', bnd d ρ ≠ .ex x ρ') (ki : ∀ σ H Q, tI K E src σ H Q → wi σ H Q) (kg : ∀ v σ H Q, gD K ts bnd v σ H Q → g v σ H Q) (kt : ∀ σ H Q, tT K EN tt σ H Q → t σ H Q) (ke : ∀ σ H Q, tD K EN el σ H Q → te σ H Q) :
    ∀ σ H Q, tN K E (lcM src bnd tt el vs) σ H Q → tLc wi g t te vs σ H Q := by
  rintro σ H0 Q ⟨θ, B0, ρ0, c0, h0⟩
  refine ki _ _ _ ⟨θ, B0, ρ0, c0, h0.seq.imp ?_⟩
  rintro - - J - H1 - - - ⟨ds, B1, ρ1, st1, ys, h1⟩
  have ys : Yields K B1 J ds := ys
  intro L hL
  -- what holds ahead of turn i: the list so far at L, which no slot knows
  refine ⟨fun i m H => m = ds.length - i ∧ i ≤ ds.length ∧ ∃ (B : Hp) (ρ : Rho) (acc : List D) (xs : List V), Step K θ σ B1 H1 ρ1 σ B H ρ ∧ B L = none ∧ ¬ OwnA σ ρ L ∧ H L = some (.lst xs) ∧ Reps K B acc xs ∧
      At K E (RN K) θ σ B1 H1 ρ1 Q ((lcLoop bnd tt el vs (ds.drop i) acc >>= fun out => M.ret (O.lst out)) ρ),
    ⟨ds.length, by simp, Nat.zero_le _, B1, ρ1, [], [], (Step.refl st1.cf).pokeS hL (st1.cf.unfrozen hL) (own_not_new st1.cf hL) _, st1.cf.unfrozen hL, own_not_new st1.cf hL, upd_same, Reps.nil, h1⟩, ?_⟩
  rintro i m H ⟨rfl, hi, B, ρ, acc, xs, st, nB, no, hH, ra, h⟩
  have c := st.cf
  have sB := st.bb
  by_cases hlt : i < ds.length
  · refine .inr ⟨ys.go i H hlt (sB.trans c.bh), fun H' => ∃ (B : Hp) (ρ : Rho) (acc : List D) (xs : List V), Step K θ σ B1 H1 ρ1 σ B H' ρ ∧ B L = none ∧ ¬ OwnA σ ρ L ∧ H' L = some (.lst xs) ∧ Reps K B acc xs ∧
      At K E (RN K) θ σ B1 H1 ρ1 Q ((lcLoop bnd tt el vs (ds.drop (i + 1)) acc >>= fun out => M.ret (O.lst out)) ρ), fun H' z => ⟨ds.length - (i + 1), by omega, rfl, hlt, z⟩, fun x H2 hy => ?_⟩
    have hd : ds[i]? = some ds[i] := List.getElem?_eq_getElem hlt
    rw [List.drop_eq_getElem_cons hlt] at h
    simp only [lcLoop] at h
    by_cases hz : acc.length < sizeLine
    · rw [if_pos hz] at h
      -- the item
      obtain ⟨B2, st2, rx⟩ : ∃ B2, Step K θ σ B H ρ σ B2 H2 ρ ∧ Rep K B2 ds[i] x := by
        rcases ys.yld i _ H x H2 hd (sB.trans c.bh) hy with ⟨rfl, r⟩ | ⟨p, o, hp, rfl, r⟩
        · exact ⟨B, Step.refl c, r.mono sB⟩
        · refine ⟨upd B p o, c.laid hp o, r.mono fun b w q => ?_⟩
          by_cases hb : b = p
          · subst hb
            rw [upd_same] at q ⊢
            exact q
          · rw [upd_ne hb] at q ⊢
            exact sB b w q
      -- what the turn gives
      have hturn : ∃ r ρ', turnM bnd tt el vs ds[i] ρ = .ok r ρ' := by
        cases e : turnM bnd tt el vs ds[i] ρ with
        | no =>
          have e2 : (turnM bnd tt el vs ds[i] >>= fun r => lcLoop bnd tt el vs (ds.drop (i + 1)) (addO acc r)) ρ = .no := bnd_no e
          rw [bnd_no e2] at h
          exact h.elim
        | ex y ρ2 => exact absurd e turnM_noex
        | ok r ρ2 => exact ⟨r, ρ2, rfl⟩
      obtain ⟨r, ρ', er⟩ := hturn
      have h' : At K E (RN K) θ σ B1 H1 ρ1 Q ((lcLoop bnd tt el vs (ds.drop (i + 1)) (addO acc r) >>= fun out => M.ret (O.lst out)) ρ') := by
        have e2 : (turnM bnd tt el vs ds[i] >>= fun r => lcLoop bnd tt el vs (ds.drop (i + 1)) (addO acc r)) ρ = lcLoop bnd tt el vs (ds.drop (i + 1)) (addO acc r) ρ' := bnd_ok er
        have e3 : ((turnM bnd tt el vs ds[i] >>= fun r => lcLoop bnd tt el vs (ds.drop (i + 1)) (addO acc r)) >>= fun out => M.ret (O.lst out)) ρ = (lcLoop bnd tt el vs (ds.drop (i + 1)) (addO acc r) >>= fun out => M.ret (O.lst out)) ρ' := by
          show M.bnd _ _ ρ = M.bnd _ _ ρ'
          unfold M.bnd
          rw [e2]
        rw [e3] at h
        exact h
      clear h
      unfold turnM at er
      split at er
      · rename_i r2 ρ3 eblk
        cases er
        -- through the block
        have cw : Cf K θ B2 H2 (wipe σ vs) (wipeR ρ vs) := st2.cf.wiped
        have noL2 : ∀ {B3 H3 σ3 ρ3}, Step K θ (wipe σ vs) B2 H2 (wipeR ρ vs) σ3 B3 H3 ρ3 → wipe σ3 vs = wipe σ vs → H3 L = some (.lst xs) ∧ B3 L = none ∧ Step K θ σ B1 H1 ρ1 σ B3 H3 (mixR ρ ρ3 vs) ∧ ¬ OwnA σ (mixR ρ ρ3 vs) L := fun {B3 H3 σ3 ρ3} s3 hw => by
          have h2L : H2 L = some (.lst xs) := st2.keep L _ hH no
          have no2 : ¬ OwnA σ ρ L := no
          have now : ¬ OwnA (wipe σ vs) (wipeR ρ vs) L := fun ⟨j, z⟩ => no2 ⟨j, (own_wipe z st2.cf.len).1⟩
          have b2L : B2 L = none := Classical.byContradiction fun y => by
            rcases st2.new L y nB with z | z
            · rw [hH] at z
              cases z
            · exact no z
          have s4 := s3.unwiped st2.cf hw
          refine ⟨s3.keep L _ h2L now, Classical.byContradiction fun y => ?_, (st.trans st2).trans s4, fun z => ?_⟩
          · rcases s3.new L y b2L with z | z
            · rw [h2L] at z
              cases z
            · exact now z
          · rcases s4.own L z with q | q
            · exact no q
            · rw [h2L] at q
              cases q
        cases e1 : bnd ds[i] (wipeR ρ vs) with
        | no =>
          rw [bnd_no e1] at eblk
          cases eblk
        | ex y ρ4 => exact absurd e1 (hx _ _ y ρ4)
        | ok u ρ4 =>
          rw [bnd_ok e1] at eblk
          refine kg _ _ _ _ ⟨θ, B2, wipeR ρ vs, ds[i], cw, rx, ρ4, e1, fun σ3 B3 H3 s3 hl hj _ => ?_⟩
          have hw : wipe σ3 vs = wipe σ vs := wipe_same hts (by rw [hl, wipe_length]) hj
          refine ⟨hw, kt _ _ _ ⟨θ, B3, ρ4, s3.cf, ?_⟩⟩
          cases e2 : tt ρ4 with
          | no =>
            rw [bnd_no e2] at eblk
            cases eblk
          | ex y ρ5 =>
            rw [bnd_ex e2] at eblk
            cases eblk
          | ok b ρ5 =>
            rw [bnd_ok e2] at eblk
            intro b' B4 H4 s4 rb
            have eb : b = b' := rb
            subst eb
            have hs4 := s3.trans s4
            cases b with
            | false =>
              simp only [Bool.false_eq_true, if_false] at eblk
              cases eblk
              refine iteF ?_
              obtain ⟨q1, q2, q3, q4⟩ := noL2 hs4 hw
              exact ⟨B4, _, acc, xs, q3, q2, q4, q1, ra.mono (st2.bb.trans hs4.bb), h'⟩
            | true =>
              simp only [if_true] at eblk
              refine iteT (ke _ _ _ ⟨θ, B4, ρ5, s4.cf, ?_⟩)
              cases e3 : el ρ5 with
              | no =>
                rw [bnd_no e3] at eblk
                cases eblk
              | ex y ρ6 =>
                rw [bnd_ex e3] at eblk
                cases eblk
              | ok z ρ6 =>
                rw [bnd_ok e3] at eblk
                cases eblk
                intro y B5 H5 s5 ry
                have ry : Rep K B5 z y := ry
                have hs5 := hs4.trans s5
                obtain ⟨q1, q2, q3, q4⟩ := noL2 hs5 hw
                have ra5 := ra.mono (st2.bb.trans hs5.bb)
                refine ⟨xs, q1, by rw [← ra.length]; exact hz, B5, _, acc ++ [z], xs ++ [y], q3.pokeS hL q2 q4 _, q2, q4, upd_same, ra5.append (Reps.cons ry Reps.nil), h'⟩
      · cases er
    · rw [if_neg hz] at h
      exact h.elim
  · have e : i = ds.length := by omega
    subst e
    rw [List.drop_length] at h
    refine .inl ⟨ys.stop H (sB.trans c.bh), ?_⟩
    exact h _ _ _ st ⟨L, .lst xs, rfl, hL, nB, hH, ⟨xs, rfl, ra⟩, no⟩
end
section
variable {X : Cx} {E : WX} {elt tg iter : Expr} {ifs : List Expr} {scope : Scope} {own : List (Str × Nat)} {pos : Pos} {bnd : D → M Unit} {tt : M Bool} {el : M D} {ts : List Nat} {src : M (List D)}
theorem pn_lc (hc : X.calm = true) (hN : X.N.Nodup) (hi : PI X tg iter (tI X.K E src)) (ok : BlkOk X.N X.env.scope scope own) (hts : ∀ i ∈ ts, i ∈ own.map (·.2)) (hx : ∀ d ρ x ρ', bnd d ρ ≠ .ex x ρ')
    (hg : ∀ (s : Shared) (H : Hp) (C : Addr) (cl : List (Str × Addr)) (fp : List Addr), PG (X.blk s H scope (compEnvC scope cl C X.env) fp) tg (gD X.K ts bnd)) (ht : ∀ (s : Shared) (H : Hp) (C : Addr) (cl : List (Str × Addr)) (fp : List Addr), PTs (X.blk s H scope (compEnvC scope cl C X.env) fp) ifs (tT X.K EN tt))
    (he : ∀ (s : Shared) (H : Hp) (C : Addr) (cl : List (Str × Addr)) (fp : List Addr), PE (X.blk s H scope (compEnvC scope cl C X.env) fp) elt (tD X.K EN el)) (hs : ∀ x, foldedSetIterable iter X.env x = pure x := by intro _; rfl) :
    PE X (.ListComp elt [⟨tg, iter, ifs, 0⟩] scope pos) (tN X.K E (lcM src bnd tt el (own.map (·.2)))) :=
  pe_weak (pe_lc hc hN hi ok hg ht he hs) (lc_read hts hx (fun _ _ _ h => h) (fun _ _ _ _ h => h) (fun _ _ _ h => h) fun _ _ _ h => h)
theorem pts_nilD : PTs X [] (tT X.K E (M.ret true)) := by
  have h := pts_nil (X := X)
  exact ⟨fun pins s σ H Q I q => h.run pins s σ H Q I (by obtain ⟨θ, B, ρ, c, a⟩ := q; exact a.here c rfl)⟩
theorem pts_oneD {c : Expr} {f : M Bool} (h : PT X c (tT X.K E f)) : PTs X [c] (tT X.K E f) := pts_one h
end
end Nc

/-! What a def does as a function on slots; its promise; its call; its body. -/
namespace Nc
open PySem PySem.Spec PyProof.Rows L2

inductive Rf where
  | no | ok (d : D) (ss : List Slot) | ex (e : Xn) (ss : List Slot)
abbrev Fn := List Slot → Rf
section
variable (K : PySem.W.Frag)
def spAt (θ : Nat → Addr) (vs : List V) (B H : Hp) (ss : List Slot) (Q : VK) (E : XK) : Rf → Prop
  | .no => False
  | .ok d ss' => ∀ v B' H', Step K θ (vs.map some) B H (ss.map some) (vs.map some) B' H' (ss'.map some) → Rep K B' d v → Q v H'
  | .ex e ss' => ∀ oc B' H', Step K θ (vs.map some) B H (ss.map some) (vs.map some) B' H' (ss'.map some) → RepX K B' H' e oc → E (.ref e.C) oc H'
/-- the promise: it does what F says -/
def spD (F : Fn) : Sp := fun vs H Q E => ∃ θ B ss, Cf K θ B H (vs.map some) (ss.map some) ∧ spAt K θ vs B H ss Q E (F ss)
end
theorem spD_imp {K : PySem.W.Frag} {F G : Fn} (h : ∀ ss r, G ss = r → r ≠ .no → F ss = r) : ∀ vs H Q E, spD K G vs H Q E → spD K F vs H Q E := by
  rintro vs H Q E ⟨θ, B, ss, c, k⟩
  refine ⟨θ, B, ss, c, ?_⟩
  cases e : G ss with
  | no =>
    rw [e] at k
    exact k.elim
  | ok d s' =>
    rw [h ss _ e (fun z => by cases z)]
    rw [e] at k
    exact k
  | ex d s' =>
    rw [h ss _ e (fun z => by cases z)]
    rw [e] at k
    exact k
theorem spD_len {K : PySem.W.Frag} {F : Fn} {n : Nat} (h : ∀ ss, F ss ≠ .no → ss.length = n) : ∀ vs H Q E, spD K F vs H Q E → vs.length = n := by
  rintro vs H Q E ⟨θ, B, ss, c, k⟩
  have l := c.len
  rw [List.length_map, List.length_map] at l
  rw [l]
  refine h ss fun z => ?_
  rw [z] at k
  exact k

/-! ### the body -/
/-- the j-th argument behind the body -/
def backSlot (ρ : Rho) (j : Nat) : Slot → Option Slot
  | .val d => some (.val d)
  | .own t _ => if t = j + 1 then match ρ[j]? with
      | some (some (.own t' o')) => if t' = j + 1 then some (.own t' o') else none
      | _ => none
    else none
def backAll (ρ : Rho) : Nat → List Slot → Option (List Slot)
  | _, [] => some []
  | j, s :: ss => match backSlot ρ j s, backAll ρ (j + 1) ss with
    | some s', some ss' => some (s' :: ss')
    | _, _ => none
def startR (n : Nat) (ss : List Slot) : Rho := ss.map some ++ List.replicate (n - ss.length) none
/-- what a def with n names and the body h does -/
def runB (n k : Nat) (h : M Out) : Fn := fun ss => if ss.length = k then match h (startR n ss) with
  | .ok (.rt d) ρ => match backAll ρ 0 ss with
    | some ss' => .ok d ss'
    | none => .no
  | .ok .nx ρ => match backAll ρ 0 ss with
    | some ss' => .ok .non ss'
    | none => .no
  | .ex e ρ => match backAll ρ 0 ss with
    | some ss' => .ex e ss'
    | none => .no
  | _ => .no
  else .no
theorem backAll_at {ρ : Rho} : ∀ {j : Nat} {ss ss' : List Slot}, backAll ρ j ss = some ss' → ss'.length = ss.length ∧ ∀ i s, ss[i]? = some s → ∃ s', ss'[i]? = some s' ∧ backSlot ρ (j + i) s = some s'
  | j, [], ss', h => by
    simp only [backAll] at h
    cases h
    exact ⟨rfl, fun i s e => by simp at e⟩
  | j, s :: ss, ss', h => by
    simp only [backAll] at h
    split at h
    · rename_i s1 ss1 e1 e2
      cases h
      obtain ⟨l, q⟩ := backAll_at e2
      refine ⟨by rw [List.length_cons, List.length_cons, l], fun i s' e => ?_⟩
      cases i with
      | zero =>
        simp at e
        subst e
        exact ⟨s1, rfl, e1⟩
      | succ i =>
        obtain ⟨s2, f1, f2⟩ := q i s' (by simpa using e)
        exact ⟨s2, by simpa using f1, by rw [show j + (i + 1) = j + 1 + i by omega]; exact f2⟩
    · cases h
section
variable {K : PySem.W.Frag} {θ : Nat → Addr} {vs : List V} {B B' H H' : Hp} {ss ss' : List Slot} {N : List Str} {σ' : L2.St} {ρ' : Rho}
theorem start_at {i : Nat} (hi : i < vs.length) : (L2.start N vs)[i]? = (vs.map some)[i]? := by
  unfold L2.start
  rw [List.getElem?_append_left (by rw [List.length_map]; exact hi)]
theorem startR_at {n i : Nat} (hi : i < ss.length) : (startR n ss)[i]? = (ss.map some)[i]? := by
  unfold startR
  rw [List.getElem?_append_left (by rw [List.length_map]; exact hi)]
theorem startR_off {n i : Nat} {s : Option Slot} (hi : ¬ i < ss.length) (e : (startR n ss)[i]? = some s) : s = none := by
  unfold startR at e
  rw [List.getElem?_append_right (by rw [List.length_map]; omega)] at e
  rw [List.getElem?_replicate] at e
  split at e
  · cases e
    rfl
  · cases e
theorem own_start {i : Nat} {p : Addr} (hl : vs.length = ss.length) (h : OwnAt (L2.start N vs) (startR N.length ss) i p) : OwnAt (vs.map some) (ss.map some) i p := by
  obtain ⟨⟨t, o, e⟩, e2⟩ := h
  by_cases hi : i < ss.length
  · rw [startR_at hi] at e
    rw [start_at (by omega)] at e2
    exact ⟨⟨t, o, e⟩, e2⟩
  · have := startR_off hi e
    cases this
theorem own_start' {i : Nat} {p : Addr} (hl : vs.length = ss.length) (h : OwnAt (vs.map some) (ss.map some) i p) : OwnAt (L2.start N vs) (startR N.length ss) i p := by
  obtain ⟨⟨t, o, e⟩, e2⟩ := h
  have hi : i < ss.length := by
    have := (List.getElem?_eq_some_iff.mp e).1
    simpa using this
  exact ⟨⟨t, o, by rw [startR_at hi]; exact e⟩, by rw [start_at (by omega)]; exact e2⟩
theorem Cf.start (c : Cf K θ B H (vs.map some) (ss.map some)) : Cf K θ B H (L2.start N vs) (startR N.length ss) := by
  have hl : vs.length = ss.length := by simpa using c.len
  refine ⟨c.bh, by unfold L2.start startR; simp [hl], fun i s e => ?_, fun i j p h1 h2 => c.sep i j p (own_start hl h1) (own_start hl h2)⟩
  by_cases hi : i < ss.length
  · rw [startR_at hi] at e
    rw [start_at (by omega)]
    exact c.at_ i s e
  · rw [startR_off hi e]
    trivial
/-- behind the body: the arguments' own objects -/
theorem Step.finish (c : Cf K θ B H (vs.map some) (ss.map some)) (st : Step K θ (L2.start N vs) B H (startR N.length ss) σ' B' H' ρ') (hb : backAll ρ' 0 ss = some ss') : Step K θ (vs.map some) B H (ss.map some) (vs.map some) B' H' (ss'.map some) := by
  have hl : vs.length = ss.length := by simpa using c.len
  obtain ⟨l', hat⟩ := backAll_at hb
  -- each argument behind
  have key : ∀ i s', ss'[i]? = some s' → ∃ s, ss[i]? = some s ∧ backSlot ρ' i s = some s' := fun i s' e => by
    have hi : i < ss.length := by
      have := (List.getElem?_eq_some_iff.mp e).1
      omega
    obtain ⟨s2, f1, f2⟩ := hat i ss[i] (List.getElem?_eq_getElem hi)
    rw [e] at f1
    cases f1
    exact ⟨ss[i], List.getElem?_eq_getElem hi, by simpa using f2⟩
  have sub : ∀ i p, OwnAt (vs.map some) (ss'.map some) i p → OwnAt (vs.map some) (ss.map some) i p := fun i p ⟨⟨t, o, e⟩, e2⟩ => by
    rw [List.getElem?_map] at e
    cases q : ss'[i]? with
    | none =>
      rw [q] at e
      cases e
    | some s' =>
      rw [q] at e
      have e : some s' = some (Slot.own t o) := by simpa using e
      cases e
      obtain ⟨s, e3, e4⟩ := key i _ q
      cases s with
      | val d => simp only [backSlot, Option.some.injEq, reduceCtorEq] at e4
      | own t' o' => exact ⟨⟨t', o', by rw [List.getElem?_map, e3]; rfl⟩, e2⟩
  have oa : ∀ b, OwnA (L2.start N vs) (startR N.length ss) b ↔ OwnA (vs.map some) (ss.map some) b := fun b => ⟨fun ⟨i, z⟩ => ⟨i, own_start hl z⟩, fun ⟨i, z⟩ => ⟨i, own_start' hl z⟩⟩
  refine ⟨⟨st.cf.bh, by simp [hl, l'], fun i s e => ?_, fun i j p h1 h2 => c.sep i j p (sub i p h1) (sub j p h2)⟩, st.bb, fun b o e n => st.keep b o e fun z => n ((oa b).mp z), st.there, fun b q n => (st.new b q n).imp_right (oa b).mp, fun b ⟨i, z⟩ => .inl ⟨i, sub i b z⟩⟩
  rw [List.getElem?_map] at e
  cases q : ss'[i]? with
  | none =>
    rw [q] at e
    cases e
  | some s' =>
    rw [q] at e
    have e : s = some s' := (Option.some.inj e).symm
    subst e
    obtain ⟨s, e3, e4⟩ := key i _ q
    have c0 := c.at_ i (some s) (by rw [List.getElem?_map, e3]; rfl)
    cases s with
    | val d =>
      simp only [backSlot, Option.some.injEq] at e4
      subst e4
      obtain ⟨x, h1, h2⟩ := c0
      exact ⟨x, h1, h2.mono st.bb⟩
    | own t o =>
      simp only [backSlot] at e4
      split at e4
      · rename_i ht
        split at e4
        · rename_i t' o' er
          split at e4
          · rename_i ht'
            cases e4
            obtain ⟨p, u, h1, h2, h3, h4, h5⟩ := c0
            have hp := h5 (by omega)
            obtain ⟨p', u', e1, b1, k1, r1, t1, _⟩ := st.cf.own er
            have hp' := t1 (by omega)
            have epp : p' = p := by rw [hp', hp, ht, ht']
            subst epp
            exact ⟨p', u', h1, b1, k1, r1, t1⟩
          · cases e4
        · cases e4
      · cases e4
/-- THE RULE for a def's body -/
theorem body_end {X : Cx} {k : Nat} {h : M Out} {Q : VK} {E : XK} (hsp : spD K (runB N.length k h) vs H Q E) : tS K (fun cls d _ H => E cls d H) h { nx := fun _ H' => Q .non H', rt := Q } (L2.start N vs) H := by
  obtain ⟨θ, B, ss, c, k0⟩ := hsp
  refine ⟨θ, B, _, c.start, ?_⟩
  unfold runB at k0
  split at k0
  · cases e : h (startR N.length ss) with
    | no =>
      simp only [e] at k0
      exact k0
    | ex x ρ =>
      simp only [e] at k0
      split at k0
      · rename_i ss' hb
        exact fun oc σ' B' H' st r => k0 oc B' H' (st.finish c hb) r
      · exact k0.elim
    | ok o ρ =>
      cases o with
      | nx =>
        simp only [e] at k0
        split at k0
        · rename_i ss' hb
          exact fun σ' B' H' st => k0 _ B' H' (st.finish c hb) (by simp only [Rep])
        · exact k0.elim
      | rt d =>
        simp only [e] at k0
        split at k0
        · rename_i ss' hb
          exact fun v σ' B' H' st r => k0 v B' H' (st.finish c hb) r
        · exact k0.elim
      | bk =>
        simp only [e] at k0
        exact k0.elim
      | ct =>
        simp only [e] at k0
        exact k0.elim
  · exact k0.elim
theorem runB_len {n k : Nat} {h : M Out} {ss : List Slot} (e : runB n k h ss ≠ .no) : ss.length = k := by
  unfold runB at e
  split at e
  · assumption
  · exact absurd rfl e
end

/-! ### the call -/
def RA (K : PySem.W.Frag) : Rl (List Opd) (List V) := fun _ σ B _ _ os vs => os.length = vs.length ∧ ∀ (i : Nat) (o : Opd) (v : V), os[i]? = some o → vs[i]? = some v → match o with
  | .d x => Rep K B x v
  | .s j => σ[j]? = some (some v)
instance (K : PySem.W.Frag) : RlM (RA K) := ⟨fun _ h => h⟩
abbrev tA (K : PySem.W.Frag) (E : WX) (f : M (List Opd)) : TA := tR K E (RA K) f
/-- the slot that an operand hands on as the j-th argument -/
def argSlot (ρ : Rho) (j : Nat) : Opd → Option Slot
  | .d x => some (.val x)
  | .s i => match ρ[i]? with
    | some (some (.val x)) => some (.val x)
    | some (some (.own _ o)) => some (.own (j + 1) o)
    | _ => none
def argSlots (ρ : Rho) : Nat → List Opd → Option (List Slot)
  | _, [] => some []
  | j, o :: os => match argSlot ρ j o, argSlots ρ (j + 1) os with
    | some s, some ss => some (s :: ss)
    | _, _ => none
def slotIx : Opd → List Nat
  | .d _ => []
  | .s i => [i]
/-- behind the call -/
def putBack (ρ : Rho) : List Opd → List Slot → Option Rho
  | [], [] => some ρ
  | .d _ :: os, _ :: ss => putBack ρ os ss
  | .s i :: os, s :: ss => match ρ[i]?, s with
    | some (some (.val _)), _ => putBack ρ os ss
    | some (some (.own t _)), .own _ o' => putBack (ρ.set i (some (.own t o'))) os ss
    | _, _ => none
  | _, _ => none
def callM (F : Fn) (as : M (List Opd)) : M D := as >>= fun os => fun ρ => if (os.flatMap slotIx).Nodup then match argSlots ρ 0 os with
    | some ss => match F ss with
      | .no => .no
      | .ok d ss' => match putBack ρ os ss' with
        | some ρ' => .ok d ρ'
        | none => .no
      | .ex e ss' => match putBack ρ os ss' with
        | some ρ' => .ex e ρ'
        | none => .no
    | none => .no
  else .no
section
variable {K : PySem.W.Frag} {θ θ' : Nat → Addr} {vs : List V} {B B' H H' : Hp} {ss ss' : List Slot} {σ : L2.St} {ρ ρ' : Rho} {os : List Opd}
theorem argSlots_at : ∀ {j : Nat} {os : List Opd} {ss : List Slot}, argSlots ρ j os = some ss → ss.length = os.length ∧ ∀ i s, ss[i]? = some s → ∃ o, os[i]? = some o ∧ argSlot ρ (j + i) o = some s
  | j, [], ss, h => by
    simp only [argSlots] at h
    cases h
    exact ⟨rfl, fun i s e => by simp at e⟩
  | j, o :: os, ss, h => by
    simp only [argSlots] at h
    split at h
    · rename_i s1 ss1 e1 e2
      cases h
      obtain ⟨l, q⟩ := argSlots_at e2
      refine ⟨by rw [List.length_cons, List.length_cons, l], fun i s' e => ?_⟩
      cases i with
      | zero =>
        simp at e
        subst e
        exact ⟨o, rfl, e1⟩
      | succ i =>
        obtain ⟨o2, f1, f2⟩ := q i s' (by simpa using e)
        exact ⟨o2, by simpa using f1, by rw [show j + (i + 1) = j + 1 + i by omega]; exact f2⟩
    · cases h
theorem flat_nodup : ∀ {os : List Opd} {i j k : Nat}, (os.flatMap slotIx).Nodup → os[i]? = some (.s k) → os[j]? = some (.s k) → i = j
  | [], i, j, k, _, h, _ => by simp at h
  | o :: os, 0, 0, k, _, _, _ => rfl
  | o :: os, 0, j + 1, k, hn, h1, h2 => by
    simp at h1
    subst h1
    rw [List.flatMap_cons] at hn
    have := (List.nodup_append.mp hn).2.2 k (by simp [slotIx]) k (List.mem_flatMap.mpr ⟨.s k, List.mem_of_getElem? (by simpa using h2), by simp [slotIx]⟩)
    exact absurd rfl this
  | o :: os, i + 1, 0, k, hn, h1, h2 => by
    simp at h2
    subst h2
    rw [List.flatMap_cons] at hn
    have := (List.nodup_append.mp hn).2.2 k (by simp [slotIx]) k (List.mem_flatMap.mpr ⟨.s k, List.mem_of_getElem? (by simpa using h1), by simp [slotIx]⟩)
    exact absurd rfl this
  | o :: os, i + 1, j + 1, k, hn, h1, h2 => by
    rw [List.flatMap_cons] at hn
    rw [flat_nodup (i := i) (j := j) (List.nodup_append.mp hn).2.1 (by simpa using h1) (by simpa using h2)]
def θOf (vs : List V) : Nat → Addr
  | 0 => 0
  | j + 1 => match vs[j]? with
    | some (.ref a) => a
    | _ => 0
/-- what a callee finds -/
theorem call_in (c : Cf K θ B H σ ρ) (ra : os.length = vs.length ∧ ∀ (i : Nat) (o : Opd) (v : V), os[i]? = some o → vs[i]? = some v → match o with | .d x => Rep K B x v | .s j => σ[j]? = some (some v))
    (hn : (os.flatMap slotIx).Nodup) (ha : argSlots ρ 0 os = some ss) : Cf K (θOf vs) B H (vs.map some) (ss.map some) ∧ ∀ i p, OwnAt (vs.map some) (ss.map some) i p → ∃ k, os[i]? = some (.s k) ∧ OwnAt σ ρ k p := by
  obtain ⟨hl, hat⟩ := argSlots_at ha
  have get : ∀ (i : Nat) (s : Slot), ss[i]? = some s → ∃ (o : Opd) (v : V), os[i]? = some o ∧ vs[i]? = some v ∧ argSlot ρ i o = some s := fun i s e => by
    obtain ⟨o, e1, e2⟩ := hat i s e
    have hi : i < vs.length := by
      have := (List.getElem?_eq_some_iff.mp e1).1
      omega
    exact ⟨o, vs[i], e1, List.getElem?_eq_getElem hi, by simpa using e2⟩
  have own : ∀ i p, OwnAt (vs.map some) (ss.map some) i p → ∃ k, os[i]? = some (.s k) ∧ OwnAt σ ρ k p := fun i p ⟨⟨t, o, e⟩, e2⟩ => by
    rw [List.getElem?_map] at e e2
    cases q : ss[i]? with
    | none =>
      rw [q] at e
      cases e
    | some s =>
      rw [q] at e
      have e : some s = some (Slot.own t o) := by simpa using e
      cases e
      obtain ⟨od, v, e3, e4, e5⟩ := get i _ q
      rw [e4] at e2
      have e2 : some v = some (V.ref p) := by simpa using e2
      cases e2
      cases od with
      | d x => simp only [argSlot, Option.some.injEq, reduceCtorEq] at e5
      | s k =>
        have hk := ra.2 i _ _ e3 e4
        simp only [argSlot] at e5
        split at e5
        · cases e5
        · rename_i t' o' er
          exact ⟨k, e3, ⟨t', o', er⟩, hk⟩
        · cases e5
  refine ⟨⟨c.bh, by simp [hl, ra.1], fun i s e => ?_, fun i j p h1 h2 => ?_⟩, own⟩
  · rw [List.getElem?_map] at e
    cases q : ss[i]? with
    | none =>
      rw [q] at e
      cases e
    | some s0 =>
      rw [q] at e
      have e : s = some s0 := (Option.some.inj e).symm
      subst e
      obtain ⟨od, v, e3, e4, e5⟩ := get i _ q
      have ev : ((vs.map some)[i]?).getD none = some v := by rw [List.getElem?_map, e4]; rfl
      have hk := ra.2 i _ _ e3 e4
      rw [ev]
      cases od with
      | d x =>
        simp only [argSlot, Option.some.injEq] at e5
        subst e5
        exact ⟨v, rfl, hk⟩
      | s k =>
        have hk : σ[k]? = some (some v) := hk
        simp only [argSlot] at e5
        split at e5
        · rename_i x er
          cases e5
          obtain ⟨w, f1, f2⟩ := c.val er
          rw [hk] at f1
          cases f1
          exact ⟨v, rfl, f2⟩
        · rename_i t' o' er
          cases e5
          obtain ⟨p, u, e1, b1, k1, r1, t1, _⟩ := c.own er
          rw [hk] at e1
          cases e1
          refine ⟨p, u, rfl, b1, k1, r1, fun _ => ?_⟩
          simp only [θOf, e4]
        · cases e5
  · obtain ⟨k1, a1, a2⟩ := own i p h1
    obtain ⟨k2, b1, b2⟩ := own j p h2
    have := c.sep k1 k2 p a2 b2
    subst this
    exact flat_nodup hn a1 b1
/-- the caller's slots behind the call: the handed own ones new, all others as they were -/
theorem putBack_at : ∀ {os : List Opd} {ss : List Slot} {ρ ρ' : Rho}, putBack ρ os ss = some ρ' → (os.flatMap slotIx).Nodup → ρ'.length = ρ.length ∧
    ∀ (k : Nat), (∃ (i t : Nat) (o : O) (t' : Nat) (o' : O), os[i]? = some (Opd.s k) ∧ ρ[k]? = some (some (Slot.own t o)) ∧ ss[i]? = some (Slot.own t' o') ∧ ρ'[k]? = some (some (Slot.own t o'))) ∨ (ρ'[k]? = ρ[k]? ∧ ∀ (i t : Nat) (o : O), os[i]? = some (Opd.s k) → ρ[k]? ≠ some (some (Slot.own t o)))
  | [], [], ρ, ρ', h, _ => by
    simp only [putBack] at h
    cases h
    exact ⟨rfl, fun k => .inr ⟨rfl, fun i t o e => by simp at e⟩⟩
  | [], _ :: _, ρ, ρ', h, _ => by simp only [putBack, reduceCtorEq] at h
  | .d x :: os, [], ρ, ρ', h, _ => by simp only [putBack, reduceCtorEq] at h
  | .s i :: os, [], ρ, ρ', h, _ => by simp only [putBack, reduceCtorEq] at h
  | .d x :: os, s :: ss, ρ, ρ', h, hn => by
    simp only [putBack] at h
    have hn' : (os.flatMap slotIx).Nodup := by simpa [slotIx] using hn
    obtain ⟨l, q⟩ := putBack_at h hn'
    refine ⟨l, fun k => ?_⟩
    rcases q k with ⟨i, t, o, t', o', a1, a2, a3, a4⟩ | ⟨a1, a2⟩
    · exact .inl ⟨i + 1, t, o, t', o', by simpa using a1, a2, by simpa using a3, a4⟩
    · refine .inr ⟨a1, fun i t o e => ?_⟩
      cases i with
      | zero => simp at e
      | succ i => exact a2 i t o (by simpa using e)
  | .s j :: os, s :: ss, ρ, ρ', h, hn => by
    have hn2 : (j :: os.flatMap slotIx).Nodup := by simpa [slotIx] using hn
    have hn' : (os.flatMap slotIx).Nodup := (List.nodup_cons.mp hn2).2
    have hj : j ∉ os.flatMap slotIx := (List.nodup_cons.mp hn2).1
    have nj : ∀ (i : Nat), os[i]? ≠ some (Opd.s j) := fun i e => hj (List.mem_flatMap.mpr ⟨.s j, List.mem_of_getElem? e, by simp [slotIx]⟩)
    simp only [putBack] at h
    split at h
    · rename_i x e1
      obtain ⟨l, q⟩ := putBack_at h hn'
      refine ⟨l, fun k => ?_⟩
      rcases q k with ⟨i, t, o, t', o', a1, a2, a3, a4⟩ | ⟨a1, a2⟩
      · exact .inl ⟨i + 1, t, o, t', o', by simpa using a1, a2, by simpa using a3, a4⟩
      · refine .inr ⟨a1, fun i t o e => ?_⟩
        cases i with
        | zero =>
          simp at e
          subst e
          rw [e1]
          exact fun z => by cases z
        | succ i => exact a2 i t o (by simpa using e)
    · rename_i t0 o0 t1 o1 e1
      obtain ⟨l, q⟩ := putBack_at h hn'
      rw [List.length_set] at l
      have hl : j < ρ.length := (List.getElem?_eq_some_iff.mp e1).1
      refine ⟨l, fun k => ?_⟩
      by_cases hk : k = j
      · subst hk
        rcases q k with ⟨i, t, o, t', o', a1, a2, a3, a4⟩ | ⟨a1, a2⟩
        · exact absurd a1 (nj i)
        · rw [List.getElem?_set_self hl] at a1
          exact .inl ⟨0, t0, o0, t1, o1, rfl, e1, rfl, a1⟩
      · rcases q k with ⟨i, t, o, t', o', a1, a2, a3, a4⟩ | ⟨a1, a2⟩
        · rw [List.getElem?_set_ne (Ne.symm hk)] at a2
          exact .inl ⟨i + 1, t, o, t', o', by simpa using a1, a2, by simpa using a3, a4⟩
        · rw [List.getElem?_set_ne (Ne.symm hk)] at a1
          refine .inr ⟨a1, fun i t o e => ?_⟩
          cases i with
          | zero =>
            simp at e
            exact absurd e.symm hk
          | succ i =>
            have := a2 i t o (by simpa using e)
            rw [List.getElem?_set_ne (Ne.symm hk)] at this
            exact this
    · cases h
/-- back from the call -/
theorem call_back (c : Cf K θ B H σ ρ) (ra : os.length = vs.length ∧ ∀ (i : Nat) (o : Opd) (v : V), os[i]? = some o → vs[i]? = some v → match o with | .d x => Rep K B x v | .s j => σ[j]? = some (some v))
    (hn : (os.flatMap slotIx).Nodup) (own : ∀ i p, OwnAt (vs.map some) (ss.map some) i p → ∃ k, os[i]? = some (.s k) ∧ OwnAt σ ρ k p)
    (st : Step K (θOf vs) (vs.map some) B H (ss.map some) (vs.map some) B' H' (ss'.map some)) (hp : putBack ρ os ss' = some ρ') : Step K θ σ B H ρ σ B' H' ρ' := by
  obtain ⟨hl, hat⟩ := putBack_at hp hn
  have sub : ∀ b, OwnA (vs.map some) (ss.map some) b → OwnA σ ρ b := fun b ⟨i, z⟩ => by
    obtain ⟨k, _, q⟩ := own i b z
    exact ⟨k, q⟩
  have back : ∀ k p, OwnAt σ ρ' k p → OwnAt σ ρ k p := fun k p ⟨⟨t, o, e⟩, e2⟩ => by
    rcases hat k with ⟨i, t1, o1, t2, o2, a1, a2, a3, a4⟩ | ⟨a1, a2⟩
    · exact ⟨⟨t1, o1, a2⟩, e2⟩
    · rw [a1] at e
      exact ⟨⟨t, o, e⟩, e2⟩
  refine ⟨⟨st.cf.bh, by rw [hl]; exact c.len, fun k s e => ?_, fun i j p h1 h2 => c.sep i j p (back i p h1) (back j p h2)⟩, st.bb, fun b o e n => st.keep b o e fun z => n (sub b z), st.there, fun b q n => (st.new b q n).imp_right (sub b), fun b ⟨k, z⟩ => .inl ⟨k, back k b z⟩⟩
  rcases hat k with ⟨i, t1, o1, t2, o2, a1, a2, a3, a4⟩ | ⟨a1, a2⟩
  · rw [a4] at e
    cases e
    obtain ⟨p, u, e1, b1, k1, r1, tt, _⟩ := c.own a2
    obtain ⟨p', u', h1, h2, h3, h4, _⟩ := st.cf.at_ i (some (.own t2 o2)) (by rw [List.getElem?_map, a3]; rfl)
    have hi : i < vs.length := by
      have := (List.getElem?_eq_some_iff.mp a1).1
      omega
    have hv := ra.2 i _ vs[i] a1 (List.getElem?_eq_getElem hi)
    have hv : σ[k]? = some (some vs[i]) := hv
    rw [List.getElem?_map, List.getElem?_eq_getElem hi] at h1
    have h1 : vs[i] = V.ref p' := by simpa using h1
    rw [e1] at hv
    have hv : V.ref p = vs[i] := by simpa using hv
    have epp : p' = p := V.ref.inj (h1.symm.trans hv.symm)
    subst epp
    exact ⟨p', u', by rw [e1]; rfl, h2, h3, h4, tt⟩
  · rw [a1] at e
    have q := c.at_ k s e
    cases s with
    | none => trivial
    | some s =>
      cases s with
      | val d =>
        obtain ⟨x, h1, h2⟩ := q
        exact ⟨x, h1, h2.mono st.bb⟩
      | own t o =>
        obtain ⟨p, u, e1, b1, k1, r1, t1, oa⟩ := c.own e
        have no : ¬ OwnA (vs.map some) (ss.map some) p := fun ⟨i, z⟩ => by
          obtain ⟨k', y1, y2⟩ := own i p z
          have := c.sep k' k p y2 oa
          subst this
          exact a2 i t o y1 e
        refine ⟨p, u, by rw [e1]; rfl, ?_, st.keep p u k1 no, r1.mono st.bb, t1⟩
        refine Classical.byContradiction fun y => ?_
        rcases st.new p y b1 with z | z
        · rw [k1] at z
          cases z
        · exact no z
end
section
variable {X : Cx} {E : WX} {k : Nat} {f : Addr} {fd : FuncData} {ps : List Str} {F : Fn} {x : Str} {p pos : Pos} {e : Expr} {es : List Expr} {as : M (List Opd)}
theorem pa_nilA : PA X [] (tA X.K E (M.ret [])) := pa_weak pa_nil fun σ H Q ⟨θ, B, ρ, c, a⟩ => a.here c ⟨rfl, fun i o v e => by simp at e⟩
def consA (f : M Opd) (fs : M (List Opd)) : M (List Opd) := f >>= fun d => fs >>= fun ds => M.ret (d :: ds)
theorem pa_consA {f : M Opd} (h : PE X e (tK X.K E f)) (t : PA X es (tA X.K E as)) (hs : starEach (e :: es) X.env = (false, eval e X.env) :: starEach es X.env := by rfl) : PA X (e :: es) (tA X.K E (consA f as)) := by
  refine pa_weak (pa_cons h t hs) fun σ H Q ⟨θ, B, ρ, c, h⟩ => ⟨θ, B, ρ, c, h.seq.imp ?_⟩
  rintro d ρ' v B' H1 - - - ⟨o, B1, ρ1, st1, rx, h1⟩
  refine ⟨θ, B1, ρ1, st1.cf, h1.seq.imp ?_⟩
  rintro e ρ' vs B' H2 - - - ⟨ds, B2, ρ2, st2, ry, h2⟩
  refine h2.here st2.cf ⟨by simp [ry.1], fun i o' v' e1 e2 => ?_⟩
  cases i with
  | zero =>
    simp at e1 e2
    subst e1 e2
    exact RK.mono (H0' := H2) st2 rx
  | succ i => exact ry.2 i o' v' (by simpa using e1) (by simpa using e2)
theorem call_read : ∀ σ H Q, tD X.K E (callM F as) σ H Q → tCallS (spD X.K F) (WE E) (tA X.K E as) σ H Q := by
  rintro σ H Q ⟨θ, B, ρ, c, h⟩
  refine ⟨θ, B, ρ, c, h.seq.imp ?_⟩
  rintro d ρ' vs B' H1 - - - ⟨os, B1, ρ1, st1, ra, h1⟩
  split at h1
  · rename_i hn
    split at h1
    · rename_i ss ha
      obtain ⟨ci, own⟩ := call_in st1.cf ra hn ha
      refine ⟨θOf vs, B1, ss, ci, ?_⟩
      cases ef : F ss with
      | no =>
        simp only [ef] at h1
        exact h1
      | ok d ss' =>
        simp only [ef] at h1
        split at h1
        · rename_i ρ2 hp
          exact fun v B' H' st r => h1 v B' H' (call_back st1.cf ra hn own st hp) r
        · exact h1.elim
      | ex d ss' =>
        simp only [ef] at h1
        split at h1
        · rename_i ρ2 hp
          exact fun oc B' H' st r => h1 oc σ B' H' (call_back st1.cf ra hn own st hp) r
        · exact h1.elim
    · exact h1.elim
  · exact h1.elim
theorem pd_call (G : FnOk X.prog X.w X.K X.mg X.base (L2.CX X.prog X.w) k f fd ps (spD X.K F)) (hr : Room k X.A) (hg : Gl X x) (hm : X.mg x = some (.ref f)) (hk : PySem.W.keepIn X.K (.ref f) = true) (hb : Binds X.K fd ps []) (tk : Takes X E)
    (ha : PA X (e :: es) (tA X.K E as)) (hdb : (x == ("__debug__" : Str)) = false := by decide) (he : starEach (e :: es) X.env = (false, eval e X.env) :: starEach es X.env := by rfl) (hpl : (backTo pos (starEach es X.env)).any (·.1) = false := by rfl) :
    PE X (.Call (.Name x p) (e :: es) [] pos) (tD X.K E (callM F as)) := pe_weak (pe_callS G hr hg hm hk hb (fun σ => passAt tk σ) ha hdb he hpl) call_read
end
end Nc

/-! Comprehensions of two clauses; a comprehension stored by a name. -/
namespace Nc
open PySem PySem.Spec PyProof.Rows L2

def hid (L : Addr) (H : Hp) : Hp := fun b => if b = L then none else H b
theorem hid_at {L : Addr} {H : Hp} : hid L H L = none := if_pos rfl
theorem hid_ne {L b : Addr} {H : Hp} (h : b ≠ L) : hid L H b = H b := if_neg h
theorem hid_some {L b : Addr} {H : Hp} {o : HO} (h : hid L H b = some o) : b ≠ L ∧ H b = some o := by
  by_cases e : b = L
  · subst e
    rw [hid_at] at h
    cases h
  · rw [hid_ne e] at h
    exact ⟨e, h⟩
theorem hid_upd {L : Addr} {H : Hp} {o : HO} : hid L (upd H L o) = hid L H := by
  funext b
  by_cases e : b = L
  · subst e
    rw [hid_at, hid_at]
  · rw [hid_ne e, hid_ne e, upd_ne e]
section
variable {K : PySem.W.Frag} {θ : Nat → Addr} {σ σ1 : L2.St} {B B1 H H1 : Hp} {ρ ρ1 : Rho} {L : Addr}
theorem Cf.shown (c : Cf K θ B (hid L H) σ ρ) : Cf K θ B H σ ρ := by
  refine ⟨fun b u e => (hid_some (c.bh b u e)).2, c.len, fun i s e => ?_, c.sep⟩
  have q := c.at_ i s e
  cases s with
  | none => trivial
  | some s =>
    cases s with
    | val d => exact q
    | own t o =>
      obtain ⟨p, u, h1, h2, h3, h4, h5⟩ := q
      exact ⟨p, u, h1, h2, (hid_some h3).2, h4, h5⟩
theorem Cf.hidden (c : Cf K θ B H σ ρ) (nB : B L = none) (no : ¬ OwnA σ ρ L) : Cf K θ B (hid L H) σ ρ := by
  refine ⟨fun b u e => ?_, c.len, fun i s e => ?_, c.sep⟩
  · rw [hid_ne (ne_of_none e nB)]
    exact c.bh b u e
  · have q := c.at_ i s e
    cases s with
    | none => trivial
    | some s =>
      cases s with
      | val d => exact q
      | own t o =>
        obtain ⟨p, u, e1, b1, k1, r1, t1, oa⟩ := c.own e
        have np : p ≠ L := fun y => by
          subst y
          exact no ⟨i, oa⟩
        exact ⟨p, u, by rw [e1]; rfl, b1, by rw [hid_ne np]; exact k1, r1, t1⟩
/-- a step of what does not know the list at L -/
theorem Step.hid {o : HO} (st : Step K θ σ B H ρ σ1 B1 H1 ρ1) (hL : H L = some o) (nB : B L = none) (no : ¬ OwnA σ ρ L) : Step K θ σ B (Nc.hid L H) ρ σ1 B1 (Nc.hid L H1) ρ1 ∧ H1 L = some o ∧ B1 L = none ∧ ¬ OwnA σ1 ρ1 L := by
  have h1 : H1 L = some o := st.keep L o hL no
  have b1 : B1 L = none := Classical.byContradiction fun y => by
    rcases st.new L y nB with z | z
    · rw [hL] at z
      cases z
    · exact no z
  have o1 : ¬ OwnA σ1 ρ1 L := fun z => by
    rcases st.own L z with q | q
    · exact no q
    · rw [hL] at q
      cases q
  refine ⟨⟨st.cf.hidden b1 o1, st.bb, fun b u e n => ?_, fun b e => ?_, fun b q n => ?_, fun b z => ?_⟩, h1, b1, o1⟩
  · obtain ⟨nb, e⟩ := hid_some e
    rw [hid_ne nb]
    exact st.keep b u e n
  · by_cases hb : b = L
    · subst hb
      rw [hid_at] at e
      exact absurd rfl e
    · rw [hid_ne hb] at e ⊢
      exact st.there b e
  · rcases st.new b q n with z | z
    · left
      by_cases hb : b = L
      · subst hb
        exact hid_at
      · rw [hid_ne hb]
        exact z
    · exact .inr z
  · rcases st.own b z with q | q
    · exact .inl q
    · right
      by_cases hb : b = L
      · subst hb
        exact hid_at
      · rw [hid_ne hb]
        exact q
variable {bnd : D → M Unit} {tt : M Bool} {el : M D} {vs ts : List Nat}
/-- an iterator's item, the frozen part grown -/
theorem Yields.item {J : It} {ds : List D} (ys : Yields K B1 J ds) (c : Cf K θ B H σ ρ) (sB : Same B1 B) {i : Nat} {d : D} {x : V} {H2 : Hp} (hd : ds[i]? = some d) (hy : J.yld i H x H2) : ∃ B2, Step K θ σ B H ρ σ B2 H2 ρ ∧ Rep K B2 d x := by
  rcases ys.yld i _ H x H2 hd (sB.trans c.bh) hy with ⟨rfl, r⟩ | ⟨p, o, hp, rfl, r⟩
  · exact ⟨B, Step.refl c, r.mono sB⟩
  · refine ⟨upd B p o, c.laid hp o, r.mono fun b w q => ?_⟩
    by_cases hb : b = p
    · subst hb
      rw [upd_same] at q ⊢
      exact q
    · rw [upd_ne hb] at q ⊢
      exact sB b w q
theorem ok_bnd {α β : Type} {f : M α} {g : α → M β} {ρ ρ' : Rho} {b : β} (h : (f >>= g) ρ = .ok b ρ') : ∃ a ρ1, f ρ = .ok a ρ1 ∧ g a ρ1 = .ok b ρ' := by
  cases e : f ρ with
  | no =>
    rw [bnd_no e] at h
    cases h
  | ex x ρ1 =>
    rw [bnd_ex e] at h
    cases h
  | ok a ρ1 =>
    rw [bnd_ok e] at h
    exact ⟨a, ρ1, rfl, h⟩
theorem lcLoop_cons {d : D} {ds acc out : List D} {ρ ρ' : Rho} (h : lcLoop bnd tt el vs (d :: ds) acc ρ = .ok out ρ') : acc.length < sizeLine ∧ ∃ r ρ2, turnM bnd tt el vs d ρ = .ok r ρ2 ∧ lcLoop bnd tt el vs ds (addO acc r) ρ2 = .ok out ρ' := by
  simp only [lcLoop] at h
  by_cases hz : acc.length < sizeLine
  · rw [if_pos hz] at h
    exact ⟨hz, ok_bnd h⟩
  · rw [if_neg hz] at h
    cases h
/-- THE LOOP of a clause's block, the list at L filled -/
theorem lc_loop {g : TG} {t : TT} {te : TE} (hts : ∀ i ∈ ts, i ∈ vs) (hx : ∀ d ρ x ρ', bnd d ρ ≠ .ex x ρ') (kg : ∀ v σ H Q, gD K ts bnd v σ H Q → g v σ H Q) (kt : ∀ σ H Q, tT K EN tt σ H Q → t σ H Q) (ke : ∀ σ H Q, tD K EN el σ H Q → te σ H Q)
    {J : It} {ds acc0 out : List D} {xs0 : List V} {ρo : Rho} {R : Hp → Prop} (ys : Yields K B1 J ds) (c1 : Cf K θ B1 (hid L H1) σ ρ1) (hL : H1 L = some (.lst xs0)) (nB1 : B1 L = none) (no1 : ¬ OwnA σ ρ1 L) (r0 : Reps K B1 acc0 xs0)
    (hrun : lcLoop bnd tt el vs ds acc0 ρ1 = .ok out ρo) (hfin : ∀ B' H' xs', Step K θ σ B1 (hid L H1) ρ1 σ B' (hid L H') ρo → H' L = some (.lst xs') → Reps K B' out xs' → B' L = none → ¬ OwnA σ ρo L → R H') :
    ∃ W : Nat → Nat → Hp → Prop, (∃ m, W 0 m H1) ∧ ∀ i m H, W i m H → (J.stop i H ∧ R H) ∨ (J.go i H ∧ ∃ Nx : Hp → Prop, (∀ H', Nx H' → ∃ m', m' < m ∧ W (i + 1) m' H') ∧ ∀ x H', J.yld i H x H' → g x (wipe σ vs) H' fun σ2 H2 => wipe σ2 vs = wipe σ vs ∧ t σ2 H2 fun b H3 =>
      if b = true then te σ2 H3 fun y H4 => ∃ acc, H4 L = some (.lst acc) ∧ acc.length < sizeLine ∧ Nx (upd H4 L (.lst (acc ++ [y]))) else Nx H3) := by
  refine ⟨fun i m H => m = ds.length - i ∧ i ≤ ds.length ∧ ∃ (B : Hp) (ρ : Rho) (acc : List D) (xs : List V), Step K θ σ B1 (hid L H1) ρ1 σ B (hid L H) ρ ∧ B L = none ∧ ¬ OwnA σ ρ L ∧ H L = some (.lst xs) ∧ Reps K B acc xs ∧ lcLoop bnd tt el vs (ds.drop i) acc ρ = .ok out ρo,
    ⟨ds.length, by simp, Nat.zero_le _, B1, ρ1, acc0, xs0, Step.refl c1, nB1, no1, hL, r0, hrun⟩, ?_⟩
  rintro i m H ⟨rfl, hi, B, ρ, acc, xs, st, nB, no, hH, ra, h⟩
  have c : Cf K θ B H σ ρ := st.cf.shown
  have sB := st.bb
  by_cases hlt : i < ds.length
  · refine .inr ⟨ys.go i H hlt (sB.trans c.bh), fun H' => ∃ (B : Hp) (ρ : Rho) (acc : List D) (xs : List V), Step K θ σ B1 (hid L H1) ρ1 σ B (hid L H') ρ ∧ B L = none ∧ ¬ OwnA σ ρ L ∧ H' L = some (.lst xs) ∧ Reps K B acc xs ∧ lcLoop bnd tt el vs (ds.drop (i + 1)) acc ρ = .ok out ρo,
      fun H' z => ⟨ds.length - (i + 1), by omega, rfl, hlt, z⟩, fun x H2 hy => ?_⟩
    have hd : ds[i]? = some ds[i] := List.getElem?_eq_getElem hlt
    rw [List.drop_eq_getElem_cons hlt] at h
    obtain ⟨hz, r, ρ', er, h'⟩ := lcLoop_cons h
    obtain ⟨B2, st2, rx⟩ := ys.item c sB hd hy
    obtain ⟨st2h, h2L, n2, o2⟩ := st2.hid hH nB no
    unfold turnM at er
    split at er
    · rename_i r2 ρ3 eblk
      cases er
      have cw : Cf K θ B2 (hid L H2) (wipe σ vs) (wipeR ρ vs) := st2h.cf.wiped
      have now : ¬ OwnA (wipe σ vs) (wipeR ρ vs) L := fun ⟨j, z⟩ => o2 ⟨j, (own_wipe z st2.cf.len).1⟩
      -- behind the block
      have fin : ∀ {B3 H3 σ3 ρ3}, Step K θ (wipe σ vs) B2 H2 (wipeR ρ vs) σ3 B3 H3 ρ3 → wipe σ3 vs = wipe σ vs → Step K θ σ B1 (hid L H1) ρ1 σ B3 (hid L H3) (mixR ρ ρ3 vs) ∧ H3 L = some (.lst xs) ∧ B3 L = none ∧ ¬ OwnA σ (mixR ρ ρ3 vs) L := fun {B3 H3 σ3 ρ3} s3 hw => by
        obtain ⟨s3h, h3L, n3, o3⟩ := s3.hid h2L n2 now
        have s4 := s3h.unwiped st2h.cf hw
        refine ⟨(st.trans st2h).trans s4, h3L, n3, fun z => ?_⟩
        have s4r := s3.unwiped st2.cf hw
        rcases s4r.own L z with q | q
        · exact o2 q
        · rw [h2L] at q
          cases q
      obtain ⟨u, ρ4, e1, eblk⟩ := ok_bnd eblk
      refine kg _ _ _ _ ⟨θ, B2, wipeR ρ vs, ds[i], st2.cf.wiped, rx, ρ4, e1, fun σ3 B3 H3 s3 hl hj _ => ?_⟩
      have hw : wipe σ3 vs = wipe σ vs := wipe_same hts (by rw [hl, wipe_length]) hj
      refine ⟨hw, kt _ _ _ ⟨θ, B3, ρ4, s3.cf, ?_⟩⟩
      obtain ⟨b, ρ5, e2, eblk⟩ := ok_bnd eblk
      rw [e2]
      intro b' B4 H4 s4 rb
      have eb : b = b' := rb
      subst eb
      have hs4 := s3.trans s4
      cases b with
      | false =>
        simp only [Bool.false_eq_true, if_false] at eblk
        cases eblk
        refine iteF ?_
        obtain ⟨q3, q1, q2, q4⟩ := fin hs4 hw
        exact ⟨B4, _, acc, xs, q3, q2, q4, q1, ra.mono (st2.bb.trans hs4.bb), h'⟩
      | true =>
        simp only [if_true] at eblk
        refine iteT (ke _ _ _ ⟨θ, B4, ρ5, s4.cf, ?_⟩)
        obtain ⟨z, ρ6, e3, eblk⟩ := ok_bnd eblk
        rw [e3]
        cases eblk
        intro y B5 H5 s5 ry
        have ry : Rep K B5 z y := ry
        have hs5 := hs4.trans s5
        obtain ⟨q3, q1, q2, q4⟩ := fin hs5 hw
        have ra5 := ra.mono (st2.bb.trans hs5.bb)
        exact ⟨xs, q1, by rw [← ra.length]; exact hz, B5, _, acc ++ [z], xs ++ [y], by rw [hid_upd]; exact q3, q2, q4, upd_same, ra5.append (Reps.cons ry Reps.nil), h'⟩
    · cases er
  · have e : i = ds.length := by omega
    subst e
    rw [List.drop_length] at h
    simp only [lcLoop, M.ret] at h
    cases h
    exact .inl ⟨ys.stop H (sB.trans c.bh), hfin B H xs st hH ra nB no⟩

/-! ### two clauses -/
def turn2 (bnd : D → M Unit) (tt : M Bool) (src1 : M (List D)) (bnd1 : D → M Unit) (tt1 : M Bool) (el : M D) (vs vs1 : List Nat) (d : D) (acc : List D) : M (List D) := fun ρ =>
  match (bnd d >>= fun _ => tt >>= fun b => if b then src1 >>= fun ds1 => lcLoop bnd1 tt1 el vs1 ds1 acc else M.ret acc) (wipeR ρ vs) with
  | .ok r ρ' => .ok r (mixR ρ ρ' vs)
  | _ => .no
def lc2Loop (bnd : D → M Unit) (tt : M Bool) (src1 : M (List D)) (bnd1 : D → M Unit) (tt1 : M Bool) (el : M D) (vs vs1 : List Nat) : List D → List D → M (List D)
  | [], acc => M.ret acc
  | d :: ds, acc => turn2 bnd tt src1 bnd1 tt1 el vs vs1 d acc >>= fun r => lc2Loop bnd tt src1 bnd1 tt1 el vs vs1 ds r
def lc2M (src : M (List D)) (bnd : D → M Unit) (tt : M Bool) (src1 : M (List D)) (bnd1 : D → M Unit) (tt1 : M Bool) (el : M D) (vs vs1 : List Nat) : M O := src >>= fun ds => lc2Loop bnd tt src1 bnd1 tt1 el vs vs1 ds [] >>= fun out => M.ret (.lst out)
variable {E : WX} {src src1 : M (List D)} {bnd1 : D → M Unit} {tt1 : M Bool} {vs1 ts1 : List Nat}
theorem turn2_noex {d : D} {acc : List D} {ρ : Rho} {x : Xn} {ρ' : Rho} : turn2 bnd tt src1 bnd1 tt1 el vs vs1 d acc ρ ≠ .ex x ρ' := by
  unfold turn2
  split <;> simp only [ne_eq, reduceCtorEq, not_false_eq_true]
theorem lc2Loop_noex : ∀ {ds acc : List D} {ρ : Rho} {x : Xn} {ρ' : Rho}, lc2Loop bnd tt src1 bnd1 tt1 el vs vs1 ds acc ρ ≠ .ex x ρ'
  | [], acc, ρ, x, ρ' => by simp only [lc2Loop, M.ret, ne_eq, reduceCtorEq, not_false_eq_true]
  | d :: ds, acc, ρ, x, ρ' => by
    simp only [lc2Loop]
    cases e : turn2 bnd tt src1 bnd1 tt1 el vs vs1 d acc ρ with
    | no => rw [bnd_no e]; simp only [ne_eq, reduceCtorEq, not_false_eq_true]
    | ex y ρ2 => exact absurd e turn2_noex
    | ok r ρ2 =>
      rw [bnd_ok e]
      exact lc2Loop_noex
theorem lc2_read {wi : TI} {g : TG} {t : TT} {wi1 : TI} {g1 : TG} {t1 : TT} {te : TE} (hts : ∀ i ∈ ts, i ∈ vs) (hx : ∀ d ρ x ρ', bnd d ρ ≠ .ex x ρ') (hts1 : ∀ i ∈ ts1, i ∈ vs1) (hx1 : ∀ d ρ x ρ', bnd1 d ρ ≠ .ex x ρ') (hvs : ∀ i ∈ vs1, i ∈ vs)
    (ki : ∀ σ H Q, tI K E src σ H Q → wi σ H Q) (kg : ∀ v σ H Q, gD K ts bnd v σ H Q → g v σ H Q) (kt : ∀ σ H Q, tT K EN tt σ H Q → t σ H Q) (ki1 : ∀ σ H Q, tI K EN src1 σ H Q → wi1 σ H Q) (kg1 : ∀ v σ H Q, gD K ts1 bnd1 v σ H Q → g1 v σ H Q) (kt1 : ∀ σ H Q, tT K EN tt1 σ H Q → t1 σ H Q)
    (ke : ∀ σ H Q, tD K EN el σ H Q → te σ H Q) : ∀ σ H Q, tN K E (lc2M src bnd tt src1 bnd1 tt1 el vs vs1) σ H Q → tLc2 wi g t wi1 g1 t1 te vs vs1 σ H Q := by
  rintro σ H0 Q ⟨θ, B0, ρ0, c0, h0⟩
  refine ki _ _ _ ⟨θ, B0, ρ0, c0, h0.seqS.imp ?_⟩
  rintro - - J - H1 - - - ⟨ds, B1, ρ1, st1, ys, h1⟩
  have ys : Yields K B1 J ds := ys
  intro L hL
  -- the whole run is known
  obtain ⟨out, ρo, hrun⟩ : ∃ out ρo, lc2Loop bnd tt src1 bnd1 tt1 el vs vs1 ds [] ρ1 = .ok out ρo := by
    cases e : lc2Loop bnd tt src1 bnd1 tt1 el vs vs1 ds [] ρ1 with
    | no =>
      rw [bnd_no e] at h1
      exact h1.elim
    | ex y ρ2 => exact absurd e lc2Loop_noex
    | ok r ρ2 => exact ⟨r, ρ2, rfl⟩
  rw [bnd_ok hrun] at h1
  have nB1 := st1.cf.unfrozen hL
  have no1 := own_not_new st1.cf hL
  have hh1 : hid L (upd H1 L (.lst [])) = H1 := by
    funext b
    by_cases e : b = L
    · subst e
      rw [hid_at, hL]
    · rw [hid_ne e, upd_ne e]
  refine ⟨fun i m H => m = ds.length - i ∧ i ≤ ds.length ∧ ∃ (B : Hp) (ρ : Rho) (acc : List D) (xs : List V), Step K θ σ B1 H1 ρ1 σ B (hid L H) ρ ∧ B L = none ∧ ¬ OwnA σ ρ L ∧ H L = some (.lst xs) ∧ Reps K B acc xs ∧ lc2Loop bnd tt src1 bnd1 tt1 el vs vs1 (ds.drop i) acc ρ = .ok out ρo,
    ⟨ds.length, by simp, Nat.zero_le _, B1, ρ1, [], [], by rw [hh1]; exact Step.refl st1.cf, nB1, no1, upd_same, Reps.nil, hrun⟩, ?_⟩
  rintro i m H ⟨rfl, hi, B, ρ, acc, xs, st, nB, no, hH, ra, h⟩
  have c : Cf K θ B H σ ρ := st.cf.shown
  have sB := st.bb
  by_cases hlt : i < ds.length
  · refine .inr ⟨ys.go i H hlt (sB.trans c.bh), fun H' => ∃ (B : Hp) (ρ : Rho) (acc : List D) (xs : List V), Step K θ σ B1 H1 ρ1 σ B (hid L H') ρ ∧ B L = none ∧ ¬ OwnA σ ρ L ∧ H' L = some (.lst xs) ∧ Reps K B acc xs ∧ lc2Loop bnd tt src1 bnd1 tt1 el vs vs1 (ds.drop (i + 1)) acc ρ = .ok out ρo,
      fun H' z => ⟨ds.length - (i + 1), by omega, rfl, hlt, z⟩, fun x H2 hy => ?_⟩
    have hd : ds[i]? = some ds[i] := List.getElem?_eq_getElem hlt
    rw [List.drop_eq_getElem_cons hlt] at h
    simp only [lc2Loop] at h
    obtain ⟨r, ρ', er, h'⟩ := ok_bnd h
    obtain ⟨B2, st2, rx⟩ := ys.item c sB hd hy
    obtain ⟨st2h, h2L, n2, o2⟩ := st2.hid hH nB no
    unfold turn2 at er
    split at er
    · rename_i r2 ρ3 eblk
      cases er
      have now : ¬ OwnA (wipe σ vs) (wipeR ρ vs) L := fun ⟨j, z⟩ => o2 ⟨j, (own_wipe z st2.cf.len).1⟩
      obtain ⟨u, ρ4, e1, eblk⟩ := ok_bnd eblk
      refine kg _ _ _ _ ⟨θ, B2, wipeR ρ vs, ds[i], st2.cf.wiped, rx, ρ4, e1, fun σ3 B3 H3 s3 hl hj _ => ?_⟩
      have hw : wipe σ3 vs = wipe σ vs := wipe_same hts (by rw [hl, wipe_length]) hj
      refine ⟨hw, kt _ _ _ ⟨θ, B3, ρ4, s3.cf, ?_⟩⟩
      obtain ⟨b, ρ5, e2, eblk⟩ := ok_bnd eblk
      rw [e2]
      intro b' B4 H4 s4 rb
      have eb : b = b' := rb
      subst eb
      have hs4 := s3.trans s4
      obtain ⟨s4h, h4L, n4, o4⟩ := hs4.hid h2L n2 now
      -- the turn's end
      have fin : ∀ {B5 H5 ρ5'} {xs' : List V} {acc' : List D}, Step K θ (wipe σ vs) B2 (hid L H2) (wipeR ρ vs) σ3 B5 (hid L H5) ρ5' → H5 L = some (.lst xs') → Reps K B5 acc' xs' → B5 L = none → ¬ OwnA σ3 ρ5' L → lc2Loop bnd tt src1 bnd1 tt1 el vs vs1 (ds.drop (i + 1)) acc' (mixR ρ ρ5' vs) = .ok out ρo →
          ∃ (B : Hp) (ρ : Rho) (acc : List D) (xs : List V), Step K θ σ B1 H1 ρ1 σ B (hid L H5) ρ ∧ B L = none ∧ ¬ OwnA σ ρ L ∧ H5 L = some (.lst xs) ∧ Reps K B acc xs ∧ lc2Loop bnd tt src1 bnd1 tt1 el vs vs1 (ds.drop (i + 1)) acc ρ = .ok out ρo := fun {B5 H5 ρ5' xs' acc'} s5 hx5 r5 n5 o5 hl5 => by
        have s6 := s5.unwiped st2h.cf hw
        refine ⟨B5, _, acc', xs', (st.trans st2h).trans s6, n5, fun z => ?_, hx5, r5, hl5⟩
        rcases s6.own L z with q | q
        · exact o2 q
        · obtain ⟨k, ⟨t', o', w⟩, w2⟩ := z
          have lr : ρ5'.length = ρ.length := by
            have l3 : σ3.length = σ.length := by rw [hl, wipe_length]
            rw [← s5.cf.len, l3, c.len]
          rw [mixR_at lr] at w
          by_cases hk : k ∈ vs
          · rw [if_pos hk] at w
            exact o2 ⟨k, ⟨t', o', w⟩, w2⟩
          · rw [if_neg hk] at w
            refine o5 ⟨k, ⟨t', o', w⟩, ?_⟩
            have := congrArg (fun l => l[k]?) hw
            simp only [wipe_at hk] at this
            rw [this]
            exact w2
      cases b with
      | false =>
        simp only [Bool.false_eq_true, if_false, M.ret] at eblk
        cases eblk
        exact iteF (fin s4h h4L (ra.mono (st2.bb.trans hs4.bb)) n4 o4 h')
      | true =>
        simp only [if_true] at eblk
        refine iteT (ki1 _ _ _ ⟨θ, B4, ρ5, s4.cf, ?_⟩)
        obtain ⟨ds1, ρ6, e3, eblk⟩ := ok_bnd eblk
        rw [e3]
        intro J1 B5 H5 s5 ys1
        have ys1 : Yields K B5 J1 ds1 := ys1
        obtain ⟨s5h, h5L, n5, o5⟩ := (hs4.trans s5).hid h2L n2 now
        refine lc_loop hts1 hx1 kg1 kt1 ke ys1 s5h.cf h5L n5 o5 (ra.mono (st2.bb.trans (hs4.trans s5).bb)) eblk fun B6 H6 xs6 s6 h6L r6 n6 o6 => ?_
        exact fin (s5h.trans s6) h6L r6 n6 o6 h'
    · cases er
  · have e : i = ds.length := by omega
    subst e
    rw [List.drop_length] at h
    simp only [lc2Loop, M.ret] at h
    cases h
    refine .inl ⟨ys.stop H (sB.trans c.bh), ?_⟩
    -- the whole step, the new list shown
    have hHh : H = upd (hid L H) L (.lst xs) := by
      funext b
      by_cases e : b = L
      · subst e
        rw [upd_same, hH]
      · rw [upd_ne e, hid_ne e]
    have sfin : Step K θ σ B1 H1 ρ1 σ B H ρo := by
      have := st.pokeS hL nB no (.lst xs)
      rw [← hHh] at this
      exact this
    exact h1 _ _ _ (st1.trans sfin) ⟨L, .lst xs, rfl, st1.wasNone hL, nB, hH, ⟨xs, rfl, ra⟩, no⟩
end
/-! ### stored by a name -/
theorem new_read {K : PySem.W.Frag} {E : WX} {f : M O} {te : TE} (k : ∀ σ H Q, tN K E f σ H Q → te σ H Q) : ∀ σ H Q, tD K E (frzM f) σ H Q → te σ H Q := by
  rintro σ H Q ⟨θ, B, ρ, c, h⟩
  refine k _ _ _ ⟨θ, B, ρ, c, h.seqS.imp ?_⟩
  rintro d ρ' x B' H1 - - - ⟨o, B1, ρ1, st1, ⟨p, u, rfl, n0, nB, hH, r, no⟩, h1⟩
  have s2 := st1.seal n0 nB hH no
  refine h1 _ _ _ s2 ?_
  exact (r.mono (fun b w q => by rw [upd_ne (ne_of_none q nB)]; exact q)).freeze upd_same
section
variable {X : Cx} {E : WX} {st : Stmt} {te : TE} {i : Nat}
theorem sn_setR {f : M O} (h : PS X st (tAsg te (gName i))) (k : ∀ σ H Q, tN X.K E f σ H Q → te σ H Q) : PS X st (tS X.K E (setN i f)) := by
  refine ps_weak h fun Dn σ H ⟨θ, B, ρ, c, h⟩ => k _ _ _ ⟨θ, B, ρ, c, h.seq.imp ?_⟩
  rintro d ρ' x B' H1 - - - ⟨d, B1, ρ1, st1, rx, h1⟩
  exact h1 _ _ _ (st1.take i rx)
theorem sd_setR {f : M D} (h : PS X st (tAsg te (gName i))) (k : ∀ σ H Q, tD X.K E f σ H Q → te σ H Q) : PS X st (tS X.K E (setS i f)) := by
  refine ps_weak h fun Dn σ H ⟨θ, B, ρ, c, h⟩ => k _ _ _ ⟨θ, B, ρ, c, h.seq.imp ?_⟩
  rintro d ρ' x B' H1 - - - ⟨d, B1, ρ1, st1, rx, h1⟩
  exact h1 _ _ _ (st1.trans (st1.cf.set i rx))
end
section
variable {X : Cx} {E : WX} {elt tg iter tg1 iter1 : Expr} {ifs ifs1 : List Expr} {scope : Scope} {own : List (Str × Nat)} {pos : Pos} {bnd bnd1 : D → M Unit} {tt tt1 : M Bool} {el : M D} {ts ts1 vs1 : List Nat} {src src1 : M (List D)}
abbrev BlkP (X : Cx) (scope : Scope) (P : Cx → Prop) : Prop := ∀ (s : Shared) (H : Hp) (C : Addr) (cl : List (Str × Addr)) (fp : List Addr), P (X.blk s H scope (compEnvC scope cl C X.env) fp)
theorem pn_lc2 (hc : X.calm = true) (hN : X.N.Nodup) (hi : PI X tg iter (tI X.K E src)) (ok : BlkOk X.N X.env.scope scope own) (hv : ∀ i ∈ vs1, i ∈ own.map (·.2)) (hts : ∀ i ∈ ts, i ∈ own.map (·.2)) (hx : ∀ d ρ x ρ', bnd d ρ ≠ .ex x ρ') (hts1 : ∀ i ∈ ts1, i ∈ vs1) (hx1 : ∀ d ρ x ρ', bnd1 d ρ ≠ .ex x ρ')
    (hg : BlkP X scope fun Y => PG Y tg (gD X.K ts bnd)) (ht : BlkP X scope fun Y => PTs Y ifs (tT X.K EN tt)) (hi1 : BlkP X scope fun Y => PI Y tg1 iter1 (tI X.K EN src1)) (hg1 : BlkP X scope fun Y => PG Y tg1 (gD X.K ts1 bnd1)) (ht1 : BlkP X scope fun Y => PTs Y ifs1 (tT X.K EN tt1))
    (he : BlkP X scope fun Y => PE Y elt (tD X.K EN el)) (hs : ∀ x, foldedSetIterable iter X.env x = pure x := by intro _; rfl) (hs1 : ∀ env x, foldedSetIterable iter1 env x = pure x := by intro _ _; rfl) :
    PE X (.ListComp elt [⟨tg, iter, ifs, 0⟩, ⟨tg1, iter1, ifs1, 0⟩] scope pos) (tN X.K E (lc2M src bnd tt src1 bnd1 tt1 el (own.map (·.2)) vs1)) :=
  pe_weak (pe_lc2 hc hN hi ok hv hg ht hi1 hg1 ht1 he hs hs1) (lc2_read hts hx hts1 hx1 hv (fun _ _ _ h => h) (fun _ _ _ _ h => h) (fun _ _ _ h => h) (fun _ _ _ h => h) (fun _ _ _ _ h => h) (fun _ _ _ h => h) fun _ _ _ h => h)
variable {i : Nat} {y : Str} {py spos : Pos}
theorem sn_setLc (hc : X.calm = true) (hN : X.N.Nodup) (hy : X.N[i]? = some y) (hyl : X.env.scope.names.lookup y = some .local) (hsw : swapsWith (.ListComp elt [⟨tg, iter, ifs, 0⟩] scope pos) (some (.Name y py)) spos.line X.env = pure true)
    (hi : PI X tg iter (tI X.K E src)) (ok : BlkOk X.N X.env.scope scope own) (hts : ∀ i ∈ ts, i ∈ own.map (·.2)) (hx : ∀ d ρ x ρ', bnd d ρ ≠ .ex x ρ') (hg : BlkP X scope fun Y => PG Y tg (gD X.K ts bnd)) (ht : BlkP X scope fun Y => PTs Y ifs (tT X.K EN tt)) (he : BlkP X scope fun Y => PE Y elt (tD X.K EN el))
    (hs : ∀ x, foldedSetIterable iter X.env x = pure x := by intro _; rfl) : PS X (.Assign [.Name y py] (.ListComp elt [⟨tg, iter, ifs, 0⟩] scope pos) spos) (tS X.K E (setN i (lcM src bnd tt el (own.map (·.2))))) :=
  sn_setR (ps_setLc hc hN hy hyl hsw hi ok hg ht he hs) (lc_read hts hx (fun _ _ _ h => h) (fun _ _ _ _ h => h) (fun _ _ _ h => h) fun _ _ _ h => h)
theorem sd_setLc (hc : X.calm = true) (hN : X.N.Nodup) (hy : X.N[i]? = some y) (hyl : X.env.scope.names.lookup y = some .local) (hsw : swapsWith (.ListComp elt [⟨tg, iter, ifs, 0⟩] scope pos) (some (.Name y py)) spos.line X.env = pure true)
    (hi : PI X tg iter (tI X.K E src)) (ok : BlkOk X.N X.env.scope scope own) (hts : ∀ i ∈ ts, i ∈ own.map (·.2)) (hx : ∀ d ρ x ρ', bnd d ρ ≠ .ex x ρ') (hg : BlkP X scope fun Y => PG Y tg (gD X.K ts bnd)) (ht : BlkP X scope fun Y => PTs Y ifs (tT X.K EN tt)) (he : BlkP X scope fun Y => PE Y elt (tD X.K EN el))
    (hs : ∀ x, foldedSetIterable iter X.env x = pure x := by intro _; rfl) : PS X (.Assign [.Name y py] (.ListComp elt [⟨tg, iter, ifs, 0⟩] scope pos) spos) (tS X.K E (setS i (frzM (lcM src bnd tt el (own.map (·.2)))))) :=
  sd_setR (ps_setLc hc hN hy hyl hsw hi ok hg ht he hs) (new_read (lc_read hts hx (fun _ _ _ h => h) (fun _ _ _ _ h => h) (fun _ _ _ h => h) fun _ _ _ h => h))
theorem sd_setLc2 (hc : X.calm = true) (hN : X.N.Nodup) (hy : X.N[i]? = some y) (hyl : X.env.scope.names.lookup y = some .local) (hsw : swapsWith (.ListComp elt [⟨tg, iter, ifs, 0⟩, ⟨tg1, iter1, ifs1, 0⟩] scope pos) (some (.Name y py)) spos.line X.env = pure true)
    (hi : PI X tg iter (tI X.K E src)) (ok : BlkOk X.N X.env.scope scope own) (hv : ∀ i ∈ vs1, i ∈ own.map (·.2)) (hts : ∀ i ∈ ts, i ∈ own.map (·.2)) (hx : ∀ d ρ x ρ', bnd d ρ ≠ .ex x ρ') (hts1 : ∀ i ∈ ts1, i ∈ vs1) (hx1 : ∀ d ρ x ρ', bnd1 d ρ ≠ .ex x ρ')
    (hg : BlkP X scope fun Y => PG Y tg (gD X.K ts bnd)) (ht : BlkP X scope fun Y => PTs Y ifs (tT X.K EN tt)) (hi1 : BlkP X scope fun Y => PI Y tg1 iter1 (tI X.K EN src1)) (hg1 : BlkP X scope fun Y => PG Y tg1 (gD X.K ts1 bnd1)) (ht1 : BlkP X scope fun Y => PTs Y ifs1 (tT X.K EN tt1))
    (he : BlkP X scope fun Y => PE Y elt (tD X.K EN el)) (hs : ∀ x, foldedSetIterable iter X.env x = pure x := by intro _; rfl) (hs1 : ∀ env x, foldedSetIterable iter1 env x = pure x := by intro _ _; rfl) :
    PS X (.Assign [.Name y py] (.ListComp elt [⟨tg, iter, ifs, 0⟩, ⟨tg1, iter1, ifs1, 0⟩] scope pos) spos) (tS X.K E (setS i (frzM (lc2M src bnd tt src1 bnd1 tt1 el (own.map (·.2)) vs1)))) :=
  sd_setR (ps_setLc2 hc hN hy hyl hsw hi ok hv hg ht hi1 hg1 ht1 he hs hs1) (new_read (lc2_read hts hx hts1 hx1 hv (fun _ _ _ h => h) (fun _ _ _ _ h => h) (fun _ _ _ h => h) (fun _ _ _ h => h) (fun _ _ _ _ h => h) (fun _ _ _ h => h) fun _ _ _ h => h))
end
end Nc

/-! Set comprehensions of ints, put in order at once. -/
namespace Nc
open PySem PySem.Spec PyProof.Rows L2

/-- a set of ints has one more -/
def grown (w : World) (L : Addr) (k : Int) (S : Int → Bool) (n : Nat) : HO := SetO w L (fun j => S j || decide (j = k)) (if S k = true then n else n + 1)
section
variable {X : Cx} {pins : List (Addr × Obj)} {σ : L2.St} {H : Hp} {s : Shared}
theorem set_one {L : Addr} {S : Int → Bool} {n : Nat} {k : Int} {u : Value} {E : Value → Shared → Prop} {Q : Value → Shared → Prop} (I : Inv X pins σ H s) (hL : H L = some (SetO X.w L S n)) (few : n + 1 < scanBound) (r : RelV (.int k) u)
    (go : ∀ s', Inv X pins σ (upd H L (grown X.w L k S n)) s' → Q .none s') : wpAny (model X.prog X.w) X.A (call (.builtin "set.add") [.ref L, u]) Q E s := by
  obtain ⟨tk, rfl⟩ := r
  refine setR_add (setO_get I hL) few fun h' but R' => go _ ?_
  have there : ∃ o, h'.get? L = some o := by
    obtain ⟨o, _, _, _, e, _⟩ := id R'
    exact ⟨o, e⟩
  exact I.write (x := L) (e := L) (t' := s.toks + 1) (by rw [hL]; trivial) (.inl rfl) (fun b o hb e => (but.2 b hb).trans e) there (setO_new R')
/-- {elt for tg in iter if ..} of ints: W by the turn and a measure -/
def tSi (w : World) (wi : TI) (g : TG) (tt : TT) (te : TE) (vs : List Nat) : TE := fun σ H Q => wi σ H fun J H1 => ∀ L, H1 L = none → ∃ W : Nat → Nat → Hp → Prop, (∃ m, W 0 m (upd H1 L (SetO w L (fun _ => false) 0))) ∧ ∀ i m H, W i m H →
  (J.stop i H ∧ Q (.ref L) H) ∨ (J.go i H ∧ ∃ Nx : Hp → Prop, (∀ H', Nx H' → ∃ m', m' < m ∧ W (i + 1) m' H') ∧ ∀ x H', J.yld i H x H' → g x (wipe σ vs) H' fun σ2 H2 => wipe σ2 vs = wipe σ vs ∧ tt σ2 H2 fun b H3 =>
    if b = true then te σ2 H3 fun y H4 => ∃ (k : Int) (S : Int → Bool) (n : Nat), y = .int k ∧ H4 L = some (SetO w L S n) ∧ n + 1 < scanBound ∧ Nx (upd H4 L (grown w L k S n)) else Nx H3)
theorem si_core {Q : VK} {elt tg iter : Expr} {ifs : List Expr} {scope : Scope} {own : List (Str × Nat)} {pos pos' : Pos} {wi : TI} {g : TG} {tt : TT} {te : TE} {use : Option (Value → Sem Unit)} {Qf : Value → Shared → Prop}
    (hc : X.calm = true) (hN : X.N.Nodup) (I : Inv X pins σ H s) (hi : PI X tg iter wi) (ok : BlkOk X.N X.env.scope scope own) (hg : BlkP X scope fun Y => PG Y tg g) (ht : BlkP X scope fun Y => PTs Y ifs tt) (he : BlkP X scope fun Y => PE Y elt te)
    (hs : ∀ x, foldedSetIterable iter X.env x = pure x) (h : tSi X.w wi g tt te (own.map (·.2)) σ H Q)
    (back : ∀ L C s' m H', Inv X pins σ H' s' → Q (.ref L) H' → s'.heap.Ns C m → FpOk X pins H' C → compPost (model X.prog X.w) X.A X.xe use Qf (.ref L) C (.ok .next) s') :
    wpAny (model X.prog X.w) X.A (comprehension (.SetComp elt [⟨tg, iter, ifs, 0⟩] scope pos) scope X.env pos' (newSet (.type "set")) false (eval iter X.env) use) Qf X.xe s := by
  have free : ∀ y ∈ scope.names, y.2 = .free → ∃ c, X.env.cells.lookup y.1 = some c := fun y hy e => (ok.free y hy e).elim (fun k => I.ok.has _ (.inl k)) fun k => I.ok.has _ (.inr k)
  refine wpAny_comprehension_free (use := use) rfl hs (closure_ok free) ok.kind (fun y hy e => by rw [ok.uniq y hy, e]) (thn (hi.run pins s σ H _ I h) fun v s1 h1 => thn h1 fun w s2 h2 => ?_)
  obtain ⟨it, fp, tn, J, Ha, rfl, Ia, T, ta, fa, q⟩ := h2
  refine PpSet.newSet_ok (newEnv_comp ?_)
  generalize hL : s2.heap.objs.size = L
  have nL : Ha L = none := Ia.hok.fresh (Nat.le_of_eq hL)
  obtain ⟨W, ⟨m0, w0⟩, turn⟩ := q L nL
  -- the empty set is laid
  generalize e3 : ({ s2 with heap := s2.heap.push { cls := .type "set", dict := none, data := .set #[] 0 (.fresh 0 0 (!X.w.params.followText "set-order")) } } : Shared) = s3
  have p3 : s3.heap = s2.heap.push { cls := .type "set", dict := none, data := .set #[] 0 (.fresh 0 0 (!X.w.params.followText "set-order")) } := by rw [← e3]
  have k3 : ∀ b o, s2.heap.get? b = some o → s3.heap.get? b = some o := fun b o e => by rw [p3]; exact Heap.get?_push_of_some _ e
  generalize eb : upd Ha L (SetO X.w L (fun _ => false) 0) = Hb at w0
  have I3 : Inv X pins σ Hb s3 := by
    rw [← e3, ← eb]
    refine Ia.laid (t' := s2.toks) (fun b o e => Heap.get?_push_of_some _ e) (Nat.le_of_eq hL) ?_
    rw [← hL]
    exact setO_new (setR_fresh X.w)
  have young : ∀ b ∈ fp, b < s2.heap.objs.size := fun b hb => (T.obj _ _ ta b hb).elim fun o e => Heap.lt_size e.1
  have f3 : ∀ b ∈ fp, FpOk X pins Hb b ∧ b < s3.heap.objs.size := fun b hb => by
    refine ⟨⟨?_, (fa b hb).2⟩, by rw [p3, Heap.size_push]; exact Nat.lt_succ_of_lt (young b hb)⟩
    rw [← eb, upd_ne (by rw [← hL]; exact Nat.ne_of_lt (young b hb))]
    exact (fa b hb).1
  have t3 : tn 0 s3.heap := T.keep _ _ _ ta fun b _ o e => k3 b o e
  have I4 := block_start I3 ok hN f3
  generalize eC : s3.heap.objs.size = C at I4 f3
  have pg := hg s3 Hb C (cellsFrom (C + 1) scope.names (cloFrom X.env.cells scope.names [])) fp
  have pt := ht s3 Hb C (cellsFrom (C + 1) scope.names (cloFrom X.env.cells scope.names [])) fp
  have pe := he s3 Hb C (cellsFrom (C + 1) scope.names (cloFrom X.env.cells scope.names [])) fp
  show codeAny _ _ (.compStart (.SetComp elt [⟨tg, iter, ifs, 0⟩] scope pos) 0 (.ref it) (.ref L) (compEnvC scope (cellsFrom (C + 1) scope.names (cloFrom X.env.cells scope.names [])) C X.env)) (compPost (model X.prog X.w) X.A X.xe use Qf (.ref L) C) { s3 with heap := pushCells (s3.heap.push { cls := .type "dict", data := .dict #[] }) scope.names }
  have nfp : ∀ b ∈ fp, Hb b = none := fun b hb => (f3 b hb).1.1
  generalize ec : compEnvC scope (cellsFrom (C + 1) scope.names (cloFrom X.env.cells scope.names [])) C X.env = ce at I4 pg pt pe ⊢
  have cL : ce.locals = C := by subst ec; rfl
  generalize e4 : ({ s3 with heap := pushCells (s3.heap.push { cls := .type "dict", data := .dict #[] }) scope.names } : Shared) = s4 at I4 ⊢
  have t4 : tn 0 s4.heap := T.keep _ _ _ t3 fun b _ o e => by rw [← e4]; exact pushCells_keeps _ _ _ _ (Heap.get?_push_of_some _ e)
  have fpk : ∀ {σ' : L2.St} {H' : Hp} {s' : Shared}, Inv (X.blk s3 Hb scope ce fp) [] σ' H' s' → (∀ b ∈ fp, H' b = none) → ∀ b ∈ fp, FpOk (X.blk s3 Hb scope ce fp) [] H' b := fun {σ' H' s'} I' n b hb =>
    ⟨n b hb, (I'.ok.exf b hb).1, I'.ok.exfs b hb, .inl hb, fun x c e => (I'.ok.exf b hb).2 x c e, fun p hp => by cases hp⟩
  have loop : codeAny (model X.prog X.w) X.A (.compLoop (.SetComp elt [⟨tg, iter, ifs, 0⟩] scope pos) 0 (.ref it) (.ref L) ce) (compPost (model X.prog X.w) X.A X.xe use Qf (.ref L) C) s4 := by
    refine PpSet.compLoopS_any (fun n s' => ∃ i H', Inv (X.blk s3 Hb scope ce fp) [] (wipe σ (own.map (·.2))) H' s' ∧ tn i s'.heap ∧ (∀ b ∈ fp, H' b = none) ∧ W i n H') ?_ m0 ⟨0, Hb, I4, t4, nfp, w0⟩
    rintro n s5 ⟨i, H5, I5, t5, n5, w5⟩
    rcases turn i n H5 w5 with ⟨stop, qq⟩ | ⟨go, Nx, hNx, step⟩
    · refine thnF (T.done (X.blk s3 Hb scope ce fp) rfl rfl rfl hc i [] s5 _ H5 (fun _ _ => False) I5 (fpk I5 n5) t5 stop) fun r s6 ⟨hr, I6⟩ => ?_
      subst hr
      have I7 : Inv X pins σ H5 s6 := I3.call' (ch := fp) I6.os I6.base I6.hok I6.bare fun b hb => ⟨(f3 b hb).1.2.2.2.1, (f3 b hb).1.2.1, (f3 b hb).1.2.2.2.2.1, (f3 b hb).1.2.2.2.2.2⟩
      obtain ⟨m, hn, _⟩ := I6.loc
      have hn : s6.heap.Ns ce.locals m := hn
      have nC : H5 ce.locals = none := I6.free
      rw [cL] at hn nC
      exact back L C s6 m H5 I7 qq hn (I3.fpOk (Nat.le_of_eq eC) nC)
    · refine thnF (T.item (X.blk s3 Hb scope ce fp) rfl rfl rfl hc i [] s5 _ H5 (fun _ _ => False) I5 (fpk I5 n5) t5 go) fun r s6 ⟨u, hr, h6⟩ => ?_
      subst hr
      refine thnF h6 fun _ s7 ⟨x, H7, I7, r7, y7, t7, n7⟩ => ?_
      have I7p := I7.pinned (fpk I7 n7) (T.obj _ _ t7)
      refine thnF (pg.run _ s7 _ H7 x u _ I7p r7 (step x H7 y7)) fun _ s8 ⟨σ8, H8, I8, hw8, q8⟩ => ?_
      refine thnF (pt.run _ s8 σ8 H8 _ I8 q8) fun b s9 ⟨H9, I9, q9⟩ => ?_
      have fin : ∀ {s' : Shared} {H' : Hp}, Inv (X.blk s3 Hb scope ce fp) ([] ++ pinsAt fp s7.heap) σ8 H' s' → Nx H' → ∃ m, m < n ∧ ∃ i H', Inv (X.blk s3 Hb scope ce fp) [] (wipe σ (own.map (·.2))) H' s' ∧ tn i s'.heap ∧ (∀ b ∈ fp, H' b = none) ∧ W i m H' := fun {s' H'} I' nx => by
        obtain ⟨m', hm, w'⟩ := hNx H' nx
        have at' : ∀ b ∈ fp, ∀ o, s7.heap.get? b = some o → s'.heap.get? b = some o ∧ H' b = none := fun b hb o e => by
          have z := I'.pin (b, o) (List.mem_append_right _ (List.mem_append_right _ (mem_pinsAt hb e)))
          exact ⟨z.1, z.2.1⟩
        refine ⟨m', hm, i + 1, H', (I'.unpinned (pins := [])).weak (by rw [← hw8, wipe_length]) (fun j v e => ?_), T.keep _ _ _ t7 fun b hb o e => (at' b hb o e).1, fun b hb => (T.obj _ _ t7 b hb).elim fun o e => (at' b hb o e.1).2, w'⟩
        rw [← hw8] at e
        exact (wipe_some e).1
      cases b with
      | false =>
        simp only [Bool.false_eq_true, if_false] at q9 ⊢
        exact fin I9 q9
      | true =>
        simp only [if_true] at q9 ⊢
        refine thnF (pe.run _ s9 σ8 H9 _ I9 q9) fun z s10 ⟨yv, H10, I10, r10, k, S, n0, ey, hL10, few, nx⟩ => ?_
        subst ey
        exact set_one (X := X.blk s3 Hb scope ce fp) I10 hL10 few r10 fun s11 I11 => fin I11 nx
  exact PpSet.codeAny_compStart_set loop (T.self X.A 0 _ _ _ t4 loop)
theorem pe_si {elt tg iter : Expr} {ifs : List Expr} {scope : Scope} {own : List (Str × Nat)} {pos : Pos} {wi : TI} {g : TG} {tt : TT} {te : TE} (hc : X.calm = true) (hN : X.N.Nodup) (hi : PI X tg iter wi) (ok : BlkOk X.N X.env.scope scope own)
    (hg : BlkP X scope fun Y => PG Y tg g) (ht : BlkP X scope fun Y => PTs Y ifs tt) (he : BlkP X scope fun Y => PE Y elt te) (hs : ∀ x, foldedSetIterable iter X.env x = pure x := by intro _; rfl) : PE X (.SetComp elt [⟨tg, iter, ifs, 0⟩] scope pos) (tSi X.w wi g tt te (own.map (·.2))) := by
  refine ⟨fun pins s σ H Q I h => ?_⟩
  rw [PpSet.eval_SetComp]
  refine si_core hc hN I hi ok hg ht he hs h fun L C s' m H' I' q hn f => ⟨m, hn, fun h'' sb => ?_⟩
  obtain ⟨f0, f1, f2, f3, f4, f5⟩ := f
  exact ⟨.ref L, H', I'.turned (t' := s'.toks) (fun b o hb e => (sb.2 b hb).trans e) f0 f1 f3 f4 f5, rfl, q⟩
end

/-! ### the loop, whatever is filled -/
section
variable {K : PySem.W.Frag} {θ : Nat → Addr} {σ σ1 : L2.St} {B B1 H H1 : Hp} {ρ ρ1 : Rho} {L : Addr} {bnd : D → M Unit} {tt : M Bool} {el : M D} {vs ts : List Nat} {E : WX} {src : M (List D)}
theorem lcLoop_pre : ∀ {ds acc out : List D} {ρ ρ' : Rho}, lcLoop bnd tt el vs ds acc ρ = .ok out ρ' → acc <+: out
  | [], acc, out, ρ, ρ', h => by
    simp only [lcLoop, M.ret] at h
    cases h
    exact List.prefix_refl _
  | d :: ds, acc, out, ρ, ρ', h => by
    obtain ⟨_, r, ρ2, _, h2⟩ := lcLoop_cons h
    have := lcLoop_pre h2
    cases r with
    | none => exact this
    | some z => exact (List.prefix_append acc [z]).trans this
theorem lc_loopG {g : TG} {t : TT} {te : TE} (Ct : Hp → List D → HO → Prop) (Add : V → Hp → (Hp → Prop) → Prop) {out : List D} (mono : ∀ B B' acc o, Same B B' → Ct B acc o → Ct B' acc o)
    (hadd : ∀ B H acc z y o Nx, H L = some o → Ct B acc o → Rep K B z y → acc.length < sizeLine → (acc ++ [z]) <+: out → (∀ o', Ct B (acc ++ [z]) o' → Nx (upd H L o')) → Add y H Nx)
    (hts : ∀ i ∈ ts, i ∈ vs) (hx : ∀ d ρ x ρ', bnd d ρ ≠ .ex x ρ') (kg : ∀ v σ H Q, gD K ts bnd v σ H Q → g v σ H Q) (kt : ∀ σ H Q, tT K EN tt σ H Q → t σ H Q) (ke : ∀ σ H Q, tD K EN el σ H Q → te σ H Q)
    {J : It} {ds acc0 : List D} {o0 : HO} {ρo : Rho} {R : Hp → Prop} (ys : Yields K B1 J ds) (c1 : Cf K θ B1 (hid L H1) σ ρ1) (hL : H1 L = some o0) (nB1 : B1 L = none) (no1 : ¬ OwnA σ ρ1 L) (r0 : Ct B1 acc0 o0)
    (hrun : lcLoop bnd tt el vs ds acc0 ρ1 = .ok out ρo) (hfin : ∀ B' H' o', Step K θ σ B1 (hid L H1) ρ1 σ B' (hid L H') ρo → H' L = some o' → Ct B' out o' → B' L = none → ¬ OwnA σ ρo L → R H') :
    ∃ W : Nat → Nat → Hp → Prop, (∃ m, W 0 m H1) ∧ ∀ i m H, W i m H → (J.stop i H ∧ R H) ∨ (J.go i H ∧ ∃ Nx : Hp → Prop, (∀ H', Nx H' → ∃ m', m' < m ∧ W (i + 1) m' H') ∧ ∀ x H', J.yld i H x H' → g x (wipe σ vs) H' fun σ2 H2 => wipe σ2 vs = wipe σ vs ∧ t σ2 H2 fun b H3 =>
      if b = true then te σ2 H3 fun y H4 => Add y H4 Nx else Nx H3) := by
  refine ⟨fun i m H => m = ds.length - i ∧ i ≤ ds.length ∧ ∃ (B : Hp) (ρ : Rho) (acc : List D) (o : HO), Step K θ σ B1 (hid L H1) ρ1 σ B (hid L H) ρ ∧ B L = none ∧ ¬ OwnA σ ρ L ∧ H L = some o ∧ Ct B acc o ∧ lcLoop bnd tt el vs (ds.drop i) acc ρ = .ok out ρo,
    ⟨ds.length, by simp, Nat.zero_le _, B1, ρ1, acc0, o0, Step.refl c1, nB1, no1, hL, r0, hrun⟩, ?_⟩
  rintro i m H ⟨rfl, hi, B, ρ, acc, o, st, nB, no, hH, ra, h⟩
  have c : Cf K θ B H σ ρ := st.cf.shown
  have sB := st.bb
  by_cases hlt : i < ds.length
  · refine .inr ⟨ys.go i H hlt (sB.trans c.bh), fun H' => ∃ (B : Hp) (ρ : Rho) (acc : List D) (o : HO), Step K θ σ B1 (hid L H1) ρ1 σ B (hid L H') ρ ∧ B L = none ∧ ¬ OwnA σ ρ L ∧ H' L = some o ∧ Ct B acc o ∧ lcLoop bnd tt el vs (ds.drop (i + 1)) acc ρ = .ok out ρo,
      fun H' z => ⟨ds.length - (i + 1), by omega, rfl, hlt, z⟩, fun x H2 hy => ?_⟩
    have hd : ds[i]? = some ds[i] := List.getElem?_eq_getElem hlt
    rw [List.drop_eq_getElem_cons hlt] at h
    obtain ⟨hz, r, ρ', er, h'⟩ := lcLoop_cons h
    obtain ⟨B2, st2, rx⟩ := ys.item c sB hd hy
    obtain ⟨st2h, h2L, n2, o2⟩ := st2.hid hH nB no
    unfold turnM at er
    split at er
    · rename_i r2 ρ3 eblk
      cases er
      have now : ¬ OwnA (wipe σ vs) (wipeR ρ vs) L := fun ⟨j, z⟩ => o2 ⟨j, (own_wipe z st2.cf.len).1⟩
      have fin : ∀ {B3 H3 σ3 ρ3}, Step K θ (wipe σ vs) B2 H2 (wipeR ρ vs) σ3 B3 H3 ρ3 → wipe σ3 vs = wipe σ vs → Step K θ σ B1 (hid L H1) ρ1 σ B3 (hid L H3) (mixR ρ ρ3 vs) ∧ H3 L = some o ∧ B3 L = none ∧ ¬ OwnA σ (mixR ρ ρ3 vs) L := fun {B3 H3 σ3 ρ3} s3 hw => by
        obtain ⟨s3h, h3L, n3, o3⟩ := s3.hid h2L n2 now
        have s4 := s3h.unwiped st2h.cf hw
        refine ⟨(st.trans st2h).trans s4, h3L, n3, fun z => ?_⟩
        have s4r := s3.unwiped st2.cf hw
        rcases s4r.own L z with q | q
        · exact o2 q
        · rw [h2L] at q
          cases q
      obtain ⟨u, ρ4, e1, eblk⟩ := ok_bnd eblk
      refine kg _ _ _ _ ⟨θ, B2, wipeR ρ vs, ds[i], st2.cf.wiped, rx, ρ4, e1, fun σ3 B3 H3 s3 hl hj _ => ?_⟩
      have hw : wipe σ3 vs = wipe σ vs := wipe_same hts (by rw [hl, wipe_length]) hj
      refine ⟨hw, kt _ _ _ ⟨θ, B3, ρ4, s3.cf, ?_⟩⟩
      obtain ⟨b, ρ5, e2, eblk⟩ := ok_bnd eblk
      rw [e2]
      intro b' B4 H4 s4 rb
      have eb : b = b' := rb
      subst eb
      have hs4 := s3.trans s4
      cases b with
      | false =>
        simp only [Bool.false_eq_true, if_false] at eblk
        cases eblk
        refine iteF ?_
        obtain ⟨q3, q1, q2, q4⟩ := fin hs4 hw
        exact ⟨B4, _, acc, o, q3, q2, q4, q1, mono _ _ _ _ (st2.bb.trans hs4.bb) ra, h'⟩
      | true =>
        simp only [if_true] at eblk
        refine iteT (ke _ _ _ ⟨θ, B4, ρ5, s4.cf, ?_⟩)
        obtain ⟨z, ρ6, e3, eblk⟩ := ok_bnd eblk
        rw [e3]
        cases eblk
        intro y B5 H5 s5 ry
        have ry : Rep K B5 z y := ry
        have hs5 := hs4.trans s5
        obtain ⟨q3, q1, q2, q4⟩ := fin hs5 hw
        exact hadd B5 H5 acc z y o _ q1 (mono _ _ _ _ (st2.bb.trans hs5.bb) ra) ry hz (lcLoop_pre h') fun o' k => ⟨B5, _, acc ++ [z], o', by rw [hid_upd]; exact q3, q2, q4, upd_same, k, h'⟩
    · cases er
  · have e : i = ds.length := by omega
    subst e
    rw [List.drop_length] at h
    simp only [lcLoop, M.ret] at h
    cases h
    exact .inl ⟨ys.stop H (sB.trans c.bh), hfin B H o st hH ra nB no⟩
end

/-! ### in order, each once -/
def insU (k : Int) : List Int → List Int
  | [] => [k]
  | x :: xs => if k < x then k :: x :: xs else if k = x then x :: xs else x :: insU k xs
def sortU (ns : List Int) : List Int := ns.foldl (fun acc k => insU k acc) []
theorem mem_insU {k j : Int} : ∀ {xs : List Int}, j ∈ insU k xs ↔ j = k ∨ j ∈ xs
  | [] => by simp [insU]
  | x :: xs => by
    unfold insU
    split
    · simp
    · split
      · rename_i e
        subst e
        simp
      · rw [List.mem_cons, mem_insU, List.mem_cons]
        constructor
        · rintro (h | h | h)
          · exact .inr (.inl h)
          · exact .inl h
          · exact .inr (.inr h)
        · rintro (h | h | h)
          · exact .inr (.inl h)
          · exact .inl h
          · exact .inr (.inr h)
theorem insU_sorted {k : Int} : ∀ {xs : List Int}, xs.Pairwise (· < ·) → (insU k xs).Pairwise (· < ·)
  | [], _ => by simp [insU]
  | x :: xs, h => by
    obtain ⟨h1, h2⟩ := List.pairwise_cons.mp h
    unfold insU
    split
    · rename_i hk
      exact List.pairwise_cons.mpr ⟨fun y hy => by
        rcases List.mem_cons.mp hy with rfl | hy
        · exact hk
        · have := h1 y hy
          omega, h⟩
    · split
      · exact h
      · exact List.pairwise_cons.mpr ⟨fun y hy => by
          rcases mem_insU.mp hy with rfl | hy
          · omega
          · exact h1 y hy, insU_sorted h2⟩
theorem insU_len {k : Int} : ∀ {xs : List Int}, xs.Pairwise (· < ·) → (insU k xs).length = if k ∈ xs then xs.length else xs.length + 1
  | [], _ => by simp [insU]
  | x :: xs, h => by
    obtain ⟨h1, h2⟩ := List.pairwise_cons.mp h
    unfold insU
    split
    · rename_i hk
      have : k ∉ x :: xs := fun z => by
        rcases List.mem_cons.mp z with rfl | z
        · omega
        · have := h1 k z
          omega
      rw [if_neg this]
      rfl
    · split
      · rename_i e
        subst e
        simp
      · rename_i hk hne
        rw [List.length_cons, insU_len h2]
        by_cases hm : k ∈ xs
        · rw [if_pos hm, if_pos (List.mem_cons_of_mem _ hm)]
          rfl
        · rw [if_neg hm, if_neg (fun z => by rcases List.mem_cons.mp z with z | z; exact hne z; exact hm z)]
          rfl
theorem sortU_snoc (ns : List Int) (k : Int) : sortU (ns ++ [k]) = insU k (sortU ns) := by
  unfold sortU
  rw [List.foldl_append]
  rfl
theorem foldU_sorted : ∀ (ns : List Int) {acc : List Int}, acc.Pairwise (· < ·) → (ns.foldl (fun acc k => insU k acc) acc).Pairwise (· < ·)
  | [], _, h => h
  | n :: ns, _, h => foldU_sorted ns (insU_sorted h)
theorem sortU_sorted (ns : List Int) : (sortU ns).Pairwise (· < ·) := foldU_sorted ns List.Pairwise.nil
theorem mem_foldU {j : Int} : ∀ (ns : List Int) {acc : List Int}, j ∈ ns.foldl (fun acc k => insU k acc) acc ↔ j ∈ acc ∨ j ∈ ns
  | [], acc => by simp
  | n :: ns, acc => by
    rw [List.foldl_cons, mem_foldU ns, mem_insU, List.mem_cons]
    constructor
    · rintro ((h | h) | h)
      · exact .inr (.inl h)
      · exact .inl h
      · exact .inr (.inr h)
    · rintro (h | h | h)
      · exact .inl (.inr h)
      · exact .inl (.inl h)
      · exact .inr h
theorem mem_sortU {j : Int} {ns : List Int} : j ∈ sortU ns ↔ j ∈ ns := by
  unfold sortU
  rw [mem_foldU]
  simp
/-- two strictly rising lists with the same members are one -/
theorem rising_one : ∀ {xs ys : List Int}, xs.Pairwise (· < ·) → ys.Pairwise (· < ·) → (∀ j, j ∈ xs ↔ j ∈ ys) → xs = ys
  | [], [], _, _, _ => rfl
  | [], y :: ys, _, _, h => by
    have := (h y).mpr List.mem_cons_self
    cases this
  | x :: xs, [], _, _, h => by
    have := (h x).mp List.mem_cons_self
    cases this
  | x :: xs, y :: ys, hx, hy, h => by
    obtain ⟨x1, x2⟩ := List.pairwise_cons.mp hx
    obtain ⟨y1, y2⟩ := List.pairwise_cons.mp hy
    have e : x = y := by
      rcases List.mem_cons.mp ((h x).mp List.mem_cons_self) with e | m
      · exact e
      · rcases List.mem_cons.mp ((h y).mpr List.mem_cons_self) with e | m'
        · exact e.symm
        · have := y1 x m
          have := x1 y m'
          omega
    subst e
    congr 1
    refine rising_one x2 y2 fun j => ⟨fun m => ?_, fun m => ?_⟩
    · rcases List.mem_cons.mp ((h j).mp (List.mem_cons_of_mem _ m)) with e | q
      · subst e
        have := x1 j m
        omega
      · exact q
    · rcases List.mem_cons.mp ((h j).mpr (List.mem_cons_of_mem _ m)) with e | q
      · subst e
        have := y1 j m
        omega
      · exact q
theorem sortU_len (ns : List Int) : (sortU ns).length ≤ ns.length := by
  have : ∀ (ns acc : List Int), acc.Pairwise (· < ·) → (ns.foldl (fun acc k => insU k acc) acc).length ≤ acc.length + ns.length := by
    intro ns
    induction ns with
    | nil => intro acc _; simp
    | cons n ns ih =>
      intro acc h
      rw [List.foldl_cons, List.length_cons]
      have a := ih _ (insU_sorted (k := n) h)
      have b := insU_len (k := n) h
      split at b <;> omega
  have := this ns [] List.Pairwise.nil
  simpa [sortU] using this

/-! ### sorted({.. for ..}) of ints -/
def fewI (out : List D) : Option O := (D.ints out).bind fun ns => if ns.length < 63 then some (.lst ((sortU ns).map D.int)) else none
def ssM (src : M (List D)) (bnd : D → M Unit) (tt : M Bool) (el : M D) (vs : List Nat) : M O := src >>= fun ds => lcLoop bnd tt el vs ds [] >>= fun out => M.opt (fewI out)
theorem ints_mem {out : List D} {ns : List Int} (h : D.ints out = some ns) : ∀ z ∈ out, ∃ k, z = .int k := fun z hz => by
  rw [ints_map h] at hz
  obtain ⟨k, _, e⟩ := List.mem_map.mp hz
  exact ⟨k, e.symm⟩
section
variable {X : Cx} {E : WX} {elt tg iter : Expr} {ifs : List Expr} {scope : Scope} {own : List (Str × Nat)} {pos p : Pos} {bnd : D → M Unit} {tt : M Bool} {el : M D} {ts : List Nat} {src : M (List D)}
theorem ss_read {wi : TI} {g : TG} {t : TT} {te : TE} {vs : List Nat} (hts : ∀ i ∈ ts, i ∈ vs) (hx : ∀ d ρ x ρ', bnd d ρ ≠ .ex x ρ') (ki : ∀ σ H Q, tI X.K E src σ H Q → wi σ H Q) (kg : ∀ v σ H Q, gD X.K ts bnd v σ H Q → g v σ H Q) (kt : ∀ σ H Q, tT X.K EN tt σ H Q → t σ H Q) (ke : ∀ σ H Q, tD X.K EN el σ H Q → te σ H Q) :
    ∀ σ H Q, tN X.K E (ssM src bnd tt el vs) σ H Q → tCB (rSortedSet X.w) (tCons (tSi X.w wi g t te vs) tNil) σ H Q := by
  rintro σ H0 Q ⟨θ, B0, ρ0, c0, h0⟩
  show tSi X.w wi g t te vs σ H0 fun x H1 => rSortedSet X.w [x] H1 Q
  refine ki _ _ _ ⟨θ, B0, ρ0, c0, h0.seqS.imp ?_⟩
  rintro - - J - H1 - - - ⟨ds, B1, ρ1, st1, ys, h1⟩
  have ys : Yields X.K B1 J ds := ys
  intro L hL
  obtain ⟨out, ρo, hrun⟩ : ∃ out ρo, lcLoop bnd tt el vs ds [] ρ1 = .ok out ρo := by
    cases e : lcLoop bnd tt el vs ds [] ρ1 with
    | no =>
      rw [bnd_no e] at h1
      exact h1.elim
    | ex y ρ2 => exact absurd e lcLoop_noex
    | ok r ρ2 => exact ⟨r, ρ2, rfl⟩
  rw [bnd_ok hrun] at h1
  obtain ⟨o, eo, k⟩ := h1.optS
  unfold fewI at eo
  obtain ⟨ns, en, e2⟩ := Option.bind_eq_some_iff.mp eo
  split at e2
  · rename_i hz
    cases e2
    have nB1 := st1.cf.unfrozen hL
    have no1 := own_not_new st1.cf hL
    have hh1 : hid L (upd H1 L (SetO X.w L (fun _ => false) 0)) = H1 := by
      funext b
      by_cases e : b = L
      · subst e
        rw [hid_at, hL]
      · rw [hid_ne e, upd_ne e]
    have hlen : out.length = ns.length := by rw [ints_map en, List.length_map]
    refine lc_loopG (fun _ acc o => ∃ (ms : List Int) (S : Int → Bool), D.ints acc = some ms ∧ o = SetO X.w L S (sortU ms).length ∧ (∀ j, S j = true ↔ j ∈ ms))
      (fun y H4 Nx => ∃ (k : Int) (S : Int → Bool) (n : Nat), y = .int k ∧ H4 L = some (SetO X.w L S n) ∧ n + 1 < scanBound ∧ Nx (upd H4 L (grown X.w L k S n))) (fun _ _ _ _ _ z => z) ?_ hts hx kg kt ke ys (by rw [hh1]; exact st1.cf) upd_same nB1 no1 ⟨[], fun _ => false, rfl, rfl, fun j => by simp⟩ hrun ?_
    · rintro B H acc z y o Nx hHL ⟨ms, S, e1, rfl, hS⟩ rz _ hpre go
      obtain ⟨k, rfl⟩ := ints_mem en z (hpre.subset (by simp))
      have hml : acc.length = ms.length := by rw [ints_map e1, List.length_map]
      have hpl := hpre.length_le
      rw [List.length_append, List.length_singleton] at hpl
      have es : (sortU (ms ++ [k])).length = if S k = true then (sortU ms).length else (sortU ms).length + 1 := by
        rw [sortU_snoc, insU_len (sortU_sorted ms)]
        by_cases hk : k ∈ ms
        · rw [if_pos (mem_sortU.mpr hk), if_pos ((hS k).mpr hk)]
        · rw [if_neg (fun z => hk (mem_sortU.mp z)), if_neg (fun z => hk ((hS k).mp z))]
      have few : (sortU ms).length + 1 < scanBound := by
        have := sortU_len ms
        show _ < 4096
        omega
      have eacc : acc ++ [D.int k] = (ms ++ [k]).map D.int := by rw [ints_map e1, List.map_append]; rfl
      refine ⟨k, S, (sortU ms).length, rep_int rz, hHL, few, go _ ⟨ms ++ [k], fun j => S j || decide (j = k), by rw [eacc, ints_of_map], by rw [es]; rfl, fun j => ?_⟩⟩
      rw [Bool.or_eq_true, decide_eq_true_eq, hS, List.mem_append, List.mem_singleton]
    · rintro B' H' o' st hHL ⟨ms, S, e1, rfl, hS⟩ nB no
      rw [en] at e1
      cases e1
      refine ⟨L, S, _, rfl, hHL, Nat.lt_of_le_of_lt (sortU_len ns) (by omega), fun rs p hs hm hl hp => ?_⟩
      have er : rs = sortU ns := rising_one hs (sortU_sorted ns) fun j => by rw [hm, hS, mem_sortU]
      subst er
      rw [hh1] at st
      have s2 := (st1.trans st).pokeS (st1.wasNone hL) nB no (SetO X.w L S (sortU ns).length)
      have hHh : upd (hid L H') L (SetO X.w L S (sortU ns).length) = H' := by
        funext b
        by_cases e : b = L
        · subst e
          rw [upd_same, hHL]
        · rw [upd_ne e, hid_ne e]
      rw [hHh] at s2
      exact k _ _ _ (s2.trans (s2.cf.free hp _)) (new_lst s2.cf s2.there hp (Reps.of_ints _))
  · cases e2
theorem pn_sortedSc {p2 : Pos} (hg0 : Gl X "sorted") (hm0 : X.mg "sorted" = none) (hc : X.calm = true) (hN : X.N.Nodup) (hi : PI X tg iter (tI X.K E src)) (ok : BlkOk X.N X.env.scope scope own) (hts : ∀ i ∈ ts, i ∈ own.map (·.2)) (hx : ∀ d ρ x ρ', bnd d ρ ≠ .ex x ρ')
    (hg : BlkP X scope fun Y => PG Y tg (gD X.K ts bnd)) (ht : BlkP X scope fun Y => PTs Y ifs (tT X.K EN tt)) (he : BlkP X scope fun Y => PE Y elt (tD X.K EN el)) (hs : ∀ x, foldedSetIterable iter X.env x = pure x := by intro _; rfl)
    (hs1 : starEach [.SetComp elt [⟨tg, iter, ifs, 0⟩] scope pos] X.env = (false, eval (.SetComp elt [⟨tg, iter, ifs, 0⟩] scope pos) X.env) :: starEach [] X.env := by rfl) (hp : (backTo p2 (starEach [] X.env)).any (·.1) = false := by rfl) :
    PE X (.Call (.Name "sorted" p) [.SetComp elt [⟨tg, iter, ifs, 0⟩] scope pos] [] p2) (tN X.K E (ssM src bnd tt el (own.map (·.2)))) :=
  pe_weak (pe_callB (cr_sortedSet hc) hg0 hm0 (by decide +kernel) (pa_cons (pe_si hc hN hi ok hg ht he hs) pa_nil hs1) (by decide) (by decide) hs1 hp) (ss_read hts hx (fun _ _ _ h => h) (fun _ _ _ _ h => h) (fun _ _ _ h => h) fun _ _ _ h => h)
end
end Nc

/-! isinstance; sets of tuples of ints put in order; two targets at once; t * 1. -/
namespace Nc
open PySem PySem.Spec PyProof.Rows L2

/-! ### isinstance -/
def tyD : D → Option String
  | .non => some "NoneType"
  | .bl _ => some "bool"
  | .int _ => some "int"
  | .str _ => some "str"
  | .lst _ => some "list"
  | .tup _ => some "tuple"
  | .dk _ _ => some "dict"
  | .dt _ _ => some "dict"
  | _ => none
def isiD (T : String) (d : D) : Option D := (tyD d).bind fun t => (kitB t T).map .bl
def isiD2 (T U : String) (d : D) : Option D := (tyD d).bind fun t => (kitB t T).bind fun a => (kitB t U).map fun b => .bl (a || b)
section
variable {K : PySem.W.Frag} {B H : Hp}
theorem tyX_of {d : D} {x : V} {t : String} (r : RepT K B H d x) (e : tyD d = some t) : TyX K H x (.type t) := by
  cases d <;> simp only [tyD, reduceCtorEq, Option.some.injEq] at e <;> subst e
  · have := rep_non (K := K) (B := B) r
    subst this
    exact .base .non
  · have := rept_bl r
    subst this
    exact .base (.bl _)
  · have := rept_int r
    subst this
    exact .base (.int _)
  · have := rept_str r
    subst this
    exact .base (.str _)
  · obtain ⟨p, xs, rfl, h1, _⟩ := r
    rcases h1 with (h1 | ⟨o, h1⟩) | ⟨o, its, n, h1, h2, _⟩
    · exact .base (.tup h1)
    · exact .fTuple h1
    · exact .kTuple h1 h2
  · obtain ⟨p, xs, rfl, h1, _⟩ := r
    exact .base (.lst h1)
  · obtain ⟨p, xs, rfl, h1, _⟩ := r
    exact .base (.dK h1)
  · obtain ⟨p, xs, rfl, h1, _⟩ := r
    exact .base (.dT h1)
end
section
variable {X : Cx} {E : WX} {pos p q pt : Pos} {a : Expr} {fa : M Opd} {x y : Str} {T U : String}
/-- isinstance(a, T), T a built-in class -/
theorem pd_isi (hg : Gl X "isinstance") (hm : X.mg "isinstance" = none) (ha : PE X a (tK X.K E fa)) (hgT : Gl X x) (hmT : X.mg x = none) (hT : bootBuiltins x = some (.type T)) (hn : x ≠ "__name__" := by decide) (hd : (x == ("__debug__" : Str)) = false := by decide)
    (hs : starEach [a, .Name x q] X.env = (false, eval a X.env) :: starEach [.Name x q] X.env := by rfl) (hs2 : starEach [.Name x q] X.env = (false, eval (.Name x q) X.env) :: starEach [] X.env := by rfl) (hp : (backTo pos (starEach [.Name x q] X.env)).any (·.1) = false := by rfl) :
    PE X (.Call (.Name "isinstance" p) [a, .Name x q] [] pos) (tD X.K E (k1 (isiD T) fa)) := by
  refine pe_weak (pe_callB call_isi hg hm PyProof.Rows.boot_isinstance (pa_cons ha (pa_cons (pe_bltn (v := .ty T) hgT hmT hT rfl hn hd) pa_nil hs2) hs) (by decide) (by decide) hs hp) ?_
  rintro σ H Q ⟨θ, B, ρ, c, h⟩
  refine ⟨θ, B, ρ, c, h.seq.imp ?_⟩
  rintro d ρ' v B' H1 - - - ⟨o, B1, ρ1, st1, rx, h1⟩
  obtain ⟨d, e1, h1⟩ := h1.getO
  obtain ⟨z, ez, k⟩ := h1.opt
  unfold isiD at ez
  obtain ⟨t, et, ez⟩ := Option.bind_eq_some_iff.mp ez
  obtain ⟨b, eb, ez⟩ := Option.map_eq_some_iff.mp ez
  subst ez
  exact ⟨v, .ty T, .type t, .type T, b, rfl, .ty T, tyX_of (RK.top st1.cf rx e1) et, kit_ty eb, k _ _ _ (Step.refl st1.cf) (by simp only [RD, Rep])⟩
/-- isinstance(a, (T, U)) -/
theorem pd_isi2 {kk : Nat} {q2 : Pos} (hg : Gl X "isinstance") (hm : X.mg "isinstance" = none) (ha : PE X a (tK X.K E fa)) (hgT : Gl X x) (hmT : X.mg x = none) (hT : bootBuiltins x = some (.type T)) (hgU : Gl X y) (hmU : X.mg y = none) (hU : bootBuiltins y = some (.type U))
    (hn : x ≠ "__name__" := by decide) (hd : (x == ("__debug__" : Str)) = false := by decide) (hn2 : y ≠ "__name__" := by decide) (hd2 : (y == ("__debug__" : Str)) = false := by decide)
    (hs : starEach [a, .Tuple [.Name x q, .Name y q2] kk pt] X.env = (false, eval a X.env) :: starEach [.Tuple [.Name x q, .Name y q2] kk pt] X.env := by rfl) (hs2 : starEach [.Tuple [.Name x q, .Name y q2] kk pt] X.env = (false, eval (.Tuple [.Name x q, .Name y q2] kk pt) X.env) :: starEach [] X.env := by rfl)
    (hs3 : starEach [.Name x q, .Name y q2] X.env = (false, eval (.Name x q) X.env) :: starEach [.Name y q2] X.env := by rfl) (hs4 : starEach [.Name y q2] X.env = (false, eval (.Name y q2) X.env) :: starEach [] X.env := by rfl)
    (hp : (backTo pos (starEach [.Tuple [.Name x q, .Name y q2] kk pt] X.env)).any (·.1) = false := by rfl) :
    PE X (.Call (.Name "isinstance" p) [a, .Tuple [.Name x q, .Name y q2] kk pt] [] pos) (tD X.K E (k1 (isiD2 T U) fa)) := by
  refine pe_weak (pe_callB call_isiT hg hm PyProof.Rows.boot_isinstance (pa_cons ha (pa_cons (pe_tup (pa_cons (pe_bltn (v := .ty T) hgT hmT hT rfl hn hd) (pa_cons (pe_bltn (v := .ty U) hgU hmU hU rfl hn2 hd2) pa_nil hs4) hs3)) pa_nil hs2) hs) (by decide) (by decide) hs hp) ?_
  rintro σ H Q ⟨θ, B, ρ, c, h⟩
  refine ⟨θ, B, ρ, c, h.seq.imp ?_⟩
  rintro d ρ' v B' H1 - - - ⟨o, B1, ρ1, st1, rx, h1⟩
  obtain ⟨d, e1, h1⟩ := h1.getO
  obtain ⟨z, ez, k⟩ := h1.opt
  unfold isiD2 at ez
  obtain ⟨t, et, ez⟩ := Option.bind_eq_some_iff.mp ez
  obtain ⟨b1, eb1, ez⟩ := Option.bind_eq_some_iff.mp ez
  obtain ⟨b2, eb2, ez⟩ := Option.map_eq_some_iff.mp ez
  subst ez
  refine ⟨by show 2 ≤ sizeLine; decide, fun l hl => ?_⟩
  have st2 := st1.cf.free hl (.tup [.ty T, .ty U])
  have rx2 : RK X.K H1 σ B1 (upd H1 l (.tup [.ty T, .ty U])) ρ1 o v := RK.mono st2 rx
  refine ⟨v, l, [.ty T, .ty U], .type t, [.type T, .type U], b1 || b2, rfl, upd_same, .cons (.ty T) (.cons (.ty U) .nil), tyX_of (RK.top st2.cf rx2 e1) et, ?_, k _ _ _ st2 (by simp only [RD, Rep])⟩
  refine kitAny_cons (kit_ty eb1) (fun e => ?_) (fun e => by rw [e]; rfl)
  subst e
  rw [Bool.false_or]
  refine kitAny_cons (kit_ty eb2) (fun e => ?_) (fun e => e)
  subst e
  exact kitAny_nil
end

/-! ### two names at once -/
section
variable {X : Cx} {E : WX} {a b : Expr} {px py pt pos : Pos} {kt k2 pt2} {x y : Str} {i j : Nat} {fs : M (List D)}
def parS (i j : Nat) (fs : M (List D)) : M Out := fs >>= fun ds => fun ρ => match ds with
  | [d, e] => .ok .nx ((ρ.set i (some (.val d))).set j (some (.val e)))
  | _ => .no
theorem sd_par (h : ∀ {ta : TA}, PA X [a, b] ta → PS X (.Assign [.Tuple [.Name x px, .Name y py] kt pt] (.Tuple [a, b] k2 pt2) pos) (tPar i j ta)) (ha : PA X [a, b] (tL X.K E fs)) : PS X (.Assign [.Tuple [.Name x px, .Name y py] kt pt] (.Tuple [a, b] k2 pt2) pos) (tS X.K E (parS i j fs)) := by
  refine ps_weak (h ha) fun Dn σ H ⟨θ, B, ρ, c, h⟩ => ⟨θ, B, ρ, c, h.seq.imp ?_⟩
  rintro d ρ' vs B' H1 - - - ⟨ds, B1, ρ1, st1, rx, h1⟩
  have rx : Reps X.K B1 ds vs := rx
  match ds, rx, h1 with
  | [], _, h1 => exact h1.elim
  | [_], _, h1 => exact h1.elim
  | _ :: _ :: _ :: _, _, h1 => exact h1.elim
  | [d, e], rx, h1 =>
    simp only [Reps] at rx
    obtain ⟨v, _, rfl, r1, w, _, rfl, r2, rfl⟩ := rx
    exact ⟨v, w, rfl, h1 _ _ _ ((st1.trans (st1.cf.set i r1)).trans ((st1.cf.set i r1).cf.set j r2))⟩
end
end Nc

/-! sorted(set(xs)) of tuples of ints. -/
namespace Nc
open PySem PySem.Spec PyProof.Rows L2

theorem code_one {B : Int} : ∀ {k m : List Int}, k.length = m.length → TS.Bd B k → TS.Bd B m → TS.code B k = TS.code B m → k = m
  | [], [], _, _, _, _ => rfl
  | [], _ :: _, h, _, _, _ => by cases h
  | _ :: _, [], h, _, _, _ => by cases h
  | a :: k, b :: m, h, hk, hm, e => by
    have hl : k.length = m.length := by simpa using h
    rcases Int.lt_trichotomy a b with q | q | q
    · have := TS.code_lt hl hk.tail hm.tail q
      omega
    · subst q
      congr 1
      refine code_one hl hk.tail hm.tail ?_
      unfold TS.code at e
      rw [hl] at e
      omega
    · have := TS.code_lt hl.symm hm.tail hk.tail q
      omega
/-- the tuple behind a code -/
def ofCode (B : Int) (ks : List (List Int)) (c : Int) : List Int := (ks.find? fun k => TS.code B k == c).getD []
def sortT (B : Int) (ks : List (List Int)) : List (List Int) := (sortU (ks.map (TS.code B))).map (ofCode B ks)
theorem ofCode_mem {B : Int} {ks : List (List Int)} {c : Int} (h : c ∈ ks.map (TS.code B)) : ofCode B ks c ∈ ks ∧ TS.code B (ofCode B ks c) = c := by
  obtain ⟨k, hk, e⟩ := List.mem_map.mp h
  unfold ofCode
  cases q : ks.find? fun k => TS.code B k == c with
  | none =>
    have := List.find?_eq_none.mp q k hk
    simp [e] at this
  | some m =>
    refine ⟨List.mem_of_find?_eq_some q, ?_⟩
    have := List.find?_some q
    exact beq_iff_eq.mp this
theorem sortT_codes {B : Int} {ks : List (List Int)} : (sortT B ks).map (TS.code B) = sortU (ks.map (TS.code B)) := by
  unfold sortT
  rw [List.map_map]
  have : ∀ (l : List Int), (∀ c ∈ l, c ∈ ks.map (TS.code B)) → l.map (TS.code B ∘ ofCode B ks) = l := by
    intro l
    induction l with
    | nil => intro _; rfl
    | cons c l ih =>
      intro h
      rw [List.map_cons, ih fun c hc => h c (List.mem_cons_of_mem _ hc)]
      congr 1
      exact (ofCode_mem (h c List.mem_cons_self)).2
  exact this _ fun c hc => mem_sortU.mp hc
theorem sortT_mem {B : Int} {ks : List (List Int)} {k : List Int} (h : k ∈ sortT B ks) : k ∈ ks := by
  unfold sortT at h
  obtain ⟨c, hc, e⟩ := List.mem_map.mp h
  rw [← e]
  exact (ofCode_mem (mem_sortU.mp hc)).1
/-- what has the codes in order is it -/
theorem sortT_one {B : Int} {n : Nat} {ks ys : List (List Int)} (hk : ∀ k ∈ ks, k.length = n ∧ TS.Bd B k) (hy : ∀ k ∈ ys, k.length = n ∧ TS.Bd B k) (hs : (ys.map (TS.code B)).Pairwise (· < ·)) (hm : ∀ c, c ∈ ys.map (TS.code B) ↔ c ∈ ks.map (TS.code B)) : ys = sortT B ks := by
  have e : ys.map (TS.code B) = (sortT B ks).map (TS.code B) := by
    rw [sortT_codes]
    exact rising_one hs (sortU_sorted _) fun c => by rw [hm, mem_sortU]
  have hz : ∀ k ∈ sortT B ks, k.length = n ∧ TS.Bd B k := fun k h => hk k (sortT_mem h)
  clear hs hm
  generalize sortT B ks = zs at e hz
  induction ys generalizing zs with
  | nil =>
    cases zs with
    | nil => rfl
    | cons z zs => cases e
  | cons y ys ih =>
    cases zs with
    | nil => cases e
    | cons z zs =>
      rw [List.map_cons, List.map_cons] at e
      injection e with e1 e2
      have a := hy y List.mem_cons_self
      have b := hz z List.mem_cons_self
      rw [code_one (by rw [a.1, b.1]) a.2 b.2 e1, ih (fun k h => hy k (List.mem_cons_of_mem _ h)) zs e2 fun k h => hz k (List.mem_cons_of_mem _ h)]
def tupI : D → Option (List Int)
  | .tup ds => D.ints ds
  | _ => none
def tupsI : List D → Option (List (List Int))
  | [] => some []
  | d :: ds => match tupI d, tupsI ds with
    | some k, some ks => some (k :: ks)
    | _, _ => none
def dTup (k : List Int) : D := .tup (k.map D.int)
abbrev bigB : Int := 1000
def bdB (n : Nat) (k : List Int) : Bool := decide (k.length = n) && k.all fun m => decide (0 ≤ m) && decide (m < bigB)
theorem bdB_ok {n : Nat} {k : List Int} (h : bdB n k = true) : k.length = n ∧ TS.Bd bigB k := by
  unfold bdB at h
  rw [Bool.and_eq_true, decide_eq_true_eq, List.all_eq_true] at h
  refine ⟨h.1, fun m hm => ?_⟩
  have := h.2 m hm
  rw [Bool.and_eq_true, decide_eq_true_eq, decide_eq_true_eq] at this
  exact this
/-- sorted(set(..)) of a list of tuples of n ints, n ≥ 1 -/
def sspO (n : Nat) : D → Option O
  | .lst ds => (tupsI ds).bind fun ks => if decide (ks.length < 64) && ks.all (bdB n) then some (.lst ((sortT bigB ks).map dTup)) else none
  | _ => none
section
variable {K : PySem.W.Frag} {B H : Hp}
theorem tupI_rep {d : D} {v : V} {k : List Int} (e : tupI d = some k) (r : Rep K B d v) : d = dTup k ∧ ∃ a, v = .ref a ∧ SqT K B a (k.map V.int) := by
  cases d <;> simp only [tupI, reduceCtorEq] at e
  have := ints_map e
  subst this
  simp only [Rep] at r
  obtain ⟨a, xs, rfl, h1, h2⟩ := r
  rw [h2.ints] at h1
  exact ⟨rfl, a, rfl, h1⟩
theorem tupsI_reps : ∀ {ds : List D} {vs : List V} {ks : List (List Int)}, tupsI ds = some ks → Reps K B ds vs → ∃ ps : List (Addr × List Int), vs = ps.map (fun p => V.ref p.1) ∧ ps.map (·.2) = ks ∧ ∀ p ∈ ps, SqT K B p.1 (p.2.map V.int)
  | [], vs, ks, e, r => by
    simp only [tupsI, Reps] at e r
    cases e
    exact ⟨[], r, rfl, fun p h => by cases h⟩
  | d :: ds, vs, ks, e, r => by
    simp only [tupsI, Reps] at e r
    obtain ⟨x, xs, rfl, r1, r2⟩ := r
    split at e
    · rename_i k ks' e1 e2
      cases e
      obtain ⟨_, a, rfl, h1⟩ := tupI_rep e1 r1
      obtain ⟨ps, rfl, h2, h3⟩ := tupsI_reps e2 r2
      exact ⟨(a, k) :: ps, rfl, by rw [List.map_cons, h2], fun p hp => by
        rcases List.mem_cons.mp hp with rfl | hp
        · exact h1
        · exact h3 p hp⟩
    · cases e
theorem reps_tups : ∀ (ps : List (Addr × List Int)), (∀ p ∈ ps, SqT K B p.1 (p.2.map V.int)) → Reps K B (ps.map fun p => dTup p.2) (ps.map fun p => V.ref p.1)
  | [], _ => Reps.nil
  | p :: ps, h => Reps.cons (by
      unfold dTup
      simp only [Rep]
      exact ⟨p.1, _, rfl, h p List.mem_cons_self, Reps.of_ints _⟩) (reps_tups ps fun q hq => h q (List.mem_cons_of_mem _ hq))
end
section
variable {X : Cx} {E : WX} {pos p q pos2 : Pos} {a : Expr} {fa : M Opd}
theorem pn_sortedSetT {n : Nat} (h1n : 1 ≤ n) (hc : X.calm = true) (hu : X.A.units + 64 < cLine) (hg0 : Gl X "sorted") (hm0 : X.mg "sorted" = none) (hg1 : Gl X "set") (hm1 : X.mg "set" = none) (ha : PE X a (tK X.K E fa))
    (hs : starEach [a] X.env = (false, eval a X.env) :: starEach [] X.env := by rfl) (hp : (backTo pos2 (starEach [] X.env)).any (·.1) = false := by rfl)
    (hs1 : starEach [.Call (.Name "set" q) [a] [] pos2] X.env = (false, eval (.Call (.Name "set" q) [a] [] pos2) X.env) :: starEach [] X.env := by rfl) (hp1 : (backTo pos (starEach [] X.env)).any (·.1) = false := by rfl) :
    PE X (.Call (.Name "sorted" p) [.Call (.Name "set" q) [a] [] pos2] [] pos) (tN X.K E (k1 (sspO n) fa)) := by
  refine pe_weak (pe_callB (cr_sortedT hc) hg0 hm0 (by decide +kernel) (pa_cons (pe_callTy (cr_setOfT hc hu) hg1 hm1 (by decide +kernel) (pa_cons ha pa_nil hs) (by decide) (by decide) hs hp) pa_nil hs1) (by decide) (by decide) hs1 hp1) ?_
  rintro σ H Q ⟨θ, B, ρ, c, h⟩
  refine ⟨θ, B, ρ, c, h.seq.imp ?_⟩
  rintro d ρ' v B' H1 - - - ⟨o, B1, ρ1, st1, rx, h1⟩
  obtain ⟨d, e1, h1⟩ := h1.getO
  obtain ⟨z, ez, k⟩ := h1.opt
  have top := RK.top st1.cf rx e1
  cases d <;> simp only [sspO, reduceCtorEq] at ez
  obtain ⟨ks, ek, ez⟩ := Option.bind_eq_some_iff.mp ez
  split at ez
  · rename_i hcond
    cases ez
    rw [Bool.and_eq_true, decide_eq_true_eq, List.all_eq_true] at hcond
    obtain ⟨hlen, hbd⟩ := hcond
    obtain ⟨l, xs, rfl, hl, hr⟩ := top
    obtain ⟨ps, rfl, ep, hps⟩ := tupsI_reps ek hr
    have hpl : ps.length = ks.length := by rw [← ep, List.length_map]
    have hok : ∀ p ∈ ps, p.2.length = n ∧ TS.Bd bigB p.2 := fun p hp => bdB_ok (hbd p.2 (by rw [← ep]; exact List.mem_map_of_mem hp))
    refine ⟨l, ps, rfl, SqL.of hl, fun p hp => Same.sqt st1.cf.bh (hps p hp), by omega, fun s L hs hL1 hL2 => ?_⟩
    have st2 := st1.cf.free hs (SetTO X.prog X.w s L)
    refine ⟨s, L, n, bigB, rfl, upd_same, fun p hp => Same.sqt st2.cf.bh (hps p (hL1 p hp)), h1n, fun p hp => hok p (hL1 p hp), fun L' r hperm hnd h64 hpw hr2 => ?_⟩
    -- the result is the one list
    have mem' : ∀ p ∈ L', p ∈ ps := fun p hp => hL1 p (hperm.mem_iff.mp hp)
    have er : L'.map (·.2) = sortT bigB ks := by
      refine sortT_one (n := n) (fun k hk => ?_) (fun k hk => ?_) ?_ fun c => ⟨fun hc => ?_, fun hc => ?_⟩
      · rw [← ep] at hk
        obtain ⟨p, hp, e⟩ := List.mem_map.mp hk
        rw [← e]
        exact hok p hp
      · obtain ⟨p, hp, e⟩ := List.mem_map.mp hk
        rw [← e]
        exact hok p (mem' p hp)
      · rw [List.map_map]
        rw [List.pairwise_map]
        have hnd' : L'.Pairwise (fun q r => q.2 ≠ r.2) := by
          have := hnd
          unfold List.Nodup at this
          rw [List.pairwise_map] at this
          exact this
        have both := List.Pairwise.and hpw hnd'
        refine List.Pairwise.imp_of_mem ?_ both
        rintro q r hq hr ⟨h1, h2⟩
        rcases Int.lt_or_eq_of_le h1 with h3 | h3
        · exact h3
        · exact absurd (code_one (by rw [(hok q (mem' q hq)).1, (hok r (mem' r hr)).1]) (hok q (mem' q hq)).2 (hok r (mem' r hr)).2 h3) h2
      · obtain ⟨k, hk, e⟩ := List.mem_map.mp hc
        obtain ⟨p, hp, e2⟩ := List.mem_map.mp hk
        rw [← e, ← e2, ← ep]
        exact List.mem_map_of_mem (List.mem_map_of_mem (mem' p hp))
      · obtain ⟨k, hk, e⟩ := List.mem_map.mp hc
        rw [← ep] at hk
        obtain ⟨p, hp, e2⟩ := List.mem_map.mp hk
        obtain ⟨q, hq, e3⟩ := List.mem_map.mp (hL2 p hp)
        rw [← e, ← e2, ← e3]
        exact List.mem_map_of_mem (List.mem_map_of_mem (hperm.mem_iff.mpr hq))
    rw [← er, List.map_map] at k
    exact k _ _ _ (st2.trans (st2.cf.free hr2 _)) (new_lst st2.cf st2.there hr2 (reps_tups L' fun p hp => hps p (mem' p hp)))
  · cases ez
end
end Nc

/-! [..] * n as a new list; the box of a law. -/
namespace Nc
open PySem PySem.Spec PyProof.Rows L2

def OpDN (K : PySem.W.Frag) (r : R2) (op : D → D → Option O) : Prop := ∀ (θ : Nat → Addr) (B H : Hp) (σ : L2.St) (ρ : Rho) (d e : D) (z : O) (x y : V) (Q : VK), Cf K θ B H σ ρ → Rep K B d x → Rep K B e y → op d e = some z →
  (∀ v B' H', Step K θ σ B H ρ σ B' H' ρ → RN K H σ B' H' ρ z v → Q v H') → r x y H Q
def repO : D → D → Option O
  | .lst a, .int b => if decide (-(2 ^ 63) ≤ b) && decide (b < 2 ^ 63) && decide (a.length * b.toNat ≤ sizeLine) then some (.lst (List.replicate b.toNat a).flatten) else none
  | _, _ => none
abbrev b2N (op : D → D → Option O) (fa fb : M D) : M O := fa >>= fun d => fb >>= fun e => M.opt (op d e)
theorem opdn_rep {K : PySem.W.Frag} : OpDN K rRep repO := by
  intro θ B H σ ρ d e z x y Q c rx ry ez k
  cases d <;> cases e <;> simp only [repO, reduceCtorEq] at ez
  simp only [Rep] at rx ry
  obtain ⟨p, xs, rfl, h1, h2⟩ := rx
  subst ry
  split at ez
  · rename_i hc
    cases ez
    simp only [Bool.and_eq_true, decide_eq_true_eq] at hc
    obtain ⟨⟨c1, c2⟩, c3⟩ := hc
    rw [h2.length] at c3
    rename_i ds b
    exact ⟨p, b, xs, rfl, rfl, c.bh _ _ h1, c1, c2, c3, fun l hl => k _ _ _ (c.free hl _) (new_lst c (fun _ z => z) hl (h2.rep _))⟩
  · cases ez
section
variable {X : Cx} {E : WX} {a b : Expr} {pos : Pos} {fa fb : M D}
theorem pn_rep (ha : PE X a (tD X.K E fa)) (hb : PE X b (tD X.K E fb)) : PE X (.BinOp a .Mult b pos) (tN X.K E (b2N repO fa fb)) := by
  refine pe_weak (pe_op op_rep ha hb) ?_
  rintro σ H Q ⟨θ, B, ρ, c, h⟩
  refine ⟨θ, B, ρ, c, h.seq.imp ?_⟩
  rintro d ρ' x B' H1 - - - ⟨d, B1, ρ1, st1, rx, h1⟩
  refine ⟨θ, B1, ρ1, st1.cf, h1.seq.imp ?_⟩
  rintro e ρ' y B' H2 - - - ⟨e, B2, ρ2, st2, ry, h2⟩
  obtain ⟨z, ez, k⟩ := h2.opt
  exact opdn_rep θ B2 H2 σ ρ2 d e z x y Q st2.cf (Rep.mono st2.bb rx) ry ez k
end
end Nc

/-! What the terms compute: rules for simp, pure blocks, loops. -/
namespace Nc
open PySem PySem.Spec PyProof.Rows L2

theorem bnd_run {α β : Type} (f : M α) (g : α → M β) (ρ : Rho) : (f >>= g) ρ = match f ρ with
    | .no => .no
    | .ok a ρ' => g a ρ'
    | .ex e ρ' => .ex e ρ' := rfl
theorem ret_run {α : Type} (a : α) (ρ : Rho) : M.ret a ρ = .ok a ρ := rfl
theorem opt_run {α : Type} (o : Option α) (ρ : Rho) : M.opt o ρ = match o with
    | none => .no
    | some a => .ok a ρ := by cases o <;> rfl
theorem ite_run {α : Type} {c : Prop} [Decidable c] (f g : M α) (ρ : Rho) : (if c then f else g) ρ = if c then f ρ else g ρ := by
  split <;> rfl
/-! loops -/
theorem loopS_nil (bnd : D → M Unit) (body : M Out) (ρ : Rho) : loopS bnd body [] ρ = .ok .nx ρ := rfl
/-- a loop by an invariant: one turn after the other -/
theorem loopS_run {bnd : D → M Unit} {body : M Out} {ds : List D} {ρ0 : Rho} (I : Nat → Rho → Prop) (h0 : I 0 ρ0)
    (hs : ∀ i d ρ, ds[i]? = some d → I i ρ → ∃ ρ1 ρ2, bnd d ρ = .ok () ρ1 ∧ (body ρ1 = .ok .nx ρ2 ∨ body ρ1 = .ok .ct ρ2) ∧ I (i + 1) ρ2) : ∃ ρ, loopS bnd body ds ρ0 = .ok .nx ρ ∧ I ds.length ρ := by
  have key : ∀ (n i : Nat) (ρ : Rho), n = ds.length - i → i ≤ ds.length → I i ρ → ∃ ρ', loopS bnd body (ds.drop i) ρ = .ok .nx ρ' ∧ I ds.length ρ' := by
    intro n
    induction n with
    | zero =>
      intro i ρ h1 h2 h3
      have e : i = ds.length := by omega
      subst e
      rw [List.drop_length]
      exact ⟨ρ, rfl, h3⟩
    | succ n ih =>
      intro i ρ h1 h2 h3
      have hi : i < ds.length := by omega
      obtain ⟨ρ1, ρ2, e1, e2, h4⟩ := hs i ds[i] ρ (List.getElem?_eq_getElem hi) h3
      obtain ⟨ρ', e3, h5⟩ := ih (i + 1) ρ2 (by omega) (by omega) h4
      refine ⟨ρ', ?_, h5⟩
      rw [List.drop_eq_getElem_cons hi]
      show (bnd ds[i] >>= _) ρ = _
      rw [bnd_ok e1]
      rcases e2 with e2 | e2
      · rw [bnd_ok e2]
        exact e3
      · rw [bnd_ok e2]
        exact e3
  have := key ds.length 0 ρ0 (by omega) (Nat.zero_le _) h0
  simpa using this
theorem forS_run {src : M (List D)} {bnd : D → M Unit} {body : M Out} {ds : List D} {ρ ρ0 : Rho} (e : src ρ = .ok ds ρ0) (I : Nat → Rho → Prop) (h0 : I 0 ρ0)
    (hs : ∀ i d ρ, ds[i]? = some d → I i ρ → ∃ ρ1 ρ2, bnd d ρ = .ok () ρ1 ∧ (body ρ1 = .ok .nx ρ2 ∨ body ρ1 = .ok .ct ρ2) ∧ I (i + 1) ρ2) : ∃ ρ', forS src bnd body ρ = .ok .nx ρ' ∧ I ds.length ρ' := by
  obtain ⟨ρ', h1, h2⟩ := loopS_run I h0 hs
  refine ⟨ρ', ?_, h2⟩
  show (src >>= _) ρ = _
  rw [bnd_ok e]
  exact h1
theorem thenS_ok {h1 h2 : M Out} {ρ ρ' : Rho} (e : h1 ρ = .ok .nx ρ') : thenS h1 h2 ρ = h2 ρ' := by
  show (h1 >>= _) ρ = _
  rw [bnd_ok e]
theorem thenS_rt {h1 h2 : M Out} {ρ ρ' : Rho} {d : D} (e : h1 ρ = .ok (.rt d) ρ') : thenS h1 h2 ρ = .ok (.rt d) ρ' := by
  show (h1 >>= _) ρ = _
  rw [bnd_ok e]
  rfl
/-! comprehensions -/
theorem lcLoop_run {bnd : D → M Unit} {tt : M Bool} {el : M D} {vs : List Nat} {ds : List D} (r : Nat → Option D) (R : Nat → Rho) (hs : ∀ i d, ds[i]? = some d → turnM bnd tt el vs d (R i) = .ok (r i) (R (i + 1))) (hz : ds.length < sizeLine) :
    lcLoop bnd tt el vs ds [] (R 0) = .ok ((List.range ds.length).filterMap r) (R ds.length) := by
  have key : ∀ (n i : Nat) (acc : List D), n = ds.length - i → i ≤ ds.length → acc.length ≤ i → lcLoop bnd tt el vs (ds.drop i) acc (R i) = .ok (acc ++ (List.range' i n).filterMap r) (R ds.length) := by
    intro n
    induction n with
    | zero =>
      intro i acc h1 h2 h3
      have e : i = ds.length := by omega
      subst e
      rw [List.drop_length]
      simp [lcLoop, M.ret]
    | succ n ih =>
      intro i acc h1 h2 h3
      have hi : i < ds.length := by omega
      rw [List.drop_eq_getElem_cons hi]
      simp only [lcLoop]
      rw [if_pos (by omega), bnd_ok (hs i _ (List.getElem?_eq_getElem hi))]
      rw [ih (i + 1) (addO acc (r i)) (by omega) (by omega) ?_]
      · rw [List.range'_succ, List.filterMap_cons]
        cases r i with
        | none => rfl
        | some z => simp [addO]
      · cases r i with
        | none => exact Nat.le_succ_of_le h3
        | some z => simp [addO]; exact h3
  have := key ds.length 0 [] (by omega) (Nat.zero_le _) (Nat.le_refl _)
  rw [List.range_eq_range']
  simpa using this
/-- a block that leaves the slots as they are -/
theorem lcLoop_pure {bnd : D → M Unit} {tt : M Bool} {el : M D} {vs : List Nat} {ds : List D} {ρ : Rho} (r : D → Option D) (hs : ∀ d ∈ ds, turnM bnd tt el vs d ρ = .ok (r d) ρ) : ∀ {acc : List D}, acc.length + ds.length < sizeLine →
    lcLoop bnd tt el vs ds acc ρ = .ok (acc ++ ds.filterMap r) ρ := by
  induction ds with
  | nil =>
    intro acc _
    simp [lcLoop, M.ret]
  | cons d ds ih =>
    intro acc hz
    rw [List.length_cons] at hz
    simp only [lcLoop]
    rw [if_pos (by omega), bnd_ok (hs d List.mem_cons_self), ih (fun e he => hs e (List.mem_cons_of_mem _ he)) (by cases r d <;> simp [addO] <;> omega), List.filterMap_cons]
    cases r d with
    | none => rfl
    | some z => simp [addO]
theorem lcM_pure {src : M (List D)} {bnd : D → M Unit} {tt : M Bool} {el : M D} {vs : List Nat} {ds : List D} {ρ ρ1 : Rho} (e : src ρ = .ok ds ρ1) (r : D → Option D) (hs : ∀ d ∈ ds, turnM bnd tt el vs d ρ1 = .ok (r d) ρ1) (hz : ds.length < sizeLine) :
    lcM src bnd tt el vs ρ = .ok (.lst (ds.filterMap r)) ρ1 := by
  show (src >>= _) ρ = _
  rw [bnd_ok e, bnd_ok (lcLoop_pure r hs (acc := []) (by simpa using hz))]
  rfl
theorem lc2M_pure {src : M (List D)} {bnd : D → M Unit} {tt : M Bool} {src1 : M (List D)} {bnd1 : D → M Unit} {tt1 : M Bool} {el : M D} {vs vs1 : List Nat} {ds : List D} {ρ ρ1 : Rho} (e : src ρ = .ok ds ρ1) (r : D → List D)
    (hs : ∀ d ∈ ds, ∀ acc, acc.length < sizeLine / 2 → turn2 bnd tt src1 bnd1 tt1 el vs vs1 d acc ρ1 = .ok (acc ++ r d) ρ1) (hz : (ds.flatMap r).length < sizeLine / 2) : lc2M src bnd tt src1 bnd1 tt1 el vs vs1 ρ = .ok (.lst (ds.flatMap r)) ρ1 := by
  have key : ∀ (ds : List D), (∀ d ∈ ds, ∀ acc, acc.length < sizeLine / 2 → turn2 bnd tt src1 bnd1 tt1 el vs vs1 d acc ρ1 = .ok (acc ++ r d) ρ1) → ∀ acc : List D, acc.length + (ds.flatMap r).length < sizeLine / 2 → lc2Loop bnd tt src1 bnd1 tt1 el vs vs1 ds acc ρ1 = .ok (acc ++ ds.flatMap r) ρ1 := by
    intro ds
    induction ds with
    | nil =>
      intro _ acc _
      simp [lc2Loop, M.ret]
    | cons d ds ih =>
      intro hs acc hz
      rw [List.flatMap_cons, List.length_append] at hz
      simp only [lc2Loop]
      rw [bnd_ok (hs d List.mem_cons_self acc (by omega)), ih (fun e he => hs e (List.mem_cons_of_mem _ he)) (acc ++ r d) (by rw [List.length_append]; omega), List.flatMap_cons, List.append_assoc]
  show (src >>= _) ρ = _
  rw [bnd_ok e, bnd_ok (key ds hs [] (by simpa using hz))]
  rfl
theorem turnM_run {bnd : D → M Unit} {tt : M Bool} {el : M D} {vs : List Nat} {d : D} {ρ ρ1 ρ2 : Rho} (e1 : bnd d (wipeR ρ vs) = .ok () ρ1) (e2 : tt ρ1 = .ok true ρ2) {z : D} {ρ3 : Rho} (e3 : el ρ2 = .ok z ρ3) : turnM bnd tt el vs d ρ = .ok (some z) (mixR ρ ρ3 vs) := by
  unfold turnM
  rw [bnd_ok e1, bnd_ok e2]
  simp only [if_true]
  rw [bnd_ok e3]
  rfl
theorem turnM_not {bnd : D → M Unit} {tt : M Bool} {el : M D} {vs : List Nat} {d : D} {ρ ρ1 ρ2 : Rho} (e1 : bnd d (wipeR ρ vs) = .ok () ρ1) (e2 : tt ρ1 = .ok false ρ2) : turnM bnd tt el vs d ρ = .ok none (mixR ρ ρ2 vs) := by
  unfold turnM
  rw [bnd_ok e1, bnd_ok e2]
  rfl
theorem opdM_run {f : M D} {ρ ρ' : Rho} {d : D} (e : f ρ = .ok d ρ') : opdM f ρ = .ok (.d d) ρ' := by
  show (f >>= _) ρ = _
  rw [bnd_ok e]
  rfl
theorem frzM_run {f : M O} {ρ ρ' : Rho} {o : O} (e : f ρ = .ok o ρ') : frzM f ρ = .ok o.frozen ρ' := by
  show (f >>= _) ρ = _
  rw [bnd_ok e]
  rfl
theorem retS_run {f : M D} {ρ ρ' : Rho} {d : D} (e : f ρ = .ok d ρ') : retS f ρ = .ok (.rt d) ρ' := by
  show (f >>= _) ρ = _
  rw [bnd_ok e]
  rfl
theorem setS_run {i : Nat} {f : M D} {ρ ρ' : Rho} {d : D} (e : f ρ = .ok d ρ') : setS i f ρ = .ok .nx (ρ'.set i (some (.val d))) := by
  unfold setS
  exact bnd_ok e
theorem setN_run {i : Nat} {f : M O} {ρ ρ' : Rho} {o : O} (e : f ρ = .ok o ρ') : setN i f ρ = .ok .nx (ρ'.set i (some (.own 0 o))) := by
  unfold setN
  exact bnd_ok e
/-- a body that returns -/
theorem runB_rt {n k : Nat} {h : M Out} {ss ss' : List Slot} {d : D} {ρ : Rho} (hl : ss.length = k) (e : h (startR n ss) = .ok (.rt d) ρ) (hb : backAll ρ 0 ss = some ss') : runB n k h ss = .ok d ss' := by
  unfold runB
  rw [if_pos hl, e]
  simp only [hb]
end Nc

/-! Rules by which simp runs the terms. -/
namespace Nc
open PySem PySem.Spec PyProof.Rows L2

def Rs.bnd {α β : Type} (r : Rs α) (g : α → Rho → Rs β) : Rs β := match r with
  | .no => .no
  | .ok a ρ => g a ρ
  | .ex e ρ => .ex e ρ
section
variable {α β : Type} {g : α → Rho → Rs β} {a : α} {ρ : Rho} {e : Xn}
theorem Rs.bnd_ok : (Rs.ok a ρ).bnd g = g a ρ := Eq.trans (Eq.refl _) (Eq.refl _)
theorem Rs.bnd_no : (Rs.no : Rs α).bnd g = .no := rfl
theorem Rs.bnd_ex : (Rs.ex e ρ : Rs α).bnd g = .ex e ρ := rfl
end
def optR {α : Type} (o : Option α) (ρ : Rho) : Rs α := match o with
  | none => .no
  | some a => .ok a ρ
theorem optR_some {α : Type} {a : α} {ρ : Rho} : optR (some a) ρ = .ok a ρ := Eq.trans (Eq.refl _) (Eq.refl _)
theorem optR_none {α : Type} {ρ : Rho} : optR (none : Option α) ρ = .no := rfl
theorem optR_ite {α : Type} {c : Prop} [Decidable c] {x y : Option α} {ρ : Rho} : optR (if c then x else y) ρ = if c then optR x ρ else optR y ρ := by split <;> rfl
def getR (ρ : Rho) (i : Nat) : Option Slot := (ρ[i]?).getD none
section
variable {α β : Type} {ρ : Rho} {i j : Nat} {f g : M D} {fo : M O} {fa fb : M Opd} {t u : M Bool} {h1 h2 : M Out} {fs : M (List D)} {as : M (List Opd)}
theorem bind_r {f : M α} {g : α → M β} : (f >>= g) ρ = (f ρ).bnd fun a ρ' => g a ρ' := by
  show M.bnd f g ρ = _
  unfold M.bnd Rs.bnd
  cases f ρ <;> rfl
theorem ret_r {a : α} : M.ret a ρ = .ok a ρ := Eq.trans (Eq.refl _) (Eq.refl _)
theorem opt_r {o : Option α} : M.opt o ρ = optR o ρ := by cases o <;> rfl
theorem then_r : thenS h1 h2 ρ = (h1 ρ).bnd fun o ρ' => match o with
  | .nx => h2 ρ'
  | .rt d => .ok (.rt d) ρ'
  | .bk => .ok .bk ρ'
  | .ct => .ok .ct ρ' := by
  unfold thenS
  rw [bind_r]
  congr 1
  funext o ρ'
  cases o <;> rfl
theorem if_r {f g : M α} : ifM t f g ρ = (t ρ).bnd fun b ρ' => if b then f ρ' else g ρ' := by
  unfold ifM
  rw [bind_r]
  congr 1
  funext b ρ'
  cases b <;> rfl
theorem set_r : setS i f ρ = (f ρ).bnd fun d ρ' => .ok .nx (ρ'.set i (some (.val d))) := bind_r
theorem setN_r : setN i fo ρ = (fo ρ).bnd fun o ρ' => .ok .nx (ρ'.set i (some (.own 0 o))) := bind_r
theorem retS_r : retS f ρ = (f ρ).bnd fun d ρ' => .ok (.rt d) ρ' := bind_r
theorem drop_r : dropS f ρ = (f ρ).bnd fun _ ρ' => .ok .nx ρ' := bind_r
theorem opd_r : opdM f ρ = (f ρ).bnd fun d ρ' => .ok (.d d) ρ' := bind_r
theorem frz_r : frzM fo ρ = (fo ρ).bnd fun d ρ' => .ok d.frozen ρ' := bind_r
theorem b2_r {op : D → D → Option D} : b2 op f g ρ = (f ρ).bnd fun d ρ1 => (g ρ1).bnd fun e ρ2 => optR (op d e) ρ2 := by
  unfold b2
  rw [bind_r]
  congr 1
  funext d ρ1
  rw [bind_r]
  congr 1
  funext e ρ2
  exact opt_r
theorem b2N_r {op : D → D → Option O} : b2N op f g ρ = (f ρ).bnd fun d ρ1 => (g ρ1).bnd fun e ρ2 => optR (op d e) ρ2 := by
  unfold b2N
  rw [bind_r]
  congr 1
  funext d ρ1
  rw [bind_r]
  congr 1
  funext e ρ2
  exact opt_r
theorem getO_r {o : Opd} : getO o ρ = optR (o.dat ρ) ρ := by
  unfold getO optR
  cases o.dat ρ <;> rfl
theorem k1_r {op : D → Option α} : k1 op fa ρ = (fa ρ).bnd fun o ρ1 => (optR (o.dat ρ1) ρ1).bnd fun d ρ2 => optR (op d) ρ2 := by
  unfold k1
  rw [bind_r]
  congr 1
  funext o ρ1
  rw [bind_r, getO_r]
  congr 1
  funext d ρ2
  exact opt_r
theorem k2_r {op : D → D → Option D} : k2 op fa fb ρ = (fa ρ).bnd fun o ρ1 => (fb ρ1).bnd fun u ρ2 => (optR (o.dat ρ2) ρ2).bnd fun d ρ3 => (optR (u.dat ρ3) ρ3).bnd fun e ρ4 => optR (op d e) ρ4 := by
  unfold k2
  rw [bind_r]
  congr 1
  funext o ρ1
  rw [bind_r]
  congr 1
  funext u ρ2
  rw [bind_r, getO_r]
  congr 1
  funext d ρ3
  rw [bind_r, getO_r]
  congr 1
  funext e ρ4
  exact opt_r
theorem tst_r : tst f ρ = (f ρ).bnd fun d ρ' => optR (asB d) ρ' := by
  unfold tst
  rw [bind_r]
  congr 1
  funext d ρ1
  exact opt_r
theorem and_r : andM t u ρ = (t ρ).bnd fun b ρ' => if b then u ρ' else .ok false ρ' := by
  unfold andM
  rw [bind_r]
  congr 1
  funext b ρ1
  cases b <;> rfl
theorem or_r : orM t u ρ = (t ρ).bnd fun b ρ' => if b then .ok true ρ' else u ρ' := by
  unfold orM
  rw [bind_r]
  congr 1
  funext b ρ1
  cases b <;> rfl
theorem not_r : notM t ρ = (t ρ).bnd fun b ρ' => .ok (!b) ρ' := bind_r
theorem andV_r : andV f g ρ = (f ρ).bnd fun d ρ1 => (optR (asB d) ρ1).bnd fun b ρ2 => if b then g ρ2 else .ok (.bl false) ρ2 := by
  unfold andV
  rw [bind_r]
  congr 1
  funext d ρ1
  rw [bind_r, opt_r]
  congr 1
  funext b ρ1
  cases b <;> rfl
theorem orV_r : orV f g ρ = (f ρ).bnd fun d ρ1 => (optR (asB d) ρ1).bnd fun b ρ2 => if b then .ok (.bl true) ρ2 else g ρ2 := by
  unfold orV
  rw [bind_r]
  congr 1
  funext d ρ1
  rw [bind_r, opt_r]
  congr 1
  funext b ρ1
  cases b <;> rfl
theorem notV_r : notV f ρ = (f ρ).bnd fun d ρ1 => (optR (asB d) ρ1).bnd fun b ρ2 => .ok (.bl (!b)) ρ2 := by
  unfold notV
  rw [bind_r]
  congr 1
  funext d ρ1
  rw [bind_r, opt_r]
  rfl
theorem cons_r : consM f fs ρ = (f ρ).bnd fun d ρ1 => (fs ρ1).bnd fun ds ρ2 => .ok (d :: ds) ρ2 := by
  unfold consM
  rw [bind_r]
  congr 1
theorem consA_r : consA fa as ρ = (fa ρ).bnd fun d ρ1 => (as ρ1).bnd fun ds ρ2 => .ok (d :: ds) ρ2 := by
  unfold consA
  rw [bind_r]
  congr 1
theorem lst_r : lstM fs ρ = (fs ρ).bnd fun ds ρ1 => optR (sizedL ds) ρ1 := by
  unfold lstM
  rw [bind_r]
  congr 1
  funext d ρ1
  exact opt_r
theorem tup_r : tupM fs ρ = (fs ρ).bnd fun ds ρ1 => optR (sizedT ds) ρ1 := by
  unfold tupM
  rw [bind_r]
  congr 1
  funext d ρ1
  exact opt_r
theorem item_r : itemS i f g ρ = (f ρ).bnd fun d ρ1 => (checkL i ρ1).bnd fun _ ρ2 => (g ρ2).bnd fun j ρ3 => putL i (fun ds => setIx ds j d) ρ3 := by
  unfold itemS
  rw [bind_r]
  rfl
theorem lm1_r {op : List D → D → Option (D × List D)} : lm1 op i f ρ = (checkL i ρ).bnd fun _ ρ1 => (f ρ1).bnd fun d ρ2 => updL i (fun ds => op ds d) ρ2 := by
  unfold lm1
  rw [bind_r]
  rfl
theorem seqI_r : seqI f ρ = (f ρ).bnd fun d ρ1 => optR (itemsD d) ρ1 := by
  unfold seqI
  rw [bind_r]
  congr 1
  funext d ρ1
  exact opt_r
theorem rngI_r : rngI f ρ = (f ρ).bnd fun d ρ1 => optR (rng1 d) ρ1 := by
  unfold rngI
  rw [bind_r]
  congr 1
  funext d ρ1
  exact opt_r
theorem rngI2_r : rngI2 f g ρ = (f ρ).bnd fun d ρ1 => (g ρ1).bnd fun e ρ2 => optR (rng2 d e) ρ2 := by
  unfold rngI2
  rw [bind_r]
  congr 1
  funext d ρ1
  rw [bind_r]
  congr 1
  funext d ρ1
  exact opt_r
theorem asg_r {bnd : D → M Unit} : asgS bnd f ρ = (f ρ).bnd fun d ρ1 => (bnd d ρ1).bnd fun _ ρ2 => .ok .nx ρ2 := by
  unfold asgS
  rw [bind_r]
  congr 1
theorem par_r : parS i j fs ρ = (fs ρ).bnd fun ds ρ1 => match ds with
  | [d, e] => .ok .nx ((ρ1.set i (some (.val d))).set j (some (.val e)))
  | _ => .no := bind_r
/-- what is left of a call, the operands known -/
def callR (F : Fn) (os : List Opd) (ρ : Rho) : Rs D := if (os.flatMap slotIx).Nodup then match argSlots ρ 0 os with
    | some ss => match F ss with
      | .no => .no
      | .ok d ss' => match putBack ρ os ss' with
        | some ρ' => .ok d ρ'
        | none => .no
      | .ex e ss' => match putBack ρ os ss' with
        | some ρ' => .ex e ρ'
        | none => .no
    | none => .no
  else .no
theorem call_r {F : Fn} : callM F as ρ = (as ρ).bnd fun os ρ1 => callR F os ρ1 := bind_r
theorem callR_ok {F : Fn} {os : List Opd} {ss ss' : List Slot} {d : D} {ρ ρ' : Rho} (hn : (os.flatMap slotIx).Nodup) (ha : argSlots ρ 0 os = some ss) (hF : F ss = .ok d ss') (hp : putBack ρ os ss' = some ρ') : callR F os ρ = .ok d ρ' := by
  unfold callR
  rw [if_pos hn, ha]
  simp only [hF, hp]
theorem var_val {d : D} (h : ρ[i]? = some (some (.val d))) : var i ρ = .ok d ρ := by
  unfold var
  rw [h]
theorem varK_r {s : Slot} (h : ρ[i]? = some (some s)) : varK i ρ = .ok (.s i) ρ := by
  unfold varK
  rw [h]
theorem var_own {k : Nat} {o : O} (h : ρ[i]? = some (some (.own k o))) : var i ρ = .ok o.frozen (ρ.set i (some (.val o.frozen))) := by
  unfold var
  rw [h]
end
end Nc

/-! Loops over mapped lists; rows of bits; relations. -/
namespace Nc
open PySem PySem.Spec PyProof.Rows L2

theorem turn_r {bnd : D → M Unit} {tt : M Bool} {el : M D} {vs : List Nat} {d : D} {ρ : Rho} : turnM bnd tt el vs d ρ = match ((bnd d (wipeR ρ vs)).bnd fun _ ρ1 => (tt ρ1).bnd fun b ρ2 => if b then (el ρ2).bnd fun z ρ3 => .ok (some z) ρ3 else .ok none ρ2) with
    | .ok r ρ' => .ok r (mixR ρ ρ' vs)
    | _ => .no := by
  have e : (bnd d >>= fun _ => tt >>= fun b => if b then el >>= fun z => M.ret (some z) else M.ret none) (wipeR ρ vs) = (bnd d (wipeR ρ vs)).bnd fun _ ρ1 => (tt ρ1).bnd fun b ρ2 => if b then (el ρ2).bnd fun z ρ3 => .ok (some z) ρ3 else .ok none ρ2 := by
    rw [bind_r]
    congr 1
    funext u ρ1
    rw [bind_r]
    congr 1
    funext b ρ2
    cases b with
    | false => rfl
    | true => exact bind_r
  unfold turnM
  rw [e]
  all_goals (generalize (Rs.bnd _ _) = r; cases r <;> rfl)
theorem turn2_r {bnd : D → M Unit} {tt : M Bool} {src1 : M (List D)} {bnd1 : D → M Unit} {tt1 : M Bool} {el : M D} {vs vs1 : List Nat} {d : D} {acc : List D} {ρ : Rho} : turn2 bnd tt src1 bnd1 tt1 el vs vs1 d acc ρ = match ((bnd d (wipeR ρ vs)).bnd fun _ ρ1 => (tt ρ1).bnd fun b ρ2 => if b then (src1 ρ2).bnd fun ds1 ρ3 => lcLoop bnd1 tt1 el vs1 ds1 acc ρ3 else .ok acc ρ2) with
    | .ok r ρ' => .ok r (mixR ρ ρ' vs)
    | _ => .no := by
  have e : (bnd d >>= fun _ => tt >>= fun b => if b then src1 >>= fun ds1 => lcLoop bnd1 tt1 el vs1 ds1 acc else M.ret acc) (wipeR ρ vs) = (bnd d (wipeR ρ vs)).bnd fun _ ρ1 => (tt ρ1).bnd fun b ρ2 => if b then (src1 ρ2).bnd fun ds1 ρ3 => lcLoop bnd1 tt1 el vs1 ds1 acc ρ3 else .ok acc ρ2 := by
    rw [bind_r]
    congr 1
    funext u ρ1
    rw [bind_r]
    congr 1
    funext b ρ2
    cases b with
    | false => rfl
    | true => exact bind_r
  unfold turn2
  rw [e]
  all_goals (generalize (Rs.bnd _ _) = r; cases r <;> rfl)
section
variable {β : Type} {bnd : D → M Unit} {tt : M Bool} {el : M D} {vs : List Nat} {src : M (List D)}
theorem lcLoop_map {f : β → D} {ρ : Rho} (r : β → Option D) : ∀ (xs : List β) (acc : List D), (∀ x ∈ xs, turnM bnd tt el vs (f x) ρ = .ok (r x) ρ) → acc.length + xs.length < sizeLine → lcLoop bnd tt el vs (xs.map f) acc ρ = .ok (acc ++ xs.filterMap r) ρ
  | [], acc, _, _ => by simp [lcLoop, M.ret]
  | x :: xs, acc, hs, hz => by
    rw [List.length_cons] at hz
    rw [List.map_cons]
    simp only [lcLoop]
    rw [if_pos (by omega), bnd_ok (hs x List.mem_cons_self), lcLoop_map r xs _ (fun y hy => hs y (List.mem_cons_of_mem _ hy)) (by cases r x <;> simp [addO] <;> omega), List.filterMap_cons]
    cases r x with
    | none => rfl
    | some z => simp [addO]
theorem lcM_map {f : β → D} {ρ ρ1 : Rho} {xs : List β} (e : src ρ = .ok (xs.map f) ρ1) (r : β → Option D) (hs : ∀ x ∈ xs, turnM bnd tt el vs (f x) ρ1 = .ok (r x) ρ1) (hz : xs.length < sizeLine) : lcM src bnd tt el vs ρ = .ok (.lst (xs.filterMap r)) ρ1 := by
  show (src >>= _) ρ = _
  rw [bnd_ok e, bnd_ok (lcLoop_map r xs [] hs (by simpa using hz))]
  rfl
theorem lcM_mapS {f : β → D} {ρ ρ1 : Rho} {xs : List β} (e : src ρ = .ok (xs.map f) ρ1) (r : β → D) (hs : ∀ x ∈ xs, turnM bnd tt el vs (f x) ρ1 = .ok (some (r x)) ρ1) (hz : xs.length < sizeLine) : lcM src bnd tt el vs ρ = .ok (.lst (xs.map r)) ρ1 := by
  rw [lcM_map e (fun x => some (r x)) hs hz, List.filterMap_eq_map']
theorem lcM_mapF {f : β → D} {ρ ρ1 : Rho} {xs : List β} (e : src ρ = .ok (xs.map f) ρ1) (p : β → Bool) (r : β → D) (hs : ∀ x ∈ xs, turnM bnd tt el vs (f x) ρ1 = .ok (if p x then some (r x) else none) ρ1) (hz : xs.length < sizeLine) : lcM src bnd tt el vs ρ = .ok (.lst ((xs.filter p).map r)) ρ1 := by
  rw [lcM_map e (fun x => if p x then some (r x) else none) hs hz]
  congr 2
  clear hs e hz
  induction xs with
  | nil => rfl
  | cons x xs ih =>
    rw [List.filterMap_cons, List.filter_cons, ih]
    cases p x <;> simp
theorem ssM_map {f : β → D} {ρ ρ1 : Rho} {xs : List β} (e : src ρ = .ok (xs.map f) ρ1) (p : β → Bool) (r : β → Int) (hs : ∀ x ∈ xs, turnM bnd tt el vs (f x) ρ1 = .ok (if p x then some (.int (r x)) else none) ρ1) (hz : xs.length < sizeLine) (hf : ((xs.filter p).map r).length < 63) : ssM src bnd tt el vs ρ = .ok (.lst ((sortU ((xs.filter p).map r)).map D.int)) ρ1 := by
  have hl := lcLoop_map (bnd := bnd) (tt := tt) (el := el) (vs := vs) (f := f) (ρ := ρ1) (fun x => if p x then some (.int (r x)) else none) xs [] hs (by simpa using hz)
  have e2 : xs.filterMap (fun x => if p x then some (D.int (r x)) else none) = ((xs.filter p).map r).map D.int := by
    clear hl hs e hz hf
    induction xs with
    | nil => rfl
    | cons x xs ih =>
      rw [List.filterMap_cons, List.filter_cons, ih]
      cases p x <;> simp
  rw [e2, List.nil_append] at hl
  show (src >>= _) ρ = _
  rw [bnd_ok e, bnd_ok hl, opt_r]
  unfold fewI
  rw [ints_of_map]
  simp only [Option.bind_some, if_pos hf]
  rfl
theorem lc2M_map {src1 : M (List D)} {bnd1 : D → M Unit} {tt1 : M Bool} {vs1 : List Nat} {f : β → D} {ρ ρ1 : Rho} {xs : List β} (e : src ρ = .ok (xs.map f) ρ1) (r : β → List D) (m : Nat)
    (hs : ∀ x ∈ xs, ∀ acc, acc.length + m < sizeLine → turn2 bnd tt src1 bnd1 tt1 el vs vs1 (f x) acc ρ1 = .ok (acc ++ r x) ρ1) (hz : (xs.flatMap r).length + m < sizeLine) : lc2M src bnd tt src1 bnd1 tt1 el vs vs1 ρ = .ok (.lst (xs.flatMap r)) ρ1 := by
  have key : ∀ (xs : List β), (∀ x ∈ xs, ∀ acc, acc.length + m < sizeLine → turn2 bnd tt src1 bnd1 tt1 el vs vs1 (f x) acc ρ1 = .ok (acc ++ r x) ρ1) → ∀ acc : List D, acc.length + (xs.flatMap r).length + m < sizeLine → lc2Loop bnd tt src1 bnd1 tt1 el vs vs1 (xs.map f) acc ρ1 = .ok (acc ++ xs.flatMap r) ρ1 := by
    intro xs
    induction xs with
    | nil =>
      intro _ acc _
      simp [lc2Loop, M.ret]
    | cons d ds ih =>
      intro hs acc hz
      rw [List.flatMap_cons, List.length_append] at hz
      rw [List.map_cons]
      simp only [lc2Loop]
      rw [bnd_ok (hs d List.mem_cons_self acc (by omega)), ih (fun e he => hs e (List.mem_cons_of_mem _ he)) (acc ++ r d) (by rw [List.length_append]; omega), List.flatMap_cons, List.append_assoc]
  show (src >>= _) ρ = _
  rw [bnd_ok e, bnd_ok (key xs hs [] (by simpa using hz))]
  rfl
end
/-- a comprehension that changes own objects -/
theorem lcLoop_ex {β : Type} {bnd : D → M Unit} {tt : M Bool} {el : M D} {vs : List Nat} {f : β → D} (J : Rho → Prop) (C : D → Prop) : ∀ (xs : List β) (acc : List D) (ρ : Rho), J ρ → (∀ x ∈ xs, ∀ ρ, J ρ → ∃ z ρ', turnM bnd tt el vs (f x) ρ = .ok (some z) ρ' ∧ J ρ' ∧ C z) → acc.length + xs.length < sizeLine →
    ∃ out ρ', lcLoop bnd tt el vs (xs.map f) acc ρ = .ok (acc ++ out) ρ' ∧ J ρ' ∧ out.length = xs.length ∧ ∀ z ∈ out, C z
  | [], acc, ρ, hJ, _, _ => ⟨[], ρ, by simp [lcLoop, M.ret], hJ, rfl, fun z h => by cases h⟩
  | x :: xs, acc, ρ, hJ, hs, hz => by
    rw [List.length_cons] at hz
    obtain ⟨z, ρ1, e1, hJ1, hC⟩ := hs x List.mem_cons_self ρ hJ
    obtain ⟨out, ρ2, e2, hJ2, hl, hC2⟩ := lcLoop_ex J C xs (acc ++ [z]) ρ1 hJ1 (fun y hy => hs y (List.mem_cons_of_mem _ hy)) (by rw [List.length_append, List.length_singleton]; omega)
    refine ⟨z :: out, ρ2, ?_, hJ2, by rw [List.length_cons, List.length_cons, hl], fun y hy => ?_⟩
    · rw [List.map_cons]
      simp only [lcLoop]
      rw [if_pos (by omega), bnd_ok e1]
      show lcLoop bnd tt el vs (xs.map f) (acc ++ [z]) ρ1 = _
      rw [e2, List.append_assoc]
      rfl
    · rcases List.mem_cons.mp hy with rfl | hy
      · exact hC
      · exact hC2 y hy
theorem lcM_ex {β : Type} {bnd : D → M Unit} {tt : M Bool} {el : M D} {vs : List Nat} {src : M (List D)} {f : β → D} {ρ ρ1 : Rho} {xs : List β} (J : Rho → Prop) (C : D → Prop) (e : src ρ = .ok (xs.map f) ρ1) (hJ : J ρ1)
    (hs : ∀ x ∈ xs, ∀ ρ, J ρ → ∃ z ρ', turnM bnd tt el vs (f x) ρ = .ok (some z) ρ' ∧ J ρ' ∧ C z) (hz : xs.length < sizeLine) : ∃ out ρ', lcM src bnd tt el vs ρ = .ok (.lst out) ρ' ∧ J ρ' ∧ out.length = xs.length ∧ ∀ z ∈ out, C z := by
  obtain ⟨out, ρ', e2, h⟩ := lcLoop_ex (bnd := bnd) (tt := tt) (el := el) (vs := vs) (f := f) J C xs [] ρ1 hJ hs (by simpa using hz)
  refine ⟨out, ρ', ?_, h⟩
  show (src >>= _) ρ = _
  rw [bnd_ok e, bnd_ok e2]
  rfl
theorem callM_ok {F : Fn} {as : M (List Opd)} {os : List Opd} {ss ss' : List Slot} {d : D} {ρ ρ1 ρ' : Rho} (ho : as ρ = .ok os ρ1) (hn : (os.flatMap slotIx).Nodup) (ha : argSlots ρ1 0 os = some ss) (hF : F ss = .ok d ss') (hp : putBack ρ1 os ss' = some ρ') : callM F as ρ = .ok d ρ' := by
  rw [call_r, ho, Rs.bnd_ok]
  exact callR_ok hn ha hF hp
theorem rangeL0 (n : Nat) : rangeL 0 n = (List.range n).map fun k => D.int (k : Nat) := by
  unfold rangeL
  congr 1
  funext k
  rw [Int.zero_add]
theorem rng1_nat {n : Nat} (h : n < 1000000) : rng1 (.int n) = some ((List.range n).map fun k => D.int (k : Nat)) := by
  have : inR (n : Int) = true := by
    unfold inR
    rw [Bool.and_eq_true, decide_eq_true_eq, decide_eq_true_eq]
    omega
  simp only [rng1, this, if_true, ← rangeL0, Int.toNat_natCast]
/-! rows of bits -/
theorem shl1 (k : Nat) (h : k < 1000000) : shlD (.int 1) (.int k) = some (.int ((2 ^ k : Nat) : Int)) := by
  have c : powC 1 (k : Int) = true := by
    unfold powC
    simp
    omega
  simp only [shlD, i2, c, if_true, Int.one_mul, Int.toNat_natCast]
  rw [Int.natCast_pow]
  rfl
theorem shr_nat (a k : Nat) : shrD (.int a) (.int k) = some (.int ((a >>> k : Nat) : Int)) := by
  have c : decide ((0 : Int) ≤ (k : Int)) = true := decide_eq_true (by omega)
  simp only [shrD, i2, c, if_true, Int.toNat_natCast, Nat.shiftRight_eq_div_pow]
  rw [Int.natCast_ediv, Int.natCast_pow]
  rfl
theorem and_nat1 (a : Nat) : andD (.int a) (.int 1) = some (.int ((a % 2 : Nat) : Int)) := by
  simp only [andD, i2, if_true]
  rw [show (1 : Int) = 2 ^ 1 - 1 from rfl, Bits.bitAnd_mask 1 (by omega)]
  rfl
theorem or_nat (a b : Nat) : orD (.int a) (.int b) = some (.int ((a ||| b : Nat) : Int)) := by
  simp only [orD, i2, if_true]
  rw [bitOr_nn (by omega) (by omega)]
  rfl
/-- sum of powers over rising exponents, bit by bit -/
def sumP (ks : List Nat) : Nat := (ks.map (2 ^ ·)).sum
theorem sumP_dvd {m : Nat} : ∀ {ks : List Nat}, (∀ k ∈ ks, m ≤ k) → 2 ^ m ∣ sumP ks
  | [], _ => ⟨0, rfl⟩
  | k :: ks, h => by
    unfold sumP
    rw [List.map_cons, List.sum_cons]
    exact Nat.dvd_add (Nat.pow_dvd_pow 2 (h k List.mem_cons_self)) (sumP_dvd (ks := ks) fun j hj => h j (List.mem_cons_of_mem _ hj))
theorem sumP_or {k : Nat} {ks : List Nat} (h : ∀ j ∈ ks, k < j) : sumP (k :: ks) = sumP ks ||| 2 ^ k := by
  obtain ⟨q, hq⟩ := sumP_dvd (m := k + 1) (ks := ks) h
  have e : sumP (k :: ks) = 2 ^ k + sumP ks := by
    unfold sumP
    rw [List.map_cons, List.sum_cons]
  rw [e, hq, ← Nat.two_pow_add_eq_or_of_lt (Nat.pow_lt_pow_right (by decide) (Nat.lt_succ_self k)), Nat.add_comm]
theorem sumP_bit : ∀ {ks : List Nat}, ks.Pairwise (· < ·) → ∀ i, (sumP ks).testBit i = decide (i ∈ ks)
  | [], _, i => by simp [sumP]
  | k :: ks, h, i => by
    rw [List.pairwise_cons] at h
    rw [sumP_or h.1, Nat.testBit_or, sumP_bit h.2, Nat.testBit_two_pow]
    by_cases e : k = i
    · subst e
      simp
    · have : i ≠ k := fun z => e z.symm
      simp [e, this]
/-- the or of powers -/
def orP (ks : List Nat) (a : Nat) : Nat := ks.foldl (fun acc k => acc ||| 2 ^ k) a
theorem orP_bit : ∀ (ks : List Nat) (a i : Nat), (orP ks a).testBit i = (a.testBit i || decide (i ∈ ks))
  | [], a, i => by simp [orP]
  | k :: ks, a, i => by
    show (orP ks (a ||| 2 ^ k)).testBit i = _
    rw [orP_bit ks, Nat.testBit_or, Nat.testBit_two_pow]
    by_cases e : k = i
    · subst e
      simp
    · have : i ≠ k := fun z => e z.symm
      simp [e, this]
end Nc

namespace Nc
open PySem PySem.Spec PyProof.Rows L2
/-! ### the text -/
def topS (i : Nat) : Stmt := PySem.Challenge.pw_nearclerk_k01_relations_of_pairs.main.body.getD i (.Pass ⟨0, 0, 0, 0⟩)
abbrev s_identity : Stmt := topS 1
abbrev N_identity : List Str := ["states", "state"]
theorem sc_identity : FnScope N_identity ["states"] (defScope s_identity) := ⟨rfl, rfl, rfl, by decide +kernel, rfl, by decide +kernel, by decide +kernel⟩
abbrev s_relation_of : Stmt := topS 2
abbrev N_relation_of : List Str := ["states", "pairs", "found", "state", "bits", "first", "second"]
theorem sc_relation_of : FnScope N_relation_of ["states", "pairs"] (defScope s_relation_of) := ⟨rfl, rfl, rfl, by decide +kernel, rfl, by decide +kernel, by decide +kernel⟩
abbrev s_bits_of : Stmt := topS 3
abbrev N_bits_of : List Str := ["row", "states", "state"]
theorem sc_bits_of : FnScope N_bits_of ["row", "states"] (defScope s_bits_of) := ⟨rfl, rfl, rfl, by decide +kernel, rfl, by decide +kernel, by decide +kernel⟩
abbrev s_pairs_of : Stmt := topS 4
abbrev N_pairs_of : List Str := ["relation", "states", "first", "second"]
theorem sc_pairs_of : FnScope N_pairs_of ["relation"] (defScope s_pairs_of) := ⟨rfl, rfl, rfl, by decide +kernel, rfl, by decide +kernel, by decide +kernel⟩
abbrev s_turned : Stmt := topS 5
abbrev N_turned : List Str := ["relation", "first", "second"]
theorem sc_turned : FnScope N_turned ["relation"] (defScope s_turned) := ⟨rfl, rfl, rfl, by decide +kernel, rfl, by decide +kernel, by decide +kernel⟩
abbrev s_law_open : Stmt := topS 7
abbrev N_law_open : List Str := ["_law_script", "_law_cells", "_law_salt", "_law_cell"]
theorem sc_law_open : FnScope N_law_open ["_law_script"] (defScope s_law_open) := ⟨rfl, rfl, rfl, by decide +kernel, rfl, by decide +kernel, by decide +kernel⟩
abbrev s_law_pull : Stmt := topS 8
abbrev N_law_pull : List Str := ["_law_box", "_law_many", "_law_cell", "_law_one", "_law_two", "_law_drawn"]
theorem sc_law_pull : FnScope N_law_pull ["_law_box", "_law_many"] (defScope s_law_pull) := ⟨rfl, rfl, rfl, by decide +kernel, rfl, by decide +kernel, by decide +kernel⟩
abbrev s_law_like : Stmt := topS 9
abbrev N_law_like : List Str := ["_law_found", "_law_due", "_law_at"]
theorem sc_law_like : FnScope N_law_like ["_law_found", "_law_due"] (defScope s_law_like) := ⟨rfl, rfl, rfl, by decide +kernel, rfl, by decide +kernel, by decide +kernel⟩
abbrev s_law_pairs : Stmt := topS 10
abbrev N_law_pairs : List Str := ["_law_box", "_law_many", "_law_top", "_law_at"]
theorem sc_law_pairs : FnScope N_law_pairs ["_law_box", "_law_many", "_law_top"] (defScope s_law_pairs) := ⟨rfl, rfl, rfl, by decide +kernel, rfl, by decide +kernel, by decide +kernel⟩
abbrev s_law_rel_of : Stmt := topS 11
abbrev N_law_rel_of : List Str := ["_law_many", "_law_pairs_here", "_law_rows", "_law_one", "_law_other"]
theorem sc_law_rel_of : FnScope N_law_rel_of ["_law_many", "_law_pairs_here"] (defScope s_law_rel_of) := ⟨rfl, rfl, rfl, by decide +kernel, rfl, by decide +kernel, by decide +kernel⟩
abbrev s_law : Stmt := topS 12
abbrev N_law : List Str := ["_law_script", "_law_box", "_law_turn", "_law_many", "_law_pairs_here", "_law_handed", "_law_due", "_law_found", "_law_shown", "_law_back", "_law_one", "_law_other", "_law_state"]
theorem sc_law : FnScope N_law ["_law_script"] (defScope s_law) := ⟨rfl, rfl, rfl, by decide +kernel, rfl, by decide +kernel, by decide +kernel⟩
section
variable {P : Program} {w : World} {K : PySem.W.Frag} {mg : Str → Option Value} {base : Heap}
/-! identity -/
def h_identity : M Out := (retS (k1 tupleD (opdM (frzM (lcM (rngI (var 0)) (bndN 1) (M.ret true) (b2 shlD (M.ret (.int 1)) (var 1)) [1])))))
def F_identity : Fn := runB 2 1 (h_identity)
theorem ok_identity {f : Addr} {fd : FuncData} {k : Nat} (F : Fun K "identity" "identity" s_identity f fd)
  (m_range : mg "range" = none)
  (m_tuple : mg "tuple" = none) : FnOk P w K mg base (L2.CX P w) (k + 1) f fd ["states"] (spD K (F_identity)) := by
  refine F.okX sc_identity (spD_len fun ss e => runB_len e) (fun cdv A outer s H vs Q E hr h => ?_)
  have hu := hr.units
  exact ⟨_, (sd_one (sd_ret (pd_t1 c1_tuple call_tuple_of PyProof.Rows.boot_tuple (by rfl) m_tuple (pk_of (pd_new (pn_lc (by rfl) sc_identity.nd (pi_rng1 (by rfl) m_range (pd_var 0 (pv 0))) (blkOk_by (own := [("state", 1)]) (N := N_identity) (sc := defScope s_identity) (by decide +kernel)) (by decide) bndN_noex (fun _ _ _ _ _ => (gd_name (pg_name (i := 1) sc_identity.nd rfl (.inl rfl)))) (fun _ _ _ _ _ => pts_nilD) (fun _ _ _ _ _ => (pd_shl pd_int (pd_var 1 (pv 1)))))))))), body_end (N := N_identity) (X := cxOf (L2.CX P w) P w K mg base N_identity "identity" (defScope s_identity) f cdv A outer s H E) h⟩
/-! relation_of -/
def h_relation_of : M Out := (thenS
  (setN 2 (lstM (M.ret [])))
  (thenS
  (forS (rngI (var 0)) (bndN 3) (thenS
  (setS 4 (frzM (ssM (seqI (var 1)) (bndT [5, 6]) (tst (k2 eqD (varK 5) (varK 3))) (var 6) [5, 6])))
  (dropS (lm1 appOp 2 (k1 sumD (opdM (frzM (lcM (seqI (var 4)) (bndN 6) (M.ret true) (b2 shlD (M.ret (.int 1)) (var 6)) [6]))))))))
  (retS (k1 tupleD (varK 2)))))
def F_relation_of : Fn := runB 7 2 (h_relation_of)
theorem ok_relation_of {f : Addr} {fd : FuncData} {k : Nat} (F : Fun K "relation_of" "relation_of" s_relation_of f fd)
  (m_range : mg "range" = none)
  (m_sorted : mg "sorted" = none)
  (m_sum : mg "sum" = none)
  (m_tuple : mg "tuple" = none) : FnOk P w K mg base (L2.CX P w) (k + 1) f fd ["states", "pairs"] (spD K (F_relation_of)) := by
  refine F.okX sc_relation_of (spD_len fun ss e => runB_len e) (fun cdv A outer s H vs Q E hr h => ?_)
  have hu := hr.units
  exact ⟨_, (sd_cons (sn_set (pn_lst pl_nil) (fun he => ps_set (i := 2) sc_relation_of.nd rfl (.inl rfl) he))
    (sd_cons (sd_for (passes_of rfl) (by rfl) (pi_rng1 (by rfl) m_range (pd_var 0 (pv 0))) (gd_name (pg_name (i := 3) sc_relation_of.nd rfl (.inr rfl))) bndN_noex (sd_cons (sd_set (pd_new (pn_sortedSc (by rfl) m_sorted (by rfl) sc_relation_of.nd (pi_seq (pd_var 1 (pv 1))) (blkOk_by (own := [("first", 5), ("second", 6)]) (N := N_relation_of) (sc := defScope s_relation_of) (by decide +kernel)) (by decide) bndT_noex (fun _ _ _ _ _ => (gd_tup (by rfl) (gds_cons (pg_name (i := 5) sc_relation_of.nd rfl (.inl rfl)) (gds_cons (pg_name (i := 6) sc_relation_of.nd rfl (.inl rfl)) gds_nil)))) (fun _ _ _ _ _ => (pts_oneD (pkt_eq hu (pk_var 5 (pv 5)) (pk_var 3 (pv 3))))) (fun _ _ _ _ _ => (pd_var 6 (pv 6))))) (fun he => ps_set (i := 4) sc_relation_of.nd rfl (.inl rfl) he))
    (sd_one (sd_expr (pm_append (pv 2) (pd_b1 c1_sum (cr_sum rfl) (by decide +kernel) (by rfl) m_sum (pk_of (pd_new (pn_lc (by rfl) sc_relation_of.nd (pi_seq (pd_var 4 (pv 4))) (blkOk_by (own := [("second", 6)]) (N := N_relation_of) (sc := defScope s_relation_of) (by decide +kernel)) (by decide) bndN_noex (fun _ _ _ _ _ => (gd_name (pg_name (i := 6) sc_relation_of.nd rfl (.inl rfl)))) (fun _ _ _ _ _ => pts_nilD) (fun _ _ _ _ _ => (pd_shl pd_int (pd_var 6 (pv 6)))))))))))))
    (sd_one (sd_ret (pd_t1 c1_tuple call_tuple_of PyProof.Rows.boot_tuple (by rfl) m_tuple (pk_var 2 (pv 2))))))), body_end (N := N_relation_of) (X := cxOf (L2.CX P w) P w K mg base N_relation_of "relation_of" (defScope s_relation_of) f cdv A outer s H E) h⟩
/-! bits_of -/
def h_bits_of : M Out := (retS (frzM (lcM (rngI (var 1)) (bndN 2) (tst (k2 eqD (opdM (b2 andD (b2 shrD (var 0) (var 2)) (M.ret (.int 1)))) (opdM (M.ret (.int 1))))) (var 2) [2])))
def F_bits_of : Fn := runB 3 2 (h_bits_of)
theorem ok_bits_of {f : Addr} {fd : FuncData} {k : Nat} (F : Fun K "bits_of" "bits_of" s_bits_of f fd)
  (m_range : mg "range" = none) : FnOk P w K mg base (L2.CX P w) (k + 1) f fd ["row", "states"] (spD K (F_bits_of)) := by
  refine F.okX sc_bits_of (spD_len fun ss e => runB_len e) (fun cdv A outer s H vs Q E hr h => ?_)
  have hu := hr.units
  exact ⟨_, (sd_one (sd_ret (pd_new (pn_lc (by rfl) sc_bits_of.nd (pi_rng1 (by rfl) m_range (pd_var 1 (pv 1))) (blkOk_by (own := [("state", 2)]) (N := N_bits_of) (sc := defScope s_bits_of) (by decide +kernel)) (by decide) bndN_noex (fun _ _ _ _ _ => (gd_name (pg_name (i := 2) sc_bits_of.nd rfl (.inl rfl)))) (fun _ _ _ _ _ => (pts_oneD (pkt_eq hu (pk_of (pd_and (pd_shr (pd_var 0 (pv 0)) (pd_var 2 (pv 2))) pd_int)) (pk_of pd_int)))) (fun _ _ _ _ _ => (pd_var 2 (pv 2))))))), body_end (N := N_bits_of) (X := cxOf (L2.CX P w) P w K mg base N_bits_of "bits_of" (defScope s_bits_of) f cdv A outer s H E) h⟩
/-! pairs_of -/
def h_pairs_of (F_bits_of : Fn) : M Out := (thenS
  (setS 1 (k1 lenD (varK 0)))
  (retS (frzM (lc2M (rngI (var 1)) (bndN 2) (M.ret true) (seqI (callM F_bits_of (consA (opdM (k2 ixD (varK 0) (varK 2))) (consA (varK 1) (M.ret []))))) (bndN 3) (M.ret true) (tupM (consM (var 2) (consM (var 3) (M.ret [])))) [2, 3] [3]))))
def F_pairs_of (F_bits_of : Fn) : Fn := runB 4 1 (h_pairs_of F_bits_of)
theorem ok_pairs_of {f : Addr} {fd : FuncData} {k : Nat} (F : Fun K "pairs_of" "pairs_of" s_pairs_of f fd)
  {f_bits_of : Addr} {fd_bits_of : FuncData} {F_bits_of : Fn} (G_bits_of : FnOk P w K mg base (L2.CX P w) k f_bits_of fd_bits_of ["row", "states"] (spD K F_bits_of)) (g_bits_of : mg "bits_of" = some (.ref f_bits_of)) (kp_bits_of : PySem.W.keepIn K (.ref f_bits_of) = true) (b_bits_of : Binds K fd_bits_of ["row", "states"] [])
  (m_len : mg "len" = none)
  (m_range : mg "range" = none) : FnOk P w K mg base (L2.CX P w) (k + 1) f fd ["relation"] (spD K (F_pairs_of F_bits_of)) := by
  refine F.okX sc_pairs_of (spD_len fun ss e => runB_len e) (fun cdv A outer s H vs Q E hr h => ?_)
  have hu := hr.units
  exact ⟨_, (sd_cons (sd_set (pd_b1 c1_len (call_len_seq.or call_len_str) boot_len (by rfl) m_len (pk_var 0 (pv 0))) (fun he => ps_set (i := 1) sc_pairs_of.nd rfl (.inr rfl) he))
    (sd_one (sd_ret (pd_new (pn_lc2 (by rfl) sc_pairs_of.nd (pi_rng1 (by rfl) m_range (pd_var 1 (pv 1))) (blkOk_by (own := [("first", 2), ("second", 3)]) (N := N_pairs_of) (sc := defScope s_pairs_of) (by decide +kernel)) (vs1 := [3]) (by decide) (by decide) bndN_noex (by decide) bndN_noex (fun _ _ _ _ _ => (gd_name (pg_name (i := 2) sc_pairs_of.nd rfl (.inl rfl)))) (fun _ _ _ _ _ => pts_nilD) (fun _ _ _ _ _ => (pi_seq (pd_call G_bits_of hr (by rfl) g_bits_of kp_bits_of b_bits_of takes0 (pa_consA (pk_of (pk_ix (pk_var 0 (pv 0)) (pk_var 2 (pv 2)) (fun _ _ => rfl))) (pa_consA (pk_var 1 (pv 1)) pa_nilA))))) (fun _ _ _ _ _ => (gd_name (pg_name (i := 3) sc_pairs_of.nd rfl (.inl rfl)))) (fun _ _ _ _ _ => pts_nilD) (fun _ _ _ _ _ => (pd_tup (pl_cons (pd_var 2 (pv 2)) (pl_cons (pd_var 3 (pv 3)) pl_nil))))))))), body_end (N := N_pairs_of) (X := cxOf (L2.CX P w) P w K mg base N_pairs_of "pairs_of" (defScope s_pairs_of) f cdv A outer s H E) h⟩
/-! turned -/
def h_turned (F_relation_of : Fn) (F_pairs_of : Fn) : M Out := (retS (callM F_relation_of (consA (opdM (k1 lenD (varK 0))) (consA (opdM (frzM (lcM (seqI (callM F_pairs_of (consA (varK 0) (M.ret [])))) (bndT [1, 2]) (M.ret true) (tupM (consM (var 2) (consM (var 1) (M.ret [])))) [1, 2]))) (M.ret [])))))
def F_turned (F_relation_of : Fn) (F_pairs_of : Fn) : Fn := runB 3 1 (h_turned F_relation_of F_pairs_of)
theorem ok_turned {f : Addr} {fd : FuncData} {k : Nat} (F : Fun K "turned" "turned" s_turned f fd)
  {f_relation_of : Addr} {fd_relation_of : FuncData} {F_relation_of : Fn} (G_relation_of : FnOk P w K mg base (L2.CX P w) k f_relation_of fd_relation_of ["states", "pairs"] (spD K F_relation_of)) (g_relation_of : mg "relation_of" = some (.ref f_relation_of)) (kp_relation_of : PySem.W.keepIn K (.ref f_relation_of) = true) (b_relation_of : Binds K fd_relation_of ["states", "pairs"] [])
  {f_pairs_of : Addr} {fd_pairs_of : FuncData} {F_pairs_of : Fn} (G_pairs_of : FnOk P w K mg base (L2.CX P w) k f_pairs_of fd_pairs_of ["relation"] (spD K F_pairs_of)) (g_pairs_of : mg "pairs_of" = some (.ref f_pairs_of)) (kp_pairs_of : PySem.W.keepIn K (.ref f_pairs_of) = true) (b_pairs_of : Binds K fd_pairs_of ["relation"] [])
  (m_len : mg "len" = none) : FnOk P w K mg base (L2.CX P w) (k + 1) f fd ["relation"] (spD K (F_turned F_relation_of F_pairs_of)) := by
  refine F.okX sc_turned (spD_len fun ss e => runB_len e) (fun cdv A outer s H vs Q E hr h => ?_)
  have hu := hr.units
  exact ⟨_, (sd_one (sd_ret (pd_call G_relation_of hr (by rfl) g_relation_of kp_relation_of b_relation_of (takes_of rfl rfl rfl rfl) (pa_consA (pk_of (pd_b1 c1_len (call_len_seq.or call_len_str) boot_len (by rfl) m_len (pk_var 0 (pv 0)))) (pa_consA (pk_of (pd_new (pn_lc (by rfl) sc_turned.nd (pi_seq (pd_call G_pairs_of hr (by rfl) g_pairs_of kp_pairs_of b_pairs_of (takes_of rfl rfl rfl rfl) (pa_consA (pk_var 0 (pv 0)) pa_nilA))) (blkOk_by (own := [("first", 1), ("second", 2)]) (N := N_turned) (sc := defScope s_turned) (by decide +kernel)) (by decide) bndT_noex (fun _ _ _ _ _ => (gd_tup (by rfl) (gds_cons (pg_name (i := 1) sc_turned.nd rfl (.inl rfl)) (gds_cons (pg_name (i := 2) sc_turned.nd rfl (.inl rfl)) gds_nil)))) (fun _ _ _ _ _ => pts_nilD) (fun _ _ _ _ _ => (pd_tup (pl_cons (pd_var 2 (pv 2)) (pl_cons (pd_var 1 (pv 1)) pl_nil))))))) pa_nilA))))), body_end (N := N_turned) (X := cxOf (L2.CX P w) P w K mg base N_turned "turned" (defScope s_turned) f cdv A outer s H E) h⟩
/-! law_open -/
def h_law_open : M Out := (thenS
  (setS 2 (b2 addD (M.ret (.int 5644)) (b2 mulD (M.ret (.int 89)) (k1 lenD (varK 1)))))
  (thenS
  (forS (seqI (var 1)) (bndN 3) (setS 2 (b2 modD (k1 intD (opdM (b2 addD (b2 mulD (var 2) (M.ret (.int 7919))) (var 3)))) (M.ret (.int 2147483587)))))
  (retS (frzM (lstM (consM (var 1) (consM (M.ret (.int 0)) (consM (M.ret (.int 0)) (consM (var 2) (M.ret []))))))))))
theorem dv_law_open {cdv : Value} {A : Around} {outer : List Env} {s : Shared} {H : Hp} {E : XK} {f : Addr} {k : Nat} (hr : Room k (A.deeper (envOfC "_law_open" (defScope s_law_open) s.heap.objs.size f cdv))) (m_int : mg "int" = none)
  (m_len : mg "len" = none) :
    PSs (cxOf (L2.CX P w) P w K mg base N_law_open "_law_open" (defScope s_law_open) f cdv A outer s H E) ((defBody s_law_open).drop 1) (tS K (fun cls d _ H => E cls d H) (h_law_open)) := by
  have hu := hr.units
  have z : ∃ t, PSs (cxOf (L2.CX P w) P w K mg base N_law_open "_law_open" (defScope s_law_open) f cdv A outer s H E) ((defBody s_law_open).drop 1) t ∧ t = tS K (fun cls d _ H => E cls d H) (h_law_open) := ⟨_, (sd_cons (sd_set (pd_add pd_int (pd_mul pd_int (pd_b1 c1_len (call_len_seq.or call_len_str) boot_len (by rfl) m_len (pk_var 1 (pv 1))))) (fun he => ps_set (i := 2) sc_law_open.nd rfl (.inl rfl) he))
    (sd_cons (sd_for (passes_of rfl) (by rfl) (pi_seq (pd_var 1 (pv 1))) (gd_name (pg_name (i := 3) sc_law_open.nd rfl (.inl rfl))) bndN_noex (sd_one (sd_set (pd_mod (pd_t1 c1_int call_int1 PyProof.Rows.boot_int (by rfl) m_int (pk_of (pd_add (pd_mul (pd_var 2 (pv 2)) pd_int) (pd_var 3 (pv 3))))) pd_int) (fun he => ps_set (i := 2) sc_law_open.nd rfl (.inl rfl) he))))
    (sd_one (sd_ret (pd_new (pn_lst (pl_cons (pd_var 1 (pv 1)) (pl_cons pd_int (pl_cons pd_int (pl_cons (pd_var 2 (pv 2)) pl_nil)))))))))), rfl⟩
  obtain ⟨t, z1, rfl⟩ := z
  exact z1
/-! law_pull -/
def h_law_pull : M Out := (thenS
  (ifM (tst (b2 ltD (k2 ixD (varK 0) (opdM (M.ret (.int 2)))) (M.ret (.int 2)))) (thenS
  (itemS 0 (b2 addD (k2 ixD (varK 0) (opdM (M.ret (.int 1)))) (M.ret (.int 1))) (M.ret (.int 1)))
  (thenS
  (setS 2 (b2 addD (k2 ixD (varK 0) (opdM (M.ret (.int 3)))) (b2 mulD (k2 ixD (varK 0) (opdM (M.ret (.int 1)))) (M.ret (.int 7001)))))
  (thenS
  (ifM (tst (b2 leD (k2 ixD (varK 0) (opdM (M.ret (.int 1)))) (k1 lenD (opdM (k2 ixD (varK 0) (opdM (M.ret (.int 0)))))))) (setS 2 (k2 ixD (opdM (k2 ixD (varK 0) (opdM (M.ret (.int 0))))) (opdM (b2 subD (k2 ixD (varK 0) (opdM (M.ret (.int 1)))) (M.ret (.int 1)))))) (M.ret .nx))
  (thenS
  (ifM (orM (tst (b2 gtD (k2 ixD (varK 0) (opdM (M.ret (.int 1)))) (k1 lenD (opdM (k2 ixD (varK 0) (opdM (M.ret (.int 0)))))))) (tst (b2 ltD (var 2) (b2 powD (M.ret (.int 10)) (M.ret (.int 18)))))) (thenS
  (setS 3 (b2 modD (k1 intD (opdM (b2 addD (b2 addD (b2 mulD (var 2) (M.ret (.int 39373))) (b2 mulD (k2 ixD (varK 0) (opdM (M.ret (.int 1)))) (M.ret (.int 52774)))) (k2 ixD (varK 0) (opdM (M.ret (.int 3))))))) (M.ret (.int 2147483563))))
  (thenS
  (setS 4 (b2 modD (k1 intD (opdM (b2 addD (b2 mulD (var 3) (var 3)) (b2 mulD (k2 ixD (varK 0) (opdM (M.ret (.int 1)))) (M.ret (.int 15331)))))) (M.ret (.int 1000000007))))
  (retS (b2 modD (b2 fdivD (b2 modD (k1 intD (opdM (b2 addD (b2 mulD (var 4) (M.ret (.int 40014))) (var 3)))) (M.ret (.int 2147483399))) (M.ret (.int 17))) (var 1))))) (M.ret .nx))
  (itemS 0 (var 2) (M.ret (.int 2))))))) (M.ret .nx))
  (thenS
  (setS 5 (b2 modD (k1 intD (opdM (k2 ixD (varK 0) (opdM (M.ret (.int 2)))))) (var 1)))
  (thenS
  (itemS 0 (b2 fdivD (k1 intD (opdM (k2 ixD (varK 0) (opdM (M.ret (.int 2)))))) (var 1)) (M.ret (.int 2)))
  (retS (var 5)))))
def F_law_pull : Fn := runB 6 2 (h_law_pull)
theorem ok_law_pull {f : Addr} {fd : FuncData} {k : Nat} (F : Fun K "_law_pull" "_law_pull" s_law_pull f fd)
  (m_int : mg "int" = none)
  (m_len : mg "len" = none) : FnOk P w K mg base (L2.CX P w) (k + 1) f fd ["_law_box", "_law_many"] (spD K (F_law_pull)) := by
  refine F.okX sc_law_pull (spD_len fun ss e => runB_len e) (fun cdv A outer s H vs Q E hr h => ?_)
  have hu := hr.units
  exact ⟨_, (sd_cons (sd_if (pt_lt (pk_ix (pk_var 0 (pv 0)) (pk_of pd_int) (fun _ _ => rfl)) pd_int) (sd_cons (sd_item (pv 0) pd_int (pd_add (pk_ix (pk_var 0 (pv 0)) (pk_of pd_int) (fun _ _ => rfl)) pd_int))
    (sd_cons (sd_set (pd_add (pk_ix (pk_var 0 (pv 0)) (pk_of pd_int) (fun _ _ => rfl)) (pd_mul (pk_ix (pk_var 0 (pv 0)) (pk_of pd_int) (fun _ _ => rfl)) pd_int)) (fun he => ps_set (i := 2) sc_law_pull.nd rfl (.inl rfl) he))
    (sd_cons (sd_if (pt_le (pk_ix (pk_var 0 (pv 0)) (pk_of pd_int) (fun _ _ => rfl)) (pd_b1 c1_len (call_len_seq.or call_len_str) boot_len (by rfl) m_len (pk_of (pk_ix (pk_var 0 (pv 0)) (pk_of pd_int) (fun _ _ => rfl))))) (sd_one (sd_set (pk_ix (pk_of (pk_ix (pk_var 0 (pv 0)) (pk_of pd_int) (fun _ _ => rfl))) (pk_of (pd_sub (pk_ix (pk_var 0 (pv 0)) (pk_of pd_int) (fun _ _ => rfl)) pd_int)) (fun _ _ => rfl)) (fun he => ps_set (i := 2) sc_law_pull.nd rfl (.inl rfl) he))) sd_nil)
    (sd_cons (sd_if (wd_or (pt_gt (pk_ix (pk_var 0 (pv 0)) (pk_of pd_int) (fun _ _ => rfl)) (pd_b1 c1_len (call_len_seq.or call_len_str) boot_len (by rfl) m_len (pk_of (pk_ix (pk_var 0 (pv 0)) (pk_of pd_int) (fun _ _ => rfl))))) (wd_or1 (pt_lt (pd_var 2 (pv 2)) (pd_pow pd_int pd_int)))).pt (sd_cons (sd_set (pd_mod (pd_t1 c1_int call_int1 PyProof.Rows.boot_int (by rfl) m_int (pk_of (pd_add (pd_add (pd_mul (pd_var 2 (pv 2)) pd_int) (pd_mul (pk_ix (pk_var 0 (pv 0)) (pk_of pd_int) (fun _ _ => rfl)) pd_int)) (pk_ix (pk_var 0 (pv 0)) (pk_of pd_int) (fun _ _ => rfl))))) pd_int) (fun he => ps_set (i := 3) sc_law_pull.nd rfl (.inl rfl) he))
    (sd_cons (sd_set (pd_mod (pd_t1 c1_int call_int1 PyProof.Rows.boot_int (by rfl) m_int (pk_of (pd_add (pd_mul (pd_var 3 (pv 3)) (pd_var 3 (pv 3))) (pd_mul (pk_ix (pk_var 0 (pv 0)) (pk_of pd_int) (fun _ _ => rfl)) pd_int)))) pd_int) (fun he => ps_set (i := 4) sc_law_pull.nd rfl (.inl rfl) he))
    (sd_one (sd_ret (pd_mod (pd_fdiv (pd_mod (pd_t1 c1_int call_int1 PyProof.Rows.boot_int (by rfl) m_int (pk_of (pd_add (pd_mul (pd_var 4 (pv 4)) pd_int) (pd_var 3 (pv 3))))) pd_int) pd_int) (pd_var 1 (pv 1))))))) sd_nil)
    (sd_one (sd_item (pv 0) pd_int (pd_var 2 (pv 2)))))))) sd_nil)
    (sd_cons (sd_set (pd_mod (pd_t1 c1_int call_int1 PyProof.Rows.boot_int (by rfl) m_int (pk_of (pk_ix (pk_var 0 (pv 0)) (pk_of pd_int) (fun _ _ => rfl)))) (pd_var 1 (pv 1))) (fun he => ps_set (i := 5) sc_law_pull.nd rfl (.inl rfl) he))
    (sd_cons (sd_item (pv 0) pd_int (pd_fdiv (pd_t1 c1_int call_int1 PyProof.Rows.boot_int (by rfl) m_int (pk_of (pk_ix (pk_var 0 (pv 0)) (pk_of pd_int) (fun _ _ => rfl)))) (pd_var 1 (pv 1))))
    (sd_one (sd_ret (pd_var 5 (pv 5))))))), body_end (N := N_law_pull) (X := cxOf (L2.CX P w) P w K mg base N_law_pull "_law_pull" (defScope s_law_pull) f cdv A outer s H E) h⟩
/-! law_like -/
def h_law_like (F_law_like : Fn) : M Out := (thenS
  (ifM (tst (k1 (isiD2 "list" "tuple") (varK 1))) (thenS
  (ifM (orM (tst (k2 neD (opdM (k1 (isiD "list") (varK 0))) (opdM (k1 (isiD "list") (varK 1))))) (tst (k2 neD (opdM (k1 (isiD "tuple") (varK 0))) (opdM (k1 (isiD "tuple") (varK 1)))))) (retS (M.ret (.bl false))) (M.ret .nx))
  (retS (andV (k2 eqD (opdM (k1 lenD (varK 0))) (opdM (k1 lenD (varK 1)))) (k1 allD (opdM (frzM (lcM (rngI (k1 lenD (varK 1))) (bndN 2) (M.ret true) (callM F_law_like (consA (opdM (k2 ixD (varK 0) (varK 2))) (consA (opdM (k2 ixD (varK 1) (varK 2))) (M.ret [])))) [2]))))))) (M.ret .nx))
  (thenS
  (ifM (orM (tst (k1 (isiD2 "list" "tuple") (varK 0))) (tst (k2 neD (opdM (k1 (isiD "bool") (varK 0))) (opdM (k1 (isiD "bool") (varK 1)))))) (retS (M.ret (.bl false))) (M.ret .nx))
  (retS (k2 eqD (varK 0) (varK 1)))))
def F_law_like : Nat → Fn
  | 0 => fun _ => .no
  | n + 1 => runB 3 2 (h_law_like (F_law_like n))
theorem ok_law_like {f : Addr} {fd : FuncData} {k : Nat} (F : Fun K "_law_like" "_law_like" s_law_like f fd)
  (m_all : mg "all" = none)
  (m_bool : mg "bool" = none)
  (m_isinstance : mg "isinstance" = none)
  (m_len : mg "len" = none)
  (m_list : mg "list" = none)
  (m_range : mg "range" = none)
  (m_tuple : mg "tuple" = none)
  (g_law_like : mg "_law_like" = some (.ref f)) (b_law_like : Binds K fd ["_law_found", "_law_due"] []) : ∀ n : Nat, FnOk P w K mg base (L2.CX P w) (k + n) f fd ["_law_found", "_law_due"] (spD K (F_law_like n))
  | 0 => ⟨spD_len (n := 2) fun ss e => absurd rfl e, fun A outer s H args us vs Q E hr he hb hv hs => by
    obtain ⟨_, _, _, _, z⟩ := hs
    exact z.elim⟩
  | n + 1 => by
    have G_law_like := ok_law_like (k := k) F m_all m_bool m_isinstance m_len m_list m_range m_tuple g_law_like b_law_like n
    have kp_law_like := F.kp
    refine F.okX sc_law_like (spD_len fun ss e => runB_len e) (fun cdv A outer s H vs Q E hr h => ?_)
    have hu := hr.units
    exact ⟨_, (sd_cons (sd_if (pt_tst (pd_isi2 (by rfl) m_isinstance (pk_var 1 (pv 1)) (by rfl) m_list PyProof.Rows.boot_list (by rfl) m_tuple PyProof.Rows.boot_tuple)) (sd_cons (sd_if (wd_or (pkt_ne hu (pk_of (pd_isi (by rfl) m_isinstance (pk_var 0 (pv 0)) (by rfl) m_list PyProof.Rows.boot_list)) (pk_of (pd_isi (by rfl) m_isinstance (pk_var 1 (pv 1)) (by rfl) m_list PyProof.Rows.boot_list))) (wd_or1 (pkt_ne hu (pk_of (pd_isi (by rfl) m_isinstance (pk_var 0 (pv 0)) (by rfl) m_tuple PyProof.Rows.boot_tuple)) (pk_of (pd_isi (by rfl) m_isinstance (pk_var 1 (pv 1)) (by rfl) m_tuple PyProof.Rows.boot_tuple))))).pt (sd_one (sd_ret pd_bl)) sd_nil)
    (sd_one (sd_ret (pd_andV (pk_eq hu (pk_of (pd_b1 c1_len (call_len_seq.or call_len_str) boot_len (by rfl) m_len (pk_var 0 (pv 0)))) (pk_of (pd_b1 c1_len (call_len_seq.or call_len_str) boot_len (by rfl) m_len (pk_var 1 (pv 1))))) (pd_one (pd_b1 c1_all (cr_all rfl) (by decide +kernel) (by rfl) m_all (pk_of (pd_new (pn_lc (by rfl) sc_law_like.nd (pi_rng1 (by rfl) m_range (pd_b1 c1_len (call_len_seq.or call_len_str) boot_len (by rfl) m_len (pk_var 1 (pv 1)))) (blkOk_by (own := [("_law_at", 2)]) (N := N_law_like) (sc := defScope s_law_like) (by decide +kernel)) (by decide) bndN_noex (fun _ _ _ _ _ => (gd_name (pg_name (i := 2) sc_law_like.nd rfl (.inl rfl)))) (fun _ _ _ _ _ => pts_nilD) (fun _ _ _ _ _ => (pd_call G_law_like hr (by rfl) g_law_like kp_law_like b_law_like takes0 (pa_consA (pk_of (pk_ix (pk_var 0 (pv 0)) (pk_var 2 (pv 2)) (fun _ _ => rfl))) (pa_consA (pk_of (pk_ix (pk_var 1 (pv 1)) (pk_var 2 (pv 2)) (fun _ _ => rfl))) pa_nilA))))))))))))) sd_nil)
    (sd_cons (sd_if (wd_or (pt_tst (pd_isi2 (by rfl) m_isinstance (pk_var 0 (pv 0)) (by rfl) m_list PyProof.Rows.boot_list (by rfl) m_tuple PyProof.Rows.boot_tuple)) (wd_or1 (pkt_ne hu (pk_of (pd_isi (by rfl) m_isinstance (pk_var 0 (pv 0)) (by rfl) m_bool PyProof.Rows.boot_bool)) (pk_of (pd_isi (by rfl) m_isinstance (pk_var 1 (pv 1)) (by rfl) m_bool PyProof.Rows.boot_bool))))).pt (sd_one (sd_ret pd_bl)) sd_nil)
    (sd_one (sd_ret (pk_eq hu (pk_var 0 (pv 0)) (pk_var 1 (pv 1))))))), body_end (N := N_law_like) (X := cxOf (L2.CX P w) P w K mg base N_law_like "_law_like" (defScope s_law_like) f cdv A outer s H E) h⟩
/-! law_pairs -/
def h_law_pairs (F_law_pull : Fn) : M Out := (retS (frzM (lcM (rngI (callM F_law_pull (consA (varK 0) (consA (opdM (b2 addD (var 2) (M.ret (.int 1)))) (M.ret []))))) (bndN 3) (M.ret true) (tupM (consM (callM F_law_pull (consA (varK 0) (consA (varK 1) (M.ret [])))) (consM (callM F_law_pull (consA (varK 0) (consA (varK 1) (M.ret [])))) (M.ret [])))) [3])))
def F_law_pairs (F_law_pull : Fn) : Fn := runB 4 3 (h_law_pairs F_law_pull)
theorem ok_law_pairs {f : Addr} {fd : FuncData} {k : Nat} (F : Fun K "_law_pairs" "_law_pairs" s_law_pairs f fd)
  {f_law_pull : Addr} {fd_law_pull : FuncData} {F_law_pull : Fn} (G_law_pull : FnOk P w K mg base (L2.CX P w) k f_law_pull fd_law_pull ["_law_box", "_law_many"] (spD K F_law_pull)) (g_law_pull : mg "_law_pull" = some (.ref f_law_pull)) (kp_law_pull : PySem.W.keepIn K (.ref f_law_pull) = true) (b_law_pull : Binds K fd_law_pull ["_law_box", "_law_many"] [])
  (m_range : mg "range" = none) : FnOk P w K mg base (L2.CX P w) (k + 1) f fd ["_law_box", "_law_many", "_law_top"] (spD K (F_law_pairs F_law_pull)) := by
  refine F.okX sc_law_pairs (spD_len fun ss e => runB_len e) (fun cdv A outer s H vs Q E hr h => ?_)
  have hu := hr.units
  exact ⟨_, (sd_one (sd_ret (pd_new (pn_lc (by rfl) sc_law_pairs.nd (pi_rng1 (by rfl) m_range (pd_call G_law_pull hr (by rfl) g_law_pull kp_law_pull b_law_pull (takes_of rfl rfl rfl rfl) (pa_consA (pk_var 0 (pv 0)) (pa_consA (pk_of (pd_add (pd_var 2 (pv 2)) pd_int)) pa_nilA)))) (blkOk_by (own := [("_law_at", 3)]) (N := N_law_pairs) (sc := defScope s_law_pairs) (by decide +kernel)) (by decide) bndN_noex (fun _ _ _ _ _ => (gd_name (pg_name (i := 3) sc_law_pairs.nd rfl (.inl rfl)))) (fun _ _ _ _ _ => pts_nilD) (fun _ _ _ _ _ => (pd_tup (pl_cons (pd_call G_law_pull hr (by rfl) g_law_pull kp_law_pull b_law_pull takes0 (pa_consA (pk_var 0 (pv 0)) (pa_consA (pk_var 1 (pv 1)) pa_nilA))) (pl_cons (pd_call G_law_pull hr (by rfl) g_law_pull kp_law_pull b_law_pull takes0 (pa_consA (pk_var 0 (pv 0)) (pa_consA (pk_var 1 (pv 1)) pa_nilA))) pl_nil)))))))), body_end (N := N_law_pairs) (X := cxOf (L2.CX P w) P w K mg base N_law_pairs "_law_pairs" (defScope s_law_pairs) f cdv A outer s H E) h⟩
/-! law_rel_of -/
def h_law_rel_of : M Out := (thenS
  (setN 2 (b2N repO (frzM (lstM (consM (M.ret (.int 0)) (M.ret [])))) (var 0)))
  (thenS
  (forS (seqI (var 1)) (bndT [3, 4]) (itemS 2 (b2 orD (k2 ixD (varK 2) (varK 3)) (b2 shlD (M.ret (.int 1)) (var 4))) (var 3)))
  (retS (k1 tupleD (varK 2)))))
def F_law_rel_of : Fn := runB 5 2 (h_law_rel_of)
theorem ok_law_rel_of {f : Addr} {fd : FuncData} {k : Nat} (F : Fun K "_law_rel_of" "_law_rel_of" s_law_rel_of f fd)
  (m_tuple : mg "tuple" = none) : FnOk P w K mg base (L2.CX P w) (k + 1) f fd ["_law_many", "_law_pairs_here"] (spD K (F_law_rel_of)) := by
  refine F.okX sc_law_rel_of (spD_len fun ss e => runB_len e) (fun cdv A outer s H vs Q E hr h => ?_)
  have hu := hr.units
  exact ⟨_, (sd_cons (sn_set (pn_rep (pd_new (pn_lst (pl_cons pd_int pl_nil))) (pd_var 0 (pv 0))) (fun he => ps_set (i := 2) sc_law_rel_of.nd rfl (.inl rfl) he))
    (sd_cons (sd_for (passes_of rfl) (by rfl) (pi_seq (pd_var 1 (pv 1))) (gd_tup (by rfl) (gds_cons (pg_name (i := 3) sc_law_rel_of.nd rfl (.inl rfl)) (gds_cons (pg_name (i := 4) sc_law_rel_of.nd rfl (.inl rfl)) gds_nil))) bndT_noex (sd_one (sd_item (pv 2) (pd_var 3 (pv 3)) (pd_or (pk_ix (pk_var 2 (pv 2)) (pk_var 3 (pv 3)) (fun _ _ => rfl)) (pd_shl pd_int (pd_var 4 (pv 4)))))))
    (sd_one (sd_ret (pd_t1 c1_tuple call_tuple_of PyProof.Rows.boot_tuple (by rfl) m_tuple (pk_var 2 (pv 2))))))), body_end (N := N_law_rel_of) (X := cxOf (L2.CX P w) P w K mg base N_law_rel_of "_law_rel_of" (defScope s_law_rel_of) f cdv A outer s H E) h⟩
/-! law -/
def h_law (F_law_pull : Fn) (F_law_pairs : Fn) (F_law_rel_of : Fn) (F_relation_of : Fn) (F_law_like : Fn) (F_pairs_of : Fn) (F_turned : Fn) (F_identity : Fn) : M Out := (thenS
  (forS (rngI (M.ret (.int 6))) (bndN 2) (thenS
  (setS 3 (b2 addD (M.ret (.int 1)) (callM F_law_pull (consA (varK 1) (consA (opdM (M.ret (.int 12))) (M.ret []))))))
  (thenS
  (setS 4 (callM F_law_pairs (consA (varK 1) (consA (varK 3) (consA (opdM (M.ret (.int 15))) (M.ret []))))))
  (thenS
  (parS 5 6 (consM (frzM (k1 listO (varK 4))) (consM (callM F_law_rel_of (consA (varK 3) (consA (varK 4) (M.ret [])))) (M.ret []))))
  (thenS
  (setS 7 (callM F_relation_of (consA (varK 3) (consA (varK 5) (M.ret [])))))
  (thenS
  (ifM (orM (notM (tst (callM F_law_like (consA (varK 7) (consA (varK 6) (M.ret [])))))) (orM (tst (k2 neD (varK 5) (varK 4))) (tst (k2 neD (opdM (callM F_relation_of (consA (varK 3) (consA (opdM (k1 tupleD (varK 4))) (M.ret []))))) (varK 6))))) (retS (M.ret (.bl false))) (M.ret .nx))
  (thenS
  (setS 8 (frzM (k1 (sspO 2) (varK 4))))
  (thenS
  (ifM (notM (tst (callM F_law_like (consA (opdM (callM F_pairs_of (consA (varK 7) (M.ret [])))) (consA (varK 8) (M.ret [])))))) (retS (M.ret (.bl false))) (M.ret .nx))
  (thenS
  (setS 9 (frzM (lcM (seqI (var 8)) (bndT [10, 11]) (M.ret true) (tupM (consM (var 11) (consM (var 10) (M.ret [])))) [10, 11])))
  (thenS
  (ifM (orM (notM (tst (callM F_law_like (consA (opdM (callM F_turned (consA (varK 7) (M.ret [])))) (consA (opdM (callM F_law_rel_of (consA (varK 3) (consA (varK 9) (M.ret []))))) (M.ret [])))))) (tst (k2 neD (opdM (callM F_turned (consA (opdM (callM F_turned (consA (varK 7) (M.ret [])))) (M.ret [])))) (varK 6)))) (retS (M.ret (.bl false))) (M.ret .nx))
  (thenS
  (ifM (notM (tst (callM F_law_like (consA (opdM (callM F_pairs_of (consA (opdM (callM F_identity (consA (varK 3) (M.ret [])))) (M.ret [])))) (consA (opdM (frzM (lcM (rngI (var 3)) (bndN 12) (M.ret true) (tupM (consM (var 12) (consM (var 12) (M.ret [])))) [12]))) (M.ret [])))))) (retS (M.ret (.bl false))) (M.ret .nx))
  (ifM (tst (k2 neD (opdM (callM F_relation_of (consA (varK 3) (consA (opdM (frzM (lstM (M.ret [])))) (M.ret []))))) (opdM (b2 mulD (tupM (consM (M.ret (.int 0)) (M.ret []))) (var 3))))) (retS (M.ret (.bl false))) (M.ret .nx)))))))))))))
  (retS (andV (k2 eqD (opdM (callM F_identity (consA (opdM (M.ret (.int 1))) (M.ret [])))) (opdM (tupM (consM (M.ret (.int 1)) (M.ret []))))) (k2 eqD (opdM (callM F_relation_of (consA (opdM (M.ret (.int 12))) (consA (opdM (frzM (lstM (consM (tupM (consM (M.ret (.int 0)) (consM (M.ret (.int 11)) (M.ret [])))) (consM (tupM (consM (M.ret (.int 11)) (consM (M.ret (.int 0)) (M.ret [])))) (M.ret [])))))) (M.ret []))))) (opdM (b2 addD (b2 addD (tupM (consM (M.ret (.int 2048)) (M.ret []))) (b2 mulD (tupM (consM (M.ret (.int 0)) (M.ret []))) (M.ret (.int 10)))) (tupM (consM (M.ret (.int 1)) (M.ret [])))))))))
theorem dv_law {cdv : Value} {A : Around} {outer : List Env} {s : Shared} {H : Hp} {E : XK} {f : Addr} {k : Nat} (hr : Room k (A.deeper (envOfC "law" (defScope s_law) s.heap.objs.size f cdv))) {f_law_pull : Addr} {fd_law_pull : FuncData} {F_law_pull : Fn} (G_law_pull : FnOk P w K mg base (L2.CX P w) k f_law_pull fd_law_pull ["_law_box", "_law_many"] (spD K F_law_pull)) (g_law_pull : mg "_law_pull" = some (.ref f_law_pull)) (kp_law_pull : PySem.W.keepIn K (.ref f_law_pull) = true) (b_law_pull : Binds K fd_law_pull ["_law_box", "_law_many"] [])
  {f_law_pairs : Addr} {fd_law_pairs : FuncData} {F_law_pairs : Fn} (G_law_pairs : FnOk P w K mg base (L2.CX P w) k f_law_pairs fd_law_pairs ["_law_box", "_law_many", "_law_top"] (spD K F_law_pairs)) (g_law_pairs : mg "_law_pairs" = some (.ref f_law_pairs)) (kp_law_pairs : PySem.W.keepIn K (.ref f_law_pairs) = true) (b_law_pairs : Binds K fd_law_pairs ["_law_box", "_law_many", "_law_top"] [])
  {f_law_rel_of : Addr} {fd_law_rel_of : FuncData} {F_law_rel_of : Fn} (G_law_rel_of : FnOk P w K mg base (L2.CX P w) k f_law_rel_of fd_law_rel_of ["_law_many", "_law_pairs_here"] (spD K F_law_rel_of)) (g_law_rel_of : mg "_law_rel_of" = some (.ref f_law_rel_of)) (kp_law_rel_of : PySem.W.keepIn K (.ref f_law_rel_of) = true) (b_law_rel_of : Binds K fd_law_rel_of ["_law_many", "_law_pairs_here"] [])
  {f_relation_of : Addr} {fd_relation_of : FuncData} {F_relation_of : Fn} (G_relation_of : FnOk P w K mg base (L2.CX P w) k f_relation_of fd_relation_of ["states", "pairs"] (spD K F_relation_of)) (g_relation_of : mg "relation_of" = some (.ref f_relation_of)) (kp_relation_of : PySem.W.keepIn K (.ref f_relation_of) = true) (b_relation_of : Binds K fd_relation_of ["states", "pairs"] [])
  {f_law_like : Addr} {fd_law_like : FuncData} {F_law_like : Fn} (G_law_like : FnOk P w K mg base (L2.CX P w) k f_law_like fd_law_like ["_law_found", "_law_due"] (spD K F_law_like)) (g_law_like : mg "_law_like" = some (.ref f_law_like)) (kp_law_like : PySem.W.keepIn K (.ref f_law_like) = true) (b_law_like : Binds K fd_law_like ["_law_found", "_law_due"] [])
  {f_pairs_of : Addr} {fd_pairs_of : FuncData} {F_pairs_of : Fn} (G_pairs_of : FnOk P w K mg base (L2.CX P w) k f_pairs_of fd_pairs_of ["relation"] (spD K F_pairs_of)) (g_pairs_of : mg "pairs_of" = some (.ref f_pairs_of)) (kp_pairs_of : PySem.W.keepIn K (.ref f_pairs_of) = true) (b_pairs_of : Binds K fd_pairs_of ["relation"] [])
  {f_turned : Addr} {fd_turned : FuncData} {F_turned : Fn} (G_turned : FnOk P w K mg base (L2.CX P w) k f_turned fd_turned ["relation"] (spD K F_turned)) (g_turned : mg "turned" = some (.ref f_turned)) (kp_turned : PySem.W.keepIn K (.ref f_turned) = true) (b_turned : Binds K fd_turned ["relation"] [])
  {f_identity : Addr} {fd_identity : FuncData} {F_identity : Fn} (G_identity : FnOk P w K mg base (L2.CX P w) k f_identity fd_identity ["states"] (spD K F_identity)) (g_identity : mg "identity" = some (.ref f_identity)) (kp_identity : PySem.W.keepIn K (.ref f_identity) = true) (b_identity : Binds K fd_identity ["states"] [])
  (m_list : mg "list" = none)
  (m_range : mg "range" = none)
  (m_set : mg "set" = none)
  (m_sorted : mg "sorted" = none)
  (m_tuple : mg "tuple" = none) :
    PSs (cxOf (L2.CX P w) P w K mg base N_law "law" (defScope s_law) f cdv A outer s H E) ((defBody s_law).drop 1) (tS K (fun cls d _ H => E cls d H) (h_law F_law_pull F_law_pairs F_law_rel_of F_relation_of F_law_like F_pairs_of F_turned F_identity)) := by
  have hu := hr.units
  have z : ∃ t, PSs (cxOf (L2.CX P w) P w K mg base N_law "law" (defScope s_law) f cdv A outer s H E) ((defBody s_law).drop 1) t ∧ t = tS K (fun cls d _ H => E cls d H) (h_law F_law_pull F_law_pairs F_law_rel_of F_relation_of F_law_like F_pairs_of F_turned F_identity) := ⟨_, (sd_cons (sd_for (passes_of rfl) (by rfl) (pi_rng1 (by rfl) m_range pd_int) (gd_name (pg_name (i := 2) sc_law.nd rfl (.inl rfl))) bndN_noex (sd_cons (sd_set (pd_add pd_int (pd_call G_law_pull hr (by rfl) g_law_pull kp_law_pull b_law_pull (takes_of rfl rfl rfl rfl) (pa_consA (pk_var 1 (pv 1)) (pa_consA (pk_of pd_int) pa_nilA)))) (fun he => ps_set (i := 3) sc_law.nd rfl (.inl rfl) he))
    (sd_cons (sd_set (pd_call G_law_pairs hr (by rfl) g_law_pairs kp_law_pairs b_law_pairs (takes_of rfl rfl rfl rfl) (pa_consA (pk_var 1 (pv 1)) (pa_consA (pk_var 3 (pv 3)) (pa_consA (pk_of pd_int) pa_nilA)))) (fun he => ps_set (i := 4) sc_law.nd rfl (.inl rfl) he))
    (sd_cons (sd_par (fun ha => ps_par (by rfl) sc_law.nd rfl rfl (by decide) rfl rfl ha (by rfl)) (pl_cons (pd_new (pn_t1 c1_list call_list_of PyProof.Rows.boot_list (by rfl) m_list (pk_var 4 (pv 4)))) (pl_cons (pd_call G_law_rel_of hr (by rfl) g_law_rel_of kp_law_rel_of b_law_rel_of (takes_of rfl rfl rfl rfl) (pa_consA (pk_var 3 (pv 3)) (pa_consA (pk_var 4 (pv 4)) pa_nilA))) pl_nil)))
    (sd_cons (sd_set (pd_call G_relation_of hr (by rfl) g_relation_of kp_relation_of b_relation_of (takes_of rfl rfl rfl rfl) (pa_consA (pk_var 3 (pv 3)) (pa_consA (pk_var 5 (pv 5)) pa_nilA))) (fun he => ps_set (i := 7) sc_law.nd rfl (.inl rfl) he))
    (sd_cons (sd_if (wd_or (pt_notD (pt_tst (pd_call G_law_like hr (by rfl) g_law_like kp_law_like b_law_like (takes_of rfl rfl rfl rfl) (pa_consA (pk_var 7 (pv 7)) (pa_consA (pk_var 6 (pv 6)) pa_nilA))))) (wd_or (pkt_ne hu (pk_var 5 (pv 5)) (pk_var 4 (pv 4))) (wd_or1 (pkt_ne hu (pk_of (pd_call G_relation_of hr (by rfl) g_relation_of kp_relation_of b_relation_of (takes_of rfl rfl rfl rfl) (pa_consA (pk_var 3 (pv 3)) (pa_consA (pk_of (pd_t1 c1_tuple call_tuple_of PyProof.Rows.boot_tuple (by rfl) m_tuple (pk_var 4 (pv 4)))) pa_nilA)))) (pk_var 6 (pv 6)))))).pt (sd_one (sd_ret pd_bl)) sd_nil)
    (sd_cons (sd_set (pd_new (pn_sortedSetT (n := 2) (by decide) (by rfl) hu (by rfl) m_sorted (by rfl) m_set (pk_var 4 (pv 4)))) (fun he => ps_set (i := 8) sc_law.nd rfl (.inl rfl) he))
    (sd_cons (sd_if (pt_notD (pt_tst (pd_call G_law_like hr (by rfl) g_law_like kp_law_like b_law_like (takes_of rfl rfl rfl rfl) (pa_consA (pk_of (pd_call G_pairs_of hr (by rfl) g_pairs_of kp_pairs_of b_pairs_of (takes_of rfl rfl rfl rfl) (pa_consA (pk_var 7 (pv 7)) pa_nilA))) (pa_consA (pk_var 8 (pv 8)) pa_nilA))))) (sd_one (sd_ret pd_bl)) sd_nil)
    (sd_cons (sd_setLc (i := 9) (by rfl) sc_law.nd rfl rfl (sw_true rfl rfl rfl (by decide +kernel)) (pi_seq (pd_var 8 (pv 8))) (blkOk_by (own := [("_law_one", 10), ("_law_other", 11)]) (N := N_law) (sc := defScope s_law) (by decide +kernel)) (by decide) bndT_noex (fun _ _ _ _ _ => (gd_tup (by rfl) (gds_cons (pg_name (i := 10) sc_law.nd rfl (.inl rfl)) (gds_cons (pg_name (i := 11) sc_law.nd rfl (.inl rfl)) gds_nil)))) (fun _ _ _ _ _ => pts_nilD) (fun _ _ _ _ _ => (pd_tup (pl_cons (pd_var 11 (pv 11)) (pl_cons (pd_var 10 (pv 10)) pl_nil)))))
    (sd_cons (sd_if (wd_or (pt_notD (pt_tst (pd_call G_law_like hr (by rfl) g_law_like kp_law_like b_law_like (takes_of rfl rfl rfl rfl) (pa_consA (pk_of (pd_call G_turned hr (by rfl) g_turned kp_turned b_turned (takes_of rfl rfl rfl rfl) (pa_consA (pk_var 7 (pv 7)) pa_nilA))) (pa_consA (pk_of (pd_call G_law_rel_of hr (by rfl) g_law_rel_of kp_law_rel_of b_law_rel_of (takes_of rfl rfl rfl rfl) (pa_consA (pk_var 3 (pv 3)) (pa_consA (pk_var 9 (pv 9)) pa_nilA)))) pa_nilA))))) (wd_or1 (pkt_ne hu (pk_of (pd_call G_turned hr (by rfl) g_turned kp_turned b_turned (takes_of rfl rfl rfl rfl) (pa_consA (pk_of (pd_call G_turned hr (by rfl) g_turned kp_turned b_turned (takes_of rfl rfl rfl rfl) (pa_consA (pk_var 7 (pv 7)) pa_nilA))) pa_nilA))) (pk_var 6 (pv 6))))).pt (sd_one (sd_ret pd_bl)) sd_nil)
    (sd_cons (sd_if (pt_notD (pt_tst (pd_call G_law_like hr (by rfl) g_law_like kp_law_like b_law_like (takes_of rfl rfl rfl rfl) (pa_consA (pk_of (pd_call G_pairs_of hr (by rfl) g_pairs_of kp_pairs_of b_pairs_of (takes_of rfl rfl rfl rfl) (pa_consA (pk_of (pd_call G_identity hr (by rfl) g_identity kp_identity b_identity (takes_of rfl rfl rfl rfl) (pa_consA (pk_var 3 (pv 3)) pa_nilA))) pa_nilA))) (pa_consA (pk_of (pd_new (pn_lc (by rfl) sc_law.nd (pi_rng1 (by rfl) m_range (pd_var 3 (pv 3))) (blkOk_by (own := [("_law_state", 12)]) (N := N_law) (sc := defScope s_law) (by decide +kernel)) (by decide) bndN_noex (fun _ _ _ _ _ => (gd_name (pg_name (i := 12) sc_law.nd rfl (.inl rfl)))) (fun _ _ _ _ _ => pts_nilD) (fun _ _ _ _ _ => (pd_tup (pl_cons (pd_var 12 (pv 12)) (pl_cons (pd_var 12 (pv 12)) pl_nil))))))) pa_nilA))))) (sd_one (sd_ret pd_bl)) sd_nil)
    (sd_one (sd_if (pkt_ne hu (pk_of (pd_call G_relation_of hr (by rfl) g_relation_of kp_relation_of b_relation_of (takes_of rfl rfl rfl rfl) (pa_consA (pk_var 3 (pv 3)) (pa_consA (pk_of (pd_new (pn_lst pl_nil))) pa_nilA)))) (pk_of (pd_mul (pd_tup (pl_cons pd_int pl_nil)) (pd_var 3 (pv 3))))) (sd_one (sd_ret pd_bl)) sd_nil)))))))))))))
    (sd_one (sd_ret (pd_andV (pk_eq hu (pk_of (pd_call G_identity hr (by rfl) g_identity kp_identity b_identity (takes_of rfl rfl rfl rfl) (pa_consA (pk_of pd_int) pa_nilA))) (pk_of (pd_tup (pl_cons pd_int pl_nil)))) (pd_one (pk_eq hu (pk_of (pd_call G_relation_of hr (by rfl) g_relation_of kp_relation_of b_relation_of (takes_of rfl rfl rfl rfl) (pa_consA (pk_of pd_int) (pa_consA (pk_of (pd_new (pn_lst (pl_cons (pd_tup (pl_cons pd_int (pl_cons pd_int pl_nil))) (pl_cons (pd_tup (pl_cons pd_int (pl_cons pd_int pl_nil))) pl_nil))))) pa_nilA)))) (pk_of (pd_add (pd_add (pd_tup (pl_cons pd_int pl_nil)) (pd_mul (pd_tup (pl_cons pd_int pl_nil)) pd_int)) (pd_tup (pl_cons pd_int pl_nil)))))))))), rfl⟩
  obtain ⟨t, z1, rfl⟩ := z
  exact z1
end
end Nc

namespace Nc
open PySem PySem.Spec PyProof.Rows L2
def boxD (cells : List Int) (i r s : Int) : List D := [.lst (cells.map D.int), .int i, .int r, .int s]
theorem mul_l {a b : Int} (h : small64i a = true) : mulD (.int a) (.int b) = some (.int (a * b)) := by
  simp only [mulD, h, Bool.true_or, if_true]
theorem pull_deep {cells : List Int} {i r s many : Int} (hr : ¬ r < 2) (hm : 0 < many) (hm2 : many.natAbs.log2 < 9000) :
    F_law_pull [.own 1 (.lst (boxD cells i r s)), .val (.int many)] = .ok (.int (r % many)) [.own 1 (.lst (boxD cells i (r / many) s)), .val (.int many)] := by
  unfold F_law_pull runB h_law_pull boxD
  simp [startR, then_r, if_r, tst_r, b2_r, k1_r, k2_r, varK, opd_r, Opd.dat, O.frozen, ret_r, Rs.bnd_ok, optR_some, ixD, atI, ixN, ltD, cmpI, asB, hr, set_r, item_r, retS_r, modD, fdivD, i2, intD, var, checkL, ownL, putL, setIx, hm, hm2, backAll, backSlot]
theorem log17 : (Nat.log2 17 < 9000) = True := eq_true (by decide +kernel)
def oneV (c i s : Int) : Int := (c * 39373 + i * 52774 + s) % 2147483563
def twoV (o i : Int) : Int := (o * o + i * 15331) % 1000000007
def drawV (c i s many : Int) : Int := (twoV (oneV c i s) i * 40014 + oneV c i s) % 2147483399 / 17 % many
theorem pull_cell {cells : List Int} {i r s many c : Int} (hr : r < 2) (hi : 0 ≤ i) (hl : i < cells.length) (hc : cells[i.toNat]? = some c) (h18 : c < 1000000000000000000) (hm : 0 < many) (hm2 : many.natAbs.log2 < 9000) :
    F_law_pull [.own 1 (.lst (boxD cells i r s)), .val (.int many)] = .ok (.int (drawV c (i + 1) s many)) [.own 1 (.lst (boxD cells (i + 1) r s)), .val (.int many)] := by
  have hj : i.toNat < cells.length := by omega
  have e : cells[i.toNat] = c := by
    rw [List.getElem?_eq_getElem hj] at hc
    exact Option.some.inj hc
  subst e
  have hl1 : i + 1 ≤ cells.length := by omega
  have hl2 : ¬ (cells.length : Int) < i + 1 := by omega
  have a1 : (-18446744073709551616 : Int) < (cells[i.toNat] * 39373 + (i + 1) * 52774 + s) % 2147483563 := by omega
  have a2 : (cells[i.toNat] * 39373 + (i + 1) * 52774 + s) % 2147483563 < (18446744073709551616 : Int) := by omega
  unfold F_law_pull runB h_law_pull boxD drawV twoV oneV
  simp [startR, then_r, if_r, tst_r, b2_r, k1_r, k2_r, varK, opd_r, Opd.dat, O.frozen, ret_r, Rs.bnd_ok, optR_some, ixD, atI, ixN, ltD, leD, gtD, cmpI, asB, hr, set_r, item_r, retS_r, modD, fdivD, mulD, addD, subD, powD, powC, small64i, i2, intD, var, checkL, ownL, putL, setIx, hm, hm2, backAll, backSlot, hl, hl1, hl2, hi, h18, lenD, or_r, a1, a2, log17]
theorem pull_past {cells : List Int} {i r s many : Int} (hr : r < 2) (hi : 0 ≤ i) (hl : ¬ i < cells.length) (hm : 0 < many) (hm2 : many.natAbs.log2 < 9000) :
    F_law_pull [.own 1 (.lst (boxD cells i r s)), .val (.int many)] = .ok (.int (drawV (s + (i + 1) * 7001) (i + 1) s many)) [.own 1 (.lst (boxD cells (i + 1) r s)), .val (.int many)] := by
  have hl1 : ¬ i + 1 ≤ cells.length := by omega
  have hl2 : (cells.length : Int) < i + 1 := by omega
  have a1 : (-18446744073709551616 : Int) < ((s + (i + 1) * 7001) * 39373 + (i + 1) * 52774 + s) % 2147483563 := by omega
  have a2 : ((s + (i + 1) * 7001) * 39373 + (i + 1) * 52774 + s) % 2147483563 < (18446744073709551616 : Int) := by omega
  unfold F_law_pull runB h_law_pull boxD drawV twoV oneV
  simp [startR, then_r, if_r, tst_r, b2_r, k1_r, k2_r, varK, opd_r, Opd.dat, O.frozen, ret_r, Rs.bnd_ok, optR_some, ixD, atI, ixN, ltD, leD, gtD, cmpI, asB, hr, set_r, item_r, retS_r, modD, fdivD, mulD, addD, subD, powD, powC, small64i, i2, intD, var, checkL, ownL, putL, setIx, hm, hm2, backAll, backSlot, hl, hl1, hl2, hi, lenD, or_r, a1, a2, log17]
theorem pull_great {cells : List Int} {i r s many c : Int} (hr : r < 2) (hi : 0 ≤ i) (hl : i < cells.length) (hc : cells[i.toNat]? = some c) (h18 : ¬ c < 1000000000000000000) (hm : 0 < many) (hm2 : many.natAbs.log2 < 9000) :
    F_law_pull [.own 1 (.lst (boxD cells i r s)), .val (.int many)] = .ok (.int (c % many)) [.own 1 (.lst (boxD cells (i + 1) (c / many) s)), .val (.int many)] := by
  have hl1 : i + 1 ≤ cells.length := by omega
  have hl2 : ¬ (cells.length : Int) < i + 1 := by omega
  have hj : i.toNat < cells.length := by omega
  have e : cells[i.toNat] = c := by
    rw [List.getElem?_eq_getElem hj] at hc
    exact Option.some.inj hc
  subst e
  have h19 := eq_false h18
  unfold F_law_pull runB h_law_pull boxD
  simp [startR, then_r, if_r, tst_r, b2_r, k1_r, k2_r, varK, opd_r, Opd.dat, O.frozen, ret_r, Rs.bnd_ok, optR_some, ixD, atI, ixN, ltD, leD, gtD, cmpI, asB, hr, set_r, item_r, retS_r, modD, fdivD, mulD, addD, subD, powD, powC, small64i, i2, intD, var, checkL, ownL, putL, setIx, hm, hm2, backAll, backSlot, hl, hl1, hl2, hi, h19, lenD, or_r, log17]
/-- the box's list -/
def IsBox (ds : List D) : Prop := ∃ cells i r s, ds = boxD cells i r s ∧ 0 ≤ i
theorem pull_run {ds : List D} {many : Int} (h : IsBox ds) (hm : 0 < many) (hm2 : many < 9000) : ∃ v ds', F_law_pull [.own 1 (.lst ds), .val (.int many)] = .ok (.int v) [.own 1 (.lst ds'), .val (.int many)] ∧ IsBox ds' ∧ 0 ≤ v ∧ v < many := by
  obtain ⟨cells, i, r, s, rfl, hi⟩ := h
  have hlog : many.natAbs.log2 < 9000 := Nat.lt_of_le_of_lt (Nat.log2_le_self _) (by omega)
  by_cases hr : r < 2
  · by_cases hl : i < cells.length
    · have hj : i.toNat < cells.length := by omega
      have hc := List.getElem?_eq_getElem hj
      by_cases h18 : cells[i.toNat] < 1000000000000000000
      · exact ⟨_, _, pull_cell hr hi hl hc h18 hm hlog, ⟨_, _, _, _, rfl, by omega⟩, Int.emod_nonneg _ (by omega), Int.emod_lt_of_pos _ hm⟩
      · exact ⟨_, _, pull_great hr hi hl hc h18 hm hlog, ⟨_, _, _, _, rfl, by omega⟩, Int.emod_nonneg _ (by omega), Int.emod_lt_of_pos _ hm⟩
    · exact ⟨_, _, pull_past hr hi hl hm hlog, ⟨_, _, _, _, rfl, by omega⟩, Int.emod_nonneg _ (by omega), Int.emod_lt_of_pos _ hm⟩
  · exact ⟨_, _, pull_deep hr hm hlog, ⟨_, _, _, _, rfl, hi⟩, Int.emod_nonneg _ (by omega), Int.emod_lt_of_pos _ hm⟩
end Nc

/-! the box opened: the first statement by hand, the others by the layer. -/
namespace Nc
open PySem PySem.Spec PyProof.Rows L2
theorem mul_r {a b : Int} (h : small64i b = true) : mulD (.int a) (.int b) = some (.int (a * b)) := by
  simp only [mulD, h, Bool.or_true, if_true]
theorem h_open_run {ns : List Int} {a : Option Slot} (hl : ns.length ≤ 63) : ∃ s ρ', h_law_open [a, some (.val (.lst (ns.map D.int))), none, none] = .ok (.rt (.lst (boxD ns 0 0 s))) ρ' := by
  have el : lenD (.lst (ns.map D.int)) = some (.int (ns.length : Nat)) := by simp only [lenD, List.length_map]
  have em : mulD (.int 89) (.int (ns.length : Nat)) = some (.int (89 * (ns.length : Nat))) := mul_l (by decide)
  have e1 : setS 2 (b2 addD (M.ret (.int 5644)) (b2 mulD (M.ret (.int 89)) (k1 lenD (varK 1)))) [a, some (.val (.lst (ns.map D.int))), none, none] = .ok .nx [a, some (.val (.lst (ns.map D.int))), some (.val (.int (5644 + 89 * (ns.length : Nat)))), none] := by
    simp only [startR, then_r, if_r, tst_r, b2_r, b2N_r, k1_r, k2_r, varK, opd_r, frz_r, Opd.dat, O.frozen, ret_r, Rs.bnd_ok, optR_some, set_r, setN_r, item_r, retS_r, drop_r, cons_r, consA_r, lst_r, tup_r, var, checkL, ownL, putL, updL, setIx, backAll, backSlot, or_r, and_r, not_r, andV_r, orV_r, notV_r, asB, call_r, seqI_r, rngI_r, rngI2_r, asg_r, par_r, lm1_r, bndN, bndT, bndS, tupOf, wipeR, mixR, turn_r, turn2_r, List.getElem?_cons_zero, List.getElem?_cons_succ, el, em, addD, List.set_cons_succ, List.set_cons_zero]
  obtain ⟨ρ, e2, s, x3, rfl⟩ := forS_run (src := seqI (var 1)) (bnd := bndN 3) (body := setS 2 (b2 modD (k1 intD (opdM (b2 addD (b2 mulD (var 2) (M.ret (.int 7919))) (var 3)))) (M.ret (.int 2147483587)))) (ds := ns.map D.int) (ρ := [a, some (.val (.lst (ns.map D.int))), some (.val (.int (5644 + 89 * (ns.length : Nat)))), none]) (ρ0 := [a, some (.val (.lst (ns.map D.int))), some (.val (.int (5644 + 89 * (ns.length : Nat)))), none])
    (by simp only [startR, then_r, if_r, tst_r, b2_r, b2N_r, k1_r, k2_r, varK, opd_r, frz_r, Opd.dat, O.frozen, ret_r, Rs.bnd_ok, optR_some, set_r, setN_r, item_r, retS_r, drop_r, cons_r, consA_r, lst_r, tup_r, var, checkL, ownL, putL, updL, setIx, backAll, backSlot, or_r, and_r, not_r, andV_r, orV_r, notV_r, asB, call_r, seqI_r, rngI_r, rngI2_r, asg_r, par_r, lm1_r, bndN, bndT, bndS, tupOf, wipeR, mixR, turn_r, turn2_r, itemsD, List.getElem?_cons_zero, List.getElem?_cons_succ]) (fun i ρ => ∃ s x3, ρ = [a, some (.val (.lst (ns.map D.int))), some (.val (.int s)), x3]) ⟨_, _, rfl⟩ (fun i d ρ hd ⟨s, x3, hρ⟩ => by
      subst hρ
      rw [List.getElem?_map] at hd
      obtain ⟨c, hc, e⟩ := Option.map_eq_some_iff.mp hd
      subst e
      have em2 : mulD (.int s) (.int 7919) = some (.int (s * 7919)) := mul_r (by decide)
      have ed : modD (.int (s * 7919 + c)) (.int 2147483587) = some (.int ((s * 7919 + c) % 2147483587)) := by
        simp only [modD, i2]
        rfl
      refine ⟨_, _, rfl, .inl ?_, (s * 7919 + c) % 2147483587, some (.val (.int c)), rfl⟩
      simp only [startR, then_r, if_r, tst_r, b2_r, b2N_r, k1_r, k2_r, varK, opd_r, frz_r, Opd.dat, O.frozen, ret_r, Rs.bnd_ok, optR_some, set_r, setN_r, item_r, retS_r, drop_r, cons_r, consA_r, lst_r, tup_r, var, checkL, ownL, putL, updL, setIx, backAll, backSlot, or_r, and_r, not_r, andV_r, orV_r, notV_r, asB, call_r, seqI_r, rngI_r, rngI2_r, asg_r, par_r, lm1_r, bndN, bndT, bndS, tupOf, wipeR, mixR, turn_r, turn2_r, List.set_cons_succ, List.set_cons_zero, List.getElem?_cons_zero, List.getElem?_cons_succ, em2, addD, intD, ed])
  have s4 : sizedL (boxD ns 0 0 s) = some (.lst (boxD ns 0 0 s)) := by
    unfold sizedL
    rw [sizeLine_eq]
    rfl
  refine ⟨s, [a, some (.val (.lst (ns.map D.int))), some (.val (.int s)), x3], ?_⟩
  unfold h_law_open
  rw [thenS_ok e1, thenS_ok e2]
  unfold boxD at s4 ⊢
  simp only [startR, then_r, if_r, tst_r, b2_r, b2N_r, k1_r, k2_r, varK, opd_r, frz_r, Opd.dat, O.frozen, ret_r, Rs.bnd_ok, optR_some, set_r, setN_r, item_r, retS_r, drop_r, cons_r, consA_r, lst_r, tup_r, var, checkL, ownL, putL, updL, setIx, backAll, backSlot, or_r, and_r, not_r, andV_r, orV_r, notV_r, asB, call_r, seqI_r, rngI_r, rngI2_r, asg_r, par_r, lm1_r, bndN, bndT, bndS, tupOf, wipeR, mixR, turn_r, turn2_r, List.getElem?_cons_zero, List.getElem?_cons_succ, s4]
theorem cut63 {ns : List Int} (h : ns.length ≤ 63) : cutV (ns.map V.int) none (some 63) = ns.map V.int := by
  unfold cutV
  rw [HT.sIx_none, show HT.sIx (ns.map V.int).length (ns.map V.int).length (some 63) = min 63 (ns.map V.int).length from HT.sIx_nat _ _ 63, List.drop_zero, Nat.sub_zero]
  refine List.take_of_length_le ?_
  rw [List.length_map]
  omega
def spOpen (K : PySem.W.Frag) : Sp := fun vs H Q _ => ∃ (a : Addr) (ns : List Int), vs = [.ref a] ∧ SqL K H a (ns.map V.int) ∧ ns.length ≤ 63 ∧ ∀ H' p c s, H' p = some (.lst [.ref c, .int 0, .int 0, .int s]) → H' c = some (.lst (ns.map V.int)) → Q (.ref p) H'
section
variable {P : Program} {w : World} {K : PySem.W.Frag} {mg : Str → Option Value} {base : Heap}
theorem rep_box {B : Hp} {ns : List Int} {s : Int} {v : V} (h : Rep K B (.lst (boxD ns 0 0 s)) v) : ∃ p c, v = .ref p ∧ B p = some (.lst [.ref c, .int 0, .int 0, .int s]) ∧ B c = some (.lst (ns.map V.int)) := by
  unfold boxD at h
  simp only [Rep, Reps] at h
  obtain ⟨p, xs, rfl, hp, x, xs1, rfl, ⟨c, ys, rfl, hc, hr⟩, y, xs2, rfl, rfl, z, xs3, rfl, rfl, u, xs4, rfl, rfl, rfl⟩ := h
  rw [hr.ints] at hc
  exact ⟨p, c, rfl, hp, hc⟩
theorem ok_open {f : Addr} {fd : FuncData} {k : Nat} (F : Fun K "_law_open" "_law_open" s_law_open f fd) (m_int : mg "int" = none) (m_len : mg "len" = none) : FnOk P w K mg base (L2.CX P w) (k + 1) f fd ["_law_script"] (spOpen K) := by
  refine F.okX sc_law_open (fun vs H Q E h => ?_) (fun cdv A outer s H vs Q E hr h => ?_)
  · obtain ⟨a, ns, rfl, _⟩ := h
    rfl
  · obtain ⟨a, ns, rfl, hS, hl, q⟩ := h
    refine ⟨_, pss_cons (ps_setLc (i := 1) (by rfl) sc_law_open.nd rfl rfl (sw_true rfl rfl rfl (by decide +kernel)) (pi_list (pe_slice sl_list (pv 0) po_none (po_some pe_int))) (blkOk_by (own := [("_law_cell", 3)]) (N := N_law_open) (sc := defScope s_law_open) (by decide +kernel))
      (fun _ _ _ _ _ => pg_name (i := 3) sc_law_open.nd rfl (.inl rfl)) (fun _ _ _ _ _ => pts_nil) (fun _ _ _ _ _ => pe_callTy call_int1 (by rfl) m_int PyProof.Rows.boot_int (pa_cons (pv 3) pa_nil))) (dv_law_open hr m_int m_len), ?_⟩
    refine ⟨.ref a, rfl, 63, rfl, a, ns.map V.int, rfl, hS, fun c nc => ?_⟩
    rw [cut63 hl]
    refine ⟨c, rfl, ⟨ns.map V.int, .inl (.inl upd_same)⟩, fun L hL => ?_⟩
    have ncL : c ≠ L := fun e => by
      rw [← e, upd_same] at hL
      cases hL
    refine lc_list (a := c) (xs := ns.map V.int) (fun i H' => H' L = some (.lst ((ns.take i).map V.int)) ∧ H' c = some (.lst (ns.map V.int))) ⟨upd_same, by rw [upd_ne ncL, upd_same]⟩ (fun i H' _ h => .inl (.inl h.2)) (fun i x H' hx h => ?_) (fun H' h => ?_)
    · rw [List.getElem?_map] at hx
      obtain ⟨m, hm, e⟩ := Option.map_eq_some_iff.mp hx
      subst e
      refine ⟨rfl, ?_⟩
      refine @iteT _ (H' L = some (.lst ((ns.take (i + 1)).map V.int)) ∧ H' c = some (.lst (ns.map V.int))) ?_
      refine ⟨_, rfl, .inl ⟨m, rfl, (ns.take i).map V.int, h.1, ?_, ?_, ?_⟩⟩
      · have hi := (List.getElem?_eq_some_iff.mp hm).1
        rw [List.length_map, List.length_take, sizeLine_eq]
        omega
      · rw [upd_same, List.take_add_one, hm, List.map_append]
        rfl
      · rw [upd_ne ncL]
        exact h.2
    · rw [List.length_map, List.take_length] at h
      obtain ⟨sv, ρ', e⟩ := h_open_run (a := some (.val (.adr a))) hl
      refine ⟨fun _ => 0, upd (fun _ => none) L (.lst (ns.map V.int)), [some (.val (.adr a)), some (.val (.lst (ns.map D.int))), none, none], ⟨fun b u hb => ?_, rfl, fun i sl hi => ?_, fun i j p h1 h2 => ?_⟩, ?_⟩
      · by_cases e2 : b = L
        · subst e2
          rw [upd_same] at hb
          rw [h.1]
          exact hb
        · rw [upd_ne e2] at hb
          cases hb
      · match i, hi with
        | 0, hi =>
          cases hi
          exact ⟨.ref a, rfl, by simp only [Rep]⟩
        | 1, hi =>
          cases hi
          refine ⟨.ref L, rfl, ?_⟩
          simp only [Rep]
          exact ⟨L, ns.map V.int, rfl, upd_same, Reps.of_ints ns⟩
        | 2, hi =>
          cases hi
          trivial
        | 3, hi =>
          cases hi
          trivial
        | i + 4, hi => simp at hi
      · obtain ⟨⟨t, o, e2⟩, _⟩ := h1
        match i, e2 with
        | 0, e2 => cases e2
        | 1, e2 => cases e2
        | 2, e2 => cases e2
        | 3, e2 => cases e2
        | i + 4, e2 => simp at e2
      · rw [e]
        intro v σ' B' H' st r
        obtain ⟨p, c', rfl, hp, hc⟩ := rep_box r
        exact q H' p c' sv (st.cf.bh _ _ hp) (st.cf.bh _ _ hc)
/-- where a law begins: the script's name, the box its own -/
theorem cf_box {H : Hp} {a p c : Addr} {ns : List Int} {s : Int} (hp : H p = some (.lst [.ref c, .int 0, .int 0, .int s])) (hc : H c = some (.lst (ns.map V.int))) (m : Nat) :
    Cf K (fun _ => 0) (upd (fun _ => none) c (.lst (ns.map V.int))) H (some (.ref a) :: some (.ref p) :: List.replicate m none) (some (.val (.adr a)) :: some (.own 0 (.lst (boxD ns 0 0 s))) :: List.replicate m none) := by
  have npc : p ≠ c := fun e => by
    rw [e, hc] at hp
    cases ns with
    | nil => simp at hp
    | cons n ns => simp at hp
  have own1 : ∀ i (t : Nat) (o : O), (some (Slot.val (.adr a)) :: some (.own 0 (.lst (boxD ns 0 0 s))) :: List.replicate m none)[i]? = some (some (.own t o)) → i = 1 := fun i t o e => by
    match i, e with
    | 0, e => simp at e
    | 1, _ => rfl
    | i + 2, e =>
      rw [List.getElem?_cons_succ, List.getElem?_cons_succ, List.getElem?_replicate] at e
      split at e <;> cases e
  refine ⟨fun b u hb => ?_, by simp, fun i sl hi => ?_, fun i j q ⟨⟨t, o, e⟩, _⟩ ⟨⟨t', o', e'⟩, _⟩ => by rw [own1 i t o e, own1 j t' o' e']⟩
  · by_cases e2 : b = c
    · subst e2
      rw [upd_same] at hb
      rw [hc]
      exact hb
    · rw [upd_ne e2] at hb
      cases hb
  · match i, hi with
    | 0, hi =>
      cases hi
      exact ⟨.ref a, rfl, by simp only [Rep]⟩
    | 1, hi =>
      cases hi
      refine ⟨p, _, rfl, by rw [upd_ne npc], hp, ⟨_, rfl, ?_⟩, fun z => absurd rfl z⟩
      unfold boxD
      refine Reps.cons ?_ (Reps.cons (by simp only [Rep]) (Reps.cons (by simp only [Rep]) (Reps.cons (by simp only [Rep]) Reps.nil)))
      simp only [Rep]
      exact ⟨c, ns.map V.int, rfl, upd_same, Reps.of_ints ns⟩
    | i + 2, hi =>
      rw [List.getElem?_cons_succ, List.getElem?_cons_succ, List.getElem?_replicate] at hi
      split at hi
      · cases hi
        trivial
      · cases hi
end
def spLaw (K : PySem.W.Frag) : Sp := fun vs H Q _ => ∃ (a : Addr) (ns : List Int), vs = [.ref a] ∧ SqL K H a (ns.map V.int) ∧ ns.length ≤ 63 ∧ ∀ H', Q (.bl true) H'
end Nc

/-! The relations of the program and of the law. -/
namespace Nc
open PySem PySem.Spec PyProof.Rows L2
abbrev dN (n : Nat) : D := .int (n : Int)
abbrev vN (n : Nat) : Option Slot := some (.val (dN n))
def dRel (rows : List Nat) : D := .tup (rows.map fun r => dN r)
def dPair (p : Nat × Nat) : D := .tup [dN p.1, dN p.2]
def dPairs (ps : List (Nat × Nat)) : D := .lst (ps.map dPair)
theorem lt_size {n : Nat} (h : n < 100000) : n < sizeLine := by
  rw [sizeLine_eq]
  omega
theorem identity_run {n : Nat} (hn : n < 1000) : F_identity [.val (dN n)] = .ok (dRel ((List.range n).map (2 ^ ·))) [.val (dN n)] := by
  have hl : lcM (rngI (var 0)) (bndN 1) (M.ret true) (b2 shlD (M.ret (.int 1)) (var 1)) [1] [vN n, none] = .ok (.lst ((List.range n).map fun k => dN (2 ^ k))) [vN n, none] := by
    refine lcM_mapS (f := fun k : Nat => dN k) (xs := List.range n) ?_ (fun k => dN (2 ^ k)) (fun k hk => ?_) ?_
    · simp [startR, then_r, if_r, tst_r, b2_r, b2N_r, k1_r, k2_r, varK, opd_r, frz_r, Opd.dat, O.frozen, ret_r, Rs.bnd_ok, optR_some, set_r, setN_r, item_r, retS_r, drop_r, cons_r, consA_r, lst_r, tup_r, var, checkL, ownL, putL, updL, setIx, backAll, backSlot, or_r, and_r, not_r, andV_r, orV_r, notV_r, asB, call_r, seqI_r, rngI_r, rngI2_r, asg_r, par_r, lm1_r, bndN, bndT, bndS, tupOf, wipeR, mixR, turn_r, turn2_r, rng1_nat (show n < 1000000 by omega)]
    · rw [List.mem_range] at hk
      simp [startR, then_r, if_r, tst_r, b2_r, b2N_r, k1_r, k2_r, varK, opd_r, frz_r, Opd.dat, O.frozen, ret_r, Rs.bnd_ok, optR_some, set_r, setN_r, item_r, retS_r, drop_r, cons_r, consA_r, lst_r, tup_r, var, checkL, ownL, putL, updL, setIx, backAll, backSlot, or_r, and_r, not_r, andV_r, orV_r, notV_r, asB, call_r, seqI_r, rngI_r, rngI2_r, asg_r, par_r, lm1_r, bndN, bndT, bndS, tupOf, wipeR, mixR, turn_r, turn2_r, shl1 k (by omega)]
    · rw [List.length_range]
      exact lt_size (by omega)
  have e : h_identity [vN n, none] = .ok (.rt (.tup ((List.range n).map fun k => dN (2 ^ k)))) [vN n, none] := by
    simp only [h_identity, startR, then_r, if_r, tst_r, b2_r, b2N_r, k1_r, k2_r, varK, opd_r, frz_r, Opd.dat, O.frozen, ret_r, Rs.bnd_ok, optR_some, set_r, setN_r, item_r, retS_r, drop_r, cons_r, consA_r, lst_r, tup_r, var, checkL, ownL, putL, updL, setIx, backAll, backSlot, or_r, and_r, not_r, andV_r, orV_r, notV_r, asB, call_r, seqI_r, rngI_r, rngI2_r, asg_r, par_r, lm1_r, bndN, bndT, bndS, tupOf, wipeR, mixR, turn_r, turn2_r, hl, tupleD]
  simp [F_identity, runB, startR, e, backAll, backSlot, dRel]
/-! bits_of -/
theorem bit_is (row k : Nat) : decide ((row >>> k % 2 : Nat) = 1) = row.testBit k := by
  rw [Nat.shiftRight_eq_div_pow, Nat.testBit_eq_decide_div_mod_eq]
theorem bits_run {row n : Nat} (hn : n < 1000) : F_bits_of [.val (dN row), .val (dN n)] = .ok (.lst (((List.range n).filter (row.testBit ·)).map dN)) [.val (dN row), .val (dN n)] := by
  have hl : lcM (rngI (var 1)) (bndN 2) (tst (k2 eqD (opdM (b2 andD (b2 shrD (var 0) (var 2)) (M.ret (.int 1)))) (opdM (M.ret (.int 1))))) (var 2) [2] [vN row, vN n, none] = .ok (.lst (((List.range n).filter (row.testBit ·)).map dN)) [vN row, vN n, none] := by
    refine lcM_mapF (f := fun k : Nat => dN k) (xs := List.range n) ?_ (row.testBit ·) dN (fun k hk => ?_) ?_
    · simp [startR, then_r, if_r, tst_r, b2_r, b2N_r, k1_r, k2_r, varK, opd_r, frz_r, Opd.dat, O.frozen, ret_r, Rs.bnd_ok, optR_some, set_r, setN_r, item_r, retS_r, drop_r, cons_r, consA_r, lst_r, tup_r, var, checkL, ownL, putL, updL, setIx, backAll, backSlot, or_r, and_r, not_r, andV_r, orV_r, notV_r, asB, call_r, seqI_r, rngI_r, rngI2_r, asg_r, par_r, lm1_r, bndN, bndT, bndS, tupOf, wipeR, mixR, turn_r, turn2_r, rng1_nat (show n < 1000000 by omega)]
    · have e : eqD (.int ((row >>> k % 2 : Nat) : Int)) (.int 1) = some (.bl (row.testBit k)) := by
        unfold eqD eqB eqS
        simp only [Option.map_some, ← bit_is]
        congr 2
        rw [decide_eq_decide]
        omega
      simp only [startR, then_r, if_r, tst_r, b2_r, b2N_r, k1_r, k2_r, varK, opd_r, frz_r, Opd.dat, O.frozen, ret_r, Rs.bnd_ok, optR_some, set_r, setN_r, item_r, retS_r, drop_r, cons_r, consA_r, lst_r, tup_r, var, checkL, ownL, putL, updL, setIx, backAll, backSlot, or_r, and_r, not_r, andV_r, orV_r, notV_r, asB, call_r, seqI_r, rngI_r, rngI2_r, asg_r, par_r, lm1_r, bndN, bndT, bndS, tupOf, wipeR, mixR, turn_r, turn2_r, shr_nat, and_nat1, e, List.getElem?_cons_zero, List.getElem?_cons_succ, List.set_cons_succ, List.set_cons_zero, Option.map_some, List.mapIdx_cons]
      cases row.testBit k <;> simp
    · rw [List.length_range]
      exact lt_size (by omega)
  have e : h_bits_of [vN row, vN n, none] = .ok (.rt (.lst (((List.range n).filter (row.testBit ·)).map dN))) [vN row, vN n, none] := by
    simp only [h_bits_of, startR, then_r, if_r, tst_r, b2_r, b2N_r, k1_r, k2_r, varK, opd_r, frz_r, Opd.dat, O.frozen, ret_r, Rs.bnd_ok, optR_some, set_r, setN_r, item_r, retS_r, drop_r, cons_r, consA_r, lst_r, tup_r, var, checkL, ownL, putL, updL, setIx, backAll, backSlot, or_r, and_r, not_r, andV_r, orV_r, notV_r, asB, call_r, seqI_r, rngI_r, rngI2_r, asg_r, par_r, lm1_r, bndN, bndT, bndS, tupOf, wipeR, mixR, turn_r, turn2_r, hl]
  simp [F_bits_of, runB, startR, e, backAll, backSlot]
/-! pairs_of -/
def rowAt (rows : List Nat) (i : Nat) : Nat := (rows[i]?).getD 0
def pairsOf (rows : List Nat) : List (Nat × Nat) := (List.range rows.length).flatMap fun i => ((List.range rows.length).filter ((rowAt rows i).testBit ·)).map fun j => (i, j)
theorem atI_nat' {α : Type} {xs : List α} {k : Nat} : atI xs (k : Int) = xs[k]? := by
  by_cases h : k < xs.length
  · exact (atI_nat (List.getElem?_eq_getElem h)).trans (List.getElem?_eq_getElem h).symm
  · unfold atI ixN
    rw [if_pos (by omega), if_neg (by omega), List.getElem?_eq_none (by omega)]
    rfl
theorem len_pairs (rows : List Nat) (h : rows.length < 100) : (pairsOf rows).length ≤ 10000 := by
  have key : ∀ (xs : List Nat), ((xs.flatMap fun i => ((List.range rows.length).filter ((rowAt rows i).testBit ·)).map fun j => (i, j)).length) ≤ xs.length * 100 := by
    intro xs
    induction xs with
    | nil => simp
    | cons x xs ih =>
      rw [List.flatMap_cons, List.length_append, List.length_map, List.length_cons]
      have := List.length_filter_le ((rowAt rows x).testBit ·) (List.range rows.length)
      rw [List.length_range] at this
      omega
  have := key (List.range rows.length)
  rw [List.length_range] at this
  unfold pairsOf
  omega
theorem pairs_run {rows : List Nat} (hn : rows.length < 100) : F_pairs_of F_bits_of [.val (dRel rows)] = .ok (dPairs (pairsOf rows)) [.val (dRel rows)] := by
  have hl : lc2M (rngI (var 1)) (bndN 2) (M.ret true) (seqI (callM F_bits_of (consA (opdM (k2 ixD (varK 0) (varK 2))) (consA (varK 1) (M.ret []))))) (bndN 3) (M.ret true) (tupM (consM (var 2) (consM (var 3) (M.ret [])))) [2, 3] [3] [some (.val (dRel rows)), vN rows.length, none, none]
      = .ok (.lst ((pairsOf rows).map dPair)) [some (.val (dRel rows)), vN rows.length, none, none] := by
    unfold pairsOf
    rw [List.map_flatMap]
    refine lc2M_map (f := fun k : Nat => dN k) (xs := List.range rows.length) ?_ _ 1000 (fun i hi acc hacc => ?_) ?_
    · simp [startR, then_r, if_r, tst_r, b2_r, b2N_r, k1_r, k2_r, varK, opd_r, frz_r, Opd.dat, O.frozen, ret_r, Rs.bnd_ok, optR_some, set_r, setN_r, item_r, retS_r, drop_r, cons_r, consA_r, lst_r, tup_r, var, checkL, ownL, putL, updL, setIx, backAll, backSlot, or_r, and_r, not_r, andV_r, orV_r, notV_r, asB, call_r, seqI_r, rngI_r, rngI2_r, asg_r, par_r, lm1_r, bndN, bndT, bndS, tupOf, wipeR, mixR, turn_r, turn2_r, rng1_nat (show rows.length < 1000000 by omega)]
    · rw [List.mem_range] at hi
      have e1 : ixD (dRel rows) (dN i) = some (dN (rowAt rows i)) := by
        unfold ixD dRel rowAt
        simp only [atI_nat', List.getElem?_map, List.getElem?_eq_getElem hi, Option.map_some, Option.getD_some]
      have e2 : lcLoop (bndN 3) (M.ret true) (tupM (consM (var 2) (consM (var 3) (M.ret [])))) [3] ((((List.range rows.length).filter ((rowAt rows i).testBit ·))).map dN) acc [some (.val (dRel rows)), vN rows.length, vN i, none]
          = .ok (acc ++ ((((List.range rows.length).filter ((rowAt rows i).testBit ·))).map fun j => dPair (i, j))) [some (.val (dRel rows)), vN rows.length, vN i, none] := by
        have hfl := List.length_filter_le ((rowAt rows i).testBit ·) (List.range rows.length)
        rw [List.length_range] at hfl
        rw [lcLoop_map (f := dN) (fun j => some (dPair (i, j))) _ acc (fun j hj => ?_) (by omega), List.filterMap_eq_map']
        simp [startR, then_r, if_r, tst_r, b2_r, b2N_r, k1_r, k2_r, varK, opd_r, frz_r, Opd.dat, O.frozen, ret_r, Rs.bnd_ok, optR_some, set_r, setN_r, item_r, retS_r, drop_r, cons_r, consA_r, lst_r, tup_r, var, checkL, ownL, putL, updL, setIx, backAll, backSlot, or_r, and_r, not_r, andV_r, orV_r, notV_r, asB, call_r, seqI_r, rngI_r, rngI2_r, asg_r, par_r, lm1_r, bndN, bndT, bndS, tupOf, wipeR, mixR, turn_r, turn2_r, sizedT, sizeLine_eq, dPair]
      have eo : (consA (opdM (k2 ixD (varK 0) (varK 2))) (consA (varK 1) (M.ret []))) [some (.val (dRel rows)), vN rows.length, vN i, none] = .ok [.d (dN (rowAt rows i)), .s 1] [some (.val (dRel rows)), vN rows.length, vN i, none] := by
        simp only [startR, then_r, if_r, tst_r, b2_r, b2N_r, k1_r, k2_r, varK, opd_r, frz_r, Opd.dat, O.frozen, ret_r, Rs.bnd_ok, optR_some, set_r, setN_r, item_r, retS_r, drop_r, cons_r, consA_r, lst_r, tup_r, var, checkL, ownL, putL, updL, setIx, backAll, backSlot, or_r, and_r, not_r, andV_r, orV_r, notV_r, asB, call_r, seqI_r, rngI_r, rngI2_r, asg_r, par_r, lm1_r, bndN, bndT, bndS, tupOf, wipeR, mixR, turn_r, turn2_r, List.getElem?_cons_zero, List.getElem?_cons_succ, e1]
      have ec := callM_ok (F := F_bits_of) eo (by simp [slotIx]) rfl (bits_run (row := rowAt rows i) (n := rows.length) (by omega)) (ρ' := [some (.val (dRel rows)), vN rows.length, vN i, none]) rfl
      simp only [turn2_r, bndN, wipeR, List.set_cons_succ, List.set_cons_zero, ret_r, Rs.bnd_ok, if_true, seqI_r, ec, itemsD, optR_some, e2]
      simp [mixR]
    · have := len_pairs rows hn
      unfold pairsOf at this
      rw [← List.map_flatMap, List.length_map, sizeLine_eq]
      omega
  have e0 : lenD (dRel rows) = some (dN rows.length) := by
    simp only [dRel, lenD, List.length_map]
  have e : h_pairs_of F_bits_of [some (.val (dRel rows)), none, none, none] = .ok (.rt (dPairs (pairsOf rows))) [some (.val (dRel rows)), vN rows.length, none, none] := by
    simp only [h_pairs_of, startR, then_r, if_r, tst_r, b2_r, b2N_r, k1_r, k2_r, varK, opd_r, frz_r, Opd.dat, O.frozen, ret_r, Rs.bnd_ok, optR_some, set_r, setN_r, item_r, retS_r, drop_r, cons_r, consA_r, lst_r, tup_r, var, checkL, ownL, putL, updL, setIx, backAll, backSlot, or_r, and_r, not_r, andV_r, orV_r, notV_r, asB, call_r, seqI_r, rngI_r, rngI2_r, asg_r, par_r, lm1_r, bndN, bndT, bndS, tupOf, wipeR, mixR, turn_r, turn2_r, e0, List.getElem?_cons_zero, List.set_cons_succ, List.set_cons_zero, hl]
    rfl
  simp [F_pairs_of, runB, startR, e, backAll, backSlot]
end Nc

/-! relation_of; turned; the law's own relation. -/
namespace Nc
open PySem PySem.Spec PyProof.Rows L2
abbrev toI (n : Nat) : Int := (n : Int)
def sN (ns : List Nat) : List Nat := (sortU (ns.map toI)).map Int.toNat
theorem sN_cast (ns : List Nat) : (sN ns).map toI = sortU (ns.map toI) := by
  unfold sN
  rw [List.map_map]
  have : ∀ x ∈ sortU (ns.map toI), (toI ∘ Int.toNat) x = x := fun x hx => by
    obtain ⟨n, _, e⟩ := List.mem_map.mp (mem_sortU.mp hx)
    subst e
    rfl
  rw [List.map_congr_left this, List.map_id']
theorem sN_mem {ns : List Nat} {k : Nat} : k ∈ sN ns ↔ k ∈ ns := by
  unfold sN
  rw [List.mem_map]
  constructor
  · rintro ⟨x, hx, e⟩
    obtain ⟨n, hn, e2⟩ := List.mem_map.mp (mem_sortU.mp hx)
    subst e2
    rw [← e]
    exact hn
  · intro hk
    exact ⟨toI k, mem_sortU.mpr (List.mem_map_of_mem hk), rfl⟩
theorem sN_sorted (ns : List Nat) : (sN ns).Pairwise (· < ·) := by
  have h := sortU_sorted (ns.map toI)
  rw [← sN_cast, List.pairwise_map] at h
  exact h.imp fun {a b} q => by
    have q : (a : Int) < (b : Int) := q
    omega
def rowL (ps : List (Nat × Nat)) (i : Nat) : List Nat := (ps.filter fun p => decide (p.1 = i)).map (·.2)
def rowS (ps : List (Nat × Nat)) (i : Nat) : Nat := sumP (sN (rowL ps i))
def relS (n : Nat) (ps : List (Nat × Nat)) : List Nat := (List.range n).map (rowS ps)
theorem rowS_bit (ps : List (Nat × Nat)) (i j : Nat) : (rowS ps i).testBit j = decide ((i, j) ∈ ps) := by
  unfold rowS
  rw [sumP_bit (sN_sorted _), decide_eq_decide, sN_mem]
  unfold rowL
  rw [List.mem_map]
  constructor
  · rintro ⟨p, hp, e⟩
    obtain ⟨h1, h2⟩ := List.mem_filter.mp hp
    have h2 := of_decide_eq_true h2
    subst e h2
    exact h1
  · intro h
    exact ⟨(i, j), List.mem_filter.mpr ⟨h, decide_eq_true rfl⟩, rfl⟩
theorem eqD_nat (a b : Nat) : eqD (.int a) (.int b) = some (.bl (decide (a = b))) := by
  unfold eqD eqB eqS
  simp only [Option.map_some]
  congr 2
  rw [decide_eq_decide]
  omega
theorem sum_nat (ks : List Nat) : (ks.map toI).sum = toI ks.sum := by
  induction ks with
  | nil => rfl
  | cons k ks ih =>
    rw [List.map_cons, List.sum_cons, List.sum_cons, ih]
    exact (Int.natCast_add k ks.sum).symm
theorem sumD_pows (ks : List Nat) : sumD (.lst (ks.map fun k => dN (2 ^ k))) = some (dN (sumP ks)) := by
  unfold sumP
  have e : (ks.map fun k => dN (2 ^ k)) = ((ks.map (2 ^ ·)).map toI).map D.int := by
    rw [List.map_map, List.map_map]
    rfl
  rw [e]
  simp only [sumD, ints_of_map, Option.map_some, sum_nat]
section
variable {n : Nat} {ps : List (Nat × Nat)} {P : D} (hn : n < 1000) (hP : itemsD P = some (ps.map dPair)) (hl : ps.length < 100000) (hf : ∀ i, (rowL ps i).length < 63) (hb : ∀ p ∈ ps, p.2 < 1000)
include hP hl hf
theorem rel_set {acc : List D} {i : Nat} {x4 : Option Slot} : ssM (seqI (var 1)) (bndT [5, 6]) (tst (k2 eqD (varK 5) (varK 3))) (var 6) [5, 6] [vN n, some (.val P), some (.own 0 (.lst acc)), vN i, x4, none, none] = .ok (.lst ((sN (rowL ps i)).map dN)) [vN n, some (.val P), some (.own 0 (.lst acc)), vN i, x4, none, none] := by
  have e := ssM_map (src := seqI (var 1)) (bnd := bndT [5, 6]) (tt := tst (k2 eqD (varK 5) (varK 3))) (el := var 6) (vs := [5, 6]) (f := dPair) (xs := ps) (ρ := [vN n, some (.val P), some (.own 0 (.lst acc)), vN i, x4, none, none]) (ρ1 := [vN n, some (.val P), some (.own 0 (.lst acc)), vN i, x4, none, none])
    (by simp only [startR, then_r, if_r, tst_r, b2_r, b2N_r, k1_r, k2_r, varK, opd_r, frz_r, Opd.dat, O.frozen, ret_r, Rs.bnd_ok, optR_some, set_r, setN_r, item_r, retS_r, drop_r, cons_r, consA_r, lst_r, tup_r, var, checkL, ownL, putL, updL, setIx, backAll, backSlot, or_r, and_r, not_r, andV_r, orV_r, notV_r, asB, call_r, seqI_r, rngI_r, rngI2_r, asg_r, par_r, lm1_r, bndN, bndT, bndS, tupOf, wipeR, mixR, turn_r, turn2_r, List.getElem?_cons_zero, List.getElem?_cons_succ, hP]) (fun p => decide (p.1 = i)) (fun p => toI p.2) (fun p hp => ?_) (lt_size hl) (by have := hf i; unfold rowL at this; rw [List.length_map] at this ⊢; exact this)
  · rw [e]
    congr 2
    have : (ps.filter fun p => decide (p.1 = i)).map (fun p => toI p.2) = (rowL ps i).map toI := by
      unfold rowL
      rw [List.map_map]
      rfl
    rw [this, ← sN_cast, List.map_map]
    rfl
  · unfold dPair
    simp only [startR, then_r, if_r, tst_r, b2_r, b2N_r, k1_r, k2_r, varK, opd_r, frz_r, Opd.dat, O.frozen, ret_r, Rs.bnd_ok, optR_some, set_r, setN_r, item_r, retS_r, drop_r, cons_r, consA_r, lst_r, tup_r, var, checkL, ownL, putL, updL, setIx, backAll, backSlot, or_r, and_r, not_r, andV_r, orV_r, notV_r, asB, call_r, seqI_r, rngI_r, rngI2_r, asg_r, par_r, lm1_r, bndN, bndT, bndS, tupOf, wipeR, mixR, turn_r, turn2_r, List.getElem?_cons_zero, List.getElem?_cons_succ, List.set_cons_succ, List.set_cons_zero, eqD_nat]
    by_cases h : p.1 = i <;> simp [h]
include hb
theorem rel_sum {acc : List D} {i : Nat} : lcM (seqI (var 4)) (bndN 6) (M.ret true) (b2 shlD (M.ret (.int 1)) (var 6)) [6] [vN n, some (.val P), some (.own 0 (.lst acc)), vN i, some (.val (.lst ((sN (rowL ps i)).map dN))), none, none]
    = .ok (.lst ((sN (rowL ps i)).map fun k => dN (2 ^ k))) [vN n, some (.val P), some (.own 0 (.lst acc)), vN i, some (.val (.lst ((sN (rowL ps i)).map dN))), none, none] := by
  refine lcM_mapS (f := dN) (xs := sN (rowL ps i)) ?_ (fun k => dN (2 ^ k)) (fun k hk => ?_) ?_
  · simp only [startR, then_r, if_r, tst_r, b2_r, b2N_r, k1_r, k2_r, varK, opd_r, frz_r, Opd.dat, O.frozen, ret_r, Rs.bnd_ok, optR_some, set_r, setN_r, item_r, retS_r, drop_r, cons_r, consA_r, lst_r, tup_r, var, checkL, ownL, putL, updL, setIx, backAll, backSlot, or_r, and_r, not_r, andV_r, orV_r, notV_r, asB, call_r, seqI_r, rngI_r, rngI2_r, asg_r, par_r, lm1_r, bndN, bndT, bndS, tupOf, wipeR, mixR, turn_r, turn2_r, itemsD, List.getElem?_cons_zero, List.getElem?_cons_succ]
  · obtain ⟨p, hp, e⟩ := List.mem_map.mp (sN_mem.mp hk)
    have := hb p (List.mem_filter.mp hp).1
    have hk : k < 1000000 := by
      rw [← e]
      omega
    simp [startR, then_r, if_r, tst_r, b2_r, b2N_r, k1_r, k2_r, varK, opd_r, frz_r, Opd.dat, O.frozen, ret_r, Rs.bnd_ok, optR_some, set_r, setN_r, item_r, retS_r, drop_r, cons_r, consA_r, lst_r, tup_r, var, checkL, ownL, putL, updL, setIx, backAll, backSlot, or_r, and_r, not_r, andV_r, orV_r, notV_r, asB, call_r, seqI_r, rngI_r, rngI2_r, asg_r, par_r, lm1_r, bndN, bndT, bndS, tupOf, wipeR, mixR, turn_r, turn2_r, shl1 k hk]
  · unfold sN
    have h1 := sortU_len ((rowL ps i).map toI)
    have h2 : (rowL ps i).length ≤ ps.length := by
      unfold rowL
      rw [List.length_map]
      exact List.length_filter_le _ _
    rw [List.length_map] at h1 ⊢
    exact lt_size (by omega)
theorem h_rel_run (hn : n < 1000) : ∃ ρ, h_relation_of [vN n, some (.val P), none, none, none, none, none] = .ok (.rt (dRel (relS n ps))) (vN n :: some (.val P) :: ρ) := by
  have e1 : setN 2 (lstM (M.ret [])) [vN n, some (.val P), none, none, none, none, none] = .ok .nx [vN n, some (.val P), some (.own 0 (.lst [])), none, none, none, none] := by
    simp [startR, then_r, if_r, tst_r, b2_r, b2N_r, k1_r, k2_r, varK, opd_r, frz_r, Opd.dat, O.frozen, ret_r, Rs.bnd_ok, optR_some, set_r, setN_r, item_r, retS_r, drop_r, cons_r, consA_r, lst_r, tup_r, var, checkL, ownL, putL, updL, setIx, backAll, backSlot, or_r, and_r, not_r, andV_r, orV_r, notV_r, asB, call_r, seqI_r, rngI_r, rngI2_r, asg_r, par_r, lm1_r, bndN, bndT, bndS, tupOf, wipeR, mixR, turn_r, turn2_r, sizedL]
  obtain ⟨ρ, e2, x3, x4, rfl⟩ := forS_run (src := rngI (var 0)) (bnd := bndN 3) (body := thenS (setS 4 (frzM (ssM (seqI (var 1)) (bndT [5, 6]) (tst (k2 eqD (varK 5) (varK 3))) (var 6) [5, 6]))) (dropS (lm1 appOp 2 (k1 sumD (opdM (frzM (lcM (seqI (var 4)) (bndN 6) (M.ret true) (b2 shlD (M.ret (.int 1)) (var 6)) [6])))))))
    (ds := (List.range n).map fun k => D.int (k : Nat)) (ρ := [vN n, some (.val P), some (.own 0 (.lst [])), none, none, none, none]) (ρ0 := [vN n, some (.val P), some (.own 0 (.lst [])), none, none, none, none]) (by
      simp only [startR, then_r, if_r, tst_r, b2_r, b2N_r, k1_r, k2_r, varK, opd_r, frz_r, Opd.dat, O.frozen, ret_r, Rs.bnd_ok, optR_some, set_r, setN_r, item_r, retS_r, drop_r, cons_r, consA_r, lst_r, tup_r, var, checkL, ownL, putL, updL, setIx, backAll, backSlot, or_r, and_r, not_r, andV_r, orV_r, notV_r, asB, call_r, seqI_r, rngI_r, rngI2_r, asg_r, par_r, lm1_r, bndN, bndT, bndS, tupOf, wipeR, mixR, turn_r, turn2_r, List.getElem?_cons_zero, rng1_nat (show n < 1000000 by omega)])
    (fun i ρ => ∃ x3 x4, ρ = [vN n, some (.val P), some (.own 0 (.lst ((List.range i).map fun r => dN (rowS ps r)))), x3, x4, none, none]) ⟨none, none, rfl⟩ (fun i d ρ hd ⟨x3, x4, hρ⟩ => by
      subst hρ
      rw [List.getElem?_map] at hd
      obtain ⟨i', hi', e⟩ := Option.map_eq_some_iff.mp hd
      have hil : i < n := by
        have := (List.getElem?_eq_some_iff.mp hi').1
        rwa [List.length_range] at this
      rw [List.getElem?_range hil] at hi'
      cases hi'
      subst e
      refine ⟨[vN n, some (.val P), some (.own 0 (.lst ((List.range i).map fun r => dN (rowS ps r)))), vN i, x4, none, none], [vN n, some (.val P), some (.own 0 (.lst ((List.range (i + 1)).map fun r => dN (rowS ps r)))), vN i, some (.val (.lst ((sN (rowL ps i)).map dN))), none, none], rfl, .inl ?_, _, _, rfl⟩
      have ha : ((List.range i).map fun r => dN (rowS ps r)).length < sizeLine := by
        rw [List.length_map, List.length_range]
        exact lt_size (by omega)
      simp only [then_r, set_r, frz_r, rel_set hP hl hf, Rs.bnd_ok, O.frozen, List.set_cons_succ, List.set_cons_zero, drop_r, lm1_r, checkL, ownL, List.getElem?_cons_zero, List.getElem?_cons_succ, k1_r, opd_r, rel_sum hP hl hf hb, Opd.dat, optR_some, sumD_pows, updL, appOp, if_pos ha]
      rw [List.range_succ, List.map_append]
      rfl)
  rw [List.length_map, List.length_range] at e2
  refine ⟨[some (.own 0 (.lst ((List.range n).map fun r => dN (rowS ps r)))), x3, x4, none, none], ?_⟩
  unfold h_relation_of
  rw [thenS_ok e1, thenS_ok e2]
  simp only [startR, then_r, if_r, tst_r, b2_r, b2N_r, k1_r, k2_r, varK, opd_r, frz_r, Opd.dat, O.frozen, ret_r, Rs.bnd_ok, optR_some, set_r, setN_r, item_r, retS_r, drop_r, cons_r, consA_r, lst_r, tup_r, var, checkL, ownL, putL, updL, setIx, backAll, backSlot, or_r, and_r, not_r, andV_r, orV_r, notV_r, asB, call_r, seqI_r, rngI_r, rngI2_r, asg_r, par_r, lm1_r, bndN, bndT, bndS, tupOf, wipeR, mixR, turn_r, turn2_r, List.getElem?_cons_zero, List.getElem?_cons_succ, tupleD]
  unfold relS dRel
  rw [List.map_map]
  rfl
theorem rel_run (hn : n < 1000) : F_relation_of [.val (dN n), .val P] = .ok (dRel (relS n ps)) [.val (dN n), .val P] := by
  obtain ⟨ρ, e⟩ := h_rel_run hP hl hf hb hn
  simp [F_relation_of, runB, startR, e, backAll, backSlot]
end
end Nc

/-! turned; the law's own relation; drawn pairs; _law_like. -/
namespace Nc
open PySem PySem.Spec PyProof.Rows L2
/-! membership -/
theorem rowAt_rel {n : Nat} {g : Nat → Nat} {i : Nat} (h : i < n) : rowAt ((List.range n).map g) i = g i := by
  unfold rowAt
  rw [List.getElem?_map, List.getElem?_range h]
  rfl
theorem mem_pairsOf {rows : List Nat} {i j : Nat} : (i, j) ∈ pairsOf rows ↔ i < rows.length ∧ j < rows.length ∧ (rowAt rows i).testBit j = true := by
  unfold pairsOf
  rw [List.mem_flatMap]
  constructor
  · rintro ⟨a, ha, h⟩
    obtain ⟨b, hb, e⟩ := List.mem_map.mp h
    cases e
    obtain ⟨h1, h2⟩ := List.mem_filter.mp hb
    exact ⟨List.mem_range.mp ha, List.mem_range.mp h1, h2⟩
  · rintro ⟨h1, h2, h3⟩
    exact ⟨i, List.mem_range.mpr h1, List.mem_map.mpr ⟨j, List.mem_filter.mpr ⟨List.mem_range.mpr h2, h3⟩, rfl⟩⟩
def swp (p : Nat × Nat) : Nat × Nat := (p.2, p.1)
theorem one_of {xs : List Nat} (h : xs.Pairwise (· < ·)) (q : Nat → Bool) (i : Nat) : (xs.filter fun j => q j && decide (j = i)).length ≤ 1 := by
  induction xs with
  | nil => simp
  | cons x xs ih =>
    rw [List.pairwise_cons] at h
    rw [List.filter_cons]
    split
    · rename_i hx
      rw [Bool.and_eq_true, decide_eq_true_eq] at hx
      have : xs.filter (fun j => q j && decide (j = i)) = [] := by
        rw [List.filter_eq_nil_iff]
        intro j hj
        have := h.1 j hj
        rw [Bool.and_eq_true, decide_eq_true_eq]
        omega
      rw [this]
      simp
    · exact ih h.2
theorem rowL_swap (rows : List Nat) (i : Nat) : (rowL ((pairsOf rows).map swp) i).length ≤ rows.length := by
  have key : ∀ xs : List Nat, (rowL ((xs.flatMap fun a => ((List.range rows.length).filter ((rowAt rows a).testBit ·)).map fun j => (a, j)).map swp) i).length ≤ xs.length := by
    intro xs
    induction xs with
    | nil => simp [rowL]
    | cons x xs ih =>
      rw [List.flatMap_cons, List.map_append]
      unfold rowL at ih ⊢
      rw [List.filter_append, List.map_append, List.length_append, List.length_cons]
      have h1 : (((((List.range rows.length).filter ((rowAt rows x).testBit ·)).map fun j => (x, j)).map swp).filter fun p => decide (p.1 = i)).length ≤ 1 := by
        rw [List.map_map, List.filter_map, List.length_map, List.filter_filter]
        have := one_of (List.pairwise_lt_range (n := rows.length)) (fun j => (rowAt rows x).testBit j) i
        refine Nat.le_trans (Nat.le_of_eq ?_) this
        congr 2
        funext j
        show (decide (j = i) && (rowAt rows x).testBit j) = _
        rw [Bool.and_comm]
      rw [List.length_map]
      omega
  have := key (List.range rows.length)
  rw [List.length_range] at this
  exact this
theorem turned_run {rows : List Nat} (hn : rows.length < 63) : F_turned F_relation_of (F_pairs_of F_bits_of) [.val (dRel rows)] = .ok (dRel (relS rows.length ((pairsOf rows).map swp))) [.val (dRel rows)] := by
  have ep := pairs_run (rows := rows) (by omega)
  have hlp := len_pairs rows (by omega)
  have eo : (consA (varK 0) (M.ret [])) [some (.val (dRel rows)), none, none] = .ok [.s 0] [some (.val (dRel rows)), none, none] := by
    simp only [startR, then_r, if_r, tst_r, b2_r, b2N_r, k1_r, k2_r, varK, opd_r, frz_r, Opd.dat, O.frozen, ret_r, Rs.bnd_ok, optR_some, set_r, setN_r, item_r, retS_r, drop_r, cons_r, consA_r, lst_r, tup_r, var, checkL, ownL, putL, updL, setIx, backAll, backSlot, or_r, and_r, not_r, andV_r, orV_r, notV_r, asB, call_r, seqI_r, rngI_r, rngI2_r, asg_r, par_r, lm1_r, bndN, bndT, bndS, tupOf, wipeR, mixR, turn_r, turn2_r, List.getElem?_cons_zero, List.getElem?_cons_succ]
  have ec := callM_ok (F := F_pairs_of F_bits_of) eo (by simp [slotIx]) rfl ep (ρ' := [some (.val (dRel rows)), none, none]) rfl
  have hl : lcM (seqI (callM (F_pairs_of F_bits_of) (consA (varK 0) (M.ret [])))) (bndT [1, 2]) (M.ret true) (tupM (consM (var 2) (consM (var 1) (M.ret [])))) [1, 2] [some (.val (dRel rows)), none, none] = .ok (.lst ((pairsOf rows).map fun p => dPair (swp p))) [some (.val (dRel rows)), none, none] := by
    refine lcM_mapS (f := dPair) (xs := pairsOf rows) ?_ _ (fun p hp => ?_) (lt_size (by omega))
    · rw [seqI_r, ec, Rs.bnd_ok]
      rfl
    · unfold dPair swp
      simp [startR, then_r, if_r, tst_r, b2_r, b2N_r, k1_r, k2_r, varK, opd_r, frz_r, Opd.dat, O.frozen, ret_r, Rs.bnd_ok, optR_some, set_r, setN_r, item_r, retS_r, drop_r, cons_r, consA_r, lst_r, tup_r, var, checkL, ownL, putL, updL, setIx, backAll, backSlot, or_r, and_r, not_r, andV_r, orV_r, notV_r, asB, call_r, seqI_r, rngI_r, rngI2_r, asg_r, par_r, lm1_r, bndN, bndT, bndS, tupOf, wipeR, mixR, turn_r, turn2_r, sizedT, sizeLine_eq]
  have e0 : lenD (dRel rows) = some (dN rows.length) := by
    simp only [dRel, lenD, List.length_map]
  have eo2 : (consA (opdM (k1 lenD (varK 0))) (consA (opdM (frzM (lcM (seqI (callM (F_pairs_of F_bits_of) (consA (varK 0) (M.ret [])))) (bndT [1, 2]) (M.ret true) (tupM (consM (var 2) (consM (var 1) (M.ret [])))) [1, 2]))) (M.ret []))) [some (.val (dRel rows)), none, none]
      = .ok [.d (dN rows.length), .d (.lst ((pairsOf rows).map fun p => dPair (swp p)))] [some (.val (dRel rows)), none, none] := by
    simp only [consA_r, opd_r, k1_r, varK, List.getElem?_cons_zero, Rs.bnd_ok, Opd.dat, e0, optR_some, frz_r, hl, O.frozen, ret_r]
  have er := rel_run (n := rows.length) (ps := (pairsOf rows).map swp) (P := .lst ((pairsOf rows).map fun p => dPair (swp p))) (by
      unfold itemsD
      rw [List.map_map]
      rfl) (by rw [List.length_map]; omega) (fun i => Nat.lt_of_le_of_lt (rowL_swap rows i) hn) (fun p hp => by
      obtain ⟨q, hq, e⟩ := List.mem_map.mp hp
      subst e
      obtain ⟨a, b⟩ := q
      have := (mem_pairsOf.mp hq).1
      show a < 1000
      omega) (by omega)
  have ec2 := callM_ok (F := F_relation_of) eo2 (by simp [slotIx]) rfl er (ρ' := [some (.val (dRel rows)), none, none]) rfl
  have e : h_turned F_relation_of (F_pairs_of F_bits_of) [some (.val (dRel rows)), none, none] = .ok (.rt (dRel (relS rows.length ((pairsOf rows).map swp)))) [some (.val (dRel rows)), none, none] := by
    unfold h_turned
    rw [retS_r, ec2, Rs.bnd_ok]
  simp [F_turned, runB, startR, e, backAll, backSlot]
/-! the law's own relation -/
def rowO (ps : List (Nat × Nat)) (i : Nat) : Nat := orP (rowL ps i) 0
def relO (n : Nat) (ps : List (Nat × Nat)) : List Nat := (List.range n).map (rowO ps)
theorem rowO_bit (ps : List (Nat × Nat)) (i j : Nat) : (rowO ps i).testBit j = decide ((i, j) ∈ ps) := by
  unfold rowO
  rw [orP_bit, Nat.zero_testBit, Bool.false_or, decide_eq_decide]
  unfold rowL
  rw [List.mem_map]
  constructor
  · rintro ⟨p, hp, e⟩
    obtain ⟨h1, h2⟩ := List.mem_filter.mp hp
    have h2 := of_decide_eq_true h2
    subst e h2
    exact h1
  · intro h
    exact ⟨(i, j), List.mem_filter.mpr ⟨h, decide_eq_true rfl⟩, rfl⟩
theorem rel_OS {n : Nat} {ps qs : List (Nat × Nat)} (h : ∀ i j, i < n → ((i, j) ∈ ps ↔ (i, j) ∈ qs)) : relO n ps = relS n qs := by
  unfold relO relS
  refine List.map_congr_left fun i hi => Nat.eq_of_testBit_eq fun j => ?_
  rw [rowO_bit, rowS_bit, decide_eq_decide]
  exact h i j (List.mem_range.mp hi)
theorem rel_SS {n : Nat} {ps qs : List (Nat × Nat)} (h : ∀ i j, i < n → ((i, j) ∈ ps ↔ (i, j) ∈ qs)) : relS n ps = relS n qs := by
  unfold relS
  refine List.map_congr_left fun i hi => Nat.eq_of_testBit_eq fun j => ?_
  rw [rowS_bit, rowS_bit, decide_eq_decide]
  exact h i j (List.mem_range.mp hi)
theorem rowO_snoc (ps : List (Nat × Nat)) (p : Nat × Nat) (i : Nat) : rowO (ps ++ [p]) i = if p.1 = i then rowO ps i ||| 2 ^ p.2 else rowO ps i := by
  unfold rowO rowL
  rw [List.filter_append, List.map_append]
  unfold orP
  rw [List.foldl_append]
  by_cases h : p.1 = i <;> simp [h]
theorem set_range {n k : Nat} {g g' : Nat → D} (h : ∀ r, r ≠ k → g' r = g r) : ((List.range n).map g).set k (g' k) = (List.range n).map g' := by
  apply List.ext_getElem?
  intro i
  by_cases hi : i = k
  · subst hi
    by_cases hn : i < n
    · rw [List.getElem?_set_self (by simpa using hn), List.getElem?_map, List.getElem?_range hn]
      rfl
    · rw [List.getElem?_eq_none (by simp; omega), List.getElem?_eq_none (by simp; omega)]
  · rw [List.getElem?_set_ne (Ne.symm hi), List.getElem?_map, List.getElem?_map]
    by_cases hn : i < n
    · rw [List.getElem?_range hn]
      show some (g i) = some (g' i)
      rw [h i hi]
    · rw [List.getElem?_eq_none (by simp; omega)]
      rfl
theorem lrel_run {n : Nat} {ps : List (Nat × Nat)} {P : D} (hn : n < 1000) (hP : itemsD P = some (ps.map dPair)) (hb : ∀ p ∈ ps, p.1 < n ∧ p.2 < 1000) : F_law_rel_of [.val (dN n), .val P] = .ok (dRel (relO n ps)) [.val (dN n), .val P] := by
  have e0 : repO (.lst [.int 0]) (dN n) = some (.lst ((List.range n).map fun r => dN (rowO [] r))) := by
    have c : (decide (-(2 ^ 63) ≤ (n : Int)) && decide ((n : Int) < 2 ^ 63) && decide ([D.int 0].length * (n : Int).toNat ≤ sizeLine)) = true := by
      rw [sizeLine_eq]
      simp
      omega
    have er : (List.replicate (n : Int).toNat [D.int 0]).flatten = (List.range n).map fun r => dN (rowO [] r) := by
      rw [Int.toNat_natCast]
      apply List.ext_getElem?
      intro i
      rw [List.flatten_replicate_singleton, List.getElem?_map, List.getElem?_replicate]
      by_cases hi : i < n
      · rw [if_pos hi, List.getElem?_range hi]
        rfl
      · rw [if_neg hi, List.getElem?_eq_none (by simp; omega)]
        rfl
    simp only [repO, c, if_true, er]
  have e1 : setN 2 (b2N repO (frzM (lstM (consM (M.ret (.int 0)) (M.ret [])))) (var 0)) [vN n, some (.val P), none, none, none] = .ok .nx [vN n, some (.val P), some (.own 0 (.lst ((List.range n).map fun r => dN (rowO [] r)))), none, none] := by
    have z : sizedL [D.int 0] = some (.lst [.int 0]) := by
      unfold sizedL
      rw [sizeLine_eq]
      rfl
    simp only [startR, then_r, if_r, tst_r, b2_r, b2N_r, k1_r, k2_r, varK, opd_r, frz_r, Opd.dat, O.frozen, ret_r, Rs.bnd_ok, optR_some, set_r, setN_r, item_r, retS_r, drop_r, cons_r, consA_r, lst_r, tup_r, var, checkL, ownL, putL, updL, setIx, backAll, backSlot, or_r, and_r, not_r, andV_r, orV_r, notV_r, asB, call_r, seqI_r, rngI_r, rngI2_r, asg_r, par_r, lm1_r, bndN, bndT, bndS, tupOf, wipeR, mixR, turn_r, turn2_r, z, List.getElem?_cons_zero, e0, List.set_cons_succ, List.set_cons_zero]
  obtain ⟨ρ, e2, x3, x4, rfl⟩ := forS_run (src := seqI (var 1)) (bnd := bndT [3, 4]) (body := itemS 2 (b2 orD (k2 ixD (varK 2) (varK 3)) (b2 shlD (M.ret (.int 1)) (var 4))) (var 3))
    (ds := ps.map dPair) (ρ := [vN n, some (.val P), some (.own 0 (.lst ((List.range n).map fun r => dN (rowO [] r)))), none, none]) (ρ0 := [vN n, some (.val P), some (.own 0 (.lst ((List.range n).map fun r => dN (rowO [] r)))), none, none]) (by
      simp only [startR, then_r, if_r, tst_r, b2_r, b2N_r, k1_r, k2_r, varK, opd_r, frz_r, Opd.dat, O.frozen, ret_r, Rs.bnd_ok, optR_some, set_r, setN_r, item_r, retS_r, drop_r, cons_r, consA_r, lst_r, tup_r, var, checkL, ownL, putL, updL, setIx, backAll, backSlot, or_r, and_r, not_r, andV_r, orV_r, notV_r, asB, call_r, seqI_r, rngI_r, rngI2_r, asg_r, par_r, lm1_r, bndN, bndT, bndS, tupOf, wipeR, mixR, turn_r, turn2_r, List.getElem?_cons_zero, List.getElem?_cons_succ, hP])
    (fun i ρ => ∃ x3 x4, ρ = [vN n, some (.val P), some (.own 0 (.lst ((List.range n).map fun r => dN (rowO (ps.take i) r)))), x3, x4]) ⟨none, none, rfl⟩ (fun i d ρ hd ⟨x3, x4, hρ⟩ => by
      subst hρ
      rw [List.getElem?_map] at hd
      obtain ⟨p, hp, e⟩ := Option.map_eq_some_iff.mp hd
      subst e
      obtain ⟨h1, h2⟩ := hb p (List.mem_of_getElem? hp)
      refine ⟨[vN n, some (.val P), some (.own 0 (.lst ((List.range n).map fun r => dN (rowO (ps.take i) r)))), vN p.1, vN p.2], [vN n, some (.val P), some (.own 0 (.lst ((List.range n).map fun r => dN (rowO (ps.take (i + 1)) r)))), vN p.1, vN p.2], rfl, .inl ?_, _, _, rfl⟩
      have ex : ixD (.lst ((List.range n).map fun r => dN (rowO (ps.take i) r))) (dN p.1) = some (dN (rowO (ps.take i) p.1)) := by
        simp only [ixD, atI_nat', List.getElem?_map, List.getElem?_range h1, Option.map_some]
      have es : ixN ((List.range n).map fun r => dN (rowO (ps.take i) r)).length (p.1 : Int) = some p.1 := by
        unfold ixN
        rw [if_pos (by omega), if_pos (by simpa using h1), Int.toNat_natCast]
      have en : ((List.range n).map fun r => dN (rowO (ps.take i) r)).set p.1 (dN (rowO (ps.take i) p.1 ||| 2 ^ p.2)) = (List.range n).map fun r => dN (rowO (ps.take (i + 1)) r) := by
        have tk : ps.take (i + 1) = ps.take i ++ [p] := by
          rw [List.take_add_one, hp]
          rfl
        have := set_range (n := n) (k := p.1) (g := fun r => dN (rowO (ps.take i) r)) (g' := fun r => dN (rowO (ps.take (i + 1)) r)) (fun r hr => by
          show dN _ = dN _
          rw [tk, rowO_snoc, if_neg (Ne.symm hr)])
        have eq : rowO (ps.take i) p.1 ||| 2 ^ p.2 = rowO (ps.take (i + 1)) p.1 := by
          rw [tk, rowO_snoc, if_pos rfl]
        rw [eq]
        exact this
      simp only [item_r, b2_r, k2_r, varK, List.getElem?_cons_zero, List.getElem?_cons_succ, Rs.bnd_ok, Opd.dat, O.frozen, optR_some, ex, ret_r, var, shl1 p.2 (by omega), or_nat, checkL, ownL, putL, setIx, es, Option.map_some, List.set_cons_succ, List.set_cons_zero, en])
  rw [List.length_map, List.take_length] at e2
  have e : h_law_rel_of [vN n, some (.val P), none, none, none] = .ok (.rt (dRel (relO n ps))) [vN n, some (.val P), some (.own 0 (.lst ((List.range n).map fun r => dN (rowO ps r)))), x3, x4] := by
    unfold h_law_rel_of
    rw [thenS_ok e1, thenS_ok e2]
    simp only [startR, then_r, if_r, tst_r, b2_r, b2N_r, k1_r, k2_r, varK, opd_r, frz_r, Opd.dat, O.frozen, ret_r, Rs.bnd_ok, optR_some, set_r, setN_r, item_r, retS_r, drop_r, cons_r, consA_r, lst_r, tup_r, var, checkL, ownL, putL, updL, setIx, backAll, backSlot, or_r, and_r, not_r, andV_r, orV_r, notV_r, asB, call_r, seqI_r, rngI_r, rngI2_r, asg_r, par_r, lm1_r, bndN, bndT, bndS, tupOf, wipeR, mixR, turn_r, turn2_r, List.getElem?_cons_zero, List.getElem?_cons_succ, tupleD]
    unfold relO dRel
    rw [List.map_map]
    rfl
  simp [F_law_rel_of, runB, startR, e, backAll, backSlot]
end Nc

/-! drawn pairs; _law_like. -/
namespace Nc
open PySem PySem.Spec PyProof.Rows L2
theorem nat_of {v : Int} {n : Nat} (h0 : 0 ≤ v) (h1 : v < n) : ∃ k : Nat, v = (k : Int) ∧ k < n := ⟨v.toNat, by omega, by omega⟩
def IsPairs (n : Nat) (z : D) : Prop := ∃ p : Nat × Nat, z = dPair p ∧ p.1 < n ∧ p.2 < n
theorem all_pairs {n : Nat} : ∀ {out : List D}, (∀ z ∈ out, IsPairs n z) → ∃ ps : List (Nat × Nat), out = ps.map dPair ∧ ∀ p ∈ ps, p.1 < n ∧ p.2 < n
  | [], _ => ⟨[], rfl, fun p h => by cases h⟩
  | z :: out, h => by
    obtain ⟨p, e, h1⟩ := h z List.mem_cons_self
    obtain ⟨ps, e2, h2⟩ := all_pairs fun y hy => h y (List.mem_cons_of_mem _ hy)
    refine ⟨p :: ps, by rw [e, e2]; rfl, fun q hq => ?_⟩
    rcases List.mem_cons.mp hq with rfl | hq
    · exact h1
    · exact h2 q hq
theorem draw2 {n : Nat} {ds : List D} {x2 x3 : Option Slot} (hB : IsBox ds) (hn : 0 < n) (hn2 : n < 9000) : ∃ (k : Nat) (ds' : List D), callM F_law_pull (consA (varK 0) (consA (varK 1) (M.ret []))) [some (.own 1 (.lst ds)), vN n, x2, x3] = .ok (dN k) [some (.own 1 (.lst ds')), vN n, x2, x3] ∧ IsBox ds' ∧ k < n := by
  obtain ⟨v, ds', e, hB', h0, h1⟩ := pull_run (many := (n : Int)) hB (by omega) (by omega)
  obtain ⟨k, rfl, hk⟩ := nat_of h0 h1
  have eo : (consA (varK 0) (consA (varK 1) (M.ret []))) [some (.own 1 (.lst ds)), vN n, x2, x3] = .ok [.s 0, .s 1] [some (.own 1 (.lst ds)), vN n, x2, x3] := by
    simp only [startR, then_r, if_r, tst_r, b2_r, b2N_r, k1_r, k2_r, varK, opd_r, frz_r, Opd.dat, O.frozen, ret_r, Rs.bnd_ok, optR_some, set_r, setN_r, item_r, retS_r, drop_r, cons_r, consA_r, lst_r, tup_r, var, checkL, ownL, putL, updL, setIx, backAll, backSlot, or_r, and_r, not_r, andV_r, orV_r, notV_r, asB, call_r, seqI_r, rngI_r, rngI2_r, asg_r, par_r, lm1_r, bndN, bndT, bndS, tupOf, wipeR, mixR, turn_r, turn2_r, List.getElem?_cons_zero, List.getElem?_cons_succ]
  exact ⟨k, ds', callM_ok (F := F_law_pull) eo (by simp [slotIx]) rfl e (ρ' := [some (.own 1 (.lst ds')), vN n, x2, x3]) rfl, hB', hk⟩
theorem lpairs_run {n top : Nat} {ds : List D} (hB : IsBox ds) (hn : 0 < n) (hn2 : n < 1000) (ht : top < 1000) : ∃ (ps : List (Nat × Nat)) (ds' : List D), F_law_pairs F_law_pull [.own 1 (.lst ds), .val (dN n), .val (dN top)] = .ok (dPairs ps) [.own 1 (.lst ds'), .val (dN n), .val (dN top)] ∧ IsBox ds' ∧ ps.length ≤ top ∧ ∀ p ∈ ps, p.1 < n ∧ p.2 < n := by
  obtain ⟨v, ds1, ep, hB1, h0, h1⟩ := pull_run (many := ((top : Int) + 1)) hB (by omega) (by omega)
  obtain ⟨c, rfl, hc⟩ := nat_of (n := top + 1) h0 (by omega)
  have eo : (consA (varK 0) (consA (opdM (b2 addD (var 2) (M.ret (.int 1)))) (M.ret []))) [some (.own 1 (.lst ds)), vN n, vN top, none] = .ok [.s 0, .d (.int ((top : Int) + 1))] [some (.own 1 (.lst ds)), vN n, vN top, none] := by
    simp only [startR, then_r, if_r, tst_r, b2_r, b2N_r, k1_r, k2_r, varK, opd_r, frz_r, Opd.dat, O.frozen, ret_r, Rs.bnd_ok, optR_some, set_r, setN_r, item_r, retS_r, drop_r, cons_r, consA_r, lst_r, tup_r, var, checkL, ownL, putL, updL, setIx, backAll, backSlot, or_r, and_r, not_r, andV_r, orV_r, notV_r, asB, call_r, seqI_r, rngI_r, rngI2_r, asg_r, par_r, lm1_r, bndN, bndT, bndS, tupOf, wipeR, mixR, turn_r, turn2_r, List.getElem?_cons_zero, List.getElem?_cons_succ, addD]
  have ec := callM_ok (F := F_law_pull) eo (by simp [slotIx]) rfl ep (ρ' := [some (.own 1 (.lst ds1)), vN n, vN top, none]) rfl
  obtain ⟨out, ρ', e, ⟨ds2, hB2, rfl⟩, hlen, hC⟩ := lcM_ex (src := rngI (callM F_law_pull (consA (varK 0) (consA (opdM (b2 addD (var 2) (M.ret (.int 1)))) (M.ret []))))) (bnd := bndN 3) (tt := M.ret true) (vs := [3])
    (el := tupM (consM (callM F_law_pull (consA (varK 0) (consA (varK 1) (M.ret [])))) (consM (callM F_law_pull (consA (varK 0) (consA (varK 1) (M.ret [])))) (M.ret []))))
    (f := fun k : Nat => dN k) (xs := List.range c) (ρ := [some (.own 1 (.lst ds)), vN n, vN top, none]) (ρ1 := [some (.own 1 (.lst ds1)), vN n, vN top, none])
    (fun ρ => ∃ ds, IsBox ds ∧ ρ = [some (.own 1 (.lst ds)), vN n, vN top, none]) (IsPairs n) (by
      rw [rngI_r, ec, Rs.bnd_ok, rng1_nat (by omega), optR_some]) ⟨ds1, hB1, rfl⟩ (fun k _ ρ ⟨ds3, hB3, hρ⟩ => by
      subst hρ
      obtain ⟨a, ds4, e4, hB4, ha⟩ := draw2 (x2 := vN top) (x3 := vN k) hB3 hn (by omega)
      obtain ⟨b, ds5, e5, hB5, hb⟩ := draw2 (x2 := vN top) (x3 := vN k) hB4 hn (by omega)
      refine ⟨dPair (a, b), [some (.own 1 (.lst ds5)), vN n, vN top, none], ?_, ⟨ds5, hB5, rfl⟩, (a, b), rfl, ha, hb⟩
      have z : sizedT [dN a, dN b] = some (dPair (a, b)) := by
        unfold sizedT
        rw [sizeLine_eq]
        rfl
      simp only [turn_r, bndN, wipeR, List.set_cons_succ, List.set_cons_zero, Rs.bnd_ok, ret_r, if_true, tup_r, cons_r, e4, e5, z, optR_some]
      rfl) (by rw [List.length_range]; exact lt_size (by omega))
  obtain ⟨ps, rfl, hps⟩ := all_pairs hC
  rw [List.length_map, List.length_range] at hlen
  refine ⟨ps, ds2, ?_, hB2, by omega, hps⟩
  have eh : h_law_pairs F_law_pull [some (.own 1 (.lst ds)), vN n, vN top, none] = .ok (.rt (dPairs ps)) [some (.own 1 (.lst ds2)), vN n, vN top, none] := by
    unfold h_law_pairs
    rw [retS_r, frz_r, e, Rs.bnd_ok, Rs.bnd_ok]
    rfl
  simp [F_law_pairs, runB, startR, eh, backAll, backSlot]
/-! _law_like -/
def Lk : Nat → D → Prop
  | 0, _ => False
  | n + 1, d => (∃ i, d = .int i) ∨ ∃ ds, (d = .lst ds ∨ d = .tup ds) ∧ ds.length < 100000 ∧ ∀ e ∈ ds, Lk n e
theorem k1l : kitB "int" "list" = some false := by decide +kernel
theorem k1t : kitB "int" "tuple" = some false := by decide +kernel
theorem k1b : kitB "int" "bool" = some false := by decide +kernel
theorem k2l : kitB "list" "list" = some true := by decide +kernel
theorem k2t : kitB "list" "tuple" = some false := by decide +kernel
theorem k3l : kitB "tuple" "list" = some false := by decide +kernel
theorem k3t : kitB "tuple" "tuple" = some true := by decide +kernel
theorem eqD_bl (a b : Bool) : eqD (.bl a) (.bl b) = some (.bl (decide (a = b))) := rfl
theorem neD_bl (a b : Bool) : neD (.bl a) (.bl b) = some (.bl (!decide (a = b))) := rfl
theorem eqD_int (a b : Int) : eqD (.int a) (.int b) = some (.bl (decide (a = b))) := rfl
theorem bls_true (n : Nat) : D.bls ((List.range n).map fun _ => D.bl true) = some ((List.range n).map fun _ => true) := by
  have key : ∀ xs : List Nat, D.bls (xs.map fun _ => D.bl true) = some (xs.map fun _ => true) := by
    intro xs
    induction xs with
    | nil => rfl
    | cons x xs ih =>
      rw [List.map_cons, List.map_cons]
      simp only [D.bls, ih, Option.map_some]
  exact key _
theorem like_run : ∀ {n : Nat} {d : D}, Lk n d → F_law_like n [.val d, .val d] = .ok (.bl true) [.val d, .val d]
  | 0, d, h => h.elim
  | n + 1, d, h => by
    have e : ∃ x, h_law_like (F_law_like n) [some (.val d), some (.val d), none] = .ok (.rt (.bl true)) [some (.val d), some (.val d), x] := by
      rcases h with ⟨i, rfl⟩ | ⟨ds, hd, hl, he⟩
      · refine ⟨none, ?_⟩
        have f1 : isiD2 "list" "tuple" (.int i) = some (.bl false) := by simp only [isiD2, tyD, Option.bind_some, k1l, k1t, Option.map_some, Bool.or_self]
        have f2 : isiD "bool" (.int i) = some (.bl false) := by simp only [isiD, tyD, Option.bind_some, k1b, Option.map_some]
        unfold h_law_like
        simp only [startR, then_r, if_r, tst_r, b2_r, b2N_r, k1_r, k2_r, varK, opd_r, frz_r, Opd.dat, O.frozen, ret_r, Rs.bnd_ok, optR_some, set_r, setN_r, item_r, retS_r, drop_r, cons_r, consA_r, lst_r, tup_r, var, checkL, ownL, putL, updL, setIx, backAll, backSlot, or_r, and_r, not_r, andV_r, orV_r, notV_r, asB, call_r, seqI_r, rngI_r, rngI2_r, asg_r, par_r, lm1_r, bndN, bndT, bndS, tupOf, wipeR, mixR, turn_r, turn2_r, List.getElem?_cons_zero, List.getElem?_cons_succ, f1, f2, neD_bl, eqD_int, decide_true, Bool.not_true, Bool.false_eq_true, if_false]
      · refine ⟨none, ?_⟩
        have f1 : isiD2 "list" "tuple" d = some (.bl true) := by
          rcases hd with rfl | rfl
          · simp only [isiD2, tyD, Option.bind_some, k2l, k2t, Option.map_some, Bool.or_false]
          · simp only [isiD2, tyD, Option.bind_some, k3l, k3t, Option.map_some, Bool.false_or]
        obtain ⟨b1, f2⟩ : ∃ b, isiD "list" d = some (.bl b) := by
          rcases hd with rfl | rfl
          · exact ⟨true, by simp only [isiD, tyD, Option.bind_some, k2l, Option.map_some]⟩
          · exact ⟨false, by simp only [isiD, tyD, Option.bind_some, k3l, Option.map_some]⟩
        obtain ⟨b2, f3⟩ : ∃ b, isiD "tuple" d = some (.bl b) := by
          rcases hd with rfl | rfl
          · exact ⟨false, by simp only [isiD, tyD, Option.bind_some, k2t, Option.map_some]⟩
          · exact ⟨true, by simp only [isiD, tyD, Option.bind_some, k3t, Option.map_some]⟩
        have f4 : lenD d = some (dN ds.length) := by
          rcases hd with rfl | rfl <;> rfl
        have f5 : ∀ k, k < ds.length → ∃ y, ixD d (dN k) = some y ∧ y ∈ ds := fun k hk => by
          refine ⟨ds[k], ?_, List.getElem_mem hk⟩
          rcases hd with rfl | rfl
          · simp only [ixD, atI_nat', List.getElem?_eq_getElem hk]
          · simp only [ixD, atI_nat', List.getElem?_eq_getElem hk]
        have hl2 : lcM (rngI (k1 lenD (varK 1))) (bndN 2) (M.ret true) (callM (F_law_like n) (consA (opdM (k2 ixD (varK 0) (varK 2))) (consA (opdM (k2 ixD (varK 1) (varK 2))) (M.ret [])))) [2] [some (.val d), some (.val d), none] = .ok (.lst ((List.range ds.length).map fun _ => D.bl true)) [some (.val d), some (.val d), none] := by
          refine lcM_mapS (f := fun k : Nat => dN k) (xs := List.range ds.length) ?_ _ (fun k hk => ?_) ?_
          · simp only [startR, then_r, if_r, tst_r, b2_r, b2N_r, k1_r, k2_r, varK, opd_r, frz_r, Opd.dat, O.frozen, ret_r, Rs.bnd_ok, optR_some, set_r, setN_r, item_r, retS_r, drop_r, cons_r, consA_r, lst_r, tup_r, var, checkL, ownL, putL, updL, setIx, backAll, backSlot, or_r, and_r, not_r, andV_r, orV_r, notV_r, asB, call_r, seqI_r, rngI_r, rngI2_r, asg_r, par_r, lm1_r, bndN, bndT, bndS, tupOf, wipeR, mixR, turn_r, turn2_r, List.getElem?_cons_zero, List.getElem?_cons_succ, f4, rng1_nat (show ds.length < 1000000 by omega)]
          · obtain ⟨y, f6, hy⟩ := f5 k (List.mem_range.mp hk)
            have eo : (consA (opdM (k2 ixD (varK 0) (varK 2))) (consA (opdM (k2 ixD (varK 1) (varK 2))) (M.ret []))) [some (.val d), some (.val d), vN k] = .ok [.d y, .d y] [some (.val d), some (.val d), vN k] := by
              simp only [startR, then_r, if_r, tst_r, b2_r, b2N_r, k1_r, k2_r, varK, opd_r, frz_r, Opd.dat, O.frozen, ret_r, Rs.bnd_ok, optR_some, set_r, setN_r, item_r, retS_r, drop_r, cons_r, consA_r, lst_r, tup_r, var, checkL, ownL, putL, updL, setIx, backAll, backSlot, or_r, and_r, not_r, andV_r, orV_r, notV_r, asB, call_r, seqI_r, rngI_r, rngI2_r, asg_r, par_r, lm1_r, bndN, bndT, bndS, tupOf, wipeR, mixR, turn_r, turn2_r, List.getElem?_cons_zero, List.getElem?_cons_succ, f6]
            have ec := callM_ok (F := F_law_like n) eo (by simp [slotIx]) rfl (like_run (he y hy)) (ρ' := [some (.val d), some (.val d), vN k]) rfl
            simp only [turn_r, bndN, wipeR, List.set_cons_succ, List.set_cons_zero, Rs.bnd_ok, ret_r, if_true, ec]
            rfl
          · rw [List.length_range]
            exact lt_size hl
        have f7 : allD (.lst ((List.range ds.length).map fun _ => D.bl true)) = some (.bl true) := by
          simp only [allD, bls_true, Option.map_some]
          congr 2
          simp
        unfold h_law_like
        simp only [then_r, if_r, tst_r, k1_r, k2_r, varK, opd_r, Opd.dat, Rs.bnd_ok, optR_some, or_r, asB, retS_r, andV_r, frz_r, O.frozen, ret_r, List.getElem?_cons_zero, List.getElem?_cons_succ, f1, f2, f3, f4, neD_bl, eqD_nat, decide_true, Bool.not_true, Bool.false_eq_true, if_false, if_true, hl2, f7]
    obtain ⟨x, e⟩ := e
    show runB 3 2 (h_law_like (F_law_like n)) _ = _
    simp [runB, startR, e, backAll, backSlot]
end Nc

/-! == of a tree with itself; what is shown in order. -/
namespace Nc
open PySem PySem.Spec PyProof.Rows L2
theorem eqv_all {ps : List PyData} (h : ∀ p ∈ ps, PyData.eqv p p = true) : PyData.eqvAll ps ps = true := by
  induction ps with
  | nil => simp [PyData.eqvAll]
  | cons p ps ih =>
    simp only [PyData.eqvAll, h p List.mem_cons_self, ih fun q hq => h q (List.mem_cons_of_mem _ hq), Bool.and_self]
theorem py_lk : ∀ {n : Nat} {d : D}, Lk n d → ∃ x, d.py = some x ∧ x.canLay0 = true ∧ x.depth ≤ n ∧ PyData.eqv x x = true
  | 0, d, h => h.elim
  | n + 1, d, h => by
    rcases h with ⟨i, rfl⟩ | ⟨ds, hd, hl, he⟩
    · exact ⟨.int i, by simp only [D.py], by simp [PyData.canLay0], by simp [PyData.depth], by simp [PyData.eqv]⟩
    · have key : ∀ ds : List D, (∀ e ∈ ds, Lk n e) → ∃ xs, D.pys ds = some xs ∧ PyData.canLayAll0 xs = true ∧ PyData.depthAll xs ≤ n ∧ ∀ x ∈ xs, PyData.eqv x x = true := by
        intro ds
        induction ds with
        | nil => exact fun _ => ⟨[], by simp only [D.pys], by simp [PyData.canLayAll0], by simp [PyData.depthAll], fun x h => by cases h⟩
        | cons d ds ih =>
          intro he
          obtain ⟨x, h1, h2, h3, h4⟩ := py_lk (he d List.mem_cons_self)
          obtain ⟨xs, g1, g2, g3, g4⟩ := ih fun e h => he e (List.mem_cons_of_mem _ h)
          refine ⟨x :: xs, by simp only [D.pys, h1, g1], by simp [PyData.canLayAll0, h2, g2], by simp [PyData.depthAll]; omega, fun y hy => ?_⟩
          rcases List.mem_cons.mp hy with rfl | hy
          · exact h4
          · exact g4 y hy
      obtain ⟨xs, g1, g2, g3, g4⟩ := key ds he
      rcases hd with rfl | rfl
      · exact ⟨.list xs, by simp only [D.py, g1, Option.map_some], by simp [PyData.canLay0, g2], by simp [PyData.depth]; omega, by simp only [PyData.eqv]; exact eqv_all g4⟩
      · exact ⟨.tuple xs, by simp only [D.py, g1, Option.map_some], by simp [PyData.canLay0, g2], by simp [PyData.depth]; omega, by simp only [PyData.eqv]; exact eqv_all g4⟩
theorem eqB_refl {n : Nat} {d : D} (h : Lk n d) (hn : n ≤ 60) : eqB d d = some true := by
  obtain ⟨x, h1, h2, h3, h4⟩ := py_lk h
  have hs : SeqAt.shaped x = true := by
    unfold SeqAt.shaped
    rw [Bool.and_eq_true, decide_eq_true_eq]
    exact ⟨h2, by omega⟩
  have h0 : eqS d d = none ∨ eqS d d = some true := by
    cases d <;> simp [eqS]
  unfold eqB
  rcases h0 with h0 | h0
  · simp only [h0, h1, hs, h4, Bool.and_self, if_true]
  · simp only [h0]
theorem eqD_refl {n : Nat} {d : D} (h : Lk n d) (hn : n ≤ 60) : eqD d d = some (.bl true) := by
  unfold eqD
  rw [eqB_refl h hn]
  rfl
theorem neD_refl {n : Nat} {d : D} (h : Lk n d) (hn : n ≤ 60) : neD d d = some (.bl false) := by
  unfold neD
  rw [eqB_refl h hn]
  rfl
theorem lk_int (n : Nat) (i : Int) : Lk (n + 1) (.int i) := .inl ⟨i, rfl⟩
theorem lk_rel {rows : List Nat} (h : rows.length < 100000) : Lk 2 (dRel rows) := .inr ⟨rows.map fun r => dN r, .inr rfl, by rw [List.length_map]; exact h, fun e he => by
  obtain ⟨r, _, e2⟩ := List.mem_map.mp he
  subst e2
  exact lk_int 0 _⟩
theorem lk_pair (p : Nat × Nat) : Lk 2 (dPair p) := .inr ⟨_, .inr rfl, by simp, fun e he => by
  rcases List.mem_cons.mp he with rfl | he
  · exact lk_int 0 _
  · rcases List.mem_cons.mp he with rfl | he
    · exact lk_int 0 _
    · cases he⟩
theorem lk_pairs {ps : List (Nat × Nat)} (h : ps.length < 100000) : Lk 3 (dPairs ps) := .inr ⟨ps.map dPair, .inl rfl, by rw [List.length_map]; exact h, fun e he => by
  obtain ⟨p, _, e2⟩ := List.mem_map.mp he
  subst e2
  exact lk_pair p⟩
theorem lk_up {n : Nat} {d : D} : ∀ {m : Nat}, Lk n d → n ≤ m → Lk m d := by
  induction n generalizing d with
  | zero => intro m h; exact h.elim
  | succ n ih =>
    intro m h hm
    obtain ⟨k, rfl⟩ : ∃ k, m = k + 1 := ⟨m - 1, by omega⟩
    rcases h with ⟨i, rfl⟩ | ⟨ds, hd, hl, he⟩
    · exact .inl ⟨i, rfl⟩
    · exact .inr ⟨ds, hd, hl, fun e h => ih (he e h) (by omega)⟩
/-! sorted(set(pairs)) -/
def toL (p : Nat × Nat) : List Int := [toI p.1, toI p.2]
theorem dTup_toL (p : Nat × Nat) : dTup (toL p) = dPair p := rfl
theorem tups_of (ps : List (Nat × Nat)) : tupsI (ps.map dPair) = some (ps.map toL) := by
  induction ps with
  | nil => rfl
  | cons p ps ih =>
    rw [List.map_cons, List.map_cons]
    have e : tupI (dPair p) = some (toL p) := rfl
    simp only [tupsI, e, ih]
theorem code_toL (p : Nat × Nat) : TS.code bigB (toL p) = toI p.1 * 1000 + toI p.2 := by
  simp [toL, TS.code, bigB]
theorem bd_toL {p : Nat × Nat} (h : p.1 < 1000 ∧ p.2 < 1000) : (toL p).length = 2 ∧ TS.Bd bigB (toL p) := ⟨rfl, fun m hm => by
  rcases List.mem_cons.mp hm with rfl | hm
  · show 0 ≤ (p.1 : Int) ∧ (p.1 : Int) < 1000
    omega
  · rcases List.mem_cons.mp hm with rfl | hm
    · show 0 ≤ (p.2 : Int) ∧ (p.2 : Int) < 1000
      omega
    · cases hm⟩
theorem pairs_rise {rows : List Nat} (h : rows.length < 1000) : ((pairsOf rows).map fun p => toI p.1 * 1000 + toI p.2).Pairwise (· < ·) := by
  rw [List.pairwise_map]
  unfold pairsOf
  rw [List.flatMap_def, List.pairwise_flatten]
  refine ⟨fun l hl => ?_, ?_⟩
  · obtain ⟨i, hi, e⟩ := List.mem_map.mp hl
    subst e
    rw [List.pairwise_map]
    refine (List.pairwise_lt_range.filter _).imp fun {a b} q => ?_
    show (i : Int) * 1000 + (a : Int) < (i : Int) * 1000 + (b : Int)
    omega
  · rw [List.pairwise_map]
    refine List.pairwise_lt_range.imp fun {a b} q x hx y hy => ?_
    obtain ⟨j, hj, e⟩ := List.mem_map.mp hx
    obtain ⟨k, hk, e2⟩ := List.mem_map.mp hy
    subst e e2
    have := List.mem_range.mp (List.mem_filter.mp hj).1
    show (a : Int) * 1000 + (j : Int) < (b : Int) * 1000 + (k : Int)
    omega
theorem shown_run {n : Nat} {ps : List (Nat × Nat)} (hn : n < 100) (hl : ps.length < 64) (hb : ∀ p ∈ ps, p.1 < n ∧ p.2 < n) : sspO 2 (dPairs ps) = some (.lst ((pairsOf (relS n ps)).map dPair)) := by
  have hlen : (relS n ps).length = n := by
    unfold relS
    rw [List.length_map, List.length_range]
  have mem : ∀ p, p ∈ pairsOf (relS n ps) ↔ p ∈ ps := fun ⟨i, j⟩ => by
    rw [mem_pairsOf, hlen]
    constructor
    · rintro ⟨h1, h2, h3⟩
      unfold relS at h3
      rw [rowAt_rel h1, rowS_bit, decide_eq_true_eq] at h3
      exact h3
    · intro h
      have := hb _ h
      refine ⟨this.1, this.2, ?_⟩
      unfold relS
      rw [rowAt_rel this.1, rowS_bit, decide_eq_true_eq]
      exact h
  have e : (pairsOf (relS n ps)).map toL = sortT bigB (ps.map toL) := by
    refine sortT_one (n := 2) (fun k hk => ?_) (fun k hk => ?_) ?_ fun c => ?_
    · obtain ⟨p, hp, e⟩ := List.mem_map.mp hk
      subst e
      have := hb p hp
      exact bd_toL ⟨by omega, by omega⟩
    · obtain ⟨p, hp, e⟩ := List.mem_map.mp hk
      subst e
      have := hb p ((mem p).mp hp)
      exact bd_toL ⟨by omega, by omega⟩
    · have := pairs_rise (rows := relS n ps) (by omega)
      rw [List.map_map]
      have e2 : (TS.code bigB ∘ toL) = fun p => toI p.1 * 1000 + toI p.2 := by
        funext p
        exact code_toL p
      rw [e2]
      exact this
    · rw [List.map_map, List.map_map, List.mem_map, List.mem_map]
      constructor
      · rintro ⟨p, hp, e⟩
        exact ⟨p, (mem p).mp hp, e⟩
      · rintro ⟨p, hp, e⟩
        exact ⟨p, (mem p).mpr hp, e⟩
  unfold sspO dPairs
  simp only [tups_of, Option.bind_some]
  have hc : (decide ((ps.map toL).length < 64) && (ps.map toL).all (bdB 2)) = true := by
    rw [Bool.and_eq_true, decide_eq_true_eq, List.length_map, List.all_eq_true]
    refine ⟨hl, fun k hk => ?_⟩
    obtain ⟨p, hp, e⟩ := List.mem_map.mp hk
    subst e
    have := hb p hp
    unfold bdB
    rw [Bool.and_eq_true, decide_eq_true_eq, List.all_eq_true]
    refine ⟨rfl, fun m hm => ?_⟩
    have := (bd_toL (p := p) ⟨by omega, by omega⟩).2 m hm
    rw [Bool.and_eq_true, decide_eq_true_eq, decide_eq_true_eq]
    exact this
  rw [if_pos hc, ← e, List.map_map]
  rfl
/-! identity's pairs -/
theorem filter_one {n i : Nat} (h : i < n) : (List.range n).filter (fun j => decide (i = j)) = [i] := by
  induction n with
  | zero => omega
  | succ n ih =>
    rw [List.range_succ, List.filter_append]
    by_cases e : i = n
    · subst e
      have : (List.range i).filter (fun j => decide (i = j)) = [] := by
        rw [List.filter_eq_nil_iff]
        intro j hj
        have := List.mem_range.mp hj
        rw [decide_eq_true_eq]
        omega
      rw [this]
      simp
    · rw [ih (by omega)]
      simp [e]
theorem id_pairs (n : Nat) : pairsOf ((List.range n).map (2 ^ ·)) = (List.range n).map fun i => (i, i) := by
  unfold pairsOf
  rw [List.length_map, List.length_range, List.flatMap_def]
  have : (List.range n).map (fun i => ((List.range n).filter ((rowAt ((List.range n).map (2 ^ ·)) i).testBit ·)).map fun j => (i, j)) = (List.range n).map fun i => [(i, i)] := by
    refine List.map_congr_left fun i hi => ?_
    have hi := List.mem_range.mp hi
    rw [rowAt_rel hi]
    have e : (fun j => (2 ^ i).testBit j) = fun j => decide (i = j) := by
      funext j
      exact Nat.testBit_two_pow
    show ((List.range n).filter fun j => (2 ^ i).testBit j).map _ = _
    rw [e, filter_one hi]
    rfl
  rw [this]
  generalize List.range n = xs
  clear this
  induction xs with
  | nil => rfl
  | cons x xs ih =>
    rw [List.map_cons, List.flatten_cons, ih]
    rfl
end Nc

/-! the law's body. -/
namespace Nc
open PySem PySem.Spec PyProof.Rows L2
abbrev FT : Fn := F_turned F_relation_of (F_pairs_of F_bits_of)
abbrev FP : Fn := F_pairs_of F_bits_of
abbrev FL : Fn := F_law_like 5
def turnK1 : M Out := (thenS
  (setS 3 (b2 addD (M.ret (.int 1)) (callM F_law_pull (consA (varK 1) (consA (opdM (M.ret (.int 12))) (M.ret []))))))
  (thenS
  (setS 4 (callM (F_law_pairs F_law_pull) (consA (varK 1) (consA (varK 3) (consA (opdM (M.ret (.int 15))) (M.ret []))))))
  (thenS
  (parS 5 6 (consM (frzM (k1 listO (varK 4))) (consM (callM F_law_rel_of (consA (varK 3) (consA (varK 4) (M.ret [])))) (M.ret []))))
  (thenS
  (setS 7 (callM F_relation_of (consA (varK 3) (consA (varK 5) (M.ret [])))))
  (thenS
  (ifM (orM (notM (tst (callM FL (consA (varK 7) (consA (varK 6) (M.ret [])))))) (orM (tst (k2 neD (varK 5) (varK 4))) (tst (k2 neD (opdM (callM F_relation_of (consA (varK 3) (consA (opdM (k1 tupleD (varK 4))) (M.ret []))))) (varK 6))))) (retS (M.ret (.bl false))) (M.ret .nx))
  (thenS
  (setS 8 (frzM (k1 (sspO 2) (varK 4))))
  (thenS
  (ifM (notM (tst (callM FL (consA (opdM (callM FP (consA (varK 7) (M.ret [])))) (consA (varK 8) (M.ret [])))))) (retS (M.ret (.bl false))) (M.ret .nx))
  (thenS
  (setS 9 (frzM (lcM (seqI (var 8)) (bndT [10, 11]) (M.ret true) (tupM (consM (var 11) (consM (var 10) (M.ret [])))) [10, 11])))
  (thenS
  (ifM (orM (notM (tst (callM FL (consA (opdM (callM FT (consA (varK 7) (M.ret [])))) (consA (opdM (callM F_law_rel_of (consA (varK 3) (consA (varK 9) (M.ret []))))) (M.ret [])))))) (tst (k2 neD (opdM (callM FT (consA (opdM (callM FT (consA (varK 7) (M.ret [])))) (M.ret [])))) (varK 6)))) (retS (M.ret (.bl false))) (M.ret .nx))
  (thenS
  (ifM (notM (tst (callM FL (consA (opdM (callM FP (consA (opdM (callM F_identity (consA (varK 3) (M.ret [])))) (M.ret [])))) (consA (opdM (frzM (lcM (rngI (var 3)) (bndN 12) (M.ret true) (tupM (consM (var 12) (consM (var 12) (M.ret [])))) [12]))) (M.ret [])))))) (retS (M.ret (.bl false))) (M.ret .nx))
  (ifM (tst (k2 neD (opdM (callM F_relation_of (consA (varK 3) (consA (opdM (frzM (lstM (M.ret [])))) (M.ret []))))) (opdM (b2 mulD (tupM (consM (M.ret (.int 0)) (M.ret []))) (var 3))))) (retS (M.ret (.bl false))) (M.ret .nx))))))))))))
abbrev R (a b x2 x3 x4 x5 x6 x7 x8 x9 : Option Slot) : Rho := [a, b, x2, x3, x4, x5, x6, x7, x8, x9, none, none, none]
abbrev bx (ds : List D) : Option Slot := some (.own 0 (.lst ds))
abbrev vD (d : D) : Option Slot := some (.val d)
section
variable {a x2 x3 x4 x5 x6 x7 x8 x9 : Option Slot} {ds : List D} {n : Nat} {ps : List (Nat × Nat)}
theorem l_len (n : Nat) (ps : List (Nat × Nat)) : (relS n ps).length = n := by
  unfold relS
  rw [List.length_map, List.length_range]
theorem st3 (hB : IsBox ds) : ∃ n ds', setS 3 (b2 addD (M.ret (.int 1)) (callM F_law_pull (consA (varK 1) (consA (opdM (M.ret (.int 12))) (M.ret []))))) (R a (bx ds) x2 x3 x4 x5 x6 x7 x8 x9) = .ok .nx (R a (bx ds') x2 (vN n) x4 x5 x6 x7 x8 x9) ∧ IsBox ds' ∧ 0 < n ∧ n ≤ 12 := by
  obtain ⟨v, ds', e, hB', h0, h1⟩ := pull_run (many := 12) hB (by omega) (by omega)
  obtain ⟨k, rfl, hk⟩ := nat_of (n := 12) h0 (by omega)
  have hc : callR F_law_pull [.s 1, .d (.int 12)] (R a (bx ds) x2 x3 x4 x5 x6 x7 x8 x9) = .ok (dN k) (R a (bx ds') x2 x3 x4 x5 x6 x7 x8 x9) := callR_ok (by simp [slotIx]) rfl e rfl
  have ha : addD (.int 1) (dN k) = some (dN (k + 1)) := by
    simp only [addD]
    congr 2
    omega
  refine ⟨k + 1, ds', ?_, hB', by omega, by omega⟩
  simp only [startR, then_r, if_r, tst_r, b2_r, b2N_r, k1_r, k2_r, varK, opd_r, frz_r, Opd.dat, O.frozen, ret_r, Rs.bnd_ok, optR_some, set_r, setN_r, item_r, retS_r, drop_r, cons_r, consA_r, lst_r, tup_r, var, checkL, ownL, putL, updL, setIx, backAll, backSlot, or_r, and_r, not_r, andV_r, orV_r, notV_r, asB, call_r, seqI_r, rngI_r, rngI2_r, asg_r, par_r, lm1_r, bndN, bndT, bndS, tupOf, wipeR, mixR, turn_r, turn2_r, List.getElem?_cons_zero, List.getElem?_cons_succ, hc, ha, List.set_cons_succ, List.set_cons_zero]
theorem st4 (hB : IsBox ds) (h0 : 0 < n) (h1 : n ≤ 12) : ∃ ps ds', setS 4 (callM (F_law_pairs F_law_pull) (consA (varK 1) (consA (varK 3) (consA (opdM (M.ret (.int 15))) (M.ret []))))) (R a (bx ds) x2 (vN n) x4 x5 x6 x7 x8 x9) = .ok .nx (R a (bx ds') x2 (vN n) (vD (dPairs ps)) x5 x6 x7 x8 x9) ∧ IsBox ds' ∧ ps.length ≤ 15 ∧ ∀ p ∈ ps, p.1 < n ∧ p.2 < n := by
  obtain ⟨ps, ds', e, hB', hl, hb⟩ := lpairs_run (n := n) (top := 15) hB h0 (by omega) (by omega)
  have hc : callR (F_law_pairs F_law_pull) [.s 1, .s 3, .d (.int 15)] (R a (bx ds) x2 (vN n) x4 x5 x6 x7 x8 x9) = .ok (dPairs ps) (R a (bx ds') x2 (vN n) x4 x5 x6 x7 x8 x9) := callR_ok (by simp [slotIx]) rfl e rfl
  refine ⟨ps, ds', ?_, hB', hl, hb⟩
  simp only [startR, then_r, if_r, tst_r, b2_r, b2N_r, k1_r, k2_r, varK, opd_r, frz_r, Opd.dat, O.frozen, ret_r, Rs.bnd_ok, optR_some, set_r, setN_r, item_r, retS_r, drop_r, cons_r, consA_r, lst_r, tup_r, var, checkL, ownL, putL, updL, setIx, backAll, backSlot, or_r, and_r, not_r, andV_r, orV_r, notV_r, asB, call_r, seqI_r, rngI_r, rngI2_r, asg_r, par_r, lm1_r, bndN, bndT, bndS, tupOf, wipeR, mixR, turn_r, turn2_r, List.getElem?_cons_zero, List.getElem?_cons_succ, hc, List.set_cons_succ, List.set_cons_zero]
variable (h1 : n ≤ 12) (hl : ps.length ≤ 15) (hb : ∀ p ∈ ps, p.1 < n ∧ p.2 < n)
include h1 hl hb
theorem st5 : parS 5 6 (consM (frzM (k1 listO (varK 4))) (consM (callM F_law_rel_of (consA (varK 3) (consA (varK 4) (M.ret [])))) (M.ret []))) (R a (bx ds) x2 (vN n) (vD (dPairs ps)) x5 x6 x7 x8 x9) = .ok .nx (R a (bx ds) x2 (vN n) (vD (dPairs ps)) (vD (dPairs ps)) (vD (dRel (relS n ps))) x7 x8 x9) := by
  have e := lrel_run (n := n) (ps := ps) (P := dPairs ps) (by omega) rfl fun p hp => ⟨(hb p hp).1, by have := (hb p hp).2; omega⟩
  rw [rel_OS (qs := ps) fun i j _ => Iff.rfl] at e
  have hc : callR F_law_rel_of [.s 3, .s 4] (R a (bx ds) x2 (vN n) (vD (dPairs ps)) x5 x6 x7 x8 x9) = .ok (dRel (relS n ps)) (R a (bx ds) x2 (vN n) (vD (dPairs ps)) x5 x6 x7 x8 x9) := callR_ok (by simp [slotIx]) rfl e rfl
  have hlo : listO (dPairs ps) = some (.lst (ps.map dPair)) := rfl
  simp only [startR, then_r, if_r, tst_r, b2_r, b2N_r, k1_r, k2_r, varK, opd_r, frz_r, Opd.dat, O.frozen, ret_r, Rs.bnd_ok, optR_some, set_r, setN_r, item_r, retS_r, drop_r, cons_r, consA_r, lst_r, tup_r, var, checkL, ownL, putL, updL, setIx, backAll, backSlot, or_r, and_r, not_r, andV_r, orV_r, notV_r, asB, call_r, seqI_r, rngI_r, rngI2_r, asg_r, par_r, lm1_r, bndN, bndT, bndS, tupOf, wipeR, mixR, turn_r, turn2_r, List.getElem?_cons_zero, List.getElem?_cons_succ, hc, hlo, List.set_cons_succ, List.set_cons_zero]
  rfl
theorem rel_ok (P : D) (hP : itemsD P = some (ps.map dPair)) : F_relation_of [.val (dN n), .val P] = .ok (dRel (relS n ps)) [.val (dN n), .val P] :=
  rel_run hP (by omega) (fun i => by
    have : (rowL ps i).length ≤ ps.length := by
      unfold rowL
      rw [List.length_map]
      exact List.length_filter_le _ _
    omega) (fun p hp => by have := (hb p hp).2; omega) (by omega)
theorem st7 : setS 7 (callM F_relation_of (consA (varK 3) (consA (varK 5) (M.ret [])))) (R a (bx ds) x2 (vN n) (vD (dPairs ps)) (vD (dPairs ps)) (vD (dRel (relS n ps))) x7 x8 x9) = .ok .nx (R a (bx ds) x2 (vN n) (vD (dPairs ps)) (vD (dPairs ps)) (vD (dRel (relS n ps))) (vD (dRel (relS n ps))) x8 x9) := by
  have e := rel_ok h1 hl hb (dPairs ps) rfl
  have hc : callR F_relation_of [.s 3, .s 5] (R a (bx ds) x2 (vN n) (vD (dPairs ps)) (vD (dPairs ps)) (vD (dRel (relS n ps))) x7 x8 x9) = .ok (dRel (relS n ps)) (R a (bx ds) x2 (vN n) (vD (dPairs ps)) (vD (dPairs ps)) (vD (dRel (relS n ps))) x7 x8 x9) := callR_ok (by simp [slotIx]) rfl e rfl
  simp only [startR, then_r, if_r, tst_r, b2_r, b2N_r, k1_r, k2_r, varK, opd_r, frz_r, Opd.dat, O.frozen, ret_r, Rs.bnd_ok, optR_some, set_r, setN_r, item_r, retS_r, drop_r, cons_r, consA_r, lst_r, tup_r, var, checkL, ownL, putL, updL, setIx, backAll, backSlot, or_r, and_r, not_r, andV_r, orV_r, notV_r, asB, call_r, seqI_r, rngI_r, rngI2_r, asg_r, par_r, lm1_r, bndN, bndT, bndS, tupOf, wipeR, mixR, turn_r, turn2_r, List.getElem?_cons_zero, List.getElem?_cons_succ, hc, List.set_cons_succ, List.set_cons_zero]
abbrev RR (a x2 x8 x9 : Option Slot) (ds : List D) (n : Nat) (ps : List (Nat × Nat)) : Rho := R a (bx ds) x2 (vN n) (vD (dPairs ps)) (vD (dPairs ps)) (vD (dRel (relS n ps))) (vD (dRel (relS n ps))) x8 x9
theorem if1 : (ifM (orM (notM (tst (callM FL (consA (varK 7) (consA (varK 6) (M.ret [])))))) (orM (tst (k2 neD (varK 5) (varK 4))) (tst (k2 neD (opdM (callM F_relation_of (consA (varK 3) (consA (opdM (k1 tupleD (varK 4))) (M.ret []))))) (varK 6))))) (retS (M.ret (.bl false))) (M.ret .nx)) (RR a x2 x8 x9 ds n ps) = .ok .nx (RR a x2 x8 x9 ds n ps) := by
  have hlk : Lk 5 (dRel (relS n ps)) := lk_up (lk_rel (by rw [l_len]; omega)) (by omega)
  have hc1 : callR FL [.s 7, .s 6] (RR a x2 x8 x9 ds n ps) = .ok (.bl true) (RR a x2 x8 x9 ds n ps) := callR_ok (by simp [slotIx]) rfl (like_run hlk) rfl
  have ht : tupleD (dPairs ps) = some (.tup (ps.map dPair)) := rfl
  have hc2 : callR F_relation_of [.s 3, .d (.tup (ps.map dPair))] (RR a x2 x8 x9 ds n ps) = .ok (dRel (relS n ps)) (RR a x2 x8 x9 ds n ps) := callR_ok (by simp [slotIx]) rfl (rel_ok h1 hl hb _ rfl) rfl
  have hn1 := neD_refl (lk_pairs (ps := ps) (by omega)) (by omega)
  have hn2 := neD_refl hlk (by omega)
  simp only [startR, then_r, if_r, tst_r, b2_r, b2N_r, k1_r, k2_r, varK, opd_r, frz_r, Opd.dat, O.frozen, ret_r, Rs.bnd_ok, optR_some, set_r, setN_r, item_r, retS_r, drop_r, cons_r, consA_r, lst_r, tup_r, var, checkL, ownL, putL, updL, setIx, backAll, backSlot, or_r, and_r, not_r, andV_r, orV_r, notV_r, asB, call_r, seqI_r, rngI_r, rngI2_r, asg_r, par_r, lm1_r, bndN, bndT, bndS, tupOf, wipeR, mixR, turn_r, turn2_r, List.getElem?_cons_zero, List.getElem?_cons_succ, hc1, hc2, ht, hn1, hn2, Bool.not_true, Bool.false_eq_true, if_false]
theorem st8 : setS 8 (frzM (k1 (sspO 2) (varK 4))) (RR a x2 x8 x9 ds n ps) = .ok .nx (RR a x2 (vD (dPairs (pairsOf (relS n ps)))) x9 ds n ps) := by
  have e := shown_run (n := n) (ps := ps) (by omega) (by omega) hb
  simp only [startR, then_r, if_r, tst_r, b2_r, b2N_r, k1_r, k2_r, varK, opd_r, frz_r, Opd.dat, O.frozen, ret_r, Rs.bnd_ok, optR_some, set_r, setN_r, item_r, retS_r, drop_r, cons_r, consA_r, lst_r, tup_r, var, checkL, ownL, putL, updL, setIx, backAll, backSlot, or_r, and_r, not_r, andV_r, orV_r, notV_r, asB, call_r, seqI_r, rngI_r, rngI2_r, asg_r, par_r, lm1_r, bndN, bndT, bndS, tupOf, wipeR, mixR, turn_r, turn2_r, List.getElem?_cons_zero, List.getElem?_cons_succ, e, List.set_cons_succ, List.set_cons_zero]
  rfl
theorem if2 : (ifM (notM (tst (callM FL (consA (opdM (callM FP (consA (varK 7) (M.ret [])))) (consA (varK 8) (M.ret [])))))) (retS (M.ret (.bl false))) (M.ret .nx)) (RR a x2 (vD (dPairs (pairsOf (relS n ps)))) x9 ds n ps) = .ok .nx (RR a x2 (vD (dPairs (pairsOf (relS n ps)))) x9 ds n ps) := by
  have hlp := len_pairs (relS n ps) (by rw [l_len]; omega)
  have hc1 : callR FP [.s 7] (RR a x2 (vD (dPairs (pairsOf (relS n ps)))) x9 ds n ps) = .ok (dPairs (pairsOf (relS n ps))) (RR a x2 (vD (dPairs (pairsOf (relS n ps)))) x9 ds n ps) := callR_ok (by simp [slotIx]) rfl (pairs_run (by rw [l_len]; omega)) rfl
  have hc2 : callR FL [.d (dPairs (pairsOf (relS n ps))), .s 8] (RR a x2 (vD (dPairs (pairsOf (relS n ps)))) x9 ds n ps) = .ok (.bl true) (RR a x2 (vD (dPairs (pairsOf (relS n ps)))) x9 ds n ps) := callR_ok (by simp [slotIx]) rfl (like_run (lk_up (lk_pairs (by omega)) (by omega))) rfl
  simp only [startR, then_r, if_r, tst_r, b2_r, b2N_r, k1_r, k2_r, varK, opd_r, frz_r, Opd.dat, O.frozen, ret_r, Rs.bnd_ok, optR_some, set_r, setN_r, item_r, retS_r, drop_r, cons_r, consA_r, lst_r, tup_r, var, checkL, ownL, putL, updL, setIx, backAll, backSlot, or_r, and_r, not_r, andV_r, orV_r, notV_r, asB, call_r, seqI_r, rngI_r, rngI2_r, asg_r, par_r, lm1_r, bndN, bndT, bndS, tupOf, wipeR, mixR, turn_r, turn2_r, List.getElem?_cons_zero, List.getElem?_cons_succ, hc1, hc2, Bool.not_true, Bool.false_eq_true, if_false]
theorem st9 : setS 9 (frzM (lcM (seqI (var 8)) (bndT [10, 11]) (M.ret true) (tupM (consM (var 11) (consM (var 10) (M.ret [])))) [10, 11])) (RR a x2 (vD (dPairs (pairsOf (relS n ps)))) x9 ds n ps)
    = .ok .nx (RR a x2 (vD (dPairs (pairsOf (relS n ps)))) (vD (dPairs ((pairsOf (relS n ps)).map swp))) ds n ps) := by
  have hlp := len_pairs (relS n ps) (by rw [l_len]; omega)
  have e := lcM_mapS (src := seqI (var 8)) (bnd := bndT [10, 11]) (tt := M.ret true) (el := tupM (consM (var 11) (consM (var 10) (M.ret [])))) (vs := [10, 11]) (f := dPair) (xs := pairsOf (relS n ps)) (ρ := RR a x2 (vD (dPairs (pairsOf (relS n ps)))) x9 ds n ps) (ρ1 := RR a x2 (vD (dPairs (pairsOf (relS n ps)))) x9 ds n ps)
    (by
      rw [seqI_r, var_val (d := dPairs (pairsOf (relS n ps))) rfl, Rs.bnd_ok]
      rfl) (fun p => dPair (swp p)) (fun p hp => by
      have z : sizedT [dN p.2, dN p.1] = some (dPair (swp p)) := by
        unfold sizedT
        rw [sizeLine_eq]
        rfl
      unfold dPair at *
      simp only [startR, then_r, if_r, tst_r, b2_r, b2N_r, k1_r, k2_r, varK, opd_r, frz_r, Opd.dat, O.frozen, ret_r, Rs.bnd_ok, optR_some, set_r, setN_r, item_r, retS_r, drop_r, cons_r, consA_r, lst_r, tup_r, var, checkL, ownL, putL, updL, setIx, backAll, backSlot, or_r, and_r, not_r, andV_r, orV_r, notV_r, asB, call_r, seqI_r, rngI_r, rngI2_r, asg_r, par_r, lm1_r, bndN, bndT, bndS, tupOf, wipeR, mixR, turn_r, turn2_r, List.getElem?_cons_zero, List.getElem?_cons_succ, List.set_cons_succ, List.set_cons_zero, if_true, z]
      rfl) (lt_size (by omega))
  rw [set_r, frz_r, e, Rs.bnd_ok, Rs.bnd_ok]
  unfold dPairs
  rw [List.map_map]
  rfl
abbrev RS (a x2 : Option Slot) (ds : List D) (n : Nat) (ps : List (Nat × Nat)) : Rho := RR a x2 (vD (dPairs (pairsOf (relS n ps)))) (vD (dPairs ((pairsOf (relS n ps)).map swp))) ds n ps
theorem if3 : (ifM (orM (notM (tst (callM FL (consA (opdM (callM FT (consA (varK 7) (M.ret [])))) (consA (opdM (callM F_law_rel_of (consA (varK 3) (consA (varK 9) (M.ret []))))) (M.ret [])))))) (tst (k2 neD (opdM (callM FT (consA (opdM (callM FT (consA (varK 7) (M.ret [])))) (M.ret [])))) (varK 6)))) (retS (M.ret (.bl false))) (M.ret .nx)) (RS a x2 ds n ps) = .ok .nx (RS a x2 ds n ps) := by
  generalize hq : (pairsOf (relS n ps)).map swp = qs
  have hlr : (relS n ps).length = n := l_len n ps
  have t1 := turned_run (rows := relS n ps) (by omega)
  rw [hlr, hq] at t1
  have hlr2 : (relS n qs).length = n := l_len n qs
  have t2 := turned_run (rows := relS n qs) (by omega)
  rw [hlr2] at t2
  have hmq : ∀ i j, (i, j) ∈ qs ↔ i < n ∧ j < n ∧ (j, i) ∈ ps := fun i j => by
    rw [← hq, List.mem_map]
    constructor
    · rintro ⟨⟨x, y⟩, hp, e⟩
      cases e
      obtain ⟨g1, g2, g3⟩ := mem_pairsOf.mp hp
      rw [hlr] at g1 g2
      unfold relS at g3
      rw [rowAt_rel g1, rowS_bit, decide_eq_true_eq] at g3
      exact ⟨g2, g1, g3⟩
    · rintro ⟨g1, g2, g3⟩
      refine ⟨(j, i), mem_pairsOf.mpr ⟨by omega, by omega, ?_⟩, rfl⟩
      unfold relS
      rw [rowAt_rel g2, rowS_bit, decide_eq_true_eq]
      exact g3
  have back : relS n ((pairsOf (relS n qs)).map swp) = relS n ps := rel_SS fun i j hi => by
    rw [List.mem_map]
    constructor
    · rintro ⟨⟨x, y⟩, hp, e⟩
      cases e
      obtain ⟨g1, g2, g3⟩ := mem_pairsOf.mp hp
      rw [hlr2] at g1 g2
      unfold relS at g3
      rw [rowAt_rel g1, rowS_bit, decide_eq_true_eq] at g3
      exact ((hmq _ _).mp g3).2.2
    · intro h
      have := hb _ h
      refine ⟨(j, i), mem_pairsOf.mpr ⟨by have := this.2; simp only at this; omega, by omega, ?_⟩, rfl⟩
      unfold relS
      rw [rowAt_rel this.2, rowS_bit, decide_eq_true_eq]
      exact (hmq _ _).mpr ⟨this.2, this.1, h⟩
  rw [back] at t2
  have e := lrel_run (n := n) (ps := qs) (P := dPairs qs) (by omega) rfl fun p hp => by
    obtain ⟨i, j⟩ := p
    have := (hmq i j).mp hp
    exact ⟨this.1, by have := this.2.1; show j < 1000; omega⟩
  rw [rel_OS (qs := qs) fun i j _ => Iff.rfl] at e
  have hlk : Lk 5 (dRel (relS n qs)) := lk_up (lk_rel (by rw [l_len]; omega)) (by omega)
  have hlk2 : Lk 5 (dRel (relS n ps)) := lk_up (lk_rel (by rw [l_len]; omega)) (by omega)
  have hn2 := neD_refl hlk2 (by omega)
  unfold RS RR
  rw [hq]
  generalize hρ : R a (bx ds) x2 (vN n) (vD (dPairs ps)) (vD (dPairs ps)) (vD (dRel (relS n ps))) (vD (dRel (relS n ps))) (vD (dPairs (pairsOf (relS n ps)))) (vD (dPairs qs)) = ρ
  have hc1 : callR FT [.s 7] ρ = .ok (dRel (relS n qs)) ρ := by
    subst hρ
    exact callR_ok (by simp [slotIx]) rfl t1 rfl
  have hc2 : callR FT [.d (dRel (relS n qs))] ρ = .ok (dRel (relS n ps)) ρ := by
    subst hρ
    exact callR_ok (by simp [slotIx]) rfl t2 rfl
  have hc3 : callR F_law_rel_of [.s 3, .s 9] ρ = .ok (dRel (relS n qs)) ρ := by
    subst hρ
    exact callR_ok (by simp [slotIx]) rfl e rfl
  have hc4 : callR FL [.d (dRel (relS n qs)), .d (dRel (relS n qs))] ρ = .ok (.bl true) ρ := by
    subst hρ
    exact callR_ok (by simp [slotIx]) rfl (like_run hlk) rfl
  have g3 : ρ[3]? = some (vN n) := by subst hρ; rfl
  have g6 : ρ[6]? = some (vD (dRel (relS n ps))) := by subst hρ; rfl
  have g7 : ρ[7]? = some (vD (dRel (relS n ps))) := by subst hρ; rfl
  have g9 : ρ[9]? = some (vD (dPairs qs)) := by subst hρ; rfl
  simp only [startR, then_r, if_r, tst_r, b2_r, b2N_r, k1_r, k2_r, varK, opd_r, frz_r, Opd.dat, O.frozen, ret_r, Rs.bnd_ok, optR_some, set_r, setN_r, item_r, retS_r, drop_r, cons_r, consA_r, lst_r, tup_r, var, checkL, ownL, putL, updL, setIx, backAll, backSlot, or_r, and_r, not_r, andV_r, orV_r, notV_r, asB, call_r, seqI_r, rngI_r, rngI2_r, asg_r, par_r, lm1_r, bndN, bndT, bndS, tupOf, wipeR, mixR, turn_r, turn2_r, g3, g6, g7, g9, hc1, hc2, hc3, hc4, hn2, Bool.not_true, Bool.false_eq_true, if_false]
theorem if4 (h0 : 0 < n) : (ifM (notM (tst (callM FL (consA (opdM (callM FP (consA (opdM (callM F_identity (consA (varK 3) (M.ret [])))) (M.ret [])))) (consA (opdM (frzM (lcM (rngI (var 3)) (bndN 12) (M.ret true) (tupM (consM (var 12) (consM (var 12) (M.ret [])))) [12]))) (M.ret [])))))) (retS (M.ret (.bl false))) (M.ret .nx)) (RS a x2 ds n ps) = .ok .nx (RS a x2 ds n ps) := by
  have hlc : lcM (rngI (var 3)) (bndN 12) (M.ret true) (tupM (consM (var 12) (consM (var 12) (M.ret [])))) [12] (RS a x2 ds n ps) = .ok (.lst ((List.range n).map fun i => dPair (i, i))) (RS a x2 ds n ps) := by
    refine lcM_mapS (f := fun k : Nat => dN k) (xs := List.range n) ?_ (fun i => dPair (i, i)) (fun k hk => ?_) ?_
    · rw [rngI_r, var_val (d := dN n) rfl, Rs.bnd_ok, rng1_nat (by omega), optR_some]
    · have z : sizedT [dN k, dN k] = some (dPair (k, k)) := by
        unfold sizedT
        rw [sizeLine_eq]
        rfl
      simp only [startR, then_r, if_r, tst_r, b2_r, b2N_r, k1_r, k2_r, varK, opd_r, frz_r, Opd.dat, O.frozen, ret_r, Rs.bnd_ok, optR_some, set_r, setN_r, item_r, retS_r, drop_r, cons_r, consA_r, lst_r, tup_r, var, checkL, ownL, putL, updL, setIx, backAll, backSlot, or_r, and_r, not_r, andV_r, orV_r, notV_r, asB, call_r, seqI_r, rngI_r, rngI2_r, asg_r, par_r, lm1_r, bndN, bndT, bndS, tupOf, wipeR, mixR, turn_r, turn2_r, List.getElem?_cons_zero, List.getElem?_cons_succ, List.set_cons_succ, List.set_cons_zero, if_true, z]
      rfl
    · rw [List.length_range]
      exact lt_size (by omega)
  have hp := pairs_run (rows := (List.range n).map (2 ^ ·)) (by rw [List.length_map, List.length_range]; omega)
  rw [id_pairs] at hp
  have hli : ((List.range n).map fun i => (i, i)).length < 100000 := by
    rw [List.length_map, List.length_range]
    omega
  have hlk := lk_up (lk_pairs hli) (show 3 ≤ 5 by omega)
  have hd : D.lst ((List.range n).map fun i => dPair (i, i)) = dPairs ((List.range n).map fun i => (i, i)) := by
    unfold dPairs
    rw [List.map_map]
    rfl
  generalize hρ : RS a x2 ds n ps = ρ at hlc ⊢
  have hc1 : callR F_identity [.s 3] ρ = .ok (dRel ((List.range n).map (2 ^ ·))) ρ := by
    subst hρ
    exact callR_ok (by simp [slotIx]) rfl (identity_run (by omega)) rfl
  have hc2 : callR FP [.d (dRel ((List.range n).map (2 ^ ·)))] ρ = .ok (dPairs ((List.range n).map fun i => (i, i))) ρ := by
    subst hρ
    exact callR_ok (by simp [slotIx]) rfl hp rfl
  have hc3 : callR FL [.d (dPairs ((List.range n).map fun i => (i, i))), .d (dPairs ((List.range n).map fun i => (i, i)))] ρ = .ok (.bl true) ρ := by
    subst hρ
    exact callR_ok (by simp [slotIx]) rfl (like_run hlk) rfl
  have g3 : ρ[3]? = some (vN n) := by subst hρ; rfl
  have hf : O.frozen (.lst ((List.range n).map fun i => dPair (i, i))) = dPairs ((List.range n).map fun i => (i, i)) := hd
  simp only [if_r, not_r, tst_r, call_r, consA_r, opd_r, varK, g3, Rs.bnd_ok, ret_r, hc1, hc2, frz_r, hlc, hf, hc3, asB, optR_some, Bool.not_true, Bool.false_eq_true, if_false]
theorem if5 (h0 : 0 < n) : (ifM (tst (k2 neD (opdM (callM F_relation_of (consA (varK 3) (consA (opdM (frzM (lstM (M.ret [])))) (M.ret []))))) (opdM (b2 mulD (tupM (consM (M.ret (.int 0)) (M.ret []))) (var 3))))) (retS (M.ret (.bl false))) (M.ret .nx)) (RS a x2 ds n ps) = .ok .nx (RS a x2 ds n ps) := by
  have hr := rel_ok (n := n) (ps := []) h1 (by simp) (by simp) (.lst []) rfl
  have hz : sizedL ([] : List D) = some (.lst []) := by simp [sizedL]
  have hz1 : sizedT [D.int 0] = some (.tup [.int 0]) := by
    unfold sizedT
    rw [sizeLine_eq]
    rfl
  have hm : mulD (.tup [.int 0]) (dN n) = some (dRel (relS n [])) := by
    have hrep : (List.replicate n [D.int 0]).flatten = (relS n []).map fun r => dN r := by
      unfold relS
      rw [List.map_map]
      apply List.ext_getElem?
      intro i
      rw [List.flatten_replicate_singleton, List.getElem?_map, List.getElem?_replicate]
      by_cases hi : i < n
      · rw [if_pos hi, List.getElem?_range hi]
        rfl
      · rw [if_neg hi, List.getElem?_eq_none (by simp; omega)]
        rfl
    by_cases hn1 : n = 1
    · subst hn1
      rfl
    · have c1 : ¬ (n : Int) = 1 := by omega
      have c2 : (decide ([D.int 0] ≠ []) && decide (2 ≤ (n : Int)) && decide ((n : Int) ≤ 1000) && decide ([D.int 0].length ≤ 1000)) = true := by
        simp
        omega
      simp only [mulD, if_neg c1, c2, if_true, Int.toNat_natCast, hrep]
      rfl
  have hlk := lk_up (lk_rel (rows := relS n []) (by rw [l_len]; omega)) (show 2 ≤ 5 by omega)
  have hn2 := neD_refl hlk (by omega)
  generalize hρ : RS a x2 ds n ps = ρ
  have hc1 : callR F_relation_of [.s 3, .d (.lst [])] ρ = .ok (dRel (relS n [])) ρ := by
    subst hρ
    exact callR_ok (by simp [slotIx]) rfl hr rfl
  have g3 : ρ[3]? = some (vN n) := by subst hρ; rfl
  simp only [startR, then_r, if_r, tst_r, b2_r, b2N_r, k1_r, k2_r, varK, opd_r, frz_r, Opd.dat, O.frozen, ret_r, Rs.bnd_ok, optR_some, set_r, setN_r, item_r, retS_r, drop_r, cons_r, consA_r, lst_r, tup_r, var, checkL, ownL, putL, updL, setIx, backAll, backSlot, or_r, and_r, not_r, andV_r, orV_r, notV_r, asB, call_r, seqI_r, rngI_r, rngI2_r, asg_r, par_r, lm1_r, bndN, bndT, bndS, tupOf, wipeR, mixR, turn_r, turn2_r, g3, hc1, hz, hz1, hm, hn2, Bool.false_eq_true, if_false]
end
end Nc

/-! the box opened; the law's run; its promise. -/
namespace Nc
open PySem PySem.Spec PyProof.Rows L2
/-! the law -/
theorem tail_ok {a x2 x3 x4 x5 x6 x7 x8 x9 : Option Slot} {ds : List D} : ∃ ρ', (retS (andV (k2 eqD (opdM (callM F_identity (consA (opdM (M.ret (.int 1))) (M.ret [])))) (opdM (tupM (consM (M.ret (.int 1)) (M.ret []))))) (k2 eqD (opdM (callM F_relation_of (consA (opdM (M.ret (.int 12))) (consA (opdM (frzM (lstM (consM (tupM (consM (M.ret (.int 0)) (consM (M.ret (.int 11)) (M.ret [])))) (consM (tupM (consM (M.ret (.int 11)) (consM (M.ret (.int 0)) (M.ret [])))) (M.ret [])))))) (M.ret []))))) (opdM (b2 addD (b2 addD (tupM (consM (M.ret (.int 2048)) (M.ret []))) (b2 mulD (tupM (consM (M.ret (.int 0)) (M.ret []))) (M.ret (.int 10)))) (tupM (consM (M.ret (.int 1)) (M.ret [])))))))) (R a (bx ds) x2 x3 x4 x5 x6 x7 x8 x9) = .ok (.rt (.bl true)) ρ' := by
  have s1 : ∀ d : D, sizedT [d] = some (.tup [d]) := fun d => by
    unfold sizedT
    rw [sizeLine_eq]
    rfl
  have s2 : ∀ d e : D, sizedT [d, e] = some (.tup [d, e]) := fun d e => by
    unfold sizedT
    rw [sizeLine_eq]
    rfl
  have s3 : ∀ d e : D, sizedL [d, e] = some (.lst [d, e]) := fun d e => by
    unfold sizedL
    rw [sizeLine_eq]
    rfl
  have z : ∀ i : Int, D.tup [.int i] = .tup [.int i] := fun _ => rfl
  have e1 : dRel ((List.range 1).map (2 ^ ·)) = .tup [.int 1] := rfl
  have r1 := identity_run (n := 1) (by omega)
  rw [e1] at r1
  have hps : ∀ p ∈ [((0 : Nat), (11 : Nat)), (11, 0)], p.1 < 12 ∧ p.2 < 12 := by decide
  have r2 := rel_ok (n := 12) (ps := [(0, 11), (11, 0)]) (by omega) (by decide) hps (.lst [.tup [.int 0, .int 11], .tup [.int 11, .int 0]]) rfl
  have e2 : dRel (relS 12 [(0, 11), (11, 0)]) = .tup [.int 2048, .int 0, .int 0, .int 0, .int 0, .int 0, .int 0, .int 0, .int 0, .int 0, .int 0, .int 1] := by
    have : relS 12 [(0, 11), (11, 0)] = [2048, 0, 0, 0, 0, 0, 0, 0, 0, 0, 0, 1] := by decide +kernel
    rw [this]
    rfl
  rw [e2] at r2
  have m1 : mulD (.tup [.int 0]) (.int 10) = some (.tup [.int 0, .int 0, .int 0, .int 0, .int 0, .int 0, .int 0, .int 0, .int 0, .int 0]) := rfl
  have a1 : addD (.tup [.int 2048]) (.tup [.int 0, .int 0, .int 0, .int 0, .int 0, .int 0, .int 0, .int 0, .int 0, .int 0]) = some (.tup [.int 2048, .int 0, .int 0, .int 0, .int 0, .int 0, .int 0, .int 0, .int 0, .int 0, .int 0]) := by
    have c : [D.int 2048].length + [D.int 0, .int 0, .int 0, .int 0, .int 0, .int 0, .int 0, .int 0, .int 0, .int 0].length ≤ sizeLine := by
      rw [sizeLine_eq]
      decide
    simp only [addD, if_pos c]
    rfl
  have a2 : addD (.tup [.int 2048, .int 0, .int 0, .int 0, .int 0, .int 0, .int 0, .int 0, .int 0, .int 0, .int 0]) (.tup [.int 1]) = some (.tup [.int 2048, .int 0, .int 0, .int 0, .int 0, .int 0, .int 0, .int 0, .int 0, .int 0, .int 0, .int 1]) := by
    have c : [D.int 2048, .int 0, .int 0, .int 0, .int 0, .int 0, .int 0, .int 0, .int 0, .int 0, .int 0].length + [D.int 1].length ≤ sizeLine := by
      rw [sizeLine_eq]
      decide
    simp only [addD, if_pos c]
    rfl
  have q1 : eqD (.tup [.int 1]) (.tup [.int 1]) = some (.bl true) := by
    have := eqD_refl (lk_rel (rows := (List.range 1).map (2 ^ ·)) (by decide)) (by omega)
    rw [e1] at this
    exact this
  have q2 := eqD_refl (lk_rel (rows := relS 12 [(0, 11), (11, 0)]) (by decide)) (by omega)
  rw [e2] at q2
  generalize R a (bx ds) x2 x3 x4 x5 x6 x7 x8 x9 = ρ
  have c1 : callR F_identity [.d (.int 1)] ρ = .ok (.tup [.int 1]) ρ := callR_ok (by simp [slotIx]) rfl r1 rfl
  have c2 : callR F_relation_of [.d (.int 12), .d (.lst [.tup [.int 0, .int 11], .tup [.int 11, .int 0]])] ρ = .ok _ ρ := callR_ok (by simp [slotIx]) rfl r2 rfl
  refine ⟨ρ, ?_⟩
  simp only [startR, then_r, if_r, tst_r, b2_r, b2N_r, k1_r, k2_r, varK, opd_r, frz_r, Opd.dat, O.frozen, ret_r, Rs.bnd_ok, optR_some, set_r, setN_r, item_r, retS_r, drop_r, cons_r, consA_r, lst_r, tup_r, var, checkL, ownL, putL, updL, setIx, backAll, backSlot, or_r, and_r, not_r, andV_r, orV_r, notV_r, asB, call_r, seqI_r, rngI_r, rngI2_r, asg_r, par_r, lm1_r, bndN, bndT, bndS, tupOf, wipeR, mixR, turn_r, turn2_r, s1, s2, s3, c1, c2, m1, a1, a2, q1, q2, if_true]
theorem turn_ok {a x2 x3 x4 x5 x6 x7 x8 x9 : Option Slot} {ds : List D} (hB : IsBox ds) : ∃ ds' y3 y4 y5 y6 y7 y8 y9, turnK1 (R a (bx ds) x2 x3 x4 x5 x6 x7 x8 x9) = .ok .nx (R a (bx ds') x2 y3 y4 y5 y6 y7 y8 y9) ∧ IsBox ds' := by
  obtain ⟨n, ds1, e3, hB1, h0, h1⟩ := st3 (a := a) (x2 := x2) (x3 := x3) (x4 := x4) (x5 := x5) (x6 := x6) (x7 := x7) (x8 := x8) (x9 := x9) hB
  obtain ⟨ps, ds2, e4, hB2, hl, hb⟩ := st4 (a := a) (x2 := x2) (x4 := x4) (x5 := x5) (x6 := x6) (x7 := x7) (x8 := x8) (x9 := x9) hB1 h0 h1
  refine ⟨ds2, vN n, vD (dPairs ps), vD (dPairs ps), vD (dRel (relS n ps)), vD (dRel (relS n ps)), vD (dPairs (pairsOf (relS n ps))), vD (dPairs ((pairsOf (relS n ps)).map swp)), ?_, hB2⟩
  exact (thenS_ok e3).trans ((thenS_ok e4).trans ((thenS_ok (st5 h1 hl hb)).trans ((thenS_ok (st7 h1 hl hb)).trans ((thenS_ok (if1 h1 hl hb)).trans ((thenS_ok (st8 h1 hl hb)).trans ((thenS_ok (if2 h1 hl hb)).trans ((thenS_ok (st9 h1 hl hb)).trans ((thenS_ok (if3 h1 hl hb)).trans ((thenS_ok (if4 h1 hl hb h0)).trans (if5 h1 hl hb h0))))))))))
theorem law_run {a : Option Slot} {ds : List D} (hB : IsBox ds) : ∃ ρ', h_law F_law_pull (F_law_pairs F_law_pull) F_law_rel_of F_relation_of FL FP FT F_identity (R a (bx ds) none none none none none none none none) = .ok (.rt (.bl true)) ρ' := by
  obtain ⟨ρ, e, ds', x2, x3, x4, x5, x6, x7, x8, x9, hB', rfl⟩ := forS_run (src := rngI (M.ret (.int 6))) (bnd := bndN 2) (body := turnK1) (ds := (List.range 6).map fun k => D.int (k : Nat)) (ρ := R a (bx ds) none none none none none none none none) (ρ0 := R a (bx ds) none none none none none none none none)
    (by
      rw [rngI_r, ret_r, Rs.bnd_ok]
      have := rng1_nat (n := 6) (by omega)
      exact (congrArg (optR · _) this).trans optR_some)
    (fun i ρ => ∃ ds x2 x3 x4 x5 x6 x7 x8 x9, IsBox ds ∧ ρ = R a (bx ds) x2 x3 x4 x5 x6 x7 x8 x9) ⟨ds, none, none, none, none, none, none, none, none, hB, rfl⟩ (fun i d ρ hd ⟨ds, x2, x3, x4, x5, x6, x7, x8, x9, hB, hρ⟩ => by
      subst hρ
      obtain ⟨ds', y3, y4, y5, y6, y7, y8, y9, e, hB'⟩ := turn_ok (a := a) (x2 := vD d) (x3 := x3) (x4 := x4) (x5 := x5) (x6 := x6) (x7 := x7) (x8 := x8) (x9 := x9) hB
      exact ⟨_, _, rfl, .inl e, ds', vD d, y3, y4, y5, y6, y7, y8, y9, hB', rfl⟩)
  obtain ⟨ρ', e2⟩ := tail_ok (a := a) (x2 := x2) (x3 := x3) (x4 := x4) (x5 := x5) (x6 := x6) (x7 := x7) (x8 := x8) (x9 := x9) (ds := ds')
  exact ⟨ρ', (thenS_ok e).trans e2⟩
end Nc

namespace Nc
open PySem PySem.Spec PyProof.Rows L2
section
variable {P : Program} {w : World} {K : PySem.W.Frag} {mg : Str → Option Value} {base : Heap}
theorem ok_law {f_identity : Addr} {fd_identity : FuncData} (U_identity : Fun K "identity" "identity" s_identity f_identity fd_identity) (g_identity : mg "identity" = some (.ref f_identity))
  {f_relation_of : Addr} {fd_relation_of : FuncData} (U_relation_of : Fun K "relation_of" "relation_of" s_relation_of f_relation_of fd_relation_of) (g_relation_of : mg "relation_of" = some (.ref f_relation_of))
  {f_bits_of : Addr} {fd_bits_of : FuncData} (U_bits_of : Fun K "bits_of" "bits_of" s_bits_of f_bits_of fd_bits_of) (g_bits_of : mg "bits_of" = some (.ref f_bits_of))
  {f_pairs_of : Addr} {fd_pairs_of : FuncData} (U_pairs_of : Fun K "pairs_of" "pairs_of" s_pairs_of f_pairs_of fd_pairs_of) (g_pairs_of : mg "pairs_of" = some (.ref f_pairs_of))
  {f_turned : Addr} {fd_turned : FuncData} (U_turned : Fun K "turned" "turned" s_turned f_turned fd_turned) (g_turned : mg "turned" = some (.ref f_turned))
  {f_law_open : Addr} {fd_law_open : FuncData} (U_law_open : Fun K "_law_open" "_law_open" s_law_open f_law_open fd_law_open) (g_law_open : mg "_law_open" = some (.ref f_law_open))
  {f_law_pull : Addr} {fd_law_pull : FuncData} (U_law_pull : Fun K "_law_pull" "_law_pull" s_law_pull f_law_pull fd_law_pull) (g_law_pull : mg "_law_pull" = some (.ref f_law_pull))
  {f_law_like : Addr} {fd_law_like : FuncData} (U_law_like : Fun K "_law_like" "_law_like" s_law_like f_law_like fd_law_like) (g_law_like : mg "_law_like" = some (.ref f_law_like))
  {f_law_pairs : Addr} {fd_law_pairs : FuncData} (U_law_pairs : Fun K "_law_pairs" "_law_pairs" s_law_pairs f_law_pairs fd_law_pairs) (g_law_pairs : mg "_law_pairs" = some (.ref f_law_pairs))
  {f_law_rel_of : Addr} {fd_law_rel_of : FuncData} (U_law_rel_of : Fun K "_law_rel_of" "_law_rel_of" s_law_rel_of f_law_rel_of fd_law_rel_of) (g_law_rel_of : mg "_law_rel_of" = some (.ref f_law_rel_of))
  {f : Addr} {fd : FuncData} (U_law : Fun K "law" "law" s_law f fd)
  (m_all : mg "all" = none)
  (m_bool : mg "bool" = none)
  (m_int : mg "int" = none)
  (m_isinstance : mg "isinstance" = none)
  (m_len : mg "len" = none)
  (m_list : mg "list" = none)
  (m_range : mg "range" = none)
  (m_set : mg "set" = none)
  (m_sorted : mg "sorted" = none)
  (m_sum : mg "sum" = none)
  (m_tuple : mg "tuple" = none) : FnOk P w K mg base (L2.CX P w) 6 f fd ["_law_script"] (spLaw K) := by
  have b_identity : Binds K fd_identity ["states"] [] := U_identity.binds (ps := ["states"]) fun _ _ _ _ _ _ us hl => match us, hl with | [_], _ => rfl
  have kp_identity := U_identity.kp
  have b_relation_of : Binds K fd_relation_of ["states", "pairs"] [] := U_relation_of.binds (ps := ["states", "pairs"]) fun _ _ _ _ _ _ us hl => match us, hl with | [_, _], _ => rfl
  have kp_relation_of := U_relation_of.kp
  have b_bits_of : Binds K fd_bits_of ["row", "states"] [] := U_bits_of.binds (ps := ["row", "states"]) fun _ _ _ _ _ _ us hl => match us, hl with | [_, _], _ => rfl
  have kp_bits_of := U_bits_of.kp
  have b_pairs_of : Binds K fd_pairs_of ["relation"] [] := U_pairs_of.binds (ps := ["relation"]) fun _ _ _ _ _ _ us hl => match us, hl with | [_], _ => rfl
  have kp_pairs_of := U_pairs_of.kp
  have b_turned : Binds K fd_turned ["relation"] [] := U_turned.binds (ps := ["relation"]) fun _ _ _ _ _ _ us hl => match us, hl with | [_], _ => rfl
  have kp_turned := U_turned.kp
  have b_law_open : Binds K fd_law_open ["_law_script"] [] := U_law_open.binds (ps := ["_law_script"]) fun _ _ _ _ _ _ us hl => match us, hl with | [_], _ => rfl
  have kp_law_open := U_law_open.kp
  have b_law_pull : Binds K fd_law_pull ["_law_box", "_law_many"] [] := U_law_pull.binds (ps := ["_law_box", "_law_many"]) fun _ _ _ _ _ _ us hl => match us, hl with | [_, _], _ => rfl
  have kp_law_pull := U_law_pull.kp
  have b_law_like : Binds K fd_law_like ["_law_found", "_law_due"] [] := U_law_like.binds (ps := ["_law_found", "_law_due"]) fun _ _ _ _ _ _ us hl => match us, hl with | [_, _], _ => rfl
  have kp_law_like := U_law_like.kp
  have b_law_pairs : Binds K fd_law_pairs ["_law_box", "_law_many", "_law_top"] [] := U_law_pairs.binds (ps := ["_law_box", "_law_many", "_law_top"]) fun _ _ _ _ _ _ us hl => match us, hl with | [_, _, _], _ => rfl
  have kp_law_pairs := U_law_pairs.kp
  have b_law_rel_of : Binds K fd_law_rel_of ["_law_many", "_law_pairs_here"] [] := U_law_rel_of.binds (ps := ["_law_many", "_law_pairs_here"]) fun _ _ _ _ _ _ us hl => match us, hl with | [_, _], _ => rfl
  have kp_law_rel_of := U_law_rel_of.kp
  have G_identity : FnOk P w K mg base (L2.CX P w) 1 f_identity fd_identity ["states"] (spD K F_identity) := ok_identity (k := 0) U_identity m_range m_tuple
  have G_relation_of : FnOk P w K mg base (L2.CX P w) 1 f_relation_of fd_relation_of ["states", "pairs"] (spD K F_relation_of) := ok_relation_of (k := 0) U_relation_of m_range m_sorted m_sum m_tuple
  have G_bits_of : FnOk P w K mg base (L2.CX P w) 1 f_bits_of fd_bits_of ["row", "states"] (spD K F_bits_of) := ok_bits_of (k := 0) U_bits_of m_range
  have G_pairs_of : FnOk P w K mg base (L2.CX P w) 2 f_pairs_of fd_pairs_of ["relation"] (spD K FP) := ok_pairs_of (k := 1) U_pairs_of (G_bits_of.mono (by decide)) g_bits_of kp_bits_of b_bits_of m_len m_range
  have G_turned : FnOk P w K mg base (L2.CX P w) 3 f_turned fd_turned ["relation"] (spD K FT) := ok_turned (k := 2) U_turned (G_relation_of.mono (by decide)) g_relation_of kp_relation_of b_relation_of (G_pairs_of.mono (by decide)) g_pairs_of kp_pairs_of b_pairs_of m_len
  have G_law_open : FnOk P w K mg base (L2.CX P w) 1 f_law_open fd_law_open ["_law_script"] (spOpen K) := ok_open (k := 0) U_law_open m_int m_len
  have G_law_pull : FnOk P w K mg base (L2.CX P w) 1 f_law_pull fd_law_pull ["_law_box", "_law_many"] (spD K F_law_pull) := ok_law_pull (k := 0) U_law_pull m_int m_len
  have G_law_like : FnOk P w K mg base (L2.CX P w) 5 f_law_like fd_law_like ["_law_found", "_law_due"] (spD K FL) := (ok_law_like (k := 0) U_law_like m_all m_bool m_isinstance m_len m_list m_range m_tuple g_law_like b_law_like 5)
  have G_law_pairs : FnOk P w K mg base (L2.CX P w) 2 f_law_pairs fd_law_pairs ["_law_box", "_law_many", "_law_top"] (spD K (F_law_pairs F_law_pull)) := ok_law_pairs (k := 1) U_law_pairs (G_law_pull.mono (by decide)) g_law_pull kp_law_pull b_law_pull m_range
  have G_law_rel_of : FnOk P w K mg base (L2.CX P w) 1 f_law_rel_of fd_law_rel_of ["_law_many", "_law_pairs_here"] (spD K F_law_rel_of) := ok_law_rel_of (k := 0) U_law_rel_of m_tuple
  refine U_law.okX (k := 5) sc_law (fun vs H Q E h => ?_) (fun cdv A outer s H vs Q E hr h => ?_)
  · obtain ⟨a, ns, rfl, _⟩ := h
    rfl
  · obtain ⟨a, ns, rfl, hS, hl, q⟩ := h
    refine ⟨_, pss_cons (ps_set (i := 1) sc_law.nd rfl (.inl rfl) (pe_call (G_law_open.mono (by decide)) hr (by rfl) g_law_open kp_law_open b_law_open .nil passL (pa_cons (pv 0) pa_nil))) (dv_law hr (G_law_pull.mono (by decide)) g_law_pull kp_law_pull b_law_pull (G_law_pairs.mono (by decide)) g_law_pairs kp_law_pairs b_law_pairs (G_law_rel_of.mono (by decide)) g_law_rel_of kp_law_rel_of b_law_rel_of (G_relation_of.mono (by decide)) g_relation_of kp_relation_of b_relation_of (G_law_like.mono (by decide)) g_law_like kp_law_like b_law_like (G_pairs_of.mono (by decide)) g_pairs_of kp_pairs_of b_pairs_of (G_turned.mono (by decide)) g_turned kp_turned b_turned (G_identity.mono (by decide)) g_identity kp_identity b_identity m_list m_range m_set m_sorted m_tuple), ?_⟩
    refine ⟨.ref a, rfl, a, ns, rfl, hS, hl, fun H1 p c sv hp hc => ?_⟩
    obtain ⟨ρ', e⟩ := law_run (a := some (.val (.adr a))) (ds := boxD ns 0 0 sv) ⟨ns, 0, 0, sv, rfl, by omega⟩
    refine ⟨fun _ => 0, _, _, cf_box (a := a) hp hc 11, ?_⟩
    have e2 := congrArg (AtS K (fun cls d _ H => E cls d H) (fun _ => 0) (some (.ref a) :: some (.ref p) :: List.replicate 11 none) (upd (fun _ => none) c (.lst (ns.map V.int))) H1 (some (.val (.adr a)) :: some (.own 0 (.lst (boxD ns 0 0 sv))) :: List.replicate 11 none) { nx := fun _ H' => Q .non H', rt := Q }) e
    refine e2.mpr ?_
    intro v σ' B' H' st r
    have r := rep_bl r
    subst r
    exact q _
end
theorem all_mk {l : PySem.W.OpenLaw} {w : World} {K : PySem.W.Frag} {h : Heap} {mg : Str → Option Value} {fa : Addr} (X : K.In h) (G : h.Ns mainGlobals mg) (hfa : mg "law" = some (.ref fa))
    {f_identity : Addr} {od_identity an_identity : Option Addr} {sl_identity : Array (Option Value)} {oc_identity kV_identity dc_identity pm_identity cd_identity ct_identity : Value} (a_identity : PySem.W.nsIn K mainGlobals "identity" = some (some (.ref f_identity))) (l_identity : K.lookup f_identity = some ⟨oc_identity, od_identity, .func (PySem.W.fnOf "identity" "identity" (defArgs s_identity) (defBody s_identity) (defScope s_identity) .none kV_identity dc_identity pm_identity an_identity cd_identity ct_identity), sl_identity⟩) (c_identity : PySem.W.codeIn K cd_identity "identity" = true) (k_identity : PySem.W.keepIn K (.ref f_identity) = true)
    {f_relation_of : Addr} {od_relation_of an_relation_of : Option Addr} {sl_relation_of : Array (Option Value)} {oc_relation_of kV_relation_of dc_relation_of pm_relation_of cd_relation_of ct_relation_of : Value} (a_relation_of : PySem.W.nsIn K mainGlobals "relation_of" = some (some (.ref f_relation_of))) (l_relation_of : K.lookup f_relation_of = some ⟨oc_relation_of, od_relation_of, .func (PySem.W.fnOf "relation_of" "relation_of" (defArgs s_relation_of) (defBody s_relation_of) (defScope s_relation_of) .none kV_relation_of dc_relation_of pm_relation_of an_relation_of cd_relation_of ct_relation_of), sl_relation_of⟩) (c_relation_of : PySem.W.codeIn K cd_relation_of "relation_of" = true) (k_relation_of : PySem.W.keepIn K (.ref f_relation_of) = true)
    {f_bits_of : Addr} {od_bits_of an_bits_of : Option Addr} {sl_bits_of : Array (Option Value)} {oc_bits_of kV_bits_of dc_bits_of pm_bits_of cd_bits_of ct_bits_of : Value} (a_bits_of : PySem.W.nsIn K mainGlobals "bits_of" = some (some (.ref f_bits_of))) (l_bits_of : K.lookup f_bits_of = some ⟨oc_bits_of, od_bits_of, .func (PySem.W.fnOf "bits_of" "bits_of" (defArgs s_bits_of) (defBody s_bits_of) (defScope s_bits_of) .none kV_bits_of dc_bits_of pm_bits_of an_bits_of cd_bits_of ct_bits_of), sl_bits_of⟩) (c_bits_of : PySem.W.codeIn K cd_bits_of "bits_of" = true) (k_bits_of : PySem.W.keepIn K (.ref f_bits_of) = true)
    {f_pairs_of : Addr} {od_pairs_of an_pairs_of : Option Addr} {sl_pairs_of : Array (Option Value)} {oc_pairs_of kV_pairs_of dc_pairs_of pm_pairs_of cd_pairs_of ct_pairs_of : Value} (a_pairs_of : PySem.W.nsIn K mainGlobals "pairs_of" = some (some (.ref f_pairs_of))) (l_pairs_of : K.lookup f_pairs_of = some ⟨oc_pairs_of, od_pairs_of, .func (PySem.W.fnOf "pairs_of" "pairs_of" (defArgs s_pairs_of) (defBody s_pairs_of) (defScope s_pairs_of) .none kV_pairs_of dc_pairs_of pm_pairs_of an_pairs_of cd_pairs_of ct_pairs_of), sl_pairs_of⟩) (c_pairs_of : PySem.W.codeIn K cd_pairs_of "pairs_of" = true) (k_pairs_of : PySem.W.keepIn K (.ref f_pairs_of) = true)
    {f_turned : Addr} {od_turned an_turned : Option Addr} {sl_turned : Array (Option Value)} {oc_turned kV_turned dc_turned pm_turned cd_turned ct_turned : Value} (a_turned : PySem.W.nsIn K mainGlobals "turned" = some (some (.ref f_turned))) (l_turned : K.lookup f_turned = some ⟨oc_turned, od_turned, .func (PySem.W.fnOf "turned" "turned" (defArgs s_turned) (defBody s_turned) (defScope s_turned) .none kV_turned dc_turned pm_turned an_turned cd_turned ct_turned), sl_turned⟩) (c_turned : PySem.W.codeIn K cd_turned "turned" = true) (k_turned : PySem.W.keepIn K (.ref f_turned) = true)
    {f_law_open : Addr} {od_law_open an_law_open : Option Addr} {sl_law_open : Array (Option Value)} {oc_law_open kV_law_open dc_law_open pm_law_open cd_law_open ct_law_open : Value} (a_law_open : PySem.W.nsIn K mainGlobals "_law_open" = some (some (.ref f_law_open))) (l_law_open : K.lookup f_law_open = some ⟨oc_law_open, od_law_open, .func (PySem.W.fnOf "_law_open" "_law_open" (defArgs s_law_open) (defBody s_law_open) (defScope s_law_open) .none kV_law_open dc_law_open pm_law_open an_law_open cd_law_open ct_law_open), sl_law_open⟩) (c_law_open : PySem.W.codeIn K cd_law_open "_law_open" = true) (k_law_open : PySem.W.keepIn K (.ref f_law_open) = true)
    {f_law_pull : Addr} {od_law_pull an_law_pull : Option Addr} {sl_law_pull : Array (Option Value)} {oc_law_pull kV_law_pull dc_law_pull pm_law_pull cd_law_pull ct_law_pull : Value} (a_law_pull : PySem.W.nsIn K mainGlobals "_law_pull" = some (some (.ref f_law_pull))) (l_law_pull : K.lookup f_law_pull = some ⟨oc_law_pull, od_law_pull, .func (PySem.W.fnOf "_law_pull" "_law_pull" (defArgs s_law_pull) (defBody s_law_pull) (defScope s_law_pull) .none kV_law_pull dc_law_pull pm_law_pull an_law_pull cd_law_pull ct_law_pull), sl_law_pull⟩) (c_law_pull : PySem.W.codeIn K cd_law_pull "_law_pull" = true) (k_law_pull : PySem.W.keepIn K (.ref f_law_pull) = true)
    {f_law_like : Addr} {od_law_like an_law_like : Option Addr} {sl_law_like : Array (Option Value)} {oc_law_like kV_law_like dc_law_like pm_law_like cd_law_like ct_law_like : Value} (a_law_like : PySem.W.nsIn K mainGlobals "_law_like" = some (some (.ref f_law_like))) (l_law_like : K.lookup f_law_like = some ⟨oc_law_like, od_law_like, .func (PySem.W.fnOf "_law_like" "_law_like" (defArgs s_law_like) (defBody s_law_like) (defScope s_law_like) .none kV_law_like dc_law_like pm_law_like an_law_like cd_law_like ct_law_like), sl_law_like⟩) (c_law_like : PySem.W.codeIn K cd_law_like "_law_like" = true) (k_law_like : PySem.W.keepIn K (.ref f_law_like) = true)
    {f_law_pairs : Addr} {od_law_pairs an_law_pairs : Option Addr} {sl_law_pairs : Array (Option Value)} {oc_law_pairs kV_law_pairs dc_law_pairs pm_law_pairs cd_law_pairs ct_law_pairs : Value} (a_law_pairs : PySem.W.nsIn K mainGlobals "_law_pairs" = some (some (.ref f_law_pairs))) (l_law_pairs : K.lookup f_law_pairs = some ⟨oc_law_pairs, od_law_pairs, .func (PySem.W.fnOf "_law_pairs" "_law_pairs" (defArgs s_law_pairs) (defBody s_law_pairs) (defScope s_law_pairs) .none kV_law_pairs dc_law_pairs pm_law_pairs an_law_pairs cd_law_pairs ct_law_pairs), sl_law_pairs⟩) (c_law_pairs : PySem.W.codeIn K cd_law_pairs "_law_pairs" = true) (k_law_pairs : PySem.W.keepIn K (.ref f_law_pairs) = true)
    {f_law_rel_of : Addr} {od_law_rel_of an_law_rel_of : Option Addr} {sl_law_rel_of : Array (Option Value)} {oc_law_rel_of kV_law_rel_of dc_law_rel_of pm_law_rel_of cd_law_rel_of ct_law_rel_of : Value} (a_law_rel_of : PySem.W.nsIn K mainGlobals "_law_rel_of" = some (some (.ref f_law_rel_of))) (l_law_rel_of : K.lookup f_law_rel_of = some ⟨oc_law_rel_of, od_law_rel_of, .func (PySem.W.fnOf "_law_rel_of" "_law_rel_of" (defArgs s_law_rel_of) (defBody s_law_rel_of) (defScope s_law_rel_of) .none kV_law_rel_of dc_law_rel_of pm_law_rel_of an_law_rel_of cd_law_rel_of ct_law_rel_of), sl_law_rel_of⟩) (c_law_rel_of : PySem.W.codeIn K cd_law_rel_of "_law_rel_of" = true) (k_law_rel_of : PySem.W.keepIn K (.ref f_law_rel_of) = true)
    {f_law : Addr} {od_law an_law : Option Addr} {sl_law : Array (Option Value)} {oc_law kV_law dc_law pm_law cd_law ct_law : Value} (a_law : PySem.W.nsIn K mainGlobals "law" = some (some (.ref f_law))) (l_law : K.lookup f_law = some ⟨oc_law, od_law, .func (PySem.W.fnOf "law" "law" (defArgs s_law) (defBody s_law) (defScope s_law) .none kV_law dc_law pm_law an_law cd_law ct_law), sl_law⟩) (c_law : PySem.W.codeIn K cd_law "law" = true) (k_law : PySem.W.keepIn K (.ref f_law) = true)
    (z_all : PySem.W.nsIn K mainGlobals "all" = some none)
    (z_bool : PySem.W.nsIn K mainGlobals "bool" = some none)
    (z_int : PySem.W.nsIn K mainGlobals "int" = some none)
    (z_isinstance : PySem.W.nsIn K mainGlobals "isinstance" = some none)
    (z_len : PySem.W.nsIn K mainGlobals "len" = some none)
    (z_list : PySem.W.nsIn K mainGlobals "list" = some none)
    (z_range : PySem.W.nsIn K mainGlobals "range" = some none)
    (z_set : PySem.W.nsIn K mainGlobals "set" = some none)
    (z_sorted : PySem.W.nsIn K mainGlobals "sorted" = some none)
    (z_sum : PySem.W.nsIn K mainGlobals "sum" = some none)
    (z_tuple : PySem.W.nsIn K mainGlobals "tuple" = some none)
    : ∃ fd : FuncData, (∀ (s : Shared) (v : Value), BindsTo s fd ⟨[v], []⟩ [("_law_script", v)]) ∧ ∀ base : Heap, K.In base → base.Ns mainGlobals mg → FnOk l.prog w K mg base (L2.CX l.prog w) 6 fa fd ["_law_script"] (spLaw K) := by
  have e := hfa.symm.trans (PySem.W.mg_of X G a_law)
  cases e
  exact ⟨PySem.W.fnOf "law" "law" (defArgs s_law) (defBody s_law) (defScope s_law) .none kV_law dc_law pm_law an_law cd_law ct_law, fun s v => .of_eq rfl, fun base _ _ => ok_law (fun_mk (st := s_identity) l_identity c_identity k_identity) (PySem.W.mg_of X G a_identity) (fun_mk (st := s_relation_of) l_relation_of c_relation_of k_relation_of) (PySem.W.mg_of X G a_relation_of) (fun_mk (st := s_bits_of) l_bits_of c_bits_of k_bits_of) (PySem.W.mg_of X G a_bits_of) (fun_mk (st := s_pairs_of) l_pairs_of c_pairs_of k_pairs_of) (PySem.W.mg_of X G a_pairs_of) (fun_mk (st := s_turned) l_turned c_turned k_turned) (PySem.W.mg_of X G a_turned) (fun_mk (st := s_law_open) l_law_open c_law_open k_law_open) (PySem.W.mg_of X G a_law_open) (fun_mk (st := s_law_pull) l_law_pull c_law_pull k_law_pull) (PySem.W.mg_of X G a_law_pull) (fun_mk (st := s_law_like) l_law_like c_law_like k_law_like) (PySem.W.mg_of X G a_law_like) (fun_mk (st := s_law_pairs) l_law_pairs c_law_pairs k_law_pairs) (PySem.W.mg_of X G a_law_pairs) (fun_mk (st := s_law_rel_of) l_law_rel_of c_law_rel_of k_law_rel_of) (PySem.W.mg_of X G a_law_rel_of) (fun_mk (st := s_law) l_law c_law k_law) (PySem.W.mg_none_of X G z_all) (PySem.W.mg_none_of X G z_bool) (PySem.W.mg_none_of X G z_int) (PySem.W.mg_none_of X G z_isinstance) (PySem.W.mg_none_of X G z_len) (PySem.W.mg_none_of X G z_list) (PySem.W.mg_none_of X G z_range) (PySem.W.mg_none_of X G z_set) (PySem.W.mg_none_of X G z_sorted) (PySem.W.mg_none_of X G z_sum) (PySem.W.mg_none_of X G z_tuple)⟩
end Nc
open PySem PySem.W PyProof.Rows
set_option maxHeartbeats 0 in
theorem PySem.Challenge.cw_nearclerk_k01_relations_of_pairs_holds : PySem.Challenge.rw_nearclerk_k01_relations_of_pairs.Holds := by
  w_on; o_law; k_head; (case hw => w_witness2)
  k_fill
  refine L2.walk_of (l := PySem.Challenge.rw_nearclerk_k01_relations_of_pairs) (n := 63) (k := 6) (x := "_law_script") (CX := fun w => L2.CX PySem.Challenge.rw_nearclerk_k01_relations_of_pairs.prog w) (sp := fun w => Nc.spLaw _) rfl (by decide) rfl ⟨rfl, by decide, by decide⟩ (fun w h Y => PySem.W.kIn_of Y) ?F (fun _ _ a ns hl _ hS => ⟨a, ns, rfl, hS, hl, fun _ => rfl⟩) (fun _ _ _ _ _ h => by obtain ⟨_, _, _, _, _, _, _, _, _, _, _, _, z⟩ := h; exact z.elim)
  case F =>
    intro w mg fa h KX G hmg
    refine' Nc.all_mk KX G hmg ?a_identity ?l_identity ?c_identity ?k_identity ?a_relation_of ?l_relation_of ?c_relation_of ?k_relation_of ?a_bits_of ?l_bits_of ?c_bits_of ?k_bits_of ?a_pairs_of ?l_pairs_of ?c_pairs_of ?k_pairs_of ?a_turned ?l_turned ?c_turned ?k_turned ?a_law_open ?l_law_open ?c_law_open ?k_law_open ?a_law_pull ?l_law_pull ?c_law_pull ?k_law_pull ?a_law_like ?l_law_like ?c_law_like ?k_law_like ?a_law_pairs ?l_law_pairs ?c_law_pairs ?k_law_pairs ?a_law_rel_of ?l_law_rel_of ?c_law_rel_of ?k_law_rel_of ?a_law ?l_law ?c_law ?k_law ?z_all ?z_bool ?z_int ?z_isinstance ?z_len ?z_list ?z_range ?z_set ?z_sorted ?z_sum ?z_tuple
    (case a_identity => k_is); (case l_identity => k_is); (case c_identity => k_is); (case k_identity => k_is); (case a_relation_of => k_is); (case l_relation_of => k_is); (case c_relation_of => k_is); (case k_relation_of => k_is); (case a_bits_of => k_is); (case l_bits_of => k_is); (case c_bits_of => k_is); (case k_bits_of => k_is); (case a_pairs_of => k_is); (case l_pairs_of => k_is); (case c_pairs_of => k_is); (case k_pairs_of => k_is); (case a_turned => k_is); (case l_turned => k_is); (case c_turned => k_is); (case k_turned => k_is); (case a_law_open => k_is); (case l_law_open => k_is); (case c_law_open => k_is); (case k_law_open => k_is); (case a_law_pull => k_is); (case l_law_pull => k_is); (case c_law_pull => k_is); (case k_law_pull => k_is); (case a_law_like => k_is); (case l_law_like => k_is); (case c_law_like => k_is); (case k_law_like => k_is); (case a_law_pairs => k_is); (case l_law_pairs => k_is); (case c_law_pairs => k_is); (case k_law_pairs => k_is); (case a_law_rel_of => k_is); (case l_law_rel_of => k_is); (case c_law_rel_of => k_is); (case k_law_rel_of => k_is); (case a_law => k_is); (case l_law => k_is); (case c_law => k_is); (case k_law => k_is); (case z_all => k_is); (case z_bool => k_is); (case z_int => k_is); (case z_isinstance => k_is); (case z_len => k_is); (case z_list => k_is); (case z_range => k_is); (case z_set => k_is); (case z_sorted => k_is); (case z_sum => k_is); (case z_tuple => k_is)

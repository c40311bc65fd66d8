import PyProof.Rows.All
import Wide.All
import OpenK.AllK
import Wide.FinOn
import HandS.ForMost
import HandS.Exc
import HandS.ExcOwn
import HandS.CallSlots
import HandS.Wide
import HandS.TupMul
import HandS.TupAny
import HandS.Deep
import HandS.Conv
import HandS.Strs
import HandS.SetBool
import HandS.TupSets
import HandS.SortInts
import HandS.IsInst
import HandS.Star
import HandS.WordsExc
import HandS.Zip
import HandS.TryOnly
import HandS.Style
import HandS.WideBits
import PySem.Challenge.RW_nearclerk_k04_exponents_that_settle
set_option Elab.async false
set_option linter.all false
set_option maxRecDepth 100000
set_option maxHeartbeats 4000000
/-! Data trees over the abstract heap: what a def does as a plain function on trees. -/
namespace Nc
open PySem PySem.Spec PyProof.Rows L2

/-! ### data -/
inductive D where
  | non | bl (b : Bool) | int (i : Int) | str (z : Str)
  | tup (ds : List D) | lst (ds : List D)
  | dk (ks : List Key) (ds : List D)
  | dt (ks : List (List Key)) (ds : List D)
  | ob (C : Addr) (fs : List Str) (ds : List D)
  | adr (a : Addr) | ty (n : String)
  /-- an object that may change: a cell of the virtual heap -/
  | ptr (n : Nat)

/-- what is frozen, and where the cells stand -/
structure Fz where
  h : Hp
  π : Nat → Option Addr
instance : CoeFun Fz fun _ => Addr → Option HO := ⟨Fz.h⟩
def Fz.upd (B : Fz) (p : Addr) (o : HO) : Fz := ⟨L2.upd B.h p o, B.π⟩
def Fz.add (B : Fz) (n : Nat) (p : Addr) : Fz := ⟨B.h, fun m => if m = n then some p else B.π m⟩
structure FSame (B B' : Fz) : Prop where
  h : Same B.h B'.h
  π : ∀ n a, B.π n = some a → B'.π n = some a
theorem FSame.refl (B : Fz) : FSame B B := ⟨Same.refl _, fun _ _ h => h⟩
theorem FSame.trans {A B C : Fz} (a : FSame A B) (b : FSame B C) : FSame A C := ⟨Same.trans a.h b.h, fun n p h => b.π n p (a.π n p h)⟩
theorem Fz.upd_same {B : Fz} {p : Addr} {o : HO} : (Fz.upd B p o) p = some o := L2.upd_same
theorem Fz.upd_ne {B : Fz} {p q : Addr} {o : HO} (h : q ≠ p) : (Fz.upd B p o) q = B q := L2.upd_ne h
theorem Fz.upd_π {B : Fz} {p : Addr} {o : HO} : (Fz.upd B p o).π = B.π := rfl
mutual
/-- the value v stands for the tree, read in the frozen part B -/
def Rep (K : PySem.W.Frag) (B : Fz) : D → V → Prop
  | .non, v => v = .non
  | .bl b, v => v = .bl b
  | .int i, v => v = .int i
  | .str z, v => v = .str z
  | .tup ds, v => ∃ a xs, v = .ref a ∧ SqT K B.h a xs ∧ Reps K B ds xs
  | .lst ds, v => ∃ a xs, v = .ref a ∧ B a = some (.lst xs) ∧ Reps K B ds xs
  | .dk ks ds, v => ∃ a xs, v = .ref a ∧ B a = some (.dK (ks.zip xs)) ∧ ks.length = xs.length ∧ Reps K B ds xs
  | .dt ks ds, v => ∃ a xs, v = .ref a ∧ B a = some (.dT (ks.zip xs)) ∧ ks.length = xs.length ∧ Reps K B ds xs
  | .ob C fs ds, v => ∃ a dx xs, v = .ref a ∧ B a = some (.ins C dx (fs.zip xs)) ∧ fs.length = xs.length ∧ Reps K B ds xs
  | .adr a, v => v = .ref a
  | .ty n, v => v = .ty n
  | .ptr n, v => ∃ a, v = .ref a ∧ B.π n = some a
def Reps (K : PySem.W.Frag) (B : Fz) : List D → List V → Prop
  | [], vs => vs = []
  | d :: ds, vs => ∃ x xs, vs = x :: xs ∧ Rep K B d x ∧ Reps K B ds xs
end

theorem Same.sqt {K : PySem.W.Frag} {H H' : Hp} {a : Addr} {xs : List V} (e : Same H H') (h : SqT K H a xs) : SqT K H' a xs := by
  rcases h with (h | ⟨o, h⟩) | h
  · exact .inl (.inl (e _ _ h))
  · exact .inl (.inr ⟨o, e _ _ h⟩)
  · exact .inr h

section
variable {K : PySem.W.Frag} {B B' : Fz} {H : Hp}
mutual
theorem Rep.mono (e : FSame B B') : ∀ {d : D} {v : V}, Rep K B d v → Rep K B' d v
  | .non, _, h => h
  | .bl _, _, h => h
  | .int _, _, h => h
  | .str _, _, h => h
  | .tup ds, v, h => by
    simp only [Rep] at h ⊢
    obtain ⟨a, xs, h1, h2, h3⟩ := h
    exact ⟨a, xs, h1, Same.sqt e.h h2, Reps.mono e h3⟩
  | .lst ds, v, h => by
    simp only [Rep] at h ⊢
    obtain ⟨a, xs, h1, h2, h3⟩ := h
    exact ⟨a, xs, h1, e.h _ _ h2, Reps.mono e h3⟩
  | .dk ks ds, v, h => by
    simp only [Rep] at h ⊢
    obtain ⟨a, xs, h1, h2, h3, h4⟩ := h
    exact ⟨a, xs, h1, e.h _ _ h2, h3, Reps.mono e h4⟩
  | .dt ks ds, v, h => by
    simp only [Rep] at h ⊢
    obtain ⟨a, xs, h1, h2, h3, h4⟩ := h
    exact ⟨a, xs, h1, e.h _ _ h2, h3, Reps.mono e h4⟩
  | .ob C fs ds, v, h => by
    simp only [Rep] at h ⊢
    obtain ⟨a, dx, xs, h1, h2, h3, h4⟩ := h
    exact ⟨a, dx, xs, h1, e.h _ _ h2, h3, Reps.mono e h4⟩
  | .adr _, _, h => h
  | .ty _, _, h => h
  | .ptr n, v, h => by
    simp only [Rep] at h ⊢
    obtain ⟨a, h1, h2⟩ := h
    exact ⟨a, h1, e.π _ _ h2⟩
theorem Reps.mono (e : FSame B B') : ∀ {ds : List D} {vs : List V}, Reps K B ds vs → Reps K B' ds vs
  | [], _, h => h
  | d :: ds, vs, h => by
    simp only [Reps] at h ⊢
    obtain ⟨x, xs, h1, h2, h3⟩ := h
    exact ⟨x, xs, h1, Rep.mono e h2, Reps.mono e h3⟩
end
theorem Reps.nil : Reps K B [] [] := by simp only [Reps]
theorem Reps.cons {d : D} {v : V} {ds : List D} {vs : List V} (h : Rep K B d v) (t : Reps K B ds vs) : Reps K B (d :: ds) (v :: vs) := by
  simp only [Reps]
  exact ⟨v, vs, rfl, h, t⟩
theorem Reps.length : ∀ {ds : List D} {vs : List V}, Reps K B ds vs → ds.length = vs.length
  | [], _, h => by
    simp only [Reps] at h
    subst h
    rfl
  | d :: ds, vs, h => by
    simp only [Reps] at h
    obtain ⟨x, xs, rfl, _, h3⟩ := h
    rw [List.length_cons, List.length_cons, Reps.length h3]
theorem Reps.get : ∀ {ds : List D} {vs : List V} {i : Nat} {d : D}, Reps K B ds vs → ds[i]? = some d → ∃ v, vs[i]? = some v ∧ Rep K B d v
  | [], _, _, _, _, e => by simp at e
  | d :: ds, vs, 0, d', h, e => by
    simp only [Reps] at h
    obtain ⟨x, xs, rfl, h2, _⟩ := h
    simp at e
    subst e
    exact ⟨x, rfl, h2⟩
  | d :: ds, vs, i + 1, d', h, e => by
    simp only [Reps] at h
    obtain ⟨x, xs, rfl, _, h3⟩ := h
    obtain ⟨v, e1, r⟩ := Reps.get (i := i) h3 (by simpa using e)
    exact ⟨v, by simpa using e1, r⟩
theorem Reps.append : ∀ {ds es : List D} {vs us : List V}, Reps K B ds vs → Reps K B es us → Reps K B (ds ++ es) (vs ++ us)
  | [], es, vs, us, h, t => by
    simp only [Reps] at h
    subst h
    exact t
  | d :: ds, es, vs, us, h, t => by
    simp only [Reps] at h
    obtain ⟨x, xs, rfl, h2, h3⟩ := h
    exact Reps.cons h2 (Reps.append h3 t)
theorem Reps.drop : ∀ (n : Nat) {ds : List D} {vs : List V}, Reps K B ds vs → Reps K B (ds.drop n) (vs.drop n)
  | 0, _, _, h => h
  | n + 1, [], vs, h => by
    simp only [Reps] at h
    subst h
    exact Reps.nil
  | n + 1, d :: ds, vs, h => by
    simp only [Reps] at h
    obtain ⟨x, xs, rfl, _, h3⟩ := h
    exact Reps.drop n h3
theorem Reps.take : ∀ (n : Nat) {ds : List D} {vs : List V}, Reps K B ds vs → Reps K B (ds.take n) (vs.take n)
  | 0, _, _, h => Reps.nil
  | n + 1, [], vs, h => by
    simp only [Reps] at h
    subst h
    exact Reps.nil
  | n + 1, d :: ds, vs, h => by
    simp only [Reps] at h
    obtain ⟨x, xs, rfl, h2, h3⟩ := h
    exact Reps.cons h2 (Reps.take n h3)
theorem Reps.set : ∀ (i : Nat) {d : D} {v : V} {ds : List D} {vs : List V}, Rep K B d v → Reps K B ds vs → Reps K B (ds.set i d) (vs.set i v)
  | i, d, v, [], vs, r, h => by
    simp only [Reps] at h
    subst h
    cases i <;> exact Reps.nil
  | 0, d, v, c :: ds, vs, r, h => by
    simp only [Reps] at h
    obtain ⟨x, xs, rfl, h2, h3⟩ := h
    exact Reps.cons r h3
  | i + 1, d, v, c :: ds, vs, r, h => by
    simp only [Reps] at h
    obtain ⟨x, xs, rfl, h2, h3⟩ := h
    exact Reps.cons h2 (Reps.set i r h3)
theorem Reps.erase : ∀ (i : Nat) {ds : List D} {vs : List V}, Reps K B ds vs → Reps K B (ds.eraseIdx i) (vs.eraseIdx i)
  | i, [], vs, h => by
    simp only [Reps] at h
    subst h
    exact Reps.nil
  | 0, c :: ds, vs, h => by
    simp only [Reps] at h
    obtain ⟨x, xs, rfl, h2, h3⟩ := h
    exact h3
  | i + 1, c :: ds, vs, h => by
    simp only [Reps] at h
    obtain ⟨x, xs, rfl, h2, h3⟩ := h
    exact Reps.cons h2 (Reps.erase i h3)
theorem Reps.one {d : D} {vs : List V} (h : Reps K B [d] vs) : ∃ v, vs = [v] ∧ Rep K B d v := by
  simp only [Reps] at h
  obtain ⟨x, xs, rfl, h2, h3⟩ := h
  exact ⟨x, by rw [h3], h2⟩
theorem Reps.ints : ∀ {ns : List Int} {vs : List V}, Reps K B (ns.map D.int) vs → vs = ns.map V.int
  | [], vs, h => by
    simp only [List.map, Reps] at h
    exact h
  | n :: ns, vs, h => by
    simp only [List.map, Reps, Rep] at h
    obtain ⟨x, xs, rfl, rfl, h3⟩ := h
    rw [Reps.ints h3]
    rfl
theorem Reps.of_ints : ∀ (ns : List Int), Reps K B (ns.map D.int) (ns.map V.int)
  | [] => Reps.nil
  | n :: ns => Reps.cons (by simp only [Rep]) (Reps.of_ints ns)
end

/-! ### slots, cells -/
/-- an object that a def's own local name or a cell holds -/
inductive O where
  | lst (ds : List D) | dk (ks : List Key) (ds : List D) | dt (ks : List (List Key)) (ds : List D) | ob (C : Addr) (fs : List Str) (ds : List D)
inductive Slot where
  | val (d : D)
  | own (o : O)
abbrev Cells := List O
/-- a def's names and the cells -/
structure Rho where
  l : List (Option Slot)
  g : Cells
instance : GetElem? Rho Nat (Option Slot) (fun ρ i => i < ρ.l.length) where
  getElem ρ i h := ρ.l[i]
  getElem? ρ i := ρ.l[i]?
def Rho.set (ρ : Rho) (i : Nat) (s : Option Slot) : Rho := ⟨ρ.l.set i s, ρ.g⟩
def Rho.length (ρ : Rho) : Nat := ρ.l.length
theorem Rho.get_l {ρ : Rho} {i : Nat} : ρ[i]? = ρ.l[i]? := rfl
theorem Rho.length_set {ρ : Rho} {i : Nat} {s : Option Slot} : (ρ.set i s).length = ρ.length := List.length_set
theorem Rho.set_g {ρ : Rho} {i : Nat} {s : Option Slot} : (ρ.set i s).g = ρ.g := rfl
theorem Rho.get_set_self {ρ : Rho} {i : Nat} {s : Option Slot} (h : i < ρ.length) : (ρ.set i s)[i]? = some s := List.getElem?_set_self h
theorem Rho.get_set_ne {ρ : Rho} {i j : Nat} {s : Option Slot} (h : i ≠ j) : (ρ.set i s)[j]? = ρ[j]? := List.getElem?_set_ne h
def RepO (K : PySem.W.Frag) (B : Fz) : O → HO → Prop
  | .lst ds, h => ∃ xs, h = .lst xs ∧ Reps K B ds xs
  | .dk ks ds, h => ∃ xs, h = .dK (ks.zip xs) ∧ ks.length = xs.length ∧ Reps K B ds xs
  | .dt ks ds, h => ∃ xs, h = .dT (ks.zip xs) ∧ ks.length = xs.length ∧ Reps K B ds xs
  | .ob C fs ds, h => ∃ dx xs, h = .ins C dx (fs.zip xs) ∧ fs.length = xs.length ∧ Reps K B ds xs
def O.frozen : O → D
  | .lst ds => .lst ds
  | .dk ks ds => .dk ks ds
  | .dt ks ds => .dt ks ds
  | .ob C fs ds => .ob C fs ds
theorem RepO.mono {K : PySem.W.Frag} {B B' : Fz} (e : FSame B B') : ∀ {o : O} {h : HO}, RepO K B o h → RepO K B' o h
  | .lst _, _, ⟨xs, h1, h2⟩ => ⟨xs, h1, h2.mono e⟩
  | .dk _ _, _, ⟨xs, h1, h3, h2⟩ => ⟨xs, h1, h3, h2.mono e⟩
  | .dt _ _, _, ⟨xs, h1, h3, h2⟩ => ⟨xs, h1, h3, h2.mono e⟩
  | .ob _ _ _, _, ⟨dx, xs, h1, h3, h2⟩ => ⟨dx, xs, h1, h3, h2.mono e⟩
theorem RepO.freeze {K : PySem.W.Frag} {B : Fz} {a : Addr} {h : HO} : ∀ {o : O}, RepO K B o h → B a = some h → Rep K B o.frozen (.ref a)
  | .lst _, ⟨xs, h1, h2⟩, e => by
    subst h1
    simp only [O.frozen, Rep]
    exact ⟨a, xs, rfl, e, h2⟩
  | .dk _ _, ⟨xs, h1, h3, h2⟩, e => by
    subst h1
    simp only [O.frozen, Rep]
    exact ⟨a, xs, rfl, e, h3, h2⟩
  | .dt _ _, ⟨xs, h1, h3, h2⟩, e => by
    subst h1
    simp only [O.frozen, Rep]
    exact ⟨a, xs, rfl, e, h3, h2⟩
  | .ob _ _ _, ⟨dx, xs, h1, h3, h2⟩, e => by
    subst h1
    simp only [O.frozen, Rep]
    exact ⟨a, dx, xs, rfl, e, h3, h2⟩
def SlotOk (K : PySem.W.Frag) (B : Fz) (H : Hp) (v : Option V) : Option Slot → Prop
  | none => True
  | some (.val d) => ∃ x, v = some x ∧ Rep K B d x
  | some (.own o) => ∃ p h, v = some (.ref p) ∧ B p = none ∧ H p = some h ∧ RepO K B o h
def CellOk (K : PySem.W.Frag) (B : Fz) (H : Hp) (n : Nat) (o : O) : Prop := ∃ a h, B.π n = some a ∧ B a = none ∧ H a = some h ∧ RepO K B o h
/-- the cells stand -/
structure Cl (K : PySem.W.Frag) (B : Fz) (H : Hp) (g : Cells) : Prop where
  at_ : ∀ n o, g[n]? = some o → CellOk K B H n o
  dom : ∀ n, g.length ≤ n → B.π n = none
  pin : ∀ n a, B.π n = some a → H a ≠ none
/-- where an own object is held -/
inductive Ix where
  | s (i : Nat) | c (n : Nat)
/-- the place i holds an object of its own at p -/
def OwnAt (σ : L2.St) (B : Fz) (ρ : Rho) : Ix → Addr → Prop
  | .s i, p => (∃ o, ρ[i]? = some (some (.own o))) ∧ σ[i]? = some (some (.ref p))
  | .c n, p => (∃ o, ρ.g[n]? = some o) ∧ B.π n = some p
def OwnA (σ : L2.St) (B : Fz) (ρ : Rho) (p : Addr) : Prop := ∃ i, OwnAt σ B ρ i p
structure Cf (K : PySem.W.Frag) (B : Fz) (H : Hp) (σ : L2.St) (ρ : Rho) : Prop where
  bh : Same B.h H
  len : σ.length = ρ.length
  at_ : ∀ (i : Nat) (s : Option Slot), ρ[i]? = some s → SlotOk K B H ((σ[i]?).getD none) s
  sep : ∀ i j p, OwnAt σ B ρ i p → OwnAt σ B ρ j p → i = j
  cl : Cl K B H ρ.g
structure Step (K : PySem.W.Frag) (σ : L2.St) (B : Fz) (H : Hp) (ρ : Rho) (σ' : L2.St) (B' : Fz) (H' : Hp) (ρ' : Rho) : Prop where
  cf : Cf K B' H' σ' ρ'
  bb : FSame B B'
  keep : ∀ b o, H b = some o → ¬ OwnA σ B ρ b → H' b = some o
  there : ∀ b, H b ≠ none → H' b ≠ none
  new : ∀ b, B' b ≠ none → B b = none → H b = none ∨ OwnA σ B ρ b
  own : ∀ b, OwnA σ' B' ρ' b → OwnA σ B ρ b ∨ H b = none
section
variable {K : PySem.W.Frag} {σ σ1 σ2 : L2.St} {B B1 B2 : Fz} {H H1 H2 : Hp} {ρ ρ1 ρ2 : Rho}
theorem Step.refl (c : Cf K B H σ ρ) : Step K σ B H ρ σ B H ρ :=
  ⟨c, FSame.refl B, fun _ _ h _ => h, fun _ h => h, fun _ h e => absurd e h, fun _ h => .inl h⟩
theorem Step.trans (a : Step K σ B H ρ σ1 B1 H1 ρ1) (b : Step K σ1 B1 H1 ρ1 σ2 B2 H2 ρ2) : Step K σ B H ρ σ2 B2 H2 ρ2 where
  cf := b.cf
  bb := a.bb.trans b.bb
  keep := fun c o e n => b.keep c o (a.keep c o e n) fun z => (a.own c z).elim n fun z => by
    rw [z] at e
    cases e
  there := fun c e => b.there c (a.there c e)
  new := fun c e n => by
    by_cases z : B1 c = none
    · rcases b.new c e z with q | q
      · left
        exact Classical.byContradiction fun y => a.there c y q
      · exact (a.own c q).symm
    · exact a.new c z n
  own := fun c z => by
    rcases b.own c z with q | q
    · exact a.own c q
    · right
      exact Classical.byContradiction fun y => a.there c y q
theorem OwnAt.not_frozen (c : Cf K B H σ ρ) {i : Ix} {p : Addr} (o : OwnAt σ B ρ i p) : B p = none ∧ H p ≠ none := by
  cases i with
  | s i =>
    obtain ⟨⟨u, e⟩, f⟩ := o
    obtain ⟨q, h, h1, h2, h3, _⟩ := c.at_ i _ e
    rw [f] at h1
    cases h1
    exact ⟨h2, by rw [h3]; exact fun z => by cases z⟩
  | c n =>
    obtain ⟨⟨u, e⟩, f⟩ := o
    obtain ⟨q, h, h1, h2, h3, _⟩ := c.cl.at_ n _ e
    rw [f] at h1
    cases h1
    exact ⟨h2, by rw [h3]; exact fun z => by cases z⟩
theorem OwnA.not_frozen (c : Cf K B H σ ρ) {p : Addr} (o : OwnA σ B ρ p) : B p = none ∧ H p ≠ none := by
  obtain ⟨i, o⟩ := o
  exact o.not_frozen c
theorem FSame.upd {p : Addr} {o : HO} (hB : B p = none) : FSame B (Fz.upd B p o) := ⟨fun b u e => by
    show (L2.upd B.h p o) b = some u
    rw [L2.upd_ne (ne_of_none e hB)]
    exact e, fun _ _ h => h⟩
/-- cells at another heap -/
theorem Cl.to {g : Cells} (c : Cl K B H g) (e : FSame B B1) (hp : ∀ n, g.length ≤ n → B1.π n = none) (hf : ∀ n o a, g[n]? = some o → B.π n = some a → H1 a = H a ∧ B1 a = none) (hn : ∀ n a, B1.π n = some a → H1 a ≠ none) : Cl K B1 H1 g :=
  ⟨fun n o h => by
    obtain ⟨a, u, h1, h2, h3, h4⟩ := c.at_ n o h
    obtain ⟨q1, q2⟩ := hf n o a h h1
    exact ⟨a, u, e.π _ _ h1, q2, by rw [q1]; exact h3, h4.mono e⟩, hp, hn⟩
theorem OwnAt.up {i : Ix} {p : Addr} {o : HO} : OwnAt σ (Fz.upd B p o) ρ i = OwnAt σ B ρ i := by cases i <;> rfl
theorem OwnA.up {p b : Addr} {o : HO} : OwnA σ (Fz.upd B p o) ρ b ↔ OwnA σ B ρ b := by
  unfold OwnA
  simp only [OwnAt.up]
/-- a new frozen object -/
theorem Cf.laid (c : Cf K B H σ ρ) {p : Addr} (hp : H p = none) (o : HO) : Step K σ B H ρ σ (Fz.upd B p o) (upd H p o) ρ := by
  have hB : B p = none := Classical.byContradiction fun y => by
    cases e : B p with
    | none => exact y e
    | some u =>
      rw [c.bh p u e] at hp
      cases hp
  have sB : FSame B (Fz.upd B p o) := FSame.upd hB
  refine ⟨⟨fun b u e => ?_, c.len, fun i s e => ?_, fun i j q => by rw [OwnAt.up, OwnAt.up]; exact c.sep i j q, c.cl.to sB c.cl.dom (fun n o' a h1 h2 => ?_) fun n a h => ?_⟩, sB, fun b u e _ => ?_, fun b e => ?_, fun b e n => ?_, fun b z => .inl (OwnA.up.mp z)⟩
  · by_cases hb : b = p
    · subst hb
      have e : (Fz.upd B b o) b = some u := e
      rw [Fz.upd_same] at e
      rw [upd_same]
      exact e
    · have e : (Fz.upd B p o) b = some u := e
      rw [Fz.upd_ne hb] at e
      rw [upd_ne hb]
      exact c.bh b u e
  · have q := c.at_ i s e
    cases s with
    | none => trivial
    | some s =>
      cases s with
      | val d =>
        obtain ⟨x, h1, h2⟩ := q
        exact ⟨x, h1, h2.mono sB⟩
      | own u =>
        obtain ⟨r, h, h1, h2, h3, h4⟩ := q
        have hr : r ≠ p := ne_of_none h3 hp
        exact ⟨r, h, h1, by rw [Fz.upd_ne hr]; exact h2, by rw [upd_ne hr]; exact h3, h4.mono sB⟩
  · obtain ⟨a', u, g1, g2, g3, g4⟩ := c.cl.at_ n o' h1
    rw [h2] at g1
    cases g1
    have hr : a ≠ p := ne_of_none g3 hp
    exact ⟨by rw [upd_ne hr], by rw [Fz.upd_ne hr]; exact g2⟩
  · by_cases hb : a = p
    · subst hb
      rw [upd_same]
      exact fun z => by cases z
    · rw [upd_ne hb]
      exact c.cl.pin n a h
  · rw [upd_ne (ne_of_none e hp)]
    exact e
  · by_cases hb : b = p
    · subst hb
      rw [upd_same]
      exact fun z => by cases z
    · rw [upd_ne hb]
      exact e
  · by_cases hb : b = p
    · subst hb
      exact .inl hp
    · rw [Fz.upd_ne hb] at e
      exact absurd n e
/-- a new object that is tracked and not frozen -/
theorem Cf.free (c : Cf K B H σ ρ) {p : Addr} (hp : H p = none) (o : HO) : Step K σ B H ρ σ B (upd H p o) ρ := by
  refine ⟨⟨fun b u e => ?_, c.len, fun i s e => ?_, c.sep, c.cl.to (FSame.refl B) c.cl.dom (fun n o' a h1 h2 => ?_) fun n a h => ?_⟩, FSame.refl B, fun b u e _ => ?_, fun b e => ?_, fun b e n => absurd n e, fun b z => .inl z⟩
  · have q := c.bh b u e
    rw [upd_ne (ne_of_none q hp)]
    exact q
  · have q := c.at_ i s e
    cases s with
    | none => trivial
    | some s =>
      cases s with
      | val d => exact q
      | own u =>
        obtain ⟨r, h, h1, h2, h3, h4⟩ := q
        exact ⟨r, h, h1, h2, by rw [upd_ne (ne_of_none h3 hp)]; exact h3, h4⟩
  · obtain ⟨a', u, g1, g2, g3, g4⟩ := c.cl.at_ n o' h1
    rw [h2] at g1
    cases g1
    exact ⟨by rw [upd_ne (ne_of_none g3 hp)], g2⟩
  · by_cases hb : a = p
    · subst hb
      rw [upd_same]
      exact fun z => by cases z
    · rw [upd_ne hb]
      exact c.cl.pin n a h
  · rw [upd_ne (ne_of_none e hp)]
    exact e
  · by_cases hb : b = p
    · subst hb
      rw [upd_same]
      exact fun z => by cases z
    · rw [upd_ne hb]
      exact e
end
end Nc

/-! The monad of what a def does on trees; readings by it; weakening and sequencing. -/
namespace Nc
open PySem PySem.Spec PyProof.Rows L2

/-- an exception of an own class, with its fields -/
structure Xn where
  C : Addr
  fs : List Str
  ds : List D
inductive Rs (α : Type) where
  | no | ok (a : α) (ρ : Rho) | ex (e : Xn) (ρ : Rho)
def M (α : Type) := Rho → Rs α
def M.ret {α : Type} (a : α) : M α := fun ρ => .ok a ρ
def M.bnd {α β : Type} (f : M α) (g : α → M β) : M β := fun ρ => match f ρ with
  | .no => .no
  | .ok a ρ' => g a ρ'
  | .ex e ρ' => .ex e ρ'
def M.opt {α : Type} : Option α → M α
  | none => fun _ => .no
  | some a => fun ρ => .ok a ρ
instance : Monad M where
  pure := M.ret
  bind := M.bnd
theorem bnd_ok {α β : Type} {f : M α} {g : α → M β} {ρ ρ' : Rho} {a : α} (h : f ρ = .ok a ρ') : (f >>= g) ρ = g a ρ' := by
  show M.bnd f g ρ = _
  unfold M.bnd
  rw [h]
theorem bnd_ex {α β : Type} {f : M α} {g : α → M β} {ρ ρ' : Rho} {e : Xn} (h : f ρ = .ex e ρ') : (f >>= g) ρ = .ex e ρ' := by
  show M.bnd f g ρ = _
  unfold M.bnd
  rw [h]
theorem bnd_no {α β : Type} {f : M α} {g : α → M β} {ρ : Rho} (h : f ρ = .no) : (f >>= g) ρ = .no := by
  show M.bnd f g ρ = _
  unfold M.bnd
  rw [h]
theorem pure_ok {α : Type} (a : α) (ρ : Rho) : (pure a : M α) ρ = .ok a ρ := rfl
theorem opt_some {α : Type} (a : α) (ρ : Rho) : M.opt (some a) ρ = .ok a ρ := rfl

def RepX (K : PySem.W.Frag) (B : Fz) (H : Hp) (e : Xn) (oc : Option Addr) : Prop := e.fs = [] ∨ ∃ d xs, oc = some d ∧ H d = some (.xd (e.fs.zip xs)) ∧ e.fs.length = xs.length ∧ Reps K B e.ds xs

/-! ### what is wanted behind -/
/-- how a value of the logic (β) stands for one of the monad (α); the first heap is the one at the start -/
abbrev Rl (α β : Type) := Hp → L2.St → Fz → Hp → Rho → α → β → Prop
class RlM {α β : Type} (R : Rl α β) : Prop where
  back : ∀ {H H1 : Hp} {σ : L2.St} {B' : Fz} {H' : Hp} {ρ' : Rho} {a : α} {b : β}, (∀ p, H p ≠ none → H1 p ≠ none) → R H1 σ B' H' ρ' a b → R H σ B' H' ρ' a b
def RD (K : PySem.W.Frag) : Rl D V := fun _ _ B _ _ d v => Rep K B d v
def RE (α : Type) : Rl α α := fun _ _ _ _ _ a b => a = b
abbrev RB : Rl Bool Bool := RE Bool
def RL (K : PySem.W.Frag) : Rl (List D) (List V) := fun _ _ B _ _ ds vs => Reps K B ds vs
instance (K : PySem.W.Frag) : RlM (RD K) := ⟨fun _ h => h⟩
instance (α : Type) : RlM (RE α) := ⟨fun _ h => h⟩
instance (K : PySem.W.Frag) : RlM (RL K) := ⟨fun _ h => h⟩
section
variable {α β γ δ : Type}
def At (K : PySem.W.Frag) (E : WX) (R : Rl α β) (σ : L2.St) (B : Fz) (H : Hp) (ρ : Rho) (Q : β → Hp → Prop) : Rs α → Prop
  | .no => False
  | .ok a ρ' => ∀ x B' H', Step K σ B H ρ σ B' H' ρ' → R H σ B' H' ρ' a x → Q x H'
  | .ex e ρ' => ∀ oc σ' B' H', Step K σ B H ρ σ' B' H' ρ' → RepX K B' H' e oc → E (.ref e.C) oc σ' H'
def tR (K : PySem.W.Frag) (E : WX) (R : Rl α β) (f : M α) : L2.St → Hp → (β → Hp → Prop) → Prop := fun σ H Q => ∃ B ρ, Cf K B H σ ρ ∧ At K E R σ B H ρ Q (f ρ)
abbrev tD (K : PySem.W.Frag) (E : WX) (f : M D) : TE := tR K E (RD K) f
abbrev tT (K : PySem.W.Frag) (E : WX) (f : M Bool) : TT := tR K E RB f
abbrev tL (K : PySem.W.Frag) (E : WX) (f : M (List D)) : TA := tR K E (RL K) f
variable {K : PySem.W.Frag} {E : WX} {R : Rl α β} {R' : Rl γ δ} {σ : L2.St} {B B1 : Fz} {H H1 : Hp} {ρ ρ1 : Rho} {f : M α} {g : α → M γ} {Q : δ → Hp → Prop}
theorem At.imp {Q Q' : β → Hp → Prop} : ∀ {r : Rs α}, At K E R σ B H ρ Q r → (∀ a ρ' x B' H', r = .ok a ρ' → Step K σ B H ρ σ B' H' ρ' → R H σ B' H' ρ' a x → Q x H' → Q' x H') → At K E R σ B H ρ Q' r
  | .no, h, _ => h
  | .ok a ρ', h, k => fun x B' H' st r => k a ρ' x B' H' rfl st r (h x B' H' st r)
  | .ex e ρ', h, _ => h
/-- from a point further on -/
theorem At.from [RlM R'] (st : Step K σ B H ρ σ B1 H1 ρ1) : ∀ {r : Rs γ}, At K E R' σ B H ρ Q r → At K E R' σ B1 H1 ρ1 Q r
  | .no, h => h
  | .ok a ρ', h => fun x B' H' s2 r => h x B' H' (st.trans s2) (RlM.back st.there r)
  | .ex e ρ', h => fun oc σ' B' H' s2 r => h oc σ' B' H' (st.trans s2) r
/-- THE RULE: a first part, then the rest from where it leaves -/
theorem At.seq [RlM R'] (h : At K E R' σ B H ρ Q ((f >>= g) ρ)) : At K E R σ B H ρ (fun x H1 => ∃ a B1 ρ1, Step K σ B H ρ σ B1 H1 ρ1 ∧ R H σ B1 H1 ρ1 a x ∧ At K E R' σ B1 H1 ρ1 Q (g a ρ1)) (f ρ) := by
  cases e : f ρ with
  | no =>
    rw [bnd_no e] at h
    exact h
  | ex x ρ' =>
    rw [bnd_ex e] at h
    exact h
  | ok a ρ' =>
    rw [bnd_ok e] at h
    exact fun x B1 H1 st r => ⟨a, B1, ρ', st, r, h.from st⟩
theorem At.opt {o : Option γ} (h : At K E R' σ B H ρ Q (M.opt o ρ)) : ∃ a, o = some a ∧ ∀ x B' H', Step K σ B H ρ σ B' H' ρ → R' H σ B' H' ρ a x → Q x H' := by
  cases o with
  | none => exact h.elim
  | some a => exact ⟨a, rfl, h⟩
theorem At.here (c : Cf K B H σ ρ) {a : γ} {x : δ} (h : At K E R' σ B H ρ Q (.ok a ρ)) (r : R' H σ B H ρ a x) : Q x H := h x B H (Step.refl c) r
end

theorem rep_int {K : PySem.W.Frag} {B : Fz} {i : Int} {x : V} (h : Rep K B (.int i) x) : x = .int i := by simpa only [Rep] using h
theorem rep_bl {K : PySem.W.Frag} {B : Fz} {b : Bool} {x : V} (h : Rep K B (.bl b) x) : x = .bl b := by simpa only [Rep] using h
theorem rep_str {K : PySem.W.Frag} {B : Fz} {z : Str} {x : V} (h : Rep K B (.str z) x) : x = .str z := by simpa only [Rep] using h
theorem rep_non {K : PySem.W.Frag} {B : Fz} {x : V} (h : Rep K B .non x) : x = .non := by simpa only [Rep] using h

/-! ### weakening -/
section
variable {X : Cx}
theorem pe_weak {e : Expr} {t t' : TE} (h : PE X e t) (k : ∀ σ H Q, t' σ H Q → t σ H Q) : PE X e t' := ⟨fun pins s σ H Q I q => h.run pins s σ H Q I (k σ H Q q)⟩
theorem pt_weak {e : Expr} {t t' : TT} (h : PT X e t) (k : ∀ σ H Q, t' σ H Q → t σ H Q) : PT X e t' := ⟨fun pins s σ H Q I q => h.run pins s σ H Q I (k σ H Q q)⟩
theorem pw_weak {e : Expr} {t t' : TT} (h : PW X e t) (k : ∀ σ H Q, t' σ H Q → t σ H Q) : PW X e t' := ⟨fun w pins s σ H Q I q => h.run w pins s σ H Q I (k σ H Q q)⟩
theorem pa_weak {e : List Expr} {t t' : TA} (h : PA X e t) (k : ∀ σ H Q, t' σ H Q → t σ H Q) : PA X e t' := ⟨fun pos pins s σ H Q I q => h.run pos pins s σ H Q I (k σ H Q q)⟩
theorem ps_weak {e : Stmt} {t t' : TS} (h : PS X e t) (k : ∀ D σ H, t' D σ H → t D σ H) : PS X e t' := ⟨fun pins s σ H D I q => h.run pins s σ H D I (k D σ H q)⟩
theorem pss_weak {e : List Stmt} {t t' : TS} (h : PSs X e t) (k : ∀ D σ H, t' D σ H → t D σ H) : PSs X e t' := ⟨fun pins s σ H D I q => h.run pins s σ H D I (k D σ H q)⟩
end

/-! ### constants, names -/
section
variable {X : Cx} {E : WX}
theorem pd_const {e : Expr} {v : V} {d : D} (h : PE X e (tC v)) (r : ∀ B, Rep X.K B d v) : PE X e (tD X.K E (M.ret d)) :=
  pe_weak h fun σ H Q ⟨B, ρ, c, a⟩ => a.here c (r B)
theorem pd_int {i j pos} : PE X (.Constant (.int i) j pos) (tD X.K E (M.ret (.int i))) := pd_const pe_int fun _ => by simp only [Rep]
theorem pd_bl {b j pos} : PE X (.Constant (.bool b) j pos) (tD X.K E (M.ret (.bl b))) := pd_const pe_bl fun _ => by simp only [Rep]
theorem pd_non {j pos} : PE X (.Constant .none j pos) (tD X.K E (M.ret .non)) := pd_const pe_non fun _ => by simp only [Rep]
theorem pd_str {z j pos} : PE X (.Constant (.str z) j pos) (tD X.K E (M.ret (.str z))) := pd_const pe_str fun _ => by simp only [Rep]

/-- the slot's value; an own object becomes frozen -/
def var (i : Nat) : M D := fun ρ => match ρ[i]? with
  | some (some (.val d)) => .ok d ρ
  | some (some (.own o)) => .ok o.frozen (ρ.set i (some (.val o.frozen)))
  | _ => .no
section
variable {K : PySem.W.Frag} {σ : L2.St} {B : Fz} {H : Hp} {ρ : Rho}
theorem getD_eq {α : Type} {l : List (Option α)} {i : Nat} {x : α} (h1 : (l[i]?).getD none = some x) : l[i]? = some (some x) := by
  cases e : l[i]? with
  | none =>
    rw [e] at h1
    cases h1
  | some w =>
    rw [e] at h1
    have : w = some x := h1
    rw [this]
theorem Cf.val (c : Cf K B H σ ρ) {i : Nat} {d : D} (h : ρ[i]? = some (some (.val d))) : ∃ v, σ[i]? = some (some v) ∧ Rep K B d v := by
  obtain ⟨x, h1, h2⟩ := c.at_ i _ h
  exact ⟨x, getD_eq h1, h2⟩
theorem Cf.own (c : Cf K B H σ ρ) {i : Nat} {o : O} (h : ρ[i]? = some (some (.own o))) : ∃ p u, σ[i]? = some (some (.ref p)) ∧ B p = none ∧ H p = some u ∧ RepO K B o u ∧ OwnAt σ B ρ (.s i) p := by
  obtain ⟨p, u, h1, h2, h3, h4⟩ := c.at_ i _ h
  have e := getD_eq h1
  exact ⟨p, u, e, h2, h3, h4, ⟨o, h⟩, e⟩
theorem getD_set {i j : Nat} {ρ : Rho} {s : Option Slot} {u : Option Slot} (h : (ρ.set i s)[j]? = some u) : (j = i ∧ u = s ∧ i < ρ.length) ∨ (j ≠ i ∧ ρ[j]? = some u) := by
  by_cases e : j = i
  · subst e
    by_cases l : j < ρ.length
    · rw [Rho.get_set_self l] at h
      exact .inl ⟨rfl, (Option.some.inj h).symm, l⟩
    · have : (ρ.set j s)[j]? = none := List.getElem?_eq_none (by show (ρ.l.set j s).length ≤ j; rw [List.length_set]; exact Nat.le_of_not_lt l)
      rw [this] at h
      cases h
  · rw [Rho.get_set_ne (Ne.symm e)] at h
    exact .inr ⟨e, h⟩
theorem Cl.upd {g : Cells} (c : Cl K B H g) {p : Addr} {u : HO} (hB : B p = none) (hn : ∀ n o, g[n]? = some o → B.π n ≠ some p) : Cl K (Fz.upd B p u) H g :=
  c.to (FSame.upd hB) c.dom (fun n o a h1 h2 => by
    have hr : a ≠ p := fun z => hn n o h1 (by rw [h2, z])
    obtain ⟨a', u', g1, g2, g3, g4⟩ := c.at_ n o h1
    rw [h2] at g1
    cases g1
    exact ⟨rfl, by rw [Fz.upd_ne hr]; exact g2⟩) c.pin
theorem upd_frozen (bh : Same B.h H) {p : Addr} {u : HO} (hH : H p = some u) : Same (Fz.upd B p u).h H := fun b w q => by
  have q : (Fz.upd B p u) b = some w := q
  by_cases hb : b = p
  · subst hb
    rw [Fz.upd_same] at q
    rw [hH, q]
  · rw [Fz.upd_ne hb] at q
    exact bh b w q
/-- an own object is frozen -/
theorem Cf.freeze (c : Cf K B H σ ρ) {i : Nat} {o : O} {p : Addr} {u : HO} (h : ρ[i]? = some (some (.own o))) (e : σ[i]? = some (some (.ref p))) (hB : B p = none) (hH : H p = some u) (r : RepO K B o u) :
    Step K σ B H ρ σ (Fz.upd B p u) H (ρ.set i (some (.val o.frozen))) := by
  have oa : OwnAt σ B ρ (.s i) p := ⟨⟨o, h⟩, e⟩
  have sB : FSame B (Fz.upd B p u) := FSame.upd hB
  have back : ∀ (m : Ix) (x : Addr), OwnAt σ (Fz.upd B p u) (ρ.set i (some (.val o.frozen))) m x → OwnAt σ B ρ m x := fun m x w => by
    cases m with
    | c n => exact w
    | s m =>
      obtain ⟨⟨o', w⟩, w2⟩ := w
      rcases getD_set w with ⟨_, w3, _⟩ | ⟨_, w3⟩
      · cases w3
      · exact ⟨⟨o', w3⟩, w2⟩
  refine ⟨⟨upd_frozen c.bh hH, by rw [Rho.length_set]; exact c.len, fun j s q => ?_, fun j k q z1 z2 => c.sep j k q (back j q z1) (back k q z2), c.cl.upd hB fun n o' h1 z => ?_⟩, sB, fun b w q _ => q, fun b q => q, fun b q n => ?_, fun b z => ?_⟩
  · rcases getD_set q with ⟨rfl, rfl, _⟩ | ⟨hj, q⟩
    · refine ⟨.ref p, by rw [e]; rfl, ?_⟩
      exact (r.mono sB).freeze Fz.upd_same
    · have z := c.at_ j s q
      cases s with
      | none => trivial
      | some s =>
        cases s with
        | val d =>
          obtain ⟨x, h1, h2⟩ := z
          exact ⟨x, h1, h2.mono sB⟩
        | own o' =>
          obtain ⟨p', u', e1, b1, k1, r1, oa1⟩ := c.own q
          have np : p' ≠ p := fun y => by
            subst y
            have := c.sep (.s j) (.s i) p' oa1 oa
            injection this with this
            exact hj this
          exact ⟨p', u', by rw [e1]; rfl, by rw [Fz.upd_ne np]; exact b1, k1, r1.mono sB⟩
  · have := c.sep (.c n) (.s i) p ⟨⟨o', h1⟩, z⟩ oa
    cases this
  · by_cases hb : b = p
    · subst hb
      exact .inr ⟨.s i, oa⟩
    · rw [Fz.upd_ne hb] at q
      exact absurd n q
  · obtain ⟨m, z⟩ := z
    exact .inl ⟨m, back m b z⟩
end
theorem pd_var (i : Nat) {x : Str} {pos : Pos} (h : PE X (.Name x pos) (tVar i)) : PE X (.Name x pos) (tD X.K E (var i)) := by
  refine pe_weak h fun σ H Q ⟨B, ρ, c, a⟩ => ?_
  unfold var at a
  cases e : ρ[i]? with
  | none =>
    rw [e] at a
    exact a.elim
  | some s =>
    cases s with
    | none =>
      rw [e] at a
      exact a.elim
    | some s =>
      cases s with
      | val d =>
        rw [e] at a
        obtain ⟨v, e1, r⟩ := c.val e
        exact ⟨v, e1, a.here c r⟩
      | own o =>
        rw [e] at a
        obtain ⟨p, u, e1, b1, k1, r1, oa1⟩ := c.own e
        refine ⟨.ref p, e1, a _ _ _ (c.freeze e e1 b1 k1 r1) ?_⟩
        exact (r1.mono (FSame.upd b1)).freeze Fz.upd_same
end

/-! ### two parts -/
section
variable {X : Cx} {E : WX} {a b : Expr} {pos : Pos} {fa fb : M D}
/-- what an operator's reading asks, by trees -/
def OpD (K : PySem.W.Frag) (r : R2) (op : D → D → Option D) : Prop := ∀ (B : Fz) (H : Hp) (σ : L2.St) (ρ : Rho) (d e z : D) (x y : V) (Q : VK), Cf K B H σ ρ → Rep K B d x → Rep K B e y → op d e = some z →
  (∀ v B' H', Step K σ B H ρ σ B' H' ρ → Rep K B' z v → Q v H') → r x y H Q
theorem two_parts {r : R2} {op : D → D → Option D} (hr : OpD X.K r op) {ta tb : TE} (ka : ∀ σ H Q, tD X.K E fa σ H Q → ta σ H Q) (kb : ∀ σ H Q, tD X.K E fb σ H Q → tb σ H Q) :
    ∀ σ H Q, tD X.K E (fa >>= fun d => fb >>= fun e => M.opt (op d e)) σ H Q → tOp r ta tb σ H Q := by
  rintro σ H Q ⟨B, ρ, c, h⟩
  refine ka _ _ _ ⟨B, ρ, c, h.seq.imp ?_⟩
  rintro d ρ' x B' H1 - - - ⟨d, B1, ρ1, st1, rx, h1⟩
  refine kb _ _ _ ⟨B1, ρ1, st1.cf, h1.seq.imp ?_⟩
  rintro e ρ' y B' H2 - - - ⟨e, B2, ρ2, st2, ry, h2⟩
  obtain ⟨z, ez, k⟩ := h2.opt
  exact hr B2 H2 σ ρ2 d e z x y Q st2.cf (Rep.mono st2.bb rx) ry ez k
theorem pd_bin {o : Operator} {r : R2} {op : D → D → Option D} (hr : OpD X.K r op) (ho : OpR X (binaryOp o) r) (ha : PE X a (tD X.K E fa)) (hb : PE X b (tD X.K E fb)) :
    PE X (.BinOp a o b pos) (tD X.K E (fa >>= fun d => fb >>= fun e => M.opt (op d e))) :=
  pe_weak (pe_op ho ha hb) (two_parts hr (fun _ _ _ h => h) fun _ _ _ h => h)
theorem pd_cmp {o : CmpOp} {r : R2} {op : D → D → Option D} (hr : OpD X.K r op) (ho : OpR X (compareOp o) r) (ha : PE X a (tD X.K E fa)) (hb : PE X b (tD X.K E fb)) (hm : behindInMarks o b = false) :
    PE X (.Compare a [o] [b] pos) (tD X.K E (fa >>= fun d => fb >>= fun e => M.opt (op d e))) :=
  pe_weak (pe_cmpR ho ha hb hm) (two_parts hr (fun _ _ _ h => h) fun _ _ _ h => h)
end
end Nc

/-! a tuple times 1: the tuple itself. -/
namespace Nc
open PySem PySem.Spec PyProof.Rows L2
theorem tuple_mul1 (l : Addr) (items : Array Value) (n : Nat) (dd : Option Addr) (sl : Array (Option Value)) (u : Tok) :
    Meets (Builtin.«tuple.__mul__» ⟨[.ref l, .int 1 u], []⟩) (fun _ R s => s.heap.get? l = some { cls := .type "tuple", dict := dd, data := .seq items n, slots := sl } ∧
      R (.ok (.ret (Value.ref l))) s) :=
  .of_wp fun prog w A R s h => by
    obtain ⟨hp, g, d, tk, os⟩ := s
    obtain ⟨hl, h⟩ := h
    have f1 := AutoSeq1.idx_int
    have c0 : (decide ((1 : Int) < -(2 ^ 63)) || decide ((1 : Int) ≥ 2 ^ 63)) = false := by decide
    have c1 : (items.isEmpty || (1 : Int) == 1) = true := by simp
    wp_walk using wpAny_loadPart' hl
    repeat (first
      | (refine wpAny_ite_false (decide_eq_false (by rw [c0]; exact Bool.false_ne_true)) ?_; wp_walk using wpAny_loadPart' hl)
      | (refine wpAny_ite_true (decide_eq_true (by rw [c1])) ?_; wp_walk using wpAny_loadPart' hl))
    exact ⟨_, rfl, h⟩
def rRep1 (K : PySem.W.Frag) : R2 := fun x y H Q => ∃ l xs, x = .ref l ∧ y = .int 1 ∧ SqT K H l xs ∧ Q (.ref l) H
section
variable {X : Cx}
theorem op_rep1 : OpR X (binaryOp .Mult) (rRep1 X.K) := by
  intro pins s σ H x y v u Q I rx ry h
  obtain ⟨l, xs, rfl, rfl, hT, q⟩ := h
  cases rx
  obtain ⟨t, rfl⟩ := ry
  obtain ⟨its, r, ⟨⟨cls, dd, data, sl⟩, ho, hc, n, hd⟩, hs⟩ := I.tuple hT
  simp only at hc hd
  subst hc hd
  refine wpAny_binaryOp_repeat_ref (T := "tuple") (U := "int") (by decide) ⟨_, ho, rfl⟩ (fun s' => typeIs_int s' 1 t) noFill_tuple_mul F.fills_int_mul F.slot_int_rmul repeat_tuple F.slot_int_index.lookup
    (call_meets F.slot_int_rmul (typeIs_int s 1 t) F.entry_int_rmul (F.args_int_rmul_2 _ _) (int_rmul_tuple 1 t l its.toArray n dd sl)
      ⟨ho, rfl, ⟨_, ho, rfl⟩, call_meets F.slot_tuple_mul ⟨_, ho, rfl⟩ F.entry_tuple_mul (F.args_tuple_mul_2 _ _) (tuple_mul1 l its.toArray n dd sl t) ⟨ho, ?_⟩⟩)
  exact ⟨.ref l, H, I, rfl, q⟩
end
end Nc

/-! Operators, comparisons, tests on trees. -/
namespace Nc
open PySem PySem.Spec PyProof.Rows L2

/-! ### arithmetic -/
def addD : D → D → Option D
  | .int a, .int b => some (.int (a + b))
  | .str a, .str b => if a.length + b.length ≤ sizeLine then some (.str (a ++ b)) else none
  | .lst a, .lst b => if a.length + b.length ≤ sizeLine then some (.lst (a ++ b)) else none
  | .tup a, .tup b => if a.length + b.length ≤ sizeLine then some (.tup (a ++ b)) else none
  | _, _ => none
def i2 (C : Int → Int → Bool) (g : Int → Int → Int) : D → D → Option D
  | .int a, .int b => if C a b then some (.int (g a b)) else none
  | _, _ => none
def subD := i2 (fun _ _ => true) fun a b => a - b
def small64i (i : Int) : Bool := decide (-(2 ^ 64) < i) && decide (i < 2 ^ 64)
def mulD : D → D → Option D
  | .int a, .int b => if small64i a || small64i b then some (.int (a * b)) else none
  | .lst a, .int b => if decide (-(2 ^ 63) ≤ b) && decide (b < 2 ^ 63) && decide (a.length * b.toNat ≤ sizeLine) then some (.lst (List.replicate b.toNat a).flatten) else none
  | .tup a, .int b => if b = 1 then some (.tup a) else if decide (a ≠ []) && decide (2 ≤ b) && decide (b ≤ 1000) && decide (a.length ≤ 1000) then some (.tup (List.replicate b.toNat a).flatten) else none
  | _, _ => none
def fdivD := i2 (fun _ j => decide (0 < j) && decide (j.natAbs.log2 < 9000)) fun a b => a / b
def modD := i2 (fun _ j => decide (0 < j)) fun a b => a % b
def powC (i j : Int) : Bool := decide (0 ≤ j) && decide (j ≤ 1000000) && decide (i.natAbs < 2 ^ 64)
def powD := i2 powC fun a b => a ^ b.toNat
def shlD := i2 powC fun a b => a * 2 ^ b.toNat
def shrD := i2 (fun _ j => decide (0 ≤ j)) fun a b => a / 2 ^ b.toNat
def andD := i2 (fun _ _ => true) Builtin.bitAnd
def orD := i2 (fun _ _ => true) Builtin.bitOr

section
variable {K : PySem.W.Frag}
theorem opd_i2 {Cp : Int → Int → Prop} {C : Int → Int → Bool} {g : Int → Int → Int} (h : ∀ i j, C i j = true → Cp i j) : OpD K (rI Cp fun i j => .int (g i j)) (i2 C g) := by
  intro B H σ ρ d e z x y Q c rx ry ez k
  cases d <;> cases e <;> simp only [i2, reduceCtorEq] at ez
  rename_i i j
  simp only [Rep] at rx ry
  subst rx
  subst ry
  split at ez
  · rename_i hc
    cases ez
    exact ⟨i, j, rfl, rfl, h i j hc, k _ _ _ (Step.refl c) (by simp only [Rep])⟩
  · cases ez
theorem opd_i20 {g : Int → Int → Int} : OpD K (rI0 fun i j => .int (g i j)) (i2 (fun _ _ => true) g) := by
  intro B H σ ρ d e z x y Q c rx ry ez k
  cases d <;> cases e <;> simp only [i2, reduceCtorEq] at ez
  rename_i i j
  simp only [Rep] at rx ry
  subst rx
  subst ry
  simp only [if_true] at ez
  cases ez
  exact ⟨i, j, rfl, rfl, k _ _ _ (Step.refl c) (by simp only [Rep])⟩
theorem opd_add : OpD K (fun x y H Q => rI0 (fun i j => .int (i + j)) x y H Q ∨ (∃ i j, x = .str i ∧ y = .str j ∧ i.length + j.length ≤ sizeLine ∧ Q (.str (i ++ j)) H) ∨ rCat x y H Q ∨ rCatA K x y H Q) addD := by
  intro B H σ ρ d e z x y Q c rx ry ez k
  cases d <;> cases e <;> simp only [addD, reduceCtorEq] at ez
  · simp only [Rep] at rx ry
    subst rx ry
    cases ez
    exact .inl ⟨_, _, rfl, rfl, k _ _ _ (Step.refl c) (by simp only [Rep])⟩
  · simp only [Rep] at rx ry
    subst rx ry
    split at ez
    · rename_i hc
      cases ez
      exact .inr (.inl ⟨_, _, rfl, rfl, hc, k _ _ _ (Step.refl c) (by simp only [Rep])⟩)
    · cases ez
  · simp only [Rep] at rx ry
    obtain ⟨p, xs, rfl, h1, h2⟩ := rx
    obtain ⟨q, ys, rfl, g1, g2⟩ := ry
    split at ez
    · rename_i hc
      cases ez
      rw [h2.length, g2.length] at hc
      refine .inr (.inr (.inr ⟨p, q, xs, ys, rfl, rfl, Same.sqt c.bh h1, Same.sqt c.bh g1, hc, ?_⟩))
      have fin : ∀ l, H l = none → Q (.ref l) (upd H l (.tup (xs ++ ys))) := fun l hl => k _ _ _ (c.laid hl _) (by
        simp only [Rep]
        exact ⟨l, xs ++ ys, rfl, .inl (.inl upd_same), (h2.append g2).mono (c.laid hl (.tup (xs ++ ys))).bb⟩)
      have fx : ys = [] → Q (.ref p) H := fun e0 => k _ _ _ (Step.refl c) (by
        subst e0
        simp only [Rep]
        exact ⟨p, xs, rfl, h1, by simpa using h2.append g2⟩)
      have fy : xs = [] → Q (.ref q) H := fun e0 => k _ _ _ (Step.refl c) (by
        subst e0
        simp only [Rep]
        exact ⟨q, ys, rfl, g1, by simpa using h2.append g2⟩)
      first
        | exact ⟨fun e0 => fy e0, fun e0 => ⟨fun e1 => fx e1, fun _ => fin⟩⟩
        | exact ⟨fun _ e0 => fx e0, fun _ _ => fin⟩
        | exact ⟨fun e0 => fx e0, fun e0 => fin⟩
        | exact ⟨fy, fun _ => fx, fun _ _ => fin⟩
        | exact ⟨fx, fun _ => fy, fun _ _ => fin⟩
        | exact ⟨fy, fx, fun _ _ => fin⟩
    · cases ez
  · simp only [Rep] at rx ry
    obtain ⟨p, xs, rfl, h1, h2⟩ := rx
    obtain ⟨q, ys, rfl, g1, g2⟩ := ry
    split at ez
    · rename_i hc
      cases ez
      rw [h2.length, g2.length] at hc
      refine .inr (.inr (.inl ⟨p, q, xs, ys, rfl, rfl, c.bh _ _ h1, c.bh _ _ g1, hc, fun l hl => k _ _ _ (c.laid hl _) ?_⟩))
      simp only [Rep]
      exact ⟨l, xs ++ ys, rfl, upd_same, (h2.append g2).mono (c.laid hl (.lst (xs ++ ys))).bb⟩
    · cases ez
theorem Reps.rep {B : Fz} {ds : List D} {vs : List V} (h : Reps K B ds vs) : ∀ n : Nat, Reps K B (List.replicate n ds).flatten (List.replicate n vs).flatten
  | 0 => Reps.nil
  | n + 1 => by
    rw [List.replicate_succ, List.replicate_succ, List.flatten_cons, List.flatten_cons]
    exact h.append (h.rep n)
theorem opd_mul : OpD K (fun x y H Q => rI CMul (fun i j => .int (i * j)) x y H Q ∨ rRep x y H Q ∨ rRepT K x y H Q ∨ rRep1 K x y H Q) mulD := by
  intro B H σ ρ d e z x y Q c rx ry ez k
  cases d <;> cases e <;> simp only [mulD, reduceCtorEq] at ez
  · simp only [Rep] at rx ry
    subst rx ry
    split at ez
    · rename_i hc
      cases ez
      refine .inl ⟨_, _, rfl, rfl, ?_, k _ _ _ (Step.refl c) (by simp only [Rep])⟩
      rw [Bool.or_eq_true] at hc
      rcases hc with hc | hc
      · simp only [small64i, Bool.and_eq_true, decide_eq_true_eq] at hc
        exact .inl hc
      · simp only [small64i, Bool.and_eq_true, decide_eq_true_eq] at hc
        exact .inr hc
    · cases ez
  · simp only [Rep] at rx ry
    obtain ⟨p, xs, rfl, h1, h2⟩ := rx
    subst ry
    split at ez
    · rename_i hb
      cases ez
      subst hb
      refine .inr (.inr (.inr ⟨p, xs, rfl, rfl, Same.sqt c.bh h1, k _ _ _ (Step.refl c) ?_⟩))
      simp only [Rep]
      exact ⟨p, xs, rfl, h1, h2⟩
    split at ez
    · rename_i hc
      cases ez
      simp only [Bool.and_eq_true, decide_eq_true_eq] at hc
      obtain ⟨⟨⟨c1, c2⟩, c3⟩, c4⟩ := hc
      rename_i ds b _
      refine .inr (.inr (.inl ⟨p, b, xs, rfl, rfl, Same.sqt c.bh h1, fun e0 => ?_, c2, c3, by rw [← h2.length]; exact c4, fun l hl => k _ _ _ (c.laid hl _) ?_⟩))
      · subst e0
        have := h2.length
        rw [List.length_nil] at this
        exact c1 (List.length_eq_zero_iff.mp this)
      · simp only [Rep]
        exact ⟨l, _, rfl, .inl (.inl upd_same), (h2.rep _).mono (c.laid hl _).bb⟩
    · cases ez
  · simp only [Rep] at rx ry
    obtain ⟨p, xs, rfl, h1, h2⟩ := rx
    subst ry
    split at ez
    · rename_i hc
      cases ez
      simp only [Bool.and_eq_true, decide_eq_true_eq] at hc
      obtain ⟨⟨c1, c2⟩, c3⟩ := hc
      rw [h2.length] at c3
      rename_i ds b
      refine .inr (.inl ⟨p, b, xs, rfl, rfl, c.bh _ _ h1, c1, c2, c3, fun l hl => k _ _ _ (c.laid hl _) ?_⟩)
      simp only [Rep]
      exact ⟨l, _, rfl, upd_same, (h2.rep _).mono (c.laid hl _).bb⟩
    · cases ez
end
section
variable {X : Cx} {E : WX} {a b : Expr} {pos : Pos} {fa fb : M D}
abbrev b2 (op : D → D → Option D) (fa fb : M D) : M D := fa >>= fun d => fb >>= fun e => M.opt (op d e)
theorem pd_add (ha : PE X a (tD X.K E fa)) (hb : PE X b (tD X.K E fb)) : PE X (.BinOp a .Add b pos) (tD X.K E (b2 addD fa fb)) := pd_bin opd_add (op_add.or (op_add_str.or (op_cat.or op_catA))) ha hb
theorem pd_sub (ha : PE X a (tD X.K E fa)) (hb : PE X b (tD X.K E fb)) : PE X (.BinOp a .Sub b pos) (tD X.K E (b2 subD fa fb)) := pd_bin opd_i20 op_sub ha hb
theorem pd_mul (ha : PE X a (tD X.K E fa)) (hb : PE X b (tD X.K E fb)) : PE X (.BinOp a .Mult b pos) (tD X.K E (b2 mulD fa fb)) := pd_bin opd_mul (op_mul.or (op_rep.or (op_repT.or op_rep1))) ha hb
theorem pd_fdiv (ha : PE X a (tD X.K E fa)) (hb : PE X b (tD X.K E fb)) : PE X (.BinOp a .FloorDiv b pos) (tD X.K E (b2 fdivD fa fb)) := pd_bin (opd_i2 fun i j h => by simpa [CDivW] using h) op_fdivW ha hb
theorem pd_mod (ha : PE X a (tD X.K E fa)) (hb : PE X b (tD X.K E fb)) : PE X (.BinOp a .Mod b pos) (tD X.K E (b2 modD fa fb)) := pd_bin (opd_i2 fun i j h => by simpa using h) op_mod ha hb
theorem powC_ok {i j : Int} (h : powC i j = true) : CPow i j := by
  simp only [powC, Bool.and_eq_true, decide_eq_true_eq] at h
  exact ⟨h.1.1, h.1.2, h.2⟩
theorem pd_pow (ha : PE X a (tD X.K E fa)) (hb : PE X b (tD X.K E fb)) : PE X (.BinOp a .Pow b pos) (tD X.K E (b2 powD fa fb)) := pd_bin (opd_i2 fun i j h => powC_ok h) op_pow ha hb
theorem pd_shl (ha : PE X a (tD X.K E fa)) (hb : PE X b (tD X.K E fb)) : PE X (.BinOp a .LShift b pos) (tD X.K E (b2 shlD fa fb)) := pd_bin (opd_i2 fun i j h => powC_ok h) op_shl ha hb
theorem pd_shr (ha : PE X a (tD X.K E fa)) (hb : PE X b (tD X.K E fb)) : PE X (.BinOp a .RShift b pos) (tD X.K E (b2 shrD fa fb)) := pd_bin (opd_i2 fun i j h => by simpa using h) op_shr ha hb
theorem pd_and (ha : PE X a (tD X.K E fa)) (hb : PE X b (tD X.K E fb)) : PE X (.BinOp a .BitAnd b pos) (tD X.K E (b2 andD fa fb)) := pd_bin opd_i20 op_and ha hb
theorem pd_or (ha : PE X a (tD X.K E fa)) (hb : PE X b (tD X.K E fb)) : PE X (.BinOp a .BitOr b pos) (tD X.K E (b2 orD fa fb)) := pd_bin opd_i20 op_or ha hb
/-- -a of an int -/
def negD : D → Option D
  | .int i => some (.int (-i))
  | _ => none
theorem pd_neg (ha : PE X a (tD X.K E fa)) : PE X (.UnaryOp .USub a pos) (tD X.K E (fa >>= fun d => M.opt (negD d))) := by
  refine pe_weak (pe_un un_neg ha) fun σ H Q ⟨B, ρ, c, h⟩ => ⟨B, ρ, c, h.seq.imp ?_⟩
  rintro d ρ' x B' H1 - - - ⟨d, B1, ρ1, st1, rx, h1⟩
  obtain ⟨z, ez, k⟩ := h1.opt
  cases d <;> simp only [negD, reduceCtorEq] at ez
  cases ez
  have rx' := rep_int rx
  exact ⟨_, rx', k _ _ _ (Step.refl st1.cf) (by simp only [RD, Rep])⟩
end

/-! ### == and its kin -/
mutual
def D.py : D → Option PyData
  | .non => some .none
  | .bl b => some (.bool b)
  | .int i => some (.int i)
  | .str z => some (.str z)
  | .tup ds => (D.pys ds).map .tuple
  | .lst ds => (D.pys ds).map .list
  | _ => none
def D.pys : List D → Option (List PyData)
  | [] => some []
  | d :: ds => match D.py d, D.pys ds with
    | some x, some xs => some (x :: xs)
    | _, _ => none
end
section
variable {K : PySem.W.Frag} {B : Fz} {H : Hp}
mutual
theorem Rep.dp (s : Same B.h H) : ∀ {d : D} {v : V} {p : PyData}, d.py = some p → Rep K B d v → Dp K H v p
  | .non, _, _, e, h => by
    simp only [Rep, D.py] at h e
    cases e
    subst h
    exact .non
  | .bl b, _, _, e, h => by
    simp only [Rep, D.py] at h e
    cases e
    subst h
    exact .bl b
  | .int i, _, _, e, h => by
    simp only [Rep, D.py] at h e
    cases e
    subst h
    exact .int i
  | .str z, _, _, e, h => by
    simp only [Rep, D.py] at h e
    cases e
    subst h
    exact .str z
  | .tup ds, _, _, e, h => by
    simp only [Rep, D.py] at h e
    obtain ⟨a, xs, rfl, h2, h3⟩ := h
    cases q : D.pys ds with
    | none =>
      rw [q] at e
      cases e
    | some ps =>
      rw [q] at e
      cases e
      exact .tup (Same.sqt s h2) (Reps.dp s q h3)
  | .lst ds, _, _, e, h => by
    simp only [Rep, D.py] at h e
    obtain ⟨a, xs, rfl, h2, h3⟩ := h
    cases q : D.pys ds with
    | none =>
      rw [q] at e
      cases e
    | some ps =>
      rw [q] at e
      cases e
      exact .lst (SqL.of (s _ _ h2)) (Reps.dp s q h3)
  | .dk _ _, _, _, e, _ => by
    simp only [D.py] at e
    cases e
  | .dt _ _, _, _, e, _ => by
    simp only [D.py] at e
    cases e
  | .ob _ _ _, _, _, e, _ => by
    simp only [D.py] at e
    cases e
  | .adr _, _, _, e, _ => by
    simp only [D.py] at e
    cases e
  | .ty _, _, _, e, _ => by
    simp only [D.py] at e
    cases e
theorem Reps.dp (s : Same B.h H) : ∀ {ds : List D} {vs : List V} {ps : List PyData}, D.pys ds = some ps → Reps K B ds vs → DpAll K H vs ps
  | [], _, _, e, h => by
    simp only [Reps, D.pys] at h e
    cases e
    subst h
    exact .nil
  | d :: ds, _, _, e, h => by
    simp only [Reps, D.pys] at h e
    obtain ⟨x, xs, rfl, h2, h3⟩ := h
    cases q : D.py d with
    | none =>
      rw [q] at e
      cases e
    | some p =>
      cases r : D.pys ds with
      | none =>
        rw [q, r] at e
        cases e
      | some ps =>
        rw [q, r] at e
        cases e
        exact .cons (Rep.dp s q h2) (Reps.dp s r h3)
end
end
/-- scalars of one kind, or none of them -/
def eqS : D → D → Option Bool
  | .non, .non => some true
  | .non, .int _ => some false
  | .int _, .non => some false
  | .non, .bl _ => some false
  | .bl _, .non => some false
  | .non, .str _ => some false
  | .str _, .non => some false
  | .int a, .int b => some (decide (a = b))
  | .bl a, .bl b => some (decide (a = b))
  | .str a, .str b => some (decide (a = b))
  | .int _, .str _ => some false
  | .str _, .int _ => some false
  | .bl _, .str _ => some false
  | .str _, .bl _ => some false
  | _, _ => none
def eqB (d e : D) : Option Bool := match eqS d e with
  | some b => some b
  | none => match d.py, e.py with
    | some x, some y => if SeqAt.shaped x && SeqAt.shaped y then some (PyData.eqv x y) else none
    | _, _ => none
def eqD (d e : D) : Option D := (eqB d e).map .bl
def neD (d e : D) : Option D := (eqB d e).map fun b => .bl (!b)
section
variable {K : PySem.W.Frag}
theorem eqS_scal {B : Fz} {d e : D} {x y : V} {b : Bool} (h : eqS d e = some b) (rx : Rep K B d x) (ry : Rep K B e y) : scal x y = true ∧ decide (x = y) = b := by
  cases d <;> cases e <;> simp only [eqS, reduceCtorEq] at h <;> simp only [Rep] at rx ry <;> subst rx ry <;> cases h <;> simp [scal]
theorem opd_eq : OpD K (fun x y H Q => rEqD K x y H Q ∨ rEq x y H Q) eqD := by
  intro B H σ ρ d e z x y Q c rx ry ez k
  unfold eqD eqB at ez
  split at ez
  · rename_i b hb
    cases ez
    obtain ⟨h1, h2⟩ := eqS_scal hb rx ry
    exact .inr ⟨h1, by rw [h2]; exact k _ _ _ (Step.refl c) (by simp only [Rep])⟩
  · split at ez
    · rename_i p q hp hq
      split at ez
      · rename_i hs
        rw [Bool.and_eq_true] at hs
        cases ez
        exact .inl ⟨p, q, rx.dp c.bh hp, ry.dp c.bh hq, hs.1, hs.2, k _ _ _ (Step.refl c) (by simp only [Rep])⟩
      · cases ez
    · cases ez
theorem opd_ne : OpD K (fun x y H Q => rNeD K x y H Q ∨ rNe x y H Q) neD := by
  intro B H σ ρ d e z x y Q c rx ry ez k
  unfold neD eqB at ez
  split at ez
  · rename_i b hb
    cases ez
    obtain ⟨h1, h2⟩ := eqS_scal hb rx ry
    exact .inr ⟨h1, by rw [h2]; exact k _ _ _ (Step.refl c) (by simp only [Rep])⟩
  · split at ez
    · rename_i p q hp hq
      split at ez
      · rename_i hs
        rw [Bool.and_eq_true] at hs
        cases ez
        exact .inl ⟨p, q, rx.dp c.bh hp, ry.dp c.bh hq, hs.1, hs.2, k _ _ _ (Step.refl c) (by simp only [Rep])⟩
      · cases ez
    · cases ez
def cmpI (p : Int → Int → Bool) (q : List Nat → List Nat → Bool) : D → D → Option D
  | .int a, .int b => some (.bl (p a b))
  | .str a, .str b => some (.bl (q a.cps.toList b.cps.toList))
  | _, _ => none
def ltD := cmpI (fun a b => decide (a < b)) fun a b => decide (a < b)
def leD := cmpI (fun a b => decide (a ≤ b)) fun a b => !decide (b < a)
def gtD := cmpI (fun a b => decide (b < a)) fun a b => decide (b < a)
def geD := cmpI (fun a b => decide (b ≤ a)) fun a b => !decide (a < b)
theorem opd_cmpI {p : Int → Int → Bool} {q : List Nat → List Nat → Bool} : OpD K (fun x y H Q => rI0 (fun i j => .bl (p i j)) x y H Q ∨ (∃ i j, x = .str i ∧ y = .str j ∧ Q (.bl (q i.cps.toList j.cps.toList)) H)) (cmpI p q) := by
  intro B H σ ρ d e z x y Q c rx ry ez k
  cases d <;> cases e <;> simp only [cmpI, reduceCtorEq] at ez
  · simp only [Rep] at rx ry
    subst rx ry
    cases ez
    exact .inl ⟨_, _, rfl, rfl, k _ _ _ (Step.refl c) (by simp only [Rep])⟩
  · simp only [Rep] at rx ry
    subst rx ry
    cases ez
    exact .inr ⟨_, _, rfl, rfl, k _ _ _ (Step.refl c) (by simp only [Rep])⟩
/-- is None, is not None -/
def isN : D → D → Option D
  | .non, .non => some (.bl true)
  | .bl _, .non => some (.bl false)
  | .int _, .non => some (.bl false)
  | .str _, .non => some (.bl false)
  | .tup _, .non => some (.bl false)
  | .lst _, .non => some (.bl false)
  | .dk _ _, .non => some (.bl false)
  | .dt _ _, .non => some (.bl false)
  | .ob _ _ _, .non => some (.bl false)
  | _, _ => none
def notN (d e : D) : Option D := match isN d e with
  | some (.bl b) => some (.bl (!b))
  | _ => none
theorem isN_dec {B : Fz} {d e z : D} {x y : V} (rx : Rep K B d x) (ry : Rep K B e y) (ez : isN d e = some z) : y = .non ∧ z = .bl (decide (x = .non)) := by
  cases d <;> cases e <;> simp only [isN, reduceCtorEq] at ez <;> simp only [Rep] at rx ry <;> cases ez <;> subst ry
  case tup.non => obtain ⟨a, xs, rfl, _⟩ := rx; simp
  case lst.non => obtain ⟨a, xs, rfl, _⟩ := rx; simp
  case dk.non => obtain ⟨a, xs, rfl, _⟩ := rx; simp
  case dt.non => obtain ⟨a, xs, rfl, _⟩ := rx; simp
  case ob.non => obtain ⟨a, dx, xs, rfl, _⟩ := rx; simp
  all_goals (subst rx; simp)
theorem opd_isN : OpD K (fun x y H Q => y = .non ∧ Q (.bl (decide (x = .non))) H) isN := by
  intro B H σ ρ d e z x y Q c rx ry ez k
  obtain ⟨h1, h2⟩ := isN_dec rx ry ez
  subst h2
  exact ⟨h1, k _ _ _ (Step.refl c) (by simp only [Rep])⟩
theorem opd_notN : OpD K (fun x y H Q => y = .non ∧ Q (.bl (!decide (x = .non))) H) notN := by
  intro B H σ ρ d e z x y Q c rx ry ez k
  unfold notN at ez
  split at ez
  · rename_i b hb
    obtain ⟨h1, h2⟩ := isN_dec rx ry hb
    cases h2
    cases ez
    exact ⟨h1, k _ _ _ (Step.refl c) (by simp only [Rep])⟩
  · cases ez
end
section
variable {X : Cx} {E : WX} {a b : Expr} {pos : Pos} {fa fb : M D}
theorem pd_eq (hu : X.A.units + 64 < cLine) (ha : PE X a (tD X.K E fa)) (hb : PE X b (tD X.K E fb)) : PE X (.Compare a [.Eq] [b] pos) (tD X.K E (b2 eqD fa fb)) := pd_cmp opd_eq ((op_eqD hu).or op_eq) ha hb (nomark _)
theorem pd_ne (hu : X.A.units + 64 < cLine) (ha : PE X a (tD X.K E fa)) (hb : PE X b (tD X.K E fb)) : PE X (.Compare a [.NotEq] [b] pos) (tD X.K E (b2 neD fa fb)) := pd_cmp opd_ne ((op_neD hu).or op_ne) ha hb (nomark _)
theorem pd_lt (ha : PE X a (tD X.K E fa)) (hb : PE X b (tD X.K E fb)) : PE X (.Compare a [.Lt] [b] pos) (tD X.K E (b2 ltD fa fb)) := pd_cmp opd_cmpI (op_lt.or op_lt_str) ha hb (nomark _)
theorem pd_le (ha : PE X a (tD X.K E fa)) (hb : PE X b (tD X.K E fb)) : PE X (.Compare a [.LtE] [b] pos) (tD X.K E (b2 leD fa fb)) := pd_cmp opd_cmpI (op_le.or op_le_str) ha hb (nomark _)
theorem pd_gt (ha : PE X a (tD X.K E fa)) (hb : PE X b (tD X.K E fb)) : PE X (.Compare a [.Gt] [b] pos) (tD X.K E (b2 gtD fa fb)) := pd_cmp opd_cmpI (op_gt.or op_gt_str) ha hb (nomark _)
theorem pd_ge (ha : PE X a (tD X.K E fa)) (hb : PE X b (tD X.K E fb)) : PE X (.Compare a [.GtE] [b] pos) (tD X.K E (b2 geD fa fb)) := pd_cmp opd_cmpI (op_ge.or op_ge_str) ha hb (nomark _)
theorem pd_isN (ha : PE X a (tD X.K E fa)) (hb : PE X b (tD X.K E fb)) : PE X (.Compare a [.Is] [b] pos) (tD X.K E (b2 isN fa fb)) := pd_cmp opd_isN op_isN ha hb (nomark _)
theorem pd_notN (ha : PE X a (tD X.K E fa)) (hb : PE X b (tD X.K E fb)) : PE X (.Compare a [.IsNot] [b] pos) (tD X.K E (b2 notN fa fb)) := pd_cmp opd_notN op_notN ha hb (nomark _)

/-! ### tests -/
def asB : D → Option Bool
  | .bl b => some b
  | _ => none
def tst (f : M D) : M Bool := f >>= fun d => M.opt (asB d)
theorem pt_tst {e : Expr} (h : PE X e (tD X.K E fa)) (he : ∀ whole, isTrue e X.env whole = (do let v ← whole; standAt e.pos; holding [v] (truthy v)) := by intro _; rfl) : PT X e (tT X.K E (tst fa)) := by
  refine pt_weak (pt_val h he) fun σ H Q ⟨B, ρ, c, h⟩ => ⟨B, ρ, c, h.seq.imp ?_⟩
  rintro d ρ' x B' H1 - - - ⟨d, B1, ρ1, st1, rx, h1⟩
  obtain ⟨z, ez, k⟩ := h1.opt
  cases d <;> simp only [asB, reduceCtorEq] at ez
  cases ez
  have rx' := rep_bl rx
  exact ⟨_, rx', k _ _ _ (Step.refl st1.cf) rfl⟩
variable {ta tb : M Bool}
/-- a comparison as a test -/
theorem pt_cmpD {o : CmpOp} {r : R2} {op : D → D → Option D} (hr : OpD X.K r op) (ho : OpR X (compareOp o) r) (ha : PE X a (tD X.K E fa)) (hb : PE X b (tD X.K E fb)) (hm : behindInMarks o b = false) :
    PT X (.Compare a [o] [b] pos) (tT X.K E (tst (b2 op fa fb))) := by
  refine pt_weak (pt_cmpR ho ha hb hm) fun σ H Q ⟨B, ρ, c, h⟩ => ?_
  refine two_parts hr (fun _ _ _ h => h) (fun _ _ _ h => h) σ H _ ⟨B, ρ, c, h.seq.imp ?_⟩
  rintro d ρ' x B' H1 - - - ⟨d, B1, ρ1, st1, rx, h1⟩
  obtain ⟨z, ez, k⟩ := h1.opt
  cases d <;> simp only [asB, reduceCtorEq] at ez
  cases ez
  have rx' := rep_bl rx
  exact ⟨_, rx', k _ _ _ (Step.refl st1.cf) rfl⟩
theorem pt_eq (hu : X.A.units + 64 < cLine) (ha : PE X a (tD X.K E fa)) (hb : PE X b (tD X.K E fb)) : PT X (.Compare a [.Eq] [b] pos) (tT X.K E (tst (b2 eqD fa fb))) := pt_cmpD opd_eq ((op_eqD hu).or op_eq) ha hb (nomark _)
theorem pt_ne (hu : X.A.units + 64 < cLine) (ha : PE X a (tD X.K E fa)) (hb : PE X b (tD X.K E fb)) : PT X (.Compare a [.NotEq] [b] pos) (tT X.K E (tst (b2 neD fa fb))) := pt_cmpD opd_ne ((op_neD hu).or op_ne) ha hb (nomark _)
theorem pt_lt (ha : PE X a (tD X.K E fa)) (hb : PE X b (tD X.K E fb)) : PT X (.Compare a [.Lt] [b] pos) (tT X.K E (tst (b2 ltD fa fb))) := pt_cmpD opd_cmpI (op_lt.or op_lt_str) ha hb (nomark _)
theorem pt_le (ha : PE X a (tD X.K E fa)) (hb : PE X b (tD X.K E fb)) : PT X (.Compare a [.LtE] [b] pos) (tT X.K E (tst (b2 leD fa fb))) := pt_cmpD opd_cmpI (op_le.or op_le_str) ha hb (nomark _)
theorem pt_gt (ha : PE X a (tD X.K E fa)) (hb : PE X b (tD X.K E fb)) : PT X (.Compare a [.Gt] [b] pos) (tT X.K E (tst (b2 gtD fa fb))) := pt_cmpD opd_cmpI (op_gt.or op_gt_str) ha hb (nomark _)
theorem pt_ge (ha : PE X a (tD X.K E fa)) (hb : PE X b (tD X.K E fb)) : PT X (.Compare a [.GtE] [b] pos) (tT X.K E (tst (b2 geD fa fb))) := pt_cmpD opd_cmpI (op_ge.or op_ge_str) ha hb (nomark _)
theorem pt_isN (ha : PE X a (tD X.K E fa)) (hb : PE X b (tD X.K E fb)) : PT X (.Compare a [.Is] [b] pos) (tT X.K E (tst (b2 isN fa fb))) := pt_cmpD opd_isN op_isN ha hb (nomark _)
theorem pt_notN (ha : PE X a (tD X.K E fa)) (hb : PE X b (tD X.K E fb)) : PT X (.Compare a [.IsNot] [b] pos) (tT X.K E (tst (b2 notN fa fb))) := pt_cmpD opd_notN op_notN ha hb (nomark _)
/-! and, or, not as tests -/
variable {rest : List Expr}
theorem wd_and1 (ha : PT X a (tT X.K E ta)) : PW X (.BoolOp .And [a] pos) (tT X.K E ta) := pw_and1 ha
theorem wd_or1 (ha : PT X a (tT X.K E ta)) : PW X (.BoolOp .Or [a] pos) (tT X.K E ta) := pw_or1 ha
def andM (f g : M Bool) : M Bool := f >>= fun b => if b then g else M.ret false
def orM (f g : M Bool) : M Bool := f >>= fun b => if b then M.ret true else g
theorem wd_and (ha : PT X a (tT X.K E ta)) (hb : PW X (.BoolOp .And (b :: rest) pos) (tT X.K E tb)) : PW X (.BoolOp .And (a :: b :: rest) pos) (tT X.K E (andM ta tb)) := by
  refine pw_weak (pw_and ha hb) fun σ H Q ⟨B, ρ, c, h⟩ => ⟨B, ρ, c, h.seq.imp ?_⟩
  rintro d ρ' x B' H1 - - - ⟨d, B1, ρ1, st1, rx, h1⟩
  have e : d = x := rx
  subst e
  cases d with
  | true => exact iteT ⟨B1, ρ1, st1.cf, h1⟩
  | false => exact iteF (h1.here st1.cf rfl)
theorem wd_or (ha : PT X a (tT X.K E ta)) (hb : PW X (.BoolOp .Or (b :: rest) pos) (tT X.K E tb)) : PW X (.BoolOp .Or (a :: b :: rest) pos) (tT X.K E (orM ta tb)) := by
  refine pw_weak (pw_or ha hb) fun σ H Q ⟨B, ρ, c, h⟩ => ⟨B, ρ, c, h.seq.imp ?_⟩
  rintro d ρ' x B' H1 - - - ⟨d, B1, ρ1, st1, rx, h1⟩
  have e : d = x := rx
  subst e
  cases d with
  | false => exact iteF ⟨B1, ρ1, st1.cf, h1⟩
  | true => exact iteT (h1.here st1.cf rfl)
def notM (f : M Bool) : M Bool := f >>= fun b => M.ret (!b)
theorem pt_notD (ha : PT X a (tT X.K E ta)) : PT X (.UnaryOp .Not a pos) (tT X.K E (notM ta)) := by
  refine pt_weak (pt_not ha) fun σ H Q ⟨B, ρ, c, h⟩ => ⟨B, ρ, c, h.seq.imp ?_⟩
  rintro d ρ' x B' H1 - - - ⟨d, B1, ρ1, st1, rx, h1⟩
  have e : d = x := rx
  subst e
  exact h1.here st1.cf rfl
/-! .. as values -/
def andV (f g : M D) : M D := f >>= fun d => M.opt (asB d) >>= fun b => if b then g else M.ret (.bl false)
def orV (f g : M D) : M D := f >>= fun d => M.opt (asB d) >>= fun b => if b then M.ret (.bl true) else g
theorem At.optSeq {α γ δ : Type} {K : PySem.W.Frag} {E : WX} {R' : Rl γ δ} {σ : L2.St} {B : Fz} {H : Hp} {ρ : Rho} {Q : δ → Hp → Prop} {o : Option α} {g : α → M γ} (h : At K E R' σ B H ρ Q ((M.opt o >>= g) ρ)) : ∃ a, o = some a ∧ At K E R' σ B H ρ Q (g a ρ) := by
  cases o with
  | none => exact h.elim
  | some a => exact ⟨a, rfl, h⟩
theorem pd_andV (ha : PE X a (tD X.K E fa)) (hb : PE X (.BoolOp .And (b :: rest) pos) (tD X.K E fb)) : PE X (.BoolOp .And (a :: b :: rest) pos) (tD X.K E (andV fa fb)) := by
  refine pe_weak (pe_and ha hb) fun σ H Q ⟨B, ρ, c, h⟩ => ⟨B, ρ, c, h.seq.imp ?_⟩
  rintro d ρ' x B' H1 - - - ⟨d, B1, ρ1, st1, rx, h1⟩
  obtain ⟨z, ez, k⟩ := h1.optSeq
  cases d <;> simp only [asB, reduceCtorEq] at ez
  cases ez
  have rx' := rep_bl rx
  refine ⟨_, rx', ?_⟩
  cases z with
  | true => exact iteT ⟨B1, ρ1, st1.cf, k⟩
  | false => exact iteF (k.here st1.cf (by simp only [RD, Rep]))
theorem pd_orV (ha : PE X a (tD X.K E fa)) (hb : PE X (.BoolOp .Or (b :: rest) pos) (tD X.K E fb)) : PE X (.BoolOp .Or (a :: b :: rest) pos) (tD X.K E (orV fa fb)) := by
  refine pe_weak (pe_or ha hb) fun σ H Q ⟨B, ρ, c, h⟩ => ⟨B, ρ, c, h.seq.imp ?_⟩
  rintro d ρ' x B' H1 - - - ⟨d, B1, ρ1, st1, rx, h1⟩
  obtain ⟨z, ez, k⟩ := h1.optSeq
  cases d <;> simp only [asB, reduceCtorEq] at ez
  cases ez
  have rx' := rep_bl rx
  refine ⟨_, rx', ?_⟩
  cases z with
  | false => exact iteF ⟨B1, ρ1, st1.cf, k⟩
  | true => exact iteT (k.here st1.cf (by simp only [RD, Rep]))
theorem pd_one {o} (ha : PE X a (tD X.K E fa)) : PE X (.BoolOp o [a] pos) (tD X.K E fa) := pe_one ha
def notV (f : M D) : M D := f >>= fun d => M.opt (asB d) >>= fun b => M.ret (.bl (!b))
theorem pd_notV (ha : PE X a (tD X.K E fa)) : PE X (.UnaryOp .Not a pos) (tD X.K E (notV fa)) := by
  refine pe_weak (pe_not ha) fun σ H Q ⟨B, ρ, c, h⟩ => ⟨B, ρ, c, h.seq.imp ?_⟩
  rintro d ρ' x B' H1 - - - ⟨d, B1, ρ1, st1, rx, h1⟩
  obtain ⟨z, ez, k⟩ := h1.optSeq
  cases d <;> simp only [asB, reduceCtorEq] at ez
  cases ez
  have rx' := rep_bl rx
  exact ⟨_, rx', k.here st1.cf (by simp only [RD, Rep])⟩
def ifM {α : Type} (t : M Bool) (f g : M α) : M α := t >>= fun b => if b then f else g
theorem pd_if {c : Expr} (hc : PT X c (tT X.K E ta)) (ha : PE X a (tD X.K E fa)) (hb : PE X b (tD X.K E fb)) : PE X (.IfExp c a b pos) (tD X.K E (ifM ta fa fb)) := by
  refine pe_weak (pe_ifExp hc ha hb) fun σ H Q ⟨B, ρ, c, h⟩ => ⟨B, ρ, c, h.seq.imp ?_⟩
  rintro d ρ' x B' H1 - - - ⟨d, B1, ρ1, st1, rx, h1⟩
  have e : d = x := rx
  subst e
  cases d with
  | true => exact iteT ⟨B1, ρ1, st1.cf, h1⟩
  | false => exact iteF ⟨B1, ρ1, st1.cf, h1⟩
end
end Nc

/-! Sequences: operands that are looked at, displays, items, slices, len, in, built-ins of one argument. -/
namespace Nc
open PySem PySem.Spec PyProof.Rows L2

/-- the tree, its top read in the whole heap -/
def RepT (K : PySem.W.Frag) (B : Fz) (H : Hp) : D → V → Prop
  | .lst ds, v => ∃ a xs, v = .ref a ∧ H a = some (.lst xs) ∧ Reps K B ds xs
  | .tup ds, v => ∃ a xs, v = .ref a ∧ SqT K H a xs ∧ Reps K B ds xs
  | .dk ks ds, v => ∃ a xs, v = .ref a ∧ H a = some (.dK (ks.zip xs)) ∧ ks.length = xs.length ∧ Reps K B ds xs
  | .dt ks ds, v => ∃ a xs, v = .ref a ∧ H a = some (.dT (ks.zip xs)) ∧ ks.length = xs.length ∧ Reps K B ds xs
  | .ob C fs ds, v => ∃ a dx xs, v = .ref a ∧ H a = some (.ins C dx (fs.zip xs)) ∧ fs.length = xs.length ∧ Reps K B ds xs
  | d, v => Rep K B d v
section
variable {K : PySem.W.Frag} {B : Fz} {H : Hp}
theorem Rep.top (s : Same B.h H) : ∀ {d : D} {v : V}, Rep K B d v → RepT K B H d v
  | .non, _, h => h
  | .bl _, _, h => h
  | .int _, _, h => h
  | .str _, _, h => h
  | .tup ds, v, h => by
    simp only [Rep] at h
    obtain ⟨a, xs, h1, h2, h3⟩ := h
    exact ⟨a, xs, h1, Same.sqt s h2, h3⟩
  | .lst ds, v, h => by
    simp only [Rep] at h
    obtain ⟨a, xs, h1, h2, h3⟩ := h
    exact ⟨a, xs, h1, s _ _ h2, h3⟩
  | .dk ks ds, v, h => by
    simp only [Rep] at h
    obtain ⟨a, xs, h1, h2, h3, h4⟩ := h
    exact ⟨a, xs, h1, s _ _ h2, h3, h4⟩
  | .dt ks ds, v, h => by
    simp only [Rep] at h
    obtain ⟨a, xs, h1, h2, h3, h4⟩ := h
    exact ⟨a, xs, h1, s _ _ h2, h3, h4⟩
  | .ob C fs ds, v, h => by
    simp only [Rep] at h
    obtain ⟨a, dx, xs, h1, h2, h3, h4⟩ := h
    exact ⟨a, dx, xs, h1, s _ _ h2, h3, h4⟩
  | .adr _, _, h => h
  | .ty _, _, h => h
  | .ptr _, _, h => h
theorem RepO.top {a : Addr} {u : HO} : ∀ {o : O}, RepO K B o u → H a = some u → RepT K B H o.frozen (.ref a)
  | .lst _, ⟨xs, h1, h2⟩, e => by
    subst h1
    exact ⟨a, xs, rfl, e, h2⟩
  | .dk _ _, ⟨xs, h1, h3, h2⟩, e => by
    subst h1
    exact ⟨a, xs, rfl, e, h3, h2⟩
  | .dt _ _, ⟨xs, h1, h3, h2⟩, e => by
    subst h1
    exact ⟨a, xs, rfl, e, h3, h2⟩
  | .ob _ _ _, ⟨dx, xs, h1, h3, h2⟩, e => by
    subst h1
    exact ⟨a, dx, xs, rfl, e, h3, h2⟩
theorem RepT.dp (s : Same B.h H) : ∀ {d : D} {v : V} {p : PyData}, d.py = some p → RepT K B H d v → Dp K H v p
  | .non, _, _, e, h => Rep.dp s e h
  | .bl b, _, _, e, h => Rep.dp s e h
  | .int i, _, _, e, h => Rep.dp s e h
  | .str z, _, _, e, h => Rep.dp s e h
  | .tup ds, _, _, e, h => by
    simp only [D.py] at e
    obtain ⟨a, xs, rfl, h2, h3⟩ := h
    cases q : D.pys ds with
    | none =>
      rw [q] at e
      cases e
    | some ps =>
      rw [q] at e
      cases e
      exact .tup h2 (Reps.dp s q h3)
  | .lst ds, _, _, e, h => by
    simp only [D.py] at e
    obtain ⟨a, xs, rfl, h2, h3⟩ := h
    cases q : D.pys ds with
    | none =>
      rw [q] at e
      cases e
    | some ps =>
      rw [q] at e
      cases e
      exact .lst (SqL.of h2) (Reps.dp s q h3)
  | .dk _ _, _, _, e, _ => by
    simp only [D.py] at e
    cases e
  | .dt _ _, _, _, e, _ => by
    simp only [D.py] at e
    cases e
  | .ob _ _ _, _, _, e, _ => by
    simp only [D.py] at e
    cases e
  | .adr _, _, _, e, _ => by
    simp only [D.py] at e
    cases e
  | .ty _, _, _, e, _ => by
    simp only [D.py] at e
    cases e
end

theorem rept_int {K : PySem.W.Frag} {B : Fz} {H : Hp} {i : Int} {x : V} (h : RepT K B H (.int i) x) : x = .int i := rep_int (K := K) (B := B) h
theorem rept_str {K : PySem.W.Frag} {B : Fz} {H : Hp} {z : Str} {x : V} (h : RepT K B H (.str z) x) : x = .str z := rep_str (K := K) (B := B) h
theorem rept_bl {K : PySem.W.Frag} {B : Fz} {H : Hp} {b : Bool} {x : V} (h : RepT K B H (.bl b) x) : x = .bl b := rep_bl (K := K) (B := B) h

/-! ### operands that are looked at -/
inductive Opd where
  | d (d : D)
  /-- what stands in the slot i -/
  | s (i : Nat)
/-- a cell is looked into -/
def look (ρ : Rho) : D → Option D
  | .ptr n => match ρ.g[n]? with
    | some y => some y.frozen
    | _ => none
  | x => some x
def Opd.dat (ρ : Rho) (o : Opd) : Option D := match o with
  | .d x => look ρ x
  | .s i => match ρ[i]? with
    | some (some (.val x)) => look ρ x
    | some (some (.own y)) => some y.frozen
    | _ => none
theorem look_top {K : PySem.W.Frag} {B : Fz} {H : Hp} {σ : L2.St} {ρ : Rho} (c : Cf K B H σ ρ) {x d : D} {v : V} (r : Rep K B x v) (e : look ρ x = some d) : RepT K B H d v := by
  unfold look at e
  split at e
  · rename_i n
    split at e
    · rename_i y q
      cases e
      obtain ⟨a, h, e1, e2, e3, e4⟩ := c.cl.at_ n y q
      simp only [Rep] at r
      obtain ⟨a', rfl, r⟩ := r
      rw [e1] at r
      cases r
      exact e4.top e3
    · cases e
  · cases e
    exact Rep.top c.bh r
theorem look_tup {ρ : Rho} {x : D} {ds : List D} (e : look ρ x = some (.tup ds)) : x = .tup ds := by
  unfold look at e
  split at e
  · split at e
    · rename_i y q
      cases y <;> simp only [O.frozen, Option.some.injEq, reduceCtorEq] at e
    · cases e
  · exact Option.some.inj e
def RK (K : PySem.W.Frag) : Rl Opd V := fun _ σ B _ _ o v => match o with
  | .d d => Rep K B d v
  | .s i => σ[i]? = some (some v)
instance (K : PySem.W.Frag) : RlM (RK K) := ⟨fun _ h => h⟩
abbrev tK (K : PySem.W.Frag) (E : WX) (f : M Opd) : TE := tR K E (RK K) f
/-- the tree of an operand, as things stand -/
def getO (o : Opd) : M D := fun ρ => match o.dat ρ with
  | some d => .ok d ρ
  | none => .no
def varK (i : Nat) : M Opd := fun ρ => match ρ[i]? with
  | some (some _) => .ok (.s i) ρ
  | _ => .no
def opdM (f : M D) : M Opd := f >>= fun d => M.ret (.d d)
section
variable {K : PySem.W.Frag} {E : WX} {σ : L2.St} {B B1 B' : Fz} {H H1 H' : Hp} {ρ ρ1 ρ' : Rho}
theorem RK.mono {H0 H0' : Hp} {o : Opd} {v : V} (st : Step K σ B H ρ σ B' H' ρ') (h : RK K H0 σ B H ρ o v) : RK K H0' σ B' H' ρ' o v := by
  cases o with
  | d d => exact Rep.mono st.bb h
  | s i => exact h
theorem RK.top {H0 : Hp} (c : Cf K B H σ ρ) {o : Opd} {v : V} {d : D} (h : RK K H0 σ B H ρ o v) (e : o.dat ρ = some d) : RepT K B H d v := by
  cases o with
  | d d' => exact look_top c h e
  | s i =>
    have h : σ[i]? = some (some v) := h
    unfold Opd.dat at e
    cases q : ρ[i]? with
    | none =>
      simp only [q] at e
      cases e
    | some s =>
      cases s with
      | none =>
        simp only [q] at e
        cases e
      | some s =>
        cases s with
        | val d' =>
          simp only [q] at e
          obtain ⟨w, e1, r⟩ := c.val q
          rw [h] at e1
          cases e1
          exact look_top c r e
        | own o =>
          simp only [q] at e
          cases e
          obtain ⟨p, u, e1, b1, k1, r1, oa1⟩ := c.own q
          rw [h] at e1
          cases e1
          exact r1.top k1
theorem At.getO {γ δ : Type} {R' : Rl γ δ} {Q : δ → Hp → Prop} {o : Opd} {g : D → M γ} (h : At K E R' σ B H ρ Q ((getO o >>= g) ρ)) : ∃ d, o.dat ρ = some d ∧ At K E R' σ B H ρ Q (g d ρ) := by
  cases e : o.dat ρ with
  | none =>
    have : Nc.getO o ρ = .no := by unfold Nc.getO; rw [e]
    rw [bnd_no this] at h
    exact h.elim
  | some d =>
    have : Nc.getO o ρ = .ok d ρ := by unfold Nc.getO; rw [e]
    rw [bnd_ok this] at h
    exact ⟨d, rfl, h⟩
end
section
variable {X : Cx} {E : WX} {a b : Expr} {pos : Pos} {fa fb : M Opd} {f : M D}
theorem pk_var (i : Nat) {x : Str} {pos : Pos} (h : PE X (.Name x pos) (tVar i)) : PE X (.Name x pos) (tK X.K E (varK i)) := by
  refine pe_weak h fun σ H Q ⟨B, ρ, c, a⟩ => ?_
  unfold varK at a
  cases e : ρ[i]? with
  | none =>
    rw [e] at a
    exact a.elim
  | some s =>
    cases s with
    | none =>
      rw [e] at a
      exact a.elim
    | some s =>
      rw [e] at a
      cases s with
      | val d =>
        obtain ⟨v, e1, r⟩ := c.val e
        exact ⟨v, e1, a.here c e1⟩
      | own o =>
        obtain ⟨p, u, e1, b1, k1, r1, oa1⟩ := c.own e
        exact ⟨.ref p, e1, a.here c e1⟩
theorem pk_of {e : Expr} (h : PE X e (tD X.K E f)) : PE X e (tK X.K E (opdM f)) := by
  refine pe_weak h fun σ H Q ⟨B, ρ, c, h⟩ => ⟨B, ρ, c, h.seq.imp ?_⟩
  rintro d ρ' x B' H1 - - - ⟨d, B1, ρ1, st1, rx, h1⟩
  exact h1.here st1.cf rx
/-- what an operator's reading asks, the tops of both read in the heap -/
def OpK (K : PySem.W.Frag) (r : R2) (op : D → D → Option D) : Prop := ∀ (B : Fz) (H : Hp) (σ : L2.St) (ρ : Rho) (d e z : D) (x y : V) (Q : VK), Cf K B H σ ρ → RepT K B H d x → RepT K B H e y → op d e = some z →
  (∀ v B' H', Step K σ B H ρ σ B' H' ρ → Rep K B' z v → Q v H') → r x y H Q
def k2 (op : D → D → Option D) (fa fb : M Opd) : M D := fa >>= fun o => fb >>= fun u => getO o >>= fun d => getO u >>= fun e => M.opt (op d e)
theorem two_partsK {r : R2} {op : D → D → Option D} (hr : OpK X.K r op) : ∀ σ H Q, tD X.K E (k2 op fa fb) σ H Q → tOp r (tK X.K E fa) (tK X.K E fb) σ H Q := by
  rintro σ H Q ⟨B, ρ, c, h⟩
  refine ⟨B, ρ, c, h.seq.imp ?_⟩
  rintro d ρ' x B' H1 - - - ⟨o, B1, ρ1, st1, rx, h1⟩
  refine ⟨B1, ρ1, st1.cf, h1.seq.imp ?_⟩
  rintro e ρ' y B' H2 - - - ⟨u, B2, ρ2, st2, ry, h2⟩
  obtain ⟨d, e1, h2⟩ := h2.getO
  obtain ⟨e, e2, h2⟩ := h2.getO
  obtain ⟨z, ez, k⟩ := h2.opt
  exact hr B2 H2 σ ρ2 d e z x y Q st2.cf ((RK.mono (H0' := H2) st2 rx).top st2.cf e1) (RK.top st2.cf ry e2) ez k
theorem pk_cmp {o : CmpOp} {r : R2} {op : D → D → Option D} (hr : OpK X.K r op) (ho : OpR X (compareOp o) r) (ha : PE X a (tK X.K E fa)) (hb : PE X b (tK X.K E fb)) (hm : behindInMarks o b = false) :
    PE X (.Compare a [o] [b] pos) (tD X.K E (k2 op fa fb)) := pe_weak (pe_cmpR ho ha hb hm) (two_partsK hr)
theorem pkt_cmp {o : CmpOp} {r : R2} {op : D → D → Option D} (hr : OpK X.K r op) (ho : OpR X (compareOp o) r) (ha : PE X a (tK X.K E fa)) (hb : PE X b (tK X.K E fb)) (hm : behindInMarks o b = false) :
    PT X (.Compare a [o] [b] pos) (tT X.K E (tst (k2 op fa fb))) := by
  refine pt_weak (pt_cmpR ho ha hb hm) fun σ H Q ⟨B, ρ, c, h⟩ => ?_
  refine two_partsK hr σ H _ ⟨B, ρ, c, h.seq.imp ?_⟩
  rintro d ρ' x B' H1 - - - ⟨d, B1, ρ1, st1, rx, h1⟩
  obtain ⟨z, ez, k⟩ := h1.opt
  cases d <;> simp only [asB, reduceCtorEq] at ez
  cases ez
  have rx' := rep_bl rx
  exact ⟨_, rx', k _ _ _ (Step.refl st1.cf) rfl⟩
end

/-! ### ==, in, with operands that are looked at -/
section
variable {K : PySem.W.Frag}
theorem eqS_scalT {B : Fz} {H : Hp} {d e : D} {x y : V} {b : Bool} (h : eqS d e = some b) (rx : RepT K B H d x) (ry : RepT K B H e y) : scal x y = true ∧ decide (x = y) = b := by
  cases d <;> cases e <;> simp only [eqS, reduceCtorEq] at h <;> exact eqS_scal (by simpa only [eqS] using h) rx ry
theorem opk_eq : OpK K (fun x y H Q => rEqD K x y H Q ∨ rEq x y H Q) eqD := by
  intro B H σ ρ d e z x y Q c rx ry ez k
  unfold eqD eqB at ez
  split at ez
  · rename_i b hb
    cases ez
    obtain ⟨h1, h2⟩ := eqS_scalT hb rx ry
    exact .inr ⟨h1, by rw [h2]; exact k _ _ _ (Step.refl c) (by simp only [Rep])⟩
  · split at ez
    · rename_i p q hp hq
      split at ez
      · rename_i hs
        rw [Bool.and_eq_true] at hs
        cases ez
        exact .inl ⟨p, q, rx.dp c.bh hp, ry.dp c.bh hq, hs.1, hs.2, k _ _ _ (Step.refl c) (by simp only [Rep])⟩
      · cases ez
    · cases ez
theorem opk_ne : OpK K (fun x y H Q => rNeD K x y H Q ∨ rNe x y H Q) neD := by
  intro B H σ ρ d e z x y Q c rx ry ez k
  unfold neD eqB at ez
  split at ez
  · rename_i b hb
    cases ez
    obtain ⟨h1, h2⟩ := eqS_scalT hb rx ry
    exact .inr ⟨h1, by rw [h2]; exact k _ _ _ (Step.refl c) (by simp only [Rep])⟩
  · split at ez
    · rename_i p q hp hq
      split at ez
      · rename_i hs
        rw [Bool.and_eq_true] at hs
        cases ez
        exact .inl ⟨p, q, rx.dp c.bh hp, ry.dp c.bh hq, hs.1, hs.2, k _ _ _ (Step.refl c) (by simp only [Rep])⟩
      · cases ez
    · cases ez
def D.flat : D → Option V
  | .non => some .non
  | .bl b => some (.bl b)
  | .int i => some (.int i)
  | .str z => some (.str z)
  | _ => none
def D.flats : List D → Option (List V)
  | [] => some []
  | d :: ds => match d.flat, D.flats ds with
    | some x, some xs => some (x :: xs)
    | _, _ => none
theorem flat_rep {B : Fz} {d : D} {v w : V} (e : d.flat = some w) (h : Rep K B d v) : v = w ∧ flatV w = true := by
  cases d <;> simp only [D.flat, reduceCtorEq] at e <;> simp only [Rep] at h <;> cases e <;> subst h <;> exact ⟨rfl, rfl⟩
theorem flat_repT {B : Fz} {H : Hp} {d : D} {v w : V} (e : d.flat = some w) (h : RepT K B H d v) : v = w ∧ flatV w = true := by
  cases d <;> simp only [D.flat, reduceCtorEq] at e <;> exact flat_rep (by simpa only [D.flat] using e) h
theorem flats_reps {B : Fz} : ∀ {ds : List D} {vs ws : List V}, D.flats ds = some ws → Reps K B ds vs → vs = ws ∧ ws.all flatV = true
  | [], vs, ws, e, h => by
    simp only [D.flats, Reps] at e h
    cases e
    exact ⟨h, rfl⟩
  | d :: ds, vs, ws, e, h => by
    simp only [D.flats, Reps] at e h
    obtain ⟨x, xs, rfl, h2, h3⟩ := h
    split at e
    · rename_i y ys e1 e2
      cases e
      obtain ⟨rfl, f1⟩ := flat_rep e1 h2
      obtain ⟨rfl, f2⟩ := flats_reps e2 h3
      exact ⟨rfl, by rw [List.all_cons, f1, f2]; rfl⟩
    · cases e
def seqOf : D → Option (List D)
  | .lst ds => some ds
  | .tup ds => some ds
  | _ => none
def inS (d : D) : D → Option Bool
  | .str z => match d with
    | .str w => some (!(Builtin.Str.occurrences z w 0 z.length 1).isEmpty)
    | _ => none
  | .lst ds => match d.flat, D.flats ds with
    | some x, some xs => some (inV x xs)
    | _, _ => match d.py, D.pys ds with
      | some p, some ps => if SeqAt.shaped p && SeqAt.shaped (.list ps) then some (ps.any fun z => PyData.eqv z p) else none
      | _, _ => none
  | .tup ds => match d.flat, D.flats ds with
    | some x, some xs => some (inV x xs)
    | _, _ => none
  | _ => none
def inD (d e : D) : Option D := (inS d e).map .bl
def notInD (d e : D) : Option D := (inS d e).map fun b => .bl (!b)
theorem opk_in : OpK K (fun x y H Q => rIn K false x y H Q ∨ rInD K x y H Q ∨ (∃ i j, x = .str i ∧ y = .str j ∧ Q (.bl (!(Builtin.Str.occurrences j i 0 j.length 1).isEmpty)) H)) inD := by
  intro B H σ ρ d e z x y Q c rx ry ez k
  unfold inD at ez
  cases eb : inS d e with
  | none =>
    rw [eb] at ez
    cases ez
  | some b =>
    rw [eb] at ez
    cases ez
    have k' := k _ _ _ (Step.refl c) (show Rep K B (.bl b) (.bl b) by simp only [Rep])
    cases e with
    | str z =>
      cases d <;> simp only [inS, reduceCtorEq] at eb
      cases eb
      exact .inr (.inr ⟨_, _, rept_str rx, rept_str ry, k'⟩)
    | lst ds =>
      obtain ⟨p, xs, rfl, h1, h2⟩ := ry
      simp only [inS] at eb
      split at eb
      · rename_i w ws e1 e2
        cases eb
        obtain ⟨rfl, f1⟩ := flat_repT e1 rx
        obtain ⟨rfl, f2⟩ := flats_reps e2 h2
        exact .inl ⟨p, _, rfl, .inl (SqL.of h1), f1, f2, k'⟩
      · split at eb
        · rename_i q qs e1 e2
          split at eb
          · rename_i hs
            rw [Bool.and_eq_true] at hs
            cases eb
            exact .inr (.inl ⟨q, qs, rx.dp c.bh e1, .lst (SqL.of h1) (Reps.dp c.bh e2 h2), hs.1, hs.2, k'⟩)
          · cases eb
        · cases eb
    | tup ds =>
      obtain ⟨p, xs, rfl, h1, h2⟩ := ry
      simp only [inS] at eb
      split at eb
      · rename_i w ws e1 e2
        cases eb
        obtain ⟨rfl, f1⟩ := flat_repT e1 rx
        obtain ⟨rfl, f2⟩ := flats_reps e2 h2
        exact .inl ⟨p, _, rfl, .inr h1, f1, f2, k'⟩
      · cases eb
    | _ => simp only [inS, reduceCtorEq] at eb
theorem opk_notIn : OpK K (fun x y H Q => rIn K true x y H Q ∨ rNotInD K x y H Q ∨ (∃ i j, x = .str i ∧ y = .str j ∧ Q (.bl (!(!(Builtin.Str.occurrences j i 0 j.length 1).isEmpty))) H)) notInD := by
  intro B H σ ρ d e z x y Q c rx ry ez k
  unfold notInD at ez
  cases eb : inS d e with
  | none =>
    rw [eb] at ez
    cases ez
  | some b =>
    rw [eb] at ez
    cases ez
    have k' := k _ _ _ (Step.refl c) (show Rep K B (.bl !b) (.bl !b) by simp only [Rep])
    cases e with
    | str z =>
      cases d <;> simp only [inS, reduceCtorEq] at eb
      cases eb
      exact .inr (.inr ⟨_, _, rept_str rx, rept_str ry, k'⟩)
    | lst ds =>
      obtain ⟨p, xs, rfl, h1, h2⟩ := ry
      simp only [inS] at eb
      split at eb
      · rename_i w ws e1 e2
        cases eb
        obtain ⟨rfl, f1⟩ := flat_repT e1 rx
        obtain ⟨rfl, f2⟩ := flats_reps e2 h2
        exact .inl ⟨p, _, rfl, .inl (SqL.of h1), f1, f2, k'⟩
      · split at eb
        · rename_i q qs e1 e2
          split at eb
          · rename_i hs
            rw [Bool.and_eq_true] at hs
            cases eb
            exact .inr (.inl ⟨q, qs, rx.dp c.bh e1, .lst (SqL.of h1) (Reps.dp c.bh e2 h2), hs.1, hs.2, k'⟩)
          · cases eb
        · cases eb
    | tup ds =>
      obtain ⟨p, xs, rfl, h1, h2⟩ := ry
      simp only [inS] at eb
      split at eb
      · rename_i w ws e1 e2
        cases eb
        obtain ⟨rfl, f1⟩ := flat_repT e1 rx
        obtain ⟨rfl, f2⟩ := flats_reps e2 h2
        exact .inl ⟨p, _, rfl, .inr h1, f1, f2, k'⟩
      · cases eb
    | _ => simp only [inS, reduceCtorEq] at eb
end
section
variable {X : Cx} {E : WX} {a b : Expr} {pos : Pos} {fa fb : M Opd}
theorem pk_eq (hu : X.A.units + 64 < cLine) (ha : PE X a (tK X.K E fa)) (hb : PE X b (tK X.K E fb)) : PE X (.Compare a [.Eq] [b] pos) (tD X.K E (k2 eqD fa fb)) := pk_cmp opk_eq ((op_eqD hu).or op_eq) ha hb (nomark _)
theorem pk_ne (hu : X.A.units + 64 < cLine) (ha : PE X a (tK X.K E fa)) (hb : PE X b (tK X.K E fb)) : PE X (.Compare a [.NotEq] [b] pos) (tD X.K E (k2 neD fa fb)) := pk_cmp opk_ne ((op_neD hu).or op_ne) ha hb (nomark _)
theorem pkt_eq (hu : X.A.units + 64 < cLine) (ha : PE X a (tK X.K E fa)) (hb : PE X b (tK X.K E fb)) : PT X (.Compare a [.Eq] [b] pos) (tT X.K E (tst (k2 eqD fa fb))) := pkt_cmp opk_eq ((op_eqD hu).or op_eq) ha hb (nomark _)
theorem pkt_ne (hu : X.A.units + 64 < cLine) (ha : PE X a (tK X.K E fa)) (hb : PE X b (tK X.K E fb)) : PT X (.Compare a [.NotEq] [b] pos) (tT X.K E (tst (k2 neD fa fb))) := pkt_cmp opk_ne ((op_neD hu).or op_ne) ha hb (nomark _)
theorem pk_in (hu : X.A.units + 65 < cLine) (ha : PE X a (tK X.K E fa)) (hb : PE X b (tK X.K E fb)) (hm : behindInMarks .In b = false := by rfl) : PE X (.Compare a [.In] [b] pos) (tD X.K E (k2 inD fa fb)) := pk_cmp opk_in (op_in_seq.or ((op_inD hu).or op_in_str)) ha hb hm
theorem pk_notIn (hu : X.A.units + 65 < cLine) (ha : PE X a (tK X.K E fa)) (hb : PE X b (tK X.K E fb)) (hm : behindInMarks .NotIn b = false := by rfl) : PE X (.Compare a [.NotIn] [b] pos) (tD X.K E (k2 notInD fa fb)) := pk_cmp opk_notIn (op_notIn_seq.or ((op_notInD hu).or op_notIn_str)) ha hb hm
theorem pkt_in (hu : X.A.units + 65 < cLine) (ha : PE X a (tK X.K E fa)) (hb : PE X b (tK X.K E fb)) (hm : behindInMarks .In b = false := by rfl) : PT X (.Compare a [.In] [b] pos) (tT X.K E (tst (k2 inD fa fb))) := pkt_cmp opk_in (op_in_seq.or ((op_inD hu).or op_in_str)) ha hb hm
theorem pkt_notIn (hu : X.A.units + 65 < cLine) (ha : PE X a (tK X.K E fa)) (hb : PE X b (tK X.K E fb)) (hm : behindInMarks .NotIn b = false := by rfl) : PT X (.Compare a [.NotIn] [b] pos) (tT X.K E (tst (k2 notInD fa fb))) := pkt_cmp opk_notIn (op_notIn_seq.or ((op_notInD hu).or op_notIn_str)) ha hb hm
end

/-! ### items -/
def ixD : D → D → Option D
  | .lst ds, .int i => atI ds i
  | .tup ds, .int i => atI ds i
  | .str z, .int i => if z.length ≤ sizeLine then (atI z.cps.toList i).map fun c => .str ⟨#[c]⟩ else none
  | _, _ => none
theorem atI_rep {K : PySem.W.Frag} {B : Fz} {ds : List D} {vs : List V} {i : Int} {d : D} (h : Reps K B ds vs) (e : atI ds i = some d) : ∃ v, atI vs i = some v ∧ Rep K B d v := by
  unfold atI at e ⊢
  rw [← h.length]
  cases q : ixN ds.length i with
  | none =>
    rw [q] at e
    cases e
  | some j =>
    rw [q] at e
    obtain ⟨v, e1, r⟩ := h.get e
    exact ⟨v, e1, r⟩
section
variable {X : Cx} {E : WX} {a b : Expr} {pos : Pos} {fa fb : M Opd}
theorem opk_ix {K : PySem.W.Frag} : OpK K (rIx K) ixD := by
  intro B H σ ρ d e z x y Q c rx ry ez k
  cases d <;> cases e <;> simp only [ixD, reduceCtorEq] at ez
  · have ry' := rept_int ry
    have rx' := rept_str rx
    subst rx' ry'
    split at ez
    · rename_i hz
      obtain ⟨cc, e1, e2⟩ := Option.map_eq_some_iff.mp ez
      subst e2
      exact .inr (.inr ⟨_, _, cc, rfl, rfl, hz, e1, k _ _ _ (Step.refl c) (by simp only [Rep])⟩)
    · cases ez
  · have ry' := rept_int ry
    subst ry'
    obtain ⟨p, xs, rfl, h1, h2⟩ := rx
    obtain ⟨v, e1, r⟩ := atI_rep h2 ez
    exact .inr (.inl ⟨p, xs, _, v, rfl, rfl, h1, e1, k _ _ _ (Step.refl c) r⟩)
  · have ry' := rept_int ry
    subst ry'
    obtain ⟨p, xs, rfl, h1, h2⟩ := rx
    obtain ⟨v, e1, r⟩ := atI_rep h2 ez
    exact .inl ⟨p, xs, _, v, rfl, rfl, SqL.of h1, e1, k _ _ _ (Step.refl c) r⟩
theorem pk_ix (ha : PE X a (tK X.K E fa)) (hb : PE X b (tK X.K E fb)) (hs : PlainIx b) : PE X (.Subscript a b pos) (tD X.K E (k2 ixD fa fb)) := pe_weak (pe_ix ix_seq ha hb hs) (two_partsK opk_ix)
end

/-! ### slices -/
abbrev tO (K : PySem.W.Frag) (E : WX) (f : M (Option Int)) : TO := tR K E (RE (Option Int)) f
section
variable {X : Cx} {E : WX} {a : Expr} {pos p2 : Pos} {fa : M Opd} {f : M D} {fl fh : M (Option Int)} {lo hi : Option Expr}
def asI : D → Option Int
  | .int i => some i
  | _ => none
def partM (f : M D) : M (Option Int) := f >>= fun d => M.opt (asI d) >>= fun i => M.ret (some i)
theorem po_noneD : PO X none (tO X.K E (M.ret none)) := by
  have h := po_none (X := X)
  exact ⟨fun pins s σ H Q I q => h.run pins s σ H Q I (by obtain ⟨B, ρ, c, a⟩ := q; exact a.here c rfl)⟩
theorem po_someD {e : Expr} (he : PE X e (tD X.K E f)) : PO X (some e) (tO X.K E (partM f)) := by
  have h := po_some he
  refine ⟨fun pins s σ H Q I q => h.run pins s σ H Q I ?_⟩
  obtain ⟨B, ρ, c, h⟩ := q
  refine ⟨B, ρ, c, h.seq.imp ?_⟩
  rintro d ρ' x B' H1 - - - ⟨d, B1, ρ1, st1, rx, h1⟩
  obtain ⟨i, ei, h1⟩ := h1.optSeq
  cases d <;> simp only [asI, reduceCtorEq] at ei
  cases ei
  exact ⟨_, rep_int rx, h1.here st1.cf rfl⟩
def cutL {α : Type} (xs : List α) (lo hi : Option Int) : List α := (xs.drop (HT.sIx xs.length 0 lo)).take (HT.sIx xs.length xs.length hi - HT.sIx xs.length 0 lo)
theorem cutL_V (xs : List V) (lo hi : Option Int) : cutV xs lo hi = cutL xs lo hi := rfl
theorem cut_reps {K : PySem.W.Frag} {B : Fz} {ds : List D} {vs : List V} (h : Reps K B ds vs) (lo hi : Option Int) : Reps K B (cutL ds lo hi) (cutV vs lo hi) := by
  rw [cutL_V]
  unfold cutL
  rw [h.length]
  exact (h.drop _).take _
def slD (lo hi : Option Int) : D → Option D
  | .lst ds => some (.lst (cutL ds lo hi))
  | .tup ds => some (.tup (cutL ds lo hi))
  | .str z => if z.length ≤ sizeLine then some (.str (cutS z lo hi)) else none
  | _ => none
def slM (fa : M Opd) (fl fh : M (Option Int)) : M D := fa >>= fun o => fl >>= fun l => fh >>= fun u => getO o >>= fun d => M.opt (slD l u d)
theorem pk_slice (ha : PE X a (tK X.K E fa)) (hl : PO X lo (tO X.K E fl)) (hh : PO X hi (tO X.K E fh)) : PE X (.Subscript a (.Slice lo hi none p2) pos) (tD X.K E (slM fa fl fh)) := by
  refine pe_weak (pe_slice (sl_list.or (sl_tupA.or sl_str)) ha hl hh) ?_
  rintro σ H Q ⟨B, ρ, c, h⟩
  refine ⟨B, ρ, c, h.seq.imp ?_⟩
  rintro d ρ' x B' H1 - - - ⟨o, B1, ρ1, st1, rx, h1⟩
  refine ⟨B1, ρ1, st1.cf, h1.seq.imp ?_⟩
  rintro e ρ' y B' H2 - - - ⟨l, B2, ρ2, st2, ry, h2⟩
  have ry : l = y := ry
  subst ry
  refine ⟨B2, ρ2, st2.cf, h2.seq.imp ?_⟩
  rintro e ρ' y B' H3 - - - ⟨u, B3, ρ3, st3, ry, h3⟩
  have ry : u = y := ry
  subst ry
  obtain ⟨d, e1, h3⟩ := h3.getO
  obtain ⟨z, ez, k⟩ := h3.opt
  have rx3 : RK X.K H3 σ B3 H3 ρ3 o x := RK.mono st3 (RK.mono (H0' := H3) st2 rx)
  have top := rx3.top st3.cf e1
  cases d <;> simp only [slD, reduceCtorEq] at ez
  · have e := rept_str top
    subst e
    split at ez
    · rename_i hz
      cases ez
      exact .inr (.inr ⟨_, rfl, hz, k _ _ _ (Step.refl st3.cf) (by simp only [RD, Rep])⟩)
    · cases ez
  · obtain ⟨p, xs, rfl, q1, q2⟩ := top
    cases ez
    refine .inr (.inl ⟨p, xs, rfl, q1, fun hw => ?_, fun _ l hl => k _ _ _ (st3.cf.laid hl _) ?_⟩)
    · have hwd : cutV xs l u = xs := by
        unfold cutV
        rw [hw.1, hw.2, List.drop_zero, Nat.sub_zero, List.take_length]
      rename_i ds
      have rr := cut_reps q2 l u
      rw [hwd] at rr
      cases o with
      | d d0 =>
        have e2 := look_tup e1
        subst e2
        have r0 : Rep X.K B3 (.tup ds) (.ref p) := rx3
        simp only [Rep] at r0
        obtain ⟨p', xs', e', s', r'⟩ := r0
        cases e'
        have el : cutL ds l u = ds := by
          unfold cutL
          rw [q2.length, hw.1, hw.2, List.drop_zero, Nat.sub_zero, ← q2.length, List.take_length]
        refine k _ _ _ (Step.refl st3.cf) ?_
        rw [el]
        show Rep X.K B3 (.tup ds) (.ref p)
        simp only [Rep]
        exact ⟨p, xs', rfl, s', r'⟩
      | s i =>
        have el : cutL ds l u = ds := by
          unfold cutL
          rw [q2.length, hw.1, hw.2, List.drop_zero, Nat.sub_zero, ← q2.length, List.take_length]
        have hi : σ[i]? = some (some (.ref p)) := rx3
        unfold Opd.dat at e1
        cases q : ρ3[i]? with
        | none =>
          simp only [q] at e1
          cases e1
        | some s =>
          cases s with
          | none =>
            simp only [q] at e1
            cases e1
          | some s =>
            cases s with
            | val d' =>
              simp only [q] at e1
              have e2 := look_tup e1
              subst e2
              obtain ⟨w, g1, r⟩ := st3.cf.val q
              rw [hi] at g1
              cases g1
              refine k _ _ _ (Step.refl st3.cf) ?_
              rw [el]
              exact r
            | own o =>
              simp only [q] at e1
              cases o <;> simp only [O.frozen, reduceCtorEq, Option.some.injEq] at e1
    · show Rep X.K _ (.tup _) (.ref l)
      simp only [Rep]
      exact ⟨l, _, rfl, .inl (.inl upd_same), (cut_reps q2 _ _).mono (st3.cf.laid hl _).bb⟩
  · obtain ⟨p, xs, rfl, q1, q2⟩ := top
    cases ez
    refine .inl ⟨p, xs, rfl, SqL.of q1, fun l hl => k _ _ _ (st3.cf.laid hl _) ?_⟩
    show Rep X.K _ (.lst _) (.ref l)
    simp only [Rep]
    exact ⟨l, _, rfl, upd_same, (cut_reps q2 _ _).mono (st3.cf.laid hl _).bb⟩
end
end Nc

/-! New objects, displays, statements. -/
namespace Nc
open PySem PySem.Spec PyProof.Rows L2

/-! ### new objects -/
def RN (K : PySem.W.Frag) : Rl O V := fun H0 σ B H ρ o v => ∃ p u, v = .ref p ∧ H0 p = none ∧ B p = none ∧ H p = some u ∧ RepO K B o u ∧ ¬ OwnA σ B ρ p
instance (K : PySem.W.Frag) : RlM (RN K) := ⟨fun {H H1 σ B' H' ρ' a b} k h => by
  obtain ⟨p, u, h1, h2, h3⟩ := h
  exact ⟨p, u, h1, Classical.byContradiction fun y => k p y h2, h3⟩⟩
abbrev tN (K : PySem.W.Frag) (E : WX) (f : M O) : TE := tR K E (RN K) f
section
variable {K : PySem.W.Frag} {E : WX} {σ σ' : L2.St} {B B1 : Fz} {H H1 : Hp} {ρ ρ1 : Rho}
theorem Step.wasNone (st : Step K σ B H ρ σ' B1 H1 ρ1) {p : Addr} (h : H1 p = .none) : H p = .none := Classical.byContradiction fun y => st.there p y h
/-- a part first, the rest seen from the start -/
theorem At.seqS {α β γ δ : Type} {R : Rl α β} {R' : Rl γ δ} {f : M α} {g : α → M γ} {Q : δ → Hp → Prop} (h : At K E R' σ B H ρ Q ((f >>= g) ρ)) :
    At K E R σ B H ρ (fun x H1 => ∃ a B1 ρ1, Step K σ B H ρ σ B1 H1 ρ1 ∧ R H σ B1 H1 ρ1 a x ∧ At K E R' σ B H ρ Q (g a ρ1)) (f ρ) := by
  cases e : f ρ with
  | no =>
    rw [bnd_no e] at h
    exact h
  | ex x ρ' =>
    rw [bnd_ex e] at h
    exact h
  | ok a ρ' =>
    rw [bnd_ok e] at h
    exact fun x B1 H1 st r => ⟨a, B1, ρ', st, r, h⟩
/-- what was new is frozen -/
theorem Step.seal (st : Step K σ B H ρ σ' B1 H1 ρ1) {p : Addr} {u : HO} (hp : H p = .none) (hB : B1 p = .none) (hH : H1 p = some u) (no : ¬ OwnA σ' B1 ρ1 p) : Step K σ B H ρ σ' (Fz.upd B1 p u) H1 ρ1 := by
  have c := st.cf
  have sB : FSame B1 (Fz.upd B1 p u) := FSame.upd hB
  refine ⟨⟨upd_frozen c.bh hH, c.len, fun j s q => ?_, fun i j q => by rw [OwnAt.up, OwnAt.up]; exact c.sep i j q, c.cl.upd hB fun n o h1 z => no ⟨.c n, ⟨o, h1⟩, z⟩⟩, st.bb.trans sB, st.keep, st.there, fun b q n => ?_, fun b z => st.own b (OwnA.up.mp z)⟩
  · have z := c.at_ j s q
    cases s with
    | none => trivial
    | some s =>
      cases s with
      | val d =>
        obtain ⟨x, h1, h2⟩ := z
        exact ⟨x, h1, h2.mono sB⟩
      | own o' =>
        obtain ⟨p', u', e1, b1, k1, r1, oa1⟩ := c.own q
        have np : p' ≠ p := fun y => by
          subst y
          exact no ⟨_, oa1⟩
        exact ⟨p', u', by rw [e1]; rfl, by rw [Fz.upd_ne np]; exact b1, k1, r1.mono sB⟩
  · by_cases hb : b = p
    · subst hb
      exact .inl hp
    · rw [Fz.upd_ne hb] at q
      exact st.new b q n
theorem Cf.unfrozen (c : Cf K B H σ ρ) {p : Addr} (h : H p = none) : B p = none := by
  cases e : B p with
  | none => rfl
  | some w =>
    have := c.bh p w e
    rw [h] at this
    cases this
theorem own_not_new (c : Cf K B H σ ρ) {p : Addr} (h : H p = none) : ¬ OwnA σ B ρ p := fun z => (z.not_frozen c).2 h
end
def frzM (f : M O) : M D := f >>= fun o => M.ret o.frozen
section
variable {X : Cx} {E : WX} {pos : Pos} {es : List Expr} {fs : M (List D)} {f : M O}
theorem pd_new {e : Expr} (h : PE X e (tN X.K E f)) : PE X e (tD X.K E (frzM f)) := by
  refine pe_weak h fun σ H Q ⟨B, ρ, c, h⟩ => ⟨B, ρ, c, h.seqS.imp ?_⟩
  rintro d ρ' x B' H1 - - - ⟨o, B1, ρ1, st1, ⟨p, u, rfl, n0, nB, hH, r, no⟩, h1⟩
  have s2 := st1.seal n0 nB hH no
  refine h1 _ _ _ s2 ?_
  exact (r.mono (FSame.upd nB)).freeze Fz.upd_same
/-! args -/
theorem pl_nil : PA X [] (tL X.K E (M.ret [])) := pa_weak pa_nil fun σ H Q ⟨B, ρ, c, a⟩ => a.here c Reps.nil
def consM (f : M D) (fs : M (List D)) : M (List D) := f >>= fun d => fs >>= fun ds => M.ret (d :: ds)
theorem pl_cons {e : Expr} {f : M D} (h : PE X e (tD X.K E f)) (t : PA X es (tL X.K E fs)) (hs : starEach (e :: es) X.env = (false, eval e X.env) :: starEach es X.env := by rfl) : PA X (e :: es) (tL X.K E (consM f fs)) := by
  refine pa_weak (pa_cons h t hs) fun σ H Q ⟨B, ρ, c, h⟩ => ⟨B, ρ, c, h.seq.imp ?_⟩
  rintro d ρ' x B' H1 - - - ⟨d, B1, ρ1, st1, rx, h1⟩
  refine ⟨B1, ρ1, st1.cf, h1.seq.imp ?_⟩
  rintro e ρ' y B' H2 - - - ⟨ds, B2, ρ2, st2, ry, h2⟩
  exact h2.here st2.cf (Reps.cons (Rep.mono st2.bb rx) ry)
def sizedL (ds : List D) : Option O := if ds.length ≤ sizeLine then some (.lst ds) else none
def lstM (fs : M (List D)) : M O := fs >>= fun ds => M.opt (sizedL ds)
theorem sizedL_some {ds : List D} {o : O} (h : sizedL ds = some o) : ds.length ≤ sizeLine ∧ o = .lst ds := by
  unfold sizedL at h
  split at h
  · rename_i hz
    cases h
    exact ⟨hz, rfl⟩
  · cases h
/-- a new list at p -/
theorem new_lst {K : PySem.W.Frag} {σ : L2.St} {B : Fz} {H H0 : Hp} {ρ : Rho} (c : Cf K B H σ ρ) (up : ∀ p, H0 p ≠ none → H p ≠ none) {p : Addr} (hp : H p = none) {ds : List D} {xs : List V} (r : Reps K B ds xs) : RN K H0 σ B (upd H p (.lst xs)) ρ (.lst ds) (.ref p) :=
  ⟨p, .lst xs, rfl, Classical.byContradiction fun y => up p y hp, c.unfrozen hp, upd_same, ⟨xs, rfl, r⟩, own_not_new c hp⟩
theorem pn_lst (t : PA X es (tL X.K E fs)) : PE X (.List es pos) (tN X.K E (lstM fs)) := by
  refine pe_weak (pe_lst t) fun σ H Q ⟨B, ρ, c, h⟩ => ⟨B, ρ, c, h.seq.imp ?_⟩
  rintro d ρ' xs B' H1 - - - ⟨ds, B1, ρ1, st1, rx, h1⟩
  obtain ⟨o, eo, k⟩ := h1.opt
  obtain ⟨hz, rfl⟩ := sizedL_some eo
  have rx : Reps X.K B1 ds xs := rx
  exact ⟨by rw [← rx.length]; exact hz, fun p hp => k _ _ _ (st1.cf.free hp _) (new_lst st1.cf (fun _ z => z) hp rx)⟩
def sizedT (ds : List D) : Option D := if ds.length ≤ sizeLine then some (.tup ds) else none
def tupM (fs : M (List D)) : M D := fs >>= fun ds => M.opt (sizedT ds)
theorem pd_tup {k} (t : PA X es (tL X.K E fs)) : PE X (.Tuple es k pos) (tD X.K E (tupM fs)) := by
  refine pe_weak (pe_tup t) fun σ H Q ⟨B, ρ, c, h⟩ => ⟨B, ρ, c, h.seq.imp ?_⟩
  rintro d ρ' xs B' H1 - - - ⟨ds, B1, ρ1, st1, rx, h1⟩
  obtain ⟨o, eo, k⟩ := h1.opt
  have rx : Reps X.K B1 ds xs := rx
  unfold sizedT at eo
  split at eo
  · rename_i hz
    cases eo
    refine ⟨by rw [← rx.length]; exact hz, fun p hp => k _ _ _ (st1.cf.laid hp _) ?_⟩
    show Rep X.K _ (.tup ds) (.ref p)
    simp only [Rep]
    exact ⟨p, xs, rfl, .inl (.inl upd_same), rx.mono (st1.cf.laid hp (.tup xs)).bb⟩
  · cases eo
end

/-! ### built-ins of one argument -/
def Call1 (K : PySem.W.Frag) (r : List V → Hp → VK → Prop) (op : D → Option D) : Prop := ∀ (B : Fz) (H : Hp) (σ : L2.St) (ρ : Rho) (d z : D) (x : V) (Q : VK), Cf K B H σ ρ → RepT K B H d x → op d = some z →
  (∀ v B' H', Step K σ B H ρ σ B' H' ρ → Rep K B' z v → Q v H') → r [x] H Q
def Call1N (K : PySem.W.Frag) (r : List V → Hp → VK → Prop) (op : D → Option O) : Prop := ∀ (B : Fz) (H : Hp) (σ : L2.St) (ρ : Rho) (d : D) (z : O) (x : V) (Q : VK), Cf K B H σ ρ → RepT K B H d x → op d = some z →
  (∀ v B' H', Step K σ B H ρ σ B' H' ρ → RN K H σ B' H' ρ z v → Q v H') → r [x] H Q
def k1 {α : Type} (op : D → Option α) (f : M Opd) : M α := f >>= fun o => getO o >>= fun d => M.opt (op d)
section
variable {X : Cx} {E : WX} {pos p : Pos} {a : Expr} {fa : M Opd} {r : List V → Hp → VK → Prop} {x : Str} {id : String}
theorem one_part {op : D → Option D} (hr : Call1 X.K r op) : ∀ σ H Q, tD X.K E (k1 op fa) σ H Q → tCB r (tCons (tK X.K E fa) tNil) σ H Q := by
  rintro σ H Q ⟨B, ρ, c, h⟩
  refine ⟨B, ρ, c, h.seq.imp ?_⟩
  rintro d ρ' x B' H1 - - - ⟨o, B1, ρ1, st1, rx, h1⟩
  obtain ⟨d, e1, h1⟩ := h1.getO
  obtain ⟨z, ez, k⟩ := h1.opt
  exact hr B1 H1 σ ρ1 d z x Q st1.cf (RK.top st1.cf rx e1) ez k
theorem one_partN {op : D → Option O} (hr : Call1N X.K r op) : ∀ σ H Q, tN X.K E (k1 op fa) σ H Q → tCB r (tCons (tK X.K E fa) tNil) σ H Q := by
  rintro σ H Q ⟨B, ρ, c, h⟩
  refine ⟨B, ρ, c, h.seq.imp ?_⟩
  rintro d ρ' x B' H1 - - - ⟨o, B1, ρ1, st1, rx, h1⟩
  obtain ⟨d, e1, h1⟩ := h1.getO
  obtain ⟨z, ez, k⟩ := h1.opt
  exact hr B1 H1 σ ρ1 d z x Q st1.cf (RK.top st1.cf rx e1) ez k
theorem pd_b1 {op : D → Option D} (hr : Call1 X.K r op) (hc : CallR X (.builtin id) r) (hv : bootBuiltins x = some (.builtin id)) (hg : Gl X x) (hm : X.mg x = none) (ha : PE X a (tK X.K E fa)) (hn : x ≠ "__name__" := by decide) (hdb : (x == ("__debug__" : Str)) = false := by decide) (hs : starEach [a] X.env = (false, eval a X.env) :: starEach [] X.env := by rfl) (hp : (backTo pos (starEach [] X.env)).any (·.1) = false := by rfl) :
    PE X (.Call (.Name x p) [a] [] pos) (tD X.K E (k1 op fa)) := pe_weak (pe_callB hc hg hm hv (pa_cons ha pa_nil hs) hn hdb hs hp) (one_part hr)
theorem pd_t1 {op : D → Option D} (hr : Call1 X.K r op) (hc : CallR X (.type id) r) (hv : bootBuiltins x = some (.type id)) (hg : Gl X x) (hm : X.mg x = none) (ha : PE X a (tK X.K E fa)) (hn : x ≠ "__name__" := by decide) (hdb : (x == ("__debug__" : Str)) = false := by decide) (hs : starEach [a] X.env = (false, eval a X.env) :: starEach [] X.env := by rfl) (hp : (backTo pos (starEach [] X.env)).any (·.1) = false := by rfl) :
    PE X (.Call (.Name x p) [a] [] pos) (tD X.K E (k1 op fa)) := pe_weak (pe_callTy hc hg hm hv (pa_cons ha pa_nil hs) hn hdb hs hp) (one_part hr)
theorem pn_b1 {op : D → Option O} (hr : Call1N X.K r op) (hc : CallR X (.builtin id) r) (hv : bootBuiltins x = some (.builtin id)) (hg : Gl X x) (hm : X.mg x = none) (ha : PE X a (tK X.K E fa)) (hn : x ≠ "__name__" := by decide) (hdb : (x == ("__debug__" : Str)) = false := by decide) (hs : starEach [a] X.env = (false, eval a X.env) :: starEach [] X.env := by rfl) (hp : (backTo pos (starEach [] X.env)).any (·.1) = false := by rfl) :
    PE X (.Call (.Name x p) [a] [] pos) (tN X.K E (k1 op fa)) := pe_weak (pe_callB hc hg hm hv (pa_cons ha pa_nil hs) hn hdb hs hp) (one_partN hr)
theorem pn_t1 {op : D → Option O} (hr : Call1N X.K r op) (hc : CallR X (.type id) r) (hv : bootBuiltins x = some (.type id)) (hg : Gl X x) (hm : X.mg x = none) (ha : PE X a (tK X.K E fa)) (hn : x ≠ "__name__" := by decide) (hdb : (x == ("__debug__" : Str)) = false := by decide) (hs : starEach [a] X.env = (false, eval a X.env) :: starEach [] X.env := by rfl) (hp : (backTo pos (starEach [] X.env)).any (·.1) = false := by rfl) :
    PE X (.Call (.Name x p) [a] [] pos) (tN X.K E (k1 op fa)) := pe_weak (pe_callTy hc hg hm hv (pa_cons ha pa_nil hs) hn hdb hs hp) (one_partN hr)
end
section
variable {K : PySem.W.Frag}
def lenD : D → Option D
  | .lst ds => some (.int ds.length)
  | .tup ds => some (.int ds.length)
  | .str z => if z.length ≤ sizeLine then some (.int z.length) else none
  | _ => none
theorem c1_len : Call1 K (fun xs H Q => (∃ p ys, xs = [.ref p] ∧ (SqL K H p ys ∨ SqT K H p ys) ∧ Q (.int ys.length) H) ∨ ∃ z, xs = [.str z] ∧ z.length ≤ sizeLine ∧ Q (.int z.length) H) lenD := by
  intro B H σ ρ d z x Q c rx ez k
  cases d <;> simp only [lenD, reduceCtorEq] at ez
  · have e := rept_str rx
    subst e
    split at ez
    · rename_i hz
      cases ez
      exact .inr ⟨_, rfl, hz, k _ _ _ (Step.refl c) (by simp only [Rep])⟩
    · cases ez
  · obtain ⟨p, xs, rfl, h1, h2⟩ := rx
    cases ez
    exact .inl ⟨p, xs, rfl, .inr h1, k _ _ _ (Step.refl c) (by rw [h2.length]; simp only [Rep])⟩
  · obtain ⟨p, xs, rfl, h1, h2⟩ := rx
    cases ez
    exact .inl ⟨p, xs, rfl, .inl (SqL.of h1), k _ _ _ (Step.refl c) (by rw [h2.length]; simp only [Rep])⟩
def intD : D → Option D
  | .int i => some (.int i)
  | .bl b => some (.int (if b then 1 else 0))
  | _ => none
theorem c1_int : Call1 K (fun xs H Q => (∃ i, xs = [.int i] ∧ Q (.int i) H) ∨ ∃ k, xs = [.bl k] ∧ Q (.int (if k then 1 else 0)) H) intD := by
  intro B H σ ρ d z x Q c rx ez k
  cases d <;> simp only [intD, reduceCtorEq] at ez
  · have e := rept_bl rx
    subst e
    cases ez
    exact .inr ⟨_, rfl, k _ _ _ (Step.refl c) (by simp only [Rep])⟩
  · have e := rept_int rx
    subst e
    cases ez
    exact .inl ⟨_, rfl, k _ _ _ (Step.refl c) (by simp only [Rep])⟩
def listO : D → Option O
  | .lst ds => some (.lst ds)
  | .tup ds => some (.lst ds)
  | _ => none
theorem c1_list : Call1N K (fun xs H Q => ∃ p ys, xs = [.ref p] ∧ (SqL K H p ys ∨ SqT K H p ys) ∧ ∀ l, H l = none → Q (.ref l) (upd H l (.lst ys))) listO := by
  intro B H σ ρ d z x Q c rx ez k
  cases d <;> simp only [listO, reduceCtorEq] at ez
  · obtain ⟨p, xs, rfl, h1, h2⟩ := rx
    cases ez
    exact ⟨p, xs, rfl, .inr h1, fun l hl => k _ _ _ (c.free hl _) (new_lst c (fun _ z => z) hl h2)⟩
  · obtain ⟨p, xs, rfl, h1, h2⟩ := rx
    cases ez
    exact ⟨p, xs, rfl, .inl (SqL.of h1), fun l hl => k _ _ _ (c.free hl _) (new_lst c (fun _ z => z) hl h2)⟩
def tupleD : D → Option D
  | .lst ds => some (.tup ds)
  | _ => none
theorem c1_tuple : Call1 K (fun xs H Q => ∃ p ys, xs = [.ref p] ∧ ((SqL K H p ys ∧ ∀ l, H l = none → Q (.ref l) (upd H l (.tup ys))) ∨ (SqT K H p ys ∧ Q (.ref p) H))) tupleD := by
  intro B H σ ρ d z x Q c rx ez k
  cases d <;> simp only [tupleD, reduceCtorEq] at ez
  · obtain ⟨p, xs, rfl, h1, h2⟩ := rx
    cases ez
    refine ⟨p, xs, rfl, .inl ⟨SqL.of h1, fun l hl => k _ _ _ (c.laid hl _) ?_⟩⟩
    simp only [Rep]
    exact ⟨l, xs, rfl, .inl (.inl upd_same), h2.mono (c.laid hl (.tup xs)).bb⟩
def D.ints : List D → Option (List Int)
  | [] => some []
  | .int i :: ds => (D.ints ds).map (i :: ·)
  | _ => none
theorem ints_map : ∀ {ds : List D} {ns : List Int}, D.ints ds = some ns → ds = ns.map D.int
  | [], ns, h => by
    simp only [D.ints] at h
    cases h
    rfl
  | d :: ds, ns, h => by
    cases d <;> simp only [D.ints, reduceCtorEq] at h
    obtain ⟨ms, e1, e2⟩ := Option.map_eq_some_iff.mp h
    subst e2
    rw [ints_map e1]
    rfl
theorem ints_of_map : ∀ ns : List Int, D.ints (ns.map D.int) = some ns
  | [] => rfl
  | n :: ns => by
    simp only [List.map, D.ints, ints_of_map ns, Option.map_some]
def sumD : D → Option D
  | .lst ds => (D.ints ds).map fun ns => .int ns.sum
  | _ => none
theorem c1_sum : Call1 K (rSum K) sumD := by
  intro B H σ ρ d z x Q c rx ez k
  cases d <;> simp only [sumD, reduceCtorEq] at ez
  · obtain ⟨p, xs, rfl, h1, h2⟩ := rx
    obtain ⟨ns, e1, e2⟩ := Option.map_eq_some_iff.mp ez
    subst e2
    have e := ints_map e1
    subst e
    have e := h2.ints
    subst e
    exact ⟨p, ns, rfl, SqL.of h1, k _ _ _ (Step.refl c) (by simp only [Rep])⟩
def D.bls : List D → Option (List Bool)
  | [] => some []
  | .bl i :: ds => (D.bls ds).map (i :: ·)
  | _ => none
theorem bls_reps {B : Fz} : ∀ {ds : List D} {bs : List Bool} {vs : List V}, D.bls ds = some bs → Reps K B ds vs → vs = bs.map V.bl
  | [], bs, vs, h, r => by
    simp only [D.bls, Reps] at h r
    cases h
    subst r
    rfl
  | d :: ds, bs, vs, h, r => by
    cases d <;> simp only [D.bls, reduceCtorEq] at h
    obtain ⟨ms, e1, e2⟩ := Option.map_eq_some_iff.mp h
    subst e2
    simp only [Reps] at r
    obtain ⟨x, xs, rfl, r1, r2⟩ := r
    rw [rep_bl r1, bls_reps e1 r2]
    rfl
def allD : D → Option D
  | .lst ds => (D.bls ds).map fun bs => .bl (bs.all id)
  | _ => none
def anyD : D → Option D
  | .lst ds => (D.bls ds).map fun bs => .bl (bs.any id)
  | _ => none
theorem c1_all : Call1 K (rAll K) allD := by
  intro B H σ ρ d z x Q c rx ez k
  cases d <;> simp only [allD, reduceCtorEq] at ez
  · obtain ⟨p, xs, rfl, h1, h2⟩ := rx
    obtain ⟨bs, e1, e2⟩ := Option.map_eq_some_iff.mp ez
    subst e2
    have e := bls_reps e1 h2
    subst e
    exact ⟨p, bs, rfl, SqL.of h1, k _ _ _ (Step.refl c) (by simp only [Rep])⟩
theorem c1_any : Call1 K (rAny K) anyD := by
  intro B H σ ρ d z x Q c rx ez k
  cases d <;> simp only [anyD, reduceCtorEq] at ez
  · obtain ⟨p, xs, rfl, h1, h2⟩ := rx
    obtain ⟨bs, e1, e2⟩ := Option.map_eq_some_iff.mp ez
    subst e2
    have e := bls_reps e1 h2
    subst e
    exact ⟨p, bs, rfl, SqL.of h1, k _ _ _ (Step.refl c) (by simp only [Rep])⟩
end

/-! ### statements -/
inductive Out where
  | nx | rt (d : D) | bk | ct
  /-- the own object of a slot is returned -/
  | rn (i : Nat)
section
variable {K : PySem.W.Frag} {E : WX} {σ σ1 : L2.St} {B B1 : Fz} {H H1 : Hp} {ρ ρ1 : Rho} {Dn : Ends}
def AtS (K : PySem.W.Frag) (E : WX) (σ : L2.St) (B : Fz) (H : Hp) (ρ : Rho) (Dn : Ends) : Rs Out → Prop
  | .no => False
  | .ok .nx ρ' => ∀ σ' B' H', Step K σ B H ρ σ' B' H' ρ' → Dn.nx σ' H'
  | .ok .bk ρ' => ∀ σ' B' H', Step K σ B H ρ σ' B' H' ρ' → Dn.bk σ' H'
  | .ok .ct ρ' => ∀ σ' B' H', Step K σ B H ρ σ' B' H' ρ' → Dn.ct σ' H'
  | .ok (.rt d) ρ' => ∀ v σ' B' H', Step K σ B H ρ σ' B' H' ρ' → Rep K B' d v → Dn.rt v H'
  | .ok (.rn i) ρ' => (∃ o, ρ'[i]? = some (some (.own o))) ∧ ∀ v σ' B' H', Step K σ B H ρ σ' B' H' ρ' → σ'[i]? = some (some v) → Dn.rt v H'
  | .ex e ρ' => ∀ oc σ' B' H', Step K σ B H ρ σ' B' H' ρ' → RepX K B' H' e oc → E (.ref e.C) oc σ' H'
def tS (K : PySem.W.Frag) (E : WX) (h : M Out) : TS := fun Dn σ H => ∃ B ρ, Cf K B H σ ρ ∧ AtS K E σ B H ρ Dn (h ρ)
theorem AtS.from (st : Step K σ B H ρ σ1 B1 H1 ρ1) : ∀ {r : Rs Out}, AtS K E σ B H ρ Dn r → AtS K E σ1 B1 H1 ρ1 Dn r
  | .no, h => h
  | .ok .nx ρ', h => fun σ' B' H' s2 => h σ' B' H' (st.trans s2)
  | .ok .bk ρ', h => fun σ' B' H' s2 => h σ' B' H' (st.trans s2)
  | .ok .ct ρ', h => fun σ' B' H' s2 => h σ' B' H' (st.trans s2)
  | .ok (.rt d) ρ', h => fun v σ' B' H' s2 r => h v σ' B' H' (st.trans s2) r
  | .ok (.rn i) ρ', h => ⟨h.1, fun v σ' B' H' s2 r => h.2 v σ' B' H' (st.trans s2) r⟩
  | .ex e ρ', h => fun oc σ' B' H' s2 r => h oc σ' B' H' (st.trans s2) r
/-- an expression's part, then the rest, seen from the start too -/
theorem AtS.seq {α β : Type} {R : Rl α β} {f : M α} {g : α → M Out} (h : AtS K E σ B H ρ Dn ((f >>= g) ρ)) :
    At K E R σ B H ρ (fun x H1 => ∃ a B1 ρ1, Step K σ B H ρ σ B1 H1 ρ1 ∧ R H σ B1 H1 ρ1 a x ∧ AtS K E σ B H ρ Dn (g a ρ1)) (f ρ) := by
  cases e : f ρ with
  | no =>
    rw [bnd_no e] at h
    exact h.elim
  | ex x ρ' =>
    rw [bnd_ex e] at h
    exact fun oc σ' B' H' s2 r => h oc σ' B' H' s2 r
  | ok a ρ' =>
    rw [bnd_ok e] at h
    exact fun x B1 H1 st r => ⟨a, B1, ρ', st, r, h⟩
/-- a statement's part, then the rest -/
def thenS (h1 h2 : M Out) : M Out := h1 >>= fun o => match o with
  | .nx => h2
  | o => M.ret o
theorem AtS.then {h1 h2 : M Out} {Dn' : Ends} (h : AtS K E σ B H ρ Dn (thenS h1 h2 ρ)) (hn : ∀ σ' B' H' ρ', Step K σ B H ρ σ' B' H' ρ' → AtS K E σ B H ρ Dn (h2 ρ') → Dn'.nx σ' H')
    (hr : ∀ v H', Dn.rt v H' → Dn'.rt v H') (hb : ∀ s H', Dn.bk s H' → Dn'.bk s H') (hc : ∀ s H', Dn.ct s H' → Dn'.ct s H') : AtS K E σ B H ρ Dn' (h1 ρ) := by
  unfold thenS at h
  cases e : h1 ρ with
  | no =>
    rw [bnd_no e] at h
    exact h.elim
  | ex x ρ' =>
    rw [bnd_ex e] at h
    exact fun oc σ' B' H' s2 r => h oc σ' B' H' s2 r
  | ok o ρ' =>
    rw [bnd_ok e] at h
    cases o with
    | nx => exact fun σ' B' H' st => hn σ' B' H' ρ' st h
    | bk => exact fun σ' B' H' st => hb _ _ (h σ' B' H' st)
    | ct => exact fun σ' B' H' st => hc _ _ (h σ' B' H' st)
    | rt d => exact fun v σ' B' H' st r => hr _ _ (h v σ' B' H' st r)
    | rn i => exact ⟨h.1, fun v σ' B' H' st r => hr _ _ (h.2 v σ' B' H' st r)⟩
theorem AtS.opt {o : Option Rho} {Dn : Ends} : True := trivial
end
section
variable {X : Cx} {E : WX} {st : Stmt} {sts rest : List Stmt} {h1 h2 : M Out} {e : Expr} {pos : Pos} {f : M D}
theorem sd_nil : PSs X [] (tS X.K E (M.ret .nx)) := pss_weak pss_nil fun Dn σ H ⟨B, ρ, c, a⟩ => a _ _ _ (Step.refl c)
theorem sd_cons (p1 : PS X st (tS X.K E h1)) (p2 : PSs X rest (tS X.K E h2)) : PSs X (st :: rest) (tS X.K E (thenS h1 h2)) := by
  refine pss_weak (pss_cons p1 p2) fun Dn σ H ⟨B, ρ, c, h⟩ => ⟨B, ρ, c, ?_⟩
  exact h.then (fun σ' B' H' ρ' s k => ⟨B', ρ', s.cf, k.from s⟩) (fun _ _ z => z) (fun _ _ z => z) (fun _ _ z => z)
theorem sd_one (p1 : PS X st (tS X.K E h1)) : PSs X [st] (tS X.K E h1) := pss_one p1
/-- a slot's new value -/
theorem Cf.set {K : PySem.W.Frag} {σ : L2.St} {B : Fz} {H : Hp} {ρ : Rho} (c : Cf K B H σ ρ) (i : Nat) {d : D} {v : V} (r : Rep K B d v) : Step K σ B H ρ (σ.set i (some v)) B H (ρ.set i (some (.val d))) := by
  have back : ∀ (m : Ix) (x : Addr), OwnAt (σ.set i (some v)) B (ρ.set i (some (.val d))) m x → OwnAt σ B ρ m x := fun m x w => by
    cases m with
    | c n => exact w
    | s m =>
      obtain ⟨⟨o', w⟩, w2⟩ := w
      rcases getD_set w with ⟨_, w3, _⟩ | ⟨hm, w3⟩
      · cases w3
      · rw [List.getElem?_set_ne (Ne.symm hm)] at w2
        exact ⟨⟨o', w3⟩, w2⟩
  refine ⟨⟨c.bh, by rw [List.length_set, Rho.length_set]; exact c.len, fun j s q => ?_, fun j k q z1 z2 => c.sep j k q (back j q z1) (back k q z2), c.cl⟩, FSame.refl B, fun b o e _ => e, fun b e => e, fun b e n => absurd n e, fun b ⟨m, z⟩ => .inl ⟨m, back m b z⟩⟩
  rcases getD_set q with ⟨rfl, rfl, hl⟩ | ⟨hj, q⟩
  · rw [List.getElem?_set_self (by rw [c.len]; exact hl)]
    exact ⟨v, rfl, r⟩
  · rw [List.getElem?_set_ne (Ne.symm hj)]
    exact c.at_ j s q
def setS (i : Nat) (f : M D) : M Out := f >>= fun d => fun ρ => .ok .nx (ρ.set i (some (.val d)))
theorem sd_set {i : Nat} {x : Str} {pos' : Pos} (h : PE X e (tD X.K E f)) (p : ∀ {te : TE}, PE X e te → PS X (.Assign [.Name x pos'] e pos) (tAsg te (gName i))) : PS X (.Assign [.Name x pos'] e pos) (tS X.K E (setS i f)) := by
  refine ps_weak (p h) fun Dn σ H ⟨B, ρ, c, h⟩ => ⟨B, ρ, c, h.seq.imp ?_⟩
  rintro d ρ' x B' H1 - - - ⟨d, B1, ρ1, st1, rx, h1⟩
  exact h1 _ _ _ (st1.trans (st1.cf.set i rx))
/-- a slot takes a new object as its own -/
theorem Step.take {K : PySem.W.Frag} {σ σ1 : L2.St} {B B1 : Fz} {H H1 : Hp} {ρ ρ1 : Rho} (st : Step K σ B H ρ σ1 B1 H1 ρ1) (i : Nat) {o : O} {v : V} (r : RN K H σ1 B1 H1 ρ1 o v) : Step K σ B H ρ (σ1.set i (some v)) B1 H1 (ρ1.set i (some (.own o))) := by
  obtain ⟨p, u, rfl, n0, nB, hH, ro, no⟩ := r
  have c := st.cf
  have back : ∀ (m : Ix) (x : Addr), OwnAt (σ1.set i (some (.ref p))) B1 (ρ1.set i (some (.own o))) m x → (m = .s i ∧ x = p) ∨ (m ≠ .s i ∧ OwnAt σ1 B1 ρ1 m x) := fun m x w => by
    cases m with
    | c n => exact .inr ⟨fun z => (by cases z), w⟩
    | s m =>
      obtain ⟨⟨o', w⟩, w2⟩ := w
      rcases getD_set w with ⟨rfl, _, hl⟩ | ⟨hm, w3⟩
      · rw [List.getElem?_set_self (by rw [c.len]; exact hl)] at w2
        cases w2
        exact .inl ⟨rfl, rfl⟩
      · rw [List.getElem?_set_ne (Ne.symm hm)] at w2
        exact .inr ⟨fun z => hm (by injection z), ⟨o', w3⟩, w2⟩
  refine ⟨⟨c.bh, by rw [List.length_set, Rho.length_set]; exact c.len, fun j s q => ?_, fun j k q z1 z2 => ?_, c.cl⟩, st.bb, st.keep, st.there, st.new, fun b ⟨m, z⟩ => ?_⟩
  · rcases getD_set q with ⟨rfl, rfl, hl⟩ | ⟨hj, q⟩
    · rw [List.getElem?_set_self (by rw [c.len]; exact hl)]
      exact ⟨p, u, rfl, nB, hH, ro⟩
    · rw [List.getElem?_set_ne (Ne.symm hj)]
      exact c.at_ j s q
  · rcases back j q z1 with ⟨rfl, rfl⟩ | ⟨hj, y1⟩
    · rcases back k q z2 with ⟨rfl, _⟩ | ⟨hk, y2⟩
      · rfl
      · exact absurd ⟨k, y2⟩ no
    · rcases back k q z2 with ⟨rfl, rfl⟩ | ⟨hk, y2⟩
      · exact absurd ⟨j, y1⟩ no
      · exact c.sep j k q y1 y2
  · rcases back m b z with ⟨rfl, rfl⟩ | ⟨hm, y⟩
    · exact .inr n0
    · exact st.own b ⟨m, y⟩
def setN (i : Nat) (f : M O) : M Out := f >>= fun o => fun ρ => .ok .nx (ρ.set i (some (.own o)))
theorem sn_set {i : Nat} {x : Str} {pos' : Pos} {f : M O} (h : PE X e (tN X.K E f)) (p : ∀ {te : TE}, PE X e te → PS X (.Assign [.Name x pos'] e pos) (tAsg te (gName i))) : PS X (.Assign [.Name x pos'] e pos) (tS X.K E (setN i f)) := by
  refine ps_weak (p h) fun Dn σ H ⟨B, ρ, c, h⟩ => ⟨B, ρ, c, h.seq.imp ?_⟩
  rintro d ρ' x B' H1 - - - ⟨d, B1, ρ1, st1, rx, h1⟩
  exact h1 _ _ _ (st1.take i rx)
def retS (f : M D) : M Out := f >>= fun d => M.ret (.rt d)
theorem sd_ret (h : PE X e (tD X.K E f)) : PS X (.Return (some e) pos) (tS X.K E (retS f)) := by
  refine ps_weak (ps_ret h) fun Dn σ H ⟨B, ρ, c, h⟩ => ⟨B, ρ, c, h.seq.imp ?_⟩
  rintro d ρ' x B' H1 - - - ⟨d, B1, ρ1, st1, rx, h1⟩
  exact h1 _ _ _ _ st1 rx
/-- return of a name's own object -/
def retO (i : Nat) : M Out := fun ρ => match ρ[i]? with
  | some (some (.own _)) => .ok (.rn i) ρ
  | _ => .no
theorem sd_retO {i : Nat} {x : Str} {p : Pos} (h : PE X (.Name x p) (tVar i)) : PS X (.Return (some (.Name x p)) pos) (tS X.K E (retO i)) := by
  refine ps_weak (ps_ret h) fun Dn σ H ⟨B, ρ, c, h⟩ => ?_
  unfold retO at h
  split at h
  · rename_i o q
    obtain ⟨p, u, e1, b1, k1, r1, oa1⟩ := c.own q
    exact ⟨_, e1, h.2 _ _ _ _ (Step.refl c) e1⟩
  · exact h.elim
theorem sd_retN : PS X (.Return none pos) (tS X.K E (M.ret (.rt .non))) := ps_weak ps_retN fun Dn σ H ⟨B, ρ, c, a⟩ => a _ _ _ _ (Step.refl c) (by simp only [Rep])
theorem sd_pass : PS X (.Pass pos) (tS X.K E (M.ret .nx)) := ps_weak ps_pass fun Dn σ H ⟨B, ρ, c, a⟩ => a _ _ _ (Step.refl c)
theorem sd_break : PS X (.Break pos) (tS X.K E (M.ret .bk)) := ps_weak ps_break fun Dn σ H ⟨B, ρ, c, a⟩ => a _ _ _ (Step.refl c)
theorem sd_continue : PS X (.Continue pos) (tS X.K E (M.ret .ct)) := ps_weak ps_continue fun Dn σ H ⟨B, ρ, c, a⟩ => a _ _ _ (Step.refl c)
def dropS (f : M D) : M Out := f >>= fun _ => M.ret .nx
theorem sd_expr (h : PE X e (tD X.K E f)) (hs : swapsWith e none pos.line X.env = pure false := by rfl) : PS X (.Expr e pos) (tS X.K E (dropS f)) := by
  refine ps_weak (ps_expr h hs) fun Dn σ H ⟨B, ρ, c, h⟩ => ⟨B, ρ, c, h.seq.imp ?_⟩
  rintro d ρ' x B' H1 - - - ⟨d, B1, ρ1, st1, rx, h1⟩
  exact h1 _ _ _ st1
theorem sd_if {t : Expr} {a b : List Stmt} {ft : M Bool} (ht : PT X t (tT X.K E ft)) (ha : PSs X a (tS X.K E h1)) (hb : PSs X b (tS X.K E h2)) : PS X (.If t a b pos) (tS X.K E (ifM ft h1 h2)) := by
  refine ps_weak (ps_if ht ha hb) fun Dn σ H ⟨B, ρ, c, h⟩ => ⟨B, ρ, c, h.seq.imp ?_⟩
  rintro d ρ' x B' H1 - - - ⟨d, B1, ρ1, st1, rx, h1⟩
  have e : d = x := rx
  subst e
  cases d with
  | true => exact iteT ⟨B1, ρ1, st1.cf, h1.from st1⟩
  | false => exact iteF ⟨B1, ρ1, st1.cf, h1.from st1⟩
/-! an own object is changed -/
theorem Cl.put' {K : PySem.W.Frag} {B : Fz} {H : Hp} {g : Cells} (c : Cl K B H g) {p : Addr} {u : HO} (hn : ∀ n o, g[n]? = some o → B.π n ≠ some p) : Cl K B (L2.upd H p u) g :=
  c.to (FSame.refl B) c.dom (fun n o a h1 h2 => by
    have hr : a ≠ p := fun z => hn n o h1 (by rw [h2, z])
    obtain ⟨a', u', g1, g2, g3, g4⟩ := c.at_ n o h1
    rw [h2] at g1
    cases g1
    exact ⟨by rw [upd_ne hr], g2⟩) fun n a h => by
    by_cases hb : a = p
    · subst hb
      rw [upd_same]
      exact fun z => by cases z
    · rw [upd_ne hb]
      exact c.pin n a h
theorem Cf.put {K : PySem.W.Frag} {σ : L2.St} {B : Fz} {H : Hp} {ρ : Rho} (c : Cf K B H σ ρ) {i : Nat} {o o' : O} {p : Addr} {u : HO} (h : ρ[i]? = some (some (.own o))) (e : σ[i]? = some (some (.ref p))) (r : RepO K B o' u) :
    Step K σ B H ρ σ B (upd H p u) (ρ.set i (some (.own o'))) := by
  obtain ⟨p', u', e1, b1, k1, r1, oa1⟩ := c.own h
  rw [e] at e1
  cases e1
  have hl : i < ρ.length := (List.getElem?_eq_some_iff.mp h).1
  have back : ∀ (m : Ix) (x : Addr), OwnAt σ B (ρ.set i (some (.own o'))) m x → OwnAt σ B ρ m x := fun m x w => by
    cases m with
    | c n => exact w
    | s m =>
      obtain ⟨⟨o2, w⟩, w2⟩ := w
      rcases getD_set w with ⟨rfl, w3, _⟩ | ⟨hm, w3⟩
      · exact ⟨⟨o, h⟩, w2⟩
      · exact ⟨⟨o2, w3⟩, w2⟩
  refine ⟨⟨fun b w q => ?_, by rw [Rho.length_set]; exact c.len, fun j s q => ?_, fun j k q z1 z2 => c.sep j k q (back j q z1) (back k q z2), c.cl.put' fun n o2 h1 z => ?_⟩, FSame.refl B, fun b w q n => ?_, fun b q => ?_, fun b q n => absurd n q, fun b ⟨m, z⟩ => .inl ⟨m, back m b z⟩⟩
  · rw [upd_ne (ne_of_none q b1)]
    exact c.bh b w q
  · rcases getD_set q with ⟨rfl, rfl, _⟩ | ⟨hj, q⟩
    · exact ⟨p, u, by rw [e]; rfl, b1, upd_same, r⟩
    · have z := c.at_ j s q
      cases s with
      | none => trivial
      | some s =>
        cases s with
        | val d => exact z
        | own o2 =>
          obtain ⟨p2, u2, e2, b2, k2, r2, oa2⟩ := c.own q
          have np : p2 ≠ p := fun y => by
            subst y
            have := c.sep (.s j) (.s i) p2 oa2 oa1
            injection this with this
            exact hj this
          exact ⟨p2, u2, by rw [e2]; rfl, b2, by rw [upd_ne np]; exact k2, r2⟩
  · have := c.sep (.c n) (.s i) p ⟨⟨o2, h1⟩, z⟩ oa1
    cases this
  · have nb : b ≠ p := fun y => by
      subst y
      exact n ⟨_, oa1⟩
    rw [upd_ne nb]
    exact q
  · by_cases hb : b = p
    · subst hb
      rw [upd_same]
      exact fun z => by cases z
    · rw [upd_ne hb]
      exact q
end
theorem FSame.up2 {B B' : Fz} (e : FSame B B') (p : Addr) (o : HO) : FSame (Fz.upd B p o) (Fz.upd B' p o) := by
  refine ⟨fun b w q => ?_, e.π⟩
  have q : (Fz.upd B p o) b = some w := q
  show (Fz.upd B' p o) b = some w
  by_cases hb : b = p
  · subst hb
    rw [Fz.upd_same] at q ⊢
    exact q
  · rw [Fz.upd_ne hb] at q ⊢
    exact e.h b w q
/-- a new object becomes a cell -/
theorem Step.cell {K : PySem.W.Frag} {σ σ1 : L2.St} {B B1 : Fz} {H H1 : Hp} {ρ ρ1 : Rho} (st : Step K σ B H ρ σ1 B1 H1 ρ1) {o : O} {v : V} (r : RN K H σ1 B1 H1 ρ1 o v) :
    ∃ p, v = .ref p ∧ Step K σ B H ρ σ1 (Fz.add B1 ρ1.g.length p) H1 ⟨ρ1.l, ρ1.g ++ [o]⟩ := by
  obtain ⟨p, u, rfl, n0, nB, hH, ro, no⟩ := r
  have c := st.cf
  have sB : FSame B1 (Fz.add B1 ρ1.g.length p) := ⟨Same.refl _, fun n a e => by
    show (if n = ρ1.g.length then some p else B1.π n) = some a
    split
    · rename_i h
      rw [c.cl.dom n (by omega)] at e
      cases e
    · exact e⟩
  have get : ∀ n o', (ρ1.g ++ [o])[n]? = some o' → (n < ρ1.g.length ∧ ρ1.g[n]? = some o') ∨ (n = ρ1.g.length ∧ o' = o) := fun n o' e => by
    by_cases l : n < ρ1.g.length
    · rw [List.getElem?_append_left l] at e
      exact .inl ⟨l, e⟩
    · rw [List.getElem?_append_right (by omega)] at e
      by_cases z : n = ρ1.g.length
      · subst z
        rw [Nat.sub_self] at e
        cases e
        exact .inr ⟨rfl, rfl⟩
      · rw [List.getElem?_eq_none (by rw [List.length_singleton]; omega)] at e
        cases e
  have back : ∀ (m : Ix) (x : Addr), OwnAt σ1 (Fz.add B1 ρ1.g.length p) ⟨ρ1.l, ρ1.g ++ [o]⟩ m x → (m = .c ρ1.g.length ∧ x = p) ∨ (m ≠ .c ρ1.g.length ∧ OwnAt σ1 B1 ρ1 m x) := fun m x w => by
    cases m with
    | s n => exact .inr ⟨fun z => (by cases z), w⟩
    | c n =>
      obtain ⟨⟨o', w⟩, w2⟩ := w
      have w2 : (if n = ρ1.g.length then some p else B1.π n) = some x := w2
      rcases get n o' w with ⟨l, w⟩ | ⟨rfl, rfl⟩
      · rw [if_neg (by omega)] at w2
        exact .inr ⟨fun z => by injection z with z; omega, ⟨o', w⟩, w2⟩
      · rw [if_pos rfl] at w2
        cases w2
        exact .inl ⟨rfl, rfl⟩
  refine ⟨p, rfl, ⟨c.bh, c.len, fun j s q => ?_, fun j k q z1 z2 => ?_, ⟨fun n o' e => ?_, fun n l => ?_, fun n a e => ?_⟩⟩, st.bb.trans sB, st.keep, st.there, st.new, fun b ⟨m, z⟩ => ?_⟩
  · have z := c.at_ j s q
    cases s with
    | none => trivial
    | some s =>
      cases s with
      | val d =>
        obtain ⟨x, h1, h2⟩ := z
        exact ⟨x, h1, h2.mono sB⟩
      | own o2 =>
        obtain ⟨p2, u2, e2, b2, k2, r2⟩ := z
        exact ⟨p2, u2, e2, b2, k2, r2.mono sB⟩
  · rcases back j q z1 with ⟨rfl, rfl⟩ | ⟨hj, y1⟩
    · rcases back k q z2 with ⟨rfl, _⟩ | ⟨hk, y2⟩
      · rfl
      · exact absurd ⟨k, y2⟩ no
    · rcases back k q z2 with ⟨rfl, rfl⟩ | ⟨hk, y2⟩
      · exact absurd ⟨j, y1⟩ no
      · exact c.sep j k q y1 y2
  · rcases get n o' e with ⟨l, e⟩ | ⟨rfl, rfl⟩
    · obtain ⟨a, h, h1, h2, h3, h4⟩ := c.cl.at_ n o' e
      exact ⟨a, h, sB.π _ _ h1, h2, h3, h4.mono sB⟩
    · exact ⟨p, u, by show (if _ then _ else _) = _; rw [if_pos rfl], nB, hH, ro.mono sB⟩
  · have l : (ρ1.g ++ [o]).length ≤ n := l
    rw [List.length_append, List.length_singleton] at l
    show (if n = ρ1.g.length then some p else B1.π n) = none
    rw [if_neg (by omega)]
    exact c.cl.dom n (by omega)
  · have e : (if n = ρ1.g.length then some p else B1.π n) = some a := e
    split at e
    · cases e
      rw [hH]
      exact fun z => by cases z
    · exact c.cl.pin n a e
  · rcases back m b z with ⟨rfl, rfl⟩ | ⟨hm, y⟩
    · exact .inr n0
    · exact st.own b ⟨m, y⟩
/-- a new object becomes a cell -/
def cellM (f : M O) : M D := f >>= fun o => fun ρ => .ok (.ptr ρ.g.length) ⟨ρ.l, ρ.g ++ [o]⟩
theorem pd_cell {X : Cx} {E : WX} {e : Expr} {f : M O} (h : PE X e (tN X.K E f)) : PE X e (tD X.K E (cellM f)) := by
  refine pe_weak h fun σ H Q ⟨B, ρ, c, h⟩ => ⟨B, ρ, c, h.seqS.imp ?_⟩
  rintro d ρ' x B' H1 - - - ⟨o, B1, ρ1, st1, r, h1⟩
  obtain ⟨p, rfl, s2⟩ := st1.cell r
  refine h1 _ _ _ s2 ?_
  show Rep X.K _ (.ptr _) (.ref p)
  simp only [Rep]
  exact ⟨p, rfl, by show (if _ then _ else _) = _; rw [if_pos rfl]⟩

/-! ### objects that may change: a slot's own, a cell -/
inductive Ref where
  | s (i : Nat) | c (n : Nat)
def getR (ρ : Rho) : Ref → Option O
  | .s i => match ρ[i]? with
    | some (some (.own o)) => some o
    | _ => none
  | .c n => ρ.g[n]?
def setR (ρ : Rho) (r : Ref) (o : O) : Rho := match r with
  | .s i => ρ.set i (some (.own o))
  | .c n => ⟨ρ.l, ρ.g.set n o⟩
def RR (K : PySem.W.Frag) : Rl Ref V := fun _ σ B _ _ r v => match r with
  | .s i => σ[i]? = some (some v)
  | .c n => Rep K B (.ptr n) v
instance (K : PySem.W.Frag) : RlM (RR K) := ⟨fun _ h => h⟩
abbrev tF (K : PySem.W.Frag) (E : WX) (f : M Ref) : TE := tR K E (RR K) f
section
variable {K : PySem.W.Frag} {E : WX} {σ : L2.St} {B B' : Fz} {H H' : Hp} {ρ ρ' : Rho}
theorem RR.mono {H0 H0' : Hp} {r : Ref} {v : V} (st : Step K σ B H ρ σ B' H' ρ') (h : RR K H0 σ B H ρ r v) : RR K H0' σ B' H' ρ' r v := by
  cases r with
  | c n => exact Rep.mono st.bb h
  | s i => exact h
theorem getR_s {i : Nat} {o : O} (e : getR ρ (.s i) = some o) : ρ[i]? = some (some (.own o)) := by
  simp only [getR] at e
  split at e
  · rename_i o' q
    cases e
    exact q
  · cases e
theorem getR_c {i : Nat} {o : O} (e : getR ρ (.c i) = some o) : ρ.g[i]? = some o := e
def Ref.ix : Ref → Ix
  | .s i => .s i
  | .c n => .c n
theorem Cf.ref {H0 : Hp} (c : Cf K B H σ ρ) {r : Ref} {v : V} {o : O} (h : RR K H0 σ B H ρ r v) (e : getR ρ r = some o) : ∃ p u, v = .ref p ∧ B p = none ∧ H p = some u ∧ RepO K B o u ∧ OwnAt σ B ρ r.ix p := by
  cases r with
  | s i =>
    obtain ⟨p, u, e1, b1, k1, r1, oa⟩ := c.own (getR_s e)
    have h : σ[i]? = some (some v) := h
    rw [h] at e1
    cases e1
    exact ⟨p, u, rfl, b1, k1, r1, oa⟩
  | c n =>
    obtain ⟨a, u, e1, b1, k1, r1⟩ := c.cl.at_ n _ (getR_c e)
    have h2 : Rep K B (.ptr n) v := h
    simp only [Rep] at h2
    obtain ⟨a', rfl, h2⟩ := h2
    rw [e1] at h2
    cases h2
    exact ⟨a, u, rfl, b1, k1, r1, ⟨_, getR_c e⟩, e1⟩
/-- what stands at a reference is changed -/
theorem Cf.putR {H0 : Hp} (c : Cf K B H σ ρ) {r : Ref} {p : Addr} {o o' : O} {u : HO} (h : RR K H0 σ B H ρ r (.ref p)) (e : getR ρ r = some o) (ro : RepO K B o' u) : Step K σ B H ρ σ B (upd H p u) (setR ρ r o') := by
  cases r with
  | s i =>
    exact c.put (getR_s e) h ro
  | c n =>
    obtain ⟨p', u', e1, b1, k1, r1, oa1⟩ := c.ref h e
    cases e1
    obtain ⟨⟨o2, q⟩, hp⟩ := oa1
    have hl : n < ρ.g.length := (List.getElem?_eq_some_iff.mp q).1
    have get : ∀ m o3, (ρ.g.set n o')[m]? = some o3 → (m = n ∧ o3 = o') ∨ (m ≠ n ∧ ρ.g[m]? = some o3) := fun m o3 w => by
      by_cases z : m = n
      · subst z
        rw [List.getElem?_set_self hl] at w
        cases w
        exact .inl ⟨rfl, rfl⟩
      · rw [List.getElem?_set_ne (Ne.symm z)] at w
        exact .inr ⟨z, w⟩
    have back : ∀ (m : Ix) (x : Addr), OwnAt σ B ⟨ρ.l, ρ.g.set n o'⟩ m x → OwnAt σ B ρ m x := fun m x w => by
      cases m with
      | s m => exact w
      | c m =>
        obtain ⟨⟨o3, w⟩, w2⟩ := w
        rcases get m o3 w with ⟨rfl, rfl⟩ | ⟨hm, w3⟩
        · exact ⟨⟨o2, q⟩, w2⟩
        · exact ⟨⟨o3, w3⟩, w2⟩
    have oa : OwnAt σ B ρ (.c n) p := ⟨⟨o2, q⟩, hp⟩
    refine ⟨⟨fun b w q => ?_, c.len, fun j s q => ?_, fun j k q z1 z2 => c.sep j k q (back j q z1) (back k q z2), ⟨fun m o3 w => ?_, fun m l => c.cl.dom m (by simpa [setR] using l), fun m a w => ?_⟩⟩, FSame.refl B, fun b w q n => ?_, fun b q => ?_, fun b q n => absurd n q, fun b ⟨m, z⟩ => .inl ⟨m, back m b z⟩⟩
    · rw [upd_ne (ne_of_none q b1)]
      exact c.bh b w q
    · have z := c.at_ j s q
      cases s with
      | none => trivial
      | some s =>
        cases s with
        | val d => exact z
        | own o2 =>
          obtain ⟨p2, u2, e2, b2, k2, r2, oa2⟩ := c.own q
          have np : p2 ≠ p := fun y => by
            subst y
            have := c.sep (.s j) (.c n) p2 oa2 oa
            cases this
          exact ⟨p2, u2, by rw [e2]; rfl, b2, by rw [upd_ne np]; exact k2, r2⟩
    · rcases get m o3 w with ⟨rfl, rfl⟩ | ⟨hm, w⟩
      · exact ⟨p, u, hp, b1, upd_same, ro⟩
      · obtain ⟨a, h3, h1, h2, h4, h5⟩ := c.cl.at_ m o3 w
        have np : a ≠ p := fun y => by
          subst y
          have := c.sep (.c m) (.c n) a ⟨⟨o3, w⟩, h1⟩ oa
          injection this with this
          exact hm this
        exact ⟨a, h3, h1, h2, by rw [upd_ne np]; exact h4, h5⟩
    · by_cases hb : a = p
      · subst hb
        rw [upd_same]
        exact fun z => by cases z
      · rw [upd_ne hb]
        exact c.cl.pin m a w
    · have nb : b ≠ p := fun y => by
        subst y
        exact n ⟨_, oa⟩
      rw [upd_ne nb]
      exact q
    · by_cases hb : b = p
      · subst hb
        rw [upd_same]
        exact fun z => by cases z
      · rw [upd_ne hb]
        exact q
end
/-- a name's object -/
def refS (i : Nat) : M Ref := fun ρ => match ρ[i]? with
  | some (some (.own _)) => .ok (.s i) ρ
  | some (some (.val (.ptr n))) => .ok (.c n) ρ
  | _ => .no
/-- an expression's object -/
def asRef : D → Option Ref
  | .ptr n => some (.c n)
  | _ => none
def refD (f : M D) : M Ref := f >>= fun d => M.opt (asRef d)
/-- what stands there is changed -/
def updO {α : Type} (r : Ref) (op : O → Option (α × O)) : M α := fun ρ => match getR ρ r with
  | some o => match op o with
    | some (z, o') => .ok z (setR ρ r o')
    | none => .no
  | none => .no
/-- it stands there, of a kind -/
def chkO {α : Type} (r : Ref) (g : O → Option α) : M α := fun ρ => match getR ρ r with
  | some o => match g o with
    | some z => .ok z ρ
    | none => .no
  | none => .no
def isL : O → Option (List D)
  | .lst ds => some ds
  | _ => none
def opL (op : List D → Option (D × List D)) : O → Option (D × O)
  | .lst ds => (op ds).map fun z => (z.1, .lst z.2)
  | _ => none
section
variable {X : Cx} {E : WX} {x : Str} {pos : Pos} {e : Expr} {f : M D}
theorem pf_var (i : Nat) (h : PE X (.Name x pos) (tVar i)) : PE X (.Name x pos) (tF X.K E (refS i)) := by
  refine pe_weak h fun σ H Q ⟨B, ρ, c, a⟩ => ?_
  unfold refS at a
  split at a
  · rename_i o q
    obtain ⟨p, u, e1, b1, k1, r1, oa1⟩ := c.own q
    exact ⟨_, e1, a.here c e1⟩
  · rename_i n q
    obtain ⟨v, e1, r⟩ := c.val q
    exact ⟨v, e1, a.here c r⟩
  · exact a.elim
theorem pf_of (h : PE X e (tD X.K E f)) : PE X e (tF X.K E (refD f)) := by
  refine pe_weak h fun σ H Q ⟨B, ρ, c, h⟩ => ⟨B, ρ, c, h.seq.imp ?_⟩
  rintro d ρ' x B' H1 - - - ⟨d, B1, ρ1, st1, rx, h1⟩
  obtain ⟨z, ez, k⟩ := h1.opt
  cases d <;> simp only [asRef, reduceCtorEq] at ez
  cases ez
  exact k _ _ _ (Step.refl st1.cf) rx
end
theorem At.updO {α β : Type} {R : Rl α β} {K : PySem.W.Frag} {E : WX} {σ : L2.St} {B : Fz} {H H0 : Hp} {ρ : Rho} {Q : β → Hp → Prop} {r : Ref} {v : V} {op : O → Option (α × O)} (c : Cf K B H σ ρ) (hr : RR K H0 σ B H ρ r v) (h : At K E R σ B H ρ Q (Nc.updO r op ρ)) :
    ∃ p u o z o', v = .ref p ∧ H p = some u ∧ RepO K B o u ∧ op o = some (z, o') ∧ ∀ w u', RepO K B o' u' → R H σ B (upd H p u') (setR ρ r o') z w → Q w (upd H p u') := by
  unfold Nc.updO at h
  cases e : getR ρ r with
  | none =>
    rw [e] at h
    exact h.elim
  | some o =>
    rw [e] at h
    cases eg : op o with
    | none =>
      simp only [eg] at h
      exact h.elim
    | some q =>
      obtain ⟨z, o'⟩ := q
      simp only [eg] at h
      obtain ⟨p, u, rfl, b1, k1, r1, oa⟩ := c.ref hr e
      exact ⟨p, u, o, z, o', rfl, k1, r1, eg, fun w u' ru rz => h w B _ (c.putR hr e ru) rz⟩
theorem At.chkO {α γ δ : Type} {R' : Rl γ δ} {K : PySem.W.Frag} {E : WX} {σ : L2.St} {B : Fz} {H : Hp} {ρ : Rho} {Q : δ → Hp → Prop} {r : Ref} {g : O → Option α} {k : α → M γ} (h : At K E R' σ B H ρ Q ((Nc.chkO r g >>= k) ρ)) :
    ∃ o z, getR ρ r = some o ∧ g o = some z ∧ At K E R' σ B H ρ Q (k z ρ) := by
  cases e : getR ρ r with
  | none =>
    have : Nc.chkO r g ρ = .no := by unfold Nc.chkO; rw [e]
    rw [bnd_no this] at h
    exact h.elim
  | some o =>
    cases eg : g o with
    | none =>
      have : Nc.chkO r g ρ = .no := by unfold Nc.chkO; simp only [e, eg]
      rw [bnd_no this] at h
      exact h.elim
    | some z =>
      have : Nc.chkO r g ρ = .ok z ρ := by unfold Nc.chkO; simp only [e, eg]
      rw [bnd_ok this] at h
      exact ⟨o, z, rfl, eg, h⟩
theorem isL_some {o : O} {ds : List D} (h : isL o = some ds) : o = .lst ds := by
  cases o <;> simp only [isL, reduceCtorEq] at h
  cases h
  rfl
theorem opL_some {op : List D → Option (D × List D)} {o o' : O} {z : D} (h : opL op o = some (z, o')) : ∃ ds es, o = .lst ds ∧ o' = .lst es ∧ op ds = some (z, es) := by
  cases o <;> simp only [opL, reduceCtorEq] at h
  obtain ⟨q, e1, e2⟩ := Option.map_eq_some_iff.mp h
  cases e2
  exact ⟨_, _, rfl, rfl, by rw [e1]⟩
/-- name.m(e), the list one that may change -/
def lm1 (op : List D → D → Option (D × List D)) (fr : M Ref) (f : M D) : M D := fr >>= fun r => chkO r isL >>= fun _ => f >>= fun d => updO r (opL fun ds => op ds d)
def lm0 (op : List D → Option (D × List D)) (fr : M Ref) : M D := fr >>= fun r => updO r (opL op)
def Mt1 (K : PySem.W.Frag) (r : V → List V → Hp → VK → Prop) (op : List D → D → Option (D × List D)) : Prop := ∀ (B : Fz) (H : Hp) (l : Addr) (xs : List V) (ds es : List D) (d z : D) (y : V) (Q : VK), Same B.h H → H l = some (.lst xs) → Reps K B ds xs → Rep K B d y → op ds d = some (z, es) →
  (∀ v ys, Rep K B z v → Reps K B es ys → Q v (upd H l (.lst ys))) → r (.ref l) [y] H Q
def Mt0 (K : PySem.W.Frag) (r : V → List V → Hp → VK → Prop) (op : List D → Option (D × List D)) : Prop := ∀ (B : Fz) (H : Hp) (l : Addr) (xs : List V) (ds es : List D) (z : D) (Q : VK), H l = some (.lst xs) → Reps K B ds xs → op ds = some (z, es) →
  (∀ v ys, Rep K B z v → Reps K B es ys → Q v (upd H l (.lst ys))) → r (.ref l) [] H Q
section
variable {X : Cx} {E : WX} {e : Expr} {f : M D} {fr : M Ref} {x name : Str} {p1 p2 p3 : Pos} {r : V → List V → Hp → VK → Prop}
theorem lm1_read {op : List D → D → Option (D × List D)} (hr : Mt1 X.K r op) : ∀ σ H Q, tD X.K E (lm1 op fr f) σ H Q → tBM X.K "list" r (tF X.K E fr) (tCons (tD X.K E f) tNil) σ H Q := by
  rintro σ H Q ⟨B, ρ, c, h⟩
  refine ⟨B, ρ, c, h.seq.imp ?_⟩
  rintro d ρ' v B' H1 - - - ⟨rf, B1, ρ1, st1, rr, h1⟩
  obtain ⟨o, ds, eo, el, h1⟩ := h1.chkO
  have el := isL_some el
  subst el
  obtain ⟨p, u, rfl, b1, k1, ⟨xs, rfl, r1⟩, oa⟩ := st1.cf.ref rr eo
  refine ⟨.inl ⟨rfl, xs, SqL.of k1⟩, B1, ρ1, st1.cf, h1.seq.imp ?_⟩
  rintro d ρ' y B' H2 - - - ⟨d, B2, ρ2, st2, ry, h2⟩
  obtain ⟨p', u, o, z, o', ep, k2, ro, eg, q⟩ := At.updO st2.cf (RR.mono (H0' := H2) st2 rr) h2
  cases ep
  obtain ⟨ds', es, rfl, rfl, eg'⟩ := opL_some eg
  obtain ⟨xs', rfl, r2⟩ := ro
  exact hr B2 H2 p xs' ds' es d z y Q st2.cf.bh k2 r2 ry eg' fun v ys rv ry => q v _ ⟨ys, rfl, ry⟩ rv
theorem lm0_read {op : List D → Option (D × List D)} (hr : Mt0 X.K r op) : ∀ σ H Q, tD X.K E (lm0 op fr) σ H Q → tBM0 X.K "list" r (tF X.K E fr) σ H Q := by
  rintro σ H Q ⟨B, ρ, c, h⟩
  refine ⟨B, ρ, c, h.seq.imp ?_⟩
  rintro d ρ' v B' H1 - - - ⟨rf, B1, ρ1, st1, rr, h1⟩
  obtain ⟨p', u, o, z, o', rfl, k2, ro, eg, q⟩ := At.updO st1.cf rr h1
  obtain ⟨ds', es, rfl, rfl, eg'⟩ := opL_some eg
  obtain ⟨xs', rfl, r2⟩ := ro
  exact ⟨.inl ⟨rfl, xs', SqL.of k2⟩, hr B1 H1 p' xs' ds' es z Q k2 r2 eg' fun v ys rv ry => q v _ ⟨ys, rfl, ry⟩ rv⟩
end
def appOp (ds : List D) (d : D) : Option (D × List D) := if ds.length < sizeLine then some (.non, ds ++ [d]) else none
def popAtOp (ds : List D) : D → Option (D × List D)
  | .int i => if decide (-(2 ^ 63) ≤ i) && decide (i < 2 ^ 63) then match seqIndex? i ds.length with
    | some k => (ds[k]?).map fun z => (z, ds.eraseIdx k)
    | none => none
    else none
  | _ => none
def popOp (ds : List D) : Option (D × List D) := (ds[ds.length - 1]?).map fun z => (z, ds.dropLast)
def clearOp (_ : List D) : Option (D × List D) := some (.non, [])
def revOp (ds : List D) : Option (D × List D) := some (.non, ds.reverse)
section
variable {K : PySem.W.Frag}
theorem mt1_append : Mt1 K rAppend appOp := by
  intro B H l xs ds es d z y Q _ hl r rd ez k
  unfold appOp at ez
  split at ez
  · rename_i hz
    cases ez
    rw [r.length] at hz
    exact ⟨l, xs, y, rfl, rfl, hl, hz, k _ _ (by simp only [Rep]) (r.append (Reps.cons rd Reps.nil))⟩
  · cases ez
theorem mt1_pop : Mt1 K rPopAt popAtOp := by
  intro B H l xs ds es d z y Q _ hl r rd ez k
  cases d <;> simp only [popAtOp, reduceCtorEq] at ez
  have e := rep_int rd
  subst e
  split at ez
  · rename_i hz
    rw [Bool.and_eq_true, decide_eq_true_eq, decide_eq_true_eq] at hz
    split at ez
    · rename_i j hj
      obtain ⟨w, e1, e2⟩ := Option.map_eq_some_iff.mp ez
      cases e2
      obtain ⟨v, e3, rv⟩ := r.get e1
      rw [r.length] at hj
      exact ⟨l, xs, _, j, v, rfl, rfl, hl, hz.1, hz.2, hj, e3, k _ _ rv (r.erase j)⟩
    · cases ez
  · cases ez
theorem Reps.dropLast {B : Fz} {ds : List D} {vs : List V} (h : Reps K B ds vs) : Reps K B ds.dropLast vs.dropLast := by
  rw [List.dropLast_eq_take, List.dropLast_eq_take, ← h.length]
  exact h.take _
theorem Reps.reverse {B : Fz} : ∀ {ds : List D} {vs : List V}, Reps K B ds vs → Reps K B ds.reverse vs.reverse
  | [], _, h => by
    simp only [Reps] at h
    subst h
    exact Reps.nil
  | d :: ds, vs, h => by
    simp only [Reps] at h
    obtain ⟨x, xs, rfl, h2, h3⟩ := h
    rw [List.reverse_cons, List.reverse_cons]
    exact (Reps.reverse h3).append (Reps.cons h2 Reps.nil)
theorem mt0_pop : Mt0 K rPop popOp := by
  intro B H l xs ds es z Q hl r ez k
  unfold popOp at ez
  obtain ⟨w, e1, e2⟩ := Option.map_eq_some_iff.mp ez
  cases e2
  obtain ⟨v, e3, rv⟩ := r.get e1
  rw [r.length] at e3
  exact ⟨l, xs, v, rfl, rfl, hl, e3, k _ _ rv r.dropLast⟩
theorem mt0_clear : Mt0 K rClear clearOp := by
  intro B H l xs ds es z Q hl r ez k
  cases ez
  exact ⟨l, xs, rfl, rfl, hl, k _ _ (by simp only [Rep]) Reps.nil⟩
end
section
variable {X : Cx} {E : WX} {e o : Expr} {f : M D} {fr : M Ref} {x : Str} {p1 p2 p3 : Pos}
theorem pm_append (hx : PE X o (tF X.K E fr)) (he : PE X e (tD X.K E f))
    (hbase : attributeBase o "append" X.env (eval o X.env) = eval o X.env := by rfl)
    (hfew : ((backTo p3 (starEach [e] X.env)).all (fun x => !x.1) && (backToKw p3 (keywordEach [] X.env)).all (fun x => x.1.isSome)
      && decide ([e].length + ([] : List Keyword).length + (if ([] : List Keyword).isEmpty then 0 else 1) < 30)) = true := by rfl)
    (hline : (p2.endLine == p3.line) = true := by rfl) (hs : starEach [e] X.env = (false, eval e X.env) :: starEach [] X.env := by rfl) (hplain : (backTo p3 (starEach [] X.env)).any (·.1) = false := by rfl) :
    PE X (.Call (.Attribute o "append" p2) [e] [] p3) (tD X.K E (lm1 appOp fr f)) :=
  pe_weak (pe_bm PySem.F.plainAttrs_list PySem.F.slot_list_append PySem.F.type_list_append mt_append hx (pa_cons he pa_nil hs) hbase hfew hline hs hplain) (lm1_read mt1_append)
theorem pm_popAt (hx : PE X o (tF X.K E fr)) (he : PE X e (tD X.K E f))
    (hbase : attributeBase o "pop" X.env (eval o X.env) = eval o X.env := by rfl)
    (hfew : ((backTo p3 (starEach [e] X.env)).all (fun x => !x.1) && (backToKw p3 (keywordEach [] X.env)).all (fun x => x.1.isSome)
      && decide ([e].length + ([] : List Keyword).length + (if ([] : List Keyword).isEmpty then 0 else 1) < 30)) = true := by rfl)
    (hline : (p2.endLine == p3.line) = true := by rfl) (hs : starEach [e] X.env = (false, eval e X.env) :: starEach [] X.env := by rfl) (hplain : (backTo p3 (starEach [] X.env)).any (·.1) = false := by rfl) :
    PE X (.Call (.Attribute o "pop" p2) [e] [] p3) (tD X.K E (lm1 popAtOp fr f)) :=
  pe_weak (pe_bm PySem.F.plainAttrs_list PySem.F.slot_list_pop PySem.F.type_list_pop mt_popAt hx (pa_cons he pa_nil hs) hbase hfew hline hs hplain) (lm1_read mt1_pop)
theorem pm_pop (hx : PE X o (tF X.K E fr))
    (hbase : attributeBase o "pop" X.env (eval o X.env) = eval o X.env := by rfl) (hline : (p2.endLine == p3.line) = true := by rfl) :
    PE X (.Call (.Attribute o "pop" p2) [] [] p3) (tD X.K E (lm0 popOp fr)) :=
  pe_weak (pe_bm0 PySem.F.plainAttrs_list PySem.F.slot_list_pop PySem.F.type_list_pop mt_pop hx hbase hline) (lm0_read mt0_pop)
theorem pm_clear (hx : PE X o (tF X.K E fr))
    (hbase : attributeBase o "clear" X.env (eval o X.env) = eval o X.env := by rfl) (hline : (p2.endLine == p3.line) = true := by rfl) :
    PE X (.Call (.Attribute o "clear" p2) [] [] p3) (tD X.K E (lm0 clearOp fr)) :=
  pe_weak (pe_bm0 PySem.F.plainAttrs_list PySem.F.slot_list_clear PySem.F.type_list_clear mt_clear hx hbase hline) (lm0_read mt0_clear)
/-! o[j] = e, the list one that may change -/
def setIx (ds : List D) (j d : D) : Option (List D) := match j with
  | .int k => (ixN ds.length k).map fun n => ds.set n d
  | _ => none
def itemS (fr : M Ref) (f fj : M D) : M Out := f >>= fun d => fr >>= fun r => chkO r isL >>= fun _ => fj >>= fun j => updO r (opL fun ds => (setIx ds j d).map fun es => (.non, es)) >>= fun _ => M.ret .nx
theorem AtS.chkO {α : Type} {K : PySem.W.Frag} {E : WX} {σ : L2.St} {B : Fz} {H : Hp} {ρ : Rho} {Dn : Ends} {r : Ref} {g : O → Option α} {k : α → M Out} (h : AtS K E σ B H ρ Dn ((Nc.chkO r g >>= k) ρ)) :
    ∃ o z, getR ρ r = some o ∧ g o = some z ∧ AtS K E σ B H ρ Dn (k z ρ) := by
  cases e : getR ρ r with
  | none =>
    have : Nc.chkO r g ρ = .no := by unfold Nc.chkO; rw [e]
    rw [bnd_no this] at h
    exact h.elim
  | some o =>
    cases eg : g o with
    | none =>
      have : Nc.chkO r g ρ = .no := by unfold Nc.chkO; simp only [e, eg]
      rw [bnd_no this] at h
      exact h.elim
    | some z =>
      have : Nc.chkO r g ρ = .ok z ρ := by unfold Nc.chkO; simp only [e, eg]
      rw [bnd_ok this] at h
      exact ⟨o, z, rfl, eg, h⟩
/-- what stands at a reference is changed, then the rest -/
theorem AtS.updO {α : Type} {K : PySem.W.Frag} {E : WX} {σ : L2.St} {B : Fz} {H H0 : Hp} {ρ : Rho} {Dn : Ends} {r : Ref} {v : V} {op : O → Option (α × O)} {k : α → M Out} (c : Cf K B H σ ρ) (hr : RR K H0 σ B H ρ r v) (h : AtS K E σ B H ρ Dn ((Nc.updO r op >>= k) ρ)) :
    ∃ p u o z o', v = .ref p ∧ H p = some u ∧ RepO K B o u ∧ op o = some (z, o') ∧ ∀ u', RepO K B o' u' → Step K σ B H ρ σ B (upd H p u') (setR ρ r o') ∧ AtS K E σ B (upd H p u') (setR ρ r o') Dn (k z (setR ρ r o')) := by
  cases e : getR ρ r with
  | none =>
    have : Nc.updO r op ρ = .no := by unfold Nc.updO; rw [e]
    rw [bnd_no this] at h
    exact h.elim
  | some o =>
    cases eg : op o with
    | none =>
      have : Nc.updO r op ρ = .no := by unfold Nc.updO; simp only [e, eg]
      rw [bnd_no this] at h
      exact h.elim
    | some q =>
      obtain ⟨z, o'⟩ := q
      have : Nc.updO r op ρ = .ok z (setR ρ r o') := by unfold Nc.updO; simp only [e, eg]
      rw [bnd_ok this] at h
      obtain ⟨p, u, rfl, b1, k1, r1, oa⟩ := c.ref hr e
      exact ⟨p, u, o, z, o', rfl, k1, r1, eg, fun u' ru => ⟨c.putR hr e ru, h.from (c.putR hr e ru)⟩⟩
theorem sd_item {ej : Expr} {fj : M D} {ps pos : Pos} (hx : PE X o (tF X.K E fr)) (hj : PE X ej (tD X.K E fj)) (he : PE X e (tD X.K E f))
    (ha : ∀ v, assign (.Subscript o ej ps) X.env v = (do
      let ov ← holding [v] (eval o X.env)
      let iv ← holding [v, ov] (eval ej X.env)
      standAt ps
      holding [v, ov, iv] (setItem ov iv v)
      release [v, ov, iv] []) := by intro _; rfl)
    (hs : swapsWithSole [.Subscript o ej ps] e pos.line X.env = pure false := by rfl) (hw : swappedStores [.Subscript o ej ps] e X.env = pure none := by rfl)
    (h1 : (assignEach [.Subscript o ej ps] X.env).map (·.2) = [assign (.Subscript o ej ps) X.env] := by rfl) :
    PS X (.Assign [.Subscript o ej ps] e pos) (tS X.K E (itemS fr f fj)) := by
  refine ps_weak (ps_asg he (pg_sub hx hj set_list ha) hs hw h1) fun Dn σ H ⟨B, ρ, c, h⟩ => ⟨B, ρ, c, h.seq.imp ?_⟩
  rintro d ρ' v B' H1 - - - ⟨d, B1, ρ1, st1, rv, h1⟩
  have rv : Rep X.K B1 d v := rv
  have h1 := h1.from st1
  refine ⟨B1, ρ1, st1.cf, h1.seq.imp ?_⟩
  rintro d' ρ' w B' H2 - - - ⟨rf, B2, ρ2, st2, rr, h2⟩
  have h2 := h2.from st2
  obtain ⟨o, ds, eo, el, h2⟩ := h2.chkO
  have el := isL_some el
  subst el
  obtain ⟨p, u, rfl, b1, k1, ⟨xs, rfl, r1⟩, oa⟩ := st2.cf.ref rr eo
  refine ⟨B2, ρ2, st2.cf, h2.seq.imp ?_⟩
  rintro j ρ' w B' H3 - - - ⟨j, B3, ρ3, st3, rj, h3⟩
  have rj : Rep X.K B3 j w := rj
  obtain ⟨p', u, o, z, o', ep, k2, ro, eg, q⟩ := AtS.updO st3.cf (RR.mono (H0' := H3) st3 rr) (h3.from st3)
  cases ep
  obtain ⟨ds', es, rfl, rfl, eg'⟩ := opL_some eg
  obtain ⟨xs', rfl, r2⟩ := ro
  obtain ⟨es', ee, e2⟩ := Option.map_eq_some_iff.mp eg'
  cases e2
  cases j <;> try (simp only [setIx, reduceCtorEq] at ee; done)
  have ew := rep_int rj
  subst ew
  rename_i k
  obtain ⟨n, en, ee⟩ := Option.map_eq_some_iff.mp ee
  subst ee
  rw [r2.length] at en
  obtain ⟨sq, aq⟩ := q _ ⟨_, rfl, r2.set n ((rv.mono st2.bb).mono st3.bb)⟩
  exact ⟨p, xs', _, n, rfl, rfl, k2, en, aq _ _ _ (Step.refl sq.cf)⟩
end
end Nc

/-! Targets, what is walked, for, while, list comprehensions. -/
namespace Nc
open PySem PySem.Spec PyProof.Rows L2

/-! ### targets -/
/-- the tree d is stored by a target whose names stand at the slots ts -/
def gD (K : PySem.W.Frag) (ts : List Nat) (bnd : D → M Unit) : TG := fun v σ H Q => ∃ B ρ d, Cf K B H σ ρ ∧ Rep K B d v ∧ ∃ ρ', bnd d ρ = .ok () ρ' ∧
  ∀ σ' B' H', Step K σ B H ρ σ' B' H' ρ' → σ'.length = σ.length → (∀ j, j ∉ ts → σ'[j]? = σ[j]?) → (∀ j, j ∉ ts → ρ'[j]? = ρ[j]?) → Q σ' H'
def bndN (i : Nat) : D → M Unit := fun d ρ => .ok () (ρ.set i (some (.val d)))
def bndS : List Nat → List D → Rho → Rs Unit
  | [], [], ρ => .ok () ρ
  | i :: is, d :: ds, ρ => bndS is ds (ρ.set i (some (.val d)))
  | _, _, _ => .no
section
variable {X : Cx} {pos : Pos}
theorem pg_weak {e : Expr} {t t' : TG} (h : PG X e t) (k : ∀ v σ H Q, t' v σ H Q → t v σ H Q) : PG X e t' := ⟨fun pins s σ H v u Q I r q => h.run pins s σ H v u Q I r (k v σ H Q q)⟩
theorem gd_name {i : Nat} {x : Str} (h : PG X (.Name x pos) (gName i)) : PG X (.Name x pos) (gD X.K [i] (bndN i)) := by
  refine pg_weak h fun v σ H Q ⟨B, ρ, d, c, r, ρ', e, k⟩ => ?_
  cases e
  exact k _ _ _ (c.set i r) (by rw [List.length_set]) (fun j hj => List.getElem?_set_ne fun z => hj (by simp [z])) (fun j hj => List.getElem?_set_ne fun z => hj (by simp [z]))
/-- several targets that are names -/
def gsD (K : PySem.W.Frag) (is : List Nat) : TGs := fun vs σ H Q => ∃ B ρ ds, Cf K B H σ ρ ∧ Reps K B ds vs ∧ ∃ ρ', bndS is ds ρ = .ok () ρ' ∧
  ∀ σ' B' H', Step K σ B H ρ σ' B' H' ρ' → σ'.length = σ.length → (∀ j, j ∉ is → σ'[j]? = σ[j]?) → (∀ j, j ∉ is → ρ'[j]? = ρ[j]?) → Q σ' H'
theorem pgs_weak {es : List Expr} {t t' : TGs} (h : PGs X es t) (k : ∀ v σ H Q, t' v σ H Q → t v σ H Q) : PGs X es t' := ⟨fun pins s σ H v u Q I r q => h.run pins s σ H v u Q I r (k v σ H Q q)⟩
theorem gds_nil : PGs X [] (gsD X.K []) := by
  refine pgs_weak pgs_nil fun vs σ H Q ⟨B, ρ, ds, c, r, ρ', e, k⟩ => ?_
  cases ds with
  | nil =>
    simp only [bndS] at e
    cases e
    simp only [Reps] at r
    exact ⟨r, k _ _ _ (Step.refl c) rfl (fun _ _ => rfl) (fun _ _ => rfl)⟩
  | cons d ds => simp only [bndS, reduceCtorEq] at e
theorem gds_cons {i : Nat} {is : List Nat} {x : Str} {p : Pos} {es : List Expr} (h : PG X (.Name x p) (gName i)) (t : PGs X es (gsD X.K is)) (hs : (assignEach (.Name x p :: es) X.env).map (·.2) = assign (.Name x p) X.env :: (assignEach es X.env).map (·.2) := by rfl) :
    PGs X (.Name x p :: es) (gsD X.K (i :: is)) := by
  refine pgs_weak (pgs_cons h t hs) fun vs σ H Q ⟨B, ρ, ds, c, r, ρ', e, k⟩ => ?_
  cases ds with
  | nil => simp only [bndS, reduceCtorEq] at e
  | cons d ds =>
    simp only [Reps] at r
    simp only [bndS] at e
    obtain ⟨v, ws, rfl, r1, r2⟩ := r
    have st := c.set i r1
    refine ⟨v, ws, rfl, B, _, ds, st.cf, r2, ρ', e, fun σ' B' H' s2 hl hj hr => ?_⟩
    refine k σ' B' H' (st.trans s2) (by rw [hl, List.length_set]) (fun j z => ?_) (fun j z => ?_)
    · rw [List.mem_cons, not_or] at z
      rw [hj j z.2, List.getElem?_set_ne (Ne.symm z.1)]
    · rw [List.mem_cons, not_or] at z
      rw [hr j z.2, Rho.get_set_ne (Ne.symm z.1)]
def tupOf : D → Option (List D)
  | .tup ds => some ds
  | _ => none
def bndT (is : List Nat) (d : D) : M Unit := fun ρ => match tupOf d with
  | some ds => bndS is ds ρ
  | none => .no
theorem bndT_ok {is : List Nat} {d : D} {ρ ρ' : Rho} (e : bndT is d ρ = .ok () ρ') : ∃ ds, d = .tup ds ∧ bndS is ds ρ = .ok () ρ' := by
  unfold bndT at e
  cases d <;> simp only [tupOf, reduceCtorEq] at e
  exact ⟨_, rfl, e⟩
theorem bndS_len : ∀ {is : List Nat} {ds : List D} {ρ ρ' : Rho}, bndS is ds ρ = .ok () ρ' → ds.length = is.length
  | [], [], _, _, _ => rfl
  | [], _ :: _, _, _, e => by simp only [bndS, reduceCtorEq] at e
  | _ :: _, [], _, _, e => by simp only [bndS, reduceCtorEq] at e
  | i :: is, d :: ds, ρ, ρ', e => by
    simp only [bndS] at e
    rw [List.length_cons, List.length_cons, bndS_len (is := is) e]
theorem gd_tup {es : List Expr} {k : Nat} {is : List Nat} (hc : X.calm = true) (h : PGs X es (gsD X.K is)) (hn : (assignEach es X.env).length = is.length := by rfl) (hst : (assignEach es X.env).findIdx? (·.1) = none := by rfl) :
    PG X (.Tuple es k pos) (gD X.K is (bndT is)) := by
  refine pg_weak (pg_tup hc h hn hst) fun v σ H Q ⟨B, ρ, d, c, r, ρ', e, kk⟩ => ?_
  obtain ⟨ds, rfl, e⟩ := bndT_ok e
  simp only [Rep] at r
  obtain ⟨a, xs, rfl, h1, h2⟩ := r
  exact ⟨a, xs, rfl, Same.sqt c.bh h1, by rw [← h2.length]; exact bndS_len e, B, ρ, _, c, h2, ρ', e, kk⟩
/-! a, b, .. = e -/
variable {E : WX} {e : Expr} {f : M D}
def asgS (bnd : D → M Unit) (f : M D) : M Out := f >>= fun d => bnd d >>= fun _ => M.ret .nx
theorem sd_asg {ts : List Nat} {tg : Expr} {bnd : D → M Unit} (hg : PG X tg (gD X.K ts bnd)) (he : PE X e (tD X.K E f)) (hx : ∀ d ρ x ρ', bnd d ρ ≠ .ex x ρ') (hs : swapsWithSole [tg] e pos.line X.env = pure false := by rfl) (hw : swappedStores [tg] e X.env = pure none := by rfl)
    (h1 : (assignEach [tg] X.env).map (·.2) = [assign tg X.env] := by rfl) : PS X (.Assign [tg] e pos) (tS X.K E (asgS bnd f)) := by
  refine ps_weak (ps_asg he hg hs hw h1) fun Dn σ H ⟨B, ρ, c, h⟩ => ⟨B, ρ, c, h.seq.imp ?_⟩
  rintro d ρ' v B' H1 - - - ⟨d, B1, ρ1, st1, rv, h1⟩
  cases e1 : bnd d ρ1 with
  | no =>
    rw [bnd_no e1] at h1
    exact h1.elim
  | ex x ρ2 => exact absurd e1 (hx d ρ1 x ρ2)
  | ok u ρ2 =>
    rw [bnd_ok e1] at h1
    exact ⟨B1, ρ1, d, st1.cf, rv, ρ2, e1, fun σ' B' H' s2 _ _ _ => h1 _ _ _ (st1.trans s2)⟩
theorem bndS_noex : ∀ {is : List Nat} {ds : List D} {ρ : Rho} {x : Xn} {ρ' : Rho}, bndS is ds ρ ≠ .ex x ρ'
  | [], [], _, _, _ => by simp only [bndS, ne_eq, reduceCtorEq, not_false_eq_true]
  | i :: is, d :: ds, ρ, x, ρ' => by
    simp only [bndS]
    exact bndS_noex
  | _ :: _, [], _, _, _ => by simp only [bndS, ne_eq, reduceCtorEq, not_false_eq_true]
  | [], _ :: _, _, _, _ => by simp only [bndS, ne_eq, reduceCtorEq, not_false_eq_true]
theorem bndT_noex {is : List Nat} : ∀ d ρ x ρ', bndT is d ρ ≠ .ex x ρ' := fun d ρ x ρ' => by
  unfold bndT
  split
  · exact bndS_noex
  · simp only [ne_eq, reduceCtorEq, not_false_eq_true]
theorem bndN_noex {i : Nat} : ∀ d ρ x ρ', bndN i d ρ ≠ .ex x ρ' := fun d ρ x ρ' => by simp only [bndN, ne_eq, reduceCtorEq, not_false_eq_true]
end

/-! ### what is walked -/
structure Yields (K : PySem.W.Frag) (B : Fz) (J : It) (ds : List D) : Prop where
  stop : ∀ H, Same B.h H → J.stop ds.length H
  go : ∀ i H, i < ds.length → Same B.h H → J.go i H
  yld : ∀ i d H x H', ds[i]? = some d → Same B.h H → J.yld i H x H' → (H' = H ∧ Rep K B d x) ∨ ∃ p o, H p = none ∧ H' = upd H p o ∧ Rep K (Fz.upd B p o) d x
def RY (K : PySem.W.Frag) : Rl (List D) It := fun _ _ B _ _ ds J => Yields K B J ds
instance (K : PySem.W.Frag) : RlM (RY K) := ⟨fun _ h => h⟩
abbrev tI (K : PySem.W.Frag) (E : WX) (f : M (List D)) : TI := tR K E (RY K) f
section
variable {K : PySem.W.Frag} {B : Fz}
theorem yields_list {a : Addr} {xs : List V} {ds : List D} (h : B a = some (.lst xs)) (r : Reps K B ds xs) : Yields K B (Itl K a) ds where
  stop := fun H s => ⟨xs, SqL.of (s _ _ h), Nat.le_of_eq r.length.symm⟩
  go := fun i H hi s => by
    rw [r.length] at hi
    exact ⟨xs, xs[i], SqL.of (s _ _ h), List.getElem?_eq_getElem hi⟩
  yld := fun i d H x H' e s ⟨e1, e2⟩ => by
    obtain ⟨v, e3, rv⟩ := r.get e
    rw [e2 xs (SqL.of (s _ _ h))] at e3
    cases e3
    exact .inl ⟨e1, rv⟩
theorem yields_tup {a : Addr} {xs : List V} {ds : List D} (h : SqT K B a xs) (r : Reps K B ds xs) : Yields K B (Itt K a) ds where
  stop := fun H s => ⟨xs, Same.sqt s h, Nat.le_of_eq r.length.symm⟩
  go := fun i H hi s => by
    rw [r.length] at hi
    exact ⟨xs, xs[i], Same.sqt s h, List.getElem?_eq_getElem hi⟩
  yld := fun i d H x H' e s ⟨e1, e2⟩ => by
    obtain ⟨v, e3, rv⟩ := r.get e
    rw [e2 xs (Same.sqt s h)] at e3
    cases e3
    exact .inl ⟨e1, rv⟩
def rangeL (lo : Int) (n : Nat) : List D := (List.range n).map fun k => .int (lo + (k : Nat))
theorem yields_range {lo : Int} {n : Nat} : Yields K B (Itr lo n) (rangeL lo n) where
  stop := fun H s => by
    show n ≤ _
    simp [rangeL]
  go := fun i H hi s => by
    show i < n
    simpa [rangeL] using hi
  yld := fun i d H x H' e s ⟨e1, e2⟩ => by
    refine .inl ⟨e1, ?_⟩
    subst e2
    unfold rangeL at e
    rw [List.getElem?_map] at e
    cases q : (List.range n)[i]? with
    | none =>
      rw [q] at e
      cases e
    | some k =>
      rw [q] at e
      have hk := List.getElem?_range (show i < n by
        have := (List.getElem?_eq_some_iff.mp q).1
        simpa using this)
      rw [q] at hk
      cases hk
      cases e
      simp only [Rep]
def signsL (z : Str) : List D := z.cps.toList.map fun c => .str ⟨#[c]⟩
theorem yields_str {z : Str} : Yields K B (Its z) (signsL z) where
  stop := fun H s => by
    show z.cps.size ≤ _
    simp [signsL]
  go := fun i H hi s => by
    show i < z.cps.size
    simpa [signsL] using hi
  yld := fun i d H x H' e s ⟨e1, c, e2, e3⟩ => by
    refine .inl ⟨e1, ?_⟩
    subst e3
    unfold signsL at e
    rw [List.getElem?_map, Array.getElem?_toList, e2] at e
    cases e
    simp only [Rep]
end
section
variable {X : Cx} {E : WX} {tg e : Expr} {f : M D}
theorem pi_weak {w w' : TI} (h : PI X tg e w) (k : ∀ σ H R, w' σ H R → w σ H R) : PI X tg e w' := ⟨fun pins s σ H R I q => h.run pins s σ H R I (k σ H R q)⟩
theorem pi_or {w w' : TI} (h : PI X tg e w) (h' : PI X tg e w') : PI X tg e (fun σ H R => w σ H R ∨ w' σ H R) := ⟨fun pins s σ H R I q => q.elim (h.run pins s σ H R I) (h'.run pins s σ H R I)⟩
def itemsD : D → Option (List D)
  | .lst ds => some ds
  | .tup ds => some ds
  | .str z => some (signsL z)
  | _ => none
def seqI (f : M D) : M (List D) := f >>= fun d => M.opt (itemsD d)
theorem At.known {α β : Type} {K : PySem.W.Frag} {R R2 : Rl α β} {σ : L2.St} {B : Fz} {H : Hp} {ρ : Rho} {Q Q' : β → Hp → Prop} {r : Rs α} (h : At K E R σ B H ρ Q r) (hn : ∀ a ρ', r ≠ .ok a ρ') : At K E R2 σ B H ρ Q' r := by
  cases r with
  | no => exact h
  | ex x ρ' => exact h
  | ok a ρ' => exact absurd rfl (hn a ρ')
/-- the part is known: what is left -/
theorem At.step {α γ δ : Type} {K : PySem.W.Frag} {E : WX} {R' : Rl γ δ} {σ : L2.St} {B : Fz} {H : Hp} {ρ ρ1 : Rho} {f : M α} {g : α → M γ} {a : α} {Q : δ → Hp → Prop} (h : At K E R' σ B H ρ Q ((f >>= g) ρ)) (e : f ρ = .ok a ρ1) : At K E R' σ B H ρ Q (g a ρ1) := by
  rw [bnd_ok e] at h
  exact h
theorem At.optS {γ δ : Type} {K : PySem.W.Frag} {E : WX} {R' : Rl γ δ} {σ : L2.St} {B : Fz} {H : Hp} {ρ ρ1 : Rho} {Q : δ → Hp → Prop} {o : Option γ} (h : At K E R' σ B H ρ Q (M.opt o ρ1)) : ∃ a, o = some a ∧ ∀ x B' H', Step K σ B H ρ σ B' H' ρ1 → R' H σ B' H' ρ1 a x → Q x H' := by
  cases o with
  | none => exact h.elim
  | some a => exact ⟨a, rfl, h⟩
theorem pi_seq (h : PE X e (tD X.K E f)) : PI X tg e (tI X.K E (seqI f)) := by
  refine pi_weak (pi_or (pi_list h) (pi_or (pi_tup h) (pi_str h))) ?_
  rintro σ H R ⟨B, ρ, c, h⟩
  cases e0 : f ρ with
  | no =>
    have hs := h.seq (R := RD X.K)
    rw [e0] at hs
    exact hs.elim
  | ex x ρ1 =>
    have hs := h.seq (R := RD X.K)
    rw [e0] at hs
    exact .inl ⟨B, ρ, c, by rw [e0]; exact hs⟩
  | ok d ρ1 =>
    obtain ⟨es, ee, k⟩ := (h.step e0).optS
    cases d <;> simp only [itemsD, reduceCtorEq] at ee
    · cases ee
      refine .inr (.inr ⟨B, ρ, c, ?_⟩)
      rw [e0]
      exact fun x B1 H1 st1 rx => ⟨_, rep_str rx, k _ _ _ st1 yields_str⟩
    · cases ee
      refine .inr (.inl ⟨B, ρ, c, ?_⟩)
      rw [e0]
      intro x B1 H1 st1 rx
      have rx : Rep X.K B1 (.tup es) x := rx
      simp only [Rep] at rx
      obtain ⟨a, xs, rfl, h1, h2⟩ := rx
      exact ⟨a, rfl, ⟨xs, Same.sqt st1.cf.bh h1⟩, k _ _ _ st1 (yields_tup h1 h2)⟩
    · cases ee
      refine .inl ⟨B, ρ, c, ?_⟩
      rw [e0]
      intro x B1 H1 st1 rx
      have rx : Rep X.K B1 (.lst es) x := rx
      simp only [Rep] at rx
      obtain ⟨a, xs, rfl, h1, h2⟩ := rx
      exact ⟨a, rfl, ⟨xs, SqL.of (st1.cf.bh _ _ h1)⟩, k _ _ _ st1 (yields_list h1 h2)⟩
def inR (j : Int) : Bool := decide (-(2 ^ 62) ≤ j) && decide (j < 2 ^ 62)
def rng1 : D → Option (List D)
  | .int j => if inR j then some (rangeL 0 j.toNat) else none
  | _ => none
def rng2 : D → D → Option (List D)
  | .int i, .int j => if inR i && inR j then some (rangeL i (j - i).toNat) else none
  | _, _ => none
def rngI (f : M D) : M (List D) := f >>= fun d => M.opt (rng1 d)
def rngI2 (f g : M D) : M (List D) := f >>= fun d => g >>= fun e => M.opt (rng2 d e)
theorem inR_ok {j : Int} (h : inR j = true) : -(2 ^ 62) ≤ j ∧ j < 2 ^ 62 := by
  unfold inR at h
  rw [Bool.and_eq_true, decide_eq_true_eq, decide_eq_true_eq] at h
  exact h
theorem pi_rng1 {a : Expr} {p pos : Pos} (hg : Gl X "range") (hm : X.mg "range" = none) (ha : PE X a (tD X.K E f)) (hs : starEach [a] X.env = [(false, eval a X.env)] := by rfl) (hs0 : starEach [a] X.env = (false, eval a X.env) :: starEach [] X.env := by rfl) :
    PI X tg (.Call (.Name "range" p) [a] [] pos) (tI X.K E (rngI f)) := by
  refine pi_weak (pi_range1 hg hm (pa_cons ha pa_nil hs0) hs) ?_
  rintro σ H R ⟨B, ρ, c, h⟩
  refine ⟨B, ρ, c, h.seq.imp ?_⟩
  rintro d ρ' x B' H1 - - - ⟨d, B1, ρ1, st1, rx, h1⟩
  obtain ⟨es, ee, k⟩ := h1.opt
  cases d <;> simp only [rng1, reduceCtorEq] at ee
  split at ee
  · rename_i hz
    cases ee
    obtain ⟨h1, h2⟩ := inR_ok hz
    refine ⟨_, by rw [rep_int rx], h1, h2, k _ _ _ (Step.refl st1.cf) yields_range⟩
  · cases ee
theorem pi_rng2 {g : M D} {a b : Expr} {p pos : Pos} (hg : Gl X "range") (hm : X.mg "range" = none) (ha : PE X a (tD X.K E f)) (hb : PE X b (tD X.K E g)) (hs : starEach [a, b] X.env = [(false, eval a X.env), (false, eval b X.env)] := by rfl) (hs2 : starEach [b] X.env = [(false, eval b X.env)] := by rfl)
    (hs0 : starEach [a, b] X.env = (false, eval a X.env) :: starEach [b] X.env := by rfl) (hs1 : starEach [b] X.env = (false, eval b X.env) :: starEach [] X.env := by rfl) : PI X tg (.Call (.Name "range" p) [a, b] [] pos) (tI X.K E (rngI2 f g)) := by
  refine pi_weak (pi_range2 hg hm (pa_cons ha (pa_cons hb pa_nil hs1) hs0) hs hs2) ?_
  rintro σ H R ⟨B, ρ, c, h⟩
  refine ⟨B, ρ, c, h.seq.imp ?_⟩
  rintro d ρ' x B' H1 - - - ⟨d, B1, ρ1, st1, rx, h1⟩
  refine ⟨B1, ρ1, st1.cf, h1.seq.imp ?_⟩
  rintro e ρ' y B' H2 - - - ⟨e, B2, ρ2, st2, ry, h2⟩
  obtain ⟨es, ee, k⟩ := h2.opt
  cases d <;> cases e <;> simp only [rng2, reduceCtorEq] at ee
  split at ee
  · rename_i hz
    cases ee
    rw [Bool.and_eq_true] at hz
    obtain ⟨h1, h2⟩ := inR_ok hz.1
    obtain ⟨h3, h4⟩ := inR_ok hz.2
    exact ⟨_, _, by rw [rep_int rx, rep_int ry], ⟨h1, h2, h3, h4⟩, k _ _ _ (Step.refl st2.cf) yields_range⟩
  · cases ee
end

/-! ### for -/
def loopS (bnd : D → M Unit) (body : M Out) : List D → M Out
  | [] => M.ret .nx
  | d :: ds => bnd d >>= fun _ => body >>= fun o => match o with
    | .nx => loopS bnd body ds
    | .ct => loopS bnd body ds
    | .bk => M.ret .nx
    | .rt d => M.ret (.rt d)
    | .rn i => M.ret (.rn i)
def forS (src : M (List D)) (bnd : D → M Unit) (body : M Out) : M Out := src >>= fun ds => loopS bnd body ds
section
variable {X : Cx} {E : WX} {tg iter : Expr} {body : List Stmt} {pos : Pos} {src : M (List D)} {bnd : D → M Unit} {fb : M Out} {ts : List Nat}
theorem AtS.step {α : Type} {K : PySem.W.Frag} {E : WX} {σ : L2.St} {B : Fz} {H : Hp} {ρ ρ1 : Rho} {Dn : Ends} {f : M α} {g : α → M Out} {a : α} (h : AtS K E σ B H ρ Dn ((f >>= g) ρ)) (e : f ρ = .ok a ρ1) : AtS K E σ B H ρ Dn (g a ρ1) := by
  rw [bnd_ok e] at h
  exact h
theorem sd_for (hp : PassesOwn (model X.prog X.w) X.A X.env X.xe) (hc : X.calm = true) (hi : PI X tg iter (tI X.K E src)) (hg : PG X tg (gD X.K ts bnd)) (hx : ∀ d ρ x ρ', bnd d ρ ≠ .ex x ρ') (hb : PSs X body (tS X.K E fb))
    (hs : ∀ x, foldedSetIterable iter X.env x = pure x := by intro _; rfl) : PS X (.For tg iter body [] pos) (tS X.K E (forS src bnd fb)) := by
  refine ps_weak (ps_for hp hc hi hg hb hs) fun Dn σ0 H0 ⟨B0, ρ0, c0, h0⟩ => ⟨B0, ρ0, c0, h0.seq.imp ?_⟩
  rintro d ρ' J B' H1 - - - ⟨ds, B1, ρ1, st1, ys, h1⟩
  have ys : Yields X.K B1 J ds := ys
  refine ⟨fun i m σ H => m = ds.length - i ∧ i ≤ ds.length ∧ ∃ B ρ, Cf X.K B H σ ρ ∧ FSame B1 B ∧ AtS X.K E σ B H ρ Dn (loopS bnd fb (ds.drop i) ρ), ⟨ds.length, by simp, Nat.zero_le _, B1, ρ1, st1.cf, FSame.refl _, h1.from st1⟩, ?_⟩
  rintro i m σ H ⟨rfl, hi, B, ρ, c, sB, h⟩
  by_cases hlt : i < ds.length
  · refine .inr ⟨ys.go i H hlt (sB.h.trans c.bh), fun σ' H' => ∃ B' ρ', Cf X.K B' H' σ' ρ' ∧ FSame B1 B' ∧ AtS X.K E σ' B' H' ρ' Dn (loopS bnd fb (ds.drop (i + 1)) ρ'), fun σ' H' ⟨B', ρ', z⟩ => ⟨ds.length - (i + 1), by omega, rfl, hlt, B', ρ', z⟩, fun x H2 hy => ?_⟩
    rw [List.drop_eq_getElem_cons hlt] at h
    have hd : ds[i]? = some ds[i] := List.getElem?_eq_getElem hlt
    -- the item
    obtain ⟨B2, st2, rx⟩ : ∃ B2, Step X.K σ B H ρ σ B2 H2 ρ ∧ Rep X.K B2 ds[i] x := by
      rcases ys.yld i _ H x H2 hd (sB.h.trans c.bh) hy with ⟨rfl, r⟩ | ⟨p, o, hp, rfl, r⟩
      · exact ⟨B, Step.refl c, r.mono sB⟩
      · have up : FSame (Fz.upd B1 p o) (Fz.upd B p o) := by
          refine ⟨fun b w q => ?_, sB.π⟩
          have q : (Fz.upd B1 p o) b = some w := q
          show (Fz.upd B p o) b = some w
          by_cases hb : b = p
          · subst hb
            rw [Fz.upd_same] at q ⊢
            exact q
          · rw [Fz.upd_ne hb] at q ⊢
            exact sB.h b w q
        exact ⟨Fz.upd B p o, c.laid hp o, r.mono up⟩
    cases e1 : bnd ds[i] ρ with
    | no =>
      simp only [loopS] at h
      rw [bnd_no e1] at h
      exact h.elim
    | ex x ρ2 => exact absurd e1 (hx _ ρ x ρ2)
    | ok u ρ2 =>
      simp only [loopS] at h
      rw [bnd_ok e1] at h
      refine ⟨B2, ρ, ds[i], st2.cf, rx, ρ2, e1, fun σ3 B3 H3 st3 _ _ _ => ?_⟩
      have st := st2.trans st3
      refine ⟨B3, ρ2, st.cf, ?_⟩
      have hh := h.from st
      have sB3 : FSame B1 B3 := sB.trans st.bb
      cases eb : fb ρ2 with
      | no =>
        rw [bnd_no eb] at hh
        exact hh.elim
      | ex x ρ4 =>
        rw [bnd_ex eb] at hh
        exact hh
      | ok o ρ4 =>
        rw [bnd_ok eb] at hh
        cases o with
        | nx => exact fun σ' B' H' s4 => ⟨B', ρ4, s4.cf, sB3.trans s4.bb, hh.from s4⟩
        | ct => exact fun σ' B' H' s4 => ⟨B', ρ4, s4.cf, sB3.trans s4.bb, hh.from s4⟩
        | bk => exact hh
        | rt d => exact hh
        | rn i => exact hh
  · have e : i = ds.length := by omega
    subst e
    rw [List.drop_length] at h
    exact .inl ⟨ys.stop H (sB.h.trans c.bh), h _ _ _ (Step.refl c)⟩
/-! ### while -/
def wN (t : M Bool) (b : M Out) : Nat → M Out
  | 0 => fun _ => .no
  | n + 1 => t >>= fun c => if c then b >>= fun o => match o with
      | .nx => wN t b n
      | .ct => wN t b n
      | .bk => M.ret .nx
      | .rt d => M.ret (.rt d)
      | .rn i => M.ret (.rn i)
    else M.ret .nx
open Classical in
noncomputable def whileS (t : M Bool) (b : M Out) : M Out := fun ρ => if h : ∃ n, wN t b n ρ ≠ .no then wN t b (Classical.choose h) ρ else .no
theorem sd_while {t : Expr} {ft : M Bool} (hp : PassesOwn (model X.prog X.w) X.A X.env X.xe) (ht : PT X t (tT X.K E ft)) (hb : PSs X body (tS X.K E fb)) : PS X (.While t body [] pos) (tS X.K E (whileS ft fb)) := by
  refine ps_weak (ps_while hp ht hb) fun Dn σ0 H0 ⟨B0, ρ0, c0, h0⟩ => ?_
  unfold whileS at h0
  split at h0
  · rename_i hn
    generalize Classical.choose hn = n0 at h0
    refine ⟨fun m σ H => ∃ B ρ, Cf X.K B H σ ρ ∧ AtS X.K E σ B H ρ Dn (wN ft fb m ρ), ⟨n0, B0, ρ0, c0, h0⟩, ?_⟩
    rintro m σ H ⟨B, ρ, c, h⟩
    cases m with
    | zero => exact h.elim
    | succ m =>
      simp only [wN] at h
      refine ⟨B, ρ, c, h.seq.imp ?_⟩
      rintro d ρ' x B' H1 - - - ⟨d, B1, ρ1, st1, rx, h1⟩
      have e : d = x := rx
      subst e
      cases d with
      | false => exact iteF (h1 _ _ _ st1)
      | true =>
        refine iteT ⟨fun σ' H' => ∃ B' ρ', Cf X.K B' H' σ' ρ' ∧ AtS X.K E σ' B' H' ρ' Dn (wN ft fb m ρ'), fun σ' H' ⟨B', ρ', z⟩ => ⟨m, Nat.lt_succ_self m, B', ρ', z⟩, B1, ρ1, st1.cf, ?_⟩
        have hh := h1.from st1
        simp only [if_true] at hh
        cases eb : fb ρ1 with
        | no =>
          rw [bnd_no eb] at hh
          exact hh.elim
        | ex x ρ4 =>
          rw [bnd_ex eb] at hh
          exact hh
        | ok o ρ4 =>
          rw [bnd_ok eb] at hh
          cases o with
          | nx => exact fun σ' B' H' s4 => ⟨B', ρ4, s4.cf, hh.from s4⟩
          | ct => exact fun σ' B' H' s4 => ⟨B', ρ4, s4.cf, hh.from s4⟩
          | bk => exact hh
          | rt d => exact hh
          | rn i => exact hh
  · exact h0.elim
end
end Nc

/-! List comprehensions. -/
namespace Nc
open PySem PySem.Spec PyProof.Rows L2

def wipeR (ρ : Rho) : List Nat → Rho
  | [] => ρ
  | v :: vs => (wipeR ρ vs).set v none
theorem wipeR_length (ρ : Rho) : ∀ vs : List Nat, (wipeR ρ vs).length = ρ.length
  | [] => rfl
  | v :: vs => by unfold wipeR; rw [Rho.length_set, wipeR_length ρ vs]
theorem wipe_at {σ : L2.St} {j : Nat} : ∀ {vs : List Nat}, j ∉ vs → (wipe σ vs)[j]? = σ[j]?
  | [], _ => rfl
  | v :: vs, h => by
    rw [List.mem_cons, not_or] at h
    unfold wipe
    rw [List.getElem?_set_ne (Ne.symm h.1), wipe_at h.2]
theorem wipe_in {σ : L2.St} {j : Nat} : ∀ {vs : List Nat}, j ∈ vs → j < σ.length → (wipe σ vs)[j]? = some none
  | v :: vs, h, l => by
    unfold wipe
    by_cases e : v = j
    · subst e
      rw [List.getElem?_set_self (by rw [wipe_length]; exact l)]
    · rw [List.getElem?_set_ne e]
      exact wipe_in (by rcases List.mem_cons.mp h with z | z; exact absurd z.symm e; exact z) l
theorem wipeR_g (ρ : Rho) : ∀ vs : List Nat, (wipeR ρ vs).g = ρ.g
  | [] => rfl
  | v :: vs => wipeR_g ρ vs
theorem Rho.get_none {ρ : Rho} {i : Nat} (h : ρ.length ≤ i) : ρ[i]? = none := List.getElem?_eq_none h
theorem wipeR_at {σ : Rho} {j : Nat} : ∀ {vs : List Nat}, j ∉ vs → (wipeR σ vs)[j]? = σ[j]?
  | [], _ => rfl
  | v :: vs, h => by
    rw [List.mem_cons, not_or] at h
    unfold wipeR
    rw [Rho.get_set_ne (Ne.symm h.1), wipeR_at h.2]
theorem wipeR_in {σ : Rho} {j : Nat} : ∀ {vs : List Nat}, j ∈ vs → j < σ.length → (wipeR σ vs)[j]? = some none
  | v :: vs, h, l => by
    unfold wipeR
    by_cases e : v = j
    · subst e
      rw [Rho.get_set_self (by rw [wipeR_length]; exact l)]
    · rw [Rho.get_set_ne e]
      exact wipeR_in (by rcases List.mem_cons.mp h with z | z; exact absurd z.symm e; exact z) l
theorem wipe_same {σ σ' : L2.St} {vs ts : List Nat} (hts : ∀ i ∈ ts, i ∈ vs) (hl : σ'.length = σ.length) (h : ∀ j, j ∉ ts → σ'[j]? = (wipe σ vs)[j]?) : wipe σ' vs = wipe σ vs := by
  refine List.ext_getElem? fun j => ?_
  by_cases hj : j ∈ vs
  · by_cases l : j < σ.length
    · rw [wipe_in hj (by rw [hl]; exact l), wipe_in hj l]
    · rw [List.getElem?_eq_none (by rw [wipe_length]; omega), List.getElem?_eq_none (by rw [wipe_length]; omega)]
  · rw [wipe_at hj, h j fun z => hj (hts j z)]
/-- behind a turn: the block's own slots as they were outside -/
def mixR (ρ ρ' : Rho) (vs : List Nat) : Rho := ⟨ρ'.l.mapIdx fun i s => if i ∈ vs then (ρ[i]?).getD none else s, ρ'.g⟩
theorem mixR_length (ρ ρ' : Rho) (vs : List Nat) : (mixR ρ ρ' vs).length = ρ'.length := by unfold mixR Rho.length; rw [List.length_mapIdx]
theorem mixR_at {ρ ρ' : Rho} {vs : List Nat} (hl : ρ'.length = ρ.length) (j : Nat) : (mixR ρ ρ' vs)[j]? = if j ∈ vs then ρ[j]? else ρ'[j]? := by
  show (ρ'.l.mapIdx _)[j]? = _
  rw [List.getElem?_mapIdx]
  have hl : ρ'.l.length = ρ.l.length := hl
  rw [Rho.get_l, Rho.get_l]
  by_cases l : j < ρ.l.length
  · rw [List.getElem?_eq_getElem (show j < ρ'.l.length by omega), List.getElem?_eq_getElem l]
    by_cases h : j ∈ vs
    · simp [h]
    · simp [h]
  · rw [List.getElem?_eq_none (show ρ'.l.length ≤ j by omega), List.getElem?_eq_none (show ρ.l.length ≤ j by omega)]
    simp
section
variable {K : PySem.W.Frag} {σ σ3 : L2.St} {B B3 : Fz} {H H3 : Hp} {ρ ρ3 : Rho} {vs : List Nat}
theorem own_wipe {p : Addr} {i : Ix} (h : OwnAt (wipe σ vs) B (wipeR ρ vs) i p) (hl : σ.length = ρ.length) : OwnAt σ B ρ i p ∧ ∀ k ∈ vs, i ≠ .s k := by
  cases i with
  | c n =>
    obtain ⟨⟨o, e⟩, e2⟩ := h
    rw [wipeR_g] at e
    exact ⟨⟨⟨o, e⟩, e2⟩, fun k _ z => by cases z⟩
  | s i =>
    obtain ⟨⟨o, e⟩, e2⟩ := h
    by_cases hi : i ∈ vs
    · by_cases l : i < ρ.length
      · rw [wipeR_in hi l] at e
        cases e
      · rw [Rho.get_none (by rw [wipeR_length]; omega)] at e
        cases e
    · rw [wipeR_at hi] at e
      rw [wipe_at hi] at e2
      exact ⟨⟨⟨o, e⟩, e2⟩, fun k hk z => hi (by injection z with z; rw [z]; exact hk)⟩
/-- into the block -/
theorem Cf.wiped (c : Cf K B H σ ρ) : Cf K B H (wipe σ vs) (wipeR ρ vs) where
  bh := c.bh
  len := by rw [wipe_length, wipeR_length]; exact c.len
  at_ := fun i s e => by
    by_cases hi : i ∈ vs
    · by_cases l : i < ρ.length
      · rw [wipeR_in hi l] at e
        cases e
        trivial
      · rw [Rho.get_none (by rw [wipeR_length]; omega)] at e
        cases e
    · rw [wipeR_at hi] at e
      rw [wipe_at hi]
      exact c.at_ i s e
  sep := fun i j p h1 h2 => c.sep i j p (own_wipe h1 c.len).1 (own_wipe h2 c.len).1
  cl := by rw [wipeR_g]; exact c.cl
/-- out of the block -/
theorem Step.unwiped (c : Cf K B H σ ρ) (st : Step K (wipe σ vs) B H (wipeR ρ vs) σ3 B3 H3 ρ3) (hw : wipe σ3 vs = wipe σ vs) : Step K σ B H ρ σ B3 H3 (mixR ρ ρ3 vs) := by
  have l3 : σ3.length = σ.length := by
    have := congrArg List.length hw
    rw [wipe_length, wipe_length] at this
    exact this
  have lr : ρ3.length = ρ.length := by rw [← st.cf.len, l3, c.len]
  have sub : ∀ b, OwnA (wipe σ vs) B (wipeR ρ vs) b → OwnA σ B ρ b := fun b ⟨i, z⟩ => ⟨i, (own_wipe z c.len).1⟩
  have at3 : ∀ j, j ∉ vs → σ3[j]? = σ[j]? := fun j hj => by
    have := congrArg (fun l => l[j]?) hw
    simp only [wipe_at hj] at this
    exact this
  -- an own object that the block did not see
  have hid : ∀ i p, i ∈ vs → OwnAt σ B ρ (.s i) p → ¬ OwnA (wipe σ vs) B (wipeR ρ vs) p := fun i p hi z ⟨j, y⟩ => by
    obtain ⟨y, hj⟩ := own_wipe y c.len
    exact hj i hi (c.sep j (.s i) p y z)
  have own3 : ∀ i p, OwnAt σ B3 (mixR ρ ρ3 vs) i p → (∃ k, k ∈ vs ∧ i = .s k ∧ OwnAt σ B ρ i p) ∨ OwnAt σ3 B3 ρ3 i p := fun i p w => by
    cases i with
    | c n => exact .inr w
    | s i =>
      obtain ⟨⟨o, e⟩, e2⟩ := w
      rw [mixR_at lr] at e
      by_cases hi : i ∈ vs
      · rw [if_pos hi] at e
        exact .inl ⟨i, hi, rfl, ⟨o, e⟩, e2⟩
      · rw [if_neg hi] at e
        rw [← at3 i hi] at e2
        exact .inr ⟨⟨o, e⟩, e2⟩
  refine ⟨⟨st.cf.bh, by rw [mixR_length, lr, c.len], fun i s e => ?_, fun i j p h1 h2 => ?_, st.cf.cl⟩, st.bb, fun b o e n => st.keep b o e fun z => n (sub b z), st.there, fun b q n => (st.new b q n).imp_right (sub b), fun b ⟨i, z⟩ => ?_⟩
  · rw [mixR_at lr] at e
    by_cases hi : i ∈ vs
    · rw [if_pos hi] at e
      have q := c.at_ i s e
      cases s with
      | none => trivial
      | some s =>
        cases s with
        | val d =>
          obtain ⟨x, h1, h2⟩ := q
          exact ⟨x, h1, h2.mono st.bb⟩
        | own o =>
          obtain ⟨p, u, e1, b1, k1, r1, oa⟩ := c.own e
          have no := hid i p hi oa
          refine ⟨p, u, by rw [e1]; rfl, ?_, st.keep p u k1 no, r1.mono st.bb⟩
          refine Classical.byContradiction fun y => ?_
          rcases st.new p y b1 with z | z
          · rw [k1] at z
            cases z
          · exact no z
    · rw [if_neg hi] at e
      have q := st.cf.at_ i s e
      rw [at3 i hi] at q
      exact q
  · rcases own3 i p h1 with ⟨k1, m1, rfl, y1⟩ | y1
    · rcases own3 j p h2 with ⟨k2, m2, rfl, y2⟩ | y2
      · exact c.sep _ _ p y1 y2
      · rcases st.own p ⟨j, y2⟩ with z | z
        · exact absurd z (hid k1 p m1 y1)
        · obtain ⟨_, q⟩ := y1.not_frozen c
          exact absurd z q
    · rcases own3 j p h2 with ⟨k2, m2, rfl, y2⟩ | y2
      · rcases st.own p ⟨i, y1⟩ with z | z
        · exact absurd z (hid k2 p m2 y2)
        · obtain ⟨_, q⟩ := y2.not_frozen c
          exact absurd z q
      · exact st.cf.sep i j p y1 y2
  · rcases own3 i b z with ⟨_, _, rfl, y⟩ | y
    · exact .inl ⟨_, y⟩
    · rcases st.own b ⟨i, y⟩ with q | q
      · exact .inl (sub b q)
      · exact .inr q
/-- an object that no slot knows is changed -/
theorem Step.poke {K : PySem.W.Frag} {σ : L2.St} {B : Fz} {H : Hp} {ρ : Rho} (c : Cf K B H σ ρ) {p : Addr} (hB : B p = Option.none) (no : ¬ OwnA σ B ρ p) (u : HO) : Cf K B (upd H p u) σ ρ := by
  refine ⟨fun b w q => ?_, c.len, fun i s e => ?_, c.sep, c.cl.put' fun n o h1 z => no ⟨.c n, ⟨o, h1⟩, z⟩⟩
  · rw [upd_ne (ne_of_none q hB)]
    exact c.bh b w q
  · have q := c.at_ i s e
    cases s with
    | none => trivial
    | some s =>
      cases s with
      | val d => exact q
      | own o =>
        obtain ⟨p', u', e1, b1, k1, r1, oa⟩ := c.own e
        have np : p' ≠ p := fun y => by
          subst y
          exact no ⟨_, oa⟩
        exact ⟨p', u', by rw [e1]; rfl, b1, by rw [upd_ne np]; exact k1, r1⟩
end
theorem Step.pokeS {K : PySem.W.Frag} {σ σ1 : L2.St} {B B1 : Fz} {H H1 : Hp} {ρ ρ1 : Rho} (st : Step K σ B H ρ σ1 B1 H1 ρ1) {p : Addr} (hp : H p = Option.none) (hB : B1 p = Option.none) (no : ¬ OwnA σ1 B1 ρ1 p) (u : HO) : Step K σ B H ρ σ1 B1 (upd H1 p u) ρ1 where
  cf := Step.poke st.cf hB no u
  bb := st.bb
  keep := fun b o e n => by
    rw [upd_ne (ne_of_none e hp)]
    exact st.keep b o e n
  there := fun b e => by
    by_cases hb : b = p
    · subst hb
      exact absurd hp e
    · rw [upd_ne hb]
      exact st.there b e
  new := st.new
  own := st.own

/-- nothing is raised in a block -/
def noX {α : Type} (f : M α) : M α := fun ρ => match f ρ with
  | .ok a ρ' => .ok a ρ'
  | _ => .no
abbrev EN : WX := fun _ _ _ _ => False
/-- one turn of a comprehension's block -/
def turnM (bnd : D → M Unit) (tt : M Bool) (el : M D) (vs : List Nat) (d : D) : M (Option D) := fun ρ =>
  match (bnd d >>= fun _ => tt >>= fun b => if b then el >>= fun z => M.ret (some z) else M.ret none) (wipeR ρ vs) with
  | .ok r ρ' => .ok r (mixR ρ ρ' vs)
  | _ => .no
def addO (acc : List D) : Option D → List D
  | some z => acc ++ [z]
  | none => acc
def M.bad {α : Type} : M α := fun _ => .no
def lcLoop (bnd : D → M Unit) (tt : M Bool) (el : M D) (vs : List Nat) : List D → List D → M (List D)
  | [], acc => M.ret acc
  | d :: ds, acc => if acc.length < sizeLine then turnM bnd tt el vs d >>= fun r => lcLoop bnd tt el vs ds (addO acc r) else M.bad
def lcM (src : M (List D)) (bnd : D → M Unit) (tt : M Bool) (el : M D) (vs : List Nat) : M O := src >>= fun ds => lcLoop bnd tt el vs ds [] >>= fun out => M.ret (.lst out)
section
variable {K : PySem.W.Frag} {E : WX} {bnd : D → M Unit} {tt : M Bool} {el : M D} {vs ts : List Nat} {src : M (List D)}
theorem turnM_noex {d : D} {ρ : Rho} {x : Xn} {ρ' : Rho} : turnM bnd tt el vs d ρ ≠ .ex x ρ' := by
  unfold turnM
  split <;> simp only [ne_eq, reduceCtorEq, not_false_eq_true]
theorem lcLoop_noex : ∀ {ds acc : List D} {ρ : Rho} {x : Xn} {ρ' : Rho}, lcLoop bnd tt el vs ds acc ρ ≠ .ex x ρ'
  | [], acc, ρ, x, ρ' => by simp only [lcLoop, M.ret, ne_eq, reduceCtorEq, not_false_eq_true]
  | d :: ds, acc, ρ, x, ρ' => by
    simp only [lcLoop]
    by_cases hz : acc.length < sizeLine
    · rw [if_pos hz]
      cases e : turnM bnd tt el vs d ρ with
      | no => rw [bnd_no e]; simp only [ne_eq, reduceCtorEq, not_false_eq_true]
      | ex y ρ2 => exact absurd e turnM_noex
      | ok r ρ2 =>
        rw [bnd_ok e]
        exact lcLoop_noex
    · rw [if_neg hz]
      unfold M.bad
      simp only [ne_eq, reduceCtorEq, not_false_eq_true]
/-- the reading of a list comprehension -/
theorem lc_read {wi : TI} {g : TG} {t : TT} {te : TE} (hts : ∀ i ∈ ts, i ∈ vs) (hx : ∀ d ρ x ρ', bnd d ρ ≠ .ex x ρ') (ki : ∀ σ H Q, tI K E src σ H Q → wi σ H Q) (kg : ∀ v σ H Q, gD K ts bnd v σ H Q → g v σ H Q) (kt : ∀ σ H Q, tT K EN tt σ H Q → t σ H Q) (ke : ∀ σ H Q, tD K EN el σ H Q → te σ H Q) :
    ∀ σ H Q, tN K E (lcM src bnd tt el vs) σ H Q → tLc wi g t te vs σ H Q := by
  rintro σ H0 Q ⟨B0, ρ0, c0, h0⟩
  refine ki _ _ _ ⟨B0, ρ0, c0, h0.seq.imp ?_⟩
  rintro - - J - H1 - - - ⟨ds, B1, ρ1, st1, ys, h1⟩
  have ys : Yields K B1 J ds := ys
  intro L hL
  -- what holds ahead of turn i: the list so far at L, which no slot knows
  refine ⟨fun i m H => m = ds.length - i ∧ i ≤ ds.length ∧ ∃ (B : Fz) (ρ : Rho) (acc : List D) (xs : List V), Step K σ B1 H1 ρ1 σ B H ρ ∧ B L = none ∧ ¬ OwnA σ B ρ L ∧ H L = some (.lst xs) ∧ Reps K B acc xs ∧
      At K E (RN K) σ B1 H1 ρ1 Q ((lcLoop bnd tt el vs (ds.drop i) acc >>= fun out => M.ret (O.lst out)) ρ),
    ⟨ds.length, by simp, Nat.zero_le _, B1, ρ1, [], [], (Step.refl st1.cf).pokeS hL (st1.cf.unfrozen hL) (own_not_new st1.cf hL) _, st1.cf.unfrozen hL, own_not_new st1.cf hL, upd_same, Reps.nil, h1⟩, ?_⟩
  rintro i m H ⟨rfl, hi, B, ρ, acc, xs, st, nB, no, hH, ra, h⟩
  have c := st.cf
  have sB := st.bb
  by_cases hlt : i < ds.length
  · refine .inr ⟨ys.go i H hlt (sB.h.trans c.bh), fun H' => ∃ (B : Fz) (ρ : Rho) (acc : List D) (xs : List V), Step K σ B1 H1 ρ1 σ B H' ρ ∧ B L = none ∧ ¬ OwnA σ B ρ L ∧ H' L = some (.lst xs) ∧ Reps K B acc xs ∧
      At K E (RN K) σ B1 H1 ρ1 Q ((lcLoop bnd tt el vs (ds.drop (i + 1)) acc >>= fun out => M.ret (O.lst out)) ρ), fun H' z => ⟨ds.length - (i + 1), by omega, rfl, hlt, z⟩, fun x H2 hy => ?_⟩
    have hd : ds[i]? = some ds[i] := List.getElem?_eq_getElem hlt
    rw [List.drop_eq_getElem_cons hlt] at h
    simp only [lcLoop] at h
    by_cases hz : acc.length < sizeLine
    · rw [if_pos hz] at h
      -- the item
      obtain ⟨B2, st2, rx⟩ : ∃ B2, Step K σ B H ρ σ B2 H2 ρ ∧ Rep K B2 ds[i] x := by
        rcases ys.yld i _ H x H2 hd (sB.h.trans c.bh) hy with ⟨rfl, r⟩ | ⟨p, o, hp, rfl, r⟩
        · exact ⟨B, Step.refl c, r.mono sB⟩
        · exact ⟨Fz.upd B p o, c.laid hp o, r.mono (sB.up2 p o)⟩
      -- what the turn gives
      have hturn : ∃ r ρ', turnM bnd tt el vs ds[i] ρ = .ok r ρ' := by
        cases e : turnM bnd tt el vs ds[i] ρ with
        | no =>
          have e2 : (turnM bnd tt el vs ds[i] >>= fun r => lcLoop bnd tt el vs (ds.drop (i + 1)) (addO acc r)) ρ = .no := bnd_no e
          rw [bnd_no e2] at h
          exact h.elim
        | ex y ρ2 => exact absurd e turnM_noex
        | ok r ρ2 => exact ⟨r, ρ2, rfl⟩
      obtain ⟨r, ρ', er⟩ := hturn
      have h' : At K E (RN K) σ B1 H1 ρ1 Q ((lcLoop bnd tt el vs (ds.drop (i + 1)) (addO acc r) >>= fun out => M.ret (O.lst out)) ρ') := by
        have e2 : (turnM bnd tt el vs ds[i] >>= fun r => lcLoop bnd tt el vs (ds.drop (i + 1)) (addO acc r)) ρ = lcLoop bnd tt el vs (ds.drop (i + 1)) (addO acc r) ρ' := bnd_ok er
        have e3 : ((turnM bnd tt el vs ds[i] >>= fun r => lcLoop bnd tt el vs (ds.drop (i + 1)) (addO acc r)) >>= fun out => M.ret (O.lst out)) ρ = (lcLoop bnd tt el vs (ds.drop (i + 1)) (addO acc r) >>= fun out => M.ret (O.lst out)) ρ' := by
          show M.bnd _ _ ρ = M.bnd _ _ ρ'
          unfold M.bnd
          rw [e2]
        rw [e3] at h
        exact h
      clear h
      unfold turnM at er
      split at er
      · rename_i r2 ρ3 eblk
        cases er
        -- through the block
        have cw : Cf K B2 H2 (wipe σ vs) (wipeR ρ vs) := st2.cf.wiped
        have noL2 : ∀ {B3 H3 σ3 ρ3}, Step K (wipe σ vs) B2 H2 (wipeR ρ vs) σ3 B3 H3 ρ3 → wipe σ3 vs = wipe σ vs → H3 L = some (.lst xs) ∧ B3 L = none ∧ Step K σ B1 H1 ρ1 σ B3 H3 (mixR ρ ρ3 vs) ∧ ¬ OwnA σ B3 (mixR ρ ρ3 vs) L := fun {B3 H3 σ3 ρ3} s3 hw => by
          have h2L : H2 L = some (.lst xs) := st2.keep L _ hH no
          have no2 : ¬ OwnA σ B ρ L := no
          have now : ¬ OwnA (wipe σ vs) B2 (wipeR ρ vs) L := fun ⟨j, z⟩ => (st2.own L ⟨j, (own_wipe z st2.cf.len).1⟩).elim no2 fun q => by
            rw [hH] at q
            cases q
          have b2L : B2 L = none := Classical.byContradiction fun y => by
            rcases st2.new L y nB with z | z
            · rw [hH] at z
              cases z
            · exact no z
          have s4 := s3.unwiped st2.cf hw
          refine ⟨s3.keep L _ h2L now, Classical.byContradiction fun y => ?_, (st.trans st2).trans s4, fun z => ?_⟩
          · rcases s3.new L y b2L with z | z
            · rw [h2L] at z
              cases z
            · exact now z
          · rcases s4.own L z with q | q
            · exact (st2.own L q).elim no fun q => by
                rw [hH] at q
                cases q
            · rw [h2L] at q
              cases q
        cases e1 : bnd ds[i] (wipeR ρ vs) with
        | no =>
          rw [bnd_no e1] at eblk
          cases eblk
        | ex y ρ4 => exact absurd e1 (hx _ _ y ρ4)
        | ok u ρ4 =>
          rw [bnd_ok e1] at eblk
          refine kg _ _ _ _ ⟨B2, wipeR ρ vs, ds[i], cw, rx, ρ4, e1, fun σ3 B3 H3 s3 hl hj _ => ?_⟩
          have hw : wipe σ3 vs = wipe σ vs := wipe_same hts (by rw [hl, wipe_length]) hj
          refine ⟨hw, kt _ _ _ ⟨B3, ρ4, s3.cf, ?_⟩⟩
          cases e2 : tt ρ4 with
          | no =>
            rw [bnd_no e2] at eblk
            cases eblk
          | ex y ρ5 =>
            rw [bnd_ex e2] at eblk
            cases eblk
          | ok b ρ5 =>
            rw [bnd_ok e2] at eblk
            intro b' B4 H4 s4 rb
            have eb : b = b' := rb
            subst eb
            have hs4 := s3.trans s4
            cases b with
            | false =>
              simp only [Bool.false_eq_true, if_false] at eblk
              cases eblk
              refine iteF ?_
              obtain ⟨q1, q2, q3, q4⟩ := noL2 hs4 hw
              exact ⟨B4, _, acc, xs, q3, q2, q4, q1, ra.mono (st2.bb.trans hs4.bb), h'⟩
            | true =>
              simp only [if_true] at eblk
              refine iteT (ke _ _ _ ⟨B4, ρ5, s4.cf, ?_⟩)
              cases e3 : el ρ5 with
              | no =>
                rw [bnd_no e3] at eblk
                cases eblk
              | ex y ρ6 =>
                rw [bnd_ex e3] at eblk
                cases eblk
              | ok z ρ6 =>
                rw [bnd_ok e3] at eblk
                cases eblk
                intro y B5 H5 s5 ry
                have ry : Rep K B5 z y := ry
                have hs5 := hs4.trans s5
                obtain ⟨q1, q2, q3, q4⟩ := noL2 hs5 hw
                have ra5 := ra.mono (st2.bb.trans hs5.bb)
                refine ⟨xs, q1, by rw [← ra.length]; exact hz, B5, _, acc ++ [z], xs ++ [y], q3.pokeS hL q2 q4 _, q2, q4, upd_same, ra5.append (Reps.cons ry Reps.nil), h'⟩
      · cases er
    · rw [if_neg hz] at h
      exact h.elim
  · have e : i = ds.length := by omega
    subst e
    rw [List.drop_length] at h
    refine .inl ⟨ys.stop H (sB.h.trans c.bh), ?_⟩
    exact h _ _ _ st ⟨L, .lst xs, rfl, hL, nB, hH, ⟨xs, rfl, ra⟩, no⟩
end
section
variable {X : Cx} {E : WX} {elt tg iter : Expr} {ifs : List Expr} {scope : Scope} {own : List (Str × Nat)} {pos : Pos} {bnd : D → M Unit} {tt : M Bool} {el : M D} {ts : List Nat} {src : M (List D)}
theorem pn_lc (hc : X.calm = true) (hN : X.N.Nodup) (hi : PI X tg iter (tI X.K E src)) (ok : BlkOk X.N X.env.scope scope own) (hts : ∀ i ∈ ts, i ∈ own.map (·.2)) (hx : ∀ d ρ x ρ', bnd d ρ ≠ .ex x ρ')
    (hg : ∀ (s : Shared) (H : Hp) (C : Addr) (cl : List (Str × Addr)) (fp : List Addr), PG (X.blk s H scope (compEnvC scope cl C X.env) fp) tg (gD X.K ts bnd)) (ht : ∀ (s : Shared) (H : Hp) (C : Addr) (cl : List (Str × Addr)) (fp : List Addr), PTs (X.blk s H scope (compEnvC scope cl C X.env) fp) ifs (tT X.K EN tt))
    (he : ∀ (s : Shared) (H : Hp) (C : Addr) (cl : List (Str × Addr)) (fp : List Addr), PE (X.blk s H scope (compEnvC scope cl C X.env) fp) elt (tD X.K EN el)) (hs : ∀ x, foldedSetIterable iter X.env x = pure x := by intro _; rfl) :
    PE X (.ListComp elt [⟨tg, iter, ifs, 0⟩] scope pos) (tN X.K E (lcM src bnd tt el (own.map (·.2)))) :=
  pe_weak (pe_lc hc hN hi ok hg ht he hs) (lc_read hts hx (fun _ _ _ h => h) (fun _ _ _ _ h => h) (fun _ _ _ h => h) fun _ _ _ h => h)
theorem pts_nilD : PTs X [] (tT X.K E (M.ret true)) := by
  have h := pts_nil (X := X)
  exact ⟨fun pins s σ H Q I q => h.run pins s σ H Q I (by obtain ⟨B, ρ, c, a⟩ := q; exact a.here c rfl)⟩
theorem pts_oneD {c : Expr} {f : M Bool} (h : PT X c (tT X.K E f)) : PTs X [c] (tT X.K E f) := pts_one h
end
end Nc

/-! What a def does as a function on trees and cells; its promise; its call; its body. -/
namespace Nc
open PySem PySem.Spec PyProof.Rows L2

inductive Rf where
  | no | ok (d : D) (g : Cells) | new (o : O) (g : Cells) | ex (e : Xn) (g : Cells)
abbrev Fn := List D → Cells → Rf
abbrev vals (ds : List D) : List (Option Slot) := ds.map fun d => some (Slot.val d)
section
variable (K : PySem.W.Frag)
def spAt (vs : List V) (B : Fz) (H : Hp) (ds : List D) (g : Cells) (Q : VK) (E : XK) : Rf → Prop
  | .no => False
  | .ok d g' => ∀ v B' H', Step K (vs.map some) B H ⟨vals ds, g⟩ (vs.map some) B' H' ⟨vals ds, g'⟩ → Rep K B' d v → Q v H'
  | .new o g' => ∀ v B' H', Step K (vs.map some) B H ⟨vals ds, g⟩ (vs.map some) B' H' ⟨vals ds, g'⟩ → RN K H (vs.map some) B' H' ⟨vals ds, g'⟩ o v → Q v H'
  | .ex e g' => ∀ oc B' H', Step K (vs.map some) B H ⟨vals ds, g⟩ (vs.map some) B' H' ⟨vals ds, g'⟩ → RepX K B' H' e oc → E (.ref e.C) oc H'
/-- the promise: it does what F says -/
def spD (F : Fn) : Sp := fun vs H Q E => ∃ B ds g, Cf K B H (vs.map some) ⟨vals ds, g⟩ ∧ spAt K vs B H ds g Q E (F ds g)
end
theorem spD_imp {K : PySem.W.Frag} {F G : Fn} (h : ∀ ss g r, G ss g = r → r ≠ .no → F ss g = r) : ∀ vs H Q E, spD K G vs H Q E → spD K F vs H Q E := by
  rintro vs H Q E ⟨B, ds, g, c, k⟩
  refine ⟨B, ds, g, c, ?_⟩
  cases e : G ds g with
  | no =>
    rw [e] at k
    exact k.elim
  | _ =>
    rw [h ds g _ e (fun z => by cases z)]
    rw [e] at k
    exact k
theorem spD_len {K : PySem.W.Frag} {F : Fn} {n : Nat} (h : ∀ ds g, F ds g ≠ .no → ds.length = n) : ∀ vs H Q E, spD K F vs H Q E → vs.length = n := by
  rintro vs H Q E ⟨B, ds, g, c, k⟩
  have l : (vs.map some).length = (vals ds).length := c.len
  rw [List.length_map, List.length_map] at l
  rw [l]
  refine h ds g fun z => ?_
  rw [z] at k
  exact k

/-! ### the body -/
def startR (n : Nat) (ds : List D) (g : Cells) : Rho := ⟨vals ds ++ List.replicate (n - ds.length) none, g⟩
/-- what a def leaves -/
def endB : Rs Out → Rf
  | .ok (.rt d) ρ => .ok d ρ.g
  | .ok (.rn i) ρ => match ρ[i]? with
    | some (some (.own o)) => .new o ρ.g
    | _ => .no
  | .ok .nx ρ => .ok .non ρ.g
  | .ex e ρ => .ex e ρ.g
  | _ => .no
/-- what a def with n names and the body h does -/
def runB (n k : Nat) (h : M Out) : Fn := fun ds g => if ds.length = k then endB (h (startR n ds g)) else .no
section
variable {K : PySem.W.Frag} {vs : List V} {B B' : Fz} {H H' : Hp} {ds : List D} {g : Cells} {N : List Str} {σ' : L2.St} {ρ' : Rho}
theorem vals_at {i : Nat} {s : Option Slot} (h : (vals ds)[i]? = some s) : ∃ d, ds[i]? = some d ∧ s = some (.val d) := by
  rw [List.getElem?_map] at h
  obtain ⟨d, e1, e2⟩ := Option.map_eq_some_iff.mp h
  exact ⟨d, e1, e2.symm⟩
theorem startR_val {n i : Nat} {s : Slot} (e : (startR n ds g)[i]? = some (some s)) : i < ds.length ∧ ∃ d, ds[i]? = some d ∧ s = .val d := by
  have e : (vals ds ++ List.replicate (n - ds.length) none)[i]? = some (some s) := e
  by_cases hi : i < ds.length
  · rw [List.getElem?_append_left (by rw [List.length_map]; exact hi)] at e
    obtain ⟨d, e1, e2⟩ := vals_at e
    exact ⟨hi, d, e1, Option.some.inj e2⟩
  · rw [List.getElem?_append_right (by rw [List.length_map]; omega), List.getElem?_replicate] at e
    split at e
    · cases e
    · cases e
theorem start_at {i : Nat} (hi : i < vs.length) : (L2.start N vs)[i]? = (vs.map some)[i]? := by
  unfold L2.start
  rw [List.getElem?_append_left (by rw [List.length_map]; exact hi)]
theorem own_start {σ : L2.St} {n : Nat} {i : Ix} {p : Addr} : OwnAt σ B (startR n ds g) i p ↔ ∃ m, i = .c m ∧ (∃ o, g[m]? = some o) ∧ B.π m = some p := by
  cases i with
  | c m => exact ⟨fun ⟨a, b⟩ => ⟨m, rfl, a, b⟩, fun ⟨m', e, a, b⟩ => by cases e; exact ⟨a, b⟩⟩
  | s m =>
    constructor
    · rintro ⟨⟨o, e⟩, _⟩
      obtain ⟨_, d, _, e2⟩ := startR_val e
      cases e2
    · rintro ⟨m', e, _⟩
      cases e
theorem own_vals {σ : L2.St} {i : Ix} {p : Addr} : OwnAt σ B ⟨vals ds, g⟩ i p ↔ ∃ m, i = .c m ∧ (∃ o, g[m]? = some o) ∧ B.π m = some p := by
  cases i with
  | c m => exact ⟨fun ⟨a, b⟩ => ⟨m, rfl, a, b⟩, fun ⟨m', e, a, b⟩ => by cases e; exact ⟨a, b⟩⟩
  | s m =>
    constructor
    · rintro ⟨⟨o, e⟩, _⟩
      obtain ⟨d, _, e2⟩ := vals_at e
      cases e2
    · rintro ⟨m', e, _⟩
      cases e
/-- a place with trees alone -/
theorem Cf.plain {σ : L2.St} {ρ : Rho} (c : Cf K B H σ ρ) {vs : List V} {ds : List D} (r : Reps K B ds vs) : Cf K B H (vs.map some) ⟨vals ds, ρ.g⟩ := by
  refine ⟨c.bh, by show (vs.map some).length = (vals ds).length; rw [List.length_map, List.length_map, r.length], fun i s e => ?_, fun i j p h1 h2 => ?_, c.cl⟩
  · obtain ⟨d, e1, rfl⟩ := vals_at e
    obtain ⟨v, e2, rv⟩ := r.get e1
    exact ⟨v, by rw [List.getElem?_map, e2]; rfl, rv⟩
  · obtain ⟨m, rfl, a1, a2⟩ := own_vals.mp h1
    obtain ⟨m', rfl, b1, b2⟩ := own_vals.mp h2
    exact c.sep (.c m) (.c m') p ⟨a1, a2⟩ ⟨b1, b2⟩
theorem Cf.start (c : Cf K B H (vs.map some) ⟨vals ds, g⟩) : Cf K B H (L2.start N vs) (startR N.length ds g) := by
  have hl : vs.length = ds.length := by
    have : (vs.map some).length = (vals ds).length := c.len
    rwa [List.length_map, List.length_map] at this
  refine ⟨c.bh, by show (L2.start N vs).length = (vals ds ++ List.replicate (N.length - ds.length) none).length; unfold L2.start; simp [hl], fun i s e => ?_, fun i j p h1 h2 => ?_, c.cl⟩
  · cases s with
    | none => trivial
    | some s =>
      obtain ⟨hi, d, e1, rfl⟩ := startR_val e
      rw [start_at (by omega)]
      exact c.at_ i (some (.val d)) (by show (vals ds)[i]? = _; rw [List.getElem?_map, e1]; rfl)
  · exact c.sep i j p (own_vals.mpr (own_start.mp h1)) (own_vals.mpr (own_start.mp h2))
/-- behind the body -/
theorem Step.finish (c : Cf K B H (vs.map some) ⟨vals ds, g⟩) (st : Step K (L2.start N vs) B H (startR N.length ds g) σ' B' H' ρ') : Step K (vs.map some) B H ⟨vals ds, g⟩ (vs.map some) B' H' ⟨vals ds, ρ'.g⟩ := by
  have oa : ∀ b, OwnA (L2.start N vs) B (startR N.length ds g) b ↔ OwnA (vs.map some) B ⟨vals ds, g⟩ b := fun b => ⟨fun ⟨i, z⟩ => ⟨i, own_vals.mpr (own_start.mp z)⟩, fun ⟨i, z⟩ => ⟨i, own_start.mpr (own_vals.mp z)⟩⟩
  have up : ∀ i b, OwnAt (vs.map some) B' ⟨vals ds, ρ'.g⟩ i b → OwnAt σ' B' ρ' i b := fun i b z => by
    obtain ⟨m, rfl, a1, a2⟩ := own_vals.mp z
    exact ⟨a1, a2⟩
  refine ⟨⟨st.cf.bh, c.len, fun i s e => ?_, fun i j p h1 h2 => st.cf.sep i j p (up i p h1) (up j p h2), st.cf.cl⟩, st.bb, fun b o e n => st.keep b o e fun z => n ((oa b).mp z), st.there, fun b q n => (st.new b q n).imp_right (oa b).mp, fun b ⟨i, z⟩ => (st.own b ⟨i, up i b z⟩).imp_left (oa b).mp⟩
  obtain ⟨d, e1, rfl⟩ := vals_at e
  obtain ⟨x, h1, h2⟩ := c.at_ i _ e
  exact ⟨x, h1, h2.mono st.bb⟩
/-- an own object at the end is new -/
theorem Step.fresh (st : Step K (L2.start N vs) B H (startR N.length ds g) σ' B' H' ρ') {i : Nat} {o : O} (e : ρ'[i]? = some (some (.own o))) {v : V} (ev : σ'[i]? = some (some v)) : RN K H (vs.map some) B' H' ⟨vals ds, ρ'.g⟩ o v := by
  obtain ⟨p, u, e1, b1, k1, r1, oa⟩ := st.cf.own e
  rw [ev] at e1
  cases e1
  have nc : ∀ m, B'.π m = some p → False := fun m hm => by
    have hl : m < ρ'.g.length := Nat.lt_of_not_le fun l => by
      rw [st.cf.cl.dom m l] at hm
      cases hm
    have := st.cf.sep (.c m) (.s i) p ⟨⟨_, List.getElem?_eq_getElem hl⟩, hm⟩ oa
    cases this
  refine ⟨p, u, rfl, ?_, b1, k1, r1, fun ⟨j, z⟩ => ?_⟩
  · rcases st.own p ⟨_, oa⟩ with ⟨j, z⟩ | z
    · obtain ⟨m, rfl, a1, a2⟩ := own_start.mp z
      exact (nc m (st.bb.π _ _ a2)).elim
    · exact z
  · obtain ⟨m, rfl, a1, a2⟩ := own_vals.mp z
    exact nc m a2
/-- THE RULE for a def's body -/
theorem body_end {X : Cx} {k : Nat} {h : M Out} {Q : VK} {E : XK} (hsp : spD K (runB N.length k h) vs H Q E) : tS K (fun cls d _ H => E cls d H) h { nx := fun _ H' => Q .non H', rt := Q } (L2.start N vs) H := by
  obtain ⟨B, ds, g, c, k0⟩ := hsp
  refine ⟨B, _, c.start, ?_⟩
  unfold runB at k0
  split at k0
  · cases e : h (startR N.length ds g) with
    | no =>
      rw [e] at k0
      exact k0
    | ex x ρ =>
      rw [e] at k0
      exact fun oc σ' B' H' st r => k0 oc B' H' (st.finish c) r
    | ok o ρ =>
      rw [e] at k0
      cases o with
      | nx => exact fun σ' B' H' st => k0 _ B' H' (st.finish c) (by simp only [Rep])
      | rt d => exact fun v σ' B' H' st r => k0 v B' H' (st.finish c) r
      | bk => exact k0.elim
      | ct => exact k0.elim
      | rn i =>
        simp only [endB] at k0
        split at k0
        · rename_i o q
          exact ⟨⟨o, q⟩, fun v σ' B' H' st ev => k0 v B' H' (st.finish c) (st.fresh q ev)⟩
        · exact k0.elim
  · exact k0.elim
theorem runB_len {n k : Nat} {h : M Out} {ds : List D} {g : Cells} (e : runB n k h ds g ≠ .no) : ds.length = k := by
  unfold runB at e
  split at e
  · assumption
  · exact absurd rfl e
end

/-! ### the call -/
def callM (F : Fn) (as : M (List D)) : M D := as >>= fun ds => fun ρ => match F ds ρ.g with
  | .no => .no
  | .ok d g => .ok d ⟨ρ.l, g⟩
  | .new o g => .ok o.frozen ⟨ρ.l, g⟩
  | .ex e g => .ex e ⟨ρ.l, g⟩
def callN (F : Fn) (as : M (List D)) : M O := as >>= fun ds => fun ρ => match F ds ρ.g with
  | .no => .no
  | .ok d g => .no
  | .new o g => .ok o ⟨ρ.l, g⟩
  | .ex e g => .ex e ⟨ρ.l, g⟩
section
variable {K : PySem.W.Frag} {vs : List V} {B B' : Fz} {H H' : Hp} {ds : List D} {σ : L2.St} {ρ : Rho} {g' : Cells}
/-- back from the call -/
theorem call_back (c : Cf K B H σ ρ) (st : Step K (vs.map some) B H ⟨vals ds, ρ.g⟩ (vs.map some) B' H' ⟨vals ds, g'⟩) : Step K σ B H ρ σ B' H' ⟨ρ.l, g'⟩ := by
  have sub : ∀ b, OwnA (vs.map some) B ⟨vals ds, ρ.g⟩ b → OwnA σ B ρ b := fun b ⟨i, z⟩ => by
    obtain ⟨m, rfl, a1, a2⟩ := own_vals.mp z
    exact ⟨.c m, a1, a2⟩
  have no : ∀ i p, OwnAt σ B ρ (.s i) p → ¬ OwnA (vs.map some) B ⟨vals ds, ρ.g⟩ p := fun i p h ⟨j, z⟩ => by
    obtain ⟨m, rfl, a1, a2⟩ := own_vals.mp z
    have := c.sep (.s i) (.c m) p h ⟨a1, a2⟩
    cases this
  have own : ∀ i p, OwnAt σ B' ⟨ρ.l, g'⟩ i p → (∃ k, i = .s k ∧ OwnAt σ B ρ i p) ∨ (∃ m, i = .c m ∧ OwnAt (vs.map some) B' ⟨vals ds, g'⟩ i p) := fun i p z => by
    cases i with
    | s k => exact .inl ⟨k, rfl, z⟩
    | c m => exact .inr ⟨m, rfl, z⟩
  refine ⟨⟨st.cf.bh, c.len, fun i s e => ?_, fun i j p h1 h2 => ?_, st.cf.cl⟩, st.bb, fun b o e n => st.keep b o e fun z => n (sub b z), st.there, fun b q n => (st.new b q n).imp_right (sub b), fun b ⟨i, z⟩ => ?_⟩
  · have q := c.at_ i s e
    cases s with
    | none => trivial
    | some s =>
      cases s with
      | val d =>
        obtain ⟨x, h1, h2⟩ := q
        exact ⟨x, h1, h2.mono st.bb⟩
      | own o =>
        obtain ⟨p, u, e1, b1, k1, r1, oa⟩ := c.own (i := i) (o := o) e
        have np := no i p oa
        refine ⟨p, u, by rw [e1]; rfl, ?_, st.keep p u k1 np, r1.mono st.bb⟩
        refine Classical.byContradiction fun y => ?_
        rcases st.new p y b1 with z | z
        · rw [k1] at z
          cases z
        · exact np z
  · have cross : ∀ k m, OwnAt σ B ρ (.s k) p → OwnAt (vs.map some) B' ⟨vals ds, g'⟩ (.c m) p → False := fun k m a b => by
      rcases st.own p ⟨_, b⟩ with z | z
      · exact no k p a z
      · exact (OwnAt.not_frozen c a).2 z
    rcases own i p h1 with ⟨k1, rfl, y1⟩ | ⟨m1, rfl, y1⟩
    · rcases own j p h2 with ⟨k2, rfl, y2⟩ | ⟨m2, rfl, y2⟩
      · exact c.sep _ _ p y1 y2
      · exact (cross _ _ y1 y2).elim
    · rcases own j p h2 with ⟨k2, rfl, y2⟩ | ⟨m2, rfl, y2⟩
      · exact (cross _ _ y2 y1).elim
      · exact st.cf.sep _ _ p y1 y2
  · rcases own i b z with ⟨k1, rfl, y1⟩ | ⟨m1, rfl, y1⟩
    · exact .inl ⟨_, y1⟩
    · exact (st.own b ⟨_, y1⟩).imp_left (sub b)
/-- a new object that a call gives -/
theorem RN.back (c : Cf K B H σ ρ) (st : Step K (vs.map some) B H ⟨vals ds, ρ.g⟩ (vs.map some) B' H' ⟨vals ds, g'⟩) {o : O} {v : V} (r : RN K H (vs.map some) B' H' ⟨vals ds, g'⟩ o v) : RN K H σ B' H' ⟨ρ.l, g'⟩ o v := by
  obtain ⟨p, u, rfl, n0, nB, hH, ro, no⟩ := r
  refine ⟨p, u, rfl, n0, nB, hH, ro, fun ⟨i, z⟩ => ?_⟩
  cases i with
  | s i =>
    have z : OwnAt σ B ρ (.s i) p := z
    exact (OwnAt.not_frozen c z).2 n0
  | c m => exact no ⟨.c m, z⟩
end
section
variable {X : Cx} {E : WX} {x : Str} {p pos : Pos} {e : Expr} {es : List Expr} {as : M (List D)} {F : Fn} {k : Nat} {f : Addr} {fd : FuncData} {ps : List Str}
theorem call_read : ∀ σ H Q, tD X.K E (callM F as) σ H Q → tCallS (spD X.K F) (WE E) (tL X.K E as) σ H Q := by
  rintro σ H Q ⟨B, ρ, c, h⟩
  refine ⟨B, ρ, c, h.seq.imp ?_⟩
  rintro d ρ' vs B' H1 - - - ⟨ds, B1, ρ1, st1, ra, h1⟩
  have ra : Reps X.K B1 ds vs := ra
  refine ⟨B1, ds, ρ1.g, st1.cf.plain ra, ?_⟩
  cases ef : F ds ρ1.g with
  | no =>
    simp only [ef] at h1
    exact h1
  | ok d g' =>
    simp only [ef] at h1
    exact fun v B' H' st r => h1 v B' H' (call_back st1.cf st) r
  | new o g' =>
    simp only [ef] at h1
    intro v B' H' st r
    obtain ⟨p, u, rfl, n0, nB, hH, ro, no⟩ := RN.back st1.cf st r
    have s2 := (call_back st1.cf st).seal n0 nB hH no
    exact h1 _ _ _ s2 ((ro.mono (FSame.upd nB)).freeze Fz.upd_same)
  | ex d g' =>
    simp only [ef] at h1
    exact fun oc B' H' st r => h1 oc σ B' H' (call_back st1.cf st) r
theorem callN_read : ∀ σ H Q, tN X.K E (callN F as) σ H Q → tCallS (spD X.K F) (WE E) (tL X.K E as) σ H Q := by
  rintro σ H Q ⟨B, ρ, c, h⟩
  refine ⟨B, ρ, c, h.seq.imp ?_⟩
  rintro d ρ' vs B' H1 - - - ⟨ds, B1, ρ1, st1, ra, h1⟩
  have ra : Reps X.K B1 ds vs := ra
  refine ⟨B1, ds, ρ1.g, st1.cf.plain ra, ?_⟩
  cases ef : F ds ρ1.g with
  | no =>
    simp only [ef] at h1
    exact h1
  | ok d g' =>
    simp only [ef] at h1
    exact h1.elim
  | new o g' =>
    simp only [ef] at h1
    exact fun v B' H' st r => h1 v B' H' (call_back st1.cf st) (RN.back st1.cf st r)
  | ex d g' =>
    simp only [ef] at h1
    exact fun oc B' H' st r => h1 oc σ B' H' (call_back st1.cf st) r
theorem pd_call (G : FnOk X.prog X.w X.K X.mg X.base (L2.CX X.prog X.w) k f fd ps (spD X.K F)) (hr : Room k X.A) (hg : Gl X x) (hm : X.mg x = some (.ref f)) (hk : PySem.W.keepIn X.K (.ref f) = true) (hb : Binds X.K fd ps []) (tk : Takes X E)
    (ha : PA X (e :: es) (tL X.K E as)) (hdb : (x == ("__debug__" : Str)) = false := by decide) (he : starEach (e :: es) X.env = (false, eval e X.env) :: starEach es X.env := by rfl) (hpl : (backTo pos (starEach es X.env)).any (·.1) = false := by rfl) :
    PE X (.Call (.Name x p) (e :: es) [] pos) (tD X.K E (callM F as)) := pe_weak (pe_callS G hr hg hm hk hb (fun σ => passAt tk σ) ha hdb he hpl) call_read
theorem pn_call (G : FnOk X.prog X.w X.K X.mg X.base (L2.CX X.prog X.w) k f fd ps (spD X.K F)) (hr : Room k X.A) (hg : Gl X x) (hm : X.mg x = some (.ref f)) (hk : PySem.W.keepIn X.K (.ref f) = true) (hb : Binds X.K fd ps []) (tk : Takes X E)
    (ha : PA X (e :: es) (tL X.K E as)) (hdb : (x == ("__debug__" : Str)) = false := by decide) (he : starEach (e :: es) X.env = (false, eval e X.env) :: starEach es X.env := by rfl) (hpl : (backTo pos (starEach es X.env)).any (·.1) = false := by rfl) :
    PE X (.Call (.Name x p) (e :: es) [] pos) (tN X.K E (callN F as)) := pe_weak (pe_callS G hr hg hm hk hb (fun σ => passAt tk σ) ha hdb he hpl) callN_read
end
end Nc

/-! Comprehensions of two clauses; a comprehension stored by a name. -/
namespace Nc
open PySem PySem.Spec PyProof.Rows L2

def hid (L : Addr) (H : Hp) : Hp := fun b => if b = L then none else H b
theorem hid_at {L : Addr} {H : Hp} : hid L H L = none := if_pos rfl
theorem hid_ne {L b : Addr} {H : Hp} (h : b ≠ L) : hid L H b = H b := if_neg h
theorem hid_some {L b : Addr} {H : Hp} {o : HO} (h : hid L H b = some o) : b ≠ L ∧ H b = some o := by
  by_cases e : b = L
  · subst e
    rw [hid_at] at h
    cases h
  · rw [hid_ne e] at h
    exact ⟨e, h⟩
theorem hid_upd {L : Addr} {H : Hp} {o : HO} : hid L (upd H L o) = hid L H := by
  funext b
  by_cases e : b = L
  · subst e
    rw [hid_at, hid_at]
  · rw [hid_ne e, hid_ne e, upd_ne e]
section
variable {K : PySem.W.Frag} {σ σ1 : L2.St} {B B1 : Fz} {H H1 : Hp} {ρ ρ1 : Rho} {L : Addr}
theorem Cf.shown (c : Cf K B (hid L H) σ ρ) : Cf K B H σ ρ := by
  refine ⟨fun b u e => (hid_some (c.bh b u e)).2, c.len, fun i s e => ?_, c.sep, ⟨fun n o h => ?_, c.cl.dom, fun n a h z => c.cl.pin n a h ?_⟩⟩
  · have q := c.at_ i s e
    cases s with
    | none => trivial
    | some s =>
      cases s with
      | val d => exact q
      | own o =>
        obtain ⟨p, u, h1, h2, h3, h4⟩ := q
        exact ⟨p, u, h1, h2, (hid_some h3).2, h4⟩
  · obtain ⟨a, u, h1, h2, h3, h4⟩ := c.cl.at_ n o h
    exact ⟨a, u, h1, h2, (hid_some h3).2, h4⟩
  · unfold hid
    split
    · rfl
    · exact z
theorem Cf.live (c : Cf K B H σ ρ) {n : Nat} {a : Addr} (h : B.π n = some a) : OwnA σ B ρ a := by
  have hl : n < ρ.g.length := Nat.lt_of_not_le fun l => by
    rw [c.cl.dom n l] at h
    cases h
  exact ⟨.c n, ⟨_, List.getElem?_eq_getElem hl⟩, h⟩
theorem Cf.hidden (c : Cf K B H σ ρ) (nB : B L = none) (no : ¬ OwnA σ B ρ L) : Cf K B (hid L H) σ ρ := by
  refine ⟨fun b u e => ?_, c.len, fun i s e => ?_, c.sep, ⟨fun n o h => ?_, c.cl.dom, fun n a h => ?_⟩⟩
  · rw [hid_ne (ne_of_none e nB)]
    exact c.bh b u e
  · have q := c.at_ i s e
    cases s with
    | none => trivial
    | some s =>
      cases s with
      | val d => exact q
      | own o =>
        obtain ⟨p, u, e1, b1, k1, r1, oa⟩ := c.own e
        have np : p ≠ L := fun y => by
          subst y
          exact no ⟨_, oa⟩
        exact ⟨p, u, by rw [e1]; rfl, b1, by rw [hid_ne np]; exact k1, r1⟩
  · obtain ⟨a, u, h1, h2, h3, h4⟩ := c.cl.at_ n o h
    have np : a ≠ L := fun y => by
      subst y
      exact no (c.live h1)
    exact ⟨a, u, h1, h2, by rw [hid_ne np]; exact h3, h4⟩
  · have np : a ≠ L := fun y => by
      subst y
      exact no (c.live h)
    rw [hid_ne np]
    exact c.cl.pin n a h
/-- a step of what does not know the list at L -/
theorem Step.hid {o : HO} (st : Step K σ B H ρ σ1 B1 H1 ρ1) (hL : H L = some o) (nB : B L = none) (no : ¬ OwnA σ B ρ L) : Step K σ B (Nc.hid L H) ρ σ1 B1 (Nc.hid L H1) ρ1 ∧ H1 L = some o ∧ B1 L = none ∧ ¬ OwnA σ1 B1 ρ1 L := by
  have h1 : H1 L = some o := st.keep L o hL no
  have b1 : B1 L = none := Classical.byContradiction fun y => by
    rcases st.new L y nB with z | z
    · rw [hL] at z
      cases z
    · exact no z
  have o1 : ¬ OwnA σ1 B1 ρ1 L := fun z => by
    rcases st.own L z with q | q
    · exact no q
    · rw [hL] at q
      cases q
  refine ⟨⟨st.cf.hidden b1 o1, st.bb, fun b u e n => ?_, fun b e => ?_, fun b q n => ?_, fun b z => ?_⟩, h1, b1, o1⟩
  · obtain ⟨nb, e⟩ := hid_some e
    rw [hid_ne nb]
    exact st.keep b u e n
  · by_cases hb : b = L
    · subst hb
      rw [hid_at] at e
      exact absurd rfl e
    · rw [hid_ne hb] at e ⊢
      exact st.there b e
  · rcases st.new b q n with z | z
    · left
      by_cases hb : b = L
      · subst hb
        exact hid_at
      · rw [hid_ne hb]
        exact z
    · exact .inr z
  · rcases st.own b z with q | q
    · exact .inl q
    · right
      by_cases hb : b = L
      · subst hb
        exact hid_at
      · rw [hid_ne hb]
        exact q
variable {bnd : D → M Unit} {tt : M Bool} {el : M D} {vs ts : List Nat}
/-- an iterator's item, the frozen part grown -/
theorem Yields.item {J : It} {ds : List D} (ys : Yields K B1 J ds) (c : Cf K B H σ ρ) (sB : FSame B1 B) {i : Nat} {d : D} {x : V} {H2 : Hp} (hd : ds[i]? = some d) (hy : J.yld i H x H2) : ∃ B2, Step K σ B H ρ σ B2 H2 ρ ∧ Rep K B2 d x := by
  rcases ys.yld i _ H x H2 hd (sB.h.trans c.bh) hy with ⟨rfl, r⟩ | ⟨p, o, hp, rfl, r⟩
  · exact ⟨B, Step.refl c, r.mono sB⟩
  · exact ⟨Fz.upd B p o, c.laid hp o, r.mono (sB.up2 p o)⟩
theorem ok_bnd {α β : Type} {f : M α} {g : α → M β} {ρ ρ' : Rho} {b : β} (h : (f >>= g) ρ = .ok b ρ') : ∃ a ρ1, f ρ = .ok a ρ1 ∧ g a ρ1 = .ok b ρ' := by
  cases e : f ρ with
  | no =>
    rw [bnd_no e] at h
    cases h
  | ex x ρ1 =>
    rw [bnd_ex e] at h
    cases h
  | ok a ρ1 =>
    rw [bnd_ok e] at h
    exact ⟨a, ρ1, rfl, h⟩
theorem lcLoop_cons {d : D} {ds acc out : List D} {ρ ρ' : Rho} (h : lcLoop bnd tt el vs (d :: ds) acc ρ = .ok out ρ') : acc.length < sizeLine ∧ ∃ r ρ2, turnM bnd tt el vs d ρ = .ok r ρ2 ∧ lcLoop bnd tt el vs ds (addO acc r) ρ2 = .ok out ρ' := by
  simp only [lcLoop] at h
  by_cases hz : acc.length < sizeLine
  · rw [if_pos hz] at h
    exact ⟨hz, ok_bnd h⟩
  · rw [if_neg hz] at h
    cases h
/-- THE LOOP of a clause's block, the list at L filled -/
theorem lc_loop {g : TG} {t : TT} {te : TE} (hts : ∀ i ∈ ts, i ∈ vs) (hx : ∀ d ρ x ρ', bnd d ρ ≠ .ex x ρ') (kg : ∀ v σ H Q, gD K ts bnd v σ H Q → g v σ H Q) (kt : ∀ σ H Q, tT K EN tt σ H Q → t σ H Q) (ke : ∀ σ H Q, tD K EN el σ H Q → te σ H Q)
    {J : It} {ds acc0 out : List D} {xs0 : List V} {ρo : Rho} {R : Hp → Prop} (ys : Yields K B1 J ds) (c1 : Cf K B1 (hid L H1) σ ρ1) (hL : H1 L = some (.lst xs0)) (nB1 : B1 L = none) (no1 : ¬ OwnA σ B1 ρ1 L) (r0 : Reps K B1 acc0 xs0)
    (hrun : lcLoop bnd tt el vs ds acc0 ρ1 = .ok out ρo) (hfin : ∀ B' H' xs', Step K σ B1 (hid L H1) ρ1 σ B' (hid L H') ρo → H' L = some (.lst xs') → Reps K B' out xs' → B' L = none → ¬ OwnA σ B' ρo L → R H') :
    ∃ W : Nat → Nat → Hp → Prop, (∃ m, W 0 m H1) ∧ ∀ i m H, W i m H → (J.stop i H ∧ R H) ∨ (J.go i H ∧ ∃ Nx : Hp → Prop, (∀ H', Nx H' → ∃ m', m' < m ∧ W (i + 1) m' H') ∧ ∀ x H', J.yld i H x H' → g x (wipe σ vs) H' fun σ2 H2 => wipe σ2 vs = wipe σ vs ∧ t σ2 H2 fun b H3 =>
      if b = true then te σ2 H3 fun y H4 => ∃ acc, H4 L = some (.lst acc) ∧ acc.length < sizeLine ∧ Nx (upd H4 L (.lst (acc ++ [y]))) else Nx H3) := by
  refine ⟨fun i m H => m = ds.length - i ∧ i ≤ ds.length ∧ ∃ (B : Fz) (ρ : Rho) (acc : List D) (xs : List V), Step K σ B1 (hid L H1) ρ1 σ B (hid L H) ρ ∧ B L = none ∧ ¬ OwnA σ B ρ L ∧ H L = some (.lst xs) ∧ Reps K B acc xs ∧ lcLoop bnd tt el vs (ds.drop i) acc ρ = .ok out ρo,
    ⟨ds.length, by simp, Nat.zero_le _, B1, ρ1, acc0, xs0, Step.refl c1, nB1, no1, hL, r0, hrun⟩, ?_⟩
  rintro i m H ⟨rfl, hi, B, ρ, acc, xs, st, nB, no, hH, ra, h⟩
  have c : Cf K B H σ ρ := st.cf.shown
  have sB := st.bb
  by_cases hlt : i < ds.length
  · refine .inr ⟨ys.go i H hlt (sB.h.trans c.bh), fun H' => ∃ (B : Fz) (ρ : Rho) (acc : List D) (xs : List V), Step K σ B1 (hid L H1) ρ1 σ B (hid L H') ρ ∧ B L = none ∧ ¬ OwnA σ B ρ L ∧ H' L = some (.lst xs) ∧ Reps K B acc xs ∧ lcLoop bnd tt el vs (ds.drop (i + 1)) acc ρ = .ok out ρo,
      fun H' z => ⟨ds.length - (i + 1), by omega, rfl, hlt, z⟩, fun x H2 hy => ?_⟩
    have hd : ds[i]? = some ds[i] := List.getElem?_eq_getElem hlt
    rw [List.drop_eq_getElem_cons hlt] at h
    obtain ⟨hz, r, ρ', er, h'⟩ := lcLoop_cons h
    obtain ⟨B2, st2, rx⟩ := ys.item c sB hd hy
    obtain ⟨st2h, h2L, n2, o2⟩ := st2.hid hH nB no
    unfold turnM at er
    split at er
    · rename_i r2 ρ3 eblk
      cases er
      have cw : Cf K B2 (hid L H2) (wipe σ vs) (wipeR ρ vs) := st2h.cf.wiped
      have now : ¬ OwnA (wipe σ vs) B2 (wipeR ρ vs) L := fun ⟨j, z⟩ => o2 ⟨j, (own_wipe z st2.cf.len).1⟩
      -- behind the block
      have fin : ∀ {B3 H3 σ3 ρ3}, Step K (wipe σ vs) B2 H2 (wipeR ρ vs) σ3 B3 H3 ρ3 → wipe σ3 vs = wipe σ vs → Step K σ B1 (hid L H1) ρ1 σ B3 (hid L H3) (mixR ρ ρ3 vs) ∧ H3 L = some (.lst xs) ∧ B3 L = none ∧ ¬ OwnA σ B3 (mixR ρ ρ3 vs) L := fun {B3 H3 σ3 ρ3} s3 hw => by
        obtain ⟨s3h, h3L, n3, o3⟩ := s3.hid h2L n2 now
        have s4 := s3h.unwiped st2h.cf hw
        refine ⟨(st.trans st2h).trans s4, h3L, n3, fun z => ?_⟩
        have s4r := s3.unwiped st2.cf hw
        rcases s4r.own L z with q | q
        · exact o2 q
        · rw [h2L] at q
          cases q
      obtain ⟨u, ρ4, e1, eblk⟩ := ok_bnd eblk
      refine kg _ _ _ _ ⟨B2, wipeR ρ vs, ds[i], st2.cf.wiped, rx, ρ4, e1, fun σ3 B3 H3 s3 hl hj _ => ?_⟩
      have hw : wipe σ3 vs = wipe σ vs := wipe_same hts (by rw [hl, wipe_length]) hj
      refine ⟨hw, kt _ _ _ ⟨B3, ρ4, s3.cf, ?_⟩⟩
      obtain ⟨b, ρ5, e2, eblk⟩ := ok_bnd eblk
      rw [e2]
      intro b' B4 H4 s4 rb
      have eb : b = b' := rb
      subst eb
      have hs4 := s3.trans s4
      cases b with
      | false =>
        simp only [Bool.false_eq_true, if_false] at eblk
        cases eblk
        refine iteF ?_
        obtain ⟨q3, q1, q2, q4⟩ := fin hs4 hw
        exact ⟨B4, _, acc, xs, q3, q2, q4, q1, ra.mono (st2.bb.trans hs4.bb), h'⟩
      | true =>
        simp only [if_true] at eblk
        refine iteT (ke _ _ _ ⟨B4, ρ5, s4.cf, ?_⟩)
        obtain ⟨z, ρ6, e3, eblk⟩ := ok_bnd eblk
        rw [e3]
        cases eblk
        intro y B5 H5 s5 ry
        have ry : Rep K B5 z y := ry
        have hs5 := hs4.trans s5
        obtain ⟨q3, q1, q2, q4⟩ := fin hs5 hw
        have ra5 := ra.mono (st2.bb.trans hs5.bb)
        exact ⟨xs, q1, by rw [← ra.length]; exact hz, B5, _, acc ++ [z], xs ++ [y], by rw [hid_upd]; exact q3, q2, q4, upd_same, ra5.append (Reps.cons ry Reps.nil), h'⟩
    · cases er
  · have e : i = ds.length := by omega
    subst e
    rw [List.drop_length] at h
    simp only [lcLoop, M.ret] at h
    cases h
    exact .inl ⟨ys.stop H (sB.h.trans c.bh), hfin B H xs st hH ra nB no⟩

/-! ### two clauses -/
def turn2 (bnd : D → M Unit) (tt : M Bool) (src1 : M (List D)) (bnd1 : D → M Unit) (tt1 : M Bool) (el : M D) (vs vs1 : List Nat) (d : D) (acc : List D) : M (List D) := fun ρ =>
  match (bnd d >>= fun _ => tt >>= fun b => if b then src1 >>= fun ds1 => lcLoop bnd1 tt1 el vs1 ds1 acc else M.ret acc) (wipeR ρ vs) with
  | .ok r ρ' => .ok r (mixR ρ ρ' vs)
  | _ => .no
def lc2Loop (bnd : D → M Unit) (tt : M Bool) (src1 : M (List D)) (bnd1 : D → M Unit) (tt1 : M Bool) (el : M D) (vs vs1 : List Nat) : List D → List D → M (List D)
  | [], acc => M.ret acc
  | d :: ds, acc => turn2 bnd tt src1 bnd1 tt1 el vs vs1 d acc >>= fun r => lc2Loop bnd tt src1 bnd1 tt1 el vs vs1 ds r
def lc2M (src : M (List D)) (bnd : D → M Unit) (tt : M Bool) (src1 : M (List D)) (bnd1 : D → M Unit) (tt1 : M Bool) (el : M D) (vs vs1 : List Nat) : M O := src >>= fun ds => lc2Loop bnd tt src1 bnd1 tt1 el vs vs1 ds [] >>= fun out => M.ret (.lst out)
variable {E : WX} {src src1 : M (List D)} {bnd1 : D → M Unit} {tt1 : M Bool} {vs1 ts1 : List Nat}
theorem turn2_noex {d : D} {acc : List D} {ρ : Rho} {x : Xn} {ρ' : Rho} : turn2 bnd tt src1 bnd1 tt1 el vs vs1 d acc ρ ≠ .ex x ρ' := by
  unfold turn2
  split <;> simp only [ne_eq, reduceCtorEq, not_false_eq_true]
theorem lc2Loop_noex : ∀ {ds acc : List D} {ρ : Rho} {x : Xn} {ρ' : Rho}, lc2Loop bnd tt src1 bnd1 tt1 el vs vs1 ds acc ρ ≠ .ex x ρ'
  | [], acc, ρ, x, ρ' => by simp only [lc2Loop, M.ret, ne_eq, reduceCtorEq, not_false_eq_true]
  | d :: ds, acc, ρ, x, ρ' => by
    simp only [lc2Loop]
    cases e : turn2 bnd tt src1 bnd1 tt1 el vs vs1 d acc ρ with
    | no => rw [bnd_no e]; simp only [ne_eq, reduceCtorEq, not_false_eq_true]
    | ex y ρ2 => exact absurd e turn2_noex
    | ok r ρ2 =>
      rw [bnd_ok e]
      exact lc2Loop_noex
theorem lc2_read {wi : TI} {g : TG} {t : TT} {wi1 : TI} {g1 : TG} {t1 : TT} {te : TE} (hts : ∀ i ∈ ts, i ∈ vs) (hx : ∀ d ρ x ρ', bnd d ρ ≠ .ex x ρ') (hts1 : ∀ i ∈ ts1, i ∈ vs1) (hx1 : ∀ d ρ x ρ', bnd1 d ρ ≠ .ex x ρ') (hvs : ∀ i ∈ vs1, i ∈ vs)
    (ki : ∀ σ H Q, tI K E src σ H Q → wi σ H Q) (kg : ∀ v σ H Q, gD K ts bnd v σ H Q → g v σ H Q) (kt : ∀ σ H Q, tT K EN tt σ H Q → t σ H Q) (ki1 : ∀ σ H Q, tI K EN src1 σ H Q → wi1 σ H Q) (kg1 : ∀ v σ H Q, gD K ts1 bnd1 v σ H Q → g1 v σ H Q) (kt1 : ∀ σ H Q, tT K EN tt1 σ H Q → t1 σ H Q)
    (ke : ∀ σ H Q, tD K EN el σ H Q → te σ H Q) : ∀ σ H Q, tN K E (lc2M src bnd tt src1 bnd1 tt1 el vs vs1) σ H Q → tLc2 wi g t wi1 g1 t1 te vs vs1 σ H Q := by
  rintro σ H0 Q ⟨B0, ρ0, c0, h0⟩
  refine ki _ _ _ ⟨B0, ρ0, c0, h0.seqS.imp ?_⟩
  rintro - - J - H1 - - - ⟨ds, B1, ρ1, st1, ys, h1⟩
  have ys : Yields K B1 J ds := ys
  intro L hL
  -- the whole run is known
  obtain ⟨out, ρo, hrun⟩ : ∃ out ρo, lc2Loop bnd tt src1 bnd1 tt1 el vs vs1 ds [] ρ1 = .ok out ρo := by
    cases e : lc2Loop bnd tt src1 bnd1 tt1 el vs vs1 ds [] ρ1 with
    | no =>
      rw [bnd_no e] at h1
      exact h1.elim
    | ex y ρ2 => exact absurd e lc2Loop_noex
    | ok r ρ2 => exact ⟨r, ρ2, rfl⟩
  rw [bnd_ok hrun] at h1
  have nB1 := st1.cf.unfrozen hL
  have no1 := own_not_new st1.cf hL
  have hh1 : hid L (upd H1 L (.lst [])) = H1 := by
    funext b
    by_cases e : b = L
    · subst e
      rw [hid_at, hL]
    · rw [hid_ne e, upd_ne e]
  refine ⟨fun i m H => m = ds.length - i ∧ i ≤ ds.length ∧ ∃ (B : Fz) (ρ : Rho) (acc : List D) (xs : List V), Step K σ B1 H1 ρ1 σ B (hid L H) ρ ∧ B L = none ∧ ¬ OwnA σ B ρ L ∧ H L = some (.lst xs) ∧ Reps K B acc xs ∧ lc2Loop bnd tt src1 bnd1 tt1 el vs vs1 (ds.drop i) acc ρ = .ok out ρo,
    ⟨ds.length, by simp, Nat.zero_le _, B1, ρ1, [], [], by rw [hh1]; exact Step.refl st1.cf, nB1, no1, upd_same, Reps.nil, hrun⟩, ?_⟩
  rintro i m H ⟨rfl, hi, B, ρ, acc, xs, st, nB, no, hH, ra, h⟩
  have c : Cf K B H σ ρ := st.cf.shown
  have sB := st.bb
  by_cases hlt : i < ds.length
  · refine .inr ⟨ys.go i H hlt (sB.h.trans c.bh), fun H' => ∃ (B : Fz) (ρ : Rho) (acc : List D) (xs : List V), Step K σ B1 H1 ρ1 σ B (hid L H') ρ ∧ B L = none ∧ ¬ OwnA σ B ρ L ∧ H' L = some (.lst xs) ∧ Reps K B acc xs ∧ lc2Loop bnd tt src1 bnd1 tt1 el vs vs1 (ds.drop (i + 1)) acc ρ = .ok out ρo,
      fun H' z => ⟨ds.length - (i + 1), by omega, rfl, hlt, z⟩, fun x H2 hy => ?_⟩
    have hd : ds[i]? = some ds[i] := List.getElem?_eq_getElem hlt
    rw [List.drop_eq_getElem_cons hlt] at h
    simp only [lc2Loop] at h
    obtain ⟨r, ρ', er, h'⟩ := ok_bnd h
    obtain ⟨B2, st2, rx⟩ := ys.item c sB hd hy
    obtain ⟨st2h, h2L, n2, o2⟩ := st2.hid hH nB no
    unfold turn2 at er
    split at er
    · rename_i r2 ρ3 eblk
      cases er
      have now : ¬ OwnA (wipe σ vs) B2 (wipeR ρ vs) L := fun ⟨j, z⟩ => o2 ⟨j, (own_wipe z st2.cf.len).1⟩
      obtain ⟨u, ρ4, e1, eblk⟩ := ok_bnd eblk
      refine kg _ _ _ _ ⟨B2, wipeR ρ vs, ds[i], st2.cf.wiped, rx, ρ4, e1, fun σ3 B3 H3 s3 hl hj _ => ?_⟩
      have hw : wipe σ3 vs = wipe σ vs := wipe_same hts (by rw [hl, wipe_length]) hj
      refine ⟨hw, kt _ _ _ ⟨B3, ρ4, s3.cf, ?_⟩⟩
      obtain ⟨b, ρ5, e2, eblk⟩ := ok_bnd eblk
      rw [e2]
      intro b' B4 H4 s4 rb
      have eb : b = b' := rb
      subst eb
      have hs4 := s3.trans s4
      obtain ⟨s4h, h4L, n4, o4⟩ := hs4.hid h2L n2 now
      -- the turn's end
      have fin : ∀ {B5 H5 ρ5'} {xs' : List V} {acc' : List D}, Step K (wipe σ vs) B2 (hid L H2) (wipeR ρ vs) σ3 B5 (hid L H5) ρ5' → H5 L = some (.lst xs') → Reps K B5 acc' xs' → B5 L = none → ¬ OwnA σ3 B5 ρ5' L → lc2Loop bnd tt src1 bnd1 tt1 el vs vs1 (ds.drop (i + 1)) acc' (mixR ρ ρ5' vs) = .ok out ρo →
          ∃ (B : Fz) (ρ : Rho) (acc : List D) (xs : List V), Step K σ B1 H1 ρ1 σ B (hid L H5) ρ ∧ B L = none ∧ ¬ OwnA σ B ρ L ∧ H5 L = some (.lst xs) ∧ Reps K B acc xs ∧ lc2Loop bnd tt src1 bnd1 tt1 el vs vs1 (ds.drop (i + 1)) acc ρ = .ok out ρo := fun {B5 H5 ρ5' xs' acc'} s5 hx5 r5 n5 o5 hl5 => by
        have s6 := s5.unwiped st2h.cf hw
        refine ⟨B5, _, acc', xs', (st.trans st2h).trans s6, n5, fun z => ?_, hx5, r5, hl5⟩
        rcases s6.own L z with q | q
        · exact o2 q
        · obtain ⟨k, w⟩ := z
          cases k with
          | c n => exact o5 ⟨.c n, w⟩
          | s k =>
            obtain ⟨⟨o', w⟩, w2⟩ := w
            have lr : ρ5'.length = ρ.length := by
              have l3 : σ3.length = σ.length := by rw [hl, wipe_length]
              rw [← s5.cf.len, l3, c.len]
            rw [mixR_at lr] at w
            by_cases hk : k ∈ vs
            · rw [if_pos hk] at w
              exact no ⟨.s k, ⟨o', w⟩, w2⟩
            · rw [if_neg hk] at w
              refine o5 ⟨.s k, ⟨o', w⟩, ?_⟩
              have := congrArg (fun l => l[k]?) hw
              simp only [wipe_at hk] at this
              rw [this]
              exact w2
      cases b with
      | false =>
        simp only [Bool.false_eq_true, if_false, M.ret] at eblk
        cases eblk
        exact iteF (fin s4h h4L (ra.mono (st2.bb.trans hs4.bb)) n4 o4 h')
      | true =>
        simp only [if_true] at eblk
        refine iteT (ki1 _ _ _ ⟨B4, ρ5, s4.cf, ?_⟩)
        obtain ⟨ds1, ρ6, e3, eblk⟩ := ok_bnd eblk
        rw [e3]
        intro J1 B5 H5 s5 ys1
        have ys1 : Yields K B5 J1 ds1 := ys1
        obtain ⟨s5h, h5L, n5, o5⟩ := (hs4.trans s5).hid h2L n2 now
        refine lc_loop hts1 hx1 kg1 kt1 ke ys1 s5h.cf h5L n5 o5 (ra.mono (st2.bb.trans (hs4.trans s5).bb)) eblk fun B6 H6 xs6 s6 h6L r6 n6 o6 => ?_
        exact fin (s5h.trans s6) h6L r6 n6 o6 h'
    · cases er
  · have e : i = ds.length := by omega
    subst e
    rw [List.drop_length] at h
    simp only [lc2Loop, M.ret] at h
    cases h
    refine .inl ⟨ys.stop H (sB.h.trans c.bh), ?_⟩
    -- the whole step, the new list shown
    have hHh : H = upd (hid L H) L (.lst xs) := by
      funext b
      by_cases e : b = L
      · subst e
        rw [upd_same, hH]
      · rw [upd_ne e, hid_ne e]
    have sfin : Step K σ B1 H1 ρ1 σ B H ρo := by
      have := st.pokeS hL nB no (.lst xs)
      rw [← hHh] at this
      exact this
    exact h1 _ _ _ (st1.trans sfin) ⟨L, .lst xs, rfl, st1.wasNone hL, nB, hH, ⟨xs, rfl, ra⟩, no⟩
end
/-! ### stored by a name -/
theorem new_read {K : PySem.W.Frag} {E : WX} {f : M O} {te : TE} (k : ∀ σ H Q, tN K E f σ H Q → te σ H Q) : ∀ σ H Q, tD K E (frzM f) σ H Q → te σ H Q := by
  rintro σ H Q ⟨B, ρ, c, h⟩
  refine k _ _ _ ⟨B, ρ, c, h.seqS.imp ?_⟩
  rintro d ρ' x B' H1 - - - ⟨o, B1, ρ1, st1, ⟨p, u, rfl, n0, nB, hH, r, no⟩, h1⟩
  have s2 := st1.seal n0 nB hH no
  refine h1 _ _ _ s2 ?_
  exact (r.mono (FSame.upd nB)).freeze Fz.upd_same
section
variable {X : Cx} {E : WX} {st : Stmt} {te : TE} {i : Nat}
theorem sn_setR {f : M O} (h : PS X st (tAsg te (gName i))) (k : ∀ σ H Q, tN X.K E f σ H Q → te σ H Q) : PS X st (tS X.K E (setN i f)) := by
  refine ps_weak h fun Dn σ H ⟨B, ρ, c, h⟩ => k _ _ _ ⟨B, ρ, c, h.seq.imp ?_⟩
  rintro d ρ' x B' H1 - - - ⟨d, B1, ρ1, st1, rx, h1⟩
  exact h1 _ _ _ (st1.take i rx)
theorem sd_setR {f : M D} (h : PS X st (tAsg te (gName i))) (k : ∀ σ H Q, tD X.K E f σ H Q → te σ H Q) : PS X st (tS X.K E (setS i f)) := by
  refine ps_weak h fun Dn σ H ⟨B, ρ, c, h⟩ => k _ _ _ ⟨B, ρ, c, h.seq.imp ?_⟩
  rintro d ρ' x B' H1 - - - ⟨d, B1, ρ1, st1, rx, h1⟩
  exact h1 _ _ _ (st1.trans (st1.cf.set i rx))
end
section
variable {X : Cx} {E : WX} {elt tg iter tg1 iter1 : Expr} {ifs ifs1 : List Expr} {scope : Scope} {own : List (Str × Nat)} {pos : Pos} {bnd bnd1 : D → M Unit} {tt tt1 : M Bool} {el : M D} {ts ts1 vs1 : List Nat} {src src1 : M (List D)}
abbrev BlkP (X : Cx) (scope : Scope) (P : Cx → Prop) : Prop := ∀ (s : Shared) (H : Hp) (C : Addr) (cl : List (Str × Addr)) (fp : List Addr), P (X.blk s H scope (compEnvC scope cl C X.env) fp)
theorem pn_lc2 (hc : X.calm = true) (hN : X.N.Nodup) (hi : PI X tg iter (tI X.K E src)) (ok : BlkOk X.N X.env.scope scope own) (hv : ∀ i ∈ vs1, i ∈ own.map (·.2)) (hts : ∀ i ∈ ts, i ∈ own.map (·.2)) (hx : ∀ d ρ x ρ', bnd d ρ ≠ .ex x ρ') (hts1 : ∀ i ∈ ts1, i ∈ vs1) (hx1 : ∀ d ρ x ρ', bnd1 d ρ ≠ .ex x ρ')
    (hg : BlkP X scope fun Y => PG Y tg (gD X.K ts bnd)) (ht : BlkP X scope fun Y => PTs Y ifs (tT X.K EN tt)) (hi1 : BlkP X scope fun Y => PI Y tg1 iter1 (tI X.K EN src1)) (hg1 : BlkP X scope fun Y => PG Y tg1 (gD X.K ts1 bnd1)) (ht1 : BlkP X scope fun Y => PTs Y ifs1 (tT X.K EN tt1))
    (he : BlkP X scope fun Y => PE Y elt (tD X.K EN el)) (hs : ∀ x, foldedSetIterable iter X.env x = pure x := by intro _; rfl) (hs1 : ∀ env x, foldedSetIterable iter1 env x = pure x := by intro _ _; rfl) :
    PE X (.ListComp elt [⟨tg, iter, ifs, 0⟩, ⟨tg1, iter1, ifs1, 0⟩] scope pos) (tN X.K E (lc2M src bnd tt src1 bnd1 tt1 el (own.map (·.2)) vs1)) :=
  pe_weak (pe_lc2 hc hN hi ok hv hg ht hi1 hg1 ht1 he hs hs1) (lc2_read hts hx hts1 hx1 hv (fun _ _ _ h => h) (fun _ _ _ _ h => h) (fun _ _ _ h => h) (fun _ _ _ h => h) (fun _ _ _ _ h => h) (fun _ _ _ h => h) fun _ _ _ h => h)
variable {i : Nat} {y : Str} {py spos : Pos}
theorem sn_setLc (hc : X.calm = true) (hN : X.N.Nodup) (hy : X.N[i]? = some y) (hyl : X.env.scope.names.lookup y = some .local) (hsw : swapsWith (.ListComp elt [⟨tg, iter, ifs, 0⟩] scope pos) (some (.Name y py)) spos.line X.env = pure true)
    (hi : PI X tg iter (tI X.K E src)) (ok : BlkOk X.N X.env.scope scope own) (hts : ∀ i ∈ ts, i ∈ own.map (·.2)) (hx : ∀ d ρ x ρ', bnd d ρ ≠ .ex x ρ') (hg : BlkP X scope fun Y => PG Y tg (gD X.K ts bnd)) (ht : BlkP X scope fun Y => PTs Y ifs (tT X.K EN tt)) (he : BlkP X scope fun Y => PE Y elt (tD X.K EN el))
    (hs : ∀ x, foldedSetIterable iter X.env x = pure x := by intro _; rfl) : PS X (.Assign [.Name y py] (.ListComp elt [⟨tg, iter, ifs, 0⟩] scope pos) spos) (tS X.K E (setN i (lcM src bnd tt el (own.map (·.2))))) :=
  sn_setR (ps_setLc hc hN hy hyl hsw hi ok hg ht he hs) (lc_read hts hx (fun _ _ _ h => h) (fun _ _ _ _ h => h) (fun _ _ _ h => h) fun _ _ _ h => h)
theorem sd_setLc (hc : X.calm = true) (hN : X.N.Nodup) (hy : X.N[i]? = some y) (hyl : X.env.scope.names.lookup y = some .local) (hsw : swapsWith (.ListComp elt [⟨tg, iter, ifs, 0⟩] scope pos) (some (.Name y py)) spos.line X.env = pure true)
    (hi : PI X tg iter (tI X.K E src)) (ok : BlkOk X.N X.env.scope scope own) (hts : ∀ i ∈ ts, i ∈ own.map (·.2)) (hx : ∀ d ρ x ρ', bnd d ρ ≠ .ex x ρ') (hg : BlkP X scope fun Y => PG Y tg (gD X.K ts bnd)) (ht : BlkP X scope fun Y => PTs Y ifs (tT X.K EN tt)) (he : BlkP X scope fun Y => PE Y elt (tD X.K EN el))
    (hs : ∀ x, foldedSetIterable iter X.env x = pure x := by intro _; rfl) : PS X (.Assign [.Name y py] (.ListComp elt [⟨tg, iter, ifs, 0⟩] scope pos) spos) (tS X.K E (setS i (frzM (lcM src bnd tt el (own.map (·.2)))))) :=
  sd_setR (ps_setLc hc hN hy hyl hsw hi ok hg ht he hs) (new_read (lc_read hts hx (fun _ _ _ h => h) (fun _ _ _ _ h => h) (fun _ _ _ h => h) fun _ _ _ h => h))
theorem sd_setLc2 (hc : X.calm = true) (hN : X.N.Nodup) (hy : X.N[i]? = some y) (hyl : X.env.scope.names.lookup y = some .local) (hsw : swapsWith (.ListComp elt [⟨tg, iter, ifs, 0⟩, ⟨tg1, iter1, ifs1, 0⟩] scope pos) (some (.Name y py)) spos.line X.env = pure true)
    (hi : PI X tg iter (tI X.K E src)) (ok : BlkOk X.N X.env.scope scope own) (hv : ∀ i ∈ vs1, i ∈ own.map (·.2)) (hts : ∀ i ∈ ts, i ∈ own.map (·.2)) (hx : ∀ d ρ x ρ', bnd d ρ ≠ .ex x ρ') (hts1 : ∀ i ∈ ts1, i ∈ vs1) (hx1 : ∀ d ρ x ρ', bnd1 d ρ ≠ .ex x ρ')
    (hg : BlkP X scope fun Y => PG Y tg (gD X.K ts bnd)) (ht : BlkP X scope fun Y => PTs Y ifs (tT X.K EN tt)) (hi1 : BlkP X scope fun Y => PI Y tg1 iter1 (tI X.K EN src1)) (hg1 : BlkP X scope fun Y => PG Y tg1 (gD X.K ts1 bnd1)) (ht1 : BlkP X scope fun Y => PTs Y ifs1 (tT X.K EN tt1))
    (he : BlkP X scope fun Y => PE Y elt (tD X.K EN el)) (hs : ∀ x, foldedSetIterable iter X.env x = pure x := by intro _; rfl) (hs1 : ∀ env x, foldedSetIterable iter1 env x = pure x := by intro _ _; rfl) :
    PS X (.Assign [.Name y py] (.ListComp elt [⟨tg, iter, ifs, 0⟩, ⟨tg1, iter1, ifs1, 0⟩] scope pos) spos) (tS X.K E (setS i (frzM (lc2M src bnd tt src1 bnd1 tt1 el (own.map (·.2)) vs1)))) :=
  sd_setR (ps_setLc2 hc hN hy hyl hsw hi ok hv hg ht hi1 hg1 ht1 he hs hs1) (new_read (lc2_read hts hx hts1 hx1 hv (fun _ _ _ h => h) (fun _ _ _ _ h => h) (fun _ _ _ h => h) (fun _ _ _ h => h) (fun _ _ _ _ h => h) (fun _ _ _ h => h) fun _ _ _ h => h))
end
end Nc

/-! Set comprehensions of ints, put in order at once. -/
namespace Nc
open PySem PySem.Spec PyProof.Rows L2

/-- a set of ints has one more -/
def grown (w : World) (L : Addr) (k : Int) (S : Int → Bool) (n : Nat) : HO := SetO w L (fun j => S j || decide (j = k)) (if S k = true then n else n + 1)
section
variable {X : Cx} {pins : List (Addr × Obj)} {σ : L2.St} {H : Hp} {s : Shared}
theorem set_one {L : Addr} {S : Int → Bool} {n : Nat} {k : Int} {u : Value} {E : Value → Shared → Prop} {Q : Value → Shared → Prop} (I : Inv X pins σ H s) (hL : H L = some (SetO X.w L S n)) (few : n + 1 < scanBound) (r : RelV (.int k) u)
    (go : ∀ s', Inv X pins σ (upd H L (grown X.w L k S n)) s' → Q .none s') : wpAny (model X.prog X.w) X.A (call (.builtin "set.add") [.ref L, u]) Q E s := by
  obtain ⟨tk, rfl⟩ := r
  refine setR_add (setO_get I hL) few fun h' but R' => go _ ?_
  have there : ∃ o, h'.get? L = some o := by
    obtain ⟨o, _, _, _, e, _⟩ := id R'
    exact ⟨o, e⟩
  exact I.write (x := L) (e := L) (t' := s.toks + 1) (by rw [hL]; trivial) (.inl rfl) (fun b o hb e => (but.2 b hb).trans e) there (setO_new R')
/-- {elt for tg in iter if ..} of ints: W by the turn and a measure -/
def tSi (w : World) (wi : TI) (g : TG) (tt : TT) (te : TE) (vs : List Nat) : TE := fun σ H Q => wi σ H fun J H1 => ∀ L, H1 L = none → ∃ W : Nat → Nat → Hp → Prop, (∃ m, W 0 m (upd H1 L (SetO w L (fun _ => false) 0))) ∧ ∀ i m H, W i m H →
  (J.stop i H ∧ Q (.ref L) H) ∨ (J.go i H ∧ ∃ Nx : Hp → Prop, (∀ H', Nx H' → ∃ m', m' < m ∧ W (i + 1) m' H') ∧ ∀ x H', J.yld i H x H' → g x (wipe σ vs) H' fun σ2 H2 => wipe σ2 vs = wipe σ vs ∧ tt σ2 H2 fun b H3 =>
    if b = true then te σ2 H3 fun y H4 => ∃ (k : Int) (S : Int → Bool) (n : Nat), y = .int k ∧ H4 L = some (SetO w L S n) ∧ n + 1 < scanBound ∧ Nx (upd H4 L (grown w L k S n)) else Nx H3)
theorem si_core {Q : VK} {elt tg iter : Expr} {ifs : List Expr} {scope : Scope} {own : List (Str × Nat)} {pos pos' : Pos} {wi : TI} {g : TG} {tt : TT} {te : TE} {use : Option (Value → Sem Unit)} {Qf : Value → Shared → Prop}
    (hc : X.calm = true) (hN : X.N.Nodup) (I : Inv X pins σ H s) (hi : PI X tg iter wi) (ok : BlkOk X.N X.env.scope scope own) (hg : BlkP X scope fun Y => PG Y tg g) (ht : BlkP X scope fun Y => PTs Y ifs tt) (he : BlkP X scope fun Y => PE Y elt te)
    (hs : ∀ x, foldedSetIterable iter X.env x = pure x) (h : tSi X.w wi g tt te (own.map (·.2)) σ H Q)
    (back : ∀ L C s' m H', Inv X pins σ H' s' → Q (.ref L) H' → s'.heap.Ns C m → FpOk X pins H' C → compPost (model X.prog X.w) X.A X.xe use Qf (.ref L) C (.ok .next) s') :
    wpAny (model X.prog X.w) X.A (comprehension (.SetComp elt [⟨tg, iter, ifs, 0⟩] scope pos) scope X.env pos' (newSet (.type "set")) false (eval iter X.env) use) Qf X.xe s := by
  have free : ∀ y ∈ scope.names, y.2 = .free → ∃ c, X.env.cells.lookup y.1 = some c := fun y hy e => (ok.free y hy e).elim (fun k => I.ok.has _ (.inl k)) fun k => I.ok.has _ (.inr k)
  refine wpAny_comprehension_free (use := use) rfl hs (closure_ok free) ok.kind (fun y hy e => by rw [ok.uniq y hy, e]) (thn (hi.run pins s σ H _ I h) fun v s1 h1 => thn h1 fun w s2 h2 => ?_)
  obtain ⟨it, fp, tn, J, Ha, rfl, Ia, T, ta, fa, q⟩ := h2
  refine PpSet.newSet_ok (newEnv_comp ?_)
  generalize hL : s2.heap.objs.size = L
  have nL : Ha L = none := Ia.hok.fresh (Nat.le_of_eq hL)
  obtain ⟨W, ⟨m0, w0⟩, turn⟩ := q L nL
  -- the empty set is laid
  generalize e3 : ({ s2 with heap := s2.heap.push { cls := .type "set", dict := none, data := .set #[] 0 (.fresh 0 0 (!X.w.params.followText "set-order")) } } : Shared) = s3
  have p3 : s3.heap = s2.heap.push { cls := .type "set", dict := none, data := .set #[] 0 (.fresh 0 0 (!X.w.params.followText "set-order")) } := by rw [← e3]
  have k3 : ∀ b o, s2.heap.get? b = some o → s3.heap.get? b = some o := fun b o e => by rw [p3]; exact Heap.get?_push_of_some _ e
  generalize eb : upd Ha L (SetO X.w L (fun _ => false) 0) = Hb at w0
  have I3 : Inv X pins σ Hb s3 := by
    rw [← e3, ← eb]
    refine Ia.laid (t' := s2.toks) (fun b o e => Heap.get?_push_of_some _ e) (Nat.le_of_eq hL) ?_
    rw [← hL]
    exact setO_new (setR_fresh X.w)
  have young : ∀ b ∈ fp, b < s2.heap.objs.size := fun b hb => (T.obj _ _ ta b hb).elim fun o e => Heap.lt_size e.1
  have f3 : ∀ b ∈ fp, FpOk X pins Hb b ∧ b < s3.heap.objs.size := fun b hb => by
    refine ⟨⟨?_, (fa b hb).2⟩, by rw [p3, Heap.size_push]; exact Nat.lt_succ_of_lt (young b hb)⟩
    rw [← eb, upd_ne (by rw [← hL]; exact Nat.ne_of_lt (young b hb))]
    exact (fa b hb).1
  have t3 : tn 0 s3.heap := T.keep _ _ _ ta fun b _ o e => k3 b o e
  have I4 := block_start I3 ok hN f3
  generalize eC : s3.heap.objs.size = C at I4 f3
  have pg := hg s3 Hb C (cellsFrom (C + 1) scope.names (cloFrom X.env.cells scope.names [])) fp
  have pt := ht s3 Hb C (cellsFrom (C + 1) scope.names (cloFrom X.env.cells scope.names [])) fp
  have pe := he s3 Hb C (cellsFrom (C + 1) scope.names (cloFrom X.env.cells scope.names [])) fp
  show codeAny _ _ (.compStart (.SetComp elt [⟨tg, iter, ifs, 0⟩] scope pos) 0 (.ref it) (.ref L) (compEnvC scope (cellsFrom (C + 1) scope.names (cloFrom X.env.cells scope.names [])) C X.env)) (compPost (model X.prog X.w) X.A X.xe use Qf (.ref L) C) { s3 with heap := pushCells (s3.heap.push { cls := .type "dict", data := .dict #[] }) scope.names }
  have nfp : ∀ b ∈ fp, Hb b = none := fun b hb => (f3 b hb).1.1
  generalize ec : compEnvC scope (cellsFrom (C + 1) scope.names (cloFrom X.env.cells scope.names [])) C X.env = ce at I4 pg pt pe ⊢
  have cL : ce.locals = C := by subst ec; rfl
  generalize e4 : ({ s3 with heap := pushCells (s3.heap.push { cls := .type "dict", data := .dict #[] }) scope.names } : Shared) = s4 at I4 ⊢
  have t4 : tn 0 s4.heap := T.keep _ _ _ t3 fun b _ o e => by rw [← e4]; exact pushCells_keeps _ _ _ _ (Heap.get?_push_of_some _ e)
  have fpk : ∀ {σ' : L2.St} {H' : Hp} {s' : Shared}, Inv (X.blk s3 Hb scope ce fp) [] σ' H' s' → (∀ b ∈ fp, H' b = none) → ∀ b ∈ fp, FpOk (X.blk s3 Hb scope ce fp) [] H' b := fun {σ' H' s'} I' n b hb =>
    ⟨n b hb, (I'.ok.exf b hb).1, I'.ok.exfs b hb, .inl hb, fun x c e => (I'.ok.exf b hb).2 x c e, fun p hp => by cases hp⟩
  have loop : codeAny (model X.prog X.w) X.A (.compLoop (.SetComp elt [⟨tg, iter, ifs, 0⟩] scope pos) 0 (.ref it) (.ref L) ce) (compPost (model X.prog X.w) X.A X.xe use Qf (.ref L) C) s4 := by
    refine PpSet.compLoopS_any (fun n s' => ∃ i H', Inv (X.blk s3 Hb scope ce fp) [] (wipe σ (own.map (·.2))) H' s' ∧ tn i s'.heap ∧ (∀ b ∈ fp, H' b = none) ∧ W i n H') ?_ m0 ⟨0, Hb, I4, t4, nfp, w0⟩
    rintro n s5 ⟨i, H5, I5, t5, n5, w5⟩
    rcases turn i n H5 w5 with ⟨stop, qq⟩ | ⟨go, Nx, hNx, step⟩
    · refine thnF (T.done (X.blk s3 Hb scope ce fp) rfl rfl rfl hc i [] s5 _ H5 (fun _ _ => False) I5 (fpk I5 n5) t5 stop) fun r s6 ⟨hr, I6⟩ => ?_
      subst hr
      have I7 : Inv X pins σ H5 s6 := I3.call' (ch := fp) I6.os I6.base I6.hok I6.bare fun b hb => ⟨(f3 b hb).1.2.2.2.1, (f3 b hb).1.2.1, (f3 b hb).1.2.2.2.2.1, (f3 b hb).1.2.2.2.2.2⟩
      obtain ⟨m, hn, _⟩ := I6.loc
      have hn : s6.heap.Ns ce.locals m := hn
      have nC : H5 ce.locals = none := I6.free
      rw [cL] at hn nC
      exact back L C s6 m H5 I7 qq hn (I3.fpOk (Nat.le_of_eq eC) nC)
    · refine thnF (T.item (X.blk s3 Hb scope ce fp) rfl rfl rfl hc i [] s5 _ H5 (fun _ _ => False) I5 (fpk I5 n5) t5 go) fun r s6 ⟨u, hr, h6⟩ => ?_
      subst hr
      refine thnF h6 fun _ s7 ⟨x, H7, I7, r7, y7, t7, n7⟩ => ?_
      have I7p := I7.pinned (fpk I7 n7) (T.obj _ _ t7)
      refine thnF (pg.run _ s7 _ H7 x u _ I7p r7 (step x H7 y7)) fun _ s8 ⟨σ8, H8, I8, hw8, q8⟩ => ?_
      refine thnF (pt.run _ s8 σ8 H8 _ I8 q8) fun b s9 ⟨H9, I9, q9⟩ => ?_
      have fin : ∀ {s' : Shared} {H' : Hp}, Inv (X.blk s3 Hb scope ce fp) ([] ++ pinsAt fp s7.heap) σ8 H' s' → Nx H' → ∃ m, m < n ∧ ∃ i H', Inv (X.blk s3 Hb scope ce fp) [] (wipe σ (own.map (·.2))) H' s' ∧ tn i s'.heap ∧ (∀ b ∈ fp, H' b = none) ∧ W i m H' := fun {s' H'} I' nx => by
        obtain ⟨m', hm, w'⟩ := hNx H' nx
        have at' : ∀ b ∈ fp, ∀ o, s7.heap.get? b = some o → s'.heap.get? b = some o ∧ H' b = none := fun b hb o e => by
          have z := I'.pin (b, o) (List.mem_append_right _ (List.mem_append_right _ (mem_pinsAt hb e)))
          exact ⟨z.1, z.2.1⟩
        refine ⟨m', hm, i + 1, H', (I'.unpinned (pins := [])).weak (by rw [← hw8, wipe_length]) (fun j v e => ?_), T.keep _ _ _ t7 fun b hb o e => (at' b hb o e).1, fun b hb => (T.obj _ _ t7 b hb).elim fun o e => (at' b hb o e.1).2, w'⟩
        rw [← hw8] at e
        exact (wipe_some e).1
      cases b with
      | false =>
        simp only [Bool.false_eq_true, if_false] at q9 ⊢
        exact fin I9 q9
      | true =>
        simp only [if_true] at q9 ⊢
        refine thnF (pe.run _ s9 σ8 H9 _ I9 q9) fun z s10 ⟨yv, H10, I10, r10, k, S, n0, ey, hL10, few, nx⟩ => ?_
        subst ey
        exact set_one (X := X.blk s3 Hb scope ce fp) I10 hL10 few r10 fun s11 I11 => fin I11 nx
  exact PpSet.codeAny_compStart_set loop (T.self X.A 0 _ _ _ t4 loop)
theorem pe_si {elt tg iter : Expr} {ifs : List Expr} {scope : Scope} {own : List (Str × Nat)} {pos : Pos} {wi : TI} {g : TG} {tt : TT} {te : TE} (hc : X.calm = true) (hN : X.N.Nodup) (hi : PI X tg iter wi) (ok : BlkOk X.N X.env.scope scope own)
    (hg : BlkP X scope fun Y => PG Y tg g) (ht : BlkP X scope fun Y => PTs Y ifs tt) (he : BlkP X scope fun Y => PE Y elt te) (hs : ∀ x, foldedSetIterable iter X.env x = pure x := by intro _; rfl) : PE X (.SetComp elt [⟨tg, iter, ifs, 0⟩] scope pos) (tSi X.w wi g tt te (own.map (·.2))) := by
  refine ⟨fun pins s σ H Q I h => ?_⟩
  rw [PpSet.eval_SetComp]
  refine si_core hc hN I hi ok hg ht he hs h fun L C s' m H' I' q hn f => ⟨m, hn, fun h'' sb => ?_⟩
  obtain ⟨f0, f1, f2, f3, f4, f5⟩ := f
  exact ⟨.ref L, H', I'.turned (t' := s'.toks) (fun b o hb e => (sb.2 b hb).trans e) f0 f1 f3 f4 f5, rfl, q⟩
end

/-! ### the loop, whatever is filled -/
section
variable {K : PySem.W.Frag} {σ σ1 : L2.St} {B B1 : Fz} {H H1 : Hp} {ρ ρ1 : Rho} {L : Addr} {bnd : D → M Unit} {tt : M Bool} {el : M D} {vs ts : List Nat} {E : WX} {src : M (List D)}
theorem lcLoop_pre : ∀ {ds acc out : List D} {ρ ρ' : Rho}, lcLoop bnd tt el vs ds acc ρ = .ok out ρ' → acc <+: out
  | [], acc, out, ρ, ρ', h => by
    simp only [lcLoop, M.ret] at h
    cases h
    exact List.prefix_refl _
  | d :: ds, acc, out, ρ, ρ', h => by
    obtain ⟨_, r, ρ2, _, h2⟩ := lcLoop_cons h
    have := lcLoop_pre h2
    cases r with
    | none => exact this
    | some z => exact (List.prefix_append acc [z]).trans this
theorem lc_loopG {g : TG} {t : TT} {te : TE} (Ct : Fz → List D → HO → Prop) (Add : V → Hp → (Hp → Prop) → Prop) {out : List D} (mono : ∀ B B' acc o, FSame B B' → Ct B acc o → Ct B' acc o)
    (hadd : ∀ B H acc z y o Nx, H L = some o → Ct B acc o → Rep K B z y → acc.length < sizeLine → (acc ++ [z]) <+: out → (∀ o', Ct B (acc ++ [z]) o' → Nx (upd H L o')) → Add y H Nx)
    (hts : ∀ i ∈ ts, i ∈ vs) (hx : ∀ d ρ x ρ', bnd d ρ ≠ .ex x ρ') (kg : ∀ v σ H Q, gD K ts bnd v σ H Q → g v σ H Q) (kt : ∀ σ H Q, tT K EN tt σ H Q → t σ H Q) (ke : ∀ σ H Q, tD K EN el σ H Q → te σ H Q)
    {J : It} {ds acc0 : List D} {o0 : HO} {ρo : Rho} {R : Hp → Prop} (ys : Yields K B1 J ds) (c1 : Cf K B1 (hid L H1) σ ρ1) (hL : H1 L = some o0) (nB1 : B1 L = none) (no1 : ¬ OwnA σ B1 ρ1 L) (r0 : Ct B1 acc0 o0)
    (hrun : lcLoop bnd tt el vs ds acc0 ρ1 = .ok out ρo) (hfin : ∀ B' H' o', Step K σ B1 (hid L H1) ρ1 σ B' (hid L H') ρo → H' L = some o' → Ct B' out o' → B' L = none → ¬ OwnA σ B' ρo L → R H') :
    ∃ W : Nat → Nat → Hp → Prop, (∃ m, W 0 m H1) ∧ ∀ i m H, W i m H → (J.stop i H ∧ R H) ∨ (J.go i H ∧ ∃ Nx : Hp → Prop, (∀ H', Nx H' → ∃ m', m' < m ∧ W (i + 1) m' H') ∧ ∀ x H', J.yld i H x H' → g x (wipe σ vs) H' fun σ2 H2 => wipe σ2 vs = wipe σ vs ∧ t σ2 H2 fun b H3 =>
      if b = true then te σ2 H3 fun y H4 => Add y H4 Nx else Nx H3) := by
  refine ⟨fun i m H => m = ds.length - i ∧ i ≤ ds.length ∧ ∃ (B : Fz) (ρ : Rho) (acc : List D) (o : HO), Step K σ B1 (hid L H1) ρ1 σ B (hid L H) ρ ∧ B L = none ∧ ¬ OwnA σ B ρ L ∧ H L = some o ∧ Ct B acc o ∧ lcLoop bnd tt el vs (ds.drop i) acc ρ = .ok out ρo,
    ⟨ds.length, by simp, Nat.zero_le _, B1, ρ1, acc0, o0, Step.refl c1, nB1, no1, hL, r0, hrun⟩, ?_⟩
  rintro i m H ⟨rfl, hi, B, ρ, acc, o, st, nB, no, hH, ra, h⟩
  have c : Cf K B H σ ρ := st.cf.shown
  have sB := st.bb
  by_cases hlt : i < ds.length
  · refine .inr ⟨ys.go i H hlt (sB.h.trans c.bh), fun H' => ∃ (B : Fz) (ρ : Rho) (acc : List D) (o : HO), Step K σ B1 (hid L H1) ρ1 σ B (hid L H') ρ ∧ B L = none ∧ ¬ OwnA σ B ρ L ∧ H' L = some o ∧ Ct B acc o ∧ lcLoop bnd tt el vs (ds.drop (i + 1)) acc ρ = .ok out ρo,
      fun H' z => ⟨ds.length - (i + 1), by omega, rfl, hlt, z⟩, fun x H2 hy => ?_⟩
    have hd : ds[i]? = some ds[i] := List.getElem?_eq_getElem hlt
    rw [List.drop_eq_getElem_cons hlt] at h
    obtain ⟨hz, r, ρ', er, h'⟩ := lcLoop_cons h
    obtain ⟨B2, st2, rx⟩ := ys.item c sB hd hy
    obtain ⟨st2h, h2L, n2, o2⟩ := st2.hid hH nB no
    unfold turnM at er
    split at er
    · rename_i r2 ρ3 eblk
      cases er
      have now : ¬ OwnA (wipe σ vs) B2 (wipeR ρ vs) L := fun ⟨j, z⟩ => o2 ⟨j, (own_wipe z st2.cf.len).1⟩
      have fin : ∀ {B3 H3 σ3 ρ3}, Step K (wipe σ vs) B2 H2 (wipeR ρ vs) σ3 B3 H3 ρ3 → wipe σ3 vs = wipe σ vs → Step K σ B1 (hid L H1) ρ1 σ B3 (hid L H3) (mixR ρ ρ3 vs) ∧ H3 L = some o ∧ B3 L = none ∧ ¬ OwnA σ B3 (mixR ρ ρ3 vs) L := fun {B3 H3 σ3 ρ3} s3 hw => by
        obtain ⟨s3h, h3L, n3, o3⟩ := s3.hid h2L n2 now
        have s4 := s3h.unwiped st2h.cf hw
        refine ⟨(st.trans st2h).trans s4, h3L, n3, fun z => ?_⟩
        have s4r := s3.unwiped st2.cf hw
        rcases s4r.own L z with q | q
        · exact o2 q
        · rw [h2L] at q
          cases q
      obtain ⟨u, ρ4, e1, eblk⟩ := ok_bnd eblk
      refine kg _ _ _ _ ⟨B2, wipeR ρ vs, ds[i], st2.cf.wiped, rx, ρ4, e1, fun σ3 B3 H3 s3 hl hj _ => ?_⟩
      have hw : wipe σ3 vs = wipe σ vs := wipe_same hts (by rw [hl, wipe_length]) hj
      refine ⟨hw, kt _ _ _ ⟨B3, ρ4, s3.cf, ?_⟩⟩
      obtain ⟨b, ρ5, e2, eblk⟩ := ok_bnd eblk
      rw [e2]
      intro b' B4 H4 s4 rb
      have eb : b = b' := rb
      subst eb
      have hs4 := s3.trans s4
      cases b with
      | false =>
        simp only [Bool.false_eq_true, if_false] at eblk
        cases eblk
        refine iteF ?_
        obtain ⟨q3, q1, q2, q4⟩ := fin hs4 hw
        exact ⟨B4, _, acc, o, q3, q2, q4, q1, mono _ _ _ _ (st2.bb.trans hs4.bb) ra, h'⟩
      | true =>
        simp only [if_true] at eblk
        refine iteT (ke _ _ _ ⟨B4, ρ5, s4.cf, ?_⟩)
        obtain ⟨z, ρ6, e3, eblk⟩ := ok_bnd eblk
        rw [e3]
        cases eblk
        intro y B5 H5 s5 ry
        have ry : Rep K B5 z y := ry
        have hs5 := hs4.trans s5
        obtain ⟨q3, q1, q2, q4⟩ := fin hs5 hw
        exact hadd B5 H5 acc z y o _ q1 (mono _ _ _ _ (st2.bb.trans hs5.bb) ra) ry hz (lcLoop_pre h') fun o' k => ⟨B5, _, acc ++ [z], o', by rw [hid_upd]; exact q3, q2, q4, upd_same, k, h'⟩
    · cases er
  · have e : i = ds.length := by omega
    subst e
    rw [List.drop_length] at h
    simp only [lcLoop, M.ret] at h
    cases h
    exact .inl ⟨ys.stop H (sB.h.trans c.bh), hfin B H o st hH ra nB no⟩
end

/-! ### in order, each once -/
def insU (k : Int) : List Int → List Int
  | [] => [k]
  | x :: xs => if k < x then k :: x :: xs else if k = x then x :: xs else x :: insU k xs
def sortU (ns : List Int) : List Int := ns.foldl (fun acc k => insU k acc) []
theorem mem_insU {k j : Int} : ∀ {xs : List Int}, j ∈ insU k xs ↔ j = k ∨ j ∈ xs
  | [] => by simp [insU]
  | x :: xs => by
    unfold insU
    split
    · simp
    · split
      · rename_i e
        subst e
        simp
      · rw [List.mem_cons, mem_insU, List.mem_cons]
        constructor
        · rintro (h | h | h)
          · exact .inr (.inl h)
          · exact .inl h
          · exact .inr (.inr h)
        · rintro (h | h | h)
          · exact .inr (.inl h)
          · exact .inl h
          · exact .inr (.inr h)
theorem insU_sorted {k : Int} : ∀ {xs : List Int}, xs.Pairwise (· < ·) → (insU k xs).Pairwise (· < ·)
  | [], _ => by simp [insU]
  | x :: xs, h => by
    obtain ⟨h1, h2⟩ := List.pairwise_cons.mp h
    unfold insU
    split
    · rename_i hk
      exact List.pairwise_cons.mpr ⟨fun y hy => by
        rcases List.mem_cons.mp hy with rfl | hy
        · exact hk
        · have := h1 y hy
          omega, h⟩
    · split
      · exact h
      · exact List.pairwise_cons.mpr ⟨fun y hy => by
          rcases mem_insU.mp hy with rfl | hy
          · omega
          · exact h1 y hy, insU_sorted h2⟩
theorem insU_len {k : Int} : ∀ {xs : List Int}, xs.Pairwise (· < ·) → (insU k xs).length = if k ∈ xs then xs.length else xs.length + 1
  | [], _ => by simp [insU]
  | x :: xs, h => by
    obtain ⟨h1, h2⟩ := List.pairwise_cons.mp h
    unfold insU
    split
    · rename_i hk
      have : k ∉ x :: xs := fun z => by
        rcases List.mem_cons.mp z with rfl | z
        · omega
        · have := h1 k z
          omega
      rw [if_neg this]
      rfl
    · split
      · rename_i e
        subst e
        simp
      · rename_i hk hne
        rw [List.length_cons, insU_len h2]
        by_cases hm : k ∈ xs
        · rw [if_pos hm, if_pos (List.mem_cons_of_mem _ hm)]
          rfl
        · rw [if_neg hm, if_neg (fun z => by rcases List.mem_cons.mp z with z | z; exact hne z; exact hm z)]
          rfl
theorem sortU_snoc (ns : List Int) (k : Int) : sortU (ns ++ [k]) = insU k (sortU ns) := by
  unfold sortU
  rw [List.foldl_append]
  rfl
theorem foldU_sorted : ∀ (ns : List Int) {acc : List Int}, acc.Pairwise (· < ·) → (ns.foldl (fun acc k => insU k acc) acc).Pairwise (· < ·)
  | [], _, h => h
  | n :: ns, _, h => foldU_sorted ns (insU_sorted h)
theorem sortU_sorted (ns : List Int) : (sortU ns).Pairwise (· < ·) := foldU_sorted ns List.Pairwise.nil
theorem mem_foldU {j : Int} : ∀ (ns : List Int) {acc : List Int}, j ∈ ns.foldl (fun acc k => insU k acc) acc ↔ j ∈ acc ∨ j ∈ ns
  | [], acc => by simp
  | n :: ns, acc => by
    rw [List.foldl_cons, mem_foldU ns, mem_insU, List.mem_cons]
    constructor
    · rintro ((h | h) | h)
      · exact .inr (.inl h)
      · exact .inl h
      · exact .inr (.inr h)
    · rintro (h | h | h)
      · exact .inl (.inr h)
      · exact .inl (.inl h)
      · exact .inr h
theorem mem_sortU {j : Int} {ns : List Int} : j ∈ sortU ns ↔ j ∈ ns := by
  unfold sortU
  rw [mem_foldU]
  simp
/-- two strictly rising lists with the same members are one -/
theorem rising_one : ∀ {xs ys : List Int}, xs.Pairwise (· < ·) → ys.Pairwise (· < ·) → (∀ j, j ∈ xs ↔ j ∈ ys) → xs = ys
  | [], [], _, _, _ => rfl
  | [], y :: ys, _, _, h => by
    have := (h y).mpr List.mem_cons_self
    cases this
  | x :: xs, [], _, _, h => by
    have := (h x).mp List.mem_cons_self
    cases this
  | x :: xs, y :: ys, hx, hy, h => by
    obtain ⟨x1, x2⟩ := List.pairwise_cons.mp hx
    obtain ⟨y1, y2⟩ := List.pairwise_cons.mp hy
    have e : x = y := by
      rcases List.mem_cons.mp ((h x).mp List.mem_cons_self) with e | m
      · exact e
      · rcases List.mem_cons.mp ((h y).mpr List.mem_cons_self) with e | m'
        · exact e.symm
        · have := y1 x m
          have := x1 y m'
          omega
    subst e
    congr 1
    refine rising_one x2 y2 fun j => ⟨fun m => ?_, fun m => ?_⟩
    · rcases List.mem_cons.mp ((h j).mp (List.mem_cons_of_mem _ m)) with e | q
      · subst e
        have := x1 j m
        omega
      · exact q
    · rcases List.mem_cons.mp ((h j).mpr (List.mem_cons_of_mem _ m)) with e | q
      · subst e
        have := y1 j m
        omega
      · exact q
theorem sortU_len (ns : List Int) : (sortU ns).length ≤ ns.length := by
  have : ∀ (ns acc : List Int), acc.Pairwise (· < ·) → (ns.foldl (fun acc k => insU k acc) acc).length ≤ acc.length + ns.length := by
    intro ns
    induction ns with
    | nil => intro acc _; simp
    | cons n ns ih =>
      intro acc h
      rw [List.foldl_cons, List.length_cons]
      have a := ih _ (insU_sorted (k := n) h)
      have b := insU_len (k := n) h
      split at b <;> omega
  have := this ns [] List.Pairwise.nil
  simpa [sortU] using this

/-! ### sorted({.. for ..}) of ints -/
def fewI (out : List D) : Option O := (D.ints out).bind fun ns => if ns.length < 63 then some (.lst ((sortU ns).map D.int)) else none
def ssM (src : M (List D)) (bnd : D → M Unit) (tt : M Bool) (el : M D) (vs : List Nat) : M O := src >>= fun ds => lcLoop bnd tt el vs ds [] >>= fun out => M.opt (fewI out)
theorem ints_mem {out : List D} {ns : List Int} (h : D.ints out = some ns) : ∀ z ∈ out, ∃ k, z = .int k := fun z hz => by
  rw [ints_map h] at hz
  obtain ⟨k, _, e⟩ := List.mem_map.mp hz
  exact ⟨k, e.symm⟩
section
variable {X : Cx} {E : WX} {elt tg iter : Expr} {ifs : List Expr} {scope : Scope} {own : List (Str × Nat)} {pos p : Pos} {bnd : D → M Unit} {tt : M Bool} {el : M D} {ts : List Nat} {src : M (List D)}
theorem ss_read {wi : TI} {g : TG} {t : TT} {te : TE} {vs : List Nat} (hts : ∀ i ∈ ts, i ∈ vs) (hx : ∀ d ρ x ρ', bnd d ρ ≠ .ex x ρ') (ki : ∀ σ H Q, tI X.K E src σ H Q → wi σ H Q) (kg : ∀ v σ H Q, gD X.K ts bnd v σ H Q → g v σ H Q) (kt : ∀ σ H Q, tT X.K EN tt σ H Q → t σ H Q) (ke : ∀ σ H Q, tD X.K EN el σ H Q → te σ H Q) :
    ∀ σ H Q, tN X.K E (ssM src bnd tt el vs) σ H Q → tCB (rSortedSet X.w) (tCons (tSi X.w wi g t te vs) tNil) σ H Q := by
  rintro σ H0 Q ⟨B0, ρ0, c0, h0⟩
  show tSi X.w wi g t te vs σ H0 fun x H1 => rSortedSet X.w [x] H1 Q
  refine ki _ _ _ ⟨B0, ρ0, c0, h0.seqS.imp ?_⟩
  rintro - - J - H1 - - - ⟨ds, B1, ρ1, st1, ys, h1⟩
  have ys : Yields X.K B1 J ds := ys
  intro L hL
  obtain ⟨out, ρo, hrun⟩ : ∃ out ρo, lcLoop bnd tt el vs ds [] ρ1 = .ok out ρo := by
    cases e : lcLoop bnd tt el vs ds [] ρ1 with
    | no =>
      rw [bnd_no e] at h1
      exact h1.elim
    | ex y ρ2 => exact absurd e lcLoop_noex
    | ok r ρ2 => exact ⟨r, ρ2, rfl⟩
  rw [bnd_ok hrun] at h1
  obtain ⟨o, eo, k⟩ := h1.optS
  unfold fewI at eo
  obtain ⟨ns, en, e2⟩ := Option.bind_eq_some_iff.mp eo
  split at e2
  · rename_i hz
    cases e2
    have nB1 := st1.cf.unfrozen hL
    have no1 := own_not_new st1.cf hL
    have hh1 : hid L (upd H1 L (SetO X.w L (fun _ => false) 0)) = H1 := by
      funext b
      by_cases e : b = L
      · subst e
        rw [hid_at, hL]
      · rw [hid_ne e, upd_ne e]
    have hlen : out.length = ns.length := by rw [ints_map en, List.length_map]
    refine lc_loopG (fun _ acc o => ∃ (ms : List Int) (S : Int → Bool), D.ints acc = some ms ∧ o = SetO X.w L S (sortU ms).length ∧ (∀ j, S j = true ↔ j ∈ ms))
      (fun y H4 Nx => ∃ (k : Int) (S : Int → Bool) (n : Nat), y = .int k ∧ H4 L = some (SetO X.w L S n) ∧ n + 1 < scanBound ∧ Nx (upd H4 L (grown X.w L k S n))) (fun _ _ _ _ _ z => z) ?_ hts hx kg kt ke ys (by rw [hh1]; exact st1.cf) upd_same nB1 no1 ⟨[], fun _ => false, rfl, rfl, fun j => by simp⟩ hrun ?_
    · rintro B H acc z y o Nx hHL ⟨ms, S, e1, rfl, hS⟩ rz _ hpre go
      obtain ⟨k, rfl⟩ := ints_mem en z (hpre.subset (by simp))
      have hml : acc.length = ms.length := by rw [ints_map e1, List.length_map]
      have hpl := hpre.length_le
      rw [List.length_append, List.length_singleton] at hpl
      have es : (sortU (ms ++ [k])).length = if S k = true then (sortU ms).length else (sortU ms).length + 1 := by
        rw [sortU_snoc, insU_len (sortU_sorted ms)]
        by_cases hk : k ∈ ms
        · rw [if_pos (mem_sortU.mpr hk), if_pos ((hS k).mpr hk)]
        · rw [if_neg (fun z => hk (mem_sortU.mp z)), if_neg (fun z => hk ((hS k).mp z))]
      have few : (sortU ms).length + 1 < scanBound := by
        have := sortU_len ms
        show _ < 4096
        omega
      have eacc : acc ++ [D.int k] = (ms ++ [k]).map D.int := by rw [ints_map e1, List.map_append]; rfl
      refine ⟨k, S, (sortU ms).length, rep_int rz, hHL, few, go _ ⟨ms ++ [k], fun j => S j || decide (j = k), by rw [eacc, ints_of_map], by rw [es]; rfl, fun j => ?_⟩⟩
      rw [Bool.or_eq_true, decide_eq_true_eq, hS, List.mem_append, List.mem_singleton]
    · rintro B' H' o' st hHL ⟨ms, S, e1, rfl, hS⟩ nB no
      rw [en] at e1
      cases e1
      refine ⟨L, S, _, rfl, hHL, Nat.lt_of_le_of_lt (sortU_len ns) (by omega), fun rs p hs hm hl hp => ?_⟩
      have er : rs = sortU ns := rising_one hs (sortU_sorted ns) fun j => by rw [hm, hS, mem_sortU]
      subst er
      rw [hh1] at st
      have s2 := (st1.trans st).pokeS (st1.wasNone hL) nB no (SetO X.w L S (sortU ns).length)
      have hHh : upd (hid L H') L (SetO X.w L S (sortU ns).length) = H' := by
        funext b
        by_cases e : b = L
        · subst e
          rw [upd_same, hHL]
        · rw [upd_ne e, hid_ne e]
      rw [hHh] at s2
      exact k _ _ _ (s2.trans (s2.cf.free hp _)) (new_lst s2.cf s2.there hp (Reps.of_ints _))
  · cases e2
theorem pn_sortedSc {p2 : Pos} (hg0 : Gl X "sorted") (hm0 : X.mg "sorted" = none) (hc : X.calm = true) (hN : X.N.Nodup) (hi : PI X tg iter (tI X.K E src)) (ok : BlkOk X.N X.env.scope scope own) (hts : ∀ i ∈ ts, i ∈ own.map (·.2)) (hx : ∀ d ρ x ρ', bnd d ρ ≠ .ex x ρ')
    (hg : BlkP X scope fun Y => PG Y tg (gD X.K ts bnd)) (ht : BlkP X scope fun Y => PTs Y ifs (tT X.K EN tt)) (he : BlkP X scope fun Y => PE Y elt (tD X.K EN el)) (hs : ∀ x, foldedSetIterable iter X.env x = pure x := by intro _; rfl)
    (hs1 : starEach [.SetComp elt [⟨tg, iter, ifs, 0⟩] scope pos] X.env = (false, eval (.SetComp elt [⟨tg, iter, ifs, 0⟩] scope pos) X.env) :: starEach [] X.env := by rfl) (hp : (backTo p2 (starEach [] X.env)).any (·.1) = false := by rfl) :
    PE X (.Call (.Name "sorted" p) [.SetComp elt [⟨tg, iter, ifs, 0⟩] scope pos] [] p2) (tN X.K E (ssM src bnd tt el (own.map (·.2)))) :=
  pe_weak (pe_callB (cr_sortedSet hc) hg0 hm0 (by decide +kernel) (pa_cons (pe_si hc hN hi ok hg ht he hs) pa_nil hs1) (by decide) (by decide) hs1 hp) (ss_read hts hx (fun _ _ _ h => h) (fun _ _ _ _ h => h) (fun _ _ _ h => h) fun _ _ _ h => h)
end
end Nc

/-! isinstance; sets of tuples of ints put in order; two targets at once; t * 1. -/
namespace Nc
open PySem PySem.Spec PyProof.Rows L2

/-! ### isinstance -/
def tyD : D → Option String
  | .non => some "NoneType"
  | .bl _ => some "bool"
  | .int _ => some "int"
  | .str _ => some "str"
  | .lst _ => some "list"
  | .tup _ => some "tuple"
  | .dk _ _ => some "dict"
  | .dt _ _ => some "dict"
  | _ => none
def isiD (T : String) (d : D) : Option D := (tyD d).bind fun t => (kitB t T).map .bl
def isiD2 (T U : String) (d : D) : Option D := (tyD d).bind fun t => (kitB t T).bind fun a => (kitB t U).map fun b => .bl (a || b)
section
variable {K : PySem.W.Frag} {B : Fz} {H : Hp}
theorem tyX_of {d : D} {x : V} {t : String} (r : RepT K B H d x) (e : tyD d = some t) : TyX K H x (.type t) := by
  cases d <;> simp only [tyD, reduceCtorEq, Option.some.injEq] at e <;> subst e
  · have := rep_non (K := K) (B := B) r
    subst this
    exact .base .non
  · have := rept_bl r
    subst this
    exact .base (.bl _)
  · have := rept_int r
    subst this
    exact .base (.int _)
  · have := rept_str r
    subst this
    exact .base (.str _)
  · obtain ⟨p, xs, rfl, h1, _⟩ := r
    rcases h1 with (h1 | ⟨o, h1⟩) | ⟨o, its, n, h1, h2, _⟩
    · exact .base (.tup h1)
    · exact .fTuple h1
    · exact .kTuple h1 h2
  · obtain ⟨p, xs, rfl, h1, _⟩ := r
    exact .base (.lst h1)
  · obtain ⟨p, xs, rfl, h1, _⟩ := r
    exact .base (.dK h1)
  · obtain ⟨p, xs, rfl, h1, _⟩ := r
    exact .base (.dT h1)
end
section
variable {X : Cx} {E : WX} {pos p q pt : Pos} {a : Expr} {fa : M Opd} {x y : Str} {T U : String}
/-- isinstance(a, T), T a built-in class -/
theorem pd_isi (hg : Gl X "isinstance") (hm : X.mg "isinstance" = none) (ha : PE X a (tK X.K E fa)) (hgT : Gl X x) (hmT : X.mg x = none) (hT : bootBuiltins x = some (.type T)) (hn : x ≠ "__name__" := by decide) (hd : (x == ("__debug__" : Str)) = false := by decide)
    (hs : starEach [a, .Name x q] X.env = (false, eval a X.env) :: starEach [.Name x q] X.env := by rfl) (hs2 : starEach [.Name x q] X.env = (false, eval (.Name x q) X.env) :: starEach [] X.env := by rfl) (hp : (backTo pos (starEach [.Name x q] X.env)).any (·.1) = false := by rfl) :
    PE X (.Call (.Name "isinstance" p) [a, .Name x q] [] pos) (tD X.K E (k1 (isiD T) fa)) := by
  refine pe_weak (pe_callB call_isi hg hm PyProof.Rows.boot_isinstance (pa_cons ha (pa_cons (pe_bltn (v := .ty T) hgT hmT hT rfl hn hd) pa_nil hs2) hs) (by decide) (by decide) hs hp) ?_
  rintro σ H Q ⟨B, ρ, c, h⟩
  refine ⟨B, ρ, c, h.seq.imp ?_⟩
  rintro d ρ' v B' H1 - - - ⟨o, B1, ρ1, st1, rx, h1⟩
  obtain ⟨d, e1, h1⟩ := h1.getO
  obtain ⟨z, ez, k⟩ := h1.opt
  unfold isiD at ez
  obtain ⟨t, et, ez⟩ := Option.bind_eq_some_iff.mp ez
  obtain ⟨b, eb, ez⟩ := Option.map_eq_some_iff.mp ez
  subst ez
  exact ⟨v, .ty T, .type t, .type T, b, rfl, .ty T, tyX_of (RK.top st1.cf rx e1) et, kit_ty eb, k _ _ _ (Step.refl st1.cf) (by simp only [RD, Rep])⟩
/-- isinstance(a, (T, U)) -/
theorem pd_isi2 {kk : Nat} {q2 : Pos} (hg : Gl X "isinstance") (hm : X.mg "isinstance" = none) (ha : PE X a (tK X.K E fa)) (hgT : Gl X x) (hmT : X.mg x = none) (hT : bootBuiltins x = some (.type T)) (hgU : Gl X y) (hmU : X.mg y = none) (hU : bootBuiltins y = some (.type U))
    (hn : x ≠ "__name__" := by decide) (hd : (x == ("__debug__" : Str)) = false := by decide) (hn2 : y ≠ "__name__" := by decide) (hd2 : (y == ("__debug__" : Str)) = false := by decide)
    (hs : starEach [a, .Tuple [.Name x q, .Name y q2] kk pt] X.env = (false, eval a X.env) :: starEach [.Tuple [.Name x q, .Name y q2] kk pt] X.env := by rfl) (hs2 : starEach [.Tuple [.Name x q, .Name y q2] kk pt] X.env = (false, eval (.Tuple [.Name x q, .Name y q2] kk pt) X.env) :: starEach [] X.env := by rfl)
    (hs3 : starEach [.Name x q, .Name y q2] X.env = (false, eval (.Name x q) X.env) :: starEach [.Name y q2] X.env := by rfl) (hs4 : starEach [.Name y q2] X.env = (false, eval (.Name y q2) X.env) :: starEach [] X.env := by rfl)
    (hp : (backTo pos (starEach [.Tuple [.Name x q, .Name y q2] kk pt] X.env)).any (·.1) = false := by rfl) :
    PE X (.Call (.Name "isinstance" p) [a, .Tuple [.Name x q, .Name y q2] kk pt] [] pos) (tD X.K E (k1 (isiD2 T U) fa)) := by
  refine pe_weak (pe_callB call_isiT hg hm PyProof.Rows.boot_isinstance (pa_cons ha (pa_cons (pe_tup (pa_cons (pe_bltn (v := .ty T) hgT hmT hT rfl hn hd) (pa_cons (pe_bltn (v := .ty U) hgU hmU hU rfl hn2 hd2) pa_nil hs4) hs3)) pa_nil hs2) hs) (by decide) (by decide) hs hp) ?_
  rintro σ H Q ⟨B, ρ, c, h⟩
  refine ⟨B, ρ, c, h.seq.imp ?_⟩
  rintro d ρ' v B' H1 - - - ⟨o, B1, ρ1, st1, rx, h1⟩
  obtain ⟨d, e1, h1⟩ := h1.getO
  obtain ⟨z, ez, k⟩ := h1.opt
  unfold isiD2 at ez
  obtain ⟨t, et, ez⟩ := Option.bind_eq_some_iff.mp ez
  obtain ⟨b1, eb1, ez⟩ := Option.bind_eq_some_iff.mp ez
  obtain ⟨b2, eb2, ez⟩ := Option.map_eq_some_iff.mp ez
  subst ez
  refine ⟨by show 2 ≤ sizeLine; decide, fun l hl => ?_⟩
  have st2 := st1.cf.free hl (.tup [.ty T, .ty U])
  have rx2 : RK X.K H1 σ B1 (upd H1 l (.tup [.ty T, .ty U])) ρ1 o v := RK.mono st2 rx
  refine ⟨v, l, [.ty T, .ty U], .type t, [.type T, .type U], b1 || b2, rfl, upd_same, .cons (.ty T) (.cons (.ty U) .nil), tyX_of (RK.top st2.cf rx2 e1) et, ?_, k _ _ _ st2 (by simp only [RD, Rep])⟩
  refine kitAny_cons (kit_ty eb1) (fun e => ?_) (fun e => by rw [e]; rfl)
  subst e
  rw [Bool.false_or]
  refine kitAny_cons (kit_ty eb2) (fun e => ?_) (fun e => e)
  subst e
  exact kitAny_nil
end

/-! ### two names at once -/
section
variable {X : Cx} {E : WX} {a b : Expr} {px py pt pos : Pos} {kt k2 pt2} {x y : Str} {i j : Nat} {fs : M (List D)}
def parS (i j : Nat) (fs : M (List D)) : M Out := fs >>= fun ds => fun ρ => match ds with
  | [d, e] => .ok .nx ((ρ.set i (some (.val d))).set j (some (.val e)))
  | _ => .no
theorem sd_par (h : ∀ {ta : TA}, PA X [a, b] ta → PS X (.Assign [.Tuple [.Name x px, .Name y py] kt pt] (.Tuple [a, b] k2 pt2) pos) (tPar i j ta)) (ha : PA X [a, b] (tL X.K E fs)) : PS X (.Assign [.Tuple [.Name x px, .Name y py] kt pt] (.Tuple [a, b] k2 pt2) pos) (tS X.K E (parS i j fs)) := by
  refine ps_weak (h ha) fun Dn σ H ⟨B, ρ, c, h⟩ => ⟨B, ρ, c, h.seq.imp ?_⟩
  rintro d ρ' vs B' H1 - - - ⟨ds, B1, ρ1, st1, rx, h1⟩
  have rx : Reps X.K B1 ds vs := rx
  match ds, rx, h1 with
  | [], _, h1 => exact h1.elim
  | [_], _, h1 => exact h1.elim
  | _ :: _ :: _ :: _, _, h1 => exact h1.elim
  | [d, e], rx, h1 =>
    simp only [Reps] at rx
    obtain ⟨v, _, rfl, r1, w, _, rfl, r2, rfl⟩ := rx
    exact ⟨v, w, rfl, h1 _ _ _ ((st1.trans (st1.cf.set i r1)).trans ((st1.cf.set i r1).cf.set j r2))⟩
end
end Nc

/-! sorted(set(xs)) of tuples of ints. -/
namespace Nc
open PySem PySem.Spec PyProof.Rows L2

theorem code_one {B : Int} : ∀ {k m : List Int}, k.length = m.length → TS.Bd B k → TS.Bd B m → TS.code B k = TS.code B m → k = m
  | [], [], _, _, _, _ => rfl
  | [], _ :: _, h, _, _, _ => by cases h
  | _ :: _, [], h, _, _, _ => by cases h
  | a :: k, b :: m, h, hk, hm, e => by
    have hl : k.length = m.length := by simpa using h
    rcases Int.lt_trichotomy a b with q | q | q
    · have := TS.code_lt hl hk.tail hm.tail q
      omega
    · subst q
      congr 1
      refine code_one hl hk.tail hm.tail ?_
      unfold TS.code at e
      rw [hl] at e
      omega
    · have := TS.code_lt hl.symm hm.tail hk.tail q
      omega
/-- the tuple behind a code -/
def ofCode (B : Int) (ks : List (List Int)) (c : Int) : List Int := (ks.find? fun k => TS.code B k == c).getD []
def sortT (B : Int) (ks : List (List Int)) : List (List Int) := (sortU (ks.map (TS.code B))).map (ofCode B ks)
theorem ofCode_mem {B : Int} {ks : List (List Int)} {c : Int} (h : c ∈ ks.map (TS.code B)) : ofCode B ks c ∈ ks ∧ TS.code B (ofCode B ks c) = c := by
  obtain ⟨k, hk, e⟩ := List.mem_map.mp h
  unfold ofCode
  cases q : ks.find? fun k => TS.code B k == c with
  | none =>
    have := List.find?_eq_none.mp q k hk
    simp [e] at this
  | some m =>
    refine ⟨List.mem_of_find?_eq_some q, ?_⟩
    have := List.find?_some q
    exact beq_iff_eq.mp this
theorem sortT_codes {B : Int} {ks : List (List Int)} : (sortT B ks).map (TS.code B) = sortU (ks.map (TS.code B)) := by
  unfold sortT
  rw [List.map_map]
  have : ∀ (l : List Int), (∀ c ∈ l, c ∈ ks.map (TS.code B)) → l.map (TS.code B ∘ ofCode B ks) = l := by
    intro l
    induction l with
    | nil => intro _; rfl
    | cons c l ih =>
      intro h
      rw [List.map_cons, ih fun c hc => h c (List.mem_cons_of_mem _ hc)]
      congr 1
      exact (ofCode_mem (h c List.mem_cons_self)).2
  exact this _ fun c hc => mem_sortU.mp hc
theorem sortT_mem {B : Int} {ks : List (List Int)} {k : List Int} (h : k ∈ sortT B ks) : k ∈ ks := by
  unfold sortT at h
  obtain ⟨c, hc, e⟩ := List.mem_map.mp h
  rw [← e]
  exact (ofCode_mem (mem_sortU.mp hc)).1
/-- what has the codes in order is it -/
theorem sortT_one {B : Int} {n : Nat} {ks ys : List (List Int)} (hk : ∀ k ∈ ks, k.length = n ∧ TS.Bd B k) (hy : ∀ k ∈ ys, k.length = n ∧ TS.Bd B k) (hs : (ys.map (TS.code B)).Pairwise (· < ·)) (hm : ∀ c, c ∈ ys.map (TS.code B) ↔ c ∈ ks.map (TS.code B)) : ys = sortT B ks := by
  have e : ys.map (TS.code B) = (sortT B ks).map (TS.code B) := by
    rw [sortT_codes]
    exact rising_one hs (sortU_sorted _) fun c => by rw [hm, mem_sortU]
  have hz : ∀ k ∈ sortT B ks, k.length = n ∧ TS.Bd B k := fun k h => hk k (sortT_mem h)
  clear hs hm
  generalize sortT B ks = zs at e hz
  induction ys generalizing zs with
  | nil =>
    cases zs with
    | nil => rfl
    | cons z zs => cases e
  | cons y ys ih =>
    cases zs with
    | nil => cases e
    | cons z zs =>
      rw [List.map_cons, List.map_cons] at e
      injection e with e1 e2
      have a := hy y List.mem_cons_self
      have b := hz z List.mem_cons_self
      rw [code_one (by rw [a.1, b.1]) a.2 b.2 e1, ih (fun k h => hy k (List.mem_cons_of_mem _ h)) zs e2 fun k h => hz k (List.mem_cons_of_mem _ h)]
def tupI : D → Option (List Int)
  | .tup ds => D.ints ds
  | _ => none
def tupsI : List D → Option (List (List Int))
  | [] => some []
  | d :: ds => match tupI d, tupsI ds with
    | some k, some ks => some (k :: ks)
    | _, _ => none
def dTup (k : List Int) : D := .tup (k.map D.int)
abbrev bigB : Int := 1000
def bdB (n : Nat) (k : List Int) : Bool := decide (k.length = n) && k.all fun m => decide (0 ≤ m) && decide (m < bigB)
theorem bdB_ok {n : Nat} {k : List Int} (h : bdB n k = true) : k.length = n ∧ TS.Bd bigB k := by
  unfold bdB at h
  rw [Bool.and_eq_true, decide_eq_true_eq, List.all_eq_true] at h
  refine ⟨h.1, fun m hm => ?_⟩
  have := h.2 m hm
  rw [Bool.and_eq_true, decide_eq_true_eq, decide_eq_true_eq] at this
  exact this
/-- sorted(set(..)) of a list of tuples of n ints, n ≥ 1 -/
def sspO (n : Nat) : D → Option O
  | .lst ds => (tupsI ds).bind fun ks => if decide (ks.length < 64) && ks.all (bdB n) then some (.lst ((sortT bigB ks).map dTup)) else none
  | _ => none
section
variable {K : PySem.W.Frag} {B : Fz} {H : Hp}
theorem tupI_rep {d : D} {v : V} {k : List Int} (e : tupI d = some k) (r : Rep K B d v) : d = dTup k ∧ ∃ a, v = .ref a ∧ SqT K B a (k.map V.int) := by
  cases d <;> simp only [tupI, reduceCtorEq] at e
  have := ints_map e
  subst this
  simp only [Rep] at r
  obtain ⟨a, xs, rfl, h1, h2⟩ := r
  rw [h2.ints] at h1
  exact ⟨rfl, a, rfl, h1⟩
theorem tupsI_reps : ∀ {ds : List D} {vs : List V} {ks : List (List Int)}, tupsI ds = some ks → Reps K B ds vs → ∃ ps : List (Addr × List Int), vs = ps.map (fun p => V.ref p.1) ∧ ps.map (·.2) = ks ∧ ∀ p ∈ ps, SqT K B p.1 (p.2.map V.int)
  | [], vs, ks, e, r => by
    simp only [tupsI, Reps] at e r
    cases e
    exact ⟨[], r, rfl, fun p h => by cases h⟩
  | d :: ds, vs, ks, e, r => by
    simp only [tupsI, Reps] at e r
    obtain ⟨x, xs, rfl, r1, r2⟩ := r
    split at e
    · rename_i k ks' e1 e2
      cases e
      obtain ⟨_, a, rfl, h1⟩ := tupI_rep e1 r1
      obtain ⟨ps, rfl, h2, h3⟩ := tupsI_reps e2 r2
      exact ⟨(a, k) :: ps, rfl, by rw [List.map_cons, h2], fun p hp => by
        rcases List.mem_cons.mp hp with rfl | hp
        · exact h1
        · exact h3 p hp⟩
    · cases e
theorem reps_tups : ∀ (ps : List (Addr × List Int)), (∀ p ∈ ps, SqT K B p.1 (p.2.map V.int)) → Reps K B (ps.map fun p => dTup p.2) (ps.map fun p => V.ref p.1)
  | [], _ => Reps.nil
  | p :: ps, h => Reps.cons (by
      unfold dTup
      simp only [Rep]
      exact ⟨p.1, _, rfl, h p List.mem_cons_self, Reps.of_ints _⟩) (reps_tups ps fun q hq => h q (List.mem_cons_of_mem _ hq))
end
section
variable {X : Cx} {E : WX} {pos p q pos2 : Pos} {a : Expr} {fa : M Opd}
theorem pn_sortedSetT {n : Nat} (h1n : 1 ≤ n) (hc : X.calm = true) (hu : X.A.units + 64 < cLine) (hg0 : Gl X "sorted") (hm0 : X.mg "sorted" = none) (hg1 : Gl X "set") (hm1 : X.mg "set" = none) (ha : PE X a (tK X.K E fa))
    (hs : starEach [a] X.env = (false, eval a X.env) :: starEach [] X.env := by rfl) (hp : (backTo pos2 (starEach [] X.env)).any (·.1) = false := by rfl)
    (hs1 : starEach [.Call (.Name "set" q) [a] [] pos2] X.env = (false, eval (.Call (.Name "set" q) [a] [] pos2) X.env) :: starEach [] X.env := by rfl) (hp1 : (backTo pos (starEach [] X.env)).any (·.1) = false := by rfl) :
    PE X (.Call (.Name "sorted" p) [.Call (.Name "set" q) [a] [] pos2] [] pos) (tN X.K E (k1 (sspO n) fa)) := by
  refine pe_weak (pe_callB (cr_sortedT hc) hg0 hm0 (by decide +kernel) (pa_cons (pe_callTy (cr_setOfT hc hu) hg1 hm1 (by decide +kernel) (pa_cons ha pa_nil hs) (by decide) (by decide) hs hp) pa_nil hs1) (by decide) (by decide) hs1 hp1) ?_
  rintro σ H Q ⟨B, ρ, c, h⟩
  refine ⟨B, ρ, c, h.seq.imp ?_⟩
  rintro d ρ' v B' H1 - - - ⟨o, B1, ρ1, st1, rx, h1⟩
  obtain ⟨d, e1, h1⟩ := h1.getO
  obtain ⟨z, ez, k⟩ := h1.opt
  have top := RK.top st1.cf rx e1
  cases d <;> simp only [sspO, reduceCtorEq] at ez
  obtain ⟨ks, ek, ez⟩ := Option.bind_eq_some_iff.mp ez
  split at ez
  · rename_i hcond
    cases ez
    rw [Bool.and_eq_true, decide_eq_true_eq, List.all_eq_true] at hcond
    obtain ⟨hlen, hbd⟩ := hcond
    obtain ⟨l, xs, rfl, hl, hr⟩ := top
    obtain ⟨ps, rfl, ep, hps⟩ := tupsI_reps ek hr
    have hpl : ps.length = ks.length := by rw [← ep, List.length_map]
    have hok : ∀ p ∈ ps, p.2.length = n ∧ TS.Bd bigB p.2 := fun p hp => bdB_ok (hbd p.2 (by rw [← ep]; exact List.mem_map_of_mem hp))
    refine ⟨l, ps, rfl, SqL.of hl, fun p hp => Same.sqt st1.cf.bh (hps p hp), by omega, fun s L hs hL1 hL2 => ?_⟩
    have st2 := st1.cf.free hs (SetTO X.prog X.w s L)
    refine ⟨s, L, n, bigB, rfl, upd_same, fun p hp => Same.sqt st2.cf.bh (hps p (hL1 p hp)), h1n, fun p hp => hok p (hL1 p hp), fun L' r hperm hnd h64 hpw hr2 => ?_⟩
    -- the result is the one list
    have mem' : ∀ p ∈ L', p ∈ ps := fun p hp => hL1 p (hperm.mem_iff.mp hp)
    have er : L'.map (·.2) = sortT bigB ks := by
      refine sortT_one (n := n) (fun k hk => ?_) (fun k hk => ?_) ?_ fun c => ⟨fun hc => ?_, fun hc => ?_⟩
      · rw [← ep] at hk
        obtain ⟨p, hp, e⟩ := List.mem_map.mp hk
        rw [← e]
        exact hok p hp
      · obtain ⟨p, hp, e⟩ := List.mem_map.mp hk
        rw [← e]
        exact hok p (mem' p hp)
      · rw [List.map_map]
        rw [List.pairwise_map]
        have hnd' : L'.Pairwise (fun q r => q.2 ≠ r.2) := by
          have := hnd
          unfold List.Nodup at this
          rw [List.pairwise_map] at this
          exact this
        have both := List.Pairwise.and hpw hnd'
        refine List.Pairwise.imp_of_mem ?_ both
        rintro q r hq hr ⟨h1, h2⟩
        rcases Int.lt_or_eq_of_le h1 with h3 | h3
        · exact h3
        · exact absurd (code_one (by rw [(hok q (mem' q hq)).1, (hok r (mem' r hr)).1]) (hok q (mem' q hq)).2 (hok r (mem' r hr)).2 h3) h2
      · obtain ⟨k, hk, e⟩ := List.mem_map.mp hc
        obtain ⟨p, hp, e2⟩ := List.mem_map.mp hk
        rw [← e, ← e2, ← ep]
        exact List.mem_map_of_mem (List.mem_map_of_mem (mem' p hp))
      · obtain ⟨k, hk, e⟩ := List.mem_map.mp hc
        rw [← ep] at hk
        obtain ⟨p, hp, e2⟩ := List.mem_map.mp hk
        obtain ⟨q, hq, e3⟩ := List.mem_map.mp (hL2 p hp)
        rw [← e, ← e2, ← e3]
        exact List.mem_map_of_mem (List.mem_map_of_mem (hperm.mem_iff.mpr hq))
    rw [← er, List.map_map] at k
    exact k _ _ _ (st2.trans (st2.cf.free hr2 _)) (new_lst st2.cf st2.there hr2 (reps_tups L' fun p hp => hps p (mem' p hp)))
  · cases ez
end
end Nc

/-! [..] * n as a new list; the box of a law. -/
namespace Nc
open PySem PySem.Spec PyProof.Rows L2

def OpDN (K : PySem.W.Frag) (r : R2) (op : D → D → Option O) : Prop := ∀ (B : Fz) (H : Hp) (σ : L2.St) (ρ : Rho) (d e : D) (z : O) (x y : V) (Q : VK), Cf K B H σ ρ → Rep K B d x → Rep K B e y → op d e = some z →
  (∀ v B' H', Step K σ B H ρ σ B' H' ρ → RN K H σ B' H' ρ z v → Q v H') → r x y H Q
def repO : D → D → Option O
  | .lst a, .int b => if decide (-(2 ^ 63) ≤ b) && decide (b < 2 ^ 63) && decide (a.length * b.toNat ≤ sizeLine) then some (.lst (List.replicate b.toNat a).flatten) else none
  | _, _ => none
abbrev b2N (op : D → D → Option O) (fa fb : M D) : M O := fa >>= fun d => fb >>= fun e => M.opt (op d e)
theorem opdn_rep {K : PySem.W.Frag} : OpDN K rRep repO := by
  intro B H σ ρ d e z x y Q c rx ry ez k
  cases d <;> cases e <;> simp only [repO, reduceCtorEq] at ez
  simp only [Rep] at rx ry
  obtain ⟨p, xs, rfl, h1, h2⟩ := rx
  subst ry
  split at ez
  · rename_i hc
    cases ez
    simp only [Bool.and_eq_true, decide_eq_true_eq] at hc
    obtain ⟨⟨c1, c2⟩, c3⟩ := hc
    rw [h2.length] at c3
    rename_i ds b
    exact ⟨p, b, xs, rfl, rfl, c.bh _ _ h1, c1, c2, c3, fun l hl => k _ _ _ (c.free hl _) (new_lst c (fun _ z => z) hl (h2.rep _))⟩
  · cases ez
section
variable {X : Cx} {E : WX} {a b : Expr} {pos : Pos} {fa fb : M D}
theorem pn_rep (ha : PE X a (tD X.K E fa)) (hb : PE X b (tD X.K E fb)) : PE X (.BinOp a .Mult b pos) (tN X.K E (b2N repO fa fb)) := by
  refine pe_weak (pe_op op_rep ha hb) ?_
  rintro σ H Q ⟨B, ρ, c, h⟩
  refine ⟨B, ρ, c, h.seq.imp ?_⟩
  rintro d ρ' x B' H1 - - - ⟨d, B1, ρ1, st1, rx, h1⟩
  refine ⟨B1, ρ1, st1.cf, h1.seq.imp ?_⟩
  rintro e ρ' y B' H2 - - - ⟨e, B2, ρ2, st2, ry, h2⟩
  obtain ⟨z, ez, k⟩ := h2.opt
  exact opdn_rep B2 H2 σ ρ2 d e z x y Q st2.cf (Rep.mono st2.bb rx) ry ez k
end
end Nc

/-! defs with *v: what is left over is a new tuple. -/
namespace Nc
open PySem PySem.Spec PyProof.Rows L2

section
variable {X : Cx} {CX : CXT} {k : Nat} {f : Addr} {sp : Sp} {E : L2.St → XK} {x : Str} {p pos : Pos} {e : Expr} {es : List Expr} {t : TA}
theorem pe_callR (F : FnR X.prog X.w X.K X.mg X.base CX k f sp) (hr : Room k X.A) (hg : Gl X x) (hm : X.mg x = some (.ref f)) (hk : PySem.W.keepIn X.K (.ref f) = true) (hx : ∀ σ, PassesAt CX X σ (E σ))
    (ha : PA X (e :: es) t) (hdb : (x == ("__debug__" : Str)) = false := by decide) (he : starEach (e :: es) X.env = (false, eval e X.env) :: starEach es X.env := by rfl) (hpl : (backTo pos (starEach es X.env)).any (·.1) = false := by rfl) :
    PE X (.Call (.Name x p) (e :: es) [] pos) (tCallS sp E t) := by
  refine ⟨fun pins s σ H Q I h => ?_⟩
  refine wpAny_Call_Name_kw (ld_glob I hg hm ?_ hdb)
  refine PySem.W.callWith_K (h₀ := X.base) I.ok.mod.kin hk (thn (ha.run pos pins s σ H _ I h) fun us s1 ⟨vs, H1, I1, r, q⟩ => ⟨I1.kIn, ?_⟩) he hpl
  refine wpAny_call (codeAny_mono (F X.A X.stack s1 H1 us vs Q (E σ) hr I1.env0 r q) fun r s' hq => ?_)
  cases r with
  | error e => exact hx σ pins H1 s1 e s' I1 hq
  | ok fl =>
    cases fl with
    | ret u => exact I1.after hq
    | next => exact False.elim hq
    | brk => exact False.elim hq
    | cont => exact False.elim hq
theorem pd_callR {as : M (List D)} {F : Fn} {E : WX} (G : FnR X.prog X.w X.K X.mg X.base (L2.CX X.prog X.w) k f (spD X.K F)) (hr : Room k X.A) (hg : Gl X x) (hm : X.mg x = some (.ref f)) (hk : PySem.W.keepIn X.K (.ref f) = true) (tk : Takes X E)
    (ha : PA X (e :: es) (tL X.K E as)) (hdb : (x == ("__debug__" : Str)) = false := by decide) (he : starEach (e :: es) X.env = (false, eval e X.env) :: starEach es X.env := by rfl) (hpl : (backTo pos (starEach es X.env)).any (·.1) = false := by rfl) :
    PE X (.Call (.Name x p) (e :: es) [] pos) (tD X.K E (callM F as)) := pe_weak (pe_callR G hr hg hm hk (fun σ => passAt tk σ) ha hdb he hpl) call_read
end

def starF (n : Nat) (F : Fn) : Fn := fun ds g => if n ≤ ds.length ∧ ds.length ≤ sizeLine then F (ds.take n ++ [.tup (ds.drop n)]) g else .no
theorem star_in {K : PySem.W.Frag} {vs : List V} {H : Hp} {n : Nat} {F : Fn} {Q : VK} {E : XK} (h : spD K (starF n F) vs H Q E) : ∃ ws rest, vs = ws ++ rest ∧ ws.length = n ∧ rest.length ≤ sizeLine ∧ ∀ p, H p = none → spD K F (ws ++ [V.ref p]) (upd H p (.tup rest)) Q E := by
  obtain ⟨B, ds, g, c, k⟩ := h
  have hl : vs.length = ds.length := by
    have : (vs.map some).length = (vals ds).length := c.len
    rwa [List.length_map, List.length_map] at this
  have rep : Reps K B ds vs := by
    have : ∀ (ds : List D) (vs : List V), vs.length = ds.length → (∀ (i : Nat) (d : D), ds[i]? = some d → ∃ v, vs[i]? = some v ∧ Rep K B d v) → Reps K B ds vs := by
      intro ds
      induction ds with
      | nil =>
        intro vs hl _
        cases vs with
        | nil => exact Reps.nil
        | cons v vs => simp at hl
      | cons d ds ih =>
        intro vs hl ha
        cases vs with
        | nil => simp at hl
        | cons v vs =>
          obtain ⟨v', e3, r⟩ := ha 0 d rfl
          simp at e3
          subst e3
          refine Reps.cons r (ih vs (by simpa using hl) fun i d' hd => ?_)
          have := ha (i + 1) d' (by simpa using hd)
          simpa using this
    refine this ds vs hl fun i d hd => ?_
    obtain ⟨x, h1, h2⟩ := c.at_ i (some (.val d)) (by show (vals ds)[i]? = _; rw [List.getElem?_map, hd]; rfl)
    have := getD_eq h1
    rw [List.getElem?_map] at this
    obtain ⟨v, e1, e2⟩ := Option.map_eq_some_iff.mp this
    cases e2
    exact ⟨x, e1, h2⟩
  unfold starF at k
  split at k
  · rename_i hc
    refine ⟨vs.take n, vs.drop n, (List.take_append_drop n vs).symm, by rw [List.length_take]; omega, by rw [List.length_drop]; omega, fun p hp => ?_⟩
    have st0 := c.laid hp (.tup (vs.drop n))
    have r1 : Reps K (Fz.upd B p (.tup (vs.drop n))) (ds.take n ++ [.tup (ds.drop n)]) (vs.take n ++ [V.ref p]) := by
      refine ((rep.take n).mono st0.bb).append (Reps.cons ?_ Reps.nil)
      simp only [Rep]
      exact ⟨p, vs.drop n, rfl, .inl (.inl upd_same), (rep.drop n).mono st0.bb⟩
    refine ⟨_, _, g, st0.cf.plain r1, ?_⟩
    cases ef : F (ds.take n ++ [.tup (ds.drop n)]) g with
    | no =>
      rw [ef] at k
      exact k
    | ok d g' =>
      rw [ef] at k
      exact fun v B' H' st r => k v B' H' (st0.trans (call_back st0.cf st)) r
    | new o g' =>
      rw [ef] at k
      exact fun v B' H' st r => k v B' H' (st0.trans (call_back st0.cf st)) (RlM.back (R := RN K) st0.there (RN.back st0.cf st r))
    | ex e g' =>
      rw [ef] at k
      exact fun oc B' H' st r => k oc B' H' (st0.trans (call_back st0.cf st)) r
  · exact k.elim
section
variable {P : Program} {w : World} {K : PySem.W.Frag} {mg : Str → Option Value} {base : Heap}
/-- a def with *pv by its body -/
theorem starOk {x qual : Str} {st : Stmt} {f : Addr} {fd : FuncData} {N ps : List Str} {pv : Str} {k : Nat} {F : Fn} (U : Fun K x qual st f fd) (S : FnScope N (ps ++ [pv]) (defScope st))
    (hb : ∀ (kV doc pm : Value) (an : Option Addr) (cdv ct : Value) (us rest : List Value), us.length = ps.length → bindArgs (PySem.W.fnOf x qual (defArgs st) (defBody st) (defScope st) .none kV doc pm an cdv ct) ⟨us ++ rest, []⟩ = (newTuple rest >>= fun t => pure (ps.zip us ++ [(pv, t)])))
    (hbody : ∀ (cdv : Value) (A : Around) (outer : List Env) (s : Shared) (H : Hp) (vs : List V) (Q : VK) (E : XK), Room k (A.deeper (envOfC qual (defScope st) s.heap.objs.size f cdv)) → spD K F vs H Q E →
      ∃ t, PSs (cxOf (L2.CX P w) P w K mg base N qual (defScope st) f cdv A outer s H E) (defBody st) t ∧ t { nx := fun _ H' => Q .non H', rt := Q } (L2.start N vs) H) : FnR P w K mg base (L2.CX P w) (k + 1) f (spD K (starF ps.length F)) := by
  obtain ⟨oc, od, kV, doc, pm, an, cdv, ct, osl, rfl, lk, hcd⟩ := U.ex
  exact (StX.fn_star lk hcd S StX.cxUp (hb kV doc pm an cdv ct) fun A outer s H vs Q E hr h => hbody cdv A outer s H vs Q E hr h).imp fun vs H Q E h => star_in h
end
end Nc

/-! zip of two tuples or of two lists as what is walked. -/
namespace Nc
open PySem PySem.Spec PyProof.Rows L2

def zipPairs : List D → List D → List D := fun ds es => (ds.zip es).map fun q => .tup [q.1, q.2]
def zipD : D → D → Option (List D)
  | .tup ds, .tup es => some (zipPairs ds es)
  | .lst ds, .lst es => some (zipPairs ds es)
  | _, _ => none
def zipI (f g : M D) : M (List D) := f >>= fun d => g >>= fun e => M.opt (zipD d e)
theorem zipPairs_at {ds es : List D} {i : Nat} {d : D} (h : (zipPairs ds es)[i]? = some d) : ∃ x y, ds[i]? = some x ∧ es[i]? = some y ∧ d = .tup [x, y] := by
  unfold zipPairs at h
  rw [List.getElem?_map] at h
  obtain ⟨q, e1, e2⟩ := Option.map_eq_some_iff.mp h
  obtain ⟨h1, h2⟩ := List.getElem?_zip_eq_some.mp e1
  exact ⟨q.1, q.2, h1, h2, e2.symm⟩
theorem zipPairs_len (ds es : List D) : (zipPairs ds es).length = min ds.length es.length := by
  unfold zipPairs
  rw [List.length_map, List.length_zip]
section
variable {K : PySem.W.Frag} {B : Fz} {a b : Addr} {xs ys : List V} {ds es : List D}
theorem yields_zipT (ha : SqT K B a xs) (hb : SqT K B b ys) (r1 : Reps K B ds xs) (r2 : Reps K B es ys) : Yields K B (RZ.ItzT K a b) (zipPairs ds es) where
  stop := fun H s => ⟨xs, ys, Same.sqt s ha, Same.sqt s hb, by
    rw [zipPairs_len, r1.length, r2.length]
    omega⟩
  go := fun i H hi s => by
    rw [zipPairs_len, r1.length, r2.length] at hi
    exact ⟨xs, ys, xs[i]'(by omega), ys[i]'(by omega), Same.sqt s ha, Same.sqt s hb, List.getElem?_eq_getElem _, List.getElem?_eq_getElem _⟩
  yld := fun i d H x H' e s ⟨T, x1, y1, hv, hT, hH, h1, h2⟩ => by
    obtain ⟨dx, dy, e1, e2, rfl⟩ := zipPairs_at e
    obtain ⟨v1, g1, rv1⟩ := r1.get e1
    obtain ⟨v2, g2, rv2⟩ := r2.get e2
    have z1 := h1 xs (Same.sqt s ha)
    have z2 := h2 ys (Same.sqt s hb)
    rw [g1] at z1
    rw [g2] at z2
    cases z1
    cases z2
    have hBT : B T = none := Classical.byContradiction fun y => by
      cases q : B T with
      | none => exact y q
      | some u =>
        rw [s T u q] at hT
        cases hT
    have sB : FSame B (Fz.upd B T (.tup [x1, y1])) := FSame.upd hBT
    refine .inr ⟨T, .tup [x1, y1], hT, hH, ?_⟩
    subst hv
    simp only [Rep]
    exact ⟨T, [x1, y1], rfl, .inl (.inl upd_same), Reps.cons (rv1.mono sB) (Reps.cons (rv2.mono sB) Reps.nil)⟩
theorem yields_zipL (ha : B a = some (.lst xs)) (hb : B b = some (.lst ys)) (r1 : Reps K B ds xs) (r2 : Reps K B es ys) : Yields K B (Itz K a b) (zipPairs ds es) where
  stop := fun H s => ⟨xs, ys, SqL.of (s _ _ ha), SqL.of (s _ _ hb), by
    rw [zipPairs_len, r1.length, r2.length]
    omega⟩
  go := fun i H hi s => by
    rw [zipPairs_len, r1.length, r2.length] at hi
    exact ⟨xs, ys, xs[i]'(by omega), ys[i]'(by omega), SqL.of (s _ _ ha), SqL.of (s _ _ hb), List.getElem?_eq_getElem _, List.getElem?_eq_getElem _⟩
  yld := fun i d H x H' e s ⟨T, x1, y1, hv, hT, hH, h1, h2⟩ => by
    obtain ⟨dx, dy, e1, e2, rfl⟩ := zipPairs_at e
    obtain ⟨v1, g1, rv1⟩ := r1.get e1
    obtain ⟨v2, g2, rv2⟩ := r2.get e2
    have z1 := h1 xs (SqL.of (s _ _ ha))
    have z2 := h2 ys (SqL.of (s _ _ hb))
    rw [g1] at z1
    rw [g2] at z2
    cases z1
    cases z2
    have hBT : B T = none := Classical.byContradiction fun y => by
      cases q : B T with
      | none => exact y q
      | some u =>
        rw [s T u q] at hT
        cases hT
    have sB : FSame B (Fz.upd B T (.tup [x1, y1])) := FSame.upd hBT
    refine .inr ⟨T, .tup [x1, y1], hT, hH, ?_⟩
    subst hv
    simp only [Rep]
    exact ⟨T, [x1, y1], rfl, .inl (.inl upd_same), Reps.cons (rv1.mono sB) (Reps.cons (rv2.mono sB) Reps.nil)⟩
end
section
variable {X : Cx} {E : WX} {a b : Expr} {p pos tpos : Pos} {elts : List Expr} {kk : Nat} {f g : M D}
/-- zip of two tuples -/
theorem pi_zipD (hg : Gl X "zip") (hm : X.mg "zip" = none) (ha : PE X a (tD X.K E f)) (hb : PE X b (tD X.K E g)) (hs : starEach [a, b] X.env = (false, eval a X.env) :: starEach [b] X.env := by rfl) (hs1 : starEach [b] X.env = (false, eval b X.env) :: starEach [] X.env := by rfl) (hpl : (backTo pos (starEach [b] X.env)).any (·.1) = false := by rfl) :
    PI X (.Tuple elts kk tpos) (.Call (.Name "zip" p) [a, b] [] pos) (tI X.K E (zipI f g)) := by
  refine pi_weak (RZ.pi_zipA hg hm (pa_cons ha (pa_cons hb pa_nil hs1) hs) hs hpl) ?_
  rintro σ H R ⟨B, ρ, c, h⟩
  refine ⟨B, ρ, c, h.seq.imp ?_⟩
  rintro d ρ' x B' H1 - - - ⟨d, B1, ρ1, st1, rx, h1⟩
  refine ⟨B1, ρ1, st1.cf, h1.seq.imp ?_⟩
  rintro e ρ' y B' H2 - - - ⟨e, B2, ρ2, st2, ry, h2⟩
  obtain ⟨es, ee, k⟩ := h2.opt
  have rx : Rep X.K B2 d x := Rep.mono st2.bb rx
  have ry : Rep X.K B2 e y := ry
  cases d <;> cases e <;> simp only [zipD, reduceCtorEq] at ee
  · cases ee
    simp only [Rep] at rx ry
    obtain ⟨p1, xs, rfl, a1, a2⟩ := rx
    obtain ⟨p2, ys, rfl, b1, b2⟩ := ry
    exact ⟨p1, p2, xs, ys, rfl, .inr ⟨Same.sqt st2.cf.bh a1, Same.sqt st2.cf.bh b1, k _ _ _ (Step.refl st2.cf) (yields_zipT a1 b1 a2 b2)⟩⟩
  · cases ee
    simp only [Rep] at rx ry
    obtain ⟨p1, xs, rfl, a1, a2⟩ := rx
    obtain ⟨p2, ys, rfl, b1, b2⟩ := ry
    exact ⟨p1, p2, xs, ys, rfl, .inl ⟨SqL.of (st2.cf.bh _ _ a1), SqL.of (st2.cf.bh _ _ b1), k _ _ _ (Step.refl st2.cf) (yields_zipL a1 b1 a2 b2)⟩⟩
end
section
variable {X : Cx} {pos : Pos}
def lstOf : D → Option (List D)
  | .lst ds => some ds
  | _ => none
/-- the items of a list into names -/
def bndQ (is : List Nat) (d : D) : M Unit := fun ρ => match lstOf d with
  | some ds => bndS is ds ρ
  | none => .no
theorem bndQ_ok {is : List Nat} {d : D} {ρ ρ' : Rho} (e : bndQ is d ρ = .ok () ρ') : ∃ ds, d = .lst ds ∧ bndS is ds ρ = .ok () ρ' := by
  unfold bndQ at e
  cases d <;> simp only [lstOf, reduceCtorEq] at e
  exact ⟨_, rfl, e⟩
theorem bndQ_noex {is : List Nat} : ∀ d ρ x ρ', bndQ is d ρ ≠ .ex x ρ' := fun d ρ x ρ' => by
  unfold bndQ
  split
  · exact bndS_noex
  · simp only [ne_eq, reduceCtorEq, not_false_eq_true]
theorem gd_lst {es : List Expr} {k : Nat} {is : List Nat} (hc : X.calm = true) (h : PGs X es (gsD X.K is)) (hn : (assignEach es X.env).length = is.length := by rfl) (hst : (assignEach es X.env).findIdx? (·.1) = none := by rfl) :
    PG X (.Tuple es k pos) (gD X.K is (bndQ is)) := by
  refine pg_weak (pg_lst hc h hn hst) fun v σ H Q ⟨B, ρ, d, c, r, ρ', e, kk⟩ => ?_
  obtain ⟨ds, rfl, e⟩ := bndQ_ok e
  simp only [Rep] at r
  obtain ⟨a, xs, rfl, h1, h2⟩ := r
  exact ⟨a, xs, rfl, SqL.of (c.bh _ _ h1), by rw [← h2.length]; exact bndS_len e, B, ρ, _, c, h2, ρ', e, kk⟩
end
end Nc

/-! Calls with keywords; several targets; list.index. -/
namespace Nc
open PySem PySem.Spec PyProof.Rows L2

/-! ### keywords -/
def permL {α : Type} (perm : List Nat) (ws : List α) : List α := perm.filterMap fun i => ws[i]?
def kwG {α : Type} (p n : Nat) (perm : List Nat) (us ws : List α) : List α := if us.length = p ∧ ws.length = n then us ++ permL perm ws else []
section
variable {X : Cx} {CX : CXT} {k : Nat} {f : Addr} {fd : FuncData} {ps ks : List Str} {sp : Sp} {E : L2.St → XK} {x : Str} {p pos : Pos} {e : Expr} {es : List Expr} {kws : List Keyword} {t tk : TA}
variable {g : List Value → List Value → List Value} {gV : List V → List V → List V}
def tCallKS (sp : Sp) (gV : List V → List V → List V) (E : L2.St → XK) (t tk : TA) : TE := fun σ H Q => t σ H fun vs H1 => tk σ H1 fun zs H2 => sp (gV vs zs) H2 Q (E σ)
theorem run_fnkS {pins : List (Addr × Obj)} {σ : L2.St} {H : Hp} {s : Shared} {Q : VK} {us ws : List Value} {vs zs : List V} (F : FnOk X.prog X.w X.K X.mg X.base CX k f fd ps sp) (hr : Room k X.A) (hb : KBinds X.K fd ps ks g gV) (hx : PassesAt CX X σ (E σ))
    (I : Inv X pins σ H s) (r : Vals vs us) (rz : Vals zs ws) (h : sp (gV vs zs) H Q (E σ)) : wpAny (model X.prog X.w) X.A (call (.ref f) us (ks.zip ws)) (EP X pins σ Q) X.xe s := by
  have r2 := hb.rel r rz
  have hl : (g us ws).length = ps.length := by rw [← r2.length]; exact F.len _ _ _ _ h
  refine wpAny_call (codeAny_mono (F.run X.A X.stack s H ⟨us, ks.zip ws⟩ (g us ws) (gV vs zs) Q (E σ) hr I.env0 (hb.to s us ws I.kIn hl) r2 h) fun r s' hq => ?_)
  cases r with
  | error e => exact hx pins H s e s' I hq
  | ok fl =>
    cases fl with
    | ret u => exact I.after hq
    | next => exact False.elim hq
    | brk => exact False.elim hq
    | cont => exact False.elim hq
theorem pe_callKS (F : FnOk X.prog X.w X.K X.mg X.base CX k f fd ps sp) (hr : Room k X.A) (hg : Gl X x) (hm : X.mg x = some (.ref f)) (hk : PySem.W.keepIn X.K (.ref f) = true) (hb : KBinds X.K fd ps ks g gV) (hx : ∀ σ, PassesAt CX X σ (E σ))
    (ha : PA X (e :: es) t) (hkw : PK X kws tk) (hall : (backToKw pos (keywordEach kws X.env)).all (·.1.isSome) = true := by rfl) (hks : (backToKw pos (keywordEach kws X.env)).filterMap (·.1) = ks := by rfl)
    (hdb : (x == ("__debug__" : Str)) = false := by decide) (he : starEach (e :: es) X.env = (false, eval e X.env) :: starEach es X.env := by rfl)
    (hpl : ((backTo pos (starEach (e :: es) X.env)).any (·.1) || (backToKw pos (keywordEach kws X.env)).any (·.1.isNone)) = false := by rfl) :
    PE X (.Call (.Name x p) (e :: es) kws pos) (tCallKS sp gV E t tk) := by
  refine ⟨fun pins s σ H Q I h => ?_⟩
  refine wpAny_Call_Name_kw (ld_glob I hg hm ?_ hdb)
  refine PySem.W.callWith_KW (h₀ := X.base) I.ok.mod.kin hk hall (thn (ha.run pos pins s σ H _ I h) fun us s1 ⟨vs, H1, I1, r, q⟩ => ?_) hpl he
  refine thn (hkw.run pos pins s1 σ H1 _ I1 q) fun ws s2 ⟨zs, H2, I2, rz, q2⟩ => ⟨I2.kIn, ?_⟩
  rw [hks]
  exact run_fnkS F hr hb (hx σ) I2 r rz q2
theorem pe_callKS0 (F : FnOk X.prog X.w X.K X.mg X.base CX k f fd ps sp) (hr : Room k X.A) (hg : Gl X x) (hm : X.mg x = some (.ref f)) (hk : PySem.W.keepIn X.K (.ref f) = true) (hb : KBinds X.K fd ps ks g gV) (hx : ∀ σ, PassesAt CX X σ (E σ))
    (hkw : PK X kws tk) (hall : (backToKw pos (keywordEach kws X.env)).all (·.1.isSome) = true := by rfl) (hks : (backToKw pos (keywordEach kws X.env)).filterMap (·.1) = ks := by rfl)
    (hdb : (x == ("__debug__" : Str)) = false := by decide)
    (hpl : ((backTo pos (starEach [] X.env)).any (·.1) || (backToKw pos (keywordEach kws X.env)).any (·.1.isNone)) = false := by rfl) :
    PE X (.Call (.Name x p) [] kws pos) (tCallKS sp gV E tNil tk) := by
  refine ⟨fun pins s σ H Q I h => ?_⟩
  refine wpAny_Call_Name_kw (ld_glob I hg hm ?_ hdb)
  refine PySem.W.callWith_KW0 (h₀ := X.base) I.ok.mod.kin hk hall ?_ hpl
  refine thn (hkw.run pos pins s σ H _ I h) fun ws s2 ⟨zs, H2, I2, rz, q2⟩ => ⟨I2.kIn, ?_⟩
  rw [hks]
  exact run_fnkS F hr hb (hx σ) I2 .nil rz q2
end
theorem permL_rel {perm : List Nat} {zs : List V} {ws : List Value} (h : Vals zs ws) : Vals (permL perm zs) (permL perm ws) := by
  induction perm with
  | nil => exact .nil
  | cons i perm ih =>
    unfold permL at ih ⊢
    rw [List.filterMap_cons, List.filterMap_cons]
    cases e : zs[i]? with
    | none =>
      have : ws[i]? = none := by
        rw [List.getElem?_eq_none_iff] at e ⊢
        rw [← h.length]
        exact e
      rw [this]
      exact ih
    | some z =>
      obtain ⟨u, e2, r⟩ := h.get e
      rw [e2]
      exact .cons r ih
theorem kbinds_of {K : PySem.W.Frag} {x qual : Str} {st : Stmt} {f : Addr} {fd : FuncData} {ps ks : List Str} {p n : Nat} {perm : List Nat} (U : Fun K x qual st f fd) (hne : ps ≠ [])
    (h : ∀ (kV doc pm : Value) (an : Option Addr) (cdv ct : Value) (us ws : List Value), us.length = p → ws.length = n → bindArgs (PySem.W.fnOf x qual (defArgs st) (defBody st) (defScope st) .none kV doc pm an cdv ct) ⟨us, ks.zip ws⟩ = pure (ps.zip (us ++ permL perm ws))) :
    KBinds K fd ps ks (kwG p n perm) (kwG p n perm) := by
  obtain ⟨oc, od, kV, doc, pm, an, cdv, ct, osl, rfl, lk, hcd⟩ := U.ex
  refine ⟨fun s us ws _ hl => ?_, fun {vs us zs ws} r rz => ?_⟩
  · unfold kwG at hl ⊢
    split at hl
    · rename_i hc
      rw [if_pos hc]
      exact BindsTo.of_eq (h kV doc pm an cdv ct us ws hc.1 hc.2)
    · cases ps with
      | nil => exact absurd rfl hne
      | cons q ps => simp at hl
  · unfold kwG
    by_cases hc : us.length = p ∧ ws.length = n
    · rw [if_pos hc, if_pos ⟨by rw [r.length]; exact hc.1, by rw [rz.length]; exact hc.2⟩]
      exact r.append (permL_rel rz)
    · rw [if_neg hc, if_neg fun z => hc ⟨by rw [← r.length]; exact z.1, by rw [← rz.length]; exact z.2⟩]
      exact .nil
theorem permL_reps {K : PySem.W.Frag} {B : Fz} {perm : List Nat} {ds : List D} {vs : List V} (h : Reps K B ds vs) : Reps K B (permL perm ds) (permL perm vs) := by
  induction perm with
  | nil => exact Reps.nil
  | cons i perm ih =>
    unfold permL at ih ⊢
    rw [List.filterMap_cons, List.filterMap_cons]
    cases e : ds[i]? with
    | none =>
      have : vs[i]? = none := by
        rw [List.getElem?_eq_none_iff] at e ⊢
        rw [← h.length]
        exact e
      rw [this]
      exact ih
    | some z =>
      obtain ⟨u, e2, r⟩ := h.get e
      rw [e2]
      exact Reps.cons r ih
/-- the arguments put in order -/
def kwM (p n : Nat) (perm : List Nat) (as ks : M (List D)) : M (List D) := as >>= fun ds => ks >>= fun zs => M.ret (kwG p n perm ds zs)
section
variable {X : Cx} {E : WX} {x : Str} {p pos kpos : Pos} {e : Expr} {es : List Expr} {as ks fs : M (List D)} {fv : M D} {F : Fn} {k m n : Nat} {f : Addr} {fd : FuncData} {ps kn : List Str} {kws : List Keyword} {perm : List Nat} {nm : Option Str}
abbrev PKD (X : Cx) (E : WX) (kws : List Keyword) (f : M (List D)) : Prop := PK X kws (tL X.K E f)
theorem pkd_nil : PKD X E [] (M.ret []) := by
  have h := pk_nil (X := X)
  exact ⟨fun pos pins s σ H Q I q => h.run pos pins s σ H Q I (by obtain ⟨B, ρ, c, a⟩ := q; exact a.here c Reps.nil)⟩
theorem pkd_cons (h : PE X e (tD X.K E fv)) (t : PKD X E kws fs) : PKD X E (⟨nm, e, kpos⟩ :: kws) (consM fv fs) := by
  have q := pk_cons (nm := nm) (kpos := kpos) h t
  refine ⟨fun pos pins s σ H Q I z => q.run pos pins s σ H Q I ?_⟩
  obtain ⟨B, ρ, c, h⟩ := z
  refine ⟨B, ρ, c, h.seq.imp ?_⟩
  rintro d ρ' x B' H1 - - - ⟨d, B1, ρ1, st1, rx, h1⟩
  refine ⟨B1, ρ1, st1.cf, h1.seq.imp ?_⟩
  rintro e ρ' y B' H2 - - - ⟨ds, B2, ρ2, st2, ry, h2⟩
  exact h2.here st2.cf (Reps.cons (Rep.mono st2.bb rx) ry)
theorem kwG_reps {K : PySem.W.Frag} {B : Fz} {ds es : List D} {vs us : List V} (h : Reps K B ds vs) (t : Reps K B es us) : Reps K B (kwG m n perm ds es) (kwG m n perm vs us) := by
  unfold kwG
  rw [h.length, t.length]
  split
  · exact h.append (permL_reps t)
  · exact Reps.nil
/-- a call's wish, from the arguments in order -/
theorem callD_end {K : PySem.W.Frag} {E : WX} {σ : L2.St} {B : Fz} {H : Hp} {ρ : Rho} {Q : VK} {ds : List D} {vs : List V} {F : Fn} (c : Cf K B H σ ρ) (ra : Reps K B ds vs) (h1 : At K E (RD K) σ B H ρ Q (match F ds ρ.g with
    | .no => .no
    | .ok d g => .ok d ⟨ρ.l, g⟩
    | .new o g => .ok o.frozen ⟨ρ.l, g⟩
    | .ex e g => .ex e ⟨ρ.l, g⟩)) : spD K F vs H Q (WE E σ) := by
  refine ⟨B, ds, ρ.g, c.plain ra, ?_⟩
  cases ef : F ds ρ.g with
  | no =>
    simp only [ef] at h1
    exact h1
  | ok d g' =>
    simp only [ef] at h1
    exact fun v B' H' st r => h1 v B' H' (call_back c st) r
  | new o g' =>
    simp only [ef] at h1
    intro v B' H' st r
    obtain ⟨p, u, rfl, n0, nB, hH, ro, no⟩ := RN.back c st r
    have s2 := (call_back c st).seal n0 nB hH no
    exact h1 _ _ _ s2 ((ro.mono (FSame.upd nB)).freeze Fz.upd_same)
  | ex d g' =>
    simp only [ef] at h1
    exact fun oc B' H' st r => h1 oc σ B' H' (call_back c st) r
theorem bnd_assocM {α β γ : Type} (f : M α) (g : α → M β) (h : β → M γ) : M.bnd (M.bnd f g) h = M.bnd f fun a => M.bnd (g a) h := by
  funext ρ
  unfold M.bnd
  cases f ρ <;> rfl
def endM (F : Fn) (ds : List D) : M D := fun ρ => match F ds ρ.g with
  | .no => .no
  | .ok d g => .ok d ⟨ρ.l, g⟩
  | .new o g => .ok o.frozen ⟨ρ.l, g⟩
  | .ex e g => .ex e ⟨ρ.l, g⟩
theorem callKw_eq : callM F (kwM m n perm as ks) = (as >>= fun ds => ks >>= fun zs => endM F (kwG m n perm ds zs)) := by
  show M.bnd (M.bnd as fun ds => M.bnd ks fun zs => M.ret (kwG m n perm ds zs)) (endM F) = M.bnd as fun ds => M.bnd ks fun zs => endM F (kwG m n perm ds zs)
  rw [bnd_assocM]
  congr 1
  funext ds
  rw [bnd_assocM]
  rfl
theorem callKw_read : ∀ σ H Q, tD X.K E (callM F (kwM m n perm as ks)) σ H Q → tCallKS (spD X.K F) (kwG m n perm) (WE E) (tL X.K E as) (tL X.K E ks) σ H Q := by
  rintro σ H Q ⟨B, ρ, c, h⟩
  rw [callKw_eq] at h
  refine ⟨B, ρ, c, h.seq.imp ?_⟩
  rintro d ρ' vs B' H1 - - - ⟨ds, B1, ρ1, st1, ra, h1⟩
  have ra : Reps X.K B1 ds vs := ra
  refine ⟨B1, ρ1, st1.cf, h1.seq.imp ?_⟩
  rintro d ρ' us B' H2 - - - ⟨zs, B2, ρ2, st2, rz, h2⟩
  have rz : Reps X.K B2 zs us := rz
  exact callD_end st2.cf (kwG_reps (ra.mono st2.bb) rz) h2
theorem pd_callKw (G : FnOk X.prog X.w X.K X.mg X.base (L2.CX X.prog X.w) k f fd ps (spD X.K F)) (hr : Room k X.A) (hg : Gl X x) (hm : X.mg x = some (.ref f)) (hk : PySem.W.keepIn X.K (.ref f) = true) (hb : KBinds X.K fd ps kn (kwG m n perm) (kwG m n perm)) (tk : Takes X E)
    (ha : PA X (e :: es) (tL X.K E as)) (hkw : PKD X E kws ks) (hall : (backToKw pos (keywordEach kws X.env)).all (·.1.isSome) = true := by rfl) (hks : (backToKw pos (keywordEach kws X.env)).filterMap (·.1) = kn := by rfl)
    (hdb : (x == ("__debug__" : Str)) = false := by decide) (he : starEach (e :: es) X.env = (false, eval e X.env) :: starEach es X.env := by rfl)
    (hpl : ((backTo pos (starEach (e :: es) X.env)).any (·.1) || (backToKw pos (keywordEach kws X.env)).any (·.1.isNone)) = false := by rfl) :
    PE X (.Call (.Name x p) (e :: es) kws pos) (tD X.K E (callM F (kwM m n perm as ks))) := pe_weak (pe_callKS G hr hg hm hk hb (fun σ => passAt tk σ) ha hkw hall hks hdb he hpl) callKw_read
theorem pd_callKw0 (G : FnOk X.prog X.w X.K X.mg X.base (L2.CX X.prog X.w) k f fd ps (spD X.K F)) (hr : Room k X.A) (hg : Gl X x) (hm : X.mg x = some (.ref f)) (hk : PySem.W.keepIn X.K (.ref f) = true) (hb : KBinds X.K fd ps kn (kwG 0 n perm) (kwG 0 n perm)) (tk : Takes X E)
    (hkw : PKD X E kws ks) (hall : (backToKw pos (keywordEach kws X.env)).all (·.1.isSome) = true := by rfl) (hks : (backToKw pos (keywordEach kws X.env)).filterMap (·.1) = kn := by rfl)
    (hdb : (x == ("__debug__" : Str)) = false := by decide)
    (hpl : ((backTo pos (starEach [] X.env)).any (·.1) || (backToKw pos (keywordEach kws X.env)).any (·.1.isNone)) = false := by rfl) :
    PE X (.Call (.Name x p) [] kws pos) (tD X.K E (callM F (kwM 0 n perm (M.ret []) ks))) := by
  refine pe_weak (pe_callKS0 G hr hg hm hk hb (fun σ => passAt tk σ) hkw hall hks hdb hpl) fun σ H Q z => ?_
  obtain ⟨B, ρ, c, h⟩ := callKw_read _ _ _ z
  exact h.here c Reps.nil
end

/-! ### several targets -/
def par3S (i j l : Nat) (fs : M (List D)) : M Out := fs >>= fun ds => fun ρ => match ds with
  | [d, e, z] => .ok .nx (((ρ.set i (some (.val d))).set j (some (.val e))).set l (some (.val z)))
  | _ => .no
section
variable {X : Cx} {E : WX} {x y z : Str} {a b c : Expr} {pos px py pz pt pt2 : Pos} {kt k2} {fs : M (List D)} {i j l : Nat} {f1 f2 : M O}
theorem sd_par3 (h : ∀ {ta : TA}, PA X [a, b, c] ta → PS X (.Assign [.Tuple [.Name x px, .Name y py, .Name z pz] kt pt] (.Tuple [a, b, c] k2 pt2) pos) (tPar3 i j l ta)) (ha : PA X [a, b, c] (tL X.K E fs)) : PS X (.Assign [.Tuple [.Name x px, .Name y py, .Name z pz] kt pt] (.Tuple [a, b, c] k2 pt2) pos) (tS X.K E (par3S i j l fs)) := by
  refine ps_weak (h ha) fun Dn σ H ⟨B, ρ, c, h⟩ => ⟨B, ρ, c, h.seq.imp ?_⟩
  rintro d ρ' vs B' H1 - - - ⟨ds, B1, ρ1, st1, rx, h1⟩
  have rx : Reps X.K B1 ds vs := rx
  match ds, rx, h1 with
  | [], _, h1 => exact h1.elim
  | [_], _, h1 => exact h1.elim
  | [_, _], _, h1 => exact h1.elim
  | _ :: _ :: _ :: _ :: _, _, h1 => exact h1.elim
  | [d, e, w], rx, h1 =>
    simp only [Reps] at rx
    obtain ⟨v1, _, rfl, r1, v2, _, rfl, r2, v3, _, rfl, r3, rfl⟩ := rx
    have s1 := st1.cf.set i r1
    have s2 := s1.cf.set j r2
    exact ⟨v1, v2, v3, rfl, h1 _ _ _ (((st1.trans s1).trans s2).trans (s2.cf.set l r3))⟩
/-- two new objects -/
def parNK (i j : Nat) (o1 o2 : O) : M Out := fun ρ => .ok .nx ((ρ.set i (some (.own o1))).set j (some (.own o2)))
def parNS (i j : Nat) (f1 f2 : M O) : M Out := f1 >>= fun o1 => f2 >>= parNK i j o1
theorem RN.mono {K : PySem.W.Frag} {H0 H1 H2 : Hp} {σ : L2.St} {B1 B2 : Fz} {ρ1 ρ2 : Rho} {o : O} {v : V} (r : RN K H0 σ B1 H1 ρ1 o v) (st : Step K σ B1 H1 ρ1 σ B2 H2 ρ2) : RN K H0 σ B2 H2 ρ2 o v := by
  obtain ⟨p, u, rfl, n0, nB, hH, ro, no⟩ := r
  refine ⟨p, u, rfl, n0, Classical.byContradiction fun y => ?_, st.keep p u hH no, ro.mono st.bb, fun z => ?_⟩
  · rcases st.new p y nB with q | q
    · rw [hH] at q
      cases q
    · exact no q
  · rcases st.own p z with q | q
    · exact no q
    · rw [hH] at q
      cases q
theorem RN.after {K : PySem.W.Frag} {H0 H1 : Hp} {σ : L2.St} {B1 : Fz} {ρ1 : Rho} {o o1 : O} {p p1 : Addr} {i : Nat} (r : RN K H0 σ B1 H1 ρ1 o (.ref p)) (np : p ≠ p1) (hl : σ.length = ρ1.length) : RN K H0 (σ.set i (some (.ref p1))) B1 H1 (ρ1.set i (some (.own o1))) o (.ref p) := by
  obtain ⟨q, u, e, n0, nB, hH, ro, no⟩ := r
  cases e
  refine ⟨p, u, rfl, n0, nB, hH, ro, fun ⟨m, z⟩ => ?_⟩
  cases m with
  | c n => exact no ⟨.c n, z⟩
  | s m =>
    obtain ⟨⟨o', w⟩, w2⟩ := z
    rcases getD_set w with ⟨rfl, w3, hl2⟩ | ⟨hm, w3⟩
    · rw [List.getElem?_set_self (by rw [hl]; exact hl2)] at w2
      cases w2
      exact np rfl
    · rw [List.getElem?_set_ne (Ne.symm hm)] at w2
      exact no ⟨.s m, ⟨o', w3⟩, w2⟩
theorem sn_par (h : ∀ {ta : TA}, PA X [a, b] ta → PS X (.Assign [.Tuple [.Name x px, .Name y py] kt pt] (.Tuple [a, b] k2 pt2) pos) (tPar i j ta)) (ha : PE X a (tN X.K E f1)) (hb : PE X b (tN X.K E f2))
    (hs : starEach [a, b] X.env = (false, eval a X.env) :: starEach [b] X.env := by rfl) (hs2 : starEach [b] X.env = (false, eval b X.env) :: starEach [] X.env := by rfl) : PS X (.Assign [.Tuple [.Name x px, .Name y py] kt pt] (.Tuple [a, b] k2 pt2) pos) (tS X.K E (parNS i j f1 f2)) := by
  refine ps_weak (h (pa_cons ha (pa_cons hb pa_nil hs2) hs)) fun Dn σ H ⟨B, ρ, c, h⟩ => ⟨B, ρ, c, h.seq.imp ?_⟩
  rintro d ρ' v B' H1 - - - ⟨o1, B1, ρ1, st1, r1, h1⟩
  refine ⟨B1, ρ1, st1.cf, ?_⟩
  cases e2 : f2 ρ1 with
  | no =>
    rw [bnd_no e2] at h1
    exact h1.elim
  | ex x ρ2 =>
    rw [bnd_ex e2] at h1
    exact fun oc σ' B' H' s2 r => h1 oc σ' B' H' (st1.trans s2) r
  | ok o2 ρ2 =>
    rw [bnd_ok e2] at h1
    intro w B2 H2 st2 r2
    have r1' : RN X.K H σ B2 H2 ρ2 o1 v := RN.mono r1 st2
    obtain ⟨p1, u1, rfl, z1⟩ := r1
    obtain ⟨p2, u2, rfl, y1⟩ := r2
    have np : p2 ≠ p1 := fun q => by
      subst q
      rw [z1.2.2.1] at y1
      cases y1.1
    have s3 := (st1.trans st2).take i r1'
    have r2' : RN X.K H σ B2 H2 ρ2 o2 (.ref p2) := RlM.back (R := RN X.K) st1.there ⟨p2, u2, rfl, y1⟩
    have s4 := s3.take j (RN.after r2' np st2.cf.len)
    exact ⟨.ref p1, .ref p2, rfl, h1 _ _ _ s4⟩
end

/-! ### list.index -/
def isLD : D → Option Unit
  | .lst _ => some ()
  | _ => none
def idxD (d e : D) : Option D := match d with
  | .lst ds => match D.pys ds, e.py with
    | some ps, some p => if SeqAt.shaped (.list ps) && SeqAt.shaped p then (ps.findIdx? fun z => PyData.eqv z p).map fun j => .int (j : Nat) else none
    | _, _ => none
  | _ => none
def idxM (fa fb : M Opd) : M D := fa >>= fun o => getO o >>= fun d0 => M.opt (isLD d0) >>= fun _ => fb >>= fun u => getO o >>= fun d => getO u >>= fun e => M.opt (idxD d e)
section
variable {X : Cx} {E : WX} {o e : Expr} {fa fb : M Opd} {p2 p3 : Pos}
theorem idx_read : ∀ σ H Q, tD X.K E (idxM fa fb) σ H Q → tBM X.K "list" (rIndexD X.K) (tK X.K E fa) (tCons (tK X.K E fb) tNil) σ H Q := by
  rintro σ H Q ⟨B, ρ, c, h⟩
  refine ⟨B, ρ, c, h.seq.imp ?_⟩
  rintro d ρ' x B' H1 - - - ⟨o, B1, ρ1, st1, rx, h1⟩
  obtain ⟨d0, e0, h1⟩ := h1.getO
  obtain ⟨u0, ei, h1'⟩ := h1.optSeq
  clear h1
  have top0 := RK.top st1.cf rx e0
  cases d0 <;> simp only [isLD, reduceCtorEq] at ei
  obtain ⟨p, xs, rfl, q1, q2⟩ := top0
  refine ⟨.inl ⟨rfl, xs, SqL.of q1⟩, B1, ρ1, st1.cf, h1'.seq.imp ?_⟩
  rintro e ρ' y B' H2 - - - ⟨u, B2, ρ2, st2, ry, h2⟩
  obtain ⟨d, e1, h2⟩ := h2.getO
  obtain ⟨e, e2, h2⟩ := h2.getO
  obtain ⟨z, ez, k⟩ := h2.opt
  have td := (RK.mono (H0' := H2) st2 rx).top st2.cf e1
  have te := RK.top st2.cf ry e2
  unfold idxD at ez
  cases d <;> simp only [reduceCtorEq] at ez
  rename_i ds
  split at ez
  · rename_i ps pe hp he
    split at ez
    · rename_i hs
      rw [Bool.and_eq_true] at hs
      obtain ⟨j, ej, e3⟩ := Option.map_eq_some_iff.mp ez
      subst e3
      rw [List.findIdx?_eq_some_iff_getElem] at ej
      obtain ⟨hj, hv, hm⟩ := ej
      have dp : Dp X.K H2 (.ref p) (.list ps) := by
        have := td.dp st2.cf.bh (p := .list ps) (by simp only [D.py, hp, Option.map_some])
        exact this
      refine ⟨p, y, pe, ps, j, ps[j], rfl, rfl, dp, te.dp st2.cf.bh he, hs.1, hs.2, List.getElem?_eq_getElem hj, hv, fun m z' l hz => ?_, k _ _ _ (Step.refl st2.cf) (by simp only [RD, Rep])⟩
      have hm2 := hm m l
      obtain ⟨l2, e4⟩ := List.getElem?_eq_some_iff.mp hz
      subst e4
      simpa using hm2
    · cases ez
  · cases ez
theorem pk_index (hu : X.A.units + 65 < cLine) (ho : PE X o (tK X.K E fa)) (he : PE X e (tK X.K E fb))
    (hbase : attributeBase o "index" X.env (eval o X.env) = eval o X.env := by rfl)
    (hfew : ((backTo p3 (starEach [e] X.env)).all (fun x => !x.1) && (backToKw p3 (keywordEach [] X.env)).all (fun x => x.1.isSome)
      && decide ([e].length + ([] : List Keyword).length + (if ([] : List Keyword).isEmpty then 0 else 1) < 30)) = true := by rfl)
    (hline : (p2.endLine == p3.line) = true := by rfl) (hs : starEach [e] X.env = (false, eval e X.env) :: starEach [] X.env := by rfl) (hplain : (backTo p3 (starEach [] X.env)).any (·.1) = false := by rfl) :
    PE X (.Call (.Attribute o "index" p2) [e] [] p3) (tD X.K E (idxM fa fb)) :=
  pe_weak (pe_bm PySem.F.plainAttrs_list PySem.F.slot_list_index PySem.F.type_list_index (mt_indexD hu) ho (pa_cons he pa_nil hs) hbase hfew hline hs hplain) idx_read
end
theorem units65 {k : Nat} {A : Around} (r : Room k A) : A.units + 65 < cLine := by have := r.un; omega
end Nc

/-! list(range(..)) -/
namespace Nc
open PySem PySem.Spec PyProof.Rows L2
def rngO : D → Option O
  | .int j => if decide (0 ≤ j) && decide (j ≤ 1000000) then some (.lst (rangeL 0 j.toNat)) else none
  | _ => none
def listRngM (fa : M D) : M O := fa >>= fun d => M.opt (rngO d)
theorem reps_range {K : PySem.W.Frag} {B : Fz} (j : Int) : Reps K B (rangeL 0 j.toNat) (rgV 0 j) := by
  unfold rangeL rgV
  rw [Int.sub_zero]
  generalize List.range j.toNat = ns
  induction ns with
  | nil => exact Reps.nil
  | cons n ns ih => exact Reps.cons (by simp only [Rep]) ih
section
variable {X : Cx} {E : WX} {a : Expr} {fa : M D} {p p2 pos pos2 : Pos}
theorem pn_listRng (hc : X.calm = true) (hg : Gl X "list") (hm : X.mg "list" = none) (hg2 : Gl X "range") (hm2 : X.mg "range" = none) (ha : PE X a (tD X.K E fa)) (na : starEach [a] X.env = (false, eval a X.env) :: starEach [] X.env := by rfl)
    (nb : starEach [.Call (.Name "range" p2) [a] [] pos2] X.env = (false, eval (.Call (.Name "range" p2) [a] [] pos2) X.env) :: starEach [] X.env := by rfl) :
    PE X (.Call (.Name "list" p) [.Call (.Name "range" p2) [a] [] pos2] [] pos) (tN X.K E (listRngM fa)) := by
  refine pe_weak (pe_listRg hc hg hm (prg_1 hg2 hm2 ha na) nb) ?_
  rintro σ H Q ⟨B, ρ, c, h⟩
  refine ⟨B, ρ, c, h.seq.imp ?_⟩
  rintro d ρ' x B' H1 - - - ⟨d, B1, ρ1, st1, rx, h1⟩
  obtain ⟨o, eo, k⟩ := h1.opt
  cases d <;> simp only [rngO, reduceCtorEq] at eo
  split at eo
  · rename_i j hz
    cases eo
    rw [Bool.and_eq_true, decide_eq_true_eq, decide_eq_true_eq] at hz
    refine ⟨j, by rw [rep_int rx], ⟨by omega, by omega, by omega, by omega, by omega⟩, fun q hq => k _ _ _ (st1.cf.free hq _) (new_lst st1.cf (fun _ z => z) hq (reps_range j))⟩
  · cases eo
end
end Nc

/-! Rules by which simp runs the terms. -/
namespace Nc
open PySem PySem.Spec PyProof.Rows L2

def Rs.bnd {α β : Type} (r : Rs α) (g : α → Rho → Rs β) : Rs β := match r with
  | .no => .no
  | .ok a ρ => g a ρ
  | .ex e ρ => .ex e ρ
section
variable {α β γ : Type} {g : α → Rho → Rs β} {a : α} {ρ : Rho} {e : Xn}
theorem Rs.bnd_ok : (Rs.ok a ρ).bnd g = g a ρ := Eq.trans (Eq.refl _) (Eq.refl _)
theorem Rs.bnd_no : (Rs.no : Rs α).bnd g = .no := Eq.trans (Eq.refl _) (Eq.refl _)
theorem Rs.bnd_ex : (Rs.ex e ρ : Rs α).bnd g = .ex e ρ := Eq.trans (Eq.refl _) (Eq.refl _)
def thenK (g : α → Rho → Rs β) (h : β → Rho → Rs γ) (a : α) (ρ : Rho) : Rs γ := (g a ρ).bnd h
theorem thenK_r {h : β → Rho → Rs γ} : thenK g h a ρ = (g a ρ).bnd h := Eq.trans (Eq.refl _) (Eq.refl _)
theorem Rs.bnd_assoc {r : Rs α} {h : β → Rho → Rs γ} : (r.bnd g).bnd h = r.bnd (thenK g h) := by cases r <;> rfl
theorem bnd_step {r : Rs α} {z : Rs β} (h : r = .ok a ρ) (k : g a ρ = z) : r.bnd g = z := by rw [h]; exact k
end
def optR {α : Type} (o : Option α) (ρ : Rho) : Rs α := match o with
  | none => .no
  | some a => .ok a ρ
section
variable {α : Type} {a : α} {ρ : Rho}
theorem optR_some : optR (some a) ρ = .ok a ρ := Eq.trans (Eq.refl _) (Eq.refl _)
theorem optR_none : optR (none : Option α) ρ = .no := Eq.trans (Eq.refl _) (Eq.refl _)
end
/-! the slots -/
section
variable {l : List (Option Slot)} {g : Cells} {i : Nat} {s : Option Slot}
theorem Rho.get_mk : (Rho.mk l g)[i]? = l[i]? := Eq.trans (Eq.refl _) (Eq.refl _)
theorem Rho.set_mk : (Rho.mk l g).set i s = ⟨l.set i s, g⟩ := Eq.trans (Eq.refl _) (Eq.refl _)
theorem Rho.g_mk : (Rho.mk l g).g = g := Eq.trans (Eq.refl _) (Eq.refl _)
theorem Rho.l_mk : (Rho.mk l g).l = l := Eq.trans (Eq.refl _) (Eq.refl _)
def slotR (s : Option (Option Slot)) (i : Nat) (l : List (Option Slot)) (g : Cells) : Rs D := match s with
  | some (some (.val d)) => .ok d ⟨l, g⟩
  | some (some (.own o)) => .ok o.frozen ⟨l.set i (some (.val o.frozen)), g⟩
  | _ => .no
theorem var_r : var i ⟨l, g⟩ = slotR l[i]? i l g := by
  unfold var slotR
  rw [Rho.get_mk]
  try rfl
theorem slotR_val {d : D} : slotR (some (some (.val d))) i l g = .ok d ⟨l, g⟩ := Eq.trans (Eq.refl _) (Eq.refl _)
theorem slotR_own {o : O} : slotR (some (some (.own o))) i l g = .ok o.frozen ⟨l.set i (some (.val o.frozen)), g⟩ := Eq.trans (Eq.refl _) (Eq.refl _)
def slotK (s : Option (Option Slot)) (i : Nat) (l : List (Option Slot)) (g : Cells) : Rs Opd := match s with
  | some (some _) => .ok (.s i) ⟨l, g⟩
  | _ => .no
theorem varK_r : varK i ⟨l, g⟩ = slotK l[i]? i l g := by
  unfold varK slotK
  rw [Rho.get_mk]
  try rfl
theorem slotK_some {d : Slot} : slotK (some (some d)) i l g = .ok (.s i) ⟨l, g⟩ := Eq.trans (Eq.refl _) (Eq.refl _)
/-- an operand's tree -/
def lookG (g : Cells) : D → Option D
  | .ptr n => (g[n]?).map O.frozen
  | x => some x
theorem look_mk {d : D} : look ⟨l, g⟩ d = lookG g d := by
  cases d with
  | ptr n =>
    simp only [look, lookG]
    cases g[n]? <;> rfl
  | _ => rfl
def datR (s : Option (Option Slot)) (g : Cells) : Option D := match s with
  | some (some (.val x)) => lookG g x
  | some (some (.own y)) => some y.frozen
  | _ => none
theorem dat_s : Opd.dat ⟨l, g⟩ (.s i) = datR l[i]? g := by
  show (match l[i]? with
    | some (some (Slot.val x)) => look ⟨l, g⟩ x
    | some (some (Slot.own y)) => some y.frozen
    | _ => none) = _
  unfold datR
  cases l[i]? with
  | none => rfl
  | some s =>
    cases s with
    | none => rfl
    | some s =>
      cases s with
      | val d => exact look_mk
      | own o => rfl
theorem dat_d {d : D} : Opd.dat ⟨l, g⟩ (.d d) = lookG g d := look_mk
theorem datR_val {x : D} : datR (some (some (.val x))) g = lookG g x := Eq.trans (Eq.refl _) (Eq.refl _)
theorem datR_own {y : O} : datR (some (some (.own y))) g = some y.frozen := Eq.trans (Eq.refl _) (Eq.refl _)
section
variable {b : Bool} {j : Int} {z : Str} {ds : List D} {ks : List Key} {kt : List (List Key)} {C : Addr} {fs : List Str} {n : String} {m : Nat}
theorem lookG_non : lookG g .non = some .non := Eq.trans (Eq.refl _) (Eq.refl _)
theorem lookG_bl : lookG g (.bl b) = some (.bl b) := Eq.trans (Eq.refl _) (Eq.refl _)
theorem lookG_int : lookG g (.int j) = some (.int j) := Eq.trans (Eq.refl _) (Eq.refl _)
theorem lookG_str : lookG g (.str z) = some (.str z) := Eq.trans (Eq.refl _) (Eq.refl _)
theorem lookG_tup : lookG g (.tup ds) = some (.tup ds) := Eq.trans (Eq.refl _) (Eq.refl _)
theorem lookG_lst : lookG g (.lst ds) = some (.lst ds) := Eq.trans (Eq.refl _) (Eq.refl _)
theorem lookG_dk : lookG g (.dk ks ds) = some (.dk ks ds) := Eq.trans (Eq.refl _) (Eq.refl _)
theorem lookG_dt : lookG g (.dt kt ds) = some (.dt kt ds) := Eq.trans (Eq.refl _) (Eq.refl _)
theorem lookG_ob : lookG g (.ob C fs ds) = some (.ob C fs ds) := Eq.trans (Eq.refl _) (Eq.refl _)
theorem lookG_ptr : lookG g (.ptr m) = (g[m]?).map O.frozen := Eq.trans (Eq.refl _) (Eq.refl _)
theorem frozen_lst : (O.lst ds).frozen = .lst ds := Eq.trans (Eq.refl _) (Eq.refl _)
theorem frozen_dk : (O.dk ks ds).frozen = .dk ks ds := Eq.trans (Eq.refl _) (Eq.refl _)
theorem frozen_dt : (O.dt kt ds).frozen = .dt kt ds := Eq.trans (Eq.refl _) (Eq.refl _)
theorem frozen_ob : (O.ob C fs ds).frozen = .ob C fs ds := Eq.trans (Eq.refl _) (Eq.refl _)
end
end
section
variable {α β : Type} {ρ : Rho} {i j : Nat} {f g : M D} {fo : M O} {fa fb : M Opd} {t u : M Bool} {h1 h2 : M Out} {fs : M (List D)} {fr : M Ref}
theorem bind_r {f : M α} {g : α → M β} : (f >>= g) ρ = (f ρ).bnd g := by
  show M.bnd f g ρ = _
  unfold M.bnd Rs.bnd
  cases f ρ <;> rfl
theorem ret_r {a : α} : M.ret a ρ = .ok a ρ := Eq.trans (Eq.refl _) (Eq.refl _)
theorem opt_r {o : Option α} : M.opt o ρ = optR o ρ := by cases o <;> rfl
theorem opt_f {o : Option α} : M.opt o = optR o := funext fun ρ => opt_r
theorem ret_f {a : α} : M.ret a = fun ρ => .ok a ρ := Eq.trans (Eq.refl _) (Eq.refl _)
def nextS (h2 : M Out) (o : Out) (ρ : Rho) : Rs Out := match o with
  | .nx => h2 ρ
  | o => .ok o ρ
theorem nextS_nx : nextS h2 .nx ρ = h2 ρ := Eq.trans (Eq.refl _) (Eq.refl _)
theorem nextS_rt {d : D} : nextS h2 (.rt d) ρ = .ok (.rt d) ρ := Eq.trans (Eq.refl _) (Eq.refl _)
theorem nextS_rn : nextS h2 (.rn i) ρ = .ok (.rn i) ρ := Eq.trans (Eq.refl _) (Eq.refl _)
theorem nextS_bk : nextS h2 .bk ρ = .ok .bk ρ := Eq.trans (Eq.refl _) (Eq.refl _)
theorem nextS_ct : nextS h2 .ct ρ = .ok .ct ρ := Eq.trans (Eq.refl _) (Eq.refl _)
theorem then_r : thenS h1 h2 ρ = (h1 ρ).bnd (nextS h2) := by
  unfold thenS
  rw [bind_r]
  congr 1
  funext o ρ'
  cases o <;> rfl
def ifK {α : Type} (f g : M α) (b : Bool) (ρ : Rho) : Rs α := match b with
  | true => f ρ
  | false => g ρ
theorem ifK_t {f g : M α} : ifK f g true ρ = f ρ := Eq.trans (Eq.refl _) (Eq.refl _)
theorem ifK_f {f g : M α} : ifK f g false ρ = g ρ := Eq.trans (Eq.refl _) (Eq.refl _)
theorem if_r {f g : M α} : ifM t f g ρ = (t ρ).bnd (ifK f g) := by
  unfold ifM
  rw [bind_r]
  congr 1
  funext b ρ'
  cases b <;> rfl
def setK (i : Nat) (d : D) (ρ : Rho) : Rs Out := .ok .nx (ρ.set i (some (.val d)))
theorem setK_r {d : D} : setK i d ρ = .ok .nx (ρ.set i (some (.val d))) := Eq.trans (Eq.refl _) (Eq.refl _)
theorem set_r : setS i f ρ = (f ρ).bnd (setK i) := bind_r
def setNK (i : Nat) (d : O) (ρ : Rho) : Rs Out := .ok .nx (ρ.set i (some (.own d)))
theorem setNK_r {d : O} : setNK i d ρ = .ok .nx (ρ.set i (some (.own d))) := Eq.trans (Eq.refl _) (Eq.refl _)
theorem setN_r : setN i fo ρ = (fo ρ).bnd (setNK i) := bind_r
def retK (d : D) (ρ : Rho) : Rs Out := .ok (.rt d) ρ
theorem retK_r {d : D} : retK d ρ = .ok (.rt d) ρ := Eq.trans (Eq.refl _) (Eq.refl _)
theorem retS_r : retS f ρ = (f ρ).bnd retK := bind_r
def nxK {α : Type} (_ : α) (ρ : Rho) : Rs Out := .ok .nx ρ
theorem nxK_r {α : Type} {a : α} : nxK a ρ = .ok .nx ρ := Eq.trans (Eq.refl _) (Eq.refl _)
theorem drop_r : dropS f ρ = (f ρ).bnd nxK := bind_r
def opdK (d : D) (ρ : Rho) : Rs Opd := .ok (.d d) ρ
theorem opdK_r {d : D} : opdK d ρ = .ok (.d d) ρ := Eq.trans (Eq.refl _) (Eq.refl _)
theorem opd_r : opdM f ρ = (f ρ).bnd opdK := bind_r
def frzK (o : O) (ρ : Rho) : Rs D := .ok o.frozen ρ
theorem frzK_r {o : O} : frzK o ρ = .ok o.frozen ρ := Eq.trans (Eq.refl _) (Eq.refl _)
theorem frz_r : frzM fo ρ = (fo ρ).bnd frzK := bind_r
def cellK (o : O) (ρ : Rho) : Rs D := .ok (.ptr ρ.g.length) ⟨ρ.l, ρ.g ++ [o]⟩
theorem cellK_r {o : O} {l : List (Option Slot)} {g : Cells} : cellK o ⟨l, g⟩ = .ok (.ptr g.length) ⟨l, g ++ [o]⟩ := Eq.trans (Eq.refl _) (Eq.refl _)
theorem cell_r : cellM fo ρ = (fo ρ).bnd cellK := bind_r
/-- an operation on a known tree -/
def opK {α β : Type} (op : α → Option β) (d : α) (ρ : Rho) : Rs β := optR (op d) ρ
theorem opK_r {α β : Type} {op : α → Option β} {d : α} : opK op d ρ = optR (op d) ρ := Eq.trans (Eq.refl _) (Eq.refl _)
theorem op_f {α β : Type} {op : α → Option β} : (fun d => M.opt (op d)) = opK op := by
  funext d ρ
  exact opt_r
theorem op_r {α β : Type} {op : α → Option β} {f : M α} : (f >>= fun d => M.opt (op d)) ρ = (f ρ).bnd (opK op) := by
  rw [bind_r, op_f]
def b2A {β : Type} (op : D → D → Option β) (g : M D) (d : D) (ρ : Rho) : Rs β := (g ρ).bnd (opK (op d))
theorem b2A_r {β : Type} {op : D → D → Option β} {d : D} : b2A op g d ρ = (g ρ).bnd (opK (op d)) := Eq.trans (Eq.refl _) (Eq.refl _)
theorem b2G_r {β : Type} {op : D → D → Option β} : (f >>= fun d => g >>= fun e => M.opt (op d e)) ρ = (f ρ).bnd (b2A op g) := by
  rw [bind_r]
  congr 1
  funext d ρ1
  exact op_r
theorem b2_r {op : D → D → Option D} : b2 op f g ρ = (f ρ).bnd (b2A op g) := b2G_r
theorem b2N_r {op : D → D → Option O} : b2N op f g ρ = (f ρ).bnd (b2A op g) := b2G_r
theorem listRng_r : listRngM f ρ = (f ρ).bnd (opK rngO) := op_r
theorem neg_r : (f >>= fun d => M.opt (negD d)) ρ = (f ρ).bnd (opK negD) := op_r
theorem getO_r {o : Opd} : getO o ρ = optR (o.dat ρ) ρ := by
  unfold getO optR
  cases o.dat ρ <;> rfl
/-- an operation on an operand -/
def k1A (op : D → Option α) (o : Opd) (ρ : Rho) : Rs α := (optR (o.dat ρ) ρ).bnd (opK op)
theorem k1A_r {op : D → Option α} {o : Opd} : k1A op o ρ = (optR (o.dat ρ) ρ).bnd (opK op) := Eq.trans (Eq.refl _) (Eq.refl _)
theorem k1_r {op : D → Option α} : k1 op fa ρ = (fa ρ).bnd (k1A op) := by
  unfold k1
  rw [bind_r]
  congr 1
  funext o ρ1
  rw [bind_r, getO_r, op_f]
  rfl
def k2A (op : D → D → Option D) (fb : M Opd) (o : Opd) (ρ : Rho) : Rs D := (fb ρ).bnd fun u ρ => (optR (o.dat ρ) ρ).bnd fun d ρ => (optR (u.dat ρ) ρ).bnd (opK (op d))
def k2B (op : D → D → Option D) (o u : Opd) (ρ : Rho) : Rs D := (optR (o.dat ρ) ρ).bnd fun d ρ => (optR (u.dat ρ) ρ).bnd (opK (op d))
def k2C (op : D → D → Option D) (u : Opd) (d : D) (ρ : Rho) : Rs D := (optR (u.dat ρ) ρ).bnd (opK (op d))
theorem k2A_r {op : D → D → Option D} {o : Opd} : k2A op fb o ρ = (fb ρ).bnd (k2B op o) := Eq.trans (Eq.refl _) (Eq.refl _)
theorem k2B_r {op : D → D → Option D} {o u : Opd} : k2B op o u ρ = (optR (o.dat ρ) ρ).bnd (k2C op u) := Eq.trans (Eq.refl _) (Eq.refl _)
theorem k2C_r {op : D → D → Option D} {u : Opd} {d : D} : k2C op u d ρ = (optR (u.dat ρ) ρ).bnd (opK (op d)) := Eq.trans (Eq.refl _) (Eq.refl _)
theorem k2_r {op : D → D → Option D} : k2 op fa fb ρ = (fa ρ).bnd (k2A op fb) := by
  unfold k2
  rw [bind_r]
  congr 1
  funext o ρ1
  rw [bind_r]
  unfold k2A
  congr 1
  funext u ρ2
  rw [bind_r, getO_r]
  congr 1
  funext d ρ3
  rw [bind_r, getO_r, op_f]
def slA (fl fh : M (Option Int)) (o : Opd) (ρ : Rho) : Rs D := (fl ρ).bnd fun l ρ => (fh ρ).bnd fun u ρ => (optR (o.dat ρ) ρ).bnd (opK (slD l u))
def slB (fh : M (Option Int)) (o : Opd) (l : Option Int) (ρ : Rho) : Rs D := (fh ρ).bnd fun u ρ => (optR (o.dat ρ) ρ).bnd (opK (slD l u))
def slC (o : Opd) (l u : Option Int) (ρ : Rho) : Rs D := (optR (o.dat ρ) ρ).bnd (opK (slD l u))
theorem slA_r {fl fh : M (Option Int)} {o : Opd} : slA fl fh o ρ = (fl ρ).bnd (slB fh o) := Eq.trans (Eq.refl _) (Eq.refl _)
theorem slB_r {fh : M (Option Int)} {o : Opd} {l : Option Int} : slB fh o l ρ = (fh ρ).bnd (slC o l) := Eq.trans (Eq.refl _) (Eq.refl _)
theorem slC_r {o : Opd} {l u : Option Int} : slC o l u ρ = (optR (o.dat ρ) ρ).bnd (opK (slD l u)) := Eq.trans (Eq.refl _) (Eq.refl _)
theorem sl_r {fl fh : M (Option Int)} : slM fa fl fh ρ = (fa ρ).bnd (slA fl fh) := by
  unfold slM
  rw [bind_r]
  congr 1
  funext o ρ1
  rw [bind_r]
  unfold slA
  congr 1
  funext l ρ2
  rw [bind_r]
  congr 1
  funext u ρ3
  rw [bind_r, getO_r, op_f]
def asSome (d : D) : Option (Option Int) := (asI d).map some
theorem asSome_int {i : Int} : asSome (.int i) = some (some i) := Eq.trans (Eq.refl _) (Eq.refl _)
theorem part_r : partM f ρ = (f ρ).bnd (opK asSome) := by
  unfold partM
  rw [bind_r]
  congr 1
  funext d ρ1
  rw [bind_r, opt_r]
  unfold opK asSome
  cases asI d <;> rfl
theorem tst_r : tst f ρ = (f ρ).bnd (opK asB) := op_r
def andK (u : M Bool) (b : Bool) (ρ : Rho) : Rs Bool := match b with
  | true => u ρ
  | false => .ok false ρ
theorem andK_t : andK u true ρ = u ρ := Eq.trans (Eq.refl _) (Eq.refl _)
theorem andK_f : andK u false ρ = .ok false ρ := Eq.trans (Eq.refl _) (Eq.refl _)
theorem and_r : andM t u ρ = (t ρ).bnd (andK u) := by
  unfold andM
  rw [bind_r]
  congr 1
  funext b ρ1
  cases b <;> rfl
def orK (u : M Bool) (b : Bool) (ρ : Rho) : Rs Bool := match b with
  | true => .ok true ρ
  | false => u ρ
theorem orK_t : orK u true ρ = .ok true ρ := Eq.trans (Eq.refl _) (Eq.refl _)
theorem orK_f : orK u false ρ = u ρ := Eq.trans (Eq.refl _) (Eq.refl _)
theorem or_r : orM t u ρ = (t ρ).bnd (orK u) := by
  unfold orM
  rw [bind_r]
  congr 1
  funext b ρ1
  cases b <;> rfl
def notK (b : Bool) (ρ : Rho) : Rs Bool := .ok (!b) ρ
theorem notK_r {b : Bool} : notK b ρ = .ok (!b) ρ := Eq.trans (Eq.refl _) (Eq.refl _)
theorem not_r : notM t ρ = (t ρ).bnd notK := bind_r
def andVK (g : M D) (d : D) (ρ : Rho) : Rs D := match d with
  | .bl true => g ρ
  | .bl false => .ok (.bl false) ρ
  | _ => .no
theorem andVK_t : andVK g (.bl true) ρ = g ρ := Eq.trans (Eq.refl _) (Eq.refl _)
theorem andVK_f : andVK g (.bl false) ρ = .ok (.bl false) ρ := Eq.trans (Eq.refl _) (Eq.refl _)
theorem andV_r : andV f g ρ = (f ρ).bnd (andVK g) := by
  unfold andV
  rw [bind_r]
  congr 1
  funext d ρ1
  rw [bind_r, opt_r]
  cases d with
  | bl b => cases b <;> rfl
  | _ => rfl
def orVK (g : M D) (d : D) (ρ : Rho) : Rs D := match d with
  | .bl true => .ok (.bl true) ρ
  | .bl false => g ρ
  | _ => .no
theorem orVK_t : orVK g (.bl true) ρ = .ok (.bl true) ρ := Eq.trans (Eq.refl _) (Eq.refl _)
theorem orVK_f : orVK g (.bl false) ρ = g ρ := Eq.trans (Eq.refl _) (Eq.refl _)
theorem orV_r : orV f g ρ = (f ρ).bnd (orVK g) := by
  unfold orV
  rw [bind_r]
  congr 1
  funext d ρ1
  rw [bind_r, opt_r]
  cases d with
  | bl b => cases b <;> rfl
  | _ => rfl
def asNB (d : D) : Option D := (asB d).map fun b => .bl (!b)
theorem asNB_bl {b : Bool} : asNB (.bl b) = some (.bl (!b)) := Eq.trans (Eq.refl _) (Eq.refl _)
theorem notV_r : notV f ρ = (f ρ).bnd (opK asNB) := by
  unfold notV
  rw [bind_r]
  congr 1
  funext d ρ1
  rw [bind_r, opt_r]
  unfold opK asNB
  cases asB d <;> rfl
theorem asB_bl {b : Bool} : asB (.bl b) = some b := Eq.trans (Eq.refl _) (Eq.refl _)
def consK (fs : M (List D)) (d : D) (ρ : Rho) : Rs (List D) := (fs ρ).bnd fun ds ρ => .ok (d :: ds) ρ
def consL (d : D) (ds : List D) (ρ : Rho) : Rs (List D) := .ok (d :: ds) ρ
theorem consK_r {d : D} : consK fs d ρ = (fs ρ).bnd (consL d) := Eq.trans (Eq.refl _) (Eq.refl _)
theorem consL_r {d : D} {ds : List D} : consL d ds ρ = .ok (d :: ds) ρ := Eq.trans (Eq.refl _) (Eq.refl _)
theorem cons_r : consM f fs ρ = (f ρ).bnd (consK fs) := by
  unfold consM
  rw [bind_r]
  congr 1
theorem lst_r : lstM fs ρ = (fs ρ).bnd (opK sizedL) := op_r
theorem tup_r : tupM fs ρ = (fs ρ).bnd (opK sizedT) := op_r
/-! references -/
def slotF (s : Option (Option Slot)) (i : Nat) (l : List (Option Slot)) (g : Cells) : Rs Ref := match s with
  | some (some (.own _)) => .ok (.s i) ⟨l, g⟩
  | some (some (.val (.ptr n))) => .ok (.c n) ⟨l, g⟩
  | _ => .no
theorem refS_r {l : List (Option Slot)} {g : Cells} : refS i ⟨l, g⟩ = slotF l[i]? i l g := by
  unfold refS slotF
  rw [Rho.get_mk]
  try rfl
theorem slotF_own {l : List (Option Slot)} {g : Cells} {o : O} : slotF (some (some (.own o))) i l g = .ok (.s i) ⟨l, g⟩ := Eq.trans (Eq.refl _) (Eq.refl _)
theorem slotF_ptr {l : List (Option Slot)} {g : Cells} {n : Nat} : slotF (some (some (.val (.ptr n)))) i l g = .ok (.c n) ⟨l, g⟩ := Eq.trans (Eq.refl _) (Eq.refl _)
theorem refD_r : refD f ρ = (f ρ).bnd (opK asRef) := op_r
theorem asRef_ptr {n : Nat} : asRef (.ptr n) = some (.c n) := Eq.trans (Eq.refl _) (Eq.refl _)
def ownR (s : Option (Option Slot)) : Option O := match s with
  | some (some (.own o)) => some o
  | _ => none
theorem getR_sm {l : List (Option Slot)} {g : Cells} : getR ⟨l, g⟩ (.s i) = ownR l[i]? := by
  show (match l[i]? with
    | some (some (Slot.own o)) => some o
    | _ => none) = _
  unfold ownR
  rfl
theorem ownR_own {o : O} : ownR (some (some (.own o))) = some o := Eq.trans (Eq.refl _) (Eq.refl _)
theorem getR_cm {l : List (Option Slot)} {g : Cells} : getR ⟨l, g⟩ (.c i) = g[i]? := Eq.trans (Eq.refl _) (Eq.refl _)
theorem setR_s {l : List (Option Slot)} {g : Cells} {o : O} : setR ⟨l, g⟩ (.s i) o = ⟨l.set i (some (.own o)), g⟩ := Eq.trans (Eq.refl _) (Eq.refl _)
theorem setR_c {l : List (Option Slot)} {g : Cells} {o : O} : setR ⟨l, g⟩ (.c i) o = ⟨l, g.set i o⟩ := Eq.trans (Eq.refl _) (Eq.refl _)
theorem chkO_r {r : Ref} {k : O → Option α} : chkO r k ρ = optR ((getR ρ r).bind k) ρ := by
  unfold chkO optR
  cases getR ρ r with
  | none => rfl
  | some o => cases h : k o <;> simp [h]
def updK (r : Ref) (z : α × O) (ρ : Rho) : Rs α := .ok z.1 (setR ρ r z.2)
theorem updK_r {r : Ref} {z : α} {o : O} : updK r (z, o) ρ = .ok z (setR ρ r o) := Eq.trans (Eq.refl _) (Eq.refl _)
theorem updO_r {r : Ref} {op : O → Option (α × O)} : updO r op ρ = (optR ((getR ρ r).bind op) ρ).bnd (updK r) := by
  unfold updO optR
  cases getR ρ r with
  | none => rfl
  | some o => cases h : op o <;> simp [h, Rs.bnd, updK]
theorem isL_lst {ds : List D} : isL (.lst ds) = some ds := Eq.trans (Eq.refl _) (Eq.refl _)
theorem opL_lst {op : List D → Option (D × List D)} {ds : List D} : opL op (.lst ds) = (op ds).map fun z => (z.1, .lst z.2) := Eq.trans (Eq.refl _) (Eq.refl _)
def lm1A (op : List D → D → Option (D × List D)) (f : M D) (r : Ref) (ρ : Rho) : Rs D := (chkO r isL ρ).bnd fun _ ρ => (f ρ).bnd fun d ρ => updO r (opL fun ds => op ds d) ρ
def lm1B (op : List D → D → Option (D × List D)) (f : M D) (r : Ref) (_ : List D) (ρ : Rho) : Rs D := (f ρ).bnd fun d ρ => updO r (opL fun ds => op ds d) ρ
def lm1C (op : List D → D → Option (D × List D)) (r : Ref) (d : D) (ρ : Rho) : Rs D := updO r (opL fun ds => op ds d) ρ
theorem lm1A_r {op : List D → D → Option (D × List D)} {r : Ref} : lm1A op f r ρ = (chkO r isL ρ).bnd (lm1B op f r) := Eq.trans (Eq.refl _) (Eq.refl _)
theorem lm1B_r {op : List D → D → Option (D × List D)} {r : Ref} {x : List D} : lm1B op f r x ρ = (f ρ).bnd (lm1C op r) := Eq.trans (Eq.refl _) (Eq.refl _)
theorem lm1C_r {op : List D → D → Option (D × List D)} {r : Ref} {d : D} : lm1C op r d ρ = updO r (opL fun ds => op ds d) ρ := Eq.trans (Eq.refl _) (Eq.refl _)
theorem lm1_r {op : List D → D → Option (D × List D)} : lm1 op fr f ρ = (fr ρ).bnd (lm1A op f) := by
  unfold lm1
  rw [bind_r]
  congr 1
def lm0A (op : List D → Option (D × List D)) (r : Ref) (ρ : Rho) : Rs D := updO r (opL op) ρ
theorem lm0A_r {op : List D → Option (D × List D)} {r : Ref} : lm0A op r ρ = updO r (opL op) ρ := Eq.trans (Eq.refl _) (Eq.refl _)
theorem lm0_r {op : List D → Option (D × List D)} : lm0 op fr ρ = (fr ρ).bnd (lm0A op) := by
  unfold lm0
  rw [bind_r]
  rfl
def itA (fr : M Ref) (g : M D) (d : D) (ρ : Rho) : Rs Out := (fr ρ).bnd fun r ρ => (chkO r isL ρ).bnd fun _ ρ => (g ρ).bnd fun j ρ => (updO r (opL fun ds => (setIx ds j d).map fun es => (.non, es)) ρ).bnd nxK
def itB (g : M D) (d : D) (r : Ref) (ρ : Rho) : Rs Out := (chkO r isL ρ).bnd fun _ ρ => (g ρ).bnd fun j ρ => (updO r (opL fun ds => (setIx ds j d).map fun es => (.non, es)) ρ).bnd nxK
def itC (g : M D) (d : D) (r : Ref) (_ : List D) (ρ : Rho) : Rs Out := (g ρ).bnd fun j ρ => (updO r (opL fun ds => (setIx ds j d).map fun es => (.non, es)) ρ).bnd nxK
def itD (d : D) (r : Ref) (j : D) (ρ : Rho) : Rs Out := (updO r (opL fun ds => (setIx ds j d).map fun es => (.non, es)) ρ).bnd nxK
theorem itA_r {d : D} : itA fr g d ρ = (fr ρ).bnd (itB g d) := Eq.trans (Eq.refl _) (Eq.refl _)
theorem itB_r {d : D} {r : Ref} : itB g d r ρ = (chkO r isL ρ).bnd (itC g d r) := Eq.trans (Eq.refl _) (Eq.refl _)
theorem itC_r {d : D} {r : Ref} {x : List D} : itC g d r x ρ = (g ρ).bnd (itD d r) := Eq.trans (Eq.refl _) (Eq.refl _)
theorem itD_r {d j : D} {r : Ref} : itD d r j ρ = (updO r (opL fun ds => (setIx ds j d).map fun es => (.non, es)) ρ).bnd nxK := Eq.trans (Eq.refl _) (Eq.refl _)
theorem item_r : itemS fr f g ρ = (f ρ).bnd (itA fr g) := by
  unfold itemS
  rw [bind_r]
  congr 1
/-! walks, targets -/
theorem seqI_r : seqI f ρ = (f ρ).bnd (opK itemsD) := op_r
theorem items_lst {ds : List D} : itemsD (.lst ds) = some ds := Eq.trans (Eq.refl _) (Eq.refl _)
theorem items_tup {ds : List D} : itemsD (.tup ds) = some ds := Eq.trans (Eq.refl _) (Eq.refl _)
theorem items_str {z : Str} : itemsD (.str z) = some (signsL z) := Eq.trans (Eq.refl _) (Eq.refl _)
theorem rngI_r : rngI f ρ = (f ρ).bnd (opK rng1) := op_r
theorem rngI2_r : rngI2 f g ρ = (f ρ).bnd (b2A rng2 g) := b2G_r
theorem zipI_r : zipI f g ρ = (f ρ).bnd (b2A zipD g) := b2G_r
theorem bndN_r {d : D} : bndN i d ρ = .ok () (ρ.set i (some (.val d))) := Eq.trans (Eq.refl _) (Eq.refl _)
theorem bndT_r {is : List Nat} {ds : List D} : bndT is (.tup ds) ρ = bndS is ds ρ := Eq.trans (Eq.refl _) (Eq.refl _)
theorem bndQ_r {is : List Nat} {ds : List D} : bndQ is (.lst ds) ρ = bndS is ds ρ := Eq.trans (Eq.refl _) (Eq.refl _)
theorem bndS_nil : bndS [] [] ρ = .ok () ρ := Eq.trans (Eq.refl _) (Eq.refl _)
theorem bndS_cons {is : List Nat} {d : D} {ds : List D} : bndS (i :: is) (d :: ds) ρ = bndS is ds (ρ.set i (some (.val d))) := Eq.trans (Eq.refl _) (Eq.refl _)
def asgK (bnd : D → M Unit) (d : D) (ρ : Rho) : Rs Out := (bnd d ρ).bnd nxK
theorem asgK_r {bnd : D → M Unit} {d : D} : asgK bnd d ρ = (bnd d ρ).bnd nxK := Eq.trans (Eq.refl _) (Eq.refl _)
theorem asg_r {bnd : D → M Unit} : asgS bnd f ρ = (f ρ).bnd (asgK bnd) := by
  unfold asgS
  rw [bind_r]
  congr 1
def parR (i j : Nat) (ds : List D) (ρ : Rho) : Rs Out := match ds with
  | [d, e] => .ok .nx ((ρ.set i (some (.val d))).set j (some (.val e)))
  | _ => .no
theorem parR_2 {d e : D} : parR i j [d, e] ρ = .ok .nx ((ρ.set i (some (.val d))).set j (some (.val e))) := Eq.trans (Eq.refl _) (Eq.refl _)
theorem par_r : parS i j fs ρ = (fs ρ).bnd (parR i j) := by
  refine (bind_r (f := fs) (g := fun ds ρ => _)).trans ?_
  congr 1
def par3R (i j k : Nat) (ds : List D) (ρ : Rho) : Rs Out := match ds with
  | [d, e, z] => .ok .nx (((ρ.set i (some (.val d))).set j (some (.val e))).set k (some (.val z)))
  | _ => .no
theorem par3R_3 {k : Nat} {d e z : D} : par3R i j k [d, e, z] ρ = .ok .nx (((ρ.set i (some (.val d))).set j (some (.val e))).set k (some (.val z))) := Eq.trans (Eq.refl _) (Eq.refl _)
theorem par3_r {k : Nat} : par3S i j k fs ρ = (fs ρ).bnd (par3R i j k) := by
  refine (bind_r (f := fs) (g := fun ds ρ => _)).trans ?_
  congr 1
def parNB (i j : Nat) (o1 o2 : O) (ρ : Rho) : Rs Out := .ok .nx ((ρ.set i (some (.own o1))).set j (some (.own o2)))
def parNA (i j : Nat) (f2 : M O) (o1 : O) (ρ : Rho) : Rs Out := (f2 ρ).bnd (parNB i j o1)
theorem parNA_r {f2 : M O} {o1 : O} : parNA i j f2 o1 ρ = (f2 ρ).bnd (parNB i j o1) := Eq.trans (Eq.refl _) (Eq.refl _)
theorem parNK_r {o1 o2 : O} : parNB i j o1 o2 ρ = .ok .nx ((ρ.set i (some (.own o1))).set j (some (.own o2))) := Eq.trans (Eq.refl _) (Eq.refl _)
theorem parN_r {f1 f2 : M O} : parNS i j f1 f2 ρ = (f1 ρ).bnd (parNA i j f2) := by
  unfold parNS
  rw [bind_r]
  congr 1
/-! keywords' order -/
def kwA (p n : Nat) (perm : List Nat) (ks : M (List D)) (ds : List D) (ρ : Rho) : Rs (List D) := (ks ρ).bnd fun zs ρ => .ok (kwG p n perm ds zs) ρ
def kwB (p n : Nat) (perm : List Nat) (ds zs : List D) (ρ : Rho) : Rs (List D) := .ok (kwG p n perm ds zs) ρ
theorem kwA_r {p n : Nat} {perm : List Nat} {ks : M (List D)} {ds : List D} : kwA p n perm ks ds ρ = (ks ρ).bnd (kwB p n perm ds) := Eq.trans (Eq.refl _) (Eq.refl _)
theorem kwB_r {p n : Nat} {perm : List Nat} {ds zs : List D} : kwB p n perm ds zs ρ = .ok (kwG p n perm ds zs) ρ := Eq.trans (Eq.refl _) (Eq.refl _)
theorem kw_r {p n : Nat} {perm : List Nat} {as ks : M (List D)} : kwM p n perm as ks ρ = (as ρ).bnd (kwA p n perm ks) := by
  unfold kwM
  rw [bind_r]
  congr 1
theorem kwG_11 {d e : D} : kwG 1 1 [0] [d] [e] = [d, e] := Eq.trans (Eq.refl _) (Eq.refl _)
theorem kwG_01 {e : D} : kwG 0 1 [0] [] [e] = [e] := Eq.trans (Eq.refl _) (Eq.refl _)
/-! index -/
def chkK (o : Opd) (ρ : Rho) : Rs Unit := (optR (o.dat ρ) ρ).bnd (opK isLD)
theorem isLD_lst {ds : List D} : isLD (.lst ds) = some () := Eq.trans (Eq.refl _) (Eq.refl _)
def idxA (fb : M Opd) (o : Opd) (ρ : Rho) : Rs D := ((optR (o.dat ρ) ρ).bnd (opK isLD)).bnd fun _ ρ => (fb ρ).bnd (k2B idxD o)
def idxB (fb : M Opd) (o : Opd) (_ : Unit) (ρ : Rho) : Rs D := (fb ρ).bnd (k2B idxD o)
theorem idxA_r {o : Opd} : idxA fb o ρ = ((optR (o.dat ρ) ρ).bnd (opK isLD)).bnd (idxB fb o) := Eq.trans (Eq.refl _) (Eq.refl _)
theorem idxB_r {o : Opd} {u : Unit} : idxB fb o u ρ = (fb ρ).bnd (k2B idxD o) := Eq.trans (Eq.refl _) (Eq.refl _)
theorem idx_r : idxM fa fb ρ = (fa ρ).bnd (idxA fb) := by
  unfold idxM
  rw [bind_r]
  congr 1
  funext o ρ1
  rw [bind_r, getO_r]
  unfold idxA
  cases o.dat ρ1 with
  | none => rfl
  | some d =>
    show (M.opt (isLD d) >>= _) ρ1 = _
    rw [bind_r, opt_r]
    show (optR (isLD d) ρ1).bnd _ = (optR (isLD d) ρ1).bnd _
    congr 1
    funext _ ρ2
    rw [bind_r]
    congr 1
    funext u ρ3
    rw [bind_r, getO_r]
    unfold k2B
    congr 1
    funext d ρ4
    rw [bind_r, getO_r, op_f]
/-! calls -/
def endC (l : List (Option Slot)) : Rf → Rs D
  | .no => .no
  | .ok d g => .ok d ⟨l, g⟩
  | .new o g => .ok o.frozen ⟨l, g⟩
  | .ex e g => .ex e ⟨l, g⟩
def endN (l : List (Option Slot)) : Rf → Rs O
  | .no => .no
  | .ok d g => .no
  | .new o g => .ok o ⟨l, g⟩
  | .ex e g => .ex e ⟨l, g⟩
def callK (F : Fn) (ds : List D) (ρ : Rho) : Rs D := endC ρ.l (F ds ρ.g)
theorem callK_r {F : Fn} {ds : List D} {l : List (Option Slot)} {g : Cells} : callK F ds ⟨l, g⟩ = endC l (F ds g) := Eq.trans (Eq.refl _) (Eq.refl _)
theorem call_r {F : Fn} : callM F fs ρ = (fs ρ).bnd (callK F) := by
  refine (bind_r (f := fs) (g := fun ds ρ => _)).trans ?_
  congr 1
def callNK (F : Fn) (ds : List D) (ρ : Rho) : Rs O := endN ρ.l (F ds ρ.g)
theorem callNK_r {F : Fn} {ds : List D} {l : List (Option Slot)} {g : Cells} : callNK F ds ⟨l, g⟩ = endN l (F ds g) := Eq.trans (Eq.refl _) (Eq.refl _)
theorem callN_r {F : Fn} : callN F fs ρ = (fs ρ).bnd (callNK F) := by
  refine (bind_r (f := fs) (g := fun ds ρ => _)).trans ?_
  congr 1
theorem endC_ok {l : List (Option Slot)} {d : D} {g : Cells} : endC l (.ok d g) = .ok d ⟨l, g⟩ := Eq.trans (Eq.refl _) (Eq.refl _)
theorem endC_new {l : List (Option Slot)} {o : O} {g : Cells} : endC l (.new o g) = .ok o.frozen ⟨l, g⟩ := Eq.trans (Eq.refl _) (Eq.refl _)
theorem endN_new {l : List (Option Slot)} {o : O} {g : Cells} : endN l (.new o g) = .ok o ⟨l, g⟩ := Eq.trans (Eq.refl _) (Eq.refl _)
/-- a def's run -/
theorem run_rt {n k : Nat} {h : M Out} {ds : List D} {g g' : Cells} {l l' : List (Option Slot)} {d : D} (hl : ds.length = k) (hs : vals ds ++ List.replicate (n - ds.length) none = l) (e : h ⟨l, g⟩ = .ok (.rt d) ⟨l', g'⟩) : runB n k h ds g = .ok d g' := by
  unfold runB startR
  rw [if_pos hl, hs, e]
  rfl
theorem run_nx {n k : Nat} {h : M Out} {ds : List D} {g g' : Cells} {l l' : List (Option Slot)} (hl : ds.length = k) (hs : vals ds ++ List.replicate (n - ds.length) none = l) (e : h ⟨l, g⟩ = .ok .nx ⟨l', g'⟩) : runB n k h ds g = .ok .non g' := by
  unfold runB startR
  rw [if_pos hl, hs, e]
  rfl
theorem run_rn {n k i : Nat} {h : M Out} {ds : List D} {g g' : Cells} {l l' : List (Option Slot)} {o : O} (hl : ds.length = k) (hs : vals ds ++ List.replicate (n - ds.length) none = l) (e : h ⟨l, g⟩ = .ok (.rn i) ⟨l', g'⟩) (ho : l'[i]? = some (some (.own o))) : runB n k h ds g = .new o g' := by
  unfold runB startR
  rw [if_pos hl, hs, e]
  simp only [endB, Rho.get_mk, ho]
theorem star_r {n : Nat} {F : Fn} {ds : List D} {g : Cells} (h1 : n ≤ ds.length) (h2 : ds.length ≤ sizeLine) : starF n F ds g = F (ds.take n ++ [.tup (ds.drop n)]) g := if_pos ⟨h1, h2⟩
end
theorem lt_size {n : Nat} (h : n < 100000) : n < sizeLine := Nat.lt_of_lt_of_le h (by decide)
theorem le_size {n : Nat} (h : n < 100000) : n ≤ sizeLine := Nat.le_of_lt (lt_size h)
theorem sizedL_r {ds : List D} (h : ds.length < 100000) : sizedL ds = some (.lst ds) := if_pos (le_size h)
theorem sizedT_r {ds : List D} (h : ds.length < 100000) : sizedT ds = some (.tup ds) := if_pos (le_size h)
/-! ### comprehensions -/
section
variable {β : Type} {bnd : D → M Unit} {tt : M Bool} {el : M D} {vs : List Nat} {src : M (List D)} {ρ : Rho}
theorem wipe_r {l : List (Option Slot)} {g : Cells} : wipeR ⟨l, g⟩ vs = ⟨vs.foldr (fun v l => l.set v none) l, g⟩ := by
  induction vs with
  | nil => rfl
  | cons v vs ih =>
    unfold wipeR
    rw [ih]
    rfl
def inL : List Nat → Nat → Bool
  | [], _ => false
  | v :: vs, i => v == i || inL vs i
theorem inL_iff {i : Nat} : ∀ {vs : List Nat}, inL vs i = true ↔ i ∈ vs
  | [] => by simp [inL]
  | v :: vs => by
    simp only [inL, Bool.or_eq_true, beq_iff_eq, inL_iff (vs := vs), List.mem_cons]
    exact ⟨fun h => h.imp_left Eq.symm, fun h => h.imp_left Eq.symm⟩
/-- behind a block, slot by slot -/
def mixG (vs : List Nat) : Nat → List (Option Slot) → List (Option Slot) → List (Option Slot)
  | _, _, [] => []
  | i, [], s :: l' => (bif inL vs i then none else s) :: mixG vs (i + 1) [] l'
  | i, a :: l, s :: l' => (bif inL vs i then a else s) :: mixG vs (i + 1) l l'
theorem mixG_at {vs : List Nat} : ∀ (l' l : List (Option Slot)) (k : Nat), mixG vs k l l' = l'.mapIdx fun i s => if k + i ∈ vs then (l[i]?).getD none else s
  | [], l, k => by cases l <;> simp [mixG]
  | s :: l', l, k => by
    rw [List.mapIdx_cons]
    cases l with
    | nil =>
      simp only [mixG, mixG_at l' [] (k + 1)]
      congr 1
      · by_cases h : k ∈ vs
        · simp [h, inL_iff.mpr h]
        · have : inL vs k = false := by cases e : inL vs k with | false => rfl | true => exact absurd (inL_iff.mp e) h
          simp [h, this]
      · congr 1
        funext i s
        rw [show k + 1 + i = k + (i + 1) by omega]
        simp
    | cons a l =>
      simp only [mixG, mixG_at l' l (k + 1)]
      congr 1
      · by_cases h : k ∈ vs
        · simp [h, inL_iff.mpr h]
        · have : inL vs k = false := by cases e : inL vs k with | false => rfl | true => exact absurd (inL_iff.mp e) h
          simp [h, this]
      · congr 1
        funext i s
        rw [show k + 1 + i = k + (i + 1) by omega, List.getElem?_cons_succ]
theorem mix_r {l l' : List (Option Slot)} {g g' : Cells} : mixR ⟨l, g⟩ ⟨l', g'⟩ vs = ⟨mixG vs 0 l l', g'⟩ := by
  unfold mixR
  rw [mixG_at]
  simp only [Nat.zero_add]
  rfl
theorem mixG_nil {i : Nat} {l : List (Option Slot)} : mixG vs i l [] = [] := by cases l <;> rfl
theorem mixG_cons {i : Nat} {a s : Option Slot} {l l' : List (Option Slot)} : mixG vs i (a :: l) (s :: l') = (bif inL vs i then a else s) :: mixG vs (i + 1) l l' := Eq.trans (Eq.refl _) (Eq.refl _)
theorem inL_nil {i : Nat} : inL [] i = false := Eq.trans (Eq.refl _) (Eq.refl _)
theorem inL_cons {v i : Nat} : inL (v :: vs) i = (v == i || inL vs i) := Eq.trans (Eq.refl _) (Eq.refl _)
def endT {α : Type} (ρ : Rho) (vs : List Nat) : Rs α → Rs α
  | .ok r ρ' => .ok r (mixR ρ ρ' vs)
  | _ => .no
theorem endT_ok {α : Type} {a : α} {ρ' : Rho} : endT ρ vs (.ok a ρ') = .ok a (mixR ρ ρ' vs) := Eq.trans (Eq.refl _) (Eq.refl _)
def turnA (tt : M Bool) (el : M D) (_ : Unit) (ρ : Rho) : Rs (Option D) := (tt ρ).bnd fun b ρ => match b with
  | true => (el ρ).bnd fun z ρ => .ok (some z) ρ
  | false => .ok none ρ
def turnB (el : M D) (b : Bool) (ρ : Rho) : Rs (Option D) := match b with
  | true => (el ρ).bnd fun z ρ => .ok (some z) ρ
  | false => .ok none ρ
def someK (z : D) (ρ : Rho) : Rs (Option D) := .ok (some z) ρ
theorem turnA_r {u : Unit} : turnA tt el u ρ = (tt ρ).bnd (turnB el) := Eq.trans (Eq.refl _) (Eq.refl _)
theorem turnB_t : turnB el true ρ = (el ρ).bnd someK := Eq.trans (Eq.refl _) (Eq.refl _)
theorem turnB_f : turnB el false ρ = .ok none ρ := Eq.trans (Eq.refl _) (Eq.refl _)
theorem someK_r {z : D} : someK z ρ = .ok (some z) ρ := Eq.trans (Eq.refl _) (Eq.refl _)
theorem turn_r {d : D} : turnM bnd tt el vs d ρ = endT ρ vs ((bnd d (wipeR ρ vs)).bnd (turnA tt el)) := by
  have e : (bnd d >>= fun _ => tt >>= fun b => if b then el >>= fun z => M.ret (some z) else M.ret none) (wipeR ρ vs) = (bnd d (wipeR ρ vs)).bnd (turnA tt el) := by
    rw [bind_r]
    congr 1
    funext u ρ1
    rw [bind_r]
    unfold turnA
    congr 1
    funext b ρ2
    cases b with
    | false => rfl
    | true => exact bind_r
  unfold turnM
  rw [e]
  unfold endT
  generalize (bnd d (wipeR ρ vs)).bnd _ = r
  cases r <;> rfl
/-- the turns over known items -/
def lcL (bnd : D → M Unit) (tt : M Bool) (el : M D) (vs : List Nat) (ds : List D) (ρ : Rho) : Rs O := (lcLoop bnd tt el vs ds [] ρ).bnd fun out ρ2 => .ok (.lst out) ρ2
theorem lc_r : lcM src bnd tt el vs ρ = (src ρ).bnd (lcL bnd tt el vs) := by
  unfold lcM lcL
  rw [bind_r]
  congr 1
theorem lcLoop_map {f : β → D} (r : β → Option D) : ∀ (xs : List β) (acc : List D), (∀ x ∈ xs, turnM bnd tt el vs (f x) ρ = .ok (r x) ρ) → acc.length + xs.length < sizeLine → lcLoop bnd tt el vs (xs.map f) acc ρ = .ok (acc ++ xs.filterMap r) ρ
  | [], acc, _, _ => by simp [lcLoop, M.ret]
  | x :: xs, acc, hs, hz => by
    rw [List.length_cons] at hz
    rw [List.map_cons]
    simp only [lcLoop]
    rw [if_pos (by omega), bnd_ok (hs x List.mem_cons_self), lcLoop_map r xs _ (fun y hy => hs y (List.mem_cons_of_mem _ hy)) (by cases r x <;> simp [addO] <;> omega), List.filterMap_cons]
    cases r x with
    | none => rfl
    | some z => simp [addO]
theorem lcL_map {f : β → D} {xs : List β} {r : β → Option D} (hs : ∀ x ∈ xs, turnM bnd tt el vs (f x) ρ = .ok (r x) ρ) (hz : xs.length < 100000) : lcL bnd tt el vs (xs.map f) ρ = .ok (.lst (xs.filterMap r)) ρ := by
  unfold lcL
  rw [lcLoop_map r xs [] hs (by simpa using lt_size hz), Rs.bnd_ok]
  rfl
theorem lcL_mapS {f : β → D} {xs : List β} {r : β → D} (hs : ∀ x ∈ xs, turnM bnd tt el vs (f x) ρ = .ok (some (r x)) ρ) (hz : xs.length < 100000) : lcL bnd tt el vs (xs.map f) ρ = .ok (.lst (xs.map r)) ρ := by
  rw [lcL_map (r := fun x => some (r x)) hs hz, List.filterMap_eq_map']
theorem lcL_mapF {f : β → D} {xs : List β} {p : β → Bool} {r : β → D} (hs : ∀ x ∈ xs, turnM bnd tt el vs (f x) ρ = .ok (if p x = true then some (r x) else none) ρ) (hz : xs.length < 100000) : lcL bnd tt el vs (xs.map f) ρ = .ok (.lst ((xs.filter p).map r)) ρ := by
  rw [lcL_map (r := fun x => if p x then some (r x) else none) hs hz]
  congr 2
  clear hs hz
  induction xs with
  | nil => rfl
  | cons x xs ih =>
    rw [List.filterMap_cons, List.filter_cons, ih]
    cases p x <;> simp
/-- the turns change what may change -/
theorem lcLoop_st {f : β → D} (r : β → Rho → D) (nx : β → Rho → Rho) : ∀ (xs : List β) (acc : List D) (ρ : Rho) (_ : ∀ ys x zs, xs = ys ++ x :: zs → turnM bnd tt el vs (f x) (ys.foldl (fun ρ y => nx y ρ) ρ) = .ok (some (r x (ys.foldl (fun ρ y => nx y ρ) ρ))) (nx x (ys.foldl (fun ρ y => nx y ρ) ρ))) (_ : acc.length + xs.length < sizeLine), ∃ out, lcLoop bnd tt el vs (xs.map f) acc ρ = .ok (acc ++ out) (xs.foldl (fun ρ y => nx y ρ) ρ) ∧ out.length = xs.length
  | [], acc, ρ, _, _ => ⟨[], by simp [lcLoop, M.ret], rfl⟩
  | x :: xs, acc, ρ, hs, hz => by
    rw [List.length_cons] at hz
    obtain ⟨out, e, l⟩ := lcLoop_st r nx xs (acc ++ [r x ρ]) (nx x ρ) (fun ys y zs h => by
      have := hs (x :: ys) y zs (by rw [h]; rfl)
      simpa using this) (by rw [List.length_append, List.length_singleton]; omega)
    refine ⟨r x ρ :: out, ?_, by rw [List.length_cons, List.length_cons, l]⟩
    rw [List.map_cons]
    simp only [lcLoop]
    have h0 := hs [] x xs rfl
    simp only [List.foldl_nil] at h0
    rw [if_pos (by omega), bnd_ok h0]
    show lcLoop bnd tt el vs (xs.map f) (acc ++ [r x ρ]) (nx x ρ) = _
    rw [e, List.append_assoc]
    rfl
/-- turns by an invariant -/
theorem lcL_inv {ds : List D} (J : Nat → List D → Rho → Prop) (h0 : J 0 [] ρ) (hz : ds.length < 100000)
    (hs : ∀ i d acc ρ, ds[i]? = some d → J i acc ρ → ∃ r ρ', turnM bnd tt el vs d ρ = .ok r ρ' ∧ J (i + 1) (addO acc r) ρ') : ∃ out ρ', lcL bnd tt el vs ds ρ = .ok (.lst out) ρ' ∧ J ds.length out ρ' := by
  have key : ∀ (n i : Nat) (acc : List D) (ρ : Rho), n = ds.length - i → i ≤ ds.length → acc.length ≤ i → J i acc ρ → ∃ out ρ', lcLoop bnd tt el vs (ds.drop i) acc ρ = .ok out ρ' ∧ J ds.length out ρ' := by
    intro n
    induction n with
    | zero =>
      intro i acc ρ h1 h2 h3 h4
      have e : i = ds.length := by omega
      subst e
      rw [List.drop_length]
      exact ⟨acc, ρ, rfl, h4⟩
    | succ n ih =>
      intro i acc ρ h1 h2 h3 h4
      have hi : i < ds.length := by omega
      obtain ⟨r, ρ', e, h5⟩ := hs i _ acc ρ (List.getElem?_eq_getElem hi) h4
      rw [List.drop_eq_getElem_cons hi]
      simp only [lcLoop]
      have hl := lt_size hz
      rw [if_pos (by omega), bnd_ok e]
      exact ih (i + 1) (addO acc r) ρ' (by omega) (by omega) (by cases r <;> simp [addO] <;> omega) h5
  obtain ⟨out, ρ', e, h⟩ := key ds.length 0 [] ρ (by omega) (Nat.zero_le _) (Nat.le_refl _) h0
  refine ⟨out, ρ', ?_, h⟩
  unfold lcL
  rw [List.drop_zero] at e
  rw [e, Rs.bnd_ok]
end
/-! ### for -/
section
variable {β : Type} {bnd : D → M Unit} {body : M Out} {src : M (List D)} {ρ : Rho}
def loopF (bnd : D → M Unit) (body : M Out) (ds : List D) (ρ : Rho) : Rs Out := loopS bnd body ds ρ
theorem loopF_r {ds : List D} : loopF bnd body ds ρ = loopS bnd body ds ρ := Eq.trans (Eq.refl _) (Eq.refl _)
theorem for_r : forS src bnd body ρ = (src ρ).bnd (loopF bnd body) := by
  unfold forS
  rw [bind_r]
  rfl
theorem loop_nil : loopS bnd body [] ρ = .ok .nx ρ := Eq.trans (Eq.refl _) (Eq.refl _)
def nextL (rest : Rho → Rs Out) (o : Out) (ρ : Rho) : Rs Out := match o with
  | .nx => rest ρ
  | .ct => rest ρ
  | .bk => .ok .nx ρ
  | .rt d => .ok (.rt d) ρ
  | .rn i => .ok (.rn i) ρ
theorem nextL_nx {rest : Rho → Rs Out} : nextL rest .nx ρ = rest ρ := Eq.trans (Eq.refl _) (Eq.refl _)
theorem nextL_ct {rest : Rho → Rs Out} : nextL rest .ct ρ = rest ρ := Eq.trans (Eq.refl _) (Eq.refl _)
theorem nextL_bk {rest : Rho → Rs Out} : nextL rest .bk ρ = .ok .nx ρ := Eq.trans (Eq.refl _) (Eq.refl _)
theorem nextL_rt {rest : Rho → Rs Out} {d : D} : nextL rest (.rt d) ρ = .ok (.rt d) ρ := Eq.trans (Eq.refl _) (Eq.refl _)
def loopK (body : M Out) (rest : Rho → Rs Out) (_ : Unit) (ρ : Rho) : Rs Out := (body ρ).bnd (nextL rest)
theorem loop_cons {d : D} {ds : List D} : loopS bnd body (d :: ds) ρ = (bnd d ρ).bnd (loopK body (loopS bnd body ds)) := by
  show (bnd d >>= _) ρ = _
  rw [bind_r]
  congr 1
  funext _ ρ1
  unfold loopK
  rw [bind_r]
  congr 1
  funext o ρ2
  cases o <;> rfl
theorem loopK_r {rest : Rho → Rs Out} {u : Unit} : loopK body rest u ρ = (body ρ).bnd (nextL rest) := Eq.trans (Eq.refl _) (Eq.refl _)
def goOn (o : Out) (ρ : Rho) : Rs Out := match o with
  | .ct => .ok .nx ρ
  | o => .ok o ρ
theorem goOn_nx : goOn .nx ρ = .ok .nx ρ := Eq.trans (Eq.refl _) (Eq.refl _)
theorem goOn_ct : goOn .ct ρ = .ok .nx ρ := Eq.trans (Eq.refl _) (Eq.refl _)
theorem goOn_bk : goOn .bk ρ = .ok .bk ρ := Eq.trans (Eq.refl _) (Eq.refl _)
theorem goOn_rt {d : D} : goOn (.rt d) ρ = .ok (.rt d) ρ := Eq.trans (Eq.refl _) (Eq.refl _)
def bodyK (body : M Out) (_ : Unit) (ρ : Rho) : Rs Out := (body ρ).bnd goOn
theorem bodyK_r {u : Unit} : bodyK body u ρ = (body ρ).bnd goOn := Eq.trans (Eq.refl _) (Eq.refl _)
/-- one turn of a for -/
def turnF (bnd : D → M Unit) (body : M Out) (d : D) (ρ : Rho) : Rs Out := (bnd d ρ).bnd (bodyK body)
theorem turnF_r {d : D} : turnF bnd body d ρ = (bnd d ρ).bnd (bodyK body) := Eq.trans (Eq.refl _) (Eq.refl _)
theorem loop_turn {d : D} {ds : List D} {ρ1 : Rho} (h : turnF bnd body d ρ = .ok .nx ρ1) : loopS bnd body (d :: ds) ρ = loopS bnd body ds ρ1 := by
  rw [loop_cons]
  rw [turnF_r] at h
  cases e : bnd d ρ with
  | no => rw [e] at h; cases h
  | ex x ρ2 => rw [e] at h; cases h
  | ok u ρ2 =>
    rw [e, Rs.bnd_ok] at h
    rw [Rs.bnd_ok]
    unfold bodyK at h
    unfold loopK
    cases e2 : body ρ2 with
    | no => rw [e2] at h; cases h
    | ex x ρ3 => rw [e2] at h; cases h
    | ok o ρ3 =>
      rw [e2, Rs.bnd_ok] at h
      rw [Rs.bnd_ok]
      cases o <;> cases h <;> rfl
/-- a for whose state is a function of what went before -/
theorem loop_fold {σ : Type} {f : β → D} (mk : σ → Rho) (st : σ → β → σ) (I : σ → Prop) : ∀ (xs : List β) (s : σ), I s → (∀ s x, x ∈ xs → I s → turnF bnd body (f x) (mk s) = .ok .nx (mk (st s x)) ∧ I (st s x)) → loopS bnd body (xs.map f) (mk s) = .ok .nx (mk (xs.foldl st s)) ∧ I (xs.foldl st s)
  | [], s, h, _ => ⟨loop_nil, h⟩
  | x :: xs, s, h, hs => by
    obtain ⟨e, h2⟩ := hs s x List.mem_cons_self h
    rw [List.map_cons, loop_turn e]
    exact loop_fold mk st I xs (st s x) h2 fun s y hy => hs s y (List.mem_cons_of_mem _ hy)
/-- a for by an invariant -/
theorem loop_inv {ds : List D} (J : Nat → Rho → Prop) (h0 : J 0 ρ) (hs : ∀ i d ρ, ds[i]? = some d → J i ρ → ∃ ρ', turnF bnd body d ρ = .ok .nx ρ' ∧ J (i + 1) ρ') : ∃ ρ', loopS bnd body ds ρ = .ok .nx ρ' ∧ J ds.length ρ' := by
  have key : ∀ (n i : Nat) (ρ : Rho), n = ds.length - i → i ≤ ds.length → J i ρ → ∃ ρ', loopS bnd body (ds.drop i) ρ = .ok .nx ρ' ∧ J ds.length ρ' := by
    intro n
    induction n with
    | zero =>
      intro i ρ h1 h2 h3
      have e : i = ds.length := by omega
      subst e
      rw [List.drop_length]
      exact ⟨ρ, rfl, h3⟩
    | succ n ih =>
      intro i ρ h1 h2 h3
      have hi : i < ds.length := by omega
      obtain ⟨ρ', e, h5⟩ := hs i _ ρ (List.getElem?_eq_getElem hi) h3
      rw [List.drop_eq_getElem_cons hi, loop_turn e]
      exact ih (i + 1) ρ' (by omega) (by omega) h5
  have := key ds.length 0 ρ (by omega) (Nat.zero_le _) h0
  simpa using this
end
/-! ### two clauses -/
section
variable {β : Type} {bnd bnd1 : D → M Unit} {tt tt1 : M Bool} {el : M D} {vs vs1 : List Nat} {src src1 : M (List D)} {ρ : Rho}
def turn2A (tt : M Bool) (src1 : M (List D)) (bnd1 : D → M Unit) (tt1 : M Bool) (el : M D) (vs1 : List Nat) (acc : List D) (_ : Unit) (ρ : Rho) : Rs (List D) := (tt ρ).bnd fun b ρ => match b with
  | true => (src1 ρ).bnd fun ds1 ρ => lcLoop bnd1 tt1 el vs1 ds1 acc ρ
  | false => .ok acc ρ
def turn2B (src1 : M (List D)) (bnd1 : D → M Unit) (tt1 : M Bool) (el : M D) (vs1 : List Nat) (acc : List D) (b : Bool) (ρ : Rho) : Rs (List D) := match b with
  | true => (src1 ρ).bnd fun ds1 ρ => lcLoop bnd1 tt1 el vs1 ds1 acc ρ
  | false => .ok acc ρ
def lcC (bnd1 : D → M Unit) (tt1 : M Bool) (el : M D) (vs1 : List Nat) (acc ds : List D) (ρ : Rho) : Rs (List D) := lcLoop bnd1 tt1 el vs1 ds acc ρ
theorem turn2A_r {u : Unit} {acc : List D} : turn2A tt src1 bnd1 tt1 el vs1 acc u ρ = (tt ρ).bnd (turn2B src1 bnd1 tt1 el vs1 acc) := Eq.trans (Eq.refl _) (Eq.refl _)
theorem turn2B_t {acc : List D} : turn2B src1 bnd1 tt1 el vs1 acc true ρ = (src1 ρ).bnd (lcC bnd1 tt1 el vs1 acc) := Eq.trans (Eq.refl _) (Eq.refl _)
theorem turn2B_f {acc : List D} : turn2B src1 bnd1 tt1 el vs1 acc false ρ = .ok acc ρ := Eq.trans (Eq.refl _) (Eq.refl _)
theorem lcC_map {f : β → D} {r : β → Option D} {xs : List β} {acc : List D} (hs : ∀ x ∈ xs, turnM bnd1 tt1 el vs1 (f x) ρ = .ok (r x) ρ) (hz : acc.length + xs.length < 100000) : lcC bnd1 tt1 el vs1 acc (xs.map f) ρ = .ok (acc ++ xs.filterMap r) ρ := lcLoop_map r xs acc hs (lt_size hz)
theorem lcC_mapS {f : β → D} {r : β → D} {xs : List β} {acc : List D} (hs : ∀ x ∈ xs, turnM bnd1 tt1 el vs1 (f x) ρ = .ok (some (r x)) ρ) (hz : acc.length + xs.length < 100000) : lcC bnd1 tt1 el vs1 acc (xs.map f) ρ = .ok (acc ++ xs.map r) ρ := by
  rw [lcC_map (r := fun x => some (r x)) hs hz, List.filterMap_eq_map']
theorem lcC_mapF {f : β → D} {p : β → Bool} {r : β → D} {xs : List β} {acc : List D} (hs : ∀ x ∈ xs, turnM bnd1 tt1 el vs1 (f x) ρ = .ok (if p x = true then some (r x) else none) ρ) (hz : acc.length + xs.length < 100000) : lcC bnd1 tt1 el vs1 acc (xs.map f) ρ = .ok (acc ++ (xs.filter p).map r) ρ := by
  rw [lcC_map (r := fun x => if p x then some (r x) else none) hs hz]
  congr 2
  clear hs hz
  induction xs with
  | nil => rfl
  | cons x xs ih =>
    rw [List.filterMap_cons, List.filter_cons, ih]
    cases p x <;> simp
theorem turn2_r {d : D} {acc : List D} : turn2 bnd tt src1 bnd1 tt1 el vs vs1 d acc ρ = endT ρ vs ((bnd d (wipeR ρ vs)).bnd (turn2A tt src1 bnd1 tt1 el vs1 acc)) := by
  have e : (bnd d >>= fun _ => tt >>= fun b => if b then src1 >>= fun ds1 => lcLoop bnd1 tt1 el vs1 ds1 acc else M.ret acc) (wipeR ρ vs) = (bnd d (wipeR ρ vs)).bnd (turn2A tt src1 bnd1 tt1 el vs1 acc) := by
    rw [bind_r]
    congr 1
    funext u ρ1
    rw [bind_r]
    unfold turn2A
    congr 1
    funext b ρ2
    cases b with
    | false => rfl
    | true => exact bind_r
  unfold turn2
  rw [e]
  unfold endT
  generalize (bnd d (wipeR ρ vs)).bnd _ = r
  cases r <;> rfl
def lc2L (bnd : D → M Unit) (tt : M Bool) (src1 : M (List D)) (bnd1 : D → M Unit) (tt1 : M Bool) (el : M D) (vs vs1 : List Nat) (ds : List D) (ρ : Rho) : Rs O := (lc2Loop bnd tt src1 bnd1 tt1 el vs vs1 ds [] ρ).bnd fun out ρ2 => .ok (.lst out) ρ2
theorem lc2_r : lc2M src bnd tt src1 bnd1 tt1 el vs vs1 ρ = (src ρ).bnd (lc2L bnd tt src1 bnd1 tt1 el vs vs1) := by
  unfold lc2M lc2L
  rw [bind_r]
  congr 1
theorem lc2L_map {f : β → D} {xs : List β} {r : β → List D} (m : Nat) (hs : ∀ x ∈ xs, ∀ acc, acc.length + m < 100000 → turn2 bnd tt src1 bnd1 tt1 el vs vs1 (f x) acc ρ = .ok (acc ++ r x) ρ) (hz : (xs.flatMap r).length + m < 100000) : lc2L bnd tt src1 bnd1 tt1 el vs vs1 (xs.map f) ρ = .ok (.lst (xs.flatMap r)) ρ := by
  have key : ∀ (xs : List β), (∀ x ∈ xs, ∀ acc, acc.length + m < 100000 → turn2 bnd tt src1 bnd1 tt1 el vs vs1 (f x) acc ρ = .ok (acc ++ r x) ρ) → ∀ acc : List D, acc.length + (xs.flatMap r).length + m < 100000 → lc2Loop bnd tt src1 bnd1 tt1 el vs vs1 (xs.map f) acc ρ = .ok (acc ++ xs.flatMap r) ρ := by
    intro xs
    induction xs with
    | nil =>
      intro _ acc _
      simp [lc2Loop, M.ret]
    | cons d ds ih =>
      intro hs acc hz
      rw [List.flatMap_cons, List.length_append] at hz
      rw [List.map_cons]
      simp only [lc2Loop]
      rw [bnd_ok (hs d List.mem_cons_self acc (by omega)), ih (fun e he => hs e (List.mem_cons_of_mem _ he)) (acc ++ r d) (by rw [List.length_append]; omega), List.flatMap_cons, List.append_assoc]
  unfold lc2L
  rw [key xs hs [] (by simpa using hz), Rs.bnd_ok]
  rfl
end
/-! ### sorted sets of ints -/
section
variable {β : Type} {bnd : D → M Unit} {tt : M Bool} {el : M D} {vs : List Nat} {src : M (List D)} {ρ : Rho}
def ssL (bnd : D → M Unit) (tt : M Bool) (el : M D) (vs : List Nat) (ds : List D) (ρ : Rho) : Rs O := (lcLoop bnd tt el vs ds [] ρ).bnd fun out ρ2 => optR (fewI out) ρ2
theorem ss_r : ssM src bnd tt el vs ρ = (src ρ).bnd (ssL bnd tt el vs) := by
  unfold ssM ssL
  rw [bind_r]
  congr 1
  funext ds ρ1
  rw [bind_r]
  simp only [opt_f]
theorem ints_map' (ns : List Int) : D.ints (ns.map D.int) = some ns := ints_of_map ns
theorem ssL_map {f : β → D} {xs : List β} {p : β → Bool} {r : β → Int} (hs : ∀ x ∈ xs, turnM bnd tt el vs (f x) ρ = .ok (if p x = true then some (.int (r x)) else none) ρ) (hz : xs.length < 100000) (hf : ((xs.filter p).map r).length < 63) : ssL bnd tt el vs (xs.map f) ρ = .ok (.lst ((sortU ((xs.filter p).map r)).map D.int)) ρ := by
  have e2 : xs.filterMap (fun x => if p x then some (D.int (r x)) else none) = ((xs.filter p).map r).map D.int := by
    clear hs hz hf
    induction xs with
    | nil => rfl
    | cons x xs ih =>
      rw [List.filterMap_cons, List.filter_cons, ih]
      cases p x <;> simp
  unfold ssL
  rw [lcLoop_map (fun x => if p x then some (.int (r x)) else none) xs [] hs (by simpa using lt_size hz), Rs.bnd_ok, e2, List.nil_append]
  unfold fewI
  rw [ints_map']
  simp only [Option.bind_some, if_pos hf, optR_some]
end
/-! ### what a run leaves -/
def Sat {α : Type} (r : Rs α) (Q : α → Rho → Prop) : Prop := match r with
  | .ok a ρ => Q a ρ
  | _ => False
section
variable {α β : Type} {r : Rs α} {a : α} {ρ : Rho} {g : α → Rho → Rs β} {P : α → Rho → Prop} {Q : β → Rho → Prop}
theorem sat_ok : Sat (.ok a ρ) P = P a ρ := rfl
theorem Sat.step (h : r = .ok a ρ) (k : Sat (g a ρ) Q) : Sat (r.bnd g) Q := by rw [h]; exact k
theorem Sat.stepE {τ : Type} {m : τ → Rho} (h : ∃ j, r = .ok a (m j)) (k : ∀ j, Sat (g a (m j)) Q) : Sat (r.bnd g) Q := by
  obtain ⟨j, h⟩ := h
  rw [h]
  exact k j
theorem Sat.stepI (h : Sat r P) (k : ∀ a ρ, P a ρ → Sat (g a ρ) Q) : Sat (r.bnd g) Q := by
  cases r with
  | no => exact h.elim
  | ex e ρ => exact h.elim
  | ok a ρ => exact k a ρ h
theorem Sat.imp {P' : α → Rho → Prop} (h : Sat r P) (k : ∀ a ρ, P a ρ → P' a ρ) : Sat r P' := by
  cases r with
  | no => exact h.elim
  | ex e ρ => exact h.elim
  | ok a ρ => exact k a ρ h
theorem Sat.get (h : Sat r P) : ∃ a ρ, r = .ok a ρ ∧ P a ρ := by
  cases r with
  | no => exact h.elim
  | ex e ρ => exact h.elim
  | ok a ρ => exact ⟨a, ρ, rfl, h⟩
theorem Sat.of_eq (h : r = .ok a ρ) (k : P a ρ) : Sat r P := by rw [h]; exact k
end
theorem run_sat {n k : Nat} {h : M Out} {ds : List D} {g g' : Cells} {l : List (Option Slot)} {d : D} (hl : ds.length = k) (hs : vals ds ++ List.replicate (n - ds.length) none = l) (e : Sat (h ⟨l, g⟩) fun o ρ => o = .rt d ∧ ρ.g = g') : runB n k h ds g = .ok d g' := by
  obtain ⟨o, ρ, e2, rfl, rfl⟩ := e.get
  exact run_rt hl hs e2
theorem run_satX {ι : Type} {n k : Nat} {h : M Out} {ds : List D} {g : Cells} {l : List (Option Slot)} {P : ι → Prop} {f : ι → D} {G : ι → Cells} (hl : ds.length = k) (hs : vals ds ++ List.replicate (n - ds.length) none = l) (e : Sat (h ⟨l, g⟩) fun o ρ => ∃ x, P x ∧ o = .rt (f x) ∧ ρ.g = G x) : ∃ x, P x ∧ runB n k h ds g = .ok (f x) (G x) := by
  obtain ⟨o, ρ, e2, x, hp, rfl, hg⟩ := e.get
  exact ⟨x, hp, run_rt (l' := ρ.l) hl hs (by rw [← hg]; exact e2)⟩
theorem run_satN {n k : Nat} {h : M Out} {ds : List D} {g g' : Cells} {l : List (Option Slot)} {o : O} (hl : ds.length = k) (hs : vals ds ++ List.replicate (n - ds.length) none = l) (e : Sat (h ⟨l, g⟩) fun x ρ => ∃ i, x = .rn i ∧ ρ.l[i]? = some (some (.own o)) ∧ ρ.g = g') : runB n k h ds g = .new o g' := by
  obtain ⟨x, ρ, e2, i, rfl, ho, rfl⟩ := e.get
  exact run_rn hl hs e2 ho
section
variable {β σ τ : Type} {bnd : D → M Unit} {body : M Out}
/-- a for whose state is a function of what went before, besides slots of no account -/
theorem loop_sat {f : β → D} (mk : σ → τ → Rho) (st : σ → β → σ) (I : σ → Prop) : ∀ (xs : List β) (s : σ) (j : τ), I s → (∀ s j x, x ∈ xs → I s → Sat (turnF bnd body (f x) (mk s j)) (fun o ρ => o = .nx ∧ ∃ j', ρ = mk (st s x) j') ∧ I (st s x)) → ∃ j', loopS bnd body (xs.map f) (mk s j) = .ok .nx (mk (xs.foldl st s) j')
  | [], s, j, _, _ => ⟨j, loop_nil⟩
  | x :: xs, s, j, h, hs => by
    obtain ⟨e, h2⟩ := hs s j x List.mem_cons_self h
    obtain ⟨o, ρ, e, rfl, j', rfl⟩ := e.get
    rw [List.map_cons, loop_turn e]
    exact loop_sat mk st I xs (st s x) j' h2 fun s j y hy => hs s j y (List.mem_cons_of_mem _ hy)
/-- a for by an invariant -/
theorem loop_satJ {ds : List D} {ρ : Rho} (J : Nat → Rho → Prop) (h0 : J 0 ρ) (hs : ∀ i d ρ, ds[i]? = some d → J i ρ → Sat (turnF bnd body d ρ) fun o ρ' => o = .nx ∧ J (i + 1) ρ') : Sat (loopS bnd body ds ρ) fun o ρ' => o = .nx ∧ J ds.length ρ' := by
  obtain ⟨ρ', e, h⟩ := loop_inv J h0 fun i d ρ hd hJ => by
    obtain ⟨o, ρ', e, rfl, h⟩ := (hs i d ρ hd hJ).get
    exact ⟨ρ', e, h⟩
  exact Sat.of_eq e ⟨rfl, h⟩
end
theorem lcL_satJ {bnd : D → M Unit} {tt : M Bool} {el : M D} {vs : List Nat} {ρ : Rho} {ds : List D} (J : Nat → List D → Rho → Prop) (h0 : J 0 [] ρ) (hz : ds.length < 100000)
    (hs : ∀ i d acc ρ, ds[i]? = some d → J i acc ρ → Sat (turnM bnd tt el vs d ρ) fun r ρ' => J (i + 1) (addO acc r) ρ') : Sat (lcL bnd tt el vs ds ρ) fun o ρ' => ∃ out, o = .lst out ∧ J ds.length out ρ' := by
  obtain ⟨out, ρ', e, h⟩ := lcL_inv J h0 hz fun i d acc ρ hd hJ => by
    obtain ⟨r, ρ', e, h⟩ := (hs i d acc ρ hd hJ).get
    exact ⟨r, ρ', e, h⟩
  exact Sat.of_eq e ⟨out, rfl, h⟩
theorem range_get {n i : Nat} {d : D} {f : Nat → D} (h : ((List.range n).map f)[i]? = some d) : i < n ∧ d = f i := by
  rw [List.getElem?_map] at h
  obtain ⟨x, hx, e⟩ := Option.map_eq_some_iff.mp h
  have hin : i < n := by
    have := (List.getElem?_eq_some_iff.mp hx).1
    simpa using this
  rw [List.getElem?_range hin] at hx
  cases hx
  exact ⟨hin, e.symm⟩
/-! ### while -/
section
variable {t : M Bool} {b : M Out}
theorem wN_mono : ∀ {n m : Nat} {ρ : Rho}, n ≤ m → wN t b n ρ ≠ .no → wN t b m ρ = wN t b n ρ
  | 0, _, _, _, h => absurd rfl h
  | n + 1, 0, _, l, _ => by omega
  | n + 1, m + 1, ρ, l, h => by
    simp only [wN] at h ⊢
    cases e : t ρ with
    | no => rw [bnd_no e, bnd_no e]
    | ex x ρ1 => rw [bnd_ex e, bnd_ex e]
    | ok c ρ1 =>
      rw [bnd_ok e] at h
      rw [bnd_ok e, bnd_ok e]
      cases c with
      | false => rfl
      | true =>
        simp only [if_true] at h ⊢
        cases e2 : b ρ1 with
        | no => rw [bnd_no e2, bnd_no e2]
        | ex x ρ2 => rw [bnd_ex e2, bnd_ex e2]
        | ok o ρ2 =>
          rw [bnd_ok e2] at h
          rw [bnd_ok e2, bnd_ok e2]
          cases o with
          | nx => exact wN_mono (by omega) h
          | ct => exact wN_mono (by omega) h
          | bk => rfl
          | rt d => rfl
          | rn i => rfl
theorem while_wN {n : Nat} {ρ : Rho} (h : wN t b n ρ ≠ .no) : whileS t b ρ = wN t b n ρ := by
  have hx : ∃ n, wN t b n ρ ≠ .no := ⟨n, h⟩
  unfold whileS
  rw [dif_pos hx]
  have h2 := Classical.choose_spec hx
  rcases Nat.le_total n (Classical.choose hx) with l | l
  · exact wN_mono l h
  · exact (wN_mono l h2).symm
def whR (J : Nat → Rho → Prop) (Q : Out → Rho → Prop) (m : Nat) (o : Out) (ρ : Rho) : Prop := match o with
  | .nx => ∃ m', m' < m ∧ J m' ρ
  | .ct => ∃ m', m' < m ∧ J m' ρ
  | .bk => Q .nx ρ
  | .rt d => Q (.rt d) ρ
  | .rn i => Q (.rn i) ρ
def whQ (b : M Out) (J : Nat → Rho → Prop) (Q : Out → Rho → Prop) (m : Nat) (c : Bool) (ρ : Rho) : Prop := match c with
  | true => Sat (b ρ) (whR J Q m)
  | false => Q .nx ρ
section
variable {J : Nat → Rho → Prop} {Q : Out → Rho → Prop} {m : Nat} {ρ : Rho}
theorem whQ_t : Sat (.ok true ρ) (whQ b J Q m) = Sat (b ρ) (whR J Q m) := Eq.trans (Eq.refl _) (Eq.refl _)
theorem whQ_f : Sat (.ok false ρ) (whQ b J Q m) = Q .nx ρ := Eq.trans (Eq.refl _) (Eq.refl _)
theorem whR_nx : Sat (.ok .nx ρ) (whR J Q m) = ∃ m', m' < m ∧ J m' ρ := Eq.trans (Eq.refl _) (Eq.refl _)
end
/-- a while by an invariant with a measure; a turn may return -/
theorem while_sat {ρ : Rho} {Q : Out → Rho → Prop} (J : Nat → Rho → Prop) (m : Nat) (h0 : J m ρ)
    (hs' : ∀ m ρ, J m ρ → Sat (t ρ) (whQ b J Q m)) : Sat (whileS t b ρ) Q := by
  have hs : ∀ m ρ, J m ρ → Sat (t ρ) fun c ρ1 => if c = true then Sat (b ρ1) fun o ρ2 => match o with
      | .nx => ∃ m', m' < m ∧ J m' ρ2
      | .ct => ∃ m', m' < m ∧ J m' ρ2
      | .bk => Q .nx ρ2
      | .rt d => Q (.rt d) ρ2
      | .rn i => Q (.rn i) ρ2 else Q .nx ρ1 := fun m ρ hJ => (hs' m ρ hJ).imp fun c ρ1 h => by
    cases c with
    | false => exact h
    | true =>
      have h : Sat (b ρ1) (whR J Q m) := h
      exact h.imp fun o ρ2 h => by cases o <;> exact h
  have key : ∀ (k m : Nat) (ρ : Rho), m ≤ k → J m ρ → Sat (wN t b (k + 1) ρ) Q := by
    intro k
    induction k with
    | zero =>
      intro m ρ l hJ
      obtain ⟨c, ρ1, e, h⟩ := (hs m ρ hJ).get
      simp only [wN]
      rw [bnd_ok e]
      cases c with
      | false => exact h
      | true =>
        simp only [if_true] at h ⊢
        obtain ⟨o, ρ2, e2, h⟩ := h.get
        rw [bnd_ok e2]
        cases o with
        | nx => obtain ⟨m', l2, _⟩ := h; omega
        | ct => obtain ⟨m', l2, _⟩ := h; omega
        | bk => exact h
        | rt d => exact h
        | rn i => exact h
    | succ k ih =>
      intro m ρ l hJ
      obtain ⟨c, ρ1, e, h⟩ := (hs m ρ hJ).get
      rw [show wN t b (k + 1 + 1) = (t >>= fun c => if c then b >>= fun o => match o with
        | .nx => wN t b (k + 1)
        | .ct => wN t b (k + 1)
        | .bk => M.ret .nx
        | .rt d => M.ret (.rt d)
        | .rn i => M.ret (.rn i) else M.ret .nx) from rfl, bnd_ok e]
      cases c with
      | false => exact h
      | true =>
        simp only [if_true] at h ⊢
        obtain ⟨o, ρ2, e2, h⟩ := h.get
        rw [bnd_ok e2]
        cases o with
        | nx => obtain ⟨m', l2, h⟩ := h; exact ih m' ρ2 (by omega) h
        | ct => obtain ⟨m', l2, h⟩ := h; exact ih m' ρ2 (by omega) h
        | bk => exact h
        | rt d => exact h
        | rn i => exact h
  have h := key m m ρ (Nat.le_refl _) h0
  obtain ⟨o, ρ', e, h2⟩ := h.get
  have hn : wN t b (m + 1) ρ ≠ .no := by rw [e]; exact fun z => by cases z
  rw [while_wN hn, e]
  exact h2
end
end Nc

/-! Natural numbers as trees: what the operators give. -/
namespace Nc
open PySem PySem.Spec PyProof.Rows L2
abbrev dN (n : Nat) : D := .int n
abbrev vN (n : Nat) : Option Slot := some (.val (dN n))
abbrev vD (d : D) : Option Slot := some (.val d)
abbrev dB (b : Bool) : D := .bl b
abbrev dRel (rows : List Nat) : D := .tup (rows.map dN)
abbrev dPair (p : Nat × Nat) : D := .tup [dN p.1, dN p.2]
abbrev dPairs (ps : List (Nat × Nat)) : D := .lst (ps.map dPair)
section
variable {a b : Nat}
theorem add_nn : addD (dN a) (dN b) = some (dN (a + b)) := by
  simp only [addD, dN, Int.natCast_add]
theorem sub_nn (h : b ≤ a) : subD (dN a) (dN b) = some (dN (a - b)) := by
  simp only [subD, i2, if_true, dN, Int.ofNat_sub h]
theorem mul_nn (h : b < 10 ^ 18) : mulD (dN a) (dN b) = some (dN (a * b)) := by
  have : small64i (b : Int) = true := by
    unfold small64i
    rw [Bool.and_eq_true, decide_eq_true_eq, decide_eq_true_eq]
    omega
  simp only [mulD, this, Bool.or_true, if_true, dN, Int.natCast_mul]
theorem lt_nn : ltD (dN a) (dN b) = some (dB (decide (a < b))) := by
  simp only [ltD, cmpI, Int.ofNat_lt]
theorem le_nn : leD (dN a) (dN b) = some (dB (decide (a ≤ b))) := by
  simp only [leD, cmpI, Int.ofNat_le]
theorem gt_nn : gtD (dN a) (dN b) = some (dB (decide (b < a))) := by
  simp only [gtD, cmpI, Int.ofNat_lt]
theorem ge_nn : geD (dN a) (dN b) = some (dB (decide (b ≤ a))) := by
  simp only [geD, cmpI, Int.ofNat_le]
theorem eq_nn : eqD (dN a) (dN b) = some (dB (decide (a = b))) := by
  simp only [eqD, eqB, eqS, Option.map_some, Int.ofNat_inj]
theorem ne_nn : neD (dN a) (dN b) = some (dB (!decide (a = b))) := by
  simp only [neD, eqB, eqS, Option.map_some, Int.ofNat_inj]
theorem powC_nn (h : b < 1000000) (h2 : a < 10 ^ 18) : powC (a : Int) (b : Int) = true := by
  unfold powC
  simp only [Bool.and_eq_true, decide_eq_true_eq, Int.natAbs_natCast]
  omega
theorem shl_nn (h : b < 1000000) (h2 : a < 10 ^ 18) : shlD (dN a) (dN b) = some (dN (a * 2 ^ b)) := by
  simp only [shlD, i2, powC_nn h h2, if_true, Int.toNat_natCast, Int.natCast_mul, Int.natCast_pow]
  rfl
theorem pow_nn (h : b < 1000000) (h2 : a < 10 ^ 18) : powD (dN a) (dN b) = some (dN (a ^ b)) := by
  simp only [powD, i2, powC_nn h h2, if_true, dN, Int.toNat_natCast, Int.natCast_pow]
theorem shr_nn : shrD (dN a) (dN b) = some (dN (a >>> b)) := by
  have c : decide ((0 : Int) ≤ (b : Int)) = true := decide_eq_true (by omega)
  simp only [shrD, i2, c, if_true, Int.toNat_natCast, Nat.shiftRight_eq_div_pow, dN]
  rw [Int.natCast_ediv, Int.natCast_pow]
  rfl
theorem and_nn : andD (dN a) (dN b) = some (dN (a &&& b)) := by
  simp only [andD, i2, if_true]
  rw [bitAnd_pp (by omega) (by omega), Int.toNat_natCast, Int.toNat_natCast]
theorem or_nn : orD (dN a) (dN b) = some (dN (a ||| b)) := by
  simp only [orD, i2, if_true]
  rw [Bits.bitOr_pp (by omega) (by omega), Int.toNat_natCast, Int.toNat_natCast]
theorem mod_nn (h : 0 < b) : modD (dN a) (dN b) = some (dN (a % b)) := by
  have c : decide ((0 : Int) < (b : Int)) = true := decide_eq_true (by omega)
  simp only [modD, i2, c, if_true, dN, Int.natCast_emod]
theorem log2_small {m : Nat} (h : m < 10 ^ 40) : m.log2 < 9000 := by
  rcases Nat.eq_zero_or_pos m with e | e
  · subst e
    decide
  · rw [Nat.log2_lt (by omega)]
    exact Nat.lt_trans h (Nat.lt_of_lt_of_le (by decide : (10 : Nat) ^ 40 < 2 ^ 200) (Nat.pow_le_pow_right (by omega) (by omega)))
theorem fdiv_nn (h : 0 < b) (h2 : b < 10 ^ 40) : fdivD (dN a) (dN b) = some (dN (a / b)) := by
  have c : (decide ((0 : Int) < (b : Int)) && decide ((b : Int).natAbs.log2 < 9000)) = true := by
    rw [Int.natAbs_natCast, decide_eq_true (log2_small h2), Bool.and_true]
    exact decide_eq_true (by omega)
  simp only [fdivD, i2, c, if_true, dN, Int.natCast_ediv]
theorem int_int {i : Int} : intD (.int i) = some (.int i) := Eq.trans (Eq.refl _) (Eq.refl _)
theorem rng1_n {n : Nat} (h : n < 1000000) : rng1 (dN n) = some ((List.range n).map dN) := by
  have : inR (n : Int) = true := by
    unfold inR
    rw [Bool.and_eq_true, decide_eq_true_eq, decide_eq_true_eq]
    omega
  simp only [rng1, this, if_true, Int.toNat_natCast]
  unfold rangeL
  simp only [Int.zero_add]
theorem rngO_n {n : Nat} (h : n ≤ 1000000) : rngO (dN n) = some (.lst ((List.range n).map dN)) := by
  have h1 : (decide ((0 : Int) ≤ (n : Int)) && decide ((n : Int) ≤ 1000000)) = true := by
    rw [Bool.and_eq_true, decide_eq_true_eq, decide_eq_true_eq]
    omega
  simp only [rngO, h1, if_true, Int.toNat_natCast]
  unfold rangeL
  simp only [Int.zero_add]
theorem rng2_n {m n : Nat} (h : m < 1000000) (h2 : n < 1000000) : rng2 (dN m) (dN n) = some ((List.range (n - m)).map fun k => dN (m + k)) := by
  have a1 : inR (n : Int) = true := by
    unfold inR
    rw [Bool.and_eq_true, decide_eq_true_eq, decide_eq_true_eq]
    omega
  have a2 : inR (m : Int) = true := by
    unfold inR
    rw [Bool.and_eq_true, decide_eq_true_eq, decide_eq_true_eq]
    omega
  simp only [rng2, a1, a2, Bool.and_self, if_true]
  have e : ((n : Int) - (m : Int)).toNat = n - m := by omega
  rw [e]
  unfold rangeL
  simp only [dN, Int.natCast_add]
end
section
variable {ds : List D}
theorem len_tup : lenD (.tup ds) = some (dN ds.length) := Eq.trans (Eq.refl _) (Eq.refl _)
theorem len_lst : lenD (.lst ds) = some (dN ds.length) := Eq.trans (Eq.refl _) (Eq.refl _)
theorem tuple_lst : tupleD (.lst ds) = some (.tup ds) := Eq.trans (Eq.refl _) (Eq.refl _)
theorem list_lst : listO (.lst ds) = some (.lst ds) := Eq.trans (Eq.refl _) (Eq.refl _)
theorem list_tup : listO (.tup ds) = some (.lst ds) := Eq.trans (Eq.refl _) (Eq.refl _)
theorem app_r {d : D} (h : ds.length < 100000) : appOp ds d = some (.non, ds ++ [d]) := if_pos (lt_size h)
theorem atI_n {α : Type} {xs : List α} {k : Nat} : atI xs (k : Int) = xs[k]? := by
  unfold atI ixN
  by_cases h : k < xs.length
  · rw [if_pos (by omega), if_pos (by simpa using h)]
    simp
  · rw [if_pos (by omega), if_neg (by simpa using h), List.getElem?_eq_none (by omega)]
    rfl
theorem ixt_n {k : Nat} : ixD (.tup ds) (dN k) = ds[k]? := atI_n
theorem ixl_n {k : Nat} : ixD (.lst ds) (dN k) = ds[k]? := atI_n
theorem ixN_n {n k : Nat} (h : k < n) : ixN n (k : Int) = some k := by
  unfold ixN
  rw [if_pos (by omega), if_pos (by simpa using h), Int.toNat_natCast]
theorem setIx_n {k : Nat} {d : D} (h : k < ds.length) : setIx ds (dN k) d = some (ds.set k d) := by
  simp only [setIx, ixN_n h, Option.map_some]
end
theorem ints_nats (ns : List Nat) : D.ints (ns.map dN) = some (ns.map fun (n : Nat) => (n : Int)) := by
  have := ints_of_map (ns.map fun n : Nat => (n : Int))
  rw [List.map_map] at this
  exact this
theorem sum_nats (ns : List Nat) : sumD (.lst (ns.map dN)) = some (dN ns.sum) := by
  simp only [sumD, ints_nats, Option.map_some]
  congr 2
  induction ns with
  | nil => rfl
  | cons n ns ih =>
    rw [List.map_cons, List.sum_cons, List.sum_cons, Int.natCast_add, ih]
section
variable {α β : Type} {a b : α} {l l' : List α} {f : α → β} {n : Nat}
theorem zmap_cons : (a :: l).map f = f a :: l.map f := List.map_cons
theorem zmap_nil : ([] : List α).map f = [] := List.map_nil
theorem zlength_cons : (a :: l).length = l.length + 1 := List.length_cons
theorem zlength_nil : ([] : List α).length = 0 := List.length_nil
theorem zcons_append : (a :: l) ++ l' = a :: (l ++ l') := List.cons_append
theorem znil_append : [] ++ l = l := List.nil_append l
theorem zget_zero : (a :: l)[0]? = some a := List.getElem?_cons_zero
theorem zget_succ : (a :: l)[n + 1]? = l[n]? := List.getElem?_cons_succ
theorem zset_zero : (a :: l).set 0 b = b :: l := List.set_cons_zero
theorem zset_succ : (a :: l).set (n + 1) b = a :: l.set n b := List.set_cons_succ
theorem zfoldr_cons {k : α → β → β} {z : β} : (a :: l).foldr k z = k a (l.foldr k z) := List.foldr_cons
theorem zfoldr_nil {k : α → β → β} {z : β} : ([] : List α).foldr k z = z := List.foldr_nil
theorem zbind_some {k : α → Option β} : (some a).bind k = k a := Option.bind_some a k
theorem zmap_some : (some a).map f = some (f a) := Option.map_some _ _
theorem zcond_true : cond true a b = a := cond_true a b
theorem zcond_false : cond false a b = b := cond_false a b
end
/-! the rules in rows -/
def EV1 := And.intro @thenK_r (And.intro @Rs.bnd_ok (And.intro @Rs.bnd_ex (And.intro @Rs.bnd_assoc (And.intro @optR_some (And.intro @Rho.get_mk (And.intro @Rho.set_mk (And.intro @Rho.g_mk (And.intro @Rho.l_mk (And.intro @var_r (And.intro @slotR_val (And.intro @slotR_own (And.intro @varK_r @slotK_some))))))))))))
def EV2 := And.intro @dat_s (And.intro @dat_d (And.intro @datR_val (And.intro @datR_own (And.intro @lookG_non (And.intro @lookG_bl (And.intro @lookG_int (And.intro @lookG_str (And.intro @lookG_tup (And.intro @lookG_lst (And.intro @lookG_dk (And.intro @lookG_dt (And.intro @lookG_ob @lookG_ptr))))))))))))
def EV3 := And.intro @frozen_lst (And.intro @frozen_dk (And.intro @frozen_dt (And.intro @frozen_ob (And.intro @ret_r (And.intro @nextS_nx (And.intro @nextS_rt (And.intro @nextS_rn (And.intro @nextS_bk (And.intro @nextS_ct (And.intro @then_r (And.intro @ifK_t (And.intro @ifK_f @if_r))))))))))))
def EV4 := And.intro @setK_r (And.intro @set_r (And.intro @setNK_r (And.intro @setN_r (And.intro @retK_r (And.intro @retS_r (And.intro @nxK_r (And.intro @drop_r (And.intro @opdK_r (And.intro @opd_r (And.intro @frzK_r (And.intro @frz_r (And.intro @cellK_r @cell_r))))))))))))
def EV5 := And.intro @opK_r (And.intro @b2A_r (And.intro @b2_r (And.intro @b2N_r (And.intro @neg_r (And.intro @k1A_r (And.intro @k1_r (And.intro @k2A_r (And.intro @k2B_r (And.intro @k2C_r (And.intro @k2_r (And.intro @slA_r (And.intro @slB_r @slC_r))))))))))))
def EV6 := And.intro @sl_r (And.intro @asSome_int (And.intro @part_r (And.intro @tst_r (And.intro @andK_t (And.intro @andK_f (And.intro @and_r (And.intro @orK_t (And.intro @orK_f (And.intro @or_r (And.intro @notK_r (And.intro @not_r (And.intro @andVK_t @andVK_f))))))))))))
def EV7 := And.intro @andV_r (And.intro @orVK_t (And.intro @orVK_f (And.intro @orV_r (And.intro @asNB_bl (And.intro @notV_r (And.intro @asB_bl (And.intro @consK_r (And.intro @consL_r (And.intro @cons_r (And.intro @lst_r (And.intro @tup_r (And.intro @refS_r @slotF_own))))))))))))
def EV8 := And.intro @slotF_ptr (And.intro @refD_r (And.intro @asRef_ptr (And.intro @getR_sm (And.intro @ownR_own (And.intro @getR_cm (And.intro @setR_s (And.intro @setR_c (And.intro @chkO_r (And.intro @updK_r (And.intro @updO_r (And.intro @isL_lst (And.intro @opL_lst @lm1A_r))))))))))))
def EV9 := And.intro @lm1B_r (And.intro @lm1C_r (And.intro @lm1_r (And.intro @lm0A_r (And.intro @lm0_r (And.intro @itA_r (And.intro @itB_r (And.intro @itC_r (And.intro @itD_r (And.intro @item_r (And.intro @seqI_r (And.intro @items_lst (And.intro @items_tup @items_str))))))))))))
def EV10 := And.intro @rngI_r (And.intro @rngI2_r (And.intro @zipI_r (And.intro @bndN_r (And.intro @bndT_r (And.intro @bndQ_r (And.intro @bndS_nil (And.intro @bndS_cons (And.intro @asgK_r (And.intro @asg_r (And.intro @parR_2 (And.intro @par_r (And.intro @callK_r @call_r))))))))))))
def EV11 := And.intro @callNK_r (And.intro @callN_r (And.intro @endC_ok (And.intro @endC_new (And.intro @endN_new (And.intro @wipe_r (And.intro @endT_ok (And.intro @mix_r (And.intro @mixG_nil (And.intro @mixG_cons (And.intro @inL_nil (And.intro @inL_cons (And.intro @zcond_true @zcond_false))))))))))))
def EV12 := And.intro @Bool.or_false (And.intro @Bool.or_true (And.intro @Bool.true_or (And.intro @Bool.false_or (And.intro @turnA_r (And.intro @turnB_t (And.intro @turnB_f (And.intro @someK_r (And.intro @turn_r (And.intro @lc_r (And.intro @for_r (And.intro @nextL_nx (And.intro @nextL_ct @nextL_bk))))))))))))
def EV13 := And.intro @nextL_rt (And.intro @loopK_r (And.intro @goOn_nx (And.intro @goOn_ct (And.intro @goOn_bk (And.intro @goOn_rt (And.intro @bodyK_r (And.intro @turnF_r (And.intro @turn2A_r (And.intro @turn2B_t (And.intro @turn2B_f (And.intro @turn2_r (And.intro @lc2_r @ss_r))))))))))))
def EV14 := And.intro @zmap_cons (And.intro @zmap_nil (And.intro @zlength_cons (And.intro @zlength_nil (And.intro @zcons_append (And.intro @znil_append (And.intro @zget_zero (And.intro @zget_succ (And.intro @zset_zero (And.intro @zset_succ (And.intro @zfoldr_cons @zfoldr_nil))))))))))
def EV15 := And.intro @zbind_some (And.intro @zmap_some (And.intro @decide_true (And.intro @decide_false (And.intro @Bool.not_true @Bool.not_false))))
def EV16 := And.intro @listRng_r (And.intro @par3R_3 (And.intro @par3_r (And.intro @parNA_r (And.intro @parNK_r (And.intro @parN_r (And.intro @kwA_r (And.intro @kwB_r (And.intro @kw_r (And.intro @kwG_11 (And.intro @kwG_01 (And.intro @isLD_lst (And.intro @idxA_r (And.intro @idxB_r (And.intro @idx_r (And.intro @whQ_t (And.intro @whQ_f @whR_nx))))))))))))))))
theorem asI_n {k : Nat} : asI (dN k) = some (k : Int) := Eq.trans (Eq.refl _) (Eq.refl _)
theorem cut_take {α : Type} {xs : List α} {k : Nat} (h : k ≤ xs.length) : cutL xs none (some (k : Int)) = xs.take k := by
  have e : HT.sIx xs.length xs.length (some (k : Int)) = k := by
    rw [HT.sIx_nat]
    omega
  have e0 : HT.sIx xs.length 0 none = 0 := rfl
  unfold cutL
  rw [e, e0]
  try exact rfl
theorem slL_to {k : Nat} (h : k ≤ ds.length) : slD none (some (k : Int)) (.lst ds) = some (.lst (ds.take k)) := by
  show some (D.lst _) = _
  rw [cut_take h]
def EV17 := And.intro @asI_n @loopF_r
def OP1 := And.intro @add_nn (And.intro @sub_nn (And.intro @mul_nn (And.intro @lt_nn (And.intro @le_nn (And.intro @gt_nn (And.intro @ge_nn (And.intro @eq_nn (And.intro @ne_nn (And.intro @shl_nn (And.intro @shr_nn (And.intro @and_nn (And.intro @or_nn @mod_nn))))))))))))
def OP2 := And.intro @fdiv_nn (And.intro @rng1_n (And.intro @rng2_n (And.intro @len_tup (And.intro @len_lst (And.intro @tuple_lst (And.intro @list_lst (And.intro @list_tup (And.intro @sizedL_r (And.intro @sizedT_r (And.intro @int_int (And.intro @app_r (And.intro @ixt_n @ixl_n))))))))))))
end Nc

/-! What the defs compute: terms. -/
namespace Nc
open PySem PySem.Spec PyProof.Rows L2
/-! identity -/
def h_identity : M Out := (retS (k1 tupleD (opdM (frzM (lcM (rngI (var 0)) (bndN 1) (M.ret true) (b2 shlD (M.ret (dN 1)) (var 1)) [1])))))
def F_identity : Fn := runB 2 1 h_identity
/-! relation_of -/
def h_relation_of : M Out := (thenS
  (setN 2 (lstM (M.ret [])))
  (thenS
  (forS (rngI (var 0)) (bndN 3) (thenS
  (setS 4 (frzM (ssM (seqI (var 1)) (bndT [5, 6]) (tst (k2 eqD (varK 5) (varK 3))) (var 6) [5, 6])))
  (dropS (lm1 appOp (refS 2) (k1 sumD (opdM (frzM (lcM (seqI (var 4)) (bndN 6) (M.ret true) (b2 shlD (M.ret (dN 1)) (var 6)) [6]))))))))
  (retS (k1 tupleD (varK 2)))))
def F_relation_of : Fn := runB 7 2 h_relation_of
/-! bits_of -/
def h_bits_of : M Out := (retS (frzM (lcM (rngI (var 1)) (bndN 2) (tst (k2 eqD (opdM (b2 andD (b2 shrD (var 0) (var 2)) (M.ret (dN 1)))) (opdM (M.ret (dN 1))))) (var 2) [2])))
def F_bits_of : Fn := runB 3 2 h_bits_of
/-! pairs_of -/
def h_pairs_of : M Out := (thenS
  (setS 1 (k1 lenD (varK 0)))
  (retS (frzM (lc2M (rngI (var 1)) (bndN 2) (M.ret true) (seqI (callM F_bits_of (consM (k2 ixD (varK 0) (varK 2)) (consM (var 1) (M.ret []))))) (bndN 3) (M.ret true) (tupM (consM (var 2) (consM (var 3) (M.ret [])))) [2, 3] [3]))))
def F_pairs_of : Fn := runB 4 1 h_pairs_of
/-! image -/
def h_image : M Out := (thenS
  (setS 2 (M.ret (dN 0)))
  (thenS
  (forS (seqI (callM F_bits_of (consM (var 0) (consM (k1 lenD (varK 1)) (M.ret []))))) (bndN 3) (setS 2 (b2 orD (var 2) (k2 ixD (varK 1) (varK 3)))))
  (retS (var 2))))
def F_image : Fn := runB 4 2 h_image
/-! joined -/
def h_joined : M Out := (retS (k1 tupleD (opdM (frzM (lcM (seqI (var 0)) (bndN 2) (M.ret true) (callM F_image (consM (var 2) (consM (var 1) (M.ret [])))) [2])))))
def F_joined : Fn := runB 3 2 h_joined
/-! composed -/
def h_composed : M Out := (thenS
  (setS 2 (var 0))
  (thenS
  (forS (seqI (var 1)) (bndN 3) (setS 2 (callM F_joined (consM (var 2) (consM (var 3) (M.ret []))))))
  (retS (var 2))))
def F_composed : Fn := starF 1 (runB 4 2 h_composed)
/-! common -/
def h_common : M Out := (thenS
  (setS 2 (var 0))
  (thenS
  (forS (seqI (var 1)) (bndN 3) (setS 2 (k1 tupleD (opdM (frzM (lcM (zipI (var 2) (var 3)) (bndT [4, 5]) (M.ret true) (b2 andD (var 4) (var 5)) [4, 5]))))))
  (retS (var 2))))
def F_common : Fn := starF 1 (runB 6 2 h_common)
/-! turned -/
def h_turned : M Out := (retS (callM F_relation_of (consM (k1 lenD (varK 0)) (consM (frzM (lcM (seqI (callM F_pairs_of (consM (var 0) (M.ret [])))) (bndT [1, 2]) (M.ret true) (tupM (consM (var 2) (consM (var 1) (M.ret [])))) [1, 2])) (M.ret [])))))
def F_turned : Fn := runB 3 1 h_turned
/-! law_open -/
def h_law_open : M Out := (thenS
  (setS 2 (b2 addD (M.ret (dN 5644)) (b2 mulD (M.ret (dN 89)) (k1 lenD (varK 1)))))
  (thenS
  (forS (seqI (var 1)) (bndN 3) (setS 2 (b2 modD (k1 intD (opdM (b2 addD (b2 mulD (var 2) (M.ret (dN 7919))) (var 3)))) (M.ret (dN 2147483587)))))
  (retS (frzM (lstM (consM (var 1) (consM (M.ret (dN 0)) (consM (M.ret (dN 0)) (consM (var 2) (M.ret []))))))))))
/-! law_pull -/
def h_law_pull : M Out := (thenS
  (ifM (tst (b2 ltD (k2 ixD (varK 0) (opdM (M.ret (dN 2)))) (M.ret (dN 2)))) (thenS
  (itemS (refS 0) (b2 addD (k2 ixD (varK 0) (opdM (M.ret (dN 1)))) (M.ret (dN 1))) (M.ret (dN 1)))
  (thenS
  (setS 2 (b2 addD (k2 ixD (varK 0) (opdM (M.ret (dN 3)))) (b2 mulD (k2 ixD (varK 0) (opdM (M.ret (dN 1)))) (M.ret (dN 7001)))))
  (thenS
  (ifM (tst (b2 leD (k2 ixD (varK 0) (opdM (M.ret (dN 1)))) (k1 lenD (opdM (k2 ixD (varK 0) (opdM (M.ret (dN 0)))))))) (setS 2 (k2 ixD (opdM (k2 ixD (varK 0) (opdM (M.ret (dN 0))))) (opdM (b2 subD (k2 ixD (varK 0) (opdM (M.ret (dN 1)))) (M.ret (dN 1)))))) (M.ret .nx))
  (thenS
  (ifM (orM (tst (b2 gtD (k2 ixD (varK 0) (opdM (M.ret (dN 1)))) (k1 lenD (opdM (k2 ixD (varK 0) (opdM (M.ret (dN 0)))))))) (tst (b2 ltD (var 2) (b2 powD (M.ret (dN 10)) (M.ret (dN 18)))))) (thenS
  (setS 3 (b2 modD (k1 intD (opdM (b2 addD (b2 addD (b2 mulD (var 2) (M.ret (dN 39373))) (b2 mulD (k2 ixD (varK 0) (opdM (M.ret (dN 1)))) (M.ret (dN 52774)))) (k2 ixD (varK 0) (opdM (M.ret (dN 3))))))) (M.ret (dN 2147483563))))
  (thenS
  (setS 4 (b2 modD (k1 intD (opdM (b2 addD (b2 mulD (var 3) (var 3)) (b2 mulD (k2 ixD (varK 0) (opdM (M.ret (dN 1)))) (M.ret (dN 15331)))))) (M.ret (dN 1000000007))))
  (retS (b2 modD (b2 fdivD (b2 modD (k1 intD (opdM (b2 addD (b2 mulD (var 4) (M.ret (dN 40014))) (var 3)))) (M.ret (dN 2147483399))) (M.ret (dN 17))) (var 1))))) (M.ret .nx))
  (itemS (refS 0) (var 2) (M.ret (dN 2))))))) (M.ret .nx))
  (thenS
  (setS 5 (b2 modD (k1 intD (opdM (k2 ixD (varK 0) (opdM (M.ret (dN 2)))))) (var 1)))
  (thenS
  (itemS (refS 0) (b2 fdivD (k1 intD (opdM (k2 ixD (varK 0) (opdM (M.ret (dN 2)))))) (var 1)) (M.ret (dN 2)))
  (retS (var 5)))))
def F_law_pull : Fn := runB 6 2 h_law_pull
/-! law_pick -/
def h_law_pick : M Out := (retS (k2 ixD (varK 1) (opdM (callM F_law_pull (consM (var 0) (consM (k1 lenD (varK 1)) (M.ret [])))))))
def F_law_pick : Fn := runB 2 2 h_law_pick
/-! law_like -/
def h_law_like (F_self : Fn) : M Out := (thenS
  (ifM (tst (k1 (isiD2 "list" "tuple") (varK 1))) (thenS
  (ifM (orM (tst (k2 neD (opdM (k1 (isiD "list") (varK 0))) (opdM (k1 (isiD "list") (varK 1))))) (tst (k2 neD (opdM (k1 (isiD "tuple") (varK 0))) (opdM (k1 (isiD "tuple") (varK 1)))))) (retS (M.ret (.bl false))) (M.ret .nx))
  (retS (andV (k2 eqD (opdM (k1 lenD (varK 0))) (opdM (k1 lenD (varK 1)))) (k1 allD (opdM (frzM (lcM (rngI (k1 lenD (varK 1))) (bndN 2) (M.ret true) (callM F_self (consM (k2 ixD (varK 0) (varK 2)) (consM (k2 ixD (varK 1) (varK 2)) (M.ret [])))) [2]))))))) (M.ret .nx))
  (thenS
  (ifM (orM (tst (k1 (isiD2 "list" "tuple") (varK 0))) (tst (k2 neD (opdM (k1 (isiD "bool") (varK 0))) (opdM (k1 (isiD "bool") (varK 1)))))) (retS (M.ret (.bl false))) (M.ret .nx))
  (retS (k2 eqD (varK 0) (varK 1)))))
def Fn_law_like : Nat → Fn
  | 0 => fun _ _ => .no
  | n + 1 => runB 3 2 (h_law_like (Fn_law_like n))
abbrev F_law_like : Fn := Fn_law_like 6
/-! law_image -/
def h_law_image : M Out := (thenS
  (setS 2 (M.ret (dN 0)))
  (thenS
  (forS (rngI (k1 lenD (varK 1))) (bndN 3) (ifM (tst (k2 eqD (opdM (b2 andD (b2 shrD (var 0) (var 3)) (M.ret (dN 1)))) (opdM (M.ret (dN 1))))) (setS 2 (b2 orD (var 2) (k2 ixD (varK 1) (varK 3)))) (M.ret .nx)))
  (retS (var 2))))
def F_law_image : Fn := runB 4 2 h_law_image
/-! law_chain -/
def h_law_chain : M Out := (retS (k1 tupleD (opdM (frzM (lcM (seqI (var 0)) (bndN 2) (M.ret true) (callM F_law_image (consM (var 2) (consM (var 1) (M.ret [])))) [2])))))
def F_law_chain : Fn := runB 3 2 h_law_chain
/-! law_pairs -/
def h_law_pairs : M Out := (retS (frzM (lcM (rngI (callM F_law_pull (consM (var 0) (consM (b2 addD (var 2) (M.ret (dN 1))) (M.ret []))))) (bndN 3) (M.ret true) (tupM (consM (callM F_law_pull (consM (var 0) (consM (var 1) (M.ret [])))) (consM (callM F_law_pull (consM (var 0) (consM (var 1) (M.ret [])))) (M.ret [])))) [3])))
def F_law_pairs : Fn := runB 4 3 h_law_pairs
/-! law_rel_of -/
def h_law_rel_of : M Out := (thenS
  (setN 2 (b2N repO (frzM (lstM (consM (M.ret (dN 0)) (M.ret [])))) (var 0)))
  (thenS
  (forS (seqI (var 1)) (bndT [3, 4]) (itemS (refS 2) (b2 orD (k2 ixD (varK 2) (varK 3)) (b2 shlD (M.ret (dN 1)) (var 4))) (var 3)))
  (retS (k1 tupleD (varK 2)))))
def F_law_rel_of : Fn := runB 5 2 h_law_rel_of
/-! law_k02 -/
def h_law_k02 : M Out := (thenS
  (forS (rngI (M.ret (dN 5))) (bndN 2) (thenS
  (setS 3 (b2 addD (M.ret (dN 1)) (callM F_law_pull (consM (var 1) (consM (callM F_law_pick (consM (var 1) (consM (frzM (lstM (consM (M.ret (dN 6)) (consM (M.ret (dN 6)) (consM (M.ret (dN 12)) (M.ret [])))))) (M.ret [])))) (M.ret []))))))
  (thenS
  (setS 4 (frzM (lcM (rngI (M.ret (dN 3))) (bndN 16) (M.ret true) (callM F_law_rel_of (consM (var 3) (consM (callM F_law_pairs (consM (var 1) (consM (var 3) (consM (M.ret (dN 12)) (M.ret []))))) (M.ret [])))) [16])))
  (thenS
  (asgS (bndQ [5, 6, 7]) (var 4))
  (thenS
  (setS 8 (callM F_law_chain (consM (var 5) (consM (var 6) (M.ret [])))))
  (thenS
  (forS (rngI (var 3)) (bndN 9) (forS (rngI (var 3)) (bndN 10) (thenS
  (setS 11 (frzM (lcM (rngI (var 3)) (bndN 17) (andM (tst (k2 eqD (opdM (b2 andD (b2 shrD (k2 ixD (varK 5) (varK 9)) (var 17)) (M.ret (dN 1)))) (opdM (M.ret (dN 1))))) (tst (k2 eqD (opdM (b2 andD (b2 shrD (k2 ixD (varK 6) (varK 17)) (var 10)) (M.ret (dN 1)))) (opdM (M.ret (dN 1)))))) (var 17) [17])))
  (ifM (tst (k2 neD (opdM (k2 eqD (opdM (b2 andD (b2 shrD (k2 ixD (varK 8) (varK 9)) (var 10)) (M.ret (dN 1)))) (opdM (M.ret (dN 1))))) (opdM (k2 neD (varK 11) (opdM (frzM (lstM (M.ret [])))))))) (retS (M.ret (.bl false))) (M.ret .nx)))))
  (thenS
  (setS 12 (frzM (lstM (consM (callM F_composed (consM (var 5) (M.ret []))) (consM (callM F_composed (consM (var 5) (consM (var 6) (M.ret [])))) (consM (callM F_composed (consM (var 5) (consM (var 6) (consM (var 7) (M.ret []))))) (consM (callM F_composed (consM (var 5) (consM (var 6) (consM (var 7) (consM (var 5) (consM (var 6) (M.ret []))))))) (M.ret []))))))))
  (thenS
  (setS 13 (callM F_law_chain (consM (var 8) (consM (var 7) (M.ret [])))))
  (thenS
  (ifM (notM (tst (callM F_law_like (consM (var 12) (consM (frzM (lstM (consM (var 5) (consM (var 8) (consM (var 13) (consM (callM F_law_chain (consM (var 13) (consM (var 8) (M.ret [])))) (M.ret []))))))) (M.ret [])))))) (retS (M.ret (.bl false))) (M.ret .nx))
  (thenS
  (ifM (orM (tst (k2 neD (opdM (callM F_composed (consM (var 5) (consM (callM F_composed (consM (var 6) (consM (var 7) (M.ret [])))) (M.ret []))))) (varK 13))) (tst (k2 neD (opdM (callM F_composed (consM (callM F_identity (consM (var 3) (M.ret []))) (consM (var 5) (consM (callM F_identity (consM (var 3) (M.ret []))) (M.ret [])))))) (varK 5)))) (retS (M.ret (.bl false))) (M.ret .nx))
  (thenS
  (setS 14 (k1 tupleD (opdM (frzM (lcM (rngI (var 3)) (bndN 16) (M.ret true) (b2 andD (k2 ixD (varK 5) (varK 16)) (k2 ixD (varK 6) (varK 16))) [16])))))
  (thenS
  (setS 15 (k1 tupleD (opdM (frzM (lcM (rngI (var 3)) (bndN 16) (M.ret true) (b2 andD (k2 ixD (varK 14) (varK 16)) (k2 ixD (varK 7) (varK 16))) [16])))))
  (thenS
  (ifM (notM (tst (callM F_law_like (consM (frzM (lstM (consM (callM F_common (consM (var 5) (M.ret []))) (consM (callM F_common (consM (var 5) (consM (var 6) (M.ret [])))) (consM (callM F_common (consM (var 7) (consM (var 6) (consM (var 5) (M.ret []))))) (M.ret [])))))) (consM (frzM (lstM (consM (var 5) (consM (var 14) (consM (var 15) (M.ret [])))))) (M.ret [])))))) (retS (M.ret (.bl false))) (M.ret .nx))
  (ifM (tst (k2 neD (opdM (callM F_turned (consM (callM F_composed (consM (var 5) (consM (var 6) (M.ret [])))) (M.ret [])))) (opdM (callM F_composed (consM (callM F_turned (consM (var 6) (M.ret []))) (consM (callM F_turned (consM (var 5) (M.ret []))) (M.ret []))))))) (retS (M.ret (.bl false))) (M.ret .nx)))))))))))))))
  (retS (andV (k2 eqD (opdM (callM F_composed (consM (tupM (consM (M.ret (dN 0)) (consM (M.ret (dN 0)) (M.ret [])))) (consM (tupM (consM (M.ret (dN 3)) (consM (M.ret (dN 3)) (M.ret [])))) (M.ret []))))) (opdM (tupM (consM (M.ret (dN 0)) (consM (M.ret (dN 0)) (M.ret [])))))) (k2 eqD (opdM (callM F_common (consM (tupM (consM (M.ret (dN 3)) (consM (M.ret (dN 1)) (M.ret [])))) (consM (tupM (consM (M.ret (dN 2)) (consM (M.ret (dN 3)) (M.ret [])))) (M.ret []))))) (opdM (tupM (consM (M.ret (dN 2)) (consM (M.ret (dN 1)) (M.ret [])))))))))
end Nc

/-! The law's box of draws. -/
namespace Nc
open PySem PySem.Spec PyProof.Rows L2
structure Box where
  cells : List Int
  i : Nat
  r : Int
  s : Int
abbrev Box.o (b : Box) : O := .lst [.lst (b.cells.map D.int), dN b.i, .int b.r, .int b.s]
theorem add_ii {a b : Int} : addD (.int a) (.int b) = some (.int (a + b)) := Eq.trans (Eq.refl _) (Eq.refl _)
theorem sub_ii {a b : Int} : subD (.int a) (.int b) = some (.int (a - b)) := by simp only [subD, i2, if_true]
theorem mul_il {a b : Int} (h : small64i a = true) : mulD (.int a) (.int b) = some (.int (a * b)) := by simp only [mulD, h, Bool.true_or, if_true]
theorem mul_ir {a b : Int} (h : small64i b = true) : mulD (.int a) (.int b) = some (.int (a * b)) := by simp only [mulD, h, Bool.or_true, if_true]
theorem lt_ii {a b : Int} : ltD (.int a) (.int b) = some (dB (decide (a < b))) := by simp only [ltD, cmpI]
theorem le_ii {a b : Int} : leD (.int a) (.int b) = some (dB (decide (a ≤ b))) := by simp only [leD, cmpI]
theorem gt_ii {a b : Int} : gtD (.int a) (.int b) = some (dB (decide (b < a))) := by simp only [gtD, cmpI]
theorem mod_ii {a b : Int} (h : 0 < b) : modD (.int a) (.int b) = some (.int (a % b)) := by simp only [modD, i2, decide_eq_true h, if_true]
theorem fdiv_ii {a b : Int} (h : 0 < b) (h2 : b.natAbs < 10 ^ 40) : fdivD (.int a) (.int b) = some (.int (a / b)) := by
  have c : (decide (0 < b) && decide (b.natAbs.log2 < 9000)) = true := by rw [decide_eq_true h, decide_eq_true (log2_small h2)]; rfl
  simp only [fdivD, i2, c, if_true]
theorem pow1018 : powD (dN 10) (dN 18) = some (.int 1000000000000000000) := by
  rw [pow_nn (by decide) (by decide)]
  rfl
def oneV (c i s : Int) : Int := (c * 39373 + i * 52774 + s) % 2147483563
def twoV (o i : Int) : Int := (o * o + i * 15331) % 1000000007
def drawV (c i s many : Int) : Int := (twoV (oneV c i s) i * 40014 + oneV c i s) % 2147483399 / 17 % many
/-- one draw -/
def Box.pull (b : Box) (m : Int) : Int × Box :=
  if b.r < 2 then
    if h : b.i < b.cells.length then
      if b.cells[b.i] < 1000000000000000000 then (drawV b.cells[b.i] (b.i + 1) b.s m, ⟨b.cells, b.i + 1, b.r, b.s⟩)
      else (b.cells[b.i] % m, ⟨b.cells, b.i + 1, b.cells[b.i] / m, b.s⟩)
    else (drawV (b.s + (b.i + 1) * 7001) (b.i + 1) b.s m, ⟨b.cells, b.i + 1, b.r, b.s⟩)
  else (b.r % m, ⟨b.cells, b.i, b.r / m, b.s⟩)
theorem pull_bd (b : Box) {m : Int} (h : 0 < m) : 0 ≤ (b.pull m).1 ∧ (b.pull m).1 < m := by
  have q : ∀ x : Int, 0 ≤ x % m ∧ x % m < m := fun x => ⟨Int.emod_nonneg _ (by omega), Int.emod_lt_of_pos _ h⟩
  unfold Box.pull
  split
  · split
    · split
      · exact q _
      · exact q _
    · exact q _
  · exact q _
section
variable {b : Box} {m : Int} {g : Cells}
theorem small_one (x : Int) : small64i (x % 2147483563) = true := by
  have := Int.emod_nonneg x (show (2147483563 : Int) ≠ 0 by decide)
  have := Int.emod_lt_of_pos x (show (0 : Int) < 2147483563 by decide)
  unfold small64i
  rw [Bool.and_eq_true, decide_eq_true_eq, decide_eq_true_eq]
  omega
theorem pull_run (h : 0 < m) (h2 : m.natAbs < 10 ^ 40) : F_law_pull [.ptr 0, .int m] (b.o :: g) = .ok (.int (b.pull m).1) ((b.pull m).2.o :: g) := by
  have s1 : small64i ((39373 : Nat) : Int) = true := by decide
  have s2 : small64i ((52774 : Nat) : Int) = true := by decide
  have s3 : small64i ((15331 : Nat) : Int) = true := by decide
  have s4 : small64i ((40014 : Nat) : Int) = true := by decide
  have s5 : small64i ((7001 : Nat) : Int) = true := by decide
  have p1 : (0 : Int) < ((2147483563 : Nat) : Int) := by decide
  have p2 : (0 : Int) < ((1000000007 : Nat) : Int) := by decide
  have p3 : (0 : Int) < ((2147483399 : Nat) : Int) := by decide
  have p4 : (0 : Int) < ((17 : Nat) : Int) := by decide
  have p5 : ((17 : Nat) : Int).natAbs < 10 ^ 40 := by decide
  have so : ∀ x : Int, small64i (x % ((2147483563 : Nat) : Int)) = true := small_one
  have e1 : (b.i : Int) + ((1 : Nat) : Int) - ((1 : Nat) : Int) = b.i := by omega
  unfold Box.pull
  by_cases hr : b.r < 2
  · have d1 : decide (b.r < ((2 : Nat) : Int)) = true := decide_eq_true hr
    rw [if_pos hr]
    by_cases hi : b.i < b.cells.length
    · have d2 : decide ((b.i : Int) + ((1 : Nat) : Int) ≤ (b.cells.length : Int)) = true := decide_eq_true (by omega)
      have d3 : decide ((b.cells.length : Int) < (b.i : Int) + ((1 : Nat) : Int)) = false := decide_eq_false (by omega)
      rw [dif_pos hi]
      by_cases hc : b.cells[b.i] < 1000000000000000000
      · have d4 : decide (b.cells[b.i] < 1000000000000000000) = true := decide_eq_true hc
        rw [if_pos hc]
        apply run_sat rfl rfl
        simp only [EV1, EV2, EV3, EV4, EV5, EV6, EV7, EV8, EV9, EV10, EV11, EV12, EV13, EV14, EV15, EV16, EV17, vals, List.replicate, Nat.reduceBEq, Nat.reduceAdd, Nat.reduceLT, Nat.reduceSub, Nat.reduceMul, Nat.reduceLeDiff, Nat.reduceEqDiff, h_law_pull, ixl_n, lt_ii, d1, setIx_n, add_ii, mul_ir s5, mul_ir s1, mul_ir s2, mul_ir s3, mul_ir s4, mul_il (so _), len_lst, List.length_map, le_ii, gt_ii, d2, d3, sub_ii, e1, List.getElem?_map, List.getElem?_eq_getElem hi, d4, pow1018, mod_ii p1, mod_ii p2, mod_ii p3, fdiv_ii p4 p5, mod_ii h, int_int]
        constructor <;> simp [drawV, twoV, oneV]
      · have d4 : decide (b.cells[b.i] < 1000000000000000000) = false := decide_eq_false hc
        rw [if_neg hc]
        apply run_sat rfl rfl
        simp only [EV1, EV2, EV3, EV4, EV5, EV6, EV7, EV8, EV9, EV10, EV11, EV12, EV13, EV14, EV15, EV16, EV17, vals, List.replicate, Nat.reduceBEq, Nat.reduceAdd, Nat.reduceLT, Nat.reduceSub, Nat.reduceMul, Nat.reduceLeDiff, Nat.reduceEqDiff, h_law_pull, ixl_n, lt_ii, d1, setIx_n, add_ii, mul_ir s5, len_lst, List.length_map, le_ii, gt_ii, d2, d3, sub_ii, e1, List.getElem?_map, List.getElem?_eq_getElem hi, d4, pow1018, mod_ii h, fdiv_ii h h2, int_int]
        constructor <;> simp [drawV, twoV, oneV]
    · have d2 : decide ((b.i : Int) + ((1 : Nat) : Int) ≤ (b.cells.length : Int)) = false := decide_eq_false (by omega)
      have d3 : decide ((b.cells.length : Int) < (b.i : Int) + ((1 : Nat) : Int)) = true := decide_eq_true (by omega)
      rw [dif_neg hi]
      apply run_sat rfl rfl
      simp only [EV1, EV2, EV3, EV4, EV5, EV6, EV7, EV8, EV9, EV10, EV11, EV12, EV13, EV14, EV15, EV16, EV17, vals, List.replicate, Nat.reduceBEq, Nat.reduceAdd, Nat.reduceLT, Nat.reduceSub, Nat.reduceMul, Nat.reduceLeDiff, Nat.reduceEqDiff, h_law_pull, ixl_n, lt_ii, d1, setIx_n, add_ii, mul_ir s5, mul_ir s1, mul_ir s2, mul_ir s3, mul_ir s4, mul_il (so _), len_lst, List.length_map, le_ii, gt_ii, d2, d3, mod_ii p1, mod_ii p2, mod_ii p3, fdiv_ii p4 p5, mod_ii h, int_int]
      constructor <;> simp [drawV, twoV, oneV]
  · have d1 : decide (b.r < ((2 : Nat) : Int)) = false := decide_eq_false hr
    rw [if_neg hr]
    apply run_sat rfl rfl
    simp only [EV1, EV2, EV3, EV4, EV5, EV6, EV7, EV8, EV9, EV10, EV11, EV12, EV13, EV14, EV15, EV16, EV17, vals, List.replicate, Nat.reduceBEq, Nat.reduceAdd, Nat.reduceLT, Nat.reduceSub, Nat.reduceMul, Nat.reduceLeDiff, Nat.reduceEqDiff, h_law_pull, ixl_n, lt_ii, d1, setIx_n, mod_ii h, fdiv_ii h h2, int_int]
    constructor <;> simp [drawV, twoV, oneV]
end
def Box.draw (b : Box) (m : Nat) : Nat := (b.pull m).1.toNat
def Box.nx (b : Box) (m : Nat) : Box := (b.pull m).2
theorem draw_lt {b : Box} {m : Nat} (h : 0 < m) : b.draw m < m := by
  have := pull_bd b (m := m) (by omega)
  unfold Box.draw
  omega
theorem draw_run {b : Box} {m : Nat} {g : Cells} (h : 0 < m) (h2 : m < 10 ^ 40) : F_law_pull [.ptr 0, dN m] (b.o :: g) = .ok (dN (b.draw m)) ((b.nx m).o :: g) := by
  rw [pull_run (by omega) (by rw [Int.natAbs_natCast]; exact h2)]
  have := pull_bd b (m := m) (by omega)
  unfold Box.draw Box.nx
  rw [dN, Int.toNat_of_nonneg this.1]
end Nc

/-! Where a law begins: the script, the box. -/
namespace Nc
open PySem PySem.Spec PyProof.Rows L2
theorem h_open_run {ns : List Int} {a : Option Slot} (hl : ns.length ≤ 63) : ∃ (s : Int) (ρ' : Rho), h_law_open ⟨[a, some (.val (.lst (ns.map D.int))), none, none], []⟩ = .ok (.rt (.lst [.lst (ns.map D.int), dN 0, dN 0, .int s])) ρ' ∧ ρ'.g = [] := by
  have s1 : small64i ((7919 : Nat) : Int) = true := by decide
  have p1 : (0 : Int) < ((2147483587 : Nat) : Int) := by decide
  have key : Sat (h_law_open ⟨[a, some (.val (.lst (ns.map D.int))), none, none], []⟩) fun o ρ => ∃ s : Int, o = .rt (.lst [.lst (ns.map D.int), dN 0, dN 0, .int s]) ∧ ρ.g = [] := by
    simp only [EV1, EV2, EV3, EV4, EV5, EV6, EV7, EV8, EV9, EV10, EV11, EV12, EV13, EV14, EV15, EV16, EV17, vals, List.replicate, Nat.reduceBEq, Nat.reduceAdd, Nat.reduceLT, Nat.reduceSub, Nat.reduceMul, Nat.reduceLeDiff, Nat.reduceEqDiff, OP1, OP2, h_law_open, List.length_map, mul_nn (show ns.length < 10 ^ 18 by omega)]
    refine' Sat.stepI (loop_satJ (fun i ρ => ∃ (s : Int) (x3 : Option Slot), ρ = ⟨[a, some (.val (.lst (ns.map D.int))), some (.val (.int s)), x3], []⟩) ⟨_, none, rfl⟩ (fun i d ρ hd ⟨s, x3, hρ⟩ => ?_)) (fun o ρ ⟨h0, s, x3, hρ⟩ => ?_)
    · subst hρ
      rw [List.getElem?_map] at hd
      obtain ⟨c, hc, e⟩ := Option.map_eq_some_iff.mp hd
      subst e
      simp only [EV1, EV2, EV3, EV4, EV5, EV6, EV7, EV8, EV9, EV10, EV11, EV12, EV13, EV14, EV15, EV16, EV17, vals, List.replicate, Nat.reduceBEq, Nat.reduceAdd, Nat.reduceLT, Nat.reduceSub, Nat.reduceMul, Nat.reduceLeDiff, Nat.reduceEqDiff, mul_ir s1, add_ii, int_int, mod_ii p1]
      exact ⟨rfl, _, _, rfl⟩
    · subst h0 hρ
      simp only [EV1, EV2, EV3, EV4, EV5, EV6, EV7, EV8, EV9, EV10, EV11, EV12, EV13, EV14, EV15, EV16, EV17, vals, List.replicate, Nat.reduceBEq, Nat.reduceAdd, Nat.reduceLT, Nat.reduceSub, Nat.reduceMul, Nat.reduceLeDiff, Nat.reduceEqDiff, OP1, OP2]
      exact ⟨s, rfl, rfl⟩
  obtain ⟨o, ρ', e, s, rfl, hg⟩ := key.get
  exact ⟨s, ρ', e, hg⟩
theorem cut63 {ns : List Int} (h : ns.length ≤ 63) : cutV (ns.map V.int) none (some 63) = ns.map V.int := by
  unfold cutV
  rw [HT.sIx_none, show HT.sIx (ns.map V.int).length (ns.map V.int).length (some 63) = min 63 (ns.map V.int).length from HT.sIx_nat _ _ 63, List.drop_zero, Nat.sub_zero]
  refine List.take_of_length_le ?_
  rw [List.length_map]
  omega
def spOpen (K : PySem.W.Frag) : Sp := fun vs H Q _ => ∃ (a : Addr) (ns : List Int), vs = [.ref a] ∧ SqL K H a (ns.map V.int) ∧ ns.length ≤ 63 ∧ ∀ H' p c s, H' p = some (.lst [.ref c, .int 0, .int 0, .int s]) → H' c = some (.lst (ns.map V.int)) → Q (.ref p) H'
def spLaw (K : PySem.W.Frag) : Sp := fun vs H Q _ => ∃ (a : Addr) (ns : List Int), vs = [.ref a] ∧ SqL K H a (ns.map V.int) ∧ ns.length ≤ 63 ∧ ∀ H', Q (.bl true) H'
section
variable {K : PySem.W.Frag}
theorem rep_box {B : Fz} {ns : List Int} {s : Int} {v : V} (h : Rep K B (.lst [.lst (ns.map D.int), dN 0, dN 0, .int s]) v) : ∃ p c, v = .ref p ∧ B p = some (.lst [.ref c, .int 0, .int 0, .int s]) ∧ B c = some (.lst (ns.map V.int)) := by
  simp only [Rep, Reps] at h
  obtain ⟨p, xs, rfl, hp, x, xs1, rfl, ⟨c, ys, rfl, hc, hr⟩, y, xs2, rfl, rfl, z, xs3, rfl, rfl, u, xs4, rfl, rfl, rfl⟩ := h
  rw [hr.ints] at hc
  exact ⟨p, c, rfl, hp, hc⟩
/-- behind the cells' list, read as trees -/
theorem open_end {H : Hp} {a L : Addr} {ns : List Int} {Q : VK} {E : WX} (hl : ns.length ≤ 63) (h : H L = some (.lst (ns.map V.int))) (q : ∀ H' p c s, H' p = some (.lst [.ref c, .int 0, .int 0, .int s]) → H' c = some (.lst (ns.map V.int)) → Q (.ref p) H') (nx : L2.St → Hp → Prop) :
    tS K E h_law_open { nx := nx, rt := Q } [some (.ref a), some (.ref L), none, none] H := by
  obtain ⟨sv, ρ', e, _⟩ := h_open_run (a := some (.val (.adr a))) hl
  refine ⟨⟨upd (fun _ => none) L (.lst (ns.map V.int)), fun _ => none⟩, ⟨[some (.val (.adr a)), some (.val (.lst (ns.map D.int))), none, none], []⟩, ⟨fun b u hb => ?_, rfl, fun i sl hi => ?_, fun i j p h1 h2 => ?_, ⟨fun n o h => by simp at h, fun _ _ => rfl, fun n a h => by cases h⟩⟩, ?_⟩
  · by_cases e2 : b = L
    · subst e2
      have hb : upd (fun _ => none) b (.lst (ns.map V.int)) b = some u := hb
      rw [upd_same] at hb
      rw [h]
      exact hb
    · have hb : upd (fun _ => none) L (.lst (ns.map V.int)) b = some u := hb
      rw [upd_ne e2] at hb
      cases hb
  · match i, hi with
    | 0, hi =>
      cases hi
      exact ⟨.ref a, rfl, by simp only [Rep]⟩
    | 1, hi =>
      cases hi
      refine ⟨.ref L, rfl, ?_⟩
      simp only [Rep]
      exact ⟨L, ns.map V.int, rfl, upd_same, Reps.of_ints ns⟩
    | 2, hi =>
      cases hi
      trivial
    | 3, hi =>
      cases hi
      trivial
    | i + 4, hi => simp [Rho.get_mk] at hi
  · cases i with
    | c n =>
      obtain ⟨⟨o, h1⟩, _⟩ := h1
      simp at h1
    | s i =>
      obtain ⟨⟨o, e2⟩, _⟩ := h1
      match i, e2 with
      | 0, e2 => cases e2
      | 1, e2 => cases e2
      | 2, e2 => cases e2
      | 3, e2 => cases e2
      | i + 4, e2 => simp [Rho.get_mk] at e2
  · rw [e]
    intro v σ' B' H' st r
    obtain ⟨p, c', rfl, hp, hc⟩ := rep_box r
    exact q H' p c' sv (st.cf.bh _ _ hp) (st.cf.bh _ _ hc)
/-- where a law begins: the script's name, the box a cell -/
theorem cf_box {H : Hp} {a p c : Addr} {ns : List Int} {s : Int} (hp : H p = some (.lst [.ref c, .int 0, .int 0, .int s])) (hc : H c = some (.lst (ns.map V.int))) (m : Nat) :
    Cf K ⟨upd (fun _ => none) c (.lst (ns.map V.int)), fun n => if n = 0 then some p else none⟩ H (some (.ref a) :: some (.ref p) :: List.replicate m none) ⟨some (.val (.adr a)) :: some (.val (.ptr 0)) :: List.replicate m none, [Box.o ⟨ns, 0, 0, s⟩]⟩ := by
  have npc : p ≠ c := fun e => by
    rw [e, hc] at hp
    cases ns with
    | nil => simp at hp
    | cons n ns => simp at hp
  have own : ∀ i q, OwnAt (some (.ref a) :: some (.ref p) :: List.replicate m none) ⟨upd (fun _ => none) c (.lst (ns.map V.int)), fun n => if n = 0 then some p else none⟩ ⟨some (.val (.adr a)) :: some (.val (.ptr 0)) :: List.replicate m none, [Box.o ⟨ns, 0, 0, s⟩]⟩ i q → i = .c 0 := fun i q h => by
    cases i with
    | s i =>
      obtain ⟨⟨o, e⟩, _⟩ := h
      rw [Rho.get_mk] at e
      match i, e with
      | 0, e => simp at e
      | 1, e => simp at e
      | i + 2, e =>
        rw [List.getElem?_cons_succ, List.getElem?_cons_succ, List.getElem?_replicate] at e
        split at e <;> cases e
    | c n =>
      obtain ⟨_, e⟩ := h
      have e : (if n = 0 then some p else none) = some q := e
      split at e
      · rename_i z
        rw [z]
      · cases e
  refine ⟨fun b u hb => ?_, by simp [Rho.length], fun i sl hi => ?_, fun i j q h1 h2 => by rw [own i q h1, own j q h2], ⟨fun n o h => ?_, fun n l => ?_, fun n b h => ?_⟩⟩
  · by_cases e2 : b = c
    · subst e2
      have hb : upd (fun _ => none) b (.lst (ns.map V.int)) b = some u := hb
      rw [upd_same] at hb
      rw [hc]
      exact hb
    · have hb : upd (fun _ => none) c (.lst (ns.map V.int)) b = some u := hb
      rw [upd_ne e2] at hb
      cases hb
  · rw [Rho.get_mk] at hi
    match i, hi with
    | 0, hi =>
      cases hi
      exact ⟨.ref a, rfl, by simp only [Rep]⟩
    | 1, hi =>
      cases hi
      refine ⟨.ref p, rfl, ?_⟩
      simp only [Rep]
      exact ⟨p, rfl, rfl⟩
    | i + 2, hi =>
      rw [List.getElem?_cons_succ, List.getElem?_cons_succ, List.getElem?_replicate] at hi
      split at hi
      · cases hi
        trivial
      · cases hi
  · cases n with
    | succ n => simp at h
    | zero =>
      cases h
      refine ⟨p, _, rfl, (by show upd (fun _ => none) c (.lst (ns.map V.int)) p = none; rw [upd_ne npc]), hp, ⟨_, rfl, ?_⟩⟩
      refine Reps.cons ?_ (Reps.cons (by simp only [Rep]; rfl) (Reps.cons (by simp only [Rep]) (Reps.cons (by simp only [Rep]) Reps.nil)))
      simp only [Rep]
      exact ⟨c, ns.map V.int, rfl, upd_same, Reps.of_ints ns⟩
  · have l : 1 ≤ n := l
    show (if n = 0 then some p else none) = none
    rw [if_neg (by omega)]
  · have h : (if n = 0 then some p else none) = some b := h
    split at h
    · cases h
      rw [hp]
      exact fun z => by cases z
    · cases h
theorem law_sat {E : WX} {σ : L2.St} {B : Fz} {H : Hp} {ρ : Rho} {Dn : Ends} {h : M Out} (s : Sat (h ρ) fun o _ => o = .rt (.bl true)) (q : ∀ H', Dn.rt (.bl true) H') : AtS K E σ B H ρ Dn (h ρ) := by
  obtain ⟨o, ρ', e, rfl⟩ := s.get
  rw [e]
  intro v σ' B' H' st r
  have r := rep_bl r
  subst r
  exact q _
/-- what is shown of a law's body -/
def LawOk (h : M Out) (m : Nat) : Prop := ∀ (g : D) (b : Box), Sat (h ⟨some (.val g) :: some (.val (.ptr 0)) :: List.replicate m none, [b.o]⟩) fun o _ => o = .rt (.bl true)
theorem law_end {E : WX} {h : M Out} {m : Nat} {a p c : Addr} {ns : List Int} {s : Int} {H : Hp} {Dn : Ends} (run : LawOk h m) (hp : H p = some (.lst [.ref c, .int 0, .int 0, .int s])) (hc : H c = some (.lst (ns.map V.int))) (q : ∀ H', Dn.rt (.bl true) H') :
    tS K E h Dn (some (.ref a) :: some (.ref p) :: List.replicate m none) H := ⟨_, _, cf_box (a := a) hp hc m, law_sat (run (.adr a) ⟨ns, 0, 0, s⟩) q⟩
end
end Nc

namespace Nc
open PySem PySem.Spec PyProof.Rows L2
theorem identity_run {n : Nat} {g : Cells} (hn : n < 1000) : F_identity [dN n] g = .ok (dRel ((List.range n).map (2 ^ ·))) g := by
  apply run_sat rfl rfl
  simp only [EV1, EV2, EV3, EV4, EV5, EV6, EV7, EV8, EV9, EV10, EV11, EV12, EV13, EV14, EV15, EV16, EV17, vals, List.replicate, Nat.reduceBEq, Nat.reduceAdd, Nat.reduceLT, Nat.reduceSub, Nat.reduceMul, Nat.reduceLeDiff, Nat.reduceEqDiff, OP1, OP2, h_identity, rng1_n (show n < 1000000 by omega)]
  refine' Sat.step (lcL_mapS (r := fun k => dN (2 ^ k)) (fun k hk => ?_) (by simp; omega)) ?_
  · have hk := List.mem_range.mp hk
    simp only [EV1, EV2, EV3, EV4, EV5, EV6, EV7, EV8, EV9, EV10, EV11, EV12, EV13, EV14, EV15, EV16, EV17, vals, List.replicate, Nat.reduceBEq, Nat.reduceAdd, Nat.reduceLT, Nat.reduceSub, Nat.reduceMul, Nat.reduceLeDiff, Nat.reduceEqDiff, OP1, OP2, shl_nn (show k < 1000000 by omega) (show 1 < 10 ^ 18 by decide), Nat.one_mul]
    try exact rfl
  · simp only [EV1, EV2, EV3, EV4, EV5, EV6, EV7, EV8, EV9, EV10, EV11, EV12, EV13, EV14, EV15, EV16, EV17, vals, List.replicate, Nat.reduceBEq, Nat.reduceAdd, Nat.reduceLT, Nat.reduceSub, Nat.reduceMul, Nat.reduceLeDiff, Nat.reduceEqDiff, OP1, OP2, dRel, List.map_map]
    exact ⟨rfl, rfl⟩
theorem bit_is (row k : Nat) : decide (row >>> k &&& 1 = 1) = row.testBit k := by
  rw [Nat.and_one_is_mod, Nat.testBit_eq_decide_div_mod_eq, Nat.shiftRight_eq_div_pow]
theorem bits_run {row n : Nat} {g : Cells} (hn : n < 1000) : F_bits_of [dN row, dN n] g = .ok (.lst (((List.range n).filter (row.testBit ·)).map dN)) g := by
  apply run_sat rfl rfl
  simp only [EV1, EV2, EV3, EV4, EV5, EV6, EV7, EV8, EV9, EV10, EV11, EV12, EV13, EV14, EV15, EV16, EV17, vals, List.replicate, Nat.reduceBEq, Nat.reduceAdd, Nat.reduceLT, Nat.reduceSub, Nat.reduceMul, Nat.reduceLeDiff, Nat.reduceEqDiff, OP1, OP2, h_bits_of, rng1_n (show n < 1000000 by omega)]
  refine' Sat.step (lcL_mapF (p := (row.testBit ·)) (r := dN) (fun k hk => ?_) (by simp; omega)) ?_
  · simp only [EV1, EV2, EV3, EV4, EV5, EV6, EV7, EV8, EV9, EV10, EV11, EV12, EV13, EV14, EV15, EV16, EV17, vals, List.replicate, Nat.reduceBEq, Nat.reduceAdd, Nat.reduceLT, Nat.reduceSub, Nat.reduceMul, Nat.reduceLeDiff, Nat.reduceEqDiff, OP1, OP2, bit_is]
    cases row.testBit k <;> simp only [EV1, EV2, EV3, EV4, EV5, EV6, EV7, EV8, EV9, EV10, EV11, EV12, EV13, EV14, EV15, EV16, EV17, vals, List.replicate, Nat.reduceBEq, Nat.reduceAdd, Nat.reduceLT, Nat.reduceSub, Nat.reduceMul, Nat.reduceLeDiff, Nat.reduceEqDiff, OP1, OP2] <;> exact rfl
  · simp only [EV1, EV2, EV3, EV4, EV5, EV6, EV7, EV8, EV9, EV10, EV11, EV12, EV13, EV14, EV15, EV16, EV17, vals, List.replicate, Nat.reduceBEq, Nat.reduceAdd, Nat.reduceLT, Nat.reduceSub, Nat.reduceMul, Nat.reduceLeDiff, Nat.reduceEqDiff, OP1, OP2]
    exact ⟨rfl, rfl⟩
/-! image, joined -/
def rowAt (rows : List Nat) (i : Nat) : Nat := (rows[i]?).getD 0
def imgN (rel : List Nat) (row : Nat) : Nat := ((List.range rel.length).filter (row.testBit ·)).foldl (fun a s => a ||| rowAt rel s) 0
def chainN (one other : List Nat) : List Nat := one.map (imgN other)
theorem rel_ix {rows : List Nat} {i : Nat} (h : i < rows.length) : (rows.map dN)[i]? = some (dN (rowAt rows i)) := by
  rw [List.getElem?_map, List.getElem?_eq_getElem h]
  simp only [rowAt, List.getElem?_eq_getElem h, Option.map_some, Option.getD_some]
theorem image_run {row : Nat} {rel : List Nat} {g : Cells} (hn : rel.length < 1000) : F_image [dN row, dRel rel] g = .ok (dN (imgN rel row)) g := by
  apply run_sat rfl rfl
  simp only [EV1, EV2, EV3, EV4, EV5, EV6, EV7, EV8, EV9, EV10, EV11, EV12, EV13, EV14, EV15, EV16, EV17, vals, List.replicate, Nat.reduceBEq, Nat.reduceAdd, Nat.reduceLT, Nat.reduceSub, Nat.reduceMul, Nat.reduceLeDiff, Nat.reduceEqDiff, OP1, OP2, h_image, List.length_map, bits_run hn]
  refine' Sat.stepE (loop_sat (fun (a : Nat) (j : Option Slot) => ⟨[vN row, vD (dRel rel), vN a, j], g⟩) (fun a s => a ||| rowAt rel s) (fun _ => True) _ 0 none trivial (fun a j s hs _ => ⟨?_, trivial⟩)) (fun j => ?_)
  · have hs := List.mem_range.mp (List.mem_filter.mp hs).1
    simp only [EV1, EV2, EV3, EV4, EV5, EV6, EV7, EV8, EV9, EV10, EV11, EV12, EV13, EV14, EV15, EV16, EV17, vals, List.replicate, Nat.reduceBEq, Nat.reduceAdd, Nat.reduceLT, Nat.reduceSub, Nat.reduceMul, Nat.reduceLeDiff, Nat.reduceEqDiff, OP1, OP2, rel_ix hs]
    exact ⟨rfl, _, rfl⟩
  · simp only [EV1, EV2, EV3, EV4, EV5, EV6, EV7, EV8, EV9, EV10, EV11, EV12, EV13, EV14, EV15, EV16, EV17, vals, List.replicate, Nat.reduceBEq, Nat.reduceAdd, Nat.reduceLT, Nat.reduceSub, Nat.reduceMul, Nat.reduceLeDiff, Nat.reduceEqDiff, OP1, OP2]
    exact ⟨rfl, rfl⟩
theorem joined_run {one other : List Nat} {g : Cells} (h1 : one.length < 1000) (hn : other.length < 1000) : F_joined [dRel one, dRel other] g = .ok (dRel (chainN one other)) g := by
  apply run_sat rfl rfl
  simp only [EV1, EV2, EV3, EV4, EV5, EV6, EV7, EV8, EV9, EV10, EV11, EV12, EV13, EV14, EV15, EV16, EV17, vals, List.replicate, Nat.reduceBEq, Nat.reduceAdd, Nat.reduceLT, Nat.reduceSub, Nat.reduceMul, Nat.reduceLeDiff, Nat.reduceEqDiff, OP1, OP2, h_joined]
  refine' Sat.step (lcL_mapS (r := fun row => dN (imgN other row)) (fun row hk => ?_) (by omega)) ?_
  · simp only [EV1, EV2, EV3, EV4, EV5, EV6, EV7, EV8, EV9, EV10, EV11, EV12, EV13, EV14, EV15, EV16, EV17, vals, List.replicate, Nat.reduceBEq, Nat.reduceAdd, Nat.reduceLT, Nat.reduceSub, Nat.reduceMul, Nat.reduceLeDiff, Nat.reduceEqDiff, OP1, OP2, image_run hn]
    try exact rfl
  · simp only [EV1, EV2, EV3, EV4, EV5, EV6, EV7, EV8, EV9, EV10, EV11, EV12, EV13, EV14, EV15, EV16, EV17, vals, List.replicate, Nat.reduceBEq, Nat.reduceAdd, Nat.reduceLT, Nat.reduceSub, Nat.reduceMul, Nat.reduceLeDiff, Nat.reduceEqDiff, OP1, OP2, dRel, chainN, List.map_map]
    exact ⟨rfl, rfl⟩
theorem chain_len {a b : List Nat} : (chainN a b).length = a.length := List.length_map ..
theorem composed_run {r : List Nat} {rs : List (List Nat)} {g : Cells} (h1 : r.length < 1000) (h2 : ∀ x ∈ rs, x.length < 1000) (h3 : rs.length < 1000) : F_composed (dRel r :: rs.map dRel) g = .ok (dRel (rs.foldl chainN r)) g := by
  unfold F_composed
  rw [star_r (by simp) (le_size (by simp; omega))]
  apply run_sat rfl rfl
  simp only [EV1, EV2, EV3, EV4, EV5, EV6, EV7, EV8, EV9, EV10, EV11, EV12, EV13, EV14, EV15, EV16, EV17, vals, List.replicate, Nat.reduceBEq, Nat.reduceAdd, Nat.reduceLT, Nat.reduceSub, Nat.reduceMul, Nat.reduceLeDiff, Nat.reduceEqDiff, OP1, OP2, h_composed, List.take_succ_cons, List.take_zero, List.drop_succ_cons, List.drop_zero]
  refine' Sat.stepE (loop_sat (fun (a : List Nat) (j : Option Slot) => ⟨[vD (dRel r), vD (.tup (rs.map dRel)), vD (dRel a), j], g⟩) chainN (fun a => a.length < 1000) rs r none h1 (fun a j x hx ha => ⟨?_, by rw [chain_len]; exact ha⟩)) (fun j => ?_)
  · simp only [EV1, EV2, EV3, EV4, EV5, EV6, EV7, EV8, EV9, EV10, EV11, EV12, EV13, EV14, EV15, EV16, EV17, vals, List.replicate, Nat.reduceBEq, Nat.reduceAdd, Nat.reduceLT, Nat.reduceSub, Nat.reduceMul, Nat.reduceLeDiff, Nat.reduceEqDiff, OP1, OP2, joined_run ha (h2 x hx)]
    exact ⟨rfl, _, rfl⟩
  · simp only [EV1, EV2, EV3, EV4, EV5, EV6, EV7, EV8, EV9, EV10, EV11, EV12, EV13, EV14, EV15, EV16, EV17, vals, List.replicate, Nat.reduceBEq, Nat.reduceAdd, Nat.reduceLT, Nat.reduceSub, Nat.reduceMul, Nat.reduceLeDiff, Nat.reduceEqDiff, OP1, OP2]
    exact ⟨rfl, rfl⟩
/-! common -/
def andN (a b : List Nat) : List Nat := (a.zip b).map fun q => q.1 &&& q.2
theorem and_len {a b : List Nat} {n : Nat} (h1 : a.length = n) (h2 : b.length = n) : (andN a b).length = n := by
  unfold andN
  rw [List.length_map, List.length_zip, h1, h2, Nat.min_self]
theorem zip_tt {ds es : List D} : zipD (.tup ds) (.tup es) = some (zipPairs ds es) := Eq.trans (Eq.refl _) (Eq.refl _)
theorem zipPairs_map {β γ : Type} {f : β → D} {k : γ → D} {xs : List β} {ys : List γ} : zipPairs (xs.map f) (ys.map k) = (xs.zip ys).map fun q => .tup [f q.1, k q.2] := by
  unfold zipPairs
  rw [List.zip_map, List.map_map]
  rfl
theorem common_run {n : Nat} {r : List Nat} {rs : List (List Nat)} {g : Cells} (hn : n < 1000) (h1 : r.length = n) (h2 : ∀ x ∈ rs, x.length = n) (h3 : rs.length < 1000) : F_common (dRel r :: rs.map dRel) g = .ok (dRel (rs.foldl andN r)) g := by
  unfold F_common
  rw [star_r (by simp) (le_size (by simp; omega))]
  apply run_sat rfl rfl
  simp only [EV1, EV2, EV3, EV4, EV5, EV6, EV7, EV8, EV9, EV10, EV11, EV12, EV13, EV14, EV15, EV16, EV17, vals, List.replicate, Nat.reduceBEq, Nat.reduceAdd, Nat.reduceLT, Nat.reduceSub, Nat.reduceMul, Nat.reduceLeDiff, Nat.reduceEqDiff, OP1, OP2, h_common, List.take_succ_cons, List.take_zero, List.drop_succ_cons, List.drop_zero]
  refine' Sat.stepE (loop_sat (fun (a : List Nat) (j : Option Slot) => ⟨[vD (dRel r), vD (.tup (rs.map dRel)), vD (dRel a), j, none, none], g⟩) andN (fun a => a.length = n) rs r none h1 (fun a j x hx ha => ⟨?_, and_len ha (h2 x hx)⟩)) (fun j => ?_)
  · simp only [EV1, EV2, EV3, EV4, EV5, EV6, EV7, EV8, EV9, EV10, EV11, EV12, EV13, EV14, EV15, EV16, EV17, vals, List.replicate, Nat.reduceBEq, Nat.reduceAdd, Nat.reduceLT, Nat.reduceSub, Nat.reduceMul, Nat.reduceLeDiff, Nat.reduceEqDiff, OP1, OP2, zip_tt, zipPairs_map]
    refine' Sat.step (lcL_mapS (r := fun q => dN (q.1 &&& q.2)) (fun q hq => ?_) (by rw [List.length_zip, ha]; omega)) ?_
    · simp only [EV1, EV2, EV3, EV4, EV5, EV6, EV7, EV8, EV9, EV10, EV11, EV12, EV13, EV14, EV15, EV16, EV17, vals, List.replicate, Nat.reduceBEq, Nat.reduceAdd, Nat.reduceLT, Nat.reduceSub, Nat.reduceMul, Nat.reduceLeDiff, Nat.reduceEqDiff, OP1, OP2]
      try exact rfl
    · simp only [EV1, EV2, EV3, EV4, EV5, EV6, EV7, EV8, EV9, EV10, EV11, EV12, EV13, EV14, EV15, EV16, EV17, vals, List.replicate, Nat.reduceBEq, Nat.reduceAdd, Nat.reduceLT, Nat.reduceSub, Nat.reduceMul, Nat.reduceLeDiff, Nat.reduceEqDiff, OP1, OP2, andN, dRel, List.map_map]
      exact ⟨rfl, _, rfl⟩
  · simp only [EV1, EV2, EV3, EV4, EV5, EV6, EV7, EV8, EV9, EV10, EV11, EV12, EV13, EV14, EV15, EV16, EV17, vals, List.replicate, Nat.reduceBEq, Nat.reduceAdd, Nat.reduceLT, Nat.reduceSub, Nat.reduceMul, Nat.reduceLeDiff, Nat.reduceEqDiff, OP1, OP2]
    exact ⟨rfl, rfl⟩
/-! the law's own -/
theorem limage_run {row : Nat} {rel : List Nat} {g : Cells} (hn : rel.length < 1000) : F_law_image [dN row, dRel rel] g = .ok (dN (imgN rel row)) g := by
  apply run_sat rfl rfl
  simp only [EV1, EV2, EV3, EV4, EV5, EV6, EV7, EV8, EV9, EV10, EV11, EV12, EV13, EV14, EV15, EV16, EV17, vals, List.replicate, Nat.reduceBEq, Nat.reduceAdd, Nat.reduceLT, Nat.reduceSub, Nat.reduceMul, Nat.reduceLeDiff, Nat.reduceEqDiff, OP1, OP2, h_law_image, List.length_map, rng1_n (show rel.length < 1000000 by omega)]
  refine' Sat.stepE (loop_sat (fun (a : Nat) (j : Option Slot) => ⟨[vN row, vD (dRel rel), vN a, j], g⟩) (fun a s => if row.testBit s then a ||| rowAt rel s else a) (fun _ => True) _ 0 none trivial (fun a j s hs _ => ⟨?_, trivial⟩)) (fun j => ?_)
  · have hs := List.mem_range.mp hs
    simp only [EV1, EV2, EV3, EV4, EV5, EV6, EV7, EV8, EV9, EV10, EV11, EV12, EV13, EV14, EV15, EV16, EV17, vals, List.replicate, Nat.reduceBEq, Nat.reduceAdd, Nat.reduceLT, Nat.reduceSub, Nat.reduceMul, Nat.reduceLeDiff, Nat.reduceEqDiff, OP1, OP2, bit_is]
    cases row.testBit s
    · simp only [EV1, EV2, EV3, EV4, EV5, EV6, EV7, EV8, EV9, EV10, EV11, EV12, EV13, EV14, EV15, EV16, EV17, vals, List.replicate, Nat.reduceBEq, Nat.reduceAdd, Nat.reduceLT, Nat.reduceSub, Nat.reduceMul, Nat.reduceLeDiff, Nat.reduceEqDiff, OP1, OP2]
      exact ⟨rfl, _, rfl⟩
    · simp only [EV1, EV2, EV3, EV4, EV5, EV6, EV7, EV8, EV9, EV10, EV11, EV12, EV13, EV14, EV15, EV16, EV17, vals, List.replicate, Nat.reduceBEq, Nat.reduceAdd, Nat.reduceLT, Nat.reduceSub, Nat.reduceMul, Nat.reduceLeDiff, Nat.reduceEqDiff, OP1, OP2, rel_ix hs]
      exact ⟨rfl, _, rfl⟩
  · simp only [EV1, EV2, EV3, EV4, EV5, EV6, EV7, EV8, EV9, EV10, EV11, EV12, EV13, EV14, EV15, EV16, EV17, vals, List.replicate, Nat.reduceBEq, Nat.reduceAdd, Nat.reduceLT, Nat.reduceSub, Nat.reduceMul, Nat.reduceLeDiff, Nat.reduceEqDiff, OP1, OP2]
    refine ⟨congrArg (fun x => Out.rt (dN x)) ?_, rfl⟩
    unfold imgN
    rw [List.foldl_filter]
theorem lchain_run {one other : List Nat} {g : Cells} (h1 : one.length < 1000) (hn : other.length < 1000) : F_law_chain [dRel one, dRel other] g = .ok (dRel (chainN one other)) g := by
  apply run_sat rfl rfl
  simp only [EV1, EV2, EV3, EV4, EV5, EV6, EV7, EV8, EV9, EV10, EV11, EV12, EV13, EV14, EV15, EV16, EV17, vals, List.replicate, Nat.reduceBEq, Nat.reduceAdd, Nat.reduceLT, Nat.reduceSub, Nat.reduceMul, Nat.reduceLeDiff, Nat.reduceEqDiff, OP1, OP2, h_law_chain]
  refine' Sat.step (lcL_mapS (r := fun row => dN (imgN other row)) (fun row hk => ?_) (by omega)) ?_
  · simp only [EV1, EV2, EV3, EV4, EV5, EV6, EV7, EV8, EV9, EV10, EV11, EV12, EV13, EV14, EV15, EV16, EV17, vals, List.replicate, Nat.reduceBEq, Nat.reduceAdd, Nat.reduceLT, Nat.reduceSub, Nat.reduceMul, Nat.reduceLeDiff, Nat.reduceEqDiff, OP1, OP2, limage_run hn]
    try exact rfl
  · simp only [EV1, EV2, EV3, EV4, EV5, EV6, EV7, EV8, EV9, EV10, EV11, EV12, EV13, EV14, EV15, EV16, EV17, vals, List.replicate, Nat.reduceBEq, Nat.reduceAdd, Nat.reduceLT, Nat.reduceSub, Nat.reduceMul, Nat.reduceLeDiff, Nat.reduceEqDiff, OP1, OP2, dRel, chainN, List.map_map]
    exact ⟨rfl, rfl⟩
theorem pick_run {b : Box} {ds : List D} {g : Cells} {P : D} (hP : P = .lst ds ∨ P = .tup ds) (h0 : 0 < ds.length) (h1 : ds.length < 1000000) : F_law_pick [.ptr 0, P] (b.o :: g) = .ok ((ds[b.draw ds.length]?).getD .non) ((b.nx ds.length).o :: g) := by
  have hd := draw_lt (b := b) h0
  have e : ds[b.draw ds.length]? = some ((ds[b.draw ds.length]?).getD .non) := by
    rw [List.getElem?_eq_getElem hd]
    rfl
  rcases hP with rfl | rfl
  · apply run_sat rfl rfl
    simp only [EV1, EV2, EV3, EV4, EV5, EV6, EV7, EV8, EV9, EV10, EV11, EV12, EV13, EV14, EV15, EV16, EV17, vals, List.replicate, Nat.reduceBEq, Nat.reduceAdd, Nat.reduceLT, Nat.reduceSub, Nat.reduceMul, Nat.reduceLeDiff, Nat.reduceEqDiff, OP1, OP2, h_law_pick, draw_run (g := g) (b := b) h0 (by omega)]
    rw [e]
    simp only [EV1, EV2, EV3, EV4, EV5, EV6, EV7, EV8, EV9, EV10, EV11, EV12, EV13, EV14, EV15, EV16, EV17, vals, List.replicate, Nat.reduceBEq, Nat.reduceAdd, Nat.reduceLT, Nat.reduceSub, Nat.reduceMul, Nat.reduceLeDiff, Nat.reduceEqDiff, OP1, OP2]
    exact ⟨rfl, rfl⟩
  · apply run_sat rfl rfl
    simp only [EV1, EV2, EV3, EV4, EV5, EV6, EV7, EV8, EV9, EV10, EV11, EV12, EV13, EV14, EV15, EV16, EV17, vals, List.replicate, Nat.reduceBEq, Nat.reduceAdd, Nat.reduceLT, Nat.reduceSub, Nat.reduceMul, Nat.reduceLeDiff, Nat.reduceEqDiff, OP1, OP2, h_law_pick, draw_run (g := g) (b := b) h0 (by omega)]
    rw [e]
    simp only [EV1, EV2, EV3, EV4, EV5, EV6, EV7, EV8, EV9, EV10, EV11, EV12, EV13, EV14, EV15, EV16, EV17, vals, List.replicate, Nat.reduceBEq, Nat.reduceAdd, Nat.reduceLT, Nat.reduceSub, Nat.reduceMul, Nat.reduceLeDiff, Nat.reduceEqDiff, OP1, OP2]
    exact ⟨rfl, rfl⟩
end Nc

/-! Pairs, relations of pairs, turned; equality of data. -/
namespace Nc
open PySem PySem.Spec PyProof.Rows L2
/-- sum of powers over rising exponents, bit by bit -/
def sumP (ks : List Nat) : Nat := (ks.map (2 ^ ·)).sum
theorem sumP_dvd {m : Nat} : ∀ {ks : List Nat}, (∀ k ∈ ks, m ≤ k) → 2 ^ m ∣ sumP ks
  | [], _ => ⟨0, rfl⟩
  | k :: ks, h => by
    unfold sumP
    rw [List.map_cons, List.sum_cons]
    exact Nat.dvd_add (Nat.pow_dvd_pow 2 (h k List.mem_cons_self)) (sumP_dvd (ks := ks) fun j hj => h j (List.mem_cons_of_mem _ hj))
theorem sumP_or {k : Nat} {ks : List Nat} (h : ∀ j ∈ ks, k < j) : sumP (k :: ks) = sumP ks ||| 2 ^ k := by
  obtain ⟨q, hq⟩ := sumP_dvd (m := k + 1) (ks := ks) h
  have e : sumP (k :: ks) = 2 ^ k + sumP ks := by
    unfold sumP
    rw [List.map_cons, List.sum_cons]
  rw [e, hq, ← Nat.two_pow_add_eq_or_of_lt (Nat.pow_lt_pow_right (by decide) (Nat.lt_succ_self k)), Nat.add_comm]
theorem sumP_bit : ∀ {ks : List Nat}, ks.Pairwise (· < ·) → ∀ i, (sumP ks).testBit i = decide (i ∈ ks)
  | [], _, i => by simp [sumP]
  | k :: ks, h, i => by
    rw [List.pairwise_cons] at h
    rw [sumP_or h.1, Nat.testBit_or, sumP_bit h.2, Nat.testBit_two_pow]
    by_cases e : k = i
    · subst e
      simp
    · have : i ≠ k := fun z => e z.symm
      simp [e, this]
/-- the or of powers -/
def orP (ks : List Nat) (a : Nat) : Nat := ks.foldl (fun acc k => acc ||| 2 ^ k) a
theorem orP_bit : ∀ (ks : List Nat) (a i : Nat), (orP ks a).testBit i = (a.testBit i || decide (i ∈ ks))
  | [], a, i => by simp [orP]
  | k :: ks, a, i => by
    show (orP ks (a ||| 2 ^ k)).testBit i = _
    rw [orP_bit ks, Nat.testBit_or, Nat.testBit_two_pow]
    by_cases e : k = i
    · subst e
      simp
    · have : i ≠ k := fun z => e z.symm
      simp [e, this]
abbrev toI (n : Nat) : Int := (n : Int)
def sN (ns : List Nat) : List Nat := (sortU (ns.map toI)).map Int.toNat
theorem sN_cast (ns : List Nat) : (sN ns).map toI = sortU (ns.map toI) := by
  unfold sN
  rw [List.map_map]
  have : ∀ x ∈ sortU (ns.map toI), (toI ∘ Int.toNat) x = x := fun x hx => by
    obtain ⟨n, _, e⟩ := List.mem_map.mp (mem_sortU.mp hx)
    subst e
    rfl
  rw [List.map_congr_left this, List.map_id']
theorem sN_mem {ns : List Nat} {k : Nat} : k ∈ sN ns ↔ k ∈ ns := by
  unfold sN
  rw [List.mem_map]
  constructor
  · rintro ⟨x, hx, e⟩
    obtain ⟨n, hn, e2⟩ := List.mem_map.mp (mem_sortU.mp hx)
    subst e2
    rw [← e]
    exact hn
  · intro hk
    exact ⟨toI k, mem_sortU.mpr (List.mem_map_of_mem hk), rfl⟩
theorem sN_sorted (ns : List Nat) : (sN ns).Pairwise (· < ·) := by
  have h := sortU_sorted (ns.map toI)
  rw [← sN_cast, List.pairwise_map] at h
  exact h.imp fun {a b} q => by
    have q : (a : Int) < (b : Int) := q
    omega
def rowL (ps : List (Nat × Nat)) (i : Nat) : List Nat := (ps.filter fun p => decide (p.1 = i)).map (·.2)
def rowS (ps : List (Nat × Nat)) (i : Nat) : Nat := sumP (sN (rowL ps i))
def relS (n : Nat) (ps : List (Nat × Nat)) : List Nat := (List.range n).map (rowS ps)
theorem rowS_bit (ps : List (Nat × Nat)) (i j : Nat) : (rowS ps i).testBit j = decide ((i, j) ∈ ps) := by
  unfold rowS
  rw [sumP_bit (sN_sorted _), decide_eq_decide, sN_mem]
  unfold rowL
  rw [List.mem_map]
  constructor
  · rintro ⟨p, hp, e⟩
    obtain ⟨h1, h2⟩ := List.mem_filter.mp hp
    have h2 := of_decide_eq_true h2
    subst e h2
    exact h1
  · intro h
    exact ⟨(i, j), List.mem_filter.mpr ⟨h, decide_eq_true rfl⟩, rfl⟩
def pairsOf (rows : List Nat) : List (Nat × Nat) := (List.range rows.length).flatMap fun i => ((List.range rows.length).filter ((rowAt rows i).testBit ·)).map fun j => (i, j)
theorem len_pairs (rows : List Nat) (h : rows.length < 100) : (pairsOf rows).length ≤ 10000 := by
  have key : ∀ (xs : List Nat), ((xs.flatMap fun i => ((List.range rows.length).filter ((rowAt rows i).testBit ·)).map fun j => (i, j)).length) ≤ xs.length * 100 := by
    intro xs
    induction xs with
    | nil => simp
    | cons x xs ih =>
      rw [List.flatMap_cons, List.length_append, List.length_map, List.length_cons]
      have := List.length_filter_le ((rowAt rows x).testBit ·) (List.range rows.length)
      rw [List.length_range] at this
      omega
  have := key (List.range rows.length)
  rw [List.length_range] at this
  unfold pairsOf
  omega
theorem map_flat {α β γ : Type} (xs : List α) (k : α → List β) (f : β → γ) : (xs.flatMap k).map f = xs.flatMap fun a => (k a).map f := List.map_flatMap
theorem pairs_run {rows : List Nat} {g : Cells} (hn : rows.length < 100) : F_pairs_of [dRel rows] g = .ok (dPairs (pairsOf rows)) g := by
  apply run_sat rfl rfl
  simp only [EV1, EV2, EV3, EV4, EV5, EV6, EV7, EV8, EV9, EV10, EV11, EV12, EV13, EV14, EV15, EV16, EV17, vals, List.replicate, Nat.reduceBEq, Nat.reduceAdd, Nat.reduceLT, Nat.reduceSub, Nat.reduceMul, Nat.reduceLeDiff, Nat.reduceEqDiff, OP1, OP2, h_pairs_of, List.length_map, rng1_n (show rows.length < 1000000 by omega)]
  have hl := len_pairs rows hn
  have e2 : ((List.range rows.length).flatMap fun i => ((List.range rows.length).filter ((rowAt rows i).testBit ·)).map fun j => dPair (i, j)) = (pairsOf rows).map dPair := by
    unfold pairsOf
    rw [List.map_flatMap]
    congr 1
    funext i
    rw [List.map_map]
    rfl
  refine' Sat.step (lc2L_map (r := fun i => ((List.range rows.length).filter ((rowAt rows i).testBit ·)).map fun j => dPair (i, j)) 1000 (fun i hi acc hz => ?_) (by rw [e2, List.length_map]; omega)) ?_
  · have hi := List.mem_range.mp hi
    simp only [EV1, EV2, EV3, EV4, EV5, EV6, EV7, EV8, EV9, EV10, EV11, EV12, EV13, EV14, EV15, EV16, EV17, vals, List.replicate, Nat.reduceBEq, Nat.reduceAdd, Nat.reduceLT, Nat.reduceSub, Nat.reduceMul, Nat.reduceLeDiff, Nat.reduceEqDiff, OP1, OP2, rel_ix hi, List.length_map, bits_run (show rows.length < 1000 by omega)]
    rw [lcC_mapS (r := fun j => dPair (i, j)) (fun j hj => by
      simp only [EV1, EV2, EV3, EV4, EV5, EV6, EV7, EV8, EV9, EV10, EV11, EV12, EV13, EV14, EV15, EV16, EV17, vals, List.replicate, Nat.reduceBEq, Nat.reduceAdd, Nat.reduceLT, Nat.reduceSub, Nat.reduceMul, Nat.reduceLeDiff, Nat.reduceEqDiff, OP1, OP2]
      try exact rfl) (by
      have := List.length_filter_le ((rowAt rows i).testBit ·) (List.range rows.length)
      rw [List.length_range] at this
      omega)]
    try exact rfl
  · simp only [EV1, EV2, EV3, EV4, EV5, EV6, EV7, EV8, EV9, EV10, EV11, EV12, EV13, EV14, EV15, EV16, EV17, vals, List.replicate, Nat.reduceBEq, Nat.reduceAdd, Nat.reduceLT, Nat.reduceSub, Nat.reduceMul, Nat.reduceLeDiff, Nat.reduceEqDiff, OP1, OP2, e2]
    exact ⟨rfl, rfl⟩
/-! membership -/
theorem rowAt_rel {n : Nat} {g : Nat → Nat} {i : Nat} (h : i < n) : rowAt ((List.range n).map g) i = g i := by
  unfold rowAt
  rw [List.getElem?_map, List.getElem?_range h]
  rfl
theorem mem_pairsOf {rows : List Nat} {i j : Nat} : (i, j) ∈ pairsOf rows ↔ i < rows.length ∧ j < rows.length ∧ (rowAt rows i).testBit j = true := by
  unfold pairsOf
  rw [List.mem_flatMap]
  constructor
  · rintro ⟨a, ha, h⟩
    obtain ⟨b, hb, e⟩ := List.mem_map.mp h
    cases e
    obtain ⟨h1, h2⟩ := List.mem_filter.mp hb
    exact ⟨List.mem_range.mp ha, List.mem_range.mp h1, h2⟩
  · rintro ⟨h1, h2, h3⟩
    exact ⟨i, List.mem_range.mpr h1, List.mem_map.mpr ⟨j, List.mem_filter.mpr ⟨List.mem_range.mpr h2, h3⟩, rfl⟩⟩
def swp (p : Nat × Nat) : Nat × Nat := (p.2, p.1)
theorem one_of {xs : List Nat} (h : xs.Pairwise (· < ·)) (q : Nat → Bool) (i : Nat) : (xs.filter fun j => q j && decide (j = i)).length ≤ 1 := by
  induction xs with
  | nil => simp
  | cons x xs ih =>
    rw [List.pairwise_cons] at h
    rw [List.filter_cons]
    split
    · rename_i hx
      rw [Bool.and_eq_true, decide_eq_true_eq] at hx
      have : xs.filter (fun j => q j && decide (j = i)) = [] := by
        rw [List.filter_eq_nil_iff]
        intro j hj
        have := h.1 j hj
        rw [Bool.and_eq_true, decide_eq_true_eq]
        omega
      rw [this]
      simp
    · exact ih h.2
theorem rowL_swap (rows : List Nat) (i : Nat) : (rowL ((pairsOf rows).map swp) i).length ≤ rows.length := by
  have key : ∀ xs : List Nat, (rowL ((xs.flatMap fun a => ((List.range rows.length).filter ((rowAt rows a).testBit ·)).map fun j => (a, j)).map swp) i).length ≤ xs.length := by
    intro xs
    induction xs with
    | nil => simp [rowL]
    | cons x xs ih =>
      rw [List.flatMap_cons, List.map_append]
      unfold rowL at ih ⊢
      rw [List.filter_append, List.map_append, List.length_append, List.length_cons]
      have h1 : (((((List.range rows.length).filter ((rowAt rows x).testBit ·)).map fun j => (x, j)).map swp).filter fun p => decide (p.1 = i)).length ≤ 1 := by
        rw [List.map_map, List.filter_map, List.length_map, List.filter_filter]
        have := one_of (List.pairwise_lt_range (n := rows.length)) (fun j => (rowAt rows x).testBit j) i
        refine Nat.le_trans (Nat.le_of_eq ?_) this
        congr 2
        funext j
        show (decide (j = i) && (rowAt rows x).testBit j) = _
        rw [Bool.and_comm]
      rw [List.length_map]
      omega
  have := key (List.range rows.length)
  rw [List.length_range] at this
  exact this
theorem sN_len (ns : List Nat) : (sN ns).length ≤ ns.length := by
  unfold sN
  rw [List.length_map]
  exact Nat.le_trans (sortU_len _) (by rw [List.length_map]; exact Nat.le_refl _)
/-! relation_of -/
theorem sumD_pows (ks : List Nat) : sumD (.lst (ks.map fun k => dN (2 ^ k))) = some (dN (sumP ks)) := by
  have := sum_nats (ks.map (2 ^ ·))
  rw [List.map_map] at this
  exact this
theorem rel_run {n : Nat} {ps : List (Nat × Nat)} {P : D} {g : Cells} (hn : n < 1000) (hP : P = .lst (ps.map dPair) ∨ P = .tup (ps.map dPair)) (hl : ps.length < 100000) (hf : ∀ i, (rowL ps i).length < 63) (hb : ∀ p ∈ ps, p.2 < 1000) : F_relation_of [dN n, P] g = .ok (dRel (relS n ps)) g := by
  have hi : itemsD P = some (ps.map dPair) := by rcases hP with rfl | rfl <;> rfl
  have hb2 : ∀ i, ∀ k ∈ sN (rowL ps i), k < 1000 := fun i k hk => by
    rw [sN_mem] at hk
    unfold rowL at hk
    obtain ⟨p, hp, e⟩ := List.mem_map.mp hk
    have := hb p (List.mem_filter.mp hp).1
    omega
  have hs2 : ∀ i, (sN (rowL ps i)).length < 63 := fun i => by
    have := sN_len (rowL ps i)
    have := hf i
    omega
  apply run_sat rfl rfl
  simp only [EV1, EV2, EV3, EV4, EV5, EV6, EV7, EV8, EV9, EV10, EV11, EV12, EV13, EV14, EV15, EV16, EV17, vals, List.replicate, Nat.reduceBEq, Nat.reduceAdd, Nat.reduceLT, Nat.reduceSub, Nat.reduceMul, Nat.reduceLeDiff, Nat.reduceEqDiff, OP1, OP2, h_relation_of, rng1_n (show n < 1000000 by omega)]
  refine' Sat.stepI (loop_satJ (fun i ρ => i ≤ n ∧ ∃ j3 j4, ρ = ⟨[vN n, some (.val P), some (.own (.lst ((List.range i).map fun r => dN (rowS ps r)))), j3, j4, none, none], g⟩) ⟨Nat.zero_le _, none, none, rfl⟩ (fun i d ρ hd ⟨_, j3, j4, hρ⟩ => ?_)) (fun o ρ h => ?_)
  · subst hρ
    rw [List.getElem?_map] at hd
    obtain ⟨x, hx, e⟩ := Option.map_eq_some_iff.mp hd
    have hin : i < n := by
      have := (List.getElem?_eq_some_iff.mp hx).1
      simpa using this
    rw [List.getElem?_range hin] at hx
    cases hx
    subst e
    simp only [EV1, EV2, EV3, EV4, EV5, EV6, EV7, EV8, EV9, EV10, EV11, EV12, EV13, EV14, EV15, EV16, EV17, vals, List.replicate, Nat.reduceBEq, Nat.reduceAdd, Nat.reduceLT, Nat.reduceSub, Nat.reduceMul, Nat.reduceLeDiff, Nat.reduceEqDiff, OP1, OP2, hi]
    refine' Sat.step (ssL_map (p := fun p => decide (p.1 = i)) (r := fun p => (p.2 : Int)) (fun p hp => ?_) hl ?_) ?_
    · simp only [EV1, EV2, EV3, EV4, EV5, EV6, EV7, EV8, EV9, EV10, EV11, EV12, EV13, EV14, EV15, EV16, EV17, vals, List.replicate, Nat.reduceBEq, Nat.reduceAdd, Nat.reduceLT, Nat.reduceSub, Nat.reduceMul, Nat.reduceLeDiff, Nat.reduceEqDiff, OP1, OP2]
      by_cases h : p.1 = i
      · simp only [EV1, EV2, EV3, EV4, EV5, EV6, EV7, EV8, EV9, EV10, EV11, EV12, EV13, EV14, EV15, EV16, EV17, vals, List.replicate, Nat.reduceBEq, Nat.reduceAdd, Nat.reduceLT, Nat.reduceSub, Nat.reduceMul, Nat.reduceLeDiff, Nat.reduceEqDiff, OP1, OP2, decide_eq_true h]
        try exact rfl
      · simp only [EV1, EV2, EV3, EV4, EV5, EV6, EV7, EV8, EV9, EV10, EV11, EV12, EV13, EV14, EV15, EV16, EV17, vals, List.replicate, Nat.reduceBEq, Nat.reduceAdd, Nat.reduceLT, Nat.reduceSub, Nat.reduceMul, Nat.reduceLeDiff, Nat.reduceEqDiff, OP1, OP2, decide_eq_false h]
        try exact rfl
    · have := hf i
      unfold rowL at this
      rwa [List.length_map] at this ⊢
    · have e3 : (sortU ((ps.filter fun p => decide (p.1 = i)).map fun p => (p.2 : Int))).map D.int = (sN (rowL ps i)).map dN := by
        have := congrArg (List.map D.int) (sN_cast (rowL ps i))
        unfold rowL at this ⊢
        rw [List.map_map, List.map_map] at this
        exact this.symm
      simp only [EV1, EV2, EV3, EV4, EV5, EV6, EV7, EV8, EV9, EV10, EV11, EV12, EV13, EV14, EV15, EV16, EV17, vals, List.replicate, Nat.reduceBEq, Nat.reduceAdd, Nat.reduceLT, Nat.reduceSub, Nat.reduceMul, Nat.reduceLeDiff, Nat.reduceEqDiff, OP1, OP2, e3]
      refine' Sat.step (lcL_mapS (r := fun k => dN (2 ^ k)) (fun k hk => ?_) (by have := hs2 i; omega)) ?_
      · simp only [EV1, EV2, EV3, EV4, EV5, EV6, EV7, EV8, EV9, EV10, EV11, EV12, EV13, EV14, EV15, EV16, EV17, vals, List.replicate, Nat.reduceBEq, Nat.reduceAdd, Nat.reduceLT, Nat.reduceSub, Nat.reduceMul, Nat.reduceLeDiff, Nat.reduceEqDiff, OP1, OP2, shl_nn (show k < 1000000 by have := hb2 i k hk; omega) (show 1 < 10 ^ 18 by decide), Nat.one_mul]
        try exact rfl
      · have e4 : ((List.range i).map fun r => dN (rowS ps r)) ++ [dN (sumP (sN (rowL ps i)))] = (List.range (i + 1)).map fun r => dN (rowS ps r) := by
          rw [List.range_succ, List.map_append]
          rfl
        simp only [EV1, EV2, EV3, EV4, EV5, EV6, EV7, EV8, EV9, EV10, EV11, EV12, EV13, EV14, EV15, EV16, EV17, vals, List.replicate, Nat.reduceBEq, Nat.reduceAdd, Nat.reduceLT, Nat.reduceSub, Nat.reduceMul, Nat.reduceLeDiff, Nat.reduceEqDiff, OP1, OP2, sumD_pows, app_r (show ((List.range i).map fun r => dN (rowS ps r)).length < 100000 by simp; omega), e4]
        exact ⟨rfl, hin, _, _, rfl⟩
  · obtain ⟨rfl, _, j3, j4, rfl⟩ := h
    rw [List.length_map, List.length_range]
    simp only [EV1, EV2, EV3, EV4, EV5, EV6, EV7, EV8, EV9, EV10, EV11, EV12, EV13, EV14, EV15, EV16, EV17, vals, List.replicate, Nat.reduceBEq, Nat.reduceAdd, Nat.reduceLT, Nat.reduceSub, Nat.reduceMul, Nat.reduceLeDiff, Nat.reduceEqDiff, OP1, OP2]
    refine ⟨?_, rfl⟩
    unfold relS
    rw [dRel, List.map_map]
    rfl
theorem rowL_le (ps : List (Nat × Nat)) (i : Nat) : (rowL ps i).length ≤ ps.length := by
  unfold rowL
  rw [List.length_map]
  exact List.length_filter_le _ _
/-! turned -/
theorem turned_run {rows : List Nat} {g : Cells} (hn : rows.length < 63) : F_turned [dRel rows] g = .ok (dRel (relS rows.length ((pairsOf rows).map swp))) g := by
  have hlp := len_pairs rows (by omega)
  apply run_sat rfl rfl
  simp only [EV1, EV2, EV3, EV4, EV5, EV6, EV7, EV8, EV9, EV10, EV11, EV12, EV13, EV14, EV15, EV16, EV17, vals, List.replicate, Nat.reduceBEq, Nat.reduceAdd, Nat.reduceLT, Nat.reduceSub, Nat.reduceMul, Nat.reduceLeDiff, Nat.reduceEqDiff, OP1, OP2, h_turned, List.length_map, pairs_run (show rows.length < 100 by omega)]
  refine' Sat.step (lcL_mapS (r := fun p => dPair (swp p)) (fun p hp => ?_) (by omega)) ?_
  · simp only [EV1, EV2, EV3, EV4, EV5, EV6, EV7, EV8, EV9, EV10, EV11, EV12, EV13, EV14, EV15, EV16, EV17, vals, List.replicate, Nat.reduceBEq, Nat.reduceAdd, Nat.reduceLT, Nat.reduceSub, Nat.reduceMul, Nat.reduceLeDiff, Nat.reduceEqDiff, OP1, OP2]
    try exact rfl
  · have er := rel_run (n := rows.length) (ps := (pairsOf rows).map swp) (P := .lst ((pairsOf rows).map fun p => dPair (swp p))) (g := g) (by omega) (.inl (by rw [List.map_map]; rfl)) (by rw [List.length_map]; omega) (fun i => Nat.lt_of_le_of_lt (rowL_swap rows i) hn) (fun p hp => by
      obtain ⟨q, hq, e⟩ := List.mem_map.mp hp
      subst e
      obtain ⟨a, b⟩ := q
      have := (mem_pairsOf.mp hq).1
      show a < 1000
      omega)
    simp only [EV1, EV2, EV3, EV4, EV5, EV6, EV7, EV8, EV9, EV10, EV11, EV12, EV13, EV14, EV15, EV16, EV17, vals, List.replicate, Nat.reduceBEq, Nat.reduceAdd, Nat.reduceLT, Nat.reduceSub, Nat.reduceMul, Nat.reduceLeDiff, Nat.reduceEqDiff, OP1, OP2, er]
    exact ⟨rfl, rfl⟩
/-! the law's own relation -/
def rowO (ps : List (Nat × Nat)) (i : Nat) : Nat := orP (rowL ps i) 0
def relO (n : Nat) (ps : List (Nat × Nat)) : List Nat := (List.range n).map (rowO ps)
theorem rowO_bit (ps : List (Nat × Nat)) (i j : Nat) : (rowO ps i).testBit j = decide ((i, j) ∈ ps) := by
  unfold rowO
  rw [orP_bit, Nat.zero_testBit, Bool.false_or, decide_eq_decide]
  unfold rowL
  rw [List.mem_map]
  constructor
  · rintro ⟨p, hp, e⟩
    obtain ⟨h1, h2⟩ := List.mem_filter.mp hp
    have h2 := of_decide_eq_true h2
    subst e h2
    exact h1
  · intro h
    exact ⟨(i, j), List.mem_filter.mpr ⟨h, decide_eq_true rfl⟩, rfl⟩
theorem rel_OS {n : Nat} {ps qs : List (Nat × Nat)} (h : ∀ i j, i < n → ((i, j) ∈ ps ↔ (i, j) ∈ qs)) : relO n ps = relS n qs := by
  unfold relO relS
  refine List.map_congr_left fun i hi => Nat.eq_of_testBit_eq fun j => ?_
  rw [rowO_bit, rowS_bit, decide_eq_decide]
  exact h i j (List.mem_range.mp hi)
theorem rel_SS {n : Nat} {ps qs : List (Nat × Nat)} (h : ∀ i j, i < n → ((i, j) ∈ ps ↔ (i, j) ∈ qs)) : relS n ps = relS n qs := by
  unfold relS
  refine List.map_congr_left fun i hi => Nat.eq_of_testBit_eq fun j => ?_
  rw [rowS_bit, rowS_bit, decide_eq_decide]
  exact h i j (List.mem_range.mp hi)
theorem rowO_snoc (ps : List (Nat × Nat)) (p : Nat × Nat) (i : Nat) : rowO (ps ++ [p]) i = if p.1 = i then rowO ps i ||| 2 ^ p.2 else rowO ps i := by
  unfold rowO rowL
  rw [List.filter_append, List.map_append]
  unfold orP
  rw [List.foldl_append]
  by_cases h : p.1 = i <;> simp [h]
theorem set_range {n k : Nat} {g g' : Nat → D} (h : ∀ r, r ≠ k → g' r = g r) : ((List.range n).map g).set k (g' k) = (List.range n).map g' := by
  apply List.ext_getElem?
  intro i
  by_cases hi : i = k
  · subst hi
    by_cases hn : i < n
    · rw [List.getElem?_set_self (by simpa using hn), List.getElem?_map, List.getElem?_range hn]
      rfl
    · rw [List.getElem?_eq_none (by simp; omega), List.getElem?_eq_none (by simp; omega)]
  · rw [List.getElem?_set_ne (Ne.symm hi), List.getElem?_map, List.getElem?_map]
    by_cases hn : i < n
    · rw [List.getElem?_range hn]
      show some (g i) = some (g' i)
      rw [h i hi]
    · rw [List.getElem?_eq_none (by simp; omega)]
      rfl
theorem orx {a b : Nat} : orD (dN a) (dN b) = some (dN (a ||| b)) := or_nn
theorem lrel_run {n : Nat} {ps : List (Nat × Nat)} {P : D} {g : Cells} (hn : n < 1000) (hP : P = .lst (ps.map dPair) ∨ P = .tup (ps.map dPair)) (hb : ∀ p ∈ ps, p.1 < n ∧ p.2 < 1000) : F_law_rel_of [dN n, P] g = .ok (dRel (relO n ps)) g := by
  have hi : itemsD P = some (ps.map dPair) := by rcases hP with rfl | rfl <;> rfl
  have e0 : repO (.lst [dN 0]) (dN n) = some (.lst ((List.range n).map fun r => dN (rowO [] r))) := by
    have c : (decide (-(2 ^ 63) ≤ (n : Int)) && decide ((n : Int) < 2 ^ 63) && decide ([dN 0].length * (n : Int).toNat ≤ sizeLine)) = true := by
      rw [sizeLine_eq]
      simp
      omega
    have er : (List.replicate (n : Int).toNat [dN 0]).flatten = (List.range n).map fun r => dN (rowO [] r) := by
      rw [Int.toNat_natCast]
      apply List.ext_getElem?
      intro i
      rw [List.flatten_replicate_singleton, List.getElem?_map, List.getElem?_replicate]
      by_cases hi : i < n
      · rw [if_pos hi, List.getElem?_range hi]
        rfl
      · rw [if_neg hi, List.getElem?_eq_none (by simp; omega)]
        rfl
    simp only [repO, c, if_true, er]
  apply run_sat rfl rfl
  simp only [EV1, EV2, EV3, EV4, EV5, EV6, EV7, EV8, EV9, EV10, EV11, EV12, EV13, EV14, EV15, EV16, EV17, vals, List.replicate, Nat.reduceBEq, Nat.reduceAdd, Nat.reduceLT, Nat.reduceSub, Nat.reduceMul, Nat.reduceLeDiff, Nat.reduceEqDiff, OP1, OP2, h_law_rel_of, e0, hi]
  refine' Sat.stepI (loop_satJ (fun i ρ => i ≤ ps.length ∧ ∃ j3 j4, ρ = ⟨[vN n, some (.val P), some (.own (.lst ((List.range n).map fun r => dN (rowO (ps.take i) r)))), j3, j4], g⟩) ⟨Nat.zero_le _, none, none, rfl⟩ (fun i d ρ hd ⟨_, j3, j4, hρ⟩ => ?_)) (fun o ρ h => ?_)
  · subst hρ
    rw [List.getElem?_map] at hd
    obtain ⟨p, hp, e⟩ := Option.map_eq_some_iff.mp hd
    subst e
    obtain ⟨h1, h2⟩ := hb p (List.mem_of_getElem? hp)
    have ex : ((List.range n).map fun r => dN (rowO (ps.take i) r))[p.1]? = some (dN (rowO (ps.take i) p.1)) := by
      rw [List.getElem?_map, List.getElem?_range h1]
      rfl
    have en : ((List.range n).map fun r => dN (rowO (ps.take i) r)).set p.1 (dN (rowO (ps.take i) p.1 ||| 2 ^ p.2)) = (List.range n).map fun r => dN (rowO (ps.take (i + 1)) r) := by
      have tk : ps.take (i + 1) = ps.take i ++ [p] := by
        rw [List.take_add_one, hp]
        rfl
      have := set_range (n := n) (k := p.1) (g := fun r => dN (rowO (ps.take i) r)) (g' := fun r => dN (rowO (ps.take (i + 1)) r)) (fun r hr => by
        show dN _ = dN _
        rw [tk, rowO_snoc, if_neg (Ne.symm hr)])
      have eq : rowO (ps.take i) p.1 ||| 2 ^ p.2 = rowO (ps.take (i + 1)) p.1 := by
        rw [tk, rowO_snoc, if_pos rfl]
      rw [eq]
      exact this
    simp only [EV1, EV2, EV3, EV4, EV5, EV6, EV7, EV8, EV9, EV10, EV11, EV12, EV13, EV14, EV15, EV16, EV17, vals, List.replicate, Nat.reduceBEq, Nat.reduceAdd, Nat.reduceLT, Nat.reduceSub, Nat.reduceMul, Nat.reduceLeDiff, Nat.reduceEqDiff, OP1, OP2, ex, shl_nn (show p.2 < 1000000 by omega) (show 1 < 10 ^ 18 by decide), Nat.one_mul, setIx_n (show p.1 < ((List.range n).map fun r => dN (rowO (ps.take i) r)).length by simpa using h1), en]
    exact ⟨rfl, (List.getElem?_eq_some_iff.mp hp).1, _, _, rfl⟩
  · obtain ⟨rfl, _, j3, j4, rfl⟩ := h
    rw [List.length_map, List.take_length]
    simp only [EV1, EV2, EV3, EV4, EV5, EV6, EV7, EV8, EV9, EV10, EV11, EV12, EV13, EV14, EV15, EV16, EV17, vals, List.replicate, Nat.reduceBEq, Nat.reduceAdd, Nat.reduceLT, Nat.reduceSub, Nat.reduceMul, Nat.reduceLeDiff, Nat.reduceEqDiff, OP1, OP2]
    refine ⟨?_, rfl⟩
    unfold relO
    rw [dRel, List.map_map]
    rfl
/-! drawn pairs -/
theorem lpairs_run {n top : Nat} {b : Box} {g : Cells} (hn : 0 < n) (hn2 : n < 1000) (ht : top < 1000) : ∃ ps b', F_law_pairs [.ptr 0, dN n, dN top] (b.o :: g) = .ok (dPairs ps) (Box.o b' :: g) ∧ ps.length ≤ top ∧ ∀ p ∈ ps, p.1 < n ∧ p.2 < n := by
  have hd := draw_lt (b := b) (m := top + 1) (by omega)
  have key : Sat (h_law_pairs ⟨[vD (.ptr 0), vN n, vN top, none], b.o :: g⟩) fun o ρ => ∃ ps b', o = .rt (dPairs ps) ∧ ρ.g = Box.o b' :: g ∧ ps.length ≤ top ∧ ∀ p ∈ ps, p.1 < n ∧ p.2 < n := by
    simp only [EV1, EV2, EV3, EV4, EV5, EV6, EV7, EV8, EV9, EV10, EV11, EV12, EV13, EV14, EV15, EV16, EV17, vals, List.replicate, Nat.reduceBEq, Nat.reduceAdd, Nat.reduceLT, Nat.reduceSub, Nat.reduceMul, Nat.reduceLeDiff, Nat.reduceEqDiff, OP1, OP2, h_law_pairs, draw_run (b := b) (g := g) (show 0 < top + 1 by omega) (show top + 1 < 10 ^ 40 by omega), rng1_n (show b.draw (top + 1) < 1000000 by omega)]
    obtain ⟨out, ρ', e, b', ps, h1, h2, h3, h4⟩ := lcL_inv (ds := (List.range (b.draw (top + 1))).map dN) (bnd := bndN 3) (tt := M.ret true) (el := tupM (consM (callM F_law_pull (consM (var 0) (consM (var 1) (M.ret [])))) (consM (callM F_law_pull (consM (var 0) (consM (var 1) (M.ret [])))) (M.ret [])))) (vs := [3]) (ρ := ⟨[vD (.ptr 0), vN n, vN top, none], Box.o (b.nx (top + 1)) :: g⟩)
      (fun i acc ρ => ∃ b' ps, acc = List.map dPair ps ∧ ρ = ⟨[vD (.ptr 0), vN n, vN top, none], Box.o b' :: g⟩ ∧ ps.length = i ∧ ∀ p ∈ ps, p.1 < n ∧ p.2 < n) ⟨_, [], rfl, rfl, rfl, fun p hp => by cases hp⟩ (by simp; omega) (fun i d acc ρ hd' ⟨b', ps, ha, hρ, hl, hb⟩ => by
        subst ha hρ
        refine ⟨some (dPair (b'.draw n, (b'.nx n).draw n)), ⟨[vD (.ptr 0), vN n, vN top, none], Box.o ((b'.nx n).nx n) :: g⟩, ?_, _, ps ++ [(b'.draw n, (b'.nx n).draw n)], ?_, rfl, ?_, ?_⟩
        · simp only [EV1, EV2, EV3, EV4, EV5, EV6, EV7, EV8, EV9, EV10, EV11, EV12, EV13, EV14, EV15, EV16, EV17, vals, List.replicate, Nat.reduceBEq, Nat.reduceAdd, Nat.reduceLT, Nat.reduceSub, Nat.reduceMul, Nat.reduceLeDiff, Nat.reduceEqDiff, OP1, OP2, draw_run (b := b') (g := g) hn (show n < 10 ^ 40 by omega), draw_run (b := b'.nx n) (g := g) hn (show n < 10 ^ 40 by omega)]
          try exact rfl
        · rw [List.map_append]
          rfl
        · rw [List.length_append, hl]
          rfl
        · intro p hp
          rcases List.mem_append.mp hp with hp | hp
          · exact hb p hp
          · rw [List.mem_singleton.mp hp]
            exact ⟨draw_lt hn, draw_lt hn⟩)
    refine' Sat.step e ?_
    subst h1 h2
    simp only [EV1, EV2, EV3, EV4, EV5, EV6, EV7, EV8, EV9, EV10, EV11, EV12, EV13, EV14, EV15, EV16, EV17, vals, List.replicate, Nat.reduceBEq, Nat.reduceAdd, Nat.reduceLT, Nat.reduceSub, Nat.reduceMul, Nat.reduceLeDiff, Nat.reduceEqDiff, OP1, OP2]
    exact ⟨ps, b', rfl, rfl, by rw [h3]; simp; omega, h4⟩
  obtain ⟨o, ρ, e, ps, b', rfl, hg, h⟩ := key.get
  exact ⟨ps, b', run_rt rfl rfl (l' := ρ.l) (by rw [← hg]; exact e), h⟩
end Nc

/-! Data: alike, equal. -/
namespace Nc
open PySem PySem.Spec PyProof.Rows L2
/-- plain data up to a depth; k: with bools -/
def Lkk (k : Bool) : Nat → D → Prop
  | 0, _ => False
  | n + 1, d => (∃ i, d = .int i) ∨ (∃ z, d = .str z ∧ PyData.strOk z = true) ∨ d = .non ∨ (k = true ∧ ∃ b, d = .bl b) ∨ ∃ ds, (d = .lst ds ∨ d = .tup ds) ∧ ds.length < 100000 ∧ ∀ e ∈ ds, Lkk k n e
abbrev Lk := Lkk true
abbrev Lp := Lkk false
section
variable {k : Bool} {n : Nat}
theorem lk_int {i : Int} : Lkk k (n + 1) (.int i) := .inl ⟨i, rfl⟩
theorem lk_str {z : Str} (h : PyData.strOk z = true) : Lkk k (n + 1) (.str z) := .inr (.inl ⟨z, rfl, h⟩)
theorem lk_non : Lkk k (n + 1) .non := .inr (.inr (.inl rfl))
theorem lk_bl {b : Bool} : Lkk true (n + 1) (.bl b) := .inr (.inr (.inr (.inl ⟨rfl, b, rfl⟩)))
theorem lk_lst {ds : List D} (hl : ds.length < 100000) (h : ∀ e ∈ ds, Lkk k n e) : Lkk k (n + 1) (.lst ds) := .inr (.inr (.inr (.inr ⟨ds, .inl rfl, hl, h⟩)))
theorem lk_tup {ds : List D} (hl : ds.length < 100000) (h : ∀ e ∈ ds, Lkk k n e) : Lkk k (n + 1) (.tup ds) := .inr (.inr (.inr (.inr ⟨ds, .inr rfl, hl, h⟩)))
theorem lk_up : ∀ {n m : Nat} {d : D}, Lkk k n d → n ≤ m → Lkk k m d
  | 0, _, _, h, _ => h.elim
  | n + 1, 0, _, _, l => by omega
  | n + 1, m + 1, d, h, l => by
    rcases h with h | h | h | h | ⟨ds, h1, h2, h3⟩
    · exact .inl h
    · exact .inr (.inl h)
    · exact .inr (.inr (.inl h))
    · exact .inr (.inr (.inr (.inl h)))
    · exact .inr (.inr (.inr (.inr ⟨ds, h1, h2, fun e he => lk_up (h3 e he) (by omega)⟩)))
theorem lk_of : ∀ {n : Nat} {d : D}, Lp n d → Lkk k n d
  | 0, _, h => h.elim
  | n + 1, d, h => by
    rcases h with h | h | h | ⟨h, _⟩ | ⟨ds, h1, h2, h3⟩
    · exact .inl h
    · exact .inr (.inl h)
    · exact .inr (.inr (.inl h))
    · cases h
    · exact .inr (.inr (.inr (.inr ⟨ds, h1, h2, fun e he => lk_of (h3 e he)⟩)))
theorem lk_all_nil : ∀ e ∈ ([] : List D), Lkk k n e := fun e h => by cases h
theorem lk_all_cons {d : D} {ds : List D} (h : Lkk k n d) (t : ∀ e ∈ ds, Lkk k n e) : ∀ e ∈ d :: ds, Lkk k n e := fun e he => by
  rcases List.mem_cons.mp he with rfl | he
  · exact h
  · exact t e he
theorem lk_all_map {β : Type} {f : β → D} {xs : List β} (h : ∀ x ∈ xs, Lkk k n (f x)) : ∀ e ∈ xs.map f, Lkk k n e := fun e he => by
  obtain ⟨x, hx, rfl⟩ := List.mem_map.mp he
  exact h x hx
theorem lk_rel {rows : List Nat} (h : rows.length < 100000) : Lkk k (n + 2) (dRel rows) := lk_tup (by simpa using h) (lk_all_map fun _ _ => lk_int)
theorem lk_pair {p : Nat × Nat} : Lkk k (n + 2) (dPair p) := lk_tup (by simp) (lk_all_cons lk_int (lk_all_cons lk_int lk_all_nil))
theorem lk_pairs {ps : List (Nat × Nat)} (h : ps.length < 100000) : Lkk k (n + 3) (dPairs ps) := lk_lst (by simpa using h) (lk_all_map fun _ _ => lk_pair)
end
/-! == -/
theorem eqv_all {ps : List PyData} (h : ∀ p ∈ ps, PyData.eqv p p = true) : PyData.eqvAll ps ps = true := by
  induction ps with
  | nil => simp [PyData.eqvAll]
  | cons p ps ih =>
    simp only [PyData.eqvAll, h p List.mem_cons_self, ih fun q hq => h q (List.mem_cons_of_mem _ hq), Bool.and_self]
theorem py_lk {k : Bool} : ∀ {n : Nat} {d : D}, Lkk k n d → ∃ x, d.py = some x ∧ x.canLay0 = true ∧ x.depth ≤ n ∧ PyData.eqv x x = true
  | 0, d, h => h.elim
  | n + 1, d, h => by
    rcases h with ⟨i, rfl⟩ | ⟨z, rfl, hz⟩ | rfl | ⟨_, b, rfl⟩ | ⟨ds, hd, hl, he⟩
    · exact ⟨.int i, by simp only [D.py], by simp [PyData.canLay0], by simp [PyData.depth], by simp [PyData.eqv]⟩
    · exact ⟨.str z, by simp only [D.py], by simp [PyData.canLay0, hz], by simp [PyData.depth], by simp [PyData.eqv]⟩
    · exact ⟨.none, by simp only [D.py], by simp [PyData.canLay0], by simp [PyData.depth], by simp [PyData.eqv]⟩
    · exact ⟨.bool b, by simp only [D.py], by simp [PyData.canLay0], by simp [PyData.depth], by simp [PyData.eqv]⟩
    · have key : ∀ ds : List D, (∀ e ∈ ds, Lkk k n e) → ∃ xs, D.pys ds = some xs ∧ PyData.canLayAll0 xs = true ∧ PyData.depthAll xs ≤ n ∧ ∀ x ∈ xs, PyData.eqv x x = true := by
        intro ds
        induction ds with
        | nil => exact fun _ => ⟨[], by simp only [D.pys], by simp [PyData.canLayAll0], by simp [PyData.depthAll], fun x h => by cases h⟩
        | cons d ds ih =>
          intro he
          obtain ⟨x, h1, h2, h3, h4⟩ := py_lk (he d List.mem_cons_self)
          obtain ⟨xs, g1, g2, g3, g4⟩ := ih fun e h => he e (List.mem_cons_of_mem _ h)
          refine ⟨x :: xs, by simp only [D.pys, h1, g1], by simp [PyData.canLayAll0, h2, g2], by simp [PyData.depthAll]; omega, fun y hy => ?_⟩
          rcases List.mem_cons.mp hy with rfl | hy
          · exact h4
          · exact g4 y hy
      obtain ⟨xs, g1, g2, g3, g4⟩ := key ds he
      rcases hd with rfl | rfl
      · exact ⟨.list xs, by simp only [D.py, g1, Option.map_some], by simp [PyData.canLay0, g2], by simp [PyData.depth]; omega, by simp only [PyData.eqv]; exact eqv_all g4⟩
      · exact ⟨.tuple xs, by simp only [D.py, g1, Option.map_some], by simp [PyData.canLay0, g2], by simp [PyData.depth]; omega, by simp only [PyData.eqv]; exact eqv_all g4⟩
theorem shaped_of {n : Nat} {x : PyData} (h2 : x.canLay0 = true) (h3 : x.depth ≤ n) (hn : n ≤ 60) : SeqAt.shaped x = true := by
  unfold SeqAt.shaped
  rw [Bool.and_eq_true, decide_eq_true_eq]
  exact ⟨h2, by omega⟩
theorem eqB_refl {k : Bool} {n : Nat} {d : D} (h : Lkk k n d) (hn : n ≤ 60) : eqB d d = some true := by
  obtain ⟨x, h1, h2, h3, h4⟩ := py_lk h
  have hs := shaped_of h2 h3 hn
  have h0 : eqS d d = none ∨ eqS d d = some true := by
    cases d <;> simp [eqS]
  unfold eqB
  rcases h0 with h0 | h0
  · simp only [h0, h1, hs, h4, Bool.and_self, if_true]
  · simp only [h0]
theorem eqD_refl {k : Bool} {n : Nat} {d : D} (h : Lkk k n d) (hn : n ≤ 60) : eqD d d = some (.bl true) := by
  unfold eqD
  rw [eqB_refl h hn]
  rfl
theorem neD_refl {k : Bool} {n : Nat} {d : D} (h : Lkk k n d) (hn : n ≤ 60) : neD d d = some (.bl false) := by
  unfold neD
  rw [eqB_refl h hn]
  rfl
theorem eqv_eq : ∀ {n : Nat} {d e : D} {m : Nat} {x y : PyData}, Lp n d → Lp m e → d.py = some x → e.py = some y → PyData.eqv x y = true → d = e
  | 0, _, _, _, _, _, h, _, _, _, _ => h.elim
  | n + 1, d, e, 0, _, _, _, h, _, _, _ => h.elim
  | n + 1, d, e, m + 1, x, y, h, h', e1, e2, q => by
    have key : ∀ (ds es : List D) (xs ys : List PyData), (∀ z ∈ ds, Lp n z) → (∀ z ∈ es, Lp m z) → D.pys ds = some xs → D.pys es = some ys → PyData.eqvAll xs ys = true → ds = es := by
      intro ds
      induction ds with
      | nil =>
        intro es xs ys _ h2 f1 f2 q
        simp only [D.pys] at f1
        cases f1
        cases es with
        | nil => rfl
        | cons z es =>
          simp only [D.pys] at f2
          split at f2
          · cases f2
            simp [PyData.eqvAll] at q
          · cases f2
      | cons d ds ih =>
        intro es xs ys h1 h2 f1 f2 q
        simp only [D.pys] at f1
        split at f1
        · rename_i a as a1 a2
          cases f1
          cases es with
          | nil =>
            simp only [D.pys] at f2
            cases f2
            simp [PyData.eqvAll] at q
          | cons z es =>
            simp only [D.pys] at f2
            split at f2
            · rename_i b bs b1 b2
              cases f2
              simp only [PyData.eqvAll, Bool.and_eq_true] at q
              rw [eqv_eq (h1 d List.mem_cons_self) (h2 z List.mem_cons_self) a1 b1 q.1, ih es as bs (fun w hw => h1 w (List.mem_cons_of_mem _ hw)) (fun w hw => h2 w (List.mem_cons_of_mem _ hw)) a2 b2 q.2]
            · cases f2
        · cases f1
    rcases h with ⟨i, rfl⟩ | ⟨z, rfl, hz⟩ | rfl | ⟨hb, _⟩ | ⟨ds, hd, hl, he⟩
    · simp only [D.py] at e1
      cases e1
      rcases h' with ⟨j, rfl⟩ | ⟨z', rfl, hz'⟩ | rfl | ⟨hb, _⟩ | ⟨es, rfl | rfl, _, _⟩
      · simp only [D.py] at e2
        cases e2
        simp [PyData.eqv] at q
        rw [q]
      · simp only [D.py] at e2
        cases e2
        simp [PyData.eqv] at q
      · simp only [D.py] at e2
        cases e2
        simp [PyData.eqv] at q
      · cases hb
      · simp only [D.py] at e2
        obtain ⟨_, _, e2⟩ := Option.map_eq_some_iff.mp e2
        subst e2
        simp [PyData.eqv] at q
      · simp only [D.py] at e2
        obtain ⟨_, _, e2⟩ := Option.map_eq_some_iff.mp e2
        subst e2
        simp [PyData.eqv] at q
    · simp only [D.py] at e1
      cases e1
      rcases h' with ⟨j, rfl⟩ | ⟨z', rfl, hz'⟩ | rfl | ⟨hb, _⟩ | ⟨es, rfl | rfl, _, _⟩
      · simp only [D.py] at e2
        cases e2
        simp [PyData.eqv] at q
      · simp only [D.py] at e2
        cases e2
        simp [PyData.eqv] at q
        rw [q]
      · simp only [D.py] at e2
        cases e2
        simp [PyData.eqv] at q
      · cases hb
      · simp only [D.py] at e2
        obtain ⟨_, _, e2⟩ := Option.map_eq_some_iff.mp e2
        subst e2
        simp [PyData.eqv] at q
      · simp only [D.py] at e2
        obtain ⟨_, _, e2⟩ := Option.map_eq_some_iff.mp e2
        subst e2
        simp [PyData.eqv] at q
    · simp only [D.py] at e1
      cases e1
      rcases h' with ⟨j, rfl⟩ | ⟨z', rfl, hz'⟩ | rfl | ⟨hb, _⟩ | ⟨es, rfl | rfl, _, _⟩
      · simp only [D.py] at e2
        cases e2
        simp [PyData.eqv] at q
      · simp only [D.py] at e2
        cases e2
        simp [PyData.eqv] at q
      · rfl
      · cases hb
      · simp only [D.py] at e2
        obtain ⟨_, _, e2⟩ := Option.map_eq_some_iff.mp e2
        subst e2
        simp [PyData.eqv] at q
      · simp only [D.py] at e2
        obtain ⟨_, _, e2⟩ := Option.map_eq_some_iff.mp e2
        subst e2
        simp [PyData.eqv] at q
    · cases hb
    · rcases hd with rfl | rfl
      · simp only [D.py] at e1
        obtain ⟨xs, a1, a2⟩ := Option.map_eq_some_iff.mp e1
        subst a2
        rcases h' with ⟨j, rfl⟩ | ⟨z', rfl, hz'⟩ | rfl | ⟨hb, _⟩ | ⟨es, rfl | rfl, _, he'⟩
        · simp only [D.py] at e2
          cases e2
          simp [PyData.eqv] at q
        · simp only [D.py] at e2
          cases e2
          simp [PyData.eqv] at q
        · simp only [D.py] at e2
          cases e2
          simp [PyData.eqv] at q
        · cases hb
        · simp only [D.py] at e2
          obtain ⟨ys, b1, b2⟩ := Option.map_eq_some_iff.mp e2
          subst b2
          simp only [PyData.eqv] at q
          rw [key ds es xs ys he he' a1 b1 q]
        · simp only [D.py] at e2
          obtain ⟨_, _, e2⟩ := Option.map_eq_some_iff.mp e2
          subst e2
          simp [PyData.eqv] at q
      · simp only [D.py] at e1
        obtain ⟨xs, a1, a2⟩ := Option.map_eq_some_iff.mp e1
        subst a2
        rcases h' with ⟨j, rfl⟩ | ⟨z', rfl, hz'⟩ | rfl | ⟨hb, _⟩ | ⟨es, rfl | rfl, _, he'⟩
        · simp only [D.py] at e2
          cases e2
          simp [PyData.eqv] at q
        · simp only [D.py] at e2
          cases e2
          simp [PyData.eqv] at q
        · simp only [D.py] at e2
          cases e2
          simp [PyData.eqv] at q
        · cases hb
        · simp only [D.py] at e2
          obtain ⟨_, _, e2⟩ := Option.map_eq_some_iff.mp e2
          subst e2
          simp [PyData.eqv] at q
        · simp only [D.py] at e2
          obtain ⟨ys, b1, b2⟩ := Option.map_eq_some_iff.mp e2
          subst b2
          simp only [PyData.eqv] at q
          rw [key ds es xs ys he he' a1 b1 q]
theorem eqB_ne {n m : Nat} {d e : D} (h : Lp n d) (h' : Lp m e) (hn : n ≤ 60) (hm : m ≤ 60) (q : d ≠ e) : eqB d e = some false := by
  obtain ⟨x, h1, h2, h3, h4⟩ := py_lk h
  obtain ⟨y, g1, g2, g3, g4⟩ := py_lk h'
  have hs := shaped_of h2 h3 hn
  have gs := shaped_of g2 g3 hm
  have hv : PyData.eqv x y = false := by
    cases z : PyData.eqv x y with
    | false => rfl
    | true => exact absurd (eqv_eq h h' h1 g1 z) q
  have h0 : eqS d e = none ∨ eqS d e = some false := by
    cases d <;> cases e <;> simp_all [eqS]
  unfold eqB
  rcases h0 with h0 | h0
  · simp only [h0, h1, g1, hs, gs, hv, Bool.and_self, if_true]
  · simp only [h0]
theorem eqD_ne {n m : Nat} {d e : D} (h : Lp n d) (h' : Lp m e) (hn : n ≤ 60) (hm : m ≤ 60) (q : d ≠ e) : eqD d e = some (.bl false) := by
  unfold eqD
  rw [eqB_ne h h' hn hm q]
  rfl
theorem neD_ne {n m : Nat} {d e : D} (h : Lp n d) (h' : Lp m e) (hn : n ≤ 60) (hm : m ≤ 60) (q : d ≠ e) : neD d e = some (.bl true) := by
  unfold neD
  rw [eqB_ne h h' hn hm q]
  rfl
/-! _law_like -/
theorem kb_il : kitB "int" "list" = some false := by decide +kernel
theorem kb_it : kitB "int" "tuple" = some false := by decide +kernel
theorem kb_ib : kitB "int" "bool" = some false := by decide +kernel
theorem kb_sl : kitB "str" "list" = some false := by decide +kernel
theorem kb_st : kitB "str" "tuple" = some false := by decide +kernel
theorem kb_sb : kitB "str" "bool" = some false := by decide +kernel
theorem kb_nl : kitB "NoneType" "list" = some false := by decide +kernel
theorem kb_nt : kitB "NoneType" "tuple" = some false := by decide +kernel
theorem kb_nb : kitB "NoneType" "bool" = some false := by decide +kernel
theorem kb_bl : kitB "bool" "list" = some false := by decide +kernel
theorem kb_bt : kitB "bool" "tuple" = some false := by decide +kernel
theorem kb_bb : kitB "bool" "bool" = some true := by decide +kernel
theorem kb_ll : kitB "list" "list" = some true := by decide +kernel
theorem kb_lt : kitB "list" "tuple" = some false := by decide +kernel
theorem kb_tl : kitB "tuple" "list" = some false := by decide +kernel
theorem kb_tt : kitB "tuple" "tuple" = some true := by decide +kernel
theorem neD_bl (a b : Bool) : neD (.bl a) (.bl b) = some (.bl (!decide (a = b))) := rfl
theorem eqD_bl (a b : Bool) : eqD (.bl a) (.bl b) = some (.bl (decide (a = b))) := rfl
theorem bls_true {β : Type} (xs : List β) : allD (.lst (xs.map fun _ => D.bl true)) = some (.bl true) := by
  have key : ∀ xs : List β, D.bls (xs.map fun _ => D.bl true) = some (xs.map fun _ => true) := by
    intro xs
    induction xs with
    | nil => rfl
    | cons x xs ih =>
      rw [List.map_cons, List.map_cons]
      simp only [D.bls, ih, Option.map_some]
  simp only [allD, key, Option.map_some]
  congr 2
  simp
theorem isi2_some {T U t : String} {d : D} {a b : Bool} (h : tyD d = some t) (h1 : kitB t T = some a) (h2 : kitB t U = some b) : isiD2 T U d = some (.bl (a || b)) := by
  simp only [isiD2, h, Option.bind_some, h1, h2, Option.map_some]
theorem isi_some {T t : String} {d : D} {a : Bool} (h : tyD d = some t) (h1 : kitB t T = some a) : isiD T d = some (.bl a) := by
  simp only [isiD, h, Option.bind_some, h1, Option.map_some]
theorem lookG_lk {k : Bool} : ∀ {n : Nat} {d : D} {g : Cells}, Lkk k n d → lookG g d = some d
  | 0, _, _, h => h.elim
  | n + 1, d, g, h => by
    rcases h with ⟨i, rfl⟩ | ⟨z, rfl, hz⟩ | rfl | ⟨_, b, rfl⟩ | ⟨ds, rfl | rfl, hl, he⟩ <;> rfl
theorem like_run {g : Cells} : ∀ {n : Nat} {d : D}, Lk n d → n ≤ 60 → Fn_law_like n [d, d] g = .ok (.bl true) g
  | 0, d, h, _ => h.elim
  | n + 1, d, h, hn => by
    have hD := lookG_lk (g := g) h
    have hq := eqD_refl h (by omega)
    have fin : ∀ (t : String) (b : Bool), tyD d = some t → kitB t "list" = some false → kitB t "tuple" = some false → kitB t "bool" = some b → Fn_law_like (n + 1) [d, d] g = .ok (.bl true) g := by
      intro t b f1 f2 f3 f4
      have e1 := isi2_some f1 f2 f3
      have e2 := isi_some f1 f4
      show runB 3 2 (h_law_like (Fn_law_like n)) _ _ = _
      apply run_sat rfl rfl
      simp only [EV1, EV2, EV3, EV4, EV5, EV6, EV7, EV8, EV9, EV10, EV11, EV12, EV13, EV14, EV15, EV16, EV17, vals, List.replicate, Nat.reduceBEq, Nat.reduceAdd, Nat.reduceLT, Nat.reduceSub, Nat.reduceMul, Nat.reduceLeDiff, Nat.reduceEqDiff, OP1, OP2, h_law_like, hD, e1, e2, Bool.or_self, neD_bl, hq, decide_true, decide_eq_true (rfl : b = b)]
      exact ⟨rfl, rfl⟩
    rcases h with ⟨i, rfl⟩ | ⟨z, rfl, hz⟩ | rfl | ⟨_, b, rfl⟩ | ⟨ds, hd, hl, he⟩
    · exact fin _ _ rfl kb_il kb_it kb_ib
    · exact fin _ _ rfl kb_sl kb_st kb_sb
    · exact fin _ _ rfl kb_nl kb_nt kb_nb
    · exact fin _ _ rfl kb_bl kb_bt kb_bb
    · have main : ∀ (t : String) (b1 b2 : Bool), tyD d = some t → kitB t "list" = some b1 → kitB t "tuple" = some b2 → (b1 || b2) = true → lenD d = some (dN ds.length) → (∀ i, ixD d (dN i) = ds[i]?) → Fn_law_like (n + 1) [d, d] g = .ok (.bl true) g := by
        intro t b1 b2 f1 f2 f3 f4 f5 f6
        have e1 := isi2_some f1 f2 f3
        rw [f4] at e1
        have e2 := isi_some f1 f2
        have e3 := isi_some f1 f3
        show runB 3 2 (h_law_like (Fn_law_like n)) _ _ = _
        apply run_sat rfl rfl
        simp only [EV1, EV2, EV3, EV4, EV5, EV6, EV7, EV8, EV9, EV10, EV11, EV12, EV13, EV14, EV15, EV16, EV17, vals, List.replicate, Nat.reduceBEq, Nat.reduceAdd, Nat.reduceLT, Nat.reduceSub, Nat.reduceMul, Nat.reduceLeDiff, Nat.reduceEqDiff, OP1, OP2, h_law_like, hD, e1, e2, e3, neD_bl, decide_eq_true (rfl : b1 = b1), decide_eq_true (rfl : b2 = b2), f5, decide_eq_true (rfl : ds.length = ds.length), rng1_n (show ds.length < 1000000 by omega)]
        refine' Sat.step (lcL_mapS (r := fun _ => .bl true) (fun i hi => ?_) (by simpa using hl)) ?_
        · have hi := List.mem_range.mp hi
          have hy := List.getElem_mem hi
          have hL := like_run (g := g) (he _ hy) (by omega)
          simp only [EV1, EV2, EV3, EV4, EV5, EV6, EV7, EV8, EV9, EV10, EV11, EV12, EV13, EV14, EV15, EV16, EV17, vals, List.replicate, Nat.reduceBEq, Nat.reduceAdd, Nat.reduceLT, Nat.reduceSub, Nat.reduceMul, Nat.reduceLeDiff, Nat.reduceEqDiff, OP1, OP2, hD, f6, List.getElem?_eq_getElem hi, hL]
          try exact rfl
        · simp only [EV1, EV2, EV3, EV4, EV5, EV6, EV7, EV8, EV9, EV10, EV11, EV12, EV13, EV14, EV15, EV16, EV17, vals, List.replicate, Nat.reduceBEq, Nat.reduceAdd, Nat.reduceLT, Nat.reduceSub, Nat.reduceMul, Nat.reduceLeDiff, Nat.reduceEqDiff, OP1, OP2, bls_true]
          exact ⟨rfl, rfl⟩
      rcases hd with rfl | rfl
      · exact main _ _ _ rfl kb_ll kb_lt rfl rfl fun i => ixl_n
      · exact main _ _ _ rfl kb_tl kb_tt rfl rfl fun i => ixt_n
end Nc

/-! Relations: composed, turned; bit by bit. -/
namespace Nc
open PySem PySem.Spec PyProof.Rows L2
structure IsRel (n : Nat) (r : List Nat) : Prop where
  len : r.length = n
  lt : ∀ x ∈ r, x < 2 ^ n
def rb (r : List Nat) (i j : Nat) : Bool := (rowAt r i).testBit j
theorem rowAt_lt {n : Nat} {r : List Nat} (h : IsRel n r) (i : Nat) : rowAt r i < 2 ^ n := by
  unfold rowAt
  cases e : r[i]? with
  | none => exact Nat.two_pow_pos n
  | some x => exact h.lt x (List.mem_of_getElem? e)
theorem rb_lt {n : Nat} {r : List Nat} (h : IsRel n r) {i j : Nat} (hb : rb r i j = true) : i < n ∧ j < n := by
  constructor
  · refine Classical.byContradiction fun c => ?_
    unfold rb rowAt at hb
    rw [List.getElem?_eq_none (by rw [h.len]; omega)] at hb
    simp at hb
  · refine Classical.byContradiction fun c => ?_
    have := Nat.testBit_lt_two_pow (Nat.lt_of_lt_of_le (rowAt_lt h i) (Nat.pow_le_pow_right (by decide) (Nat.le_of_not_lt c)))
    unfold rb at hb
    rw [this] at hb
    cases hb
theorem rel_ext {n : Nat} {a b : List Nat} (ha : a.length = n) (hb : b.length = n) (h : ∀ i j, i < n → rb a i j = rb b i j) : a = b := by
  apply List.ext_getElem?
  intro i
  by_cases hi : i < n
  · have e : rowAt a i = rowAt b i := Nat.eq_of_testBit_eq fun j => h i j hi
    unfold rowAt at e
    rw [List.getElem?_eq_getElem (by omega), List.getElem?_eq_getElem (by omega)] at e ⊢
    simpa using e
  · rw [List.getElem?_eq_none (by omega), List.getElem?_eq_none (by omega)]
theorem orAll_bit (rel : List Nat) (j : Nat) : ∀ (ss : List Nat) (a : Nat), (ss.foldl (fun a s => a ||| rowAt rel s) a).testBit j = (a.testBit j || ss.any fun s => (rowAt rel s).testBit j)
  | [], a => by simp
  | s :: ss, a => by
    rw [List.foldl_cons, orAll_bit rel j ss, Nat.testBit_or, List.any_cons, Bool.or_assoc]
theorem imgN_bit (rel : List Nat) (row j : Nat) : (imgN rel row).testBit j = true ↔ ∃ s, s < rel.length ∧ row.testBit s = true ∧ rb rel s j = true := by
  unfold imgN
  rw [orAll_bit, Nat.zero_testBit, Bool.false_or, List.any_eq_true]
  constructor
  · rintro ⟨s, hs, h⟩
    obtain ⟨h1, h2⟩ := List.mem_filter.mp hs
    exact ⟨s, List.mem_range.mp h1, h2, h⟩
  · rintro ⟨s, h1, h2, h3⟩
    exact ⟨s, List.mem_filter.mpr ⟨List.mem_range.mpr h1, h2⟩, h3⟩
theorem chain_at {a b : List Nat} {i : Nat} (h : i < a.length) : rowAt (chainN a b) i = imgN b (rowAt a i) := by
  unfold chainN rowAt
  rw [List.getElem?_map, List.getElem?_eq_getElem h]
  rfl
theorem chain_bit {a b : List Nat} {i j : Nat} (h : i < a.length) : rb (chainN a b) i j = true ↔ ∃ s, s < b.length ∧ rb a i s = true ∧ rb b s j = true := by
  unfold rb
  rw [chain_at h, imgN_bit]
  rfl
theorem chain_rel {n : Nat} {a b : List Nat} (ha : IsRel n a) (hb : IsRel n b) : IsRel n (chainN a b) := by
  refine ⟨by rw [chain_len, ha.len], fun x hx => ?_⟩
  obtain ⟨row, _, rfl⟩ := List.mem_map.mp hx
  refine Nat.lt_pow_two_of_testBit _ fun j hj => ?_
  cases e : (imgN b row).testBit j with
  | false => rfl
  | true =>
    obtain ⟨s, _, _, h3⟩ := (imgN_bit b row j).mp e
    have := (rb_lt hb h3).2
    omega
theorem beq_iff {a b : Bool} (h : a = true ↔ b = true) : a = b := by cases a <;> cases b <;> simp_all
theorem chain_assoc {n : Nat} {a b c : List Nat} (ha : a.length = n) (hb : b.length = n) (hc : c.length = n) : chainN (chainN a b) c = chainN a (chainN b c) := by
  refine rel_ext (n := n) (by rw [chain_len, chain_len, ha]) (by rw [chain_len, ha]) fun i j hi => beq_iff ?_
  rw [chain_bit (by rw [chain_len]; omega), chain_bit (by omega)]
  constructor
  · rintro ⟨s, h1, h2, h3⟩
    obtain ⟨t, h4, h5, h6⟩ := (chain_bit (by omega)).mp h2
    exact ⟨t, by rw [chain_len]; exact h4, h5, (chain_bit h4).mpr ⟨s, h1, h6, h3⟩⟩
  · rintro ⟨t, h1, h2, h3⟩
    rw [chain_len] at h1
    obtain ⟨s, h4, h5, h6⟩ := (chain_bit h1).mp h3
    exact ⟨s, h4, (chain_bit (by omega)).mpr ⟨t, h1, h2, h5⟩, h6⟩
def idN (n : Nat) : List Nat := (List.range n).map (2 ^ ·)
theorem id_len {n : Nat} : (idN n).length = n := by simp [idN]
theorem id_bit {n i j : Nat} (hi : i < n) : rb (idN n) i j = decide (i = j) := by
  unfold rb idN
  rw [rowAt_rel hi, Nat.testBit_two_pow]
theorem id_rel {n : Nat} : IsRel n (idN n) := ⟨id_len, fun x hx => by
  obtain ⟨k, hk, rfl⟩ := List.mem_map.mp hx
  exact Nat.pow_lt_pow_right (by decide) (List.mem_range.mp hk)⟩
theorem id_chain {n : Nat} {a : List Nat} (ha : a.length = n) : chainN (idN n) a = a := by
  refine rel_ext (n := n) (by rw [chain_len, id_len]) ha fun i j hi => beq_iff ?_
  rw [chain_bit (by rw [id_len]; exact hi)]
  constructor
  · rintro ⟨s, h1, h2, h3⟩
    rw [id_bit hi, decide_eq_true_eq] at h2
    subst h2
    exact h3
  · intro h
    exact ⟨i, by omega, by rw [id_bit hi, decide_eq_true_eq], h⟩
theorem chain_id {n : Nat} {a : List Nat} (ha : IsRel n a) : chainN a (idN n) = a := by
  refine rel_ext (n := n) (by rw [chain_len, ha.len]) ha.len fun i j hi => beq_iff ?_
  rw [chain_bit (by rw [ha.len]; exact hi)]
  constructor
  · rintro ⟨s, h1, h2, h3⟩
    rw [id_len] at h1
    rw [id_bit h1, decide_eq_true_eq] at h3
    subst h3
    exact h2
  · intro h
    have := (rb_lt ha h).2
    exact ⟨j, by rw [id_len]; exact this, h, by rw [id_bit this, decide_eq_true_eq]⟩
/-- turned around -/
def turnN (r : List Nat) : List Nat := relS r.length ((pairsOf r).map swp)
theorem relS_len (n : Nat) (ps : List (Nat × Nat)) : (relS n ps).length = n := by
  unfold relS
  rw [List.length_map, List.length_range]
theorem relO_len (n : Nat) (ps : List (Nat × Nat)) : (relO n ps).length = n := by
  unfold relO
  rw [List.length_map, List.length_range]
theorem relO_rel {n : Nat} {ps : List (Nat × Nat)} (h : ∀ p ∈ ps, p.1 < n ∧ p.2 < n) : IsRel n (relO n ps) := by
  refine ⟨relO_len n ps, fun x hx => ?_⟩
  obtain ⟨i, hi, rfl⟩ := List.mem_map.mp hx
  refine Nat.lt_pow_two_of_testBit _ fun j hj => ?_
  rw [rowO_bit, decide_eq_false_iff_not]
  intro hm
  have := (h _ hm).2
  omega
theorem turn_len (r : List Nat) : (turnN r).length = r.length := relS_len _ _
theorem turn_bit {r : List Nat} {i j : Nat} (hi : i < r.length) : rb (turnN r) i j = true ↔ j < r.length ∧ rb r j i = true := by
  unfold rb turnN relS
  rw [rowAt_rel hi, rowS_bit, decide_eq_true_eq]
  constructor
  · intro h
    obtain ⟨⟨a, b⟩, hp, e⟩ := List.mem_map.mp h
    cases e
    obtain ⟨h1, h2, h3⟩ := mem_pairsOf.mp hp
    exact ⟨h1, h3⟩
  · rintro ⟨h1, h2⟩
    exact List.mem_map.mpr ⟨(j, i), mem_pairsOf.mpr ⟨h1, hi, h2⟩, rfl⟩
theorem turn_chain {n : Nat} {a b : List Nat} (ha : a.length = n) (hb : b.length = n) : turnN (chainN a b) = chainN (turnN b) (turnN a) := by
  refine rel_ext (n := n) (by rw [turn_len, chain_len, ha]) (by rw [chain_len, turn_len, hb]) fun i j hi => beq_iff ?_
  have l1 : (chainN a b).length = n := by rw [chain_len, ha]
  constructor
  · intro h
    obtain ⟨h1, h2⟩ := (turn_bit (by omega)).mp h
    obtain ⟨s, h3, h4, h5⟩ := (chain_bit (by omega)).mp h2
    exact (chain_bit (by rw [turn_len]; omega)).mpr ⟨s, by rw [turn_len]; omega, (turn_bit (by omega)).mpr ⟨h3, h5⟩, (turn_bit (by omega)).mpr ⟨by omega, h4⟩⟩
  · intro h
    obtain ⟨s, h1, h2, h3⟩ := (chain_bit (by rw [turn_len]; omega)).mp h
    rw [turn_len] at h1
    obtain ⟨h4, h5⟩ := (turn_bit (by omega)).mp h2
    obtain ⟨h6, h7⟩ := (turn_bit (by omega)).mp h3
    exact (turn_bit (by omega)).mpr ⟨by omega, (chain_bit h6).mpr ⟨s, h4, h7, h5⟩⟩
/-! composed, common of few -/
section
variable {a b c d e : List Nat} {g : Cells} {n : Nat}
theorem comp1 (ha : a.length < 1000) : F_composed [dRel a] g = .ok (dRel a) g := composed_run (rs := []) ha (fun x h => by cases h) (by decide)
theorem comp2 (ha : a.length < 1000) (hb : b.length < 1000) : F_composed [dRel a, dRel b] g = .ok (dRel (chainN a b)) g := composed_run (rs := [b]) ha (by simpa using hb) (by simp)
theorem comp3 (ha : a.length < 1000) (hb : b.length < 1000) (hc : c.length < 1000) : F_composed [dRel a, dRel b, dRel c] g = .ok (dRel (chainN (chainN a b) c)) g := composed_run (rs := [b, c]) ha (by simpa using ⟨hb, hc⟩) (by simp)
theorem comp5 (ha : a.length < 1000) (hb : b.length < 1000) (hc : c.length < 1000) (hd : d.length < 1000) (he : e.length < 1000) : F_composed [dRel a, dRel b, dRel c, dRel d, dRel e] g = .ok (dRel (chainN (chainN (chainN (chainN a b) c) d) e)) g := composed_run (rs := [b, c, d, e]) ha (by simpa using ⟨hb, hc, hd, he⟩) (by simp)
theorem comm1 (hn : n < 1000) (ha : a.length = n) : F_common [dRel a] g = .ok (dRel a) g := common_run (rs := []) hn ha (fun x h => by cases h) (by decide)
theorem comm2 (hn : n < 1000) (ha : a.length = n) (hb : b.length = n) : F_common [dRel a, dRel b] g = .ok (dRel (andN a b)) g := common_run (rs := [b]) hn ha (by simpa using hb) (by simp)
theorem comm3 (hn : n < 1000) (ha : a.length = n) (hb : b.length = n) (hc : c.length = n) : F_common [dRel a, dRel b, dRel c] g = .ok (dRel (andN (andN a b) c)) g := common_run (rs := [b, c]) hn ha (by simpa using ⟨hb, hc⟩) (by simp)
end
theorem and_eq {n : Nat} {a b : List Nat} (ha : a.length = n) (hb : b.length = n) : andN a b = (List.range n).map fun i => rowAt a i &&& rowAt b i := by
  unfold andN rowAt
  apply List.ext_getElem
  · simp [ha, hb]
  · intro i h1 h2
    simp [ha, hb] at h1
    rw [List.getElem_map, List.getElem_map, List.getElem_zip, List.getElem_range, List.getElem?_eq_getElem (by omega), List.getElem?_eq_getElem (by omega)]
    rfl
theorem ne_nilN {xs : List Nat} (h : xs.length < 100000) : neD (.lst (xs.map dN)) (.lst []) = some (.bl (!xs.isEmpty)) := by
  have h1 : Lp 3 (.lst (xs.map dN)) := lk_lst (by simpa using h) (lk_all_map fun _ _ => lk_int)
  cases xs with
  | nil => exact neD_refl h1 (by decide)
  | cons x xs => exact neD_ne h1 (lk_lst (n := 2) (by decide) lk_all_nil) (by decide) (by decide) (fun z => by simp at z)
theorem ne_rel {a : List Nat} (h : a.length < 100000) : neD (dRel a) (dRel a) = some (.bl false) := neD_refl (k := false) (n := 2) (lk_rel h) (by decide)
theorem eq_rel {a : List Nat} (h : a.length < 100000) : eqD (dRel a) (dRel a) = some (.bl true) := eqD_refl (k := false) (n := 2) (lk_rel h) (by decide)
theorem between_any {n : Nat} {a b : List Nat} {s t : Nat} (ha : a.length = n) (hb : b.length = n) (hs : s < n) : rb (chainN a b) s t = !((List.range n).filter fun m => rb a s m && rb b m t).isEmpty := by
  apply beq_iff
  rw [chain_bit (by omega)]
  constructor
  · rintro ⟨m, h1, h2, h3⟩
    have : m ∈ (List.range n).filter fun m => rb a s m && rb b m t := List.mem_filter.mpr ⟨List.mem_range.mpr (by omega), by rw [h2, h3]; rfl⟩
    cases e : (List.range n).filter fun m => rb a s m && rb b m t with
    | nil =>
      rw [e] at this
      cases this
    | cons x xs => rfl
  · intro h
    cases e : (List.range n).filter fun m => rb a s m && rb b m t with
    | nil =>
      rw [e] at h
      simp at h
    | cons x xs =>
      have : x ∈ (List.range n).filter fun m => rb a s m && rb b m t := by
        rw [e]
        exact List.mem_cons_self
      obtain ⟨h1, h2⟩ := List.mem_filter.mp this
      rw [Bool.and_eq_true] at h2
      have := List.mem_range.mp h1
      exact ⟨x, by omega, h2.1, h2.2⟩
theorem and_map {n : Nat} {a b : List Nat} (ha : a.length = n) (hb : b.length = n) : ((List.range n).map fun i => dN (rowAt a i &&& rowAt b i)) = (andN a b).map dN := by
  rw [and_eq ha hb, List.map_map]
  rfl
theorem and_comm3 {n : Nat} {a b c : List Nat} (ha : a.length = n) (hb : b.length = n) (hc : c.length = n) : andN (andN c b) a = andN (andN a b) c := by
  rw [and_eq (and_len hc hb) ha, and_eq (and_len ha hb) hc]
  refine List.map_congr_left fun i hi => ?_
  have hi := List.mem_range.mp hi
  have e : ∀ {x y : List Nat}, x.length = n → y.length = n → rowAt (andN x y) i = rowAt x i &&& rowAt y i := fun {x y} hx hy => by
    rw [and_eq hx hy, rowAt_rel hi]
  rw [e hc hb, e ha hb]
  apply Nat.eq_of_testBit_eq
  intro j
  simp only [Nat.testBit_and]
  cases (rowAt a i).testBit j <;> cases (rowAt b i).testBit j <;> cases (rowAt c i).testBit j <;> rfl
/-- a drawn relation -/
theorem drawn_rel {n top : Nat} {b : Box} {g : Cells} (hn : 0 < n) (hn2 : n < 1000) (ht : top < 1000) : ∃ P r b', F_law_pairs [.ptr 0, dN n, dN top] (b.o :: g) = .ok P (Box.o b' :: g) ∧ (∀ g', F_law_rel_of [dN n, P] g' = .ok (dRel r) g') ∧ IsRel n r := by
  obtain ⟨ps, b', e, h1, h2⟩ := lpairs_run (b := b) (g := g) hn hn2 ht
  exact ⟨_, _, b', e, fun g' => lrel_run hn2 (.inl rfl) fun p hp => ⟨(h2 p hp).1, by have := (h2 p hp).2; omega⟩, relO_rel h2⟩
end Nc

/-! What the defs compute: terms. -/
namespace Nc
open PySem PySem.Spec PyProof.Rows L2
noncomputable section
/-! power -/
def h_power : M Out := (thenS
  (par3S 2 3 4 (consM (callM F_identity (consM (k1 lenD (varK 0)) (M.ret []))) (consM (var 0) (consM (var 1) (M.ret [])))))
  (thenS
  (whileS (tst (b2 gtD (var 4) (M.ret (dN 0)))) (thenS
  (ifM (tst (k2 eqD (opdM (b2 andD (var 4) (M.ret (dN 1)))) (opdM (M.ret (dN 1))))) (setS 2 (callM F_joined (consM (var 2) (consM (var 3) (M.ret []))))) (M.ret .nx))
  (parS 3 4 (consM (callM F_joined (consM (var 3) (consM (var 3) (M.ret [])))) (consM (b2 shrD (var 4) (M.ret (dN 1))) (M.ret []))))))
  (retS (var 2))))
def F_power : Fn := runB 5 2 h_power
/-! law_same_rel -/
def h_law_same_rel : M Out := (retS (k1 tupleD (opdM (frzM (lcM (rngI (var 0)) (bndN 1) (M.ret true) (b2 shlD (M.ret (dN 1)) (var 1)) [1])))))
def F_law_same_rel : Fn := runB 2 1 h_law_same_rel
/-! law_k03 -/
def h_law_k03 : M Out := (thenS
  (forS (rngI (M.ret (dN 4))) (bndN 2) (thenS
  (setS 3 (b2 addD (M.ret (dN 1)) (callM F_law_pull (consM (var 1) (consM (M.ret (dN 4)) (M.ret []))))))
  (thenS
  (setS 4 (callM F_law_rel_of (consM (var 3) (consM (callM F_law_pairs (consM (var 1) (consM (var 3) (consM (M.ret (dN 8)) (M.ret []))))) (M.ret [])))))
  (thenS
  (parNS 5 6 (lstM (consM (callM F_law_same_rel (consM (var 3) (M.ret []))) (M.ret []))) (lstM (M.ret [])))
  (thenS
  (whileS (tst (k2 notInD (opdM (k2 ixD (varK 5) (opdM ((M.ret (dN 1)) >>= fun d => M.opt (negD d))))) (varK 6))) (thenS
  (dropS (lm1 appOp (refS 6) (k2 ixD (varK 5) (opdM ((M.ret (dN 1)) >>= fun d => M.opt (negD d))))))
  (dropS (lm1 appOp (refS 5) (callM F_law_chain (consM (k2 ixD (varK 5) (opdM ((M.ret (dN 1)) >>= fun d => M.opt (negD d)))) (consM (var 4) (M.ret []))))))))
  (thenS
  (setS 7 (idxM (varK 6) (opdM (k2 ixD (varK 5) (opdM ((M.ret (dN 1)) >>= fun d => M.opt (negD d)))))))
  (thenS
  (setS 8 (b2 subD (k1 lenD (varK 6)) (var 7)))
  (thenS
  (forS (rngI (k1 lenD (varK 6))) (bndN 9) (ifM (notM (tst (callM F_law_like (consM (callM F_power (consM (var 4) (consM (var 9) (M.ret [])))) (consM (k2 ixD (varK 6) (varK 9)) (M.ret [])))))) (retS (M.ret (.bl false))) (M.ret .nx)))
  (forS (seqI (tupM (consM (callM F_law_pull (consM (var 1) (consM (M.ret (dN 60)) (M.ret [])))) (consM (callM F_law_pull (consM (var 1) (consM (b2 addD (b2 powD (M.ret (dN 10)) (M.ret (dN 30))) (M.ret (dN 1))) (M.ret [])))) (consM (b2 subD (b2 powD (M.ret (dN 10)) (M.ret (dN 30))) (callM F_law_pull (consM (var 1) (consM (M.ret (dN 4)) (M.ret []))))) (M.ret [])))))) (bndN 10) (thenS
  (setS 9 (var 10))
  (thenS
  (ifM (tst (b2 geD (var 9) (k1 lenD (varK 6)))) (setS 9 (b2 addD (var 7) (b2 modD (k1 intD (opdM (b2 subD (var 9) (var 7)))) (var 8)))) (M.ret .nx))
  (ifM (notM (tst (callM F_law_like (consM (callM F_power (kwM 1 1 [0] (consM (var 4) (M.ret [])) (consM (var 10) (M.ret [])))) (consM (k2 ixD (varK 6) (varK 9)) (M.ret [])))))) (retS (M.ret (.bl false))) (M.ret .nx)))))))))))))
  (retS (andV (k2 eqD (opdM (callM F_power (consM (tupM (consM (M.ret (dN 2)) (consM (M.ret (dN 1)) (M.ret [])))) (consM (M.ret (dN 0)) (M.ret []))))) (opdM (tupM (consM (M.ret (dN 1)) (consM (M.ret (dN 2)) (M.ret [])))))) (k2 eqD (opdM (callM F_power (consM (tupM (consM (M.ret (dN 2)) (consM (M.ret (dN 1)) (M.ret [])))) (consM (b2 powD (M.ret (dN 10)) (M.ret (dN 30))) (M.ret []))))) (opdM (tupM (consM (M.ret (dN 1)) (consM (M.ret (dN 2)) (M.ret [])))))))))
end
end Nc

/-! Powers of relations. -/
namespace Nc
open PySem PySem.Spec PyProof.Rows L2
/-- composed so many times -/
def powN (r : List Nat) : Nat → List Nat
  | 0 => idN r.length
  | e + 1 => chainN (powN r e) r
section
variable {n : Nat} {r : List Nat}
theorem pow_rel (h : IsRel n r) : ∀ e, IsRel n (powN r e)
  | 0 => by
    unfold powN
    rw [h.len]
    exact id_rel
  | e + 1 => chain_rel (pow_rel h e) h
theorem pow_one (h : IsRel n r) : powN r 1 = r := by
  show chainN (idN r.length) r = r
  exact id_chain rfl
theorem pow_add (h : IsRel n r) (a : Nat) : ∀ b, powN r (a + b) = chainN (powN r a) (powN r b)
  | 0 => by
    show powN r a = chainN (powN r a) (idN r.length)
    rw [h.len, chain_id (pow_rel h a)]
  | b + 1 => by
    show chainN (powN r (a + b)) r = chainN (powN r a) (chainN (powN r b) r)
    rw [pow_add h a b, chain_assoc (pow_rel h a).len (pow_rel h b).len h.len]
theorem pow_mul2 (h : IsRel n r) : ∀ k, powN (chainN r r) k = powN r (2 * k)
  | 0 => by
    show idN (chainN r r).length = idN r.length
    rw [chain_len]
  | k + 1 => by
    show chainN (powN (chainN r r) k) (chainN r r) = powN r (2 * k + 2)
    rw [pow_mul2 h k, pow_add h (2 * k) 2]
    congr 1
    show chainN r r = chainN (powN r 1) r
    rw [pow_one h]
theorem power_run {e : Nat} {g : Cells} (h : IsRel n r) (hn : n < 1000) : F_power [dRel r, dN e] g = .ok (dRel (powN r e)) g := by
  have hl := h.len
  have ei : F_identity [dN r.length] g = .ok (dRel (idN r.length)) g := identity_run (by omega)
  apply run_sat rfl rfl
  simp only [EV1, EV2, EV3, EV4, EV5, EV6, EV7, EV8, EV9, EV10, EV11, EV12, EV13, EV14, EV15, EV16, EV17, vals, List.replicate, Nat.reduceBEq, Nat.reduceAdd, Nat.reduceLT, Nat.reduceSub, Nat.reduceMul, Nat.reduceLeDiff, Nat.reduceEqDiff, OP1, OP2, h_power, List.length_map, ei]
  refine' Sat.stepI (while_sat (fun m ρ => ∃ f s, ρ = ⟨[vD (dRel r), vN e, vD (dRel f), vD (dRel s), vN m], g⟩ ∧ IsRel n f ∧ IsRel n s ∧ chainN f (powN s m) = powN r e) e ⟨idN r.length, r, rfl, by rw [hl]; exact id_rel, h, id_chain (by rw [(pow_rel h e).len, hl])⟩ (Q := fun o ρ => o = .nx ∧ ∃ s, ρ = ⟨[vD (dRel r), vN e, vD (dRel (powN r e)), s, vN 0], g⟩) (fun m ρ ⟨f, s, hρ, hf, hs, hc⟩ => ?_)) (fun o ρ ⟨h0, s, hρ⟩ => ?_)
  · subst hρ
    rcases Nat.eq_zero_or_pos m with rfl | hm
    · simp only [EV1, EV2, EV3, EV4, EV5, EV6, EV7, EV8, EV9, EV10, EV11, EV12, EV13, EV14, EV15, EV16, EV17, vals, List.replicate, Nat.reduceBEq, Nat.reduceAdd, Nat.reduceLT, Nat.reduceSub, Nat.reduceMul, Nat.reduceLeDiff, Nat.reduceEqDiff, OP1, OP2, Nat.lt_irrefl]
      refine ⟨by trivial, some (.val (dRel s)), ?_⟩
      have : f = powN r e := by
        rw [← hc]
        show f = chainN f (idN s.length)
        rw [hs.len, chain_id hf]
      rw [this]
    · have e2 : m >>> 1 = m / 2 := by rw [Nat.shiftRight_eq_div_pow]
      have hlt : m / 2 < m := by omega
      have lf : f.length < 1000 := by rw [hf.len]; exact hn
      have ls : s.length < 1000 := by rw [hs.len]; exact hn
      simp only [EV1, EV2, EV3, EV4, EV5, EV6, EV7, EV8, EV9, EV10, EV11, EV12, EV13, EV14, EV15, EV16, EV17, vals, List.replicate, Nat.reduceBEq, Nat.reduceAdd, Nat.reduceLT, Nat.reduceSub, Nat.reduceMul, Nat.reduceLeDiff, Nat.reduceEqDiff, OP1, OP2, decide_eq_true hm]
      have hbit : decide (m &&& 1 = 1) = m.testBit 0 := by
        have := bit_is m 0
        rwa [Nat.shiftRight_zero] at this
      have hss := chain_rel hs hs
      rcases Bool.eq_false_or_eq_true (m.testBit 0) with hb | hb
      · simp only [EV1, EV2, EV3, EV4, EV5, EV6, EV7, EV8, EV9, EV10, EV11, EV12, EV13, EV14, EV15, EV16, EV17, vals, List.replicate, Nat.reduceBEq, Nat.reduceAdd, Nat.reduceLT, Nat.reduceSub, Nat.reduceMul, Nat.reduceLeDiff, Nat.reduceEqDiff, OP1, OP2, hbit, hb, joined_run lf ls, joined_run ls ls, e2]
        have hfs := chain_rel hf hs
        generalize hk : m / 2 = k at hlt
        refine ⟨k, hlt, chainN f s, chainN s s, rfl, hfs, hss, ?_⟩
        rw [pow_mul2 hs, ← hc, chain_assoc hf.len hs.len (pow_rel hs _).len]
        refine congrArg (chainN f) ?_
        have e1 : m = 1 + 2 * k := by
          have := hb
          rw [Nat.testBit_zero, decide_eq_true_eq] at this
          omega
        conv => rhs; rw [e1]
        rw [pow_add hs, pow_one hs]
      · simp only [EV1, EV2, EV3, EV4, EV5, EV6, EV7, EV8, EV9, EV10, EV11, EV12, EV13, EV14, EV15, EV16, EV17, vals, List.replicate, Nat.reduceBEq, Nat.reduceAdd, Nat.reduceLT, Nat.reduceSub, Nat.reduceMul, Nat.reduceLeDiff, Nat.reduceEqDiff, OP1, OP2, hbit, hb, joined_run ls ls, e2]
        generalize hk : m / 2 = k at hlt
        refine ⟨k, hlt, f, chainN s s, rfl, hf, hss, ?_⟩
        rw [pow_mul2 hs, ← hc]
        refine congrArg (fun x => chainN f (powN s x)) ?_
        have := hb
        rw [Nat.testBit_zero, decide_eq_false_iff_not] at this
        omega
  · subst h0 hρ
    simp only [EV1, EV2, EV3, EV4, EV5, EV6, EV7, EV8, EV9, EV10, EV11, EV12, EV13, EV14, EV15, EV16, EV17, vals, List.replicate, Nat.reduceBEq, Nat.reduceAdd, Nat.reduceLT, Nat.reduceSub, Nat.reduceMul, Nat.reduceLeDiff, Nat.reduceEqDiff, OP1, OP2]
    exact ⟨rfl, rfl⟩
theorem lsame_run {n : Nat} {g : Cells} (hn : n < 1000) : F_law_same_rel [dN n] g = .ok (dRel (idN n)) g := identity_run hn
end
/-! a relation among relations -/
theorem dRel_inj {x y : List Nat} (h : dRel x = dRel y) : x = y := by
  have h : D.tup (x.map dN) = D.tup (y.map dN) := h
  injection h with h
  exact List.map_inj_right (fun a b e => by injection e with e; omega) |>.mp h
theorem rels_any {x : List Nat} {p : PyData} (hx : x.length < 100000) (ep : (dRel x).py = some p) : ∀ (ys : List (List Nat)) (ps : List PyData), (∀ y ∈ ys, y.length < 100000) → D.pys (ys.map dRel) = some ps → ps.any (fun z => PyData.eqv z p) = decide (x ∈ ys) ∧ ps.findIdx? (fun z => PyData.eqv z p) = ys.findIdx? fun y => decide (y = x)
  | [], ps, _, e => by
    simp only [List.map_nil, D.pys, Option.some.injEq] at e
    subst e
    simp
  | y :: ys, ps, hy, e => by
    obtain ⟨q, e1, -, -, e4⟩ := py_lk (lk_rel (k := false) (n := 0) (hy y List.mem_cons_self))
    simp only [List.map_cons, D.pys, e1] at e
    cases e2 : D.pys (ys.map dRel) with
    | none => simp [e2] at e
    | some qs =>
      simp only [e2, Option.some.injEq] at e
      subst e
      obtain ⟨i1, i2⟩ := rels_any hx ep ys qs (fun z hz => hy z (List.mem_cons_of_mem _ hz)) e2
      have hv : PyData.eqv q p = decide (y = x) := by
        by_cases h : y = x
        · subst h
          rw [ep] at e1
          cases e1
          rw [e4, decide_eq_true rfl]
        · rw [decide_eq_false h]
          cases hq : PyData.eqv q p with
          | false => rfl
          | true => exact absurd (dRel_inj (eqv_eq (n := 2) (m := 2) (lk_rel (hy y List.mem_cons_self)) (lk_rel hx) e1 ep hq)) h
      refine ⟨?_, ?_⟩
      · rw [List.any_cons, hv, i1]
        by_cases h : y = x
        · simp [h]
        · have : ¬ x = y := fun e => h e.symm
          simp [h, this]
      · rw [List.findIdx?_cons, List.findIdx?_cons, hv, i2]
theorem rels_pys {xs : List (List Nat)} (hl : xs.length < 100000) (h : ∀ y ∈ xs, y.length < 100000) : ∃ ps, D.pys (xs.map dRel) = some ps ∧ SeqAt.shaped (.list ps) = true := by
  obtain ⟨q, e1, e2, e3, -⟩ := py_lk (lk_lst (k := false) (n := 2) (ds := xs.map dRel) (by simpa using hl) (lk_all_map fun y hy => lk_rel (h y hy)))
  simp only [D.py] at e1
  cases e : D.pys (xs.map dRel) with
  | none => simp [e] at e1
  | some ps =>
    rw [e] at e1
    cases e1
    exact ⟨ps, rfl, shaped_of e2 e3 (by decide)⟩
theorem in_rels {x : List Nat} {xs : List (List Nat)} (hx : x.length < 100000) (hl : xs.length < 100000) (h : ∀ y ∈ xs, y.length < 100000) : inS (dRel x) (.lst (xs.map dRel)) = some (decide (x ∈ xs)) := by
  obtain ⟨ps, e1, e2⟩ := rels_pys hl h
  obtain ⟨p, g1, g2, g3, -⟩ := py_lk (lk_rel (k := false) (n := 0) hx)
  have hf : (dRel x).flat = none := by simp [dRel, D.flat]
  simp only [inS, hf, g1, e1, e2, shaped_of g2 g3 (by decide), Bool.and_self, if_true, (rels_any hx g1 xs ps h e1).1]
theorem notIn_rels {x : List Nat} {xs : List (List Nat)} (hx : x.length < 100000) (hl : xs.length < 100000) (h : ∀ y ∈ xs, y.length < 100000) : notInD (dRel x) (.lst (xs.map dRel)) = some (.bl (!decide (x ∈ xs))) := by
  unfold notInD
  rw [in_rels hx hl h]
  exact Option.map_some _ _
theorem idx_rels {x : List Nat} {xs : List (List Nat)} (hx : x.length < 100000) (hl : xs.length < 100000) (h : ∀ y ∈ xs, y.length < 100000) : idxD (.lst (xs.map dRel)) (dRel x) = (xs.findIdx? fun y => decide (y = x)).map dN := by
  obtain ⟨ps, e1, e2⟩ := rels_pys hl h
  obtain ⟨p, g1, g2, g3, -⟩ := py_lk (lk_rel (k := false) (n := 0) hx)
  simp only [idxD, g1, e1, e2, shaped_of g2 g3 (by decide), Bool.and_self, if_true, (rels_any hx g1 xs ps h e1).2]
theorem neg_one : negD (dN 1) = some (.int (-1)) := by
  simp [negD]
theorem ixl_last {k : Nat} {f : Nat → D} : ixD (.lst ((List.range (k + 1)).map f)) (.int (-1)) = some (f k) := by
  have : ixN ((List.range (k + 1)).map f).length (-1) = some k := by
    unfold ixN
    rw [List.length_map, List.length_range]
    simp
    omega
  show atI _ _ = _
  unfold atI
  rw [this]
  simp
/-! how many there may be -/
theorem nodup_le : ∀ (N : Nat) (l : List Nat), l.Nodup → (∀ x ∈ l, x < N) → l.length ≤ N
  | 0, [], _, _ => Nat.le_refl _
  | 0, x :: _, _, h => absurd (h x List.mem_cons_self) (Nat.not_lt_zero _)
  | N + 1, l, hn, h => by
    by_cases hm : N ∈ l
    · have := nodup_le N (l.erase N) (hn.erase N) fun x hx => by
        have h1 := (hn.mem_erase_iff).mp hx
        have := h x h1.2
        have := h1.1
        omega
      rw [List.length_erase_of_mem hm] at this
      omega
    · have := nodup_le N l hn fun x hx => by
        have h1 := h x hx
        have : x ≠ N := fun e => hm (e ▸ hx)
        omega
      omega
def encN (r : List Nat) : Nat := r.foldr (fun x a => x + 16 * a) 0
theorem enc_lt : ∀ (n : Nat) (r : List Nat), r.length = n → (∀ x ∈ r, x < 16) → encN r < 16 ^ n
  | 0, [], _, _ => by decide
  | n + 1, x :: r, hl, h => by
    have h1 := enc_lt n r (by simpa using hl) fun y hy => h y (List.mem_cons_of_mem _ hy)
    have h2 := h x List.mem_cons_self
    show x + 16 * encN r < 16 ^ (n + 1)
    omega
theorem enc_inj : ∀ (r s : List Nat), r.length = s.length → (∀ x ∈ r, x < 16) → (∀ x ∈ s, x < 16) → encN r = encN s → r = s
  | [], [], _, _, _, _ => rfl
  | x :: r, y :: s, hl, h, h', e => by
    have e : x + 16 * encN r = y + 16 * encN s := e
    have h1 := h x List.mem_cons_self
    have h2 := h' y List.mem_cons_self
    have e1 : x = y := by omega
    have e2 : encN r = encN s := by omega
    rw [e1, enc_inj r s (by simpa using hl) (fun z hz => h z (List.mem_cons_of_mem _ hz)) (fun z hz => h' z (List.mem_cons_of_mem _ hz)) e2]
theorem nodup_map {α β : Type} {f : α → β} : ∀ {l : List α}, (∀ a ∈ l, ∀ b ∈ l, f a = f b → a = b) → l.Nodup → (l.map f).Nodup
  | [], _, _ => List.nodup_nil
  | a :: l, h, hn => by
    rw [List.nodup_cons] at hn
    rw [List.map_cons, List.nodup_cons]
    refine ⟨fun hm => ?_, nodup_map (fun x hx y hy => h x (List.mem_cons_of_mem _ hx) y (List.mem_cons_of_mem _ hy)) hn.2⟩
    obtain ⟨b, hb, e⟩ := List.mem_map.mp hm
    have := h b (List.mem_cons_of_mem _ hb) a List.mem_cons_self e
    exact hn.1 (this ▸ hb)
theorem rels_le {n : Nat} (hn : n ≤ 4) {l : List (List Nat)} (h : l.Nodup) (hr : ∀ r ∈ l, IsRel n r) : l.length ≤ 65536 := by
  have hb : ∀ r ∈ l, ∀ x ∈ r, x < 16 := fun r h1 x hx => Nat.lt_of_lt_of_le ((hr r h1).2 x hx) (Nat.pow_le_pow_right (n := 2) (by decide) hn)
  have := nodup_le 65536 (l.map encN) (nodup_map (fun a ha b hb' e => enc_inj a b (by rw [(hr a ha).len, (hr b hb').len]) (hb a ha) (hb b hb') e) h) fun y hy => by
    obtain ⟨r, h1, rfl⟩ := List.mem_map.mp hy
    have := enc_lt n r (hr r h1).len (hb r h1)
    have h4 : 16 ^ n ≤ 16 ^ 4 := Nat.pow_le_pow_right (by decide) hn
    omega
  simpa using this
/-! a turn's end -/
theorem pow_per {n : Nat} {r : List Nat} (h : IsRel n r) {s p : Nat} (e : powN r (s + p) = powN r s) (i : Nat) : ∀ j, powN r (s + i + j * p) = powN r (s + i)
  | 0 => by rw [Nat.zero_mul, Nat.add_zero]
  | j + 1 => by
    rw [show s + i + (j + 1) * p = (s + p) + (i + j * p) by rw [Nat.succ_mul]; omega, pow_add h, e, ← pow_add h, ← Nat.add_assoc, pow_per h e i j]
theorem pow_mod {n : Nat} {r : List Nat} (h : IsRel n r) {s p m : Nat} (e : powN r (s + p) = powN r s) (hm : s ≤ m) : powN r (s + (m - s) % p) = powN r m := by
  have := pow_per h e ((m - s) % p) ((m - s) / p)
  rw [← this]
  refine congrArg (powN r) ?_
  have := Nat.mod_add_div (m - s) p
  rw [Nat.mul_comm p] at this
  omega
theorem rel21 : IsRel 2 [2, 1] := ⟨rfl, by decide⟩
theorem pow_id2 : ∀ k, powN [1, 2] k = [1, 2]
  | 0 => rfl
  | k + 1 => by
    show chainN (powN [1, 2] k) [1, 2] = _
    rw [pow_id2 k]
    decide
theorem pow21_0 {g : Cells} : F_power [.tup [dN 2, dN 1], dN 0] g = .ok (.tup [dN 1, dN 2]) g := by
  have h := power_run (e := 0) (g := g) rel21 (by decide)
  have e : powN [2, 1] 0 = [1, 2] := by decide
  rw [e] at h
  exact h
theorem pow21_e (k : Nat) : powN [2, 1] (2 * k) = [1, 2] := by
  rw [← pow_mul2 rel21, show chainN [2, 1] [2, 1] = [1, 2] by decide, pow_id2]
theorem pow21_k {g : Cells} : F_power [.tup [dN 2, dN 1], dN (10 ^ 30)] g = .ok (.tup [dN 1, dN 2]) g := by
  have h := power_run (e := 10 ^ 30) (g := g) rel21 (by decide)
  have e1 : 10 ^ 30 = 2 * (5 * 10 ^ 29) := by decide
  have e : powN [2, 1] (10 ^ 30) = [1, 2] := by
    rw [e1]
    exact pow21_e _
  rw [e] at h
  exact h
/-! the list of powers -/
def rowsN (r : List Nat) (k : Nat) : List (List Nat) := (List.range k).map (powN r)
section
variable {r : List Nat} {k : Nat}
theorem rows_len : ((rowsN r k).map dRel).length = k := by simp [rowsN]
theorem rows_last : ixD (.lst ((rowsN r (k + 1)).map dRel)) (.int (-1)) = some (dRel (powN r k)) := by
  unfold rowsN
  rw [List.map_map]
  exact ixl_last (f := dRel ∘ powN r)
theorem rows_app : (rowsN r k).map dRel ++ [dRel (powN r k)] = (rowsN r (k + 1)).map dRel := by
  unfold rowsN
  rw [List.range_succ, List.map_append, List.map_append]
  try exact rfl
theorem rows_get {i : Nat} (h : i < k) : ((rowsN r k).map dRel)[i]? = some (dRel (powN r i)) := by
  unfold rowsN
  rw [List.getElem?_map, List.getElem?_map, List.getElem?_range h]
  try exact rfl
theorem rows_rel {n : Nat} (h : IsRel n r) : ∀ y ∈ rowsN r k, IsRel n y := fun y hy => by
  obtain ⟨e, _, rfl⟩ := List.mem_map.mp hy
  exact pow_rel h e
theorem rows_small {n : Nat} (h : IsRel n r) (hn : n < 100000) : ∀ y ∈ rowsN r k, y.length < 100000 := fun y hy => by
  rw [(rows_rel h y hy).len]
  exact hn
theorem rows_snoc : rowsN r (k + 1) = rowsN r k ++ [powN r k] := by
  unfold rowsN
  rw [List.range_succ, List.map_append]
  try exact rfl
theorem rows_nodup (h : (rowsN r k).Nodup) (q : powN r k ∉ rowsN r k) : (rowsN r (k + 1)).Nodup := by
  rw [rows_snoc, List.nodup_append]
  refine ⟨h, List.pairwise_singleton _ _, fun a ha b hb e => ?_⟩
  rw [List.mem_singleton.mp hb] at e
  exact q (e ▸ ha)
theorem rows_find (q : powN r k ∈ rowsN r k) : ∃ s, s < k ∧ (rowsN r k).findIdx? (fun y => decide (y = powN r k)) = some s ∧ powN r k = powN r s := by
  cases e : (rowsN r k).findIdx? (fun y => decide (y = powN r k)) with
  | none => exact absurd rfl (of_decide_eq_false (List.findIdx?_eq_none_iff.mp e _ q))
  | some s =>
    obtain ⟨h1, h2, -⟩ := List.findIdx?_eq_some_iff_getElem.mp e
    have hl : (rowsN r k).length = k := by simp [rowsN]
    refine ⟨s, by omega, rfl, ?_⟩
    have h2 := of_decide_eq_true h2
    simp [rowsN] at h2
    exact h2.symm
theorem idx_rows {n : Nat} (h : IsRel n r) (hn : n < 100000) (hk : k < 100000) : idxD (.lst ((rowsN r k).map dRel)) (dRel (powN r k)) = ((rowsN r k).findIdx? fun y => decide (y = powN r k)).map dN :=
  idx_rels (by rw [(pow_rel h k).len]; exact hn) (by simpa [rowsN] using hk) (rows_small h hn)
theorem notIn_rows {n : Nat} (h : IsRel n r) (hn : n < 100000) (hk : k < 100000) : notInD (dRel (powN r k)) (.lst ((rowsN r k).map dRel)) = some (.bl (!decide (powN r k ∈ rowsN r k))) :=
  notIn_rels (by rw [(pow_rel h k).len]; exact hn) (by simpa [rowsN] using hk) (rows_small h hn)
end
end Nc

/-! What the defs compute: terms. -/
namespace Nc
open PySem PySem.Spec PyProof.Rows L2
noncomputable section
/-! is_settled -/
def h_is_settled : M Out := (retS (k2 eqD (opdM (callM F_joined (consM (var 0) (consM (var 0) (M.ret []))))) (varK 0)))
def F_is_settled : Fn := runB 1 1 h_is_settled
/-! settled -/
def h_settled : M Out := (thenS
  (parS 1 2 (consM (M.ret (dN 1)) (consM (var 0) (M.ret []))))
  (thenS
  (whileS (notM (tst (callM F_is_settled (consM (var 2) (M.ret []))))) (parS 1 2 (consM (b2 addD (var 1) (M.ret (dN 1))) (consM (callM F_joined (consM (var 2) (consM (var 0) (M.ret [])))) (M.ret [])))))
  (retS (var 1))))
def F_settled : Fn := runB 3 1 h_settled
/-! law_mixed -/
def h_law_mixed : M Out := (thenS
  (parNS 2 3 (k1 listO (varK 1)) (lstM (M.ret [])))
  (thenS
  (whileS (tst (k2 neD (varK 2) (opdM (frzM (lstM (M.ret [])))))) (dropS (lm1 appOp (refS 3) (lm1 popAtOp (refS 2) (callM F_law_pull (consM (var 0) (consM (k1 lenD (varK 2)) (M.ret []))))))))
  (retS (var 3))))
def F_law_mixed : Fn := runB 4 2 h_law_mixed
/-! law_settled -/
def h_law_settled : M Out := (thenS
  (parS 1 2 (consM (var 0) (consM (M.ret (dN 1)) (M.ret []))))
  (thenS
  (whileS (tst (k2 neD (opdM (callM F_law_chain (consM (var 1) (consM (var 1) (M.ret []))))) (varK 1))) (parS 1 2 (consM (callM F_law_chain (consM (var 1) (consM (var 0) (M.ret [])))) (consM (b2 addD (var 2) (M.ret (dN 1))) (M.ret [])))))
  (retS (var 2))))
def F_law_settled : Fn := runB 3 1 h_law_settled
/-! law_k04 -/
def h_law_k04 : M Out := (thenS
  (forS (rngI (M.ret (dN 5))) (bndN 2) (thenS
  (setS 3 (b2 addD (M.ret (dN 1)) (callM F_law_pull (consM (var 1) (consM (M.ret (dN 4)) (M.ret []))))))
  (thenS
  (setS 4 (callM F_law_rel_of (consM (var 3) (consM (callM F_law_pairs (consM (var 1) (consM (var 3) (consM (M.ret (dN 7)) (M.ret []))))) (M.ret [])))))
  (thenS
  (ifM (tst (k2 eqD (opdM (callM F_law_pull (consM (var 1) (consM (M.ret (dN 3)) (M.ret []))))) (opdM (M.ret (dN 0))))) (thenS
  (setS 5 (callM F_law_mixed (consM (var 1) (consM (frzM (listRngM (var 3))) (M.ret [])))))
  (setS 4 (k1 tupleD (opdM (frzM (lcM (rngI (var 3)) (bndN 12) (M.ret true) (b2 shlD (M.ret (dN 1)) (k2 ixD (varK 5) (varK 12))) [12])))))) (M.ret .nx))
  (thenS
  (setS 6 (callM F_law_settled (consM (var 4) (M.ret []))))
  (thenS
  (ifM (orM (notM (tst (callM F_law_like (consM (callM F_settled (consM (var 4) (M.ret []))) (consM (var 6) (M.ret [])))))) (tst (k2 neD (opdM (callM F_settled (kwM 0 1 [0] (M.ret []) (consM (var 4) (M.ret []))))) (varK 6)))) (retS (M.ret (.bl false))) (M.ret .nx))
  (thenS
  (setS 7 (callM F_power (consM (var 4) (consM (var 6) (M.ret [])))))
  (thenS
  (ifM (tst (k2 neD (opdM (callM F_law_chain (consM (var 7) (consM (var 7) (M.ret []))))) (varK 7))) (retS (M.ret (.bl false))) (M.ret .nx))
  (forS (rngI2 (M.ret (dN 1)) (var 6)) (bndN 8) (thenS
  (setS 7 (callM F_power (consM (var 4) (consM (var 8) (M.ret [])))))
  (ifM (tst (k2 eqD (opdM (callM F_law_chain (consM (var 7) (consM (var 7) (M.ret []))))) (varK 7))) (retS (M.ret (.bl false))) (M.ret .nx))))))))))))
  (thenS
  (asgS (bndT [9, 10]) (tupM (consM (frzM (lstM (M.ret []))) (consM (frzM (lstM (consM (M.ret (dN 3)) (consM (M.ret (dN 4)) (consM (M.ret (dN 5)) (M.ret [])))))) (M.ret [])))))
  (thenS
  (forS (seqI (var 10)) (bndN 11) (setS 9 (b2 addD (var 9) (frzM (lcM (rngI (var 11)) (bndN 12) (M.ret true) (b2 shlD (M.ret (dN 1)) (b2 addD (k1 lenD (varK 9)) (b2 modD (k1 intD (opdM (b2 addD (var 12) (M.ret (dN 1))))) (var 11)))) [12])))))
  (thenS
  (ifM (orM (tst (k2 neD (opdM (callM F_settled (consM (k1 tupleD (varK 9)) (M.ret [])))) (opdM (M.ret (dN 60))))) (tst (k2 neD (opdM (callM F_settled (consM (k1 tupleD (opdM (slM (varK 9) (M.ret none) (partM (M.ret (dN 7)))))) (M.ret [])))) (opdM (M.ret (dN 12)))))) (retS (M.ret (.bl false))) (M.ret .nx))
  (retS (k2 eqD (opdM (frzM (lstM (consM (callM F_settled (consM (tupM (consM (M.ret (dN 1)) (M.ret []))) (M.ret []))) (consM (callM F_settled (consM (tupM (consM (M.ret (dN 2)) (consM (M.ret (dN 1)) (M.ret [])))) (M.ret []))) (consM (callM F_settled (consM (tupM (consM (M.ret (dN 0)) (consM (M.ret (dN 1)) (M.ret [])))) (M.ret []))) (consM (callM F_settled (consM (tupM (consM (M.ret (dN 2)) (consM (M.ret (dN 4)) (consM (M.ret (dN 1)) (M.ret []))))) (M.ret []))) (M.ret [])))))))) (opdM (frzM (lstM (consM (M.ret (dN 1)) (consM (M.ret (dN 2)) (consM (M.ret (dN 2)) (consM (M.ret (dN 3)) (M.ret []))))))))))))))
end
end Nc

/-! Exponents that settle; lists mixed. -/
namespace Nc
open PySem PySem.Spec PyProof.Rows L2
/-! relations compared -/
theorem eqD_rels {a b : List Nat} (ha : a.length < 100000) (hb : b.length < 100000) : eqD (dRel a) (dRel b) = some (.bl (decide (a = b))) := by
  by_cases h : a = b
  · subst h
    rw [eq_rel ha, decide_eq_true rfl]
  · rw [decide_eq_false h]
    exact eqD_ne (n := 2) (m := 2) (lk_rel ha) (lk_rel hb) (by decide) (by decide) fun e => h (dRel_inj e)
theorem neD_rels {a b : List Nat} (ha : a.length < 100000) (hb : b.length < 100000) : neD (dRel a) (dRel b) = some (.bl (!decide (a = b))) := by
  by_cases h : a = b
  · subst h
    rw [ne_rel ha, decide_eq_true rfl]
    rfl
  · rw [decide_eq_false h]
    exact neD_ne (n := 2) (m := 2) (lk_rel ha) (lk_rel hb) (by decide) (by decide) fun e => h (dRel_inj e)
/-! a list and the empty one -/
theorem ne_nilL {k : Bool} {n : Nat} {ds : List D} (hl : ds.length < 100000) (h : ∀ e ∈ ds, Lkk k n e) (hn : n < 60) : neD (.lst ds) (.lst []) = some (.bl (!ds.isEmpty)) := by
  cases ds with
  | nil => exact neD_refl (k := k) (n := n + 1) (lk_lst (by decide) (fun e he => by cases he)) (by omega)
  | cons d ds =>
    obtain ⟨x, h1, h2, h3, h4⟩ := py_lk (lk_lst hl h)
    have hs := shaped_of h2 h3 (by omega)
    have e0 : (D.lst []).py = some (.list []) := by simp [D.py, D.pys]
    have s0 : SeqAt.shaped (.list []) = true := by decide
    have hv : PyData.eqv x (.list []) = false := by
      simp only [D.py] at h1
      cases e : D.pys (d :: ds) with
      | none => simp [e] at h1
      | some xs =>
        rw [e] at h1
        cases h1
        simp only [D.pys] at e
        cases e1 : d.py with
        | none => simp [e1] at e
        | some y =>
          cases e2 : D.pys ds with
          | none => simp [e1, e2] at e
          | some ys =>
            simp only [e1, e2, Option.some.injEq] at e
            subst e
            simp [PyData.eqv, PyData.eqvAll]
    unfold neD
    unfold eqB
    simp only [eqS, h1, e0, hs, s0, hv, Bool.and_self, if_true]
    rfl
/-! mixing -/
theorem popAt_n {ds : List D} {k : Nat} (h : k < ds.length) (hl : ds.length < 100000) : popAtOp ds (dN k) = some (ds[k], ds.eraseIdx k) := by
  have h1 : (decide (-(2 ^ 63) ≤ (k : Int)) && decide ((k : Int) < 2 ^ 63)) = true := by
    rw [Bool.and_eq_true, decide_eq_true_eq, decide_eq_true_eq]
    omega
  have h2 : seqIndex? (k : Int) ds.length = some k := by
    unfold seqIndex?
    rw [if_neg (show ¬ (k : Int) < 0 by omega)]
    have : (decide (0 ≤ (k : Int)) && decide ((k : Int) < (ds.length : Int))) = true := by
      rw [Bool.and_eq_true, decide_eq_true_eq, decide_eq_true_eq]
      omega
    simp [this, h]
  simp only [popAtOp, h1, if_true, h2, List.getElem?_eq_getElem h, Option.map_some]
theorem perm_erase {α : Type} : ∀ {xs : List α} {k : Nat} (h : k < xs.length), xs.Perm (xs[k] :: xs.eraseIdx k)
  | x :: xs, 0, _ => List.Perm.refl _
  | x :: xs, k + 1, h => ((perm_erase (xs := xs) (k := k) (by simpa using h)).cons x).trans (List.Perm.swap _ _ _)
theorem mixed_run {k : Bool} {n : Nat} {b : Box} {g : Cells} {ds : List D} {P : D} (hP : P = .lst ds ∨ P = .tup ds) (hl : ds.length < 100000) (h : ∀ e ∈ ds, Lkk k n e) (hn : n < 60) : ∃ x : List D × Box, x.1.Perm ds ∧ F_law_mixed [.ptr 0, P] (b.o :: g) = .ok (.lst x.1) (Box.o x.2 :: g) := by
  have e0 : listO P = some (.lst ds) := by
    rcases hP with rfl | rfl <;> rfl
  have el : lookG (b.o :: g) P = some P := by
    rcases hP with rfl | rfl <;> rfl
  apply run_satX (ι := List D × Box) (P := fun x => x.1.Perm ds) (f := fun x => .lst x.1) (G := fun x => x.2.o :: g) rfl rfl
  simp only [EV1, EV2, EV3, EV4, EV5, EV6, EV7, EV8, EV9, EV10, EV11, EV12, EV13, EV14, EV15, EV16, EV17, vals, List.replicate, Nat.reduceBEq, Nat.reduceAdd, Nat.reduceLT, Nat.reduceSub, Nat.reduceMul, Nat.reduceLeDiff, Nat.reduceEqDiff, OP1, OP2, h_law_mixed, e0, el]
  refine' Sat.stepI (while_sat (fun m ρ => ∃ (xs ys : List D) (b' : Box), m = xs.length ∧ (xs ++ ys).Perm ds ∧ ρ = ⟨[vD (.ptr 0), vD P, some (.own (.lst xs)), some (.own (.lst ys))], b'.o :: g⟩) ds.length ⟨ds, [], b, rfl, by rw [List.append_nil], rfl⟩ (Q := fun o ρ => o = .nx ∧ ∃ (ys : List D) (b' : Box), ys.Perm ds ∧ ρ = ⟨[vD (.ptr 0), vD P, some (.own (.lst [])), some (.own (.lst ys))], b'.o :: g⟩) (fun m ρ ⟨xs, ys, b', hm, hp, hρ⟩ => ?_)) (fun o ρ ⟨h0, ys, b', hp, hρ⟩ => ?_)
  · subst hρ
    have hlen := hp.length_eq
    rw [List.length_append] at hlen
    have hxs : ∀ e ∈ xs, Lkk k n e := fun e he => h e (hp.mem_iff.mp (List.mem_append_left _ he))
    have hx : xs.length < 100000 := by omega
    have hy : ys.length < 100000 := by omega
    by_cases hem : xs = []
    · subst hem
      simp only [EV1, EV2, EV3, EV4, EV5, EV6, EV7, EV8, EV9, EV10, EV11, EV12, EV13, EV14, EV15, EV16, EV17, vals, List.replicate, Nat.reduceBEq, Nat.reduceAdd, Nat.reduceLT, Nat.reduceSub, Nat.reduceMul, Nat.reduceLeDiff, Nat.reduceEqDiff, OP1, OP2, ne_nilL (show ([] : List D).length < 100000 by decide) hxs hn, List.isEmpty_nil]
      exact ⟨by trivial, ys, b', hp, rfl⟩
    · have h0 : 0 < xs.length := List.length_pos_iff.mpr hem
      have hf : xs.isEmpty = false := by
        cases xs with
        | nil => exact absurd rfl hem
        | cons x xs => rfl
      have hd := draw_lt (b := b') h0
      simp only [EV1, EV2, EV3, EV4, EV5, EV6, EV7, EV8, EV9, EV10, EV11, EV12, EV13, EV14, EV15, EV16, EV17, vals, List.replicate, Nat.reduceBEq, Nat.reduceAdd, Nat.reduceLT, Nat.reduceSub, Nat.reduceMul, Nat.reduceLeDiff, Nat.reduceEqDiff, OP1, OP2, ne_nilL hx hxs hn, hf, draw_run (b := b') (g := g) h0 (show xs.length < 10 ^ 40 by omega), popAt_n hd hx, app_r hy]
      refine ⟨(xs.eraseIdx (b'.draw xs.length)).length, ?_, xs.eraseIdx (b'.draw xs.length), ys ++ [xs[b'.draw xs.length]], b'.nx xs.length, rfl, ?_, rfl⟩
      · rw [List.length_eraseIdx_of_lt hd, hm]
        omega
      · refine List.Perm.trans ?_ hp
        refine List.Perm.trans ?_ (List.Perm.append_right ys (perm_erase hd).symm)
        rw [← List.append_assoc]
        exact List.perm_append_comm
  · subst h0 hρ
    simp only [EV1, EV2, EV3, EV4, EV5, EV6, EV7, EV8, EV9, EV10, EV11, EV12, EV13, EV14, EV15, EV16, EV17, vals, List.replicate, Nat.reduceBEq, Nat.reduceAdd, Nat.reduceLT, Nat.reduceSub, Nat.reduceMul, Nat.reduceLeDiff, Nat.reduceEqDiff, OP1, OP2]
    exact ⟨(ys, b'), hp, rfl, rfl⟩
/-! settling -/
def idem (r : List Nat) (e : Nat) : Prop := chainN (powN r e) (powN r e) = powN r e
section
variable {n : Nat} {r : List Nat} {e : Nat} {g : Cells}
theorem is_settled_run {f : List Nat} (hf : f.length < 1000) : F_is_settled [dRel f] g = .ok (.bl (decide (chainN f f = f))) g := by
  apply run_sat rfl rfl
  simp only [EV1, EV2, EV3, EV4, EV5, EV6, EV7, EV8, EV9, EV10, EV11, EV12, EV13, EV14, EV15, EV16, EV17, vals, List.replicate, Nat.reduceBEq, Nat.reduceAdd, Nat.reduceLT, Nat.reduceSub, Nat.reduceMul, Nat.reduceLeDiff, Nat.reduceEqDiff, OP1, OP2, h_is_settled, joined_run hf hf, eqD_rels (show (chainN f f).length < 100000 by rw [chain_len]; omega) (show f.length < 100000 by omega)]
  exact ⟨rfl, rfl⟩
theorem settled_run (h : IsRel n r) (hn : n < 1000) (h1 : 1 ≤ e) (h2 : idem r e) (h3 : ∀ k, 1 ≤ k → k < e → ¬ idem r k) : F_settled [dRel r] g = .ok (dN e) g := by
  have lr : r.length < 1000 := by rw [h.len]; exact hn
  apply run_sat rfl rfl
  simp only [EV1, EV2, EV3, EV4, EV5, EV6, EV7, EV8, EV9, EV10, EV11, EV12, EV13, EV14, EV15, EV16, EV17, vals, List.replicate, Nat.reduceBEq, Nat.reduceAdd, Nat.reduceLT, Nat.reduceSub, Nat.reduceMul, Nat.reduceLeDiff, Nat.reduceEqDiff, OP1, OP2, h_settled]
  refine' Sat.stepI (while_sat (fun m ρ => ∃ k, m = e - k ∧ 1 ≤ k ∧ k ≤ e ∧ ρ = ⟨[vD (dRel r), vN k, vD (dRel (powN r k))], g⟩) (e - 1) ⟨1, rfl, by omega, h1, by rw [pow_one h]⟩ (Q := fun o ρ => o = .nx ∧ ρ = ⟨[vD (dRel r), vN e, vD (dRel (powN r e))], g⟩) (fun m ρ ⟨k, hm, hk1, hk, hρ⟩ => ?_)) (fun o ρ ⟨h0, hρ⟩ => ?_)
  · subst hρ
    have lp : (powN r k).length < 1000 := by rw [(pow_rel h k).len]; exact hn
    by_cases hi : idem r k
    · have hke : k = e := Classical.byContradiction fun q => h3 k hk1 (by omega) hi
      subst hke
      unfold idem at hi
      simp only [EV1, EV2, EV3, EV4, EV5, EV6, EV7, EV8, EV9, EV10, EV11, EV12, EV13, EV14, EV15, EV16, EV17, vals, List.replicate, Nat.reduceBEq, Nat.reduceAdd, Nat.reduceLT, Nat.reduceSub, Nat.reduceMul, Nat.reduceLeDiff, Nat.reduceEqDiff, OP1, OP2, is_settled_run lp, decide_eq_true hi]
      refine ⟨?_, ?_⟩ <;> first | trivial | rfl
    · have hke : k < e := by
        rcases Nat.lt_or_ge k e with q | q
        · exact q
        · exact absurd (show k = e by omega ▸ h2) (by omega)
      unfold idem at hi
      have hsu : chainN (powN r k) r = powN r (k + 1) := rfl
      simp only [EV1, EV2, EV3, EV4, EV5, EV6, EV7, EV8, EV9, EV10, EV11, EV12, EV13, EV14, EV15, EV16, EV17, vals, List.replicate, Nat.reduceBEq, Nat.reduceAdd, Nat.reduceLT, Nat.reduceSub, Nat.reduceMul, Nat.reduceLeDiff, Nat.reduceEqDiff, OP1, OP2, is_settled_run lp, decide_eq_false hi, joined_run lp lr, hsu]
      exact ⟨e - (k + 1), by omega, k + 1, rfl, by omega, by omega, rfl⟩
  · subst h0 hρ
    simp only [EV1, EV2, EV3, EV4, EV5, EV6, EV7, EV8, EV9, EV10, EV11, EV12, EV13, EV14, EV15, EV16, EV17, vals, List.replicate, Nat.reduceBEq, Nat.reduceAdd, Nat.reduceLT, Nat.reduceSub, Nat.reduceMul, Nat.reduceLeDiff, Nat.reduceEqDiff, OP1, OP2]
    exact ⟨rfl, rfl⟩
theorem lsettled_run (h : IsRel n r) (hn : n < 1000) (h1 : 1 ≤ e) (h2 : idem r e) (h3 : ∀ k, 1 ≤ k → k < e → ¬ idem r k) : F_law_settled [dRel r] g = .ok (dN e) g := by
  have lr : r.length < 1000 := by rw [h.len]; exact hn
  apply run_sat rfl rfl
  simp only [EV1, EV2, EV3, EV4, EV5, EV6, EV7, EV8, EV9, EV10, EV11, EV12, EV13, EV14, EV15, EV16, EV17, vals, List.replicate, Nat.reduceBEq, Nat.reduceAdd, Nat.reduceLT, Nat.reduceSub, Nat.reduceMul, Nat.reduceLeDiff, Nat.reduceEqDiff, OP1, OP2, h_law_settled]
  refine' Sat.stepI (while_sat (fun m ρ => ∃ k, m = e - k ∧ 1 ≤ k ∧ k ≤ e ∧ ρ = ⟨[vD (dRel r), vD (dRel (powN r k)), vN k], g⟩) (e - 1) ⟨1, rfl, by omega, h1, by rw [pow_one h]⟩ (Q := fun o ρ => o = .nx ∧ ρ = ⟨[vD (dRel r), vD (dRel (powN r e)), vN e], g⟩) (fun m ρ ⟨k, hm, hk1, hk, hρ⟩ => ?_)) (fun o ρ ⟨h0, hρ⟩ => ?_)
  · subst hρ
    have lp : (powN r k).length < 1000 := by rw [(pow_rel h k).len]; exact hn
    have lpp : (chainN (powN r k) (powN r k)).length < 100000 := by rw [chain_len]; omega
    by_cases hi : idem r k
    · have hke : k = e := Classical.byContradiction fun q => h3 k hk1 (by omega) hi
      subst hke
      unfold idem at hi
      simp only [EV1, EV2, EV3, EV4, EV5, EV6, EV7, EV8, EV9, EV10, EV11, EV12, EV13, EV14, EV15, EV16, EV17, vals, List.replicate, Nat.reduceBEq, Nat.reduceAdd, Nat.reduceLT, Nat.reduceSub, Nat.reduceMul, Nat.reduceLeDiff, Nat.reduceEqDiff, OP1, OP2, lchain_run lp lp, neD_rels lpp (show (powN r k).length < 100000 by omega), decide_eq_true hi]
      refine ⟨?_, ?_⟩ <;> first | trivial | rfl
    · have hke : k < e := by
        rcases Nat.lt_or_ge k e with q | q
        · exact q
        · exact absurd ((show k = e by omega) ▸ h2) hi
      unfold idem at hi
      have hsu : chainN (powN r k) r = powN r (k + 1) := rfl
      simp only [EV1, EV2, EV3, EV4, EV5, EV6, EV7, EV8, EV9, EV10, EV11, EV12, EV13, EV14, EV15, EV16, EV17, vals, List.replicate, Nat.reduceBEq, Nat.reduceAdd, Nat.reduceLT, Nat.reduceSub, Nat.reduceMul, Nat.reduceLeDiff, Nat.reduceEqDiff, OP1, OP2, lchain_run lp lp, neD_rels lpp (show (powN r k).length < 100000 by omega), decide_eq_false hi, lchain_run lp lr, hsu]
      exact ⟨e - (k + 1), by omega, k + 1, rfl, by omega, by omega, rfl⟩
  · subst h0 hρ
    simp only [EV1, EV2, EV3, EV4, EV5, EV6, EV7, EV8, EV9, EV10, EV11, EV12, EV13, EV14, EV15, EV16, EV17, vals, List.replicate, Nat.reduceBEq, Nat.reduceAdd, Nat.reduceLT, Nat.reduceSub, Nat.reduceMul, Nat.reduceLeDiff, Nat.reduceEqDiff, OP1, OP2]
    exact ⟨rfl, rfl⟩
end
/-! such an exponent -/
theorem pow_twice {n : Nat} {r : List Nat} (h : IsRel n r) (hn : n ≤ 4) : ∃ s k, s < k ∧ k ≤ 65536 ∧ powN r s = powN r k := by
  refine Classical.byContradiction fun q => ?_
  have hinj : ∀ a ∈ List.range 65537, ∀ b ∈ List.range 65537, powN r a = powN r b → a = b := fun a ha b hb e => by
    have ha := List.mem_range.mp ha
    have hb := List.mem_range.mp hb
    rcases Nat.lt_trichotomy a b with l | l | l
    · exact absurd ⟨a, b, l, by omega, e⟩ q
    · exact l
    · exact absurd ⟨b, a, l, by omega, e.symm⟩ q
  have := rels_le hn (nodup_map hinj List.nodup_range) (rows_rel (k := 65537) h)
  rw [List.length_map, List.length_range] at this
  omega
theorem idem_is {n : Nat} {r : List Nat} (h : IsRel n r) (hn : n ≤ 4) : ∃ e, 1 ≤ e ∧ e ≤ 65536 ∧ idem r e := by
  obtain ⟨s, k, hs, hk, e⟩ := pow_twice h hn
  have hp : 0 < k - s := by omega
  have e' : powN r (s + (k - s)) = powN r s := by
    rw [e]
    refine congrArg (powN r) ?_
    omega
  have hm := Nat.div_add_mod s (k - s)
  have hl := Nat.mod_lt s hp
  refine ⟨(k - s) * (s / (k - s) + 1), ?_, ?_, ?_⟩
  · exact Nat.mul_pos hp (Nat.succ_pos _)
  · rw [Nat.mul_succ]
    omega
  · unfold idem
    rw [← pow_add h]
    have hge : s ≤ (k - s) * (s / (k - s) + 1) := by
      rw [Nat.mul_succ]
      omega
    have := pow_per h e' ((k - s) * (s / (k - s) + 1) - s) (s / (k - s) + 1)
    rw [show s + ((k - s) * (s / (k - s) + 1) - s) = (k - s) * (s / (k - s) + 1) by omega, Nat.mul_comm (s / (k - s) + 1) (k - s)] at this
    exact this
theorem least_is {P : Nat → Prop} : ∀ (n : Nat), (∃ e, 1 ≤ e ∧ e ≤ n ∧ P e) → ∃ e, 1 ≤ e ∧ e ≤ n ∧ P e ∧ ∀ k, 1 ≤ k → k < e → ¬ P k
  | 0, ⟨e, h1, h2, _⟩ => by omega
  | n + 1, h => by
    by_cases q : ∃ e, 1 ≤ e ∧ e ≤ n ∧ P e
    · obtain ⟨e, h1, h2, h3, h4⟩ := least_is n q
      exact ⟨e, h1, by omega, h3, h4⟩
    · obtain ⟨e, h1, h2, h3⟩ := h
      refine ⟨e, h1, h2, h3, fun k hk hke hp => q ⟨k, hk, by omega, hp⟩⟩
/-! asked step by step -/
def goS (r : List Nat) : Nat → List Nat → Bool
  | 0, f => chainN f f == f
  | n + 1, f => (chainN f f != f) && goS r n (chainN f r)
theorem goS_ok {r : List Nat} : ∀ (n k : Nat), goS r n (powN r k) = true → idem r (k + n) ∧ ∀ j, k ≤ j → j < k + n → ¬ idem r j
  | 0, k, h => ⟨by unfold idem; simpa [goS] using h, fun j h1 h2 => by omega⟩
  | n + 1, k, h => by
    simp only [goS, Bool.and_eq_true, bne_iff_ne] at h
    obtain ⟨i1, i2⟩ := goS_ok n (k + 1) h.2
    refine ⟨by rw [← Nat.add_assoc, Nat.add_right_comm]; exact i1, fun j h1 h2 => ?_⟩
    rcases Nat.lt_or_ge k j with l | l
    · exact i2 j (by omega) (by omega)
    · rw [show j = k by omega]
      exact h.1
theorem settled_by {n m : Nat} {r : List Nat} {g : Cells} (h : IsRel n r) (hn : n < 1000) (q : goS r m r = true) : F_settled [dRel r] g = .ok (dN (1 + m)) g := by
  obtain ⟨h1, h2⟩ := goS_ok m 1 (by rw [pow_one h]; exact q)
  exact settled_run h hn (by omega) h1 h2
end Nc

/-! The law's run. -/
namespace Nc
open PySem PySem.Spec PyProof.Rows L2
section
variable {g : D} {n : Nat} {r : List Nat}
abbrev R4 (g : D) (bx : Box) (x2 x3 x4 x5 x6 x7 x8 x9 x10 x11 x12 : Option Slot) : Rho := ⟨[some (.val g), some (.val (.ptr 0)), x2, x3, x4, x5, x6, x7, x8, x9, x10, x11, x12], [bx.o]⟩
theorem nats_of {n : Nat} : ∀ {es : List D}, (∀ e ∈ es, ∃ o, o < n ∧ e = dN o) → ∃ os : List Nat, es = os.map dN ∧ ∀ o ∈ os, o < n
  | [], _ => ⟨[], rfl, fun o h => by cases h⟩
  | e :: es, h => by
    obtain ⟨o, h1, rfl⟩ := h e List.mem_cons_self
    obtain ⟨os, rfl, h2⟩ := nats_of fun e he => h e (List.mem_cons_of_mem _ he)
    refine ⟨o :: os, rfl, fun q hq => ?_⟩
    rcases List.mem_cons.mp hq with rfl | hq
    · exact h1
    · exact h2 q hq
def wideN : Nat → List Nat
  | 0 => []
  | k + 1 => wideN k ++ (List.range (3 + k)).map fun j => 1 * 2 ^ ((wideN k).length + (j + 1) % (3 + k))
theorem wide_snoc (k : Nat) : (wideN k).map dN ++ (List.range (3 + k)).map (fun j => dN (1 * 2 ^ ((wideN k).length + (j + 1) % (3 + k)))) = (wideN (k + 1)).map dN := by
  show _ = (wideN k ++ _).map dN
  rw [List.map_append, List.map_map]
  try exact rfl
theorem addL_r {a b : List D} (h : a.length + b.length < 100000) : addD (.lst a) (.lst b) = some (.lst (a ++ b)) := if_pos (Nat.le_of_lt (lt_size h))
theorem w12 : IsRel 12 (wideN 3) := ⟨by decide, by decide⟩
theorem w7 : IsRel 7 ((wideN 3).take 7) := ⟨by decide, by decide⟩
theorem go60 : goS (wideN 3) 59 (wideN 3) = true := by decide +kernel
theorem go12 : goS ((wideN 3).take 7) 11 ((wideN 3).take 7) = true := by decide +kernel
theorem law_run : LawOk h_law_k04 11 := by
  intro g b
  simp only [EV1, EV2, EV3, EV4, EV5, EV6, EV7, EV8, EV9, EV10, EV11, EV12, EV13, EV14, EV15, EV16, EV17, vals, List.replicate, Nat.reduceBEq, Nat.reduceAdd, Nat.reduceLT, Nat.reduceSub, Nat.reduceMul, Nat.reduceLeDiff, Nat.reduceEqDiff, OP1, OP2, h_law_k04, rng1_n (show 5 < 1000000 by decide)]
  refine' Sat.stepI (loop_satJ (fun i ρ => ∃ bx x2 x3 x4 x5 x6 x7 x8 x9 x10 x11 x12, ρ = R4 g bx x2 x3 x4 x5 x6 x7 x8 x9 x10 x11 x12) ⟨b, none, none, none, none, none, none, none, none, none, none, none, rfl⟩ (fun i d ρ hd hJ => ?_)) (fun o ρ h => ?_)
  · obtain ⟨bx, x2, x3, x4, x5, x6, x7, x8, x9, x10, x11, x12, rfl⟩ := hJ
    have hm := draw_lt (b := bx) (show 0 < 4 by decide)
    simp only [EV1, EV2, EV3, EV4, EV5, EV6, EV7, EV8, EV9, EV10, EV11, EV12, EV13, EV14, EV15, EV16, EV17, vals, List.replicate, Nat.reduceBEq, Nat.reduceAdd, Nat.reduceLT, Nat.reduceSub, Nat.reduceMul, Nat.reduceLeDiff, Nat.reduceEqDiff, OP1, OP2, draw_run (b := bx) (m := 4) (g := []) (by decide) (by decide)]
    generalize hn : 1 + bx.draw 4 = n
    have hn0 : 0 < n := by omega
    have hn1 : n ≤ 4 := by omega
    generalize bx.nx 4 = by1
    obtain ⟨P, r, b2, e1, e2, hr⟩ := drawn_rel (b := by1) (g := []) (top := 7) hn0 (by omega) (by decide)
    simp only [EV1, EV2, EV3, EV4, EV5, EV6, EV7, EV8, EV9, EV10, EV11, EV12, EV13, EV14, EV15, EV16, EV17, vals, List.replicate, Nat.reduceBEq, Nat.reduceAdd, Nat.reduceLT, Nat.reduceSub, Nat.reduceMul, Nat.reduceLeDiff, Nat.reduceEqDiff, OP1, OP2, e1, e2, draw_run (b := b2) (m := 3) (g := []) (by decide) (by decide)]
    generalize b2.nx 3 = b3
    refine' Sat.stepI (P := fun o ρ => o = .nx ∧ ∃ r b4 x5 x12, IsRel n r ∧ ρ = R4 g b4 (some (.val d)) (vN n) (vD (dRel r)) x5 x6 x7 x8 x9 x10 x11 x12) ?_ (fun o ρ ⟨h0, r, b4, x5, x12, hr, hρ⟩ => ?_)
    · rcases Bool.eq_false_or_eq_true (decide (b2.draw 3 = 0)) with hz | hz
      · obtain ⟨⟨es, b4⟩, hp, em⟩ := mixed_run (k := false) (n := 1) (b := b3) (g := []) (ds := (List.range n).map dN) (.inl rfl) (by simp; omega) (lk_all_map fun _ _ => lk_int) (by decide)
        obtain ⟨os, rfl, hos⟩ := nats_of (n := n) (es := es) fun e he => by
          obtain ⟨o, ho, rfl⟩ := List.mem_map.mp (hp.mem_iff.mp he)
          exact ⟨o, List.mem_range.mp ho, rfl⟩
        dsimp only at hp em
        have hlen : os.length = n := by simpa using hp.length_eq
        have hat : ∀ i, i < n → rowAt os i < n := fun i hi => by
          unfold rowAt
          rw [List.getElem?_eq_getElem (show i < os.length by omega)]
          exact hos _ (List.getElem_mem _)
        simp only [EV1, EV2, EV3, EV4, EV5, EV6, EV7, EV8, EV9, EV10, EV11, EV12, EV13, EV14, EV15, EV16, EV17, vals, List.replicate, Nat.reduceBEq, Nat.reduceAdd, Nat.reduceLT, Nat.reduceSub, Nat.reduceMul, Nat.reduceLeDiff, Nat.reduceEqDiff, OP1, OP2, hz, rngO_n (show n ≤ 1000000 by omega), em, rng1_n (show n < 1000000 by omega)]
        refine' Sat.step (lcL_mapS (r := fun i => dN (1 * 2 ^ rowAt os i)) (fun i hi => ?_) (by simp; omega)) ?_
        · have hi := List.mem_range.mp hi
          have := hat i hi
          simp only [EV1, EV2, EV3, EV4, EV5, EV6, EV7, EV8, EV9, EV10, EV11, EV12, EV13, EV14, EV15, EV16, EV17, vals, List.replicate, Nat.reduceBEq, Nat.reduceAdd, Nat.reduceLT, Nat.reduceSub, Nat.reduceMul, Nat.reduceLeDiff, Nat.reduceEqDiff, OP1, OP2, rel_ix (show i < os.length by omega), shl_nn (show rowAt os i < 1000000 by omega) (show 1 < 10 ^ 18 by decide)]
        simp only [EV1, EV2, EV3, EV4, EV5, EV6, EV7, EV8, EV9, EV10, EV11, EV12, EV13, EV14, EV15, EV16, EV17, vals, List.replicate, Nat.reduceBEq, Nat.reduceAdd, Nat.reduceLT, Nat.reduceSub, Nat.reduceMul, Nat.reduceLeDiff, Nat.reduceEqDiff, OP1, OP2]
        refine ⟨rfl, (List.range n).map fun i => 1 * 2 ^ rowAt os i, b4, _, _, ⟨by simp, fun x hx => ?_⟩, by rw [dRel, List.map_map]; rfl⟩
        obtain ⟨i, hi, rfl⟩ := List.mem_map.mp hx
        rw [Nat.one_mul]
        exact Nat.pow_lt_pow_right (by decide) (hat i (List.mem_range.mp hi))
      · simp only [EV1, EV2, EV3, EV4, EV5, EV6, EV7, EV8, EV9, EV10, EV11, EV12, EV13, EV14, EV15, EV16, EV17, vals, List.replicate, Nat.reduceBEq, Nat.reduceAdd, Nat.reduceLT, Nat.reduceSub, Nat.reduceMul, Nat.reduceLeDiff, Nat.reduceEqDiff, OP1, OP2, hz]
        exact ⟨rfl, r, b3, _, _, hr, rfl⟩
    · subst h0 hρ
      obtain ⟨e, h1, h2, h3, h4⟩ := least_is 65536 (idem_is hr hn1)
      have hn3 : n < 1000 := by omega
      have h3' : chainN (powN r e) (powN r e) = powN r e := h3
      have lp : ∀ k, (powN r k).length < 1000 := fun k => by rw [(pow_rel hr k).len]; omega
      have lpp : ∀ k, (chainN (powN r k) (powN r k)).length < 100000 := fun k => by rw [chain_len]; have := lp k; omega
      have lpb : ∀ k, (powN r k).length < 100000 := fun k => by have := lp k; omega
      simp only [EV1, EV2, EV3, EV4, EV5, EV6, EV7, EV8, EV9, EV10, EV11, EV12, EV13, EV14, EV15, EV16, EV17, vals, List.replicate, Nat.reduceBEq, Nat.reduceAdd, Nat.reduceLT, Nat.reduceSub, Nat.reduceMul, Nat.reduceLeDiff, Nat.reduceEqDiff, OP1, OP2, lsettled_run hr hn3 h1 h3 h4, settled_run hr hn3 h1 h3 h4, like_run (n := 6) (d := dN e) lk_int (by decide), decide_eq_true (rfl : e = e), power_run hr hn3, lchain_run (lp e) (lp e), neD_rels (lpp e) (lpb e), decide_eq_true h3', rng2_n (show 1 < 1000000 by decide) (show e < 1000000 by omega)]
      refine' Sat.stepI (loop_satJ (fun i ρ => ∃ x7 x8, ρ = R4 g b4 (some (.val d)) (vN n) (vD (dRel r)) x5 (vN e) x7 x8 x9 x10 x11 x12) ⟨_, _, rfl⟩ (fun i d' ρ hd' ⟨x7, x8, hρ⟩ => ?_)) (fun o ρ ⟨h0, x7, x8, hρ⟩ => ?_)
      · obtain ⟨hi, rfl⟩ := range_get hd'
        subst hρ
        have hne := h4 (1 + i) (by omega) (by omega)
        unfold idem at hne
        simp only [EV1, EV2, EV3, EV4, EV5, EV6, EV7, EV8, EV9, EV10, EV11, EV12, EV13, EV14, EV15, EV16, EV17, vals, List.replicate, Nat.reduceBEq, Nat.reduceAdd, Nat.reduceLT, Nat.reduceSub, Nat.reduceMul, Nat.reduceLeDiff, Nat.reduceEqDiff, OP1, OP2, power_run hr hn3, lchain_run (lp _) (lp _), eqD_rels (lpp _) (lpb _), decide_eq_false hne]
        exact ⟨rfl, _, _, rfl⟩
      · subst h0 hρ
        simp only [EV1, EV2, EV3, EV4, EV5, EV6, EV7, EV8, EV9, EV10, EV11, EV12, EV13, EV14, EV15, EV16, EV17, vals, List.replicate, Nat.reduceBEq, Nat.reduceAdd, Nat.reduceLT, Nat.reduceSub, Nat.reduceMul, Nat.reduceLeDiff, Nat.reduceEqDiff, OP1, OP2]
        exact ⟨rfl, _, _, _, _, _, _, _, _, _, _, _, _, rfl⟩
  · obtain ⟨h0, bx, x2, x3, x4, x5, x6, x7, x8, x9, x10, x11, x12, hρ⟩ := h
    subst h0 hρ
    simp only [EV1, EV2, EV3, EV4, EV5, EV6, EV7, EV8, EV9, EV10, EV11, EV12, EV13, EV14, EV15, EV16, EV17, vals, List.replicate, Nat.reduceBEq, Nat.reduceAdd, Nat.reduceLT, Nat.reduceSub, Nat.reduceMul, Nat.reduceLeDiff, Nat.reduceEqDiff, OP1, OP2]
    generalize hds : ([dN 3, dN 4, dN 5] : List D) = ds
    refine' Sat.stepI (loop_satJ (fun i ρ => ∃ x11 x12, ρ = R4 g bx x2 x3 x4 x5 x6 x7 x8 (vD (.lst ((wideN i).map dN))) (vD (.lst ds)) x11 x12) ⟨_, _, rfl⟩ (fun i d ρ hd ⟨x11, x12, hρ⟩ => ?_)) (fun o ρ ⟨h0, x11, x12, hρ⟩ => ?_)
    · subst hρ
      obtain ⟨hi, rfl⟩ : i < 3 ∧ d = dN (3 + i) := by
        rw [← hds] at hd
        match i, hd with
        | 0, h => cases h; exact ⟨by decide, rfl⟩
        | 1, h => cases h; exact ⟨by decide, rfl⟩
        | 2, h => cases h; exact ⟨by decide, rfl⟩
      have hw : (wideN i).length < 100 := by
        match i, hi with
        | 0, _ => decide
        | 1, _ => decide
        | 2, _ => decide
      clear hd
      simp only [EV1, EV2, EV3, EV4, EV5, EV6, EV7, EV8, EV9, EV10, EV11, EV12, EV13, EV14, EV15, EV16, EV17, vals, List.replicate, Nat.reduceBEq, Nat.reduceAdd, Nat.reduceLT, Nat.reduceSub, Nat.reduceMul, Nat.reduceLeDiff, Nat.reduceEqDiff, OP1, OP2, rng1_n (show 3 + i < 1000000 by omega)]
      refine' Sat.step (lcL_mapS (r := fun j => dN (1 * 2 ^ ((wideN i).length + (j + 1) % (3 + i)))) (fun j hj => ?_) (by simp; omega)) ?_
      · have hm := Nat.mod_lt (j + 1) (show 0 < 3 + i by omega)
        simp only [EV1, EV2, EV3, EV4, EV5, EV6, EV7, EV8, EV9, EV10, EV11, EV12, EV13, EV14, EV15, EV16, EV17, vals, List.replicate, Nat.reduceBEq, Nat.reduceAdd, Nat.reduceLT, Nat.reduceSub, Nat.reduceMul, Nat.reduceLeDiff, Nat.reduceEqDiff, OP1, OP2, List.length_map, mod_nn (show 0 < 3 + i by omega), shl_nn (show (wideN i).length + (j + 1) % (3 + i) < 1000000 by omega) (show 1 < 10 ^ 18 by decide)]
      simp only [EV1, EV2, EV3, EV4, EV5, EV6, EV7, EV8, EV9, EV10, EV11, EV12, EV13, EV14, EV15, EV16, EV17, vals, List.replicate, Nat.reduceBEq, Nat.reduceAdd, Nat.reduceLT, Nat.reduceSub, Nat.reduceMul, Nat.reduceLeDiff, Nat.reduceEqDiff, OP1, OP2, addL_r (show ((wideN i).map dN).length + ((List.range (3 + i)).map fun j => dN (1 * 2 ^ ((wideN i).length + (j + 1) % (3 + i)))).length < 100000 by simp; omega), wide_snoc]
      exact ⟨rfl, _, _, rfl⟩
    · subst h0 hρ
      have s60 : F_settled [dRel (wideN 3)] [bx.o] = .ok (dN 60) [bx.o] := settled_by (m := 59) w12 (by decide) go60
      have s12 : F_settled [dRel ((wideN 3).take 7)] [bx.o] = .ok (dN 12) [bx.o] := settled_by (m := 11) w7 (by decide) go12
      have s1 : F_settled [.tup [dN 1]] [bx.o] = .ok (dN 1) [bx.o] := settled_by (n := 1) (r := [1]) (m := 0) ⟨rfl, by decide⟩ (by decide) (by decide)
      have s2 : F_settled [.tup [dN 2, dN 1]] [bx.o] = .ok (dN 2) [bx.o] := settled_by (n := 2) (r := [2, 1]) (m := 1) ⟨rfl, by decide⟩ (by decide) (by decide)
      have s3 : F_settled [.tup [dN 0, dN 1]] [bx.o] = .ok (dN 2) [bx.o] := settled_by (n := 2) (r := [0, 1]) (m := 1) ⟨rfl, by decide⟩ (by decide) (by decide)
      have s4 : F_settled [.tup [dN 2, dN 4, dN 1]] [bx.o] = .ok (dN 3) [bx.o] := settled_by (n := 3) (r := [2, 4, 1]) (m := 2) ⟨rfl, by decide⟩ (by decide) (by decide)
      have hl : ds.length = 3 := by rw [← hds]; rfl
      have ht : ((wideN 3).map dN).take 7 = ((wideN 3).take 7).map dN := (List.map_take ..).symm
      have hq : eqD (.lst [dN 1, dN 2, dN 2, dN 3]) (.lst [dN 1, dN 2, dN 2, dN 3]) = some (.bl true) := eqD_refl (k := false) (n := 3) (lk_lst (by decide) (lk_all_map (f := dN) (xs := [1, 2, 2, 3]) fun _ _ => lk_int)) (by decide)
      rw [hl]
      simp only [EV1, EV2, EV3, EV4, EV5, EV6, EV7, EV8, EV9, EV10, EV11, EV12, EV13, EV14, EV15, EV16, EV17, vals, List.replicate, Nat.reduceBEq, Nat.reduceAdd, Nat.reduceLT, Nat.reduceSub, Nat.reduceMul, Nat.reduceLeDiff, Nat.reduceEqDiff, OP1, OP2, s60, slL_to (show 7 ≤ ((wideN 3).map dN).length by rw [List.length_map]; decide), ht, s12, s1, s2, s3, s4, hq]
      try exact rfl
end
end Nc

namespace Nc
open PySem PySem.Spec PyProof.Rows L2
/-! ### the text -/
def topS (i : Nat) : Stmt := PySem.Challenge.pw_nearclerk_k04_exponents_that_settle.main.body.getD i (.Pass ⟨0, 0, 0, 0⟩)
abbrev s_identity : Stmt := topS 1
abbrev N_identity : List Str := ["states", "state"]
theorem sc_identity : FnScope N_identity ["states"] (defScope s_identity) := ⟨rfl, rfl, rfl, by decide +kernel, rfl, by decide +kernel, by decide +kernel⟩
abbrev s_bits_of : Stmt := topS 2
abbrev N_bits_of : List Str := ["row", "states", "state"]
theorem sc_bits_of : FnScope N_bits_of ["row", "states"] (defScope s_bits_of) := ⟨rfl, rfl, rfl, by decide +kernel, rfl, by decide +kernel, by decide +kernel⟩
abbrev s_image : Stmt := topS 3
abbrev N_image : List Str := ["row", "relation", "found", "state"]
theorem sc_image : FnScope N_image ["row", "relation"] (defScope s_image) := ⟨rfl, rfl, rfl, by decide +kernel, rfl, by decide +kernel, by decide +kernel⟩
abbrev s_joined : Stmt := topS 4
abbrev N_joined : List Str := ["one", "other", "row"]
theorem sc_joined : FnScope N_joined ["one", "other"] (defScope s_joined) := ⟨rfl, rfl, rfl, by decide +kernel, rfl, by decide +kernel, by decide +kernel⟩
abbrev s_power : Stmt := topS 5
abbrev N_power : List Str := ["relation", "exponent", "found", "square", "left"]
theorem sc_power : FnScope N_power ["relation", "exponent"] (defScope s_power) := ⟨rfl, rfl, rfl, by decide +kernel, rfl, by decide +kernel, by decide +kernel⟩
abbrev s_is_settled : Stmt := topS 6
abbrev N_is_settled : List Str := ["relation"]
theorem sc_is_settled : FnScope N_is_settled ["relation"] (defScope s_is_settled) := ⟨rfl, rfl, rfl, by decide +kernel, rfl, by decide +kernel, by decide +kernel⟩
abbrev s_settled : Stmt := topS 7
abbrev N_settled : List Str := ["relation", "exponent", "found"]
theorem sc_settled : FnScope N_settled ["relation"] (defScope s_settled) := ⟨rfl, rfl, rfl, by decide +kernel, rfl, by decide +kernel, by decide +kernel⟩
abbrev s_law_open : Stmt := topS 9
abbrev N_law_open : List Str := ["_law_script", "_law_cells", "_law_salt", "_law_cell"]
theorem sc_law_open : FnScope N_law_open ["_law_script"] (defScope s_law_open) := ⟨rfl, rfl, rfl, by decide +kernel, rfl, by decide +kernel, by decide +kernel⟩
abbrev s_law_pull : Stmt := topS 10
abbrev N_law_pull : List Str := ["_law_box", "_law_many", "_law_cell", "_law_one", "_law_two", "_law_drawn"]
theorem sc_law_pull : FnScope N_law_pull ["_law_box", "_law_many"] (defScope s_law_pull) := ⟨rfl, rfl, rfl, by decide +kernel, rfl, by decide +kernel, by decide +kernel⟩
abbrev s_law_mixed : Stmt := topS 11
abbrev N_law_mixed : List Str := ["_law_box", "_law_row", "_law_left", "_law_found"]
theorem sc_law_mixed : FnScope N_law_mixed ["_law_box", "_law_row"] (defScope s_law_mixed) := ⟨rfl, rfl, rfl, by decide +kernel, rfl, by decide +kernel, by decide +kernel⟩
abbrev s_law_like : Stmt := topS 12
abbrev N_law_like : List Str := ["_law_found", "_law_due", "_law_at"]
theorem sc_law_like : FnScope N_law_like ["_law_found", "_law_due"] (defScope s_law_like) := ⟨rfl, rfl, rfl, by decide +kernel, rfl, by decide +kernel, by decide +kernel⟩
abbrev s_law_image : Stmt := topS 13
abbrev N_law_image : List Str := ["_law_row", "_law_rel", "_law_found", "_law_state"]
theorem sc_law_image : FnScope N_law_image ["_law_row", "_law_rel"] (defScope s_law_image) := ⟨rfl, rfl, rfl, by decide +kernel, rfl, by decide +kernel, by decide +kernel⟩
abbrev s_law_chain : Stmt := topS 14
abbrev N_law_chain : List Str := ["_law_one", "_law_other", "_law_row"]
theorem sc_law_chain : FnScope N_law_chain ["_law_one", "_law_other"] (defScope s_law_chain) := ⟨rfl, rfl, rfl, by decide +kernel, rfl, by decide +kernel, by decide +kernel⟩
abbrev s_law_settled : Stmt := topS 15
abbrev N_law_settled : List Str := ["_law_rel", "_law_found", "_law_many"]
theorem sc_law_settled : FnScope N_law_settled ["_law_rel"] (defScope s_law_settled) := ⟨rfl, rfl, rfl, by decide +kernel, rfl, by decide +kernel, by decide +kernel⟩
abbrev s_law_pairs : Stmt := topS 16
abbrev N_law_pairs : List Str := ["_law_box", "_law_many", "_law_top", "_law_at"]
theorem sc_law_pairs : FnScope N_law_pairs ["_law_box", "_law_many", "_law_top"] (defScope s_law_pairs) := ⟨rfl, rfl, rfl, by decide +kernel, rfl, by decide +kernel, by decide +kernel⟩
abbrev s_law_rel_of : Stmt := topS 17
abbrev N_law_rel_of : List Str := ["_law_many", "_law_pairs_here", "_law_rows", "_law_one", "_law_other"]
theorem sc_law_rel_of : FnScope N_law_rel_of ["_law_many", "_law_pairs_here"] (defScope s_law_rel_of) := ⟨rfl, rfl, rfl, by decide +kernel, rfl, by decide +kernel, by decide +kernel⟩
abbrev s_law : Stmt := topS 18
abbrev N_law : List Str := ["_law_script", "_law_box", "_law_turn", "_law_many", "_law_rel", "_law_order", "_law_due", "_law_found", "_law_less", "_law_wide", "_law_sizes", "_law_size", "_law_at"]
theorem sc_law : FnScope N_law ["_law_script"] (defScope s_law) := ⟨rfl, rfl, rfl, by decide +kernel, rfl, by decide +kernel, by decide +kernel⟩
/-- what the top leaves -/
structure Facts (K : PySem.W.Frag) (mg : Str → Option Value) where
  f_identity : Addr
  fd_identity : FuncData
  U_identity : Fun K "identity" "identity" s_identity f_identity fd_identity
  g_identity : mg "identity" = some (.ref f_identity)
  f_bits_of : Addr
  fd_bits_of : FuncData
  U_bits_of : Fun K "bits_of" "bits_of" s_bits_of f_bits_of fd_bits_of
  g_bits_of : mg "bits_of" = some (.ref f_bits_of)
  f_image : Addr
  fd_image : FuncData
  U_image : Fun K "image" "image" s_image f_image fd_image
  g_image : mg "image" = some (.ref f_image)
  f_joined : Addr
  fd_joined : FuncData
  U_joined : Fun K "joined" "joined" s_joined f_joined fd_joined
  g_joined : mg "joined" = some (.ref f_joined)
  f_power : Addr
  fd_power : FuncData
  U_power : Fun K "power" "power" s_power f_power fd_power
  g_power : mg "power" = some (.ref f_power)
  f_is_settled : Addr
  fd_is_settled : FuncData
  U_is_settled : Fun K "is_settled" "is_settled" s_is_settled f_is_settled fd_is_settled
  g_is_settled : mg "is_settled" = some (.ref f_is_settled)
  f_settled : Addr
  fd_settled : FuncData
  U_settled : Fun K "settled" "settled" s_settled f_settled fd_settled
  g_settled : mg "settled" = some (.ref f_settled)
  f_law_open : Addr
  fd_law_open : FuncData
  U_law_open : Fun K "_law_open" "_law_open" s_law_open f_law_open fd_law_open
  g_law_open : mg "_law_open" = some (.ref f_law_open)
  f_law_pull : Addr
  fd_law_pull : FuncData
  U_law_pull : Fun K "_law_pull" "_law_pull" s_law_pull f_law_pull fd_law_pull
  g_law_pull : mg "_law_pull" = some (.ref f_law_pull)
  f_law_mixed : Addr
  fd_law_mixed : FuncData
  U_law_mixed : Fun K "_law_mixed" "_law_mixed" s_law_mixed f_law_mixed fd_law_mixed
  g_law_mixed : mg "_law_mixed" = some (.ref f_law_mixed)
  f_law_like : Addr
  fd_law_like : FuncData
  U_law_like : Fun K "_law_like" "_law_like" s_law_like f_law_like fd_law_like
  g_law_like : mg "_law_like" = some (.ref f_law_like)
  f_law_image : Addr
  fd_law_image : FuncData
  U_law_image : Fun K "_law_image" "_law_image" s_law_image f_law_image fd_law_image
  g_law_image : mg "_law_image" = some (.ref f_law_image)
  f_law_chain : Addr
  fd_law_chain : FuncData
  U_law_chain : Fun K "_law_chain" "_law_chain" s_law_chain f_law_chain fd_law_chain
  g_law_chain : mg "_law_chain" = some (.ref f_law_chain)
  f_law_settled : Addr
  fd_law_settled : FuncData
  U_law_settled : Fun K "_law_settled" "_law_settled" s_law_settled f_law_settled fd_law_settled
  g_law_settled : mg "_law_settled" = some (.ref f_law_settled)
  f_law_pairs : Addr
  fd_law_pairs : FuncData
  U_law_pairs : Fun K "_law_pairs" "_law_pairs" s_law_pairs f_law_pairs fd_law_pairs
  g_law_pairs : mg "_law_pairs" = some (.ref f_law_pairs)
  f_law_rel_of : Addr
  fd_law_rel_of : FuncData
  U_law_rel_of : Fun K "_law_rel_of" "_law_rel_of" s_law_rel_of f_law_rel_of fd_law_rel_of
  g_law_rel_of : mg "_law_rel_of" = some (.ref f_law_rel_of)
  f_law : Addr
  fd_law : FuncData
  U_law : Fun K "law" "law" s_law f_law fd_law
  g_law : mg "law" = some (.ref f_law)
  m_all : mg "all" = none
  m_bool : mg "bool" = none
  m_int : mg "int" = none
  m_isinstance : mg "isinstance" = none
  m_len : mg "len" = none
  m_list : mg "list" = none
  m_range : mg "range" = none
  m_tuple : mg "tuple" = none
section
variable {P : Program} {w : World} {K : PySem.W.Frag} {mg : Str → Option Value} {base : Heap}
theorem Facts.kp_identity (W : Facts K mg) : PySem.W.keepIn K (.ref W.f_identity) = true := W.U_identity.kp
theorem Facts.b_identity (W : Facts K mg) : Binds K W.fd_identity ["states"] [] := W.U_identity.binds (ps := ["states"]) fun _ _ _ _ _ _ us hl => match us, hl with | [_], _ => rfl
theorem Facts.kp_bits_of (W : Facts K mg) : PySem.W.keepIn K (.ref W.f_bits_of) = true := W.U_bits_of.kp
theorem Facts.b_bits_of (W : Facts K mg) : Binds K W.fd_bits_of ["row", "states"] [] := W.U_bits_of.binds (ps := ["row", "states"]) fun _ _ _ _ _ _ us hl => match us, hl with | [_, _], _ => rfl
theorem Facts.kp_image (W : Facts K mg) : PySem.W.keepIn K (.ref W.f_image) = true := W.U_image.kp
theorem Facts.b_image (W : Facts K mg) : Binds K W.fd_image ["row", "relation"] [] := W.U_image.binds (ps := ["row", "relation"]) fun _ _ _ _ _ _ us hl => match us, hl with | [_, _], _ => rfl
theorem Facts.kp_joined (W : Facts K mg) : PySem.W.keepIn K (.ref W.f_joined) = true := W.U_joined.kp
theorem Facts.b_joined (W : Facts K mg) : Binds K W.fd_joined ["one", "other"] [] := W.U_joined.binds (ps := ["one", "other"]) fun _ _ _ _ _ _ us hl => match us, hl with | [_, _], _ => rfl
theorem Facts.kp_power (W : Facts K mg) : PySem.W.keepIn K (.ref W.f_power) = true := W.U_power.kp
theorem Facts.b_power (W : Facts K mg) : Binds K W.fd_power ["relation", "exponent"] [] := W.U_power.binds (ps := ["relation", "exponent"]) fun _ _ _ _ _ _ us hl => match us, hl with | [_, _], _ => rfl
theorem Facts.kp_is_settled (W : Facts K mg) : PySem.W.keepIn K (.ref W.f_is_settled) = true := W.U_is_settled.kp
theorem Facts.b_is_settled (W : Facts K mg) : Binds K W.fd_is_settled ["relation"] [] := W.U_is_settled.binds (ps := ["relation"]) fun _ _ _ _ _ _ us hl => match us, hl with | [_], _ => rfl
theorem Facts.kp_settled (W : Facts K mg) : PySem.W.keepIn K (.ref W.f_settled) = true := W.U_settled.kp
theorem Facts.b_settled (W : Facts K mg) : Binds K W.fd_settled ["relation"] [] := W.U_settled.binds (ps := ["relation"]) fun _ _ _ _ _ _ us hl => match us, hl with | [_], _ => rfl
theorem Facts.kp_law_open (W : Facts K mg) : PySem.W.keepIn K (.ref W.f_law_open) = true := W.U_law_open.kp
theorem Facts.b_law_open (W : Facts K mg) : Binds K W.fd_law_open ["_law_script"] [] := W.U_law_open.binds (ps := ["_law_script"]) fun _ _ _ _ _ _ us hl => match us, hl with | [_], _ => rfl
theorem Facts.kp_law_pull (W : Facts K mg) : PySem.W.keepIn K (.ref W.f_law_pull) = true := W.U_law_pull.kp
theorem Facts.b_law_pull (W : Facts K mg) : Binds K W.fd_law_pull ["_law_box", "_law_many"] [] := W.U_law_pull.binds (ps := ["_law_box", "_law_many"]) fun _ _ _ _ _ _ us hl => match us, hl with | [_, _], _ => rfl
theorem Facts.kp_law_mixed (W : Facts K mg) : PySem.W.keepIn K (.ref W.f_law_mixed) = true := W.U_law_mixed.kp
theorem Facts.b_law_mixed (W : Facts K mg) : Binds K W.fd_law_mixed ["_law_box", "_law_row"] [] := W.U_law_mixed.binds (ps := ["_law_box", "_law_row"]) fun _ _ _ _ _ _ us hl => match us, hl with | [_, _], _ => rfl
theorem Facts.kp_law_like (W : Facts K mg) : PySem.W.keepIn K (.ref W.f_law_like) = true := W.U_law_like.kp
theorem Facts.b_law_like (W : Facts K mg) : Binds K W.fd_law_like ["_law_found", "_law_due"] [] := W.U_law_like.binds (ps := ["_law_found", "_law_due"]) fun _ _ _ _ _ _ us hl => match us, hl with | [_, _], _ => rfl
theorem Facts.kp_law_image (W : Facts K mg) : PySem.W.keepIn K (.ref W.f_law_image) = true := W.U_law_image.kp
theorem Facts.b_law_image (W : Facts K mg) : Binds K W.fd_law_image ["_law_row", "_law_rel"] [] := W.U_law_image.binds (ps := ["_law_row", "_law_rel"]) fun _ _ _ _ _ _ us hl => match us, hl with | [_, _], _ => rfl
theorem Facts.kp_law_chain (W : Facts K mg) : PySem.W.keepIn K (.ref W.f_law_chain) = true := W.U_law_chain.kp
theorem Facts.b_law_chain (W : Facts K mg) : Binds K W.fd_law_chain ["_law_one", "_law_other"] [] := W.U_law_chain.binds (ps := ["_law_one", "_law_other"]) fun _ _ _ _ _ _ us hl => match us, hl with | [_, _], _ => rfl
theorem Facts.kp_law_settled (W : Facts K mg) : PySem.W.keepIn K (.ref W.f_law_settled) = true := W.U_law_settled.kp
theorem Facts.b_law_settled (W : Facts K mg) : Binds K W.fd_law_settled ["_law_rel"] [] := W.U_law_settled.binds (ps := ["_law_rel"]) fun _ _ _ _ _ _ us hl => match us, hl with | [_], _ => rfl
theorem Facts.kp_law_pairs (W : Facts K mg) : PySem.W.keepIn K (.ref W.f_law_pairs) = true := W.U_law_pairs.kp
theorem Facts.b_law_pairs (W : Facts K mg) : Binds K W.fd_law_pairs ["_law_box", "_law_many", "_law_top"] [] := W.U_law_pairs.binds (ps := ["_law_box", "_law_many", "_law_top"]) fun _ _ _ _ _ _ us hl => match us, hl with | [_, _, _], _ => rfl
theorem Facts.kp_law_rel_of (W : Facts K mg) : PySem.W.keepIn K (.ref W.f_law_rel_of) = true := W.U_law_rel_of.kp
theorem Facts.b_law_rel_of (W : Facts K mg) : Binds K W.fd_law_rel_of ["_law_many", "_law_pairs_here"] [] := W.U_law_rel_of.binds (ps := ["_law_many", "_law_pairs_here"]) fun _ _ _ _ _ _ us hl => match us, hl with | [_, _], _ => rfl
theorem Facts.kb_settled_0_relation (W : Facts K mg) : KBinds K W.fd_settled ["relation"] ["relation"] (kwG 0 1 [0]) (kwG 0 1 [0]) := kbinds_of W.U_settled (ps := ["relation"]) (ks := ["relation"]) (p := 0) (n := 1) (perm := [0]) (by simp) (fun _ _ _ _ _ _ us ws h1 h2 => match us, ws, h1, h2 with | [], [w0], _, _ => rfl)
/-! identity -/
theorem ok_identity (W : Facts K mg) : FnOk P w K mg base (L2.CX P w) 1 W.f_identity W.fd_identity ["states"] (spD K F_identity) := by
  refine W.U_identity.okX (k := 0) sc_identity (spD_len fun ss g e => runB_len e) (fun cdv A outer s H vs Q E hr h => ?_)
  have hu := hr.units
  exact ⟨_, (sd_one (sd_ret (pd_t1 c1_tuple call_tuple_of PyProof.Rows.boot_tuple (by rfl) W.m_tuple (pk_of (pd_new (pn_lc (by rfl) sc_identity.nd (pi_rng1 (by rfl) W.m_range (pd_var 0 (pv 0))) (blkOk_by (own := [("state", 1)]) (N := N_identity) (sc := defScope s_identity) (by decide +kernel)) (by decide) bndN_noex (fun _ _ _ _ _ => (gd_name (pg_name (i := 1) sc_identity.nd rfl (.inl rfl)))) (fun _ _ _ _ _ => pts_nilD) (fun _ _ _ _ _ => (pd_shl pd_int (pd_var 1 (pv 1)))))))))), body_end (N := N_identity) (X := cxOf (L2.CX P w) P w K mg base N_identity "identity" (defScope s_identity) W.f_identity cdv A outer s H E) h⟩
/-! bits_of -/
theorem ok_bits_of (W : Facts K mg) : FnOk P w K mg base (L2.CX P w) 1 W.f_bits_of W.fd_bits_of ["row", "states"] (spD K F_bits_of) := by
  refine W.U_bits_of.okX (k := 0) sc_bits_of (spD_len fun ss g e => runB_len e) (fun cdv A outer s H vs Q E hr h => ?_)
  have hu := hr.units
  exact ⟨_, (sd_one (sd_ret (pd_new (pn_lc (by rfl) sc_bits_of.nd (pi_rng1 (by rfl) W.m_range (pd_var 1 (pv 1))) (blkOk_by (own := [("state", 2)]) (N := N_bits_of) (sc := defScope s_bits_of) (by decide +kernel)) (by decide) bndN_noex (fun _ _ _ _ _ => (gd_name (pg_name (i := 2) sc_bits_of.nd rfl (.inl rfl)))) (fun _ _ _ _ _ => (pts_oneD (pkt_eq hu (pk_of (pd_and (pd_shr (pd_var 0 (pv 0)) (pd_var 2 (pv 2))) pd_int)) (pk_of pd_int)))) (fun _ _ _ _ _ => (pd_var 2 (pv 2))))))), body_end (N := N_bits_of) (X := cxOf (L2.CX P w) P w K mg base N_bits_of "bits_of" (defScope s_bits_of) W.f_bits_of cdv A outer s H E) h⟩
/-! image -/
theorem ok_image (W : Facts K mg) : FnOk P w K mg base (L2.CX P w) 2 W.f_image W.fd_image ["row", "relation"] (spD K F_image) := by
  refine W.U_image.okX (k := 1) sc_image (spD_len fun ss g e => runB_len e) (fun cdv A outer s H vs Q E hr h => ?_)
  have hu := hr.units
  exact ⟨_, (sd_cons (sd_set pd_int (fun he => ps_set (i := 2) sc_image.nd rfl (.inl rfl) he))
    (sd_cons (sd_for (passes_of rfl) (by rfl) (pi_seq (pd_call (L2.FnOk.mono (ok_bits_of W) (by decide)) hr (by rfl) W.g_bits_of W.kp_bits_of W.b_bits_of (takes_of rfl rfl rfl rfl) (pl_cons (pd_var 0 (pv 0)) (pl_cons (pd_b1 c1_len (call_len_seq.or call_len_str) boot_len (by rfl) W.m_len (pk_var 1 (pv 1))) pl_nil)))) (gd_name (pg_name (i := 3) sc_image.nd rfl (.inl rfl))) bndN_noex (sd_one (sd_set (pd_or (pd_var 2 (pv 2)) (pk_ix (pk_var 1 (pv 1)) (pk_var 3 (pv 3)) (fun _ _ => rfl))) (fun he => ps_set (i := 2) sc_image.nd rfl (.inl rfl) he))))
    (sd_one (sd_ret (pd_var 2 (pv 2)))))), body_end (N := N_image) (X := cxOf (L2.CX P w) P w K mg base N_image "image" (defScope s_image) W.f_image cdv A outer s H E) h⟩
/-! joined -/
theorem ok_joined (W : Facts K mg) : FnOk P w K mg base (L2.CX P w) 3 W.f_joined W.fd_joined ["one", "other"] (spD K F_joined) := by
  refine W.U_joined.okX (k := 2) sc_joined (spD_len fun ss g e => runB_len e) (fun cdv A outer s H vs Q E hr h => ?_)
  have hu := hr.units
  exact ⟨_, (sd_one (sd_ret (pd_t1 c1_tuple call_tuple_of PyProof.Rows.boot_tuple (by rfl) W.m_tuple (pk_of (pd_new (pn_lc (by rfl) sc_joined.nd (pi_seq (pd_var 0 (pv 0))) (blkOk_by (own := [("row", 2)]) (N := N_joined) (sc := defScope s_joined) (by decide +kernel)) (by decide) bndN_noex (fun _ _ _ _ _ => (gd_name (pg_name (i := 2) sc_joined.nd rfl (.inl rfl)))) (fun _ _ _ _ _ => pts_nilD) (fun _ _ _ _ _ => (pd_call (L2.FnOk.mono (ok_image W) (by decide)) hr (by rfl) W.g_image W.kp_image W.b_image takes0 (pl_cons (pd_var 2 (pv 2)) (pl_cons (pd_var 1 (pv 1)) pl_nil)))))))))), body_end (N := N_joined) (X := cxOf (L2.CX P w) P w K mg base N_joined "joined" (defScope s_joined) W.f_joined cdv A outer s H E) h⟩
/-! power -/
theorem ok_power (W : Facts K mg) : FnOk P w K mg base (L2.CX P w) 4 W.f_power W.fd_power ["relation", "exponent"] (spD K F_power) := by
  refine W.U_power.okX (k := 3) sc_power (spD_len fun ss g e => runB_len e) (fun cdv A outer s H vs Q E hr h => ?_)
  have hu := hr.units
  exact ⟨_, (sd_cons (sd_par3 (fun ha => ps_par3 (by rfl) sc_power.nd rfl rfl rfl (by decide) (by decide) (by decide) rfl rfl rfl ha (by rfl)) (pl_cons (pd_call (L2.FnOk.mono (ok_identity W) (by decide)) hr (by rfl) W.g_identity W.kp_identity W.b_identity (takes_of rfl rfl rfl rfl) (pl_cons (pd_b1 c1_len (call_len_seq.or call_len_str) boot_len (by rfl) W.m_len (pk_var 0 (pv 0))) pl_nil)) (pl_cons (pd_var 0 (pv 0)) (pl_cons (pd_var 1 (pv 1)) pl_nil))))
    (sd_cons (sd_while (passes_of rfl) (pt_gt (pd_var 4 (pv 4)) pd_int) (sd_cons (sd_if (pkt_eq hu (pk_of (pd_and (pd_var 4 (pv 4)) pd_int)) (pk_of pd_int)) (sd_one (sd_set (pd_call (L2.FnOk.mono (ok_joined W) (by decide)) hr (by rfl) W.g_joined W.kp_joined W.b_joined (takes_of rfl rfl rfl rfl) (pl_cons (pd_var 2 (pv 2)) (pl_cons (pd_var 3 (pv 3)) pl_nil))) (fun he => ps_set (i := 2) sc_power.nd rfl (.inl rfl) he))) sd_nil)
    (sd_one (sd_par (fun ha => ps_par (by rfl) sc_power.nd rfl rfl (by decide) rfl rfl ha (by rfl)) (pl_cons (pd_call (L2.FnOk.mono (ok_joined W) (by decide)) hr (by rfl) W.g_joined W.kp_joined W.b_joined (takes_of rfl rfl rfl rfl) (pl_cons (pd_var 3 (pv 3)) (pl_cons (pd_var 3 (pv 3)) pl_nil))) (pl_cons (pd_shr (pd_var 4 (pv 4)) pd_int) pl_nil))))))
    (sd_one (sd_ret (pd_var 2 (pv 2)))))), body_end (N := N_power) (X := cxOf (L2.CX P w) P w K mg base N_power "power" (defScope s_power) W.f_power cdv A outer s H E) h⟩
/-! is_settled -/
theorem ok_is_settled (W : Facts K mg) : FnOk P w K mg base (L2.CX P w) 4 W.f_is_settled W.fd_is_settled ["relation"] (spD K F_is_settled) := by
  refine W.U_is_settled.okX (k := 3) sc_is_settled (spD_len fun ss g e => runB_len e) (fun cdv A outer s H vs Q E hr h => ?_)
  have hu := hr.units
  exact ⟨_, (sd_one (sd_ret (pk_eq hu (pk_of (pd_call (L2.FnOk.mono (ok_joined W) (by decide)) hr (by rfl) W.g_joined W.kp_joined W.b_joined (takes_of rfl rfl rfl rfl) (pl_cons (pd_var 0 (pv 0)) (pl_cons (pd_var 0 (pv 0)) pl_nil)))) (pk_var 0 (pv 0))))), body_end (N := N_is_settled) (X := cxOf (L2.CX P w) P w K mg base N_is_settled "is_settled" (defScope s_is_settled) W.f_is_settled cdv A outer s H E) h⟩
/-! settled -/
theorem ok_settled (W : Facts K mg) : FnOk P w K mg base (L2.CX P w) 5 W.f_settled W.fd_settled ["relation"] (spD K F_settled) := by
  refine W.U_settled.okX (k := 4) sc_settled (spD_len fun ss g e => runB_len e) (fun cdv A outer s H vs Q E hr h => ?_)
  have hu := hr.units
  exact ⟨_, (sd_cons (sd_par (fun ha => ps_par (by rfl) sc_settled.nd rfl rfl (by decide) rfl rfl ha (by rfl)) (pl_cons pd_int (pl_cons (pd_var 0 (pv 0)) pl_nil)))
    (sd_cons (sd_while (passes_of rfl) (pt_notD (pt_tst (pd_call (L2.FnOk.mono (ok_is_settled W) (by decide)) hr (by rfl) W.g_is_settled W.kp_is_settled W.b_is_settled (takes_of rfl rfl rfl rfl) (pl_cons (pd_var 2 (pv 2)) pl_nil)))) (sd_one (sd_par (fun ha => ps_par (by rfl) sc_settled.nd rfl rfl (by decide) rfl rfl ha (by rfl)) (pl_cons (pd_add (pd_var 1 (pv 1)) pd_int) (pl_cons (pd_call (L2.FnOk.mono (ok_joined W) (by decide)) hr (by rfl) W.g_joined W.kp_joined W.b_joined (takes_of rfl rfl rfl rfl) (pl_cons (pd_var 2 (pv 2)) (pl_cons (pd_var 0 (pv 0)) pl_nil))) pl_nil)))))
    (sd_one (sd_ret (pd_var 1 (pv 1)))))), body_end (N := N_settled) (X := cxOf (L2.CX P w) P w K mg base N_settled "settled" (defScope s_settled) W.f_settled cdv A outer s H E) h⟩
/-! law_open -/
theorem dv_law_open (W : Facts K mg) {cdv : Value} {A : Around} {outer : List Env} {s : Shared} {H : Hp} {E : XK} {f : Addr} (hr : Room 0 (A.deeper (envOfC "_law_open" (defScope s_law_open) s.heap.objs.size f cdv))) :
    PSs (cxOf (L2.CX P w) P w K mg base N_law_open "_law_open" (defScope s_law_open) f cdv A outer s H E) ((defBody s_law_open).drop 1) (tS K (fun cls d _ H => E cls d H) h_law_open) := by
  have hu := hr.units
  have z : ∃ t, PSs (cxOf (L2.CX P w) P w K mg base N_law_open "_law_open" (defScope s_law_open) f cdv A outer s H E) ((defBody s_law_open).drop 1) t ∧ t = tS K (fun cls d _ H => E cls d H) h_law_open := ⟨_, (sd_cons (sd_set (pd_add pd_int (pd_mul pd_int (pd_b1 c1_len (call_len_seq.or call_len_str) boot_len (by rfl) W.m_len (pk_var 1 (pv 1))))) (fun he => ps_set (i := 2) sc_law_open.nd rfl (.inl rfl) he))
    (sd_cons (sd_for (passes_of rfl) (by rfl) (pi_seq (pd_var 1 (pv 1))) (gd_name (pg_name (i := 3) sc_law_open.nd rfl (.inl rfl))) bndN_noex (sd_one (sd_set (pd_mod (pd_t1 c1_int call_int1 PyProof.Rows.boot_int (by rfl) W.m_int (pk_of (pd_add (pd_mul (pd_var 2 (pv 2)) pd_int) (pd_var 3 (pv 3))))) pd_int) (fun he => ps_set (i := 2) sc_law_open.nd rfl (.inl rfl) he))))
    (sd_one (sd_ret (pd_new (pn_lst (pl_cons (pd_var 1 (pv 1)) (pl_cons pd_int (pl_cons pd_int (pl_cons (pd_var 2 (pv 2)) pl_nil)))))))))), rfl⟩
  obtain ⟨t, z1, rfl⟩ := z
  exact z1
/-! law_pull -/
theorem ok_law_pull (W : Facts K mg) : FnOk P w K mg base (L2.CX P w) 1 W.f_law_pull W.fd_law_pull ["_law_box", "_law_many"] (spD K F_law_pull) := by
  refine W.U_law_pull.okX (k := 0) sc_law_pull (spD_len fun ss g e => runB_len e) (fun cdv A outer s H vs Q E hr h => ?_)
  have hu := hr.units
  exact ⟨_, (sd_cons (sd_if (pt_lt (pk_ix (pk_var 0 (pv 0)) (pk_of pd_int) (fun _ _ => rfl)) pd_int) (sd_cons (sd_item (pf_var 0 (pv 0)) pd_int (pd_add (pk_ix (pk_var 0 (pv 0)) (pk_of pd_int) (fun _ _ => rfl)) pd_int))
    (sd_cons (sd_set (pd_add (pk_ix (pk_var 0 (pv 0)) (pk_of pd_int) (fun _ _ => rfl)) (pd_mul (pk_ix (pk_var 0 (pv 0)) (pk_of pd_int) (fun _ _ => rfl)) pd_int)) (fun he => ps_set (i := 2) sc_law_pull.nd rfl (.inl rfl) he))
    (sd_cons (sd_if (pt_le (pk_ix (pk_var 0 (pv 0)) (pk_of pd_int) (fun _ _ => rfl)) (pd_b1 c1_len (call_len_seq.or call_len_str) boot_len (by rfl) W.m_len (pk_of (pk_ix (pk_var 0 (pv 0)) (pk_of pd_int) (fun _ _ => rfl))))) (sd_one (sd_set (pk_ix (pk_of (pk_ix (pk_var 0 (pv 0)) (pk_of pd_int) (fun _ _ => rfl))) (pk_of (pd_sub (pk_ix (pk_var 0 (pv 0)) (pk_of pd_int) (fun _ _ => rfl)) pd_int)) (fun _ _ => rfl)) (fun he => ps_set (i := 2) sc_law_pull.nd rfl (.inl rfl) he))) sd_nil)
    (sd_cons (sd_if (wd_or (pt_gt (pk_ix (pk_var 0 (pv 0)) (pk_of pd_int) (fun _ _ => rfl)) (pd_b1 c1_len (call_len_seq.or call_len_str) boot_len (by rfl) W.m_len (pk_of (pk_ix (pk_var 0 (pv 0)) (pk_of pd_int) (fun _ _ => rfl))))) (wd_or1 (pt_lt (pd_var 2 (pv 2)) (pd_pow pd_int pd_int)))).pt (sd_cons (sd_set (pd_mod (pd_t1 c1_int call_int1 PyProof.Rows.boot_int (by rfl) W.m_int (pk_of (pd_add (pd_add (pd_mul (pd_var 2 (pv 2)) pd_int) (pd_mul (pk_ix (pk_var 0 (pv 0)) (pk_of pd_int) (fun _ _ => rfl)) pd_int)) (pk_ix (pk_var 0 (pv 0)) (pk_of pd_int) (fun _ _ => rfl))))) pd_int) (fun he => ps_set (i := 3) sc_law_pull.nd rfl (.inl rfl) he))
    (sd_cons (sd_set (pd_mod (pd_t1 c1_int call_int1 PyProof.Rows.boot_int (by rfl) W.m_int (pk_of (pd_add (pd_mul (pd_var 3 (pv 3)) (pd_var 3 (pv 3))) (pd_mul (pk_ix (pk_var 0 (pv 0)) (pk_of pd_int) (fun _ _ => rfl)) pd_int)))) pd_int) (fun he => ps_set (i := 4) sc_law_pull.nd rfl (.inl rfl) he))
    (sd_one (sd_ret (pd_mod (pd_fdiv (pd_mod (pd_t1 c1_int call_int1 PyProof.Rows.boot_int (by rfl) W.m_int (pk_of (pd_add (pd_mul (pd_var 4 (pv 4)) pd_int) (pd_var 3 (pv 3))))) pd_int) pd_int) (pd_var 1 (pv 1))))))) sd_nil)
    (sd_one (sd_item (pf_var 0 (pv 0)) pd_int (pd_var 2 (pv 2)))))))) sd_nil)
    (sd_cons (sd_set (pd_mod (pd_t1 c1_int call_int1 PyProof.Rows.boot_int (by rfl) W.m_int (pk_of (pk_ix (pk_var 0 (pv 0)) (pk_of pd_int) (fun _ _ => rfl)))) (pd_var 1 (pv 1))) (fun he => ps_set (i := 5) sc_law_pull.nd rfl (.inl rfl) he))
    (sd_cons (sd_item (pf_var 0 (pv 0)) pd_int (pd_fdiv (pd_t1 c1_int call_int1 PyProof.Rows.boot_int (by rfl) W.m_int (pk_of (pk_ix (pk_var 0 (pv 0)) (pk_of pd_int) (fun _ _ => rfl)))) (pd_var 1 (pv 1))))
    (sd_one (sd_ret (pd_var 5 (pv 5))))))), body_end (N := N_law_pull) (X := cxOf (L2.CX P w) P w K mg base N_law_pull "_law_pull" (defScope s_law_pull) W.f_law_pull cdv A outer s H E) h⟩
/-! law_mixed -/
theorem ok_law_mixed (W : Facts K mg) : FnOk P w K mg base (L2.CX P w) 2 W.f_law_mixed W.fd_law_mixed ["_law_box", "_law_row"] (spD K F_law_mixed) := by
  refine W.U_law_mixed.okX (k := 1) sc_law_mixed (spD_len fun ss g e => runB_len e) (fun cdv A outer s H vs Q E hr h => ?_)
  have hu := hr.units
  exact ⟨_, (sd_cons (sn_par (fun ha => ps_par (by rfl) sc_law_mixed.nd rfl rfl (by decide) rfl rfl ha (by rfl)) (pn_t1 c1_list call_list_of PyProof.Rows.boot_list (by rfl) W.m_list (pk_var 1 (pv 1))) (pn_lst pl_nil))
    (sd_cons (sd_while (passes_of rfl) (pkt_ne hu (pk_var 2 (pv 2)) (pk_of (pd_new (pn_lst pl_nil)))) (sd_one (sd_expr (pm_append (pf_var 3 (pv 3)) (pm_popAt (pf_var 2 (pv 2)) (pd_call (L2.FnOk.mono (ok_law_pull W) (by decide)) hr (by rfl) W.g_law_pull W.kp_law_pull W.b_law_pull (takes_of rfl rfl rfl rfl) (pl_cons (pd_var 0 (pv 0)) (pl_cons (pd_b1 c1_len (call_len_seq.or call_len_str) boot_len (by rfl) W.m_len (pk_var 2 (pv 2))) pl_nil))))))))
    (sd_one (sd_ret (pd_var 3 (pv 3)))))), body_end (N := N_law_mixed) (X := cxOf (L2.CX P w) P w K mg base N_law_mixed "_law_mixed" (defScope s_law_mixed) W.f_law_mixed cdv A outer s H E) h⟩
/-! law_like -/
theorem okn_law_like (W : Facts K mg) : ∀ n : Nat, FnOk P w K mg base (L2.CX P w) (0 + n) W.f_law_like W.fd_law_like ["_law_found", "_law_due"] (spD K (Fn_law_like n))
  | 0 => ⟨spD_len (n := 2) fun ss g e => absurd rfl e, fun A outer s H args us vs Q E hr he hb hv hs => by
    obtain ⟨_, _, _, _, z⟩ := hs
    exact z.elim⟩
  | n + 1 => by
    refine W.U_law_like.okX sc_law_like (spD_len fun ss g e => runB_len e) (fun cdv A outer s H vs Q E hr h => ?_)
    have hu := hr.units
    exact ⟨_, (sd_cons (sd_if (pt_tst (pd_isi2 (by rfl) W.m_isinstance (pk_var 1 (pv 1)) (by rfl) W.m_list PyProof.Rows.boot_list (by rfl) W.m_tuple PyProof.Rows.boot_tuple)) (sd_cons (sd_if (wd_or (pkt_ne hu (pk_of (pd_isi (by rfl) W.m_isinstance (pk_var 0 (pv 0)) (by rfl) W.m_list PyProof.Rows.boot_list)) (pk_of (pd_isi (by rfl) W.m_isinstance (pk_var 1 (pv 1)) (by rfl) W.m_list PyProof.Rows.boot_list))) (wd_or1 (pkt_ne hu (pk_of (pd_isi (by rfl) W.m_isinstance (pk_var 0 (pv 0)) (by rfl) W.m_tuple PyProof.Rows.boot_tuple)) (pk_of (pd_isi (by rfl) W.m_isinstance (pk_var 1 (pv 1)) (by rfl) W.m_tuple PyProof.Rows.boot_tuple))))).pt (sd_one (sd_ret pd_bl)) sd_nil)
    (sd_one (sd_ret (pd_andV (pk_eq hu (pk_of (pd_b1 c1_len (call_len_seq.or call_len_str) boot_len (by rfl) W.m_len (pk_var 0 (pv 0)))) (pk_of (pd_b1 c1_len (call_len_seq.or call_len_str) boot_len (by rfl) W.m_len (pk_var 1 (pv 1))))) (pd_one (pd_b1 c1_all (cr_all rfl) (by decide +kernel) (by rfl) W.m_all (pk_of (pd_new (pn_lc (by rfl) sc_law_like.nd (pi_rng1 (by rfl) W.m_range (pd_b1 c1_len (call_len_seq.or call_len_str) boot_len (by rfl) W.m_len (pk_var 1 (pv 1)))) (blkOk_by (own := [("_law_at", 2)]) (N := N_law_like) (sc := defScope s_law_like) (by decide +kernel)) (by decide) bndN_noex (fun _ _ _ _ _ => (gd_name (pg_name (i := 2) sc_law_like.nd rfl (.inl rfl)))) (fun _ _ _ _ _ => pts_nilD) (fun _ _ _ _ _ => (pd_call (okn_law_like W n) hr (by rfl) W.g_law_like W.kp_law_like W.b_law_like takes0 (pl_cons (pk_ix (pk_var 0 (pv 0)) (pk_var 2 (pv 2)) (fun _ _ => rfl)) (pl_cons (pk_ix (pk_var 1 (pv 1)) (pk_var 2 (pv 2)) (fun _ _ => rfl)) pl_nil))))))))))))) sd_nil)
    (sd_cons (sd_if (wd_or (pt_tst (pd_isi2 (by rfl) W.m_isinstance (pk_var 0 (pv 0)) (by rfl) W.m_list PyProof.Rows.boot_list (by rfl) W.m_tuple PyProof.Rows.boot_tuple)) (wd_or1 (pkt_ne hu (pk_of (pd_isi (by rfl) W.m_isinstance (pk_var 0 (pv 0)) (by rfl) W.m_bool PyProof.Rows.boot_bool)) (pk_of (pd_isi (by rfl) W.m_isinstance (pk_var 1 (pv 1)) (by rfl) W.m_bool PyProof.Rows.boot_bool))))).pt (sd_one (sd_ret pd_bl)) sd_nil)
    (sd_one (sd_ret (pk_eq hu (pk_var 0 (pv 0)) (pk_var 1 (pv 1))))))), body_end (N := N_law_like) (X := cxOf (L2.CX P w) P w K mg base N_law_like "_law_like" (defScope s_law_like) W.f_law_like cdv A outer s H E) h⟩
theorem ok_law_like (W : Facts K mg) : FnOk P w K mg base (L2.CX P w) 6 W.f_law_like W.fd_law_like ["_law_found", "_law_due"] (spD K F_law_like) := okn_law_like W 6
/-! law_image -/
theorem ok_law_image (W : Facts K mg) : FnOk P w K mg base (L2.CX P w) 1 W.f_law_image W.fd_law_image ["_law_row", "_law_rel"] (spD K F_law_image) := by
  refine W.U_law_image.okX (k := 0) sc_law_image (spD_len fun ss g e => runB_len e) (fun cdv A outer s H vs Q E hr h => ?_)
  have hu := hr.units
  exact ⟨_, (sd_cons (sd_set pd_int (fun he => ps_set (i := 2) sc_law_image.nd rfl (.inl rfl) he))
    (sd_cons (sd_for (passes_of rfl) (by rfl) (pi_rng1 (by rfl) W.m_range (pd_b1 c1_len (call_len_seq.or call_len_str) boot_len (by rfl) W.m_len (pk_var 1 (pv 1)))) (gd_name (pg_name (i := 3) sc_law_image.nd rfl (.inl rfl))) bndN_noex (sd_one (sd_if (pkt_eq hu (pk_of (pd_and (pd_shr (pd_var 0 (pv 0)) (pd_var 3 (pv 3))) pd_int)) (pk_of pd_int)) (sd_one (sd_set (pd_or (pd_var 2 (pv 2)) (pk_ix (pk_var 1 (pv 1)) (pk_var 3 (pv 3)) (fun _ _ => rfl))) (fun he => ps_set (i := 2) sc_law_image.nd rfl (.inl rfl) he))) sd_nil)))
    (sd_one (sd_ret (pd_var 2 (pv 2)))))), body_end (N := N_law_image) (X := cxOf (L2.CX P w) P w K mg base N_law_image "_law_image" (defScope s_law_image) W.f_law_image cdv A outer s H E) h⟩
/-! law_chain -/
theorem ok_law_chain (W : Facts K mg) : FnOk P w K mg base (L2.CX P w) 2 W.f_law_chain W.fd_law_chain ["_law_one", "_law_other"] (spD K F_law_chain) := by
  refine W.U_law_chain.okX (k := 1) sc_law_chain (spD_len fun ss g e => runB_len e) (fun cdv A outer s H vs Q E hr h => ?_)
  have hu := hr.units
  exact ⟨_, (sd_one (sd_ret (pd_t1 c1_tuple call_tuple_of PyProof.Rows.boot_tuple (by rfl) W.m_tuple (pk_of (pd_new (pn_lc (by rfl) sc_law_chain.nd (pi_seq (pd_var 0 (pv 0))) (blkOk_by (own := [("_law_row", 2)]) (N := N_law_chain) (sc := defScope s_law_chain) (by decide +kernel)) (by decide) bndN_noex (fun _ _ _ _ _ => (gd_name (pg_name (i := 2) sc_law_chain.nd rfl (.inl rfl)))) (fun _ _ _ _ _ => pts_nilD) (fun _ _ _ _ _ => (pd_call (L2.FnOk.mono (ok_law_image W) (by decide)) hr (by rfl) W.g_law_image W.kp_law_image W.b_law_image takes0 (pl_cons (pd_var 2 (pv 2)) (pl_cons (pd_var 1 (pv 1)) pl_nil)))))))))), body_end (N := N_law_chain) (X := cxOf (L2.CX P w) P w K mg base N_law_chain "_law_chain" (defScope s_law_chain) W.f_law_chain cdv A outer s H E) h⟩
/-! law_settled -/
theorem ok_law_settled (W : Facts K mg) : FnOk P w K mg base (L2.CX P w) 3 W.f_law_settled W.fd_law_settled ["_law_rel"] (spD K F_law_settled) := by
  refine W.U_law_settled.okX (k := 2) sc_law_settled (spD_len fun ss g e => runB_len e) (fun cdv A outer s H vs Q E hr h => ?_)
  have hu := hr.units
  exact ⟨_, (sd_cons (sd_par (fun ha => ps_par (by rfl) sc_law_settled.nd rfl rfl (by decide) rfl rfl ha (by rfl)) (pl_cons (pd_var 0 (pv 0)) (pl_cons pd_int pl_nil)))
    (sd_cons (sd_while (passes_of rfl) (pkt_ne hu (pk_of (pd_call (L2.FnOk.mono (ok_law_chain W) (by decide)) hr (by rfl) W.g_law_chain W.kp_law_chain W.b_law_chain (takes_of rfl rfl rfl rfl) (pl_cons (pd_var 1 (pv 1)) (pl_cons (pd_var 1 (pv 1)) pl_nil)))) (pk_var 1 (pv 1))) (sd_one (sd_par (fun ha => ps_par (by rfl) sc_law_settled.nd rfl rfl (by decide) rfl rfl ha (by rfl)) (pl_cons (pd_call (L2.FnOk.mono (ok_law_chain W) (by decide)) hr (by rfl) W.g_law_chain W.kp_law_chain W.b_law_chain (takes_of rfl rfl rfl rfl) (pl_cons (pd_var 1 (pv 1)) (pl_cons (pd_var 0 (pv 0)) pl_nil))) (pl_cons (pd_add (pd_var 2 (pv 2)) pd_int) pl_nil)))))
    (sd_one (sd_ret (pd_var 2 (pv 2)))))), body_end (N := N_law_settled) (X := cxOf (L2.CX P w) P w K mg base N_law_settled "_law_settled" (defScope s_law_settled) W.f_law_settled cdv A outer s H E) h⟩
/-! law_pairs -/
theorem ok_law_pairs (W : Facts K mg) : FnOk P w K mg base (L2.CX P w) 2 W.f_law_pairs W.fd_law_pairs ["_law_box", "_law_many", "_law_top"] (spD K F_law_pairs) := by
  refine W.U_law_pairs.okX (k := 1) sc_law_pairs (spD_len fun ss g e => runB_len e) (fun cdv A outer s H vs Q E hr h => ?_)
  have hu := hr.units
  exact ⟨_, (sd_one (sd_ret (pd_new (pn_lc (by rfl) sc_law_pairs.nd (pi_rng1 (by rfl) W.m_range (pd_call (L2.FnOk.mono (ok_law_pull W) (by decide)) hr (by rfl) W.g_law_pull W.kp_law_pull W.b_law_pull (takes_of rfl rfl rfl rfl) (pl_cons (pd_var 0 (pv 0)) (pl_cons (pd_add (pd_var 2 (pv 2)) pd_int) pl_nil)))) (blkOk_by (own := [("_law_at", 3)]) (N := N_law_pairs) (sc := defScope s_law_pairs) (by decide +kernel)) (by decide) bndN_noex (fun _ _ _ _ _ => (gd_name (pg_name (i := 3) sc_law_pairs.nd rfl (.inl rfl)))) (fun _ _ _ _ _ => pts_nilD) (fun _ _ _ _ _ => (pd_tup (pl_cons (pd_call (L2.FnOk.mono (ok_law_pull W) (by decide)) hr (by rfl) W.g_law_pull W.kp_law_pull W.b_law_pull takes0 (pl_cons (pd_var 0 (pv 0)) (pl_cons (pd_var 1 (pv 1)) pl_nil))) (pl_cons (pd_call (L2.FnOk.mono (ok_law_pull W) (by decide)) hr (by rfl) W.g_law_pull W.kp_law_pull W.b_law_pull takes0 (pl_cons (pd_var 0 (pv 0)) (pl_cons (pd_var 1 (pv 1)) pl_nil))) pl_nil)))))))), body_end (N := N_law_pairs) (X := cxOf (L2.CX P w) P w K mg base N_law_pairs "_law_pairs" (defScope s_law_pairs) W.f_law_pairs cdv A outer s H E) h⟩
/-! law_rel_of -/
theorem ok_law_rel_of (W : Facts K mg) : FnOk P w K mg base (L2.CX P w) 1 W.f_law_rel_of W.fd_law_rel_of ["_law_many", "_law_pairs_here"] (spD K F_law_rel_of) := by
  refine W.U_law_rel_of.okX (k := 0) sc_law_rel_of (spD_len fun ss g e => runB_len e) (fun cdv A outer s H vs Q E hr h => ?_)
  have hu := hr.units
  exact ⟨_, (sd_cons (sn_set (pn_rep (pd_new (pn_lst (pl_cons pd_int pl_nil))) (pd_var 0 (pv 0))) (fun he => ps_set (i := 2) sc_law_rel_of.nd rfl (.inl rfl) he))
    (sd_cons (sd_for (passes_of rfl) (by rfl) (pi_seq (pd_var 1 (pv 1))) (gd_tup (by rfl) (gds_cons (pg_name (i := 3) sc_law_rel_of.nd rfl (.inl rfl)) (gds_cons (pg_name (i := 4) sc_law_rel_of.nd rfl (.inl rfl)) gds_nil))) bndT_noex (sd_one (sd_item (pf_var 2 (pv 2)) (pd_var 3 (pv 3)) (pd_or (pk_ix (pk_var 2 (pv 2)) (pk_var 3 (pv 3)) (fun _ _ => rfl)) (pd_shl pd_int (pd_var 4 (pv 4)))))))
    (sd_one (sd_ret (pd_t1 c1_tuple call_tuple_of PyProof.Rows.boot_tuple (by rfl) W.m_tuple (pk_var 2 (pv 2))))))), body_end (N := N_law_rel_of) (X := cxOf (L2.CX P w) P w K mg base N_law_rel_of "_law_rel_of" (defScope s_law_rel_of) W.f_law_rel_of cdv A outer s H E) h⟩
/-! law -/
theorem dv_law (W : Facts K mg) {cdv : Value} {A : Around} {outer : List Env} {s : Shared} {H : Hp} {E : XK} {f : Addr} (hr : Room 6 (A.deeper (envOfC "law" (defScope s_law) s.heap.objs.size f cdv))) :
    PSs (cxOf (L2.CX P w) P w K mg base N_law "law" (defScope s_law) f cdv A outer s H E) ((defBody s_law).drop 1) (tS K (fun cls d _ H => E cls d H) h_law_k04) := by
  have hu := hr.units
  have z : ∃ t, PSs (cxOf (L2.CX P w) P w K mg base N_law "law" (defScope s_law) f cdv A outer s H E) ((defBody s_law).drop 1) t ∧ t = tS K (fun cls d _ H => E cls d H) h_law_k04 := ⟨_, (sd_cons (sd_for (passes_of rfl) (by rfl) (pi_rng1 (by rfl) W.m_range pd_int) (gd_name (pg_name (i := 2) sc_law.nd rfl (.inl rfl))) bndN_noex (sd_cons (sd_set (pd_add pd_int (pd_call (L2.FnOk.mono (ok_law_pull W) (by decide)) hr (by rfl) W.g_law_pull W.kp_law_pull W.b_law_pull (takes_of rfl rfl rfl rfl) (pl_cons (pd_var 1 (pv 1)) (pl_cons pd_int pl_nil)))) (fun he => ps_set (i := 3) sc_law.nd rfl (.inl rfl) he))
    (sd_cons (sd_set (pd_call (L2.FnOk.mono (ok_law_rel_of W) (by decide)) hr (by rfl) W.g_law_rel_of W.kp_law_rel_of W.b_law_rel_of (takes_of rfl rfl rfl rfl) (pl_cons (pd_var 3 (pv 3)) (pl_cons (pd_call (L2.FnOk.mono (ok_law_pairs W) (by decide)) hr (by rfl) W.g_law_pairs W.kp_law_pairs W.b_law_pairs (takes_of rfl rfl rfl rfl) (pl_cons (pd_var 1 (pv 1)) (pl_cons (pd_var 3 (pv 3)) (pl_cons pd_int pl_nil)))) pl_nil))) (fun he => ps_set (i := 4) sc_law.nd rfl (.inl rfl) he))
    (sd_cons (sd_if (pkt_eq hu (pk_of (pd_call (L2.FnOk.mono (ok_law_pull W) (by decide)) hr (by rfl) W.g_law_pull W.kp_law_pull W.b_law_pull (takes_of rfl rfl rfl rfl) (pl_cons (pd_var 1 (pv 1)) (pl_cons pd_int pl_nil)))) (pk_of pd_int)) (sd_cons (sd_set (pd_call (L2.FnOk.mono (ok_law_mixed W) (by decide)) hr (by rfl) W.g_law_mixed W.kp_law_mixed W.b_law_mixed (takes_of rfl rfl rfl rfl) (pl_cons (pd_var 1 (pv 1)) (pl_cons (pd_new (pn_listRng (by rfl) (by rfl) W.m_list (by rfl) W.m_range (pd_var 3 (pv 3)))) pl_nil))) (fun he => ps_set (i := 5) sc_law.nd rfl (.inr rfl) he))
    (sd_one (sd_set (pd_t1 c1_tuple call_tuple_of PyProof.Rows.boot_tuple (by rfl) W.m_tuple (pk_of (pd_new (pn_lc (by rfl) sc_law.nd (pi_rng1 (by rfl) W.m_range (pd_var 3 (pv 3))) (blkOk_by (own := [("_law_at", 12)]) (N := N_law) (sc := defScope s_law) (by decide +kernel)) (by decide) bndN_noex (fun _ _ _ _ _ => (gd_name (pg_name (i := 12) sc_law.nd rfl (.inl rfl)))) (fun _ _ _ _ _ => pts_nilD) (fun _ _ _ _ _ => (pd_shl pd_int (pk_ix (pk_var 5 (pv 5)) (pk_var 12 (pv 12)) (fun _ _ => rfl)))))))) (fun he => ps_set (i := 4) sc_law.nd rfl (.inl rfl) he)))) sd_nil)
    (sd_cons (sd_set (pd_call (L2.FnOk.mono (ok_law_settled W) (by decide)) hr (by rfl) W.g_law_settled W.kp_law_settled W.b_law_settled (takes_of rfl rfl rfl rfl) (pl_cons (pd_var 4 (pv 4)) pl_nil)) (fun he => ps_set (i := 6) sc_law.nd rfl (.inl rfl) he))
    (sd_cons (sd_if (wd_or (pt_notD (pt_tst (pd_call (L2.FnOk.mono (ok_law_like W) (by decide)) hr (by rfl) W.g_law_like W.kp_law_like W.b_law_like (takes_of rfl rfl rfl rfl) (pl_cons (pd_call (L2.FnOk.mono (ok_settled W) (by decide)) hr (by rfl) W.g_settled W.kp_settled W.b_settled (takes_of rfl rfl rfl rfl) (pl_cons (pd_var 4 (pv 4)) pl_nil)) (pl_cons (pd_var 6 (pv 6)) pl_nil))))) (wd_or1 (pkt_ne hu (pk_of (pd_callKw0 (L2.FnOk.mono (ok_settled W) (by decide)) hr (by rfl) W.g_settled W.kp_settled W.kb_settled_0_relation (takes_of rfl rfl rfl rfl) (pkd_cons (pd_var 4 (pv 4)) pkd_nil))) (pk_var 6 (pv 6))))).pt (sd_one (sd_ret pd_bl)) sd_nil)
    (sd_cons (sd_set (pd_call (L2.FnOk.mono (ok_power W) (by decide)) hr (by rfl) W.g_power W.kp_power W.b_power (takes_of rfl rfl rfl rfl) (pl_cons (pd_var 4 (pv 4)) (pl_cons (pd_var 6 (pv 6)) pl_nil))) (fun he => ps_set (i := 7) sc_law.nd rfl (.inl rfl) he))
    (sd_cons (sd_if (pkt_ne hu (pk_of (pd_call (L2.FnOk.mono (ok_law_chain W) (by decide)) hr (by rfl) W.g_law_chain W.kp_law_chain W.b_law_chain (takes_of rfl rfl rfl rfl) (pl_cons (pd_var 7 (pv 7)) (pl_cons (pd_var 7 (pv 7)) pl_nil)))) (pk_var 7 (pv 7))) (sd_one (sd_ret pd_bl)) sd_nil)
    (sd_one (sd_for (passes_of rfl) (by rfl) (pi_rng2 (by rfl) W.m_range pd_int (pd_var 6 (pv 6))) (gd_name (pg_name (i := 8) sc_law.nd rfl (.inl rfl))) bndN_noex (sd_cons (sd_set (pd_call (L2.FnOk.mono (ok_power W) (by decide)) hr (by rfl) W.g_power W.kp_power W.b_power (takes_of rfl rfl rfl rfl) (pl_cons (pd_var 4 (pv 4)) (pl_cons (pd_var 8 (pv 8)) pl_nil))) (fun he => ps_set (i := 7) sc_law.nd rfl (.inl rfl) he))
    (sd_one (sd_if (pkt_eq hu (pk_of (pd_call (L2.FnOk.mono (ok_law_chain W) (by decide)) hr (by rfl) W.g_law_chain W.kp_law_chain W.b_law_chain (takes_of rfl rfl rfl rfl) (pl_cons (pd_var 7 (pv 7)) (pl_cons (pd_var 7 (pv 7)) pl_nil)))) (pk_var 7 (pv 7))) (sd_one (sd_ret pd_bl)) sd_nil)))))))))))))
    (sd_cons (sd_asg (gd_tup (by rfl) (gds_cons (pg_name (i := 9) sc_law.nd rfl (.inr rfl)) (gds_cons (pg_name (i := 10) sc_law.nd rfl (.inl rfl)) gds_nil))) (pd_tup (pl_cons (pd_new (pn_lst pl_nil)) (pl_cons (pd_new (pn_lst (pl_cons pd_int (pl_cons pd_int (pl_cons pd_int pl_nil))))) pl_nil))) bndT_noex)
    (sd_cons (sd_for (passes_of rfl) (by rfl) (pi_seq (pd_var 10 (pv 10))) (gd_name (pg_name (i := 11) sc_law.nd rfl (.inr rfl))) bndN_noex (sd_one (sd_set (pd_add (pd_var 9 (pv 9)) (pd_new (pn_lc (by rfl) sc_law.nd (pi_rng1 (by rfl) W.m_range (pd_var 11 (pv 11))) (blkOk_by (own := [("_law_at", 12)]) (N := N_law) (sc := defScope s_law) (by decide +kernel)) (by decide) bndN_noex (fun _ _ _ _ _ => (gd_name (pg_name (i := 12) sc_law.nd rfl (.inl rfl)))) (fun _ _ _ _ _ => pts_nilD) (fun _ _ _ _ _ => (pd_shl pd_int (pd_add (pd_b1 c1_len (call_len_seq.or call_len_str) boot_len (by rfl) W.m_len (pk_var 9 (pv 9))) (pd_mod (pd_t1 c1_int call_int1 PyProof.Rows.boot_int (by rfl) W.m_int (pk_of (pd_add (pd_var 12 (pv 12)) pd_int))) (pd_var 11 (pv 11))))))))) (fun he => ps_set (i := 9) sc_law.nd rfl (.inr rfl) he))))
    (sd_cons (sd_if (wd_or (pkt_ne hu (pk_of (pd_call (L2.FnOk.mono (ok_settled W) (by decide)) hr (by rfl) W.g_settled W.kp_settled W.b_settled (takes_of rfl rfl rfl rfl) (pl_cons (pd_t1 c1_tuple call_tuple_of PyProof.Rows.boot_tuple (by rfl) W.m_tuple (pk_var 9 (pv 9))) pl_nil))) (pk_of pd_int)) (wd_or1 (pkt_ne hu (pk_of (pd_call (L2.FnOk.mono (ok_settled W) (by decide)) hr (by rfl) W.g_settled W.kp_settled W.b_settled (takes_of rfl rfl rfl rfl) (pl_cons (pd_t1 c1_tuple call_tuple_of PyProof.Rows.boot_tuple (by rfl) W.m_tuple (pk_of (pk_slice (pk_var 9 (pv 9)) po_noneD (po_someD pd_int)))) pl_nil))) (pk_of pd_int)))).pt (sd_one (sd_ret pd_bl)) sd_nil)
    (sd_one (sd_ret (pk_eq hu (pk_of (pd_new (pn_lst (pl_cons (pd_call (L2.FnOk.mono (ok_settled W) (by decide)) hr (by rfl) W.g_settled W.kp_settled W.b_settled (takes_of rfl rfl rfl rfl) (pl_cons (pd_tup (pl_cons pd_int pl_nil)) pl_nil)) (pl_cons (pd_call (L2.FnOk.mono (ok_settled W) (by decide)) hr (by rfl) W.g_settled W.kp_settled W.b_settled (takes_of rfl rfl rfl rfl) (pl_cons (pd_tup (pl_cons pd_int (pl_cons pd_int pl_nil))) pl_nil)) (pl_cons (pd_call (L2.FnOk.mono (ok_settled W) (by decide)) hr (by rfl) W.g_settled W.kp_settled W.b_settled (takes_of rfl rfl rfl rfl) (pl_cons (pd_tup (pl_cons pd_int (pl_cons pd_int pl_nil))) pl_nil)) (pl_cons (pd_call (L2.FnOk.mono (ok_settled W) (by decide)) hr (by rfl) W.g_settled W.kp_settled W.b_settled (takes_of rfl rfl rfl rfl) (pl_cons (pd_tup (pl_cons pd_int (pl_cons pd_int (pl_cons pd_int pl_nil)))) pl_nil)) pl_nil))))))) (pk_of (pd_new (pn_lst (pl_cons pd_int (pl_cons pd_int (pl_cons pd_int (pl_cons pd_int pl_nil)))))))))))))), rfl⟩
  obtain ⟨t, z1, rfl⟩ := z
  exact z1
end
/-! the end -/
section
variable {P : Program} {w : World} {K : PySem.W.Frag} {mg : Str → Option Value} {base : Heap}
theorem ok_open (W : Facts K mg) : FnOk P w K mg base (L2.CX P w) 1 W.f_law_open W.fd_law_open ["_law_script"] (spOpen K) := by
  refine W.U_law_open.okX (k := 0) sc_law_open (fun vs H Q E h => ?_) (fun cdv A outer s H vs Q E hr h => ?_)
  · obtain ⟨a, ns, rfl, _⟩ := h
    rfl
  · obtain ⟨a, ns, rfl, hS, hl, q⟩ := h
    refine ⟨_, pss_cons (ps_setLc (i := 1) (by rfl) sc_law_open.nd rfl rfl (sw_true rfl rfl rfl (by decide +kernel)) (pi_list (pe_slice sl_list (pv 0) po_none (po_some pe_int))) (blkOk_by (own := [("_law_cell", 3)]) (N := N_law_open) (sc := defScope s_law_open) (by decide +kernel))
      (fun _ _ _ _ _ => pg_name (i := 3) sc_law_open.nd rfl (.inl rfl)) (fun _ _ _ _ _ => pts_nil) (fun _ _ _ _ _ => pe_callTy call_int1 (by rfl) W.m_int PyProof.Rows.boot_int (pa_cons (pv 3) pa_nil))) (dv_law_open W hr), ?_⟩
    refine ⟨.ref a, rfl, 63, rfl, a, ns.map V.int, rfl, hS, fun c nc => ?_⟩
    rw [cut63 hl]
    refine ⟨c, rfl, ⟨ns.map V.int, .inl (.inl upd_same)⟩, fun L hL => ?_⟩
    have ncL : c ≠ L := fun e => by
      rw [← e, upd_same] at hL
      cases hL
    refine lc_list (a := c) (xs := ns.map V.int) (fun i H' => H' L = some (.lst ((ns.take i).map V.int)) ∧ H' c = some (.lst (ns.map V.int))) ⟨upd_same, by rw [upd_ne ncL, upd_same]⟩ (fun i H' _ h => .inl (.inl h.2)) (fun i x H' hx h => ?_) (fun H' h => ?_)
    · rw [List.getElem?_map] at hx
      obtain ⟨m, hm, e⟩ := Option.map_eq_some_iff.mp hx
      subst e
      refine ⟨rfl, ?_⟩
      refine @iteT _ (H' L = some (.lst ((ns.take (i + 1)).map V.int)) ∧ H' c = some (.lst (ns.map V.int))) ?_
      refine ⟨_, rfl, .inl ⟨m, rfl, (ns.take i).map V.int, h.1, ?_, ?_, ?_⟩⟩
      · have hi := (List.getElem?_eq_some_iff.mp hm).1
        rw [List.length_map, List.length_take, sizeLine_eq]
        omega
      · rw [upd_same, List.take_add_one, hm, List.map_append]
        rfl
      · rw [upd_ne ncL]
        exact h.2
    · rw [List.length_map, List.take_length] at h
      exact open_end hl h.1 q _
end
theorem ok_law {P : Program} {w : World} {K : PySem.W.Frag} {mg : Str → Option Value} {base : Heap} (W : Facts K mg) (run : LawOk h_law_k04 11) : FnOk P w K mg base (L2.CX P w) 7 W.f_law W.fd_law ["_law_script"] (spLaw K) := by
  refine W.U_law.okX (k := 6) sc_law (fun vs H Q E h => ?_) (fun cdv A outer s H vs Q E hr h => ?_)
  · obtain ⟨a, ns, rfl, _⟩ := h
    rfl
  · obtain ⟨a, ns, rfl, hS, hl, q⟩ := h
    refine ⟨_, pss_cons (ps_set (i := 1) sc_law.nd rfl (.inl rfl) (pe_call ((ok_open W).mono (by decide)) hr (by rfl) W.g_law_open W.kp_law_open W.b_law_open .nil passL (pa_cons (pv 0) pa_nil))) (dv_law W hr), ?_⟩
    refine ⟨.ref a, rfl, a, ns, rfl, hS, hl, fun H1 p c sv hp hc => ?_⟩
    exact law_end (a := a) run hp hc q
theorem all_mk {l : PySem.W.OpenLaw} {w : World} {K : PySem.W.Frag} {h : Heap} {mg : Str → Option Value} {fa : Addr} (run : LawOk h_law_k04 11) (X : K.In h) (G : h.Ns mainGlobals mg) (hfa : mg "law" = some (.ref fa))
    {f_identity : Addr} {od_identity an_identity : Option Addr} {sl_identity : Array (Option Value)} {oc_identity kV_identity dc_identity pm_identity cd_identity ct_identity : Value} (a_identity : PySem.W.nsIn K mainGlobals "identity" = some (some (.ref f_identity))) (l_identity : K.lookup f_identity = some ⟨oc_identity, od_identity, .func (PySem.W.fnOf "identity" "identity" (defArgs s_identity) (defBody s_identity) (defScope s_identity) .none kV_identity dc_identity pm_identity an_identity cd_identity ct_identity), sl_identity⟩) (c_identity : PySem.W.codeIn K cd_identity "identity" = true) (k_identity : PySem.W.keepIn K (.ref f_identity) = true)
    {f_bits_of : Addr} {od_bits_of an_bits_of : Option Addr} {sl_bits_of : Array (Option Value)} {oc_bits_of kV_bits_of dc_bits_of pm_bits_of cd_bits_of ct_bits_of : Value} (a_bits_of : PySem.W.nsIn K mainGlobals "bits_of" = some (some (.ref f_bits_of))) (l_bits_of : K.lookup f_bits_of = some ⟨oc_bits_of, od_bits_of, .func (PySem.W.fnOf "bits_of" "bits_of" (defArgs s_bits_of) (defBody s_bits_of) (defScope s_bits_of) .none kV_bits_of dc_bits_of pm_bits_of an_bits_of cd_bits_of ct_bits_of), sl_bits_of⟩) (c_bits_of : PySem.W.codeIn K cd_bits_of "bits_of" = true) (k_bits_of : PySem.W.keepIn K (.ref f_bits_of) = true)
    {f_image : Addr} {od_image an_image : Option Addr} {sl_image : Array (Option Value)} {oc_image kV_image dc_image pm_image cd_image ct_image : Value} (a_image : PySem.W.nsIn K mainGlobals "image" = some (some (.ref f_image))) (l_image : K.lookup f_image = some ⟨oc_image, od_image, .func (PySem.W.fnOf "image" "image" (defArgs s_image) (defBody s_image) (defScope s_image) .none kV_image dc_image pm_image an_image cd_image ct_image), sl_image⟩) (c_image : PySem.W.codeIn K cd_image "image" = true) (k_image : PySem.W.keepIn K (.ref f_image) = true)
    {f_joined : Addr} {od_joined an_joined : Option Addr} {sl_joined : Array (Option Value)} {oc_joined kV_joined dc_joined pm_joined cd_joined ct_joined : Value} (a_joined : PySem.W.nsIn K mainGlobals "joined" = some (some (.ref f_joined))) (l_joined : K.lookup f_joined = some ⟨oc_joined, od_joined, .func (PySem.W.fnOf "joined" "joined" (defArgs s_joined) (defBody s_joined) (defScope s_joined) .none kV_joined dc_joined pm_joined an_joined cd_joined ct_joined), sl_joined⟩) (c_joined : PySem.W.codeIn K cd_joined "joined" = true) (k_joined : PySem.W.keepIn K (.ref f_joined) = true)
    {f_power : Addr} {od_power an_power : Option Addr} {sl_power : Array (Option Value)} {oc_power kV_power dc_power pm_power cd_power ct_power : Value} (a_power : PySem.W.nsIn K mainGlobals "power" = some (some (.ref f_power))) (l_power : K.lookup f_power = some ⟨oc_power, od_power, .func (PySem.W.fnOf "power" "power" (defArgs s_power) (defBody s_power) (defScope s_power) .none kV_power dc_power pm_power an_power cd_power ct_power), sl_power⟩) (c_power : PySem.W.codeIn K cd_power "power" = true) (k_power : PySem.W.keepIn K (.ref f_power) = true)
    {f_is_settled : Addr} {od_is_settled an_is_settled : Option Addr} {sl_is_settled : Array (Option Value)} {oc_is_settled kV_is_settled dc_is_settled pm_is_settled cd_is_settled ct_is_settled : Value} (a_is_settled : PySem.W.nsIn K mainGlobals "is_settled" = some (some (.ref f_is_settled))) (l_is_settled : K.lookup f_is_settled = some ⟨oc_is_settled, od_is_settled, .func (PySem.W.fnOf "is_settled" "is_settled" (defArgs s_is_settled) (defBody s_is_settled) (defScope s_is_settled) .none kV_is_settled dc_is_settled pm_is_settled an_is_settled cd_is_settled ct_is_settled), sl_is_settled⟩) (c_is_settled : PySem.W.codeIn K cd_is_settled "is_settled" = true) (k_is_settled : PySem.W.keepIn K (.ref f_is_settled) = true)
    {f_settled : Addr} {od_settled an_settled : Option Addr} {sl_settled : Array (Option Value)} {oc_settled kV_settled dc_settled pm_settled cd_settled ct_settled : Value} (a_settled : PySem.W.nsIn K mainGlobals "settled" = some (some (.ref f_settled))) (l_settled : K.lookup f_settled = some ⟨oc_settled, od_settled, .func (PySem.W.fnOf "settled" "settled" (defArgs s_settled) (defBody s_settled) (defScope s_settled) .none kV_settled dc_settled pm_settled an_settled cd_settled ct_settled), sl_settled⟩) (c_settled : PySem.W.codeIn K cd_settled "settled" = true) (k_settled : PySem.W.keepIn K (.ref f_settled) = true)
    {f_law_open : Addr} {od_law_open an_law_open : Option Addr} {sl_law_open : Array (Option Value)} {oc_law_open kV_law_open dc_law_open pm_law_open cd_law_open ct_law_open : Value} (a_law_open : PySem.W.nsIn K mainGlobals "_law_open" = some (some (.ref f_law_open))) (l_law_open : K.lookup f_law_open = some ⟨oc_law_open, od_law_open, .func (PySem.W.fnOf "_law_open" "_law_open" (defArgs s_law_open) (defBody s_law_open) (defScope s_law_open) .none kV_law_open dc_law_open pm_law_open an_law_open cd_law_open ct_law_open), sl_law_open⟩) (c_law_open : PySem.W.codeIn K cd_law_open "_law_open" = true) (k_law_open : PySem.W.keepIn K (.ref f_law_open) = true)
    {f_law_pull : Addr} {od_law_pull an_law_pull : Option Addr} {sl_law_pull : Array (Option Value)} {oc_law_pull kV_law_pull dc_law_pull pm_law_pull cd_law_pull ct_law_pull : Value} (a_law_pull : PySem.W.nsIn K mainGlobals "_law_pull" = some (some (.ref f_law_pull))) (l_law_pull : K.lookup f_law_pull = some ⟨oc_law_pull, od_law_pull, .func (PySem.W.fnOf "_law_pull" "_law_pull" (defArgs s_law_pull) (defBody s_law_pull) (defScope s_law_pull) .none kV_law_pull dc_law_pull pm_law_pull an_law_pull cd_law_pull ct_law_pull), sl_law_pull⟩) (c_law_pull : PySem.W.codeIn K cd_law_pull "_law_pull" = true) (k_law_pull : PySem.W.keepIn K (.ref f_law_pull) = true)
    {f_law_mixed : Addr} {od_law_mixed an_law_mixed : Option Addr} {sl_law_mixed : Array (Option Value)} {oc_law_mixed kV_law_mixed dc_law_mixed pm_law_mixed cd_law_mixed ct_law_mixed : Value} (a_law_mixed : PySem.W.nsIn K mainGlobals "_law_mixed" = some (some (.ref f_law_mixed))) (l_law_mixed : K.lookup f_law_mixed = some ⟨oc_law_mixed, od_law_mixed, .func (PySem.W.fnOf "_law_mixed" "_law_mixed" (defArgs s_law_mixed) (defBody s_law_mixed) (defScope s_law_mixed) .none kV_law_mixed dc_law_mixed pm_law_mixed an_law_mixed cd_law_mixed ct_law_mixed), sl_law_mixed⟩) (c_law_mixed : PySem.W.codeIn K cd_law_mixed "_law_mixed" = true) (k_law_mixed : PySem.W.keepIn K (.ref f_law_mixed) = true)
    {f_law_like : Addr} {od_law_like an_law_like : Option Addr} {sl_law_like : Array (Option Value)} {oc_law_like kV_law_like dc_law_like pm_law_like cd_law_like ct_law_like : Value} (a_law_like : PySem.W.nsIn K mainGlobals "_law_like" = some (some (.ref f_law_like))) (l_law_like : K.lookup f_law_like = some ⟨oc_law_like, od_law_like, .func (PySem.W.fnOf "_law_like" "_law_like" (defArgs s_law_like) (defBody s_law_like) (defScope s_law_like) .none kV_law_like dc_law_like pm_law_like an_law_like cd_law_like ct_law_like), sl_law_like⟩) (c_law_like : PySem.W.codeIn K cd_law_like "_law_like" = true) (k_law_like : PySem.W.keepIn K (.ref f_law_like) = true)
    {f_law_image : Addr} {od_law_image an_law_image : Option Addr} {sl_law_image : Array (Option Value)} {oc_law_image kV_law_image dc_law_image pm_law_image cd_law_image ct_law_image : Value} (a_law_image : PySem.W.nsIn K mainGlobals "_law_image" = some (some (.ref f_law_image))) (l_law_image : K.lookup f_law_image = some ⟨oc_law_image, od_law_image, .func (PySem.W.fnOf "_law_image" "_law_image" (defArgs s_law_image) (defBody s_law_image) (defScope s_law_image) .none kV_law_image dc_law_image pm_law_image an_law_image cd_law_image ct_law_image), sl_law_image⟩) (c_law_image : PySem.W.codeIn K cd_law_image "_law_image" = true) (k_law_image : PySem.W.keepIn K (.ref f_law_image) = true)
    {f_law_chain : Addr} {od_law_chain an_law_chain : Option Addr} {sl_law_chain : Array (Option Value)} {oc_law_chain kV_law_chain dc_law_chain pm_law_chain cd_law_chain ct_law_chain : Value} (a_law_chain : PySem.W.nsIn K mainGlobals "_law_chain" = some (some (.ref f_law_chain))) (l_law_chain : K.lookup f_law_chain = some ⟨oc_law_chain, od_law_chain, .func (PySem.W.fnOf "_law_chain" "_law_chain" (defArgs s_law_chain) (defBody s_law_chain) (defScope s_law_chain) .none kV_law_chain dc_law_chain pm_law_chain an_law_chain cd_law_chain ct_law_chain), sl_law_chain⟩) (c_law_chain : PySem.W.codeIn K cd_law_chain "_law_chain" = true) (k_law_chain : PySem.W.keepIn K (.ref f_law_chain) = true)
    {f_law_settled : Addr} {od_law_settled an_law_settled : Option Addr} {sl_law_settled : Array (Option Value)} {oc_law_settled kV_law_settled dc_law_settled pm_law_settled cd_law_settled ct_law_settled : Value} (a_law_settled : PySem.W.nsIn K mainGlobals "_law_settled" = some (some (.ref f_law_settled))) (l_law_settled : K.lookup f_law_settled = some ⟨oc_law_settled, od_law_settled, .func (PySem.W.fnOf "_law_settled" "_law_settled" (defArgs s_law_settled) (defBody s_law_settled) (defScope s_law_settled) .none kV_law_settled dc_law_settled pm_law_settled an_law_settled cd_law_settled ct_law_settled), sl_law_settled⟩) (c_law_settled : PySem.W.codeIn K cd_law_settled "_law_settled" = true) (k_law_settled : PySem.W.keepIn K (.ref f_law_settled) = true)
    {f_law_pairs : Addr} {od_law_pairs an_law_pairs : Option Addr} {sl_law_pairs : Array (Option Value)} {oc_law_pairs kV_law_pairs dc_law_pairs pm_law_pairs cd_law_pairs ct_law_pairs : Value} (a_law_pairs : PySem.W.nsIn K mainGlobals "_law_pairs" = some (some (.ref f_law_pairs))) (l_law_pairs : K.lookup f_law_pairs = some ⟨oc_law_pairs, od_law_pairs, .func (PySem.W.fnOf "_law_pairs" "_law_pairs" (defArgs s_law_pairs) (defBody s_law_pairs) (defScope s_law_pairs) .none kV_law_pairs dc_law_pairs pm_law_pairs an_law_pairs cd_law_pairs ct_law_pairs), sl_law_pairs⟩) (c_law_pairs : PySem.W.codeIn K cd_law_pairs "_law_pairs" = true) (k_law_pairs : PySem.W.keepIn K (.ref f_law_pairs) = true)
    {f_law_rel_of : Addr} {od_law_rel_of an_law_rel_of : Option Addr} {sl_law_rel_of : Array (Option Value)} {oc_law_rel_of kV_law_rel_of dc_law_rel_of pm_law_rel_of cd_law_rel_of ct_law_rel_of : Value} (a_law_rel_of : PySem.W.nsIn K mainGlobals "_law_rel_of" = some (some (.ref f_law_rel_of))) (l_law_rel_of : K.lookup f_law_rel_of = some ⟨oc_law_rel_of, od_law_rel_of, .func (PySem.W.fnOf "_law_rel_of" "_law_rel_of" (defArgs s_law_rel_of) (defBody s_law_rel_of) (defScope s_law_rel_of) .none kV_law_rel_of dc_law_rel_of pm_law_rel_of an_law_rel_of cd_law_rel_of ct_law_rel_of), sl_law_rel_of⟩) (c_law_rel_of : PySem.W.codeIn K cd_law_rel_of "_law_rel_of" = true) (k_law_rel_of : PySem.W.keepIn K (.ref f_law_rel_of) = true)
    {f_law : Addr} {od_law an_law : Option Addr} {sl_law : Array (Option Value)} {oc_law kV_law dc_law pm_law cd_law ct_law : Value} (a_law : PySem.W.nsIn K mainGlobals "law" = some (some (.ref f_law))) (l_law : K.lookup f_law = some ⟨oc_law, od_law, .func (PySem.W.fnOf "law" "law" (defArgs s_law) (defBody s_law) (defScope s_law) .none kV_law dc_law pm_law an_law cd_law ct_law), sl_law⟩) (c_law : PySem.W.codeIn K cd_law "law" = true) (k_law : PySem.W.keepIn K (.ref f_law) = true)
    (z_all : PySem.W.nsIn K mainGlobals "all" = some none)
    (z_bool : PySem.W.nsIn K mainGlobals "bool" = some none)
    (z_int : PySem.W.nsIn K mainGlobals "int" = some none)
    (z_isinstance : PySem.W.nsIn K mainGlobals "isinstance" = some none)
    (z_len : PySem.W.nsIn K mainGlobals "len" = some none)
    (z_list : PySem.W.nsIn K mainGlobals "list" = some none)
    (z_range : PySem.W.nsIn K mainGlobals "range" = some none)
    (z_tuple : PySem.W.nsIn K mainGlobals "tuple" = some none)
    : ∃ fd : FuncData, (∀ (s : Shared) (v : Value), BindsTo s fd ⟨[v], []⟩ [("_law_script", v)]) ∧ ∀ base : Heap, K.In base → base.Ns mainGlobals mg → FnOk l.prog w K mg base (L2.CX l.prog w) 7 fa fd ["_law_script"] (spLaw K) := by
  have e := hfa.symm.trans (PySem.W.mg_of X G a_law)
  cases e
  let W : Facts K mg := { f_identity := _, fd_identity := _, U_identity := fun_mk (st := s_identity) l_identity c_identity k_identity, g_identity := PySem.W.mg_of X G a_identity, f_bits_of := _, fd_bits_of := _, U_bits_of := fun_mk (st := s_bits_of) l_bits_of c_bits_of k_bits_of, g_bits_of := PySem.W.mg_of X G a_bits_of, f_image := _, fd_image := _, U_image := fun_mk (st := s_image) l_image c_image k_image, g_image := PySem.W.mg_of X G a_image, f_joined := _, fd_joined := _, U_joined := fun_mk (st := s_joined) l_joined c_joined k_joined, g_joined := PySem.W.mg_of X G a_joined, f_power := _, fd_power := _, U_power := fun_mk (st := s_power) l_power c_power k_power, g_power := PySem.W.mg_of X G a_power, f_is_settled := _, fd_is_settled := _, U_is_settled := fun_mk (st := s_is_settled) l_is_settled c_is_settled k_is_settled, g_is_settled := PySem.W.mg_of X G a_is_settled, f_settled := _, fd_settled := _, U_settled := fun_mk (st := s_settled) l_settled c_settled k_settled, g_settled := PySem.W.mg_of X G a_settled, f_law_open := _, fd_law_open := _, U_law_open := fun_mk (st := s_law_open) l_law_open c_law_open k_law_open, g_law_open := PySem.W.mg_of X G a_law_open, f_law_pull := _, fd_law_pull := _, U_law_pull := fun_mk (st := s_law_pull) l_law_pull c_law_pull k_law_pull, g_law_pull := PySem.W.mg_of X G a_law_pull, f_law_mixed := _, fd_law_mixed := _, U_law_mixed := fun_mk (st := s_law_mixed) l_law_mixed c_law_mixed k_law_mixed, g_law_mixed := PySem.W.mg_of X G a_law_mixed, f_law_like := _, fd_law_like := _, U_law_like := fun_mk (st := s_law_like) l_law_like c_law_like k_law_like, g_law_like := PySem.W.mg_of X G a_law_like, f_law_image := _, fd_law_image := _, U_law_image := fun_mk (st := s_law_image) l_law_image c_law_image k_law_image, g_law_image := PySem.W.mg_of X G a_law_image, f_law_chain := _, fd_law_chain := _, U_law_chain := fun_mk (st := s_law_chain) l_law_chain c_law_chain k_law_chain, g_law_chain := PySem.W.mg_of X G a_law_chain, f_law_settled := _, fd_law_settled := _, U_law_settled := fun_mk (st := s_law_settled) l_law_settled c_law_settled k_law_settled, g_law_settled := PySem.W.mg_of X G a_law_settled, f_law_pairs := _, fd_law_pairs := _, U_law_pairs := fun_mk (st := s_law_pairs) l_law_pairs c_law_pairs k_law_pairs, g_law_pairs := PySem.W.mg_of X G a_law_pairs, f_law_rel_of := _, fd_law_rel_of := _, U_law_rel_of := fun_mk (st := s_law_rel_of) l_law_rel_of c_law_rel_of k_law_rel_of, g_law_rel_of := PySem.W.mg_of X G a_law_rel_of, f_law := _, fd_law := _, U_law := fun_mk (st := s_law) l_law c_law k_law, g_law := PySem.W.mg_of X G a_law, m_all := PySem.W.mg_none_of X G z_all, m_bool := PySem.W.mg_none_of X G z_bool, m_int := PySem.W.mg_none_of X G z_int, m_isinstance := PySem.W.mg_none_of X G z_isinstance, m_len := PySem.W.mg_none_of X G z_len, m_list := PySem.W.mg_none_of X G z_list, m_range := PySem.W.mg_none_of X G z_range, m_tuple := PySem.W.mg_none_of X G z_tuple }
  exact ⟨W.fd_law, fun s v => .of_eq rfl, fun base _ _ => ok_law W run⟩

end Nc
open PySem PySem.W PyProof.Rows
set_option maxHeartbeats 0 in
theorem PySem.Challenge.cw_nearclerk_k04_exponents_that_settle_holds : PySem.Challenge.rw_nearclerk_k04_exponents_that_settle.Holds := by
  w_on; o_law; k_head; (case hw => w_witness2)
  k_fill
  refine L2.walk_of (l := PySem.Challenge.rw_nearclerk_k04_exponents_that_settle) (n := 63) (k := 7) (x := "_law_script") (CX := fun w => L2.CX PySem.Challenge.rw_nearclerk_k04_exponents_that_settle.prog w) (sp := fun w => Nc.spLaw _) rfl (by decide) rfl ⟨rfl, by decide, by decide⟩ (fun w h Y => PySem.W.kIn_of Y) ?F (fun _ _ a ns hl _ hS => ⟨a, ns, rfl, hS, hl, fun _ => rfl⟩) (fun _ _ _ _ _ h => by obtain ⟨_, _, _, _, _, _, _, _, _, _, _, _, z⟩ := h; exact z.elim)
  case F =>
    intro w mg fa h KX G hmg
    refine' Nc.all_mk Nc.law_run KX G hmg ?a_identity ?l_identity ?c_identity ?k_identity ?a_bits_of ?l_bits_of ?c_bits_of ?k_bits_of ?a_image ?l_image ?c_image ?k_image ?a_joined ?l_joined ?c_joined ?k_joined ?a_power ?l_power ?c_power ?k_power ?a_is_settled ?l_is_settled ?c_is_settled ?k_is_settled ?a_settled ?l_settled ?c_settled ?k_settled ?a_law_open ?l_law_open ?c_law_open ?k_law_open ?a_law_pull ?l_law_pull ?c_law_pull ?k_law_pull ?a_law_mixed ?l_law_mixed ?c_law_mixed ?k_law_mixed ?a_law_like ?l_law_like ?c_law_like ?k_law_like ?a_law_image ?l_law_image ?c_law_image ?k_law_image ?a_law_chain ?l_law_chain ?c_law_chain ?k_law_chain ?a_law_settled ?l_law_settled ?c_law_settled ?k_law_settled ?a_law_pairs ?l_law_pairs ?c_law_pairs ?k_law_pairs ?a_law_rel_of ?l_law_rel_of ?c_law_rel_of ?k_law_rel_of ?a_law ?l_law ?c_law ?k_law ?z_all ?z_bool ?z_int ?z_isinstance ?z_len ?z_list ?z_range ?z_tuple
    (case a_identity => k_is); (case l_identity => k_is); (case c_identity => k_is); (case k_identity => k_is); (case a_bits_of => k_is); (case l_bits_of => k_is); (case c_bits_of => k_is); (case k_bits_of => k_is); (case a_image => k_is); (case l_image => k_is); (case c_image => k_is); (case k_image => k_is); (case a_joined => k_is); (case l_joined => k_is); (case c_joined => k_is); (case k_joined => k_is); (case a_power => k_is); (case l_power => k_is); (case c_power => k_is); (case k_power => k_is); (case a_is_settled => k_is); (case l_is_settled => k_is); (case c_is_settled => k_is); (case k_is_settled => k_is); (case a_settled => k_is); (case l_settled => k_is); (case c_settled => k_is); (case k_settled => k_is); (case a_law_open => k_is); (case l_law_open => k_is); (case c_law_open => k_is); (case k_law_open => k_is); (case a_law_pull => k_is); (case l_law_pull => k_is); (case c_law_pull => k_is); (case k_law_pull => k_is); (case a_law_mixed => k_is); (case l_law_mixed => k_is); (case c_law_mixed => k_is); (case k_law_mixed => k_is); (case a_law_like => k_is); (case l_law_like => k_is); (case c_law_like => k_is); (case k_law_like => k_is); (case a_law_image => k_is); (case l_law_image => k_is); (case c_law_image => k_is); (case k_law_image => k_is); (case a_law_chain => k_is); (case l_law_chain => k_is); (case c_law_chain => k_is); (case k_law_chain => k_is); (case a_law_settled => k_is); (case l_law_settled => k_is); (case c_law_settled => k_is); (case k_law_settled => k_is); (case a_law_pairs => k_is); (case l_law_pairs => k_is); (case c_law_pairs => k_is); (case k_law_pairs => k_is); (case a_law_rel_of => k_is); (case l_law_rel_of => k_is); (case c_law_rel_of => k_is); (case k_law_rel_of => k_is); (case a_law => k_is); (case l_law => k_is); (case c_law => k_is); (case k_law => k_is); (case z_all => k_is); (case z_bool => k_is); (case z_int => k_is); (case z_isinstance => k_is); (case z_len => k_is); (case z_list => k_is); (case z_range => k_is); (case z_tuple => k_is)

